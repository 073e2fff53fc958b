import PyProof.Rows.All
import Wide.All
import OpenK.AllK
import Wide.FinOn
import HandS.ForMost
import HandS.Exc
import HandS.TryOnly
import HandS.ExcOwn
import HandS.WordsExc
import HandS.Deep
import HandS.IsInst
import HandS.RaiseMore
import HandS.TupAny
import HandS.ExcInit
import HandS.Nested
import KE.KExcSuper
import HandS.TryMany
import HandS.ExcIs
import HandS.ExcField
import HandS.HotCalls
import KE.KStateDown
import Lean
import HandS.Base
import HandS.Call
import HandS.Ends
import HandS.More
import HandS.Words
import HandS.Defaults
import HandS.Head0
import HandS.Head1
import HandS.Head2
import HandS.HeadEnd
import HandS.HeadHook1
import HandS.HeadHook2
import HandS.HeadNt
import HandS.Text
import KE.KIntText
import PySem.Challenge.RW_asknest_k76_state_texts
section
set_option Elab.async false
set_option linter.all false
set_option maxRecDepth 100000
set_option maxHeartbeats 2000000
set_option autoImplicit false
/-! Mi0: values without addresses, a store of mutable objects, how they stand in the abstract heap; results; the lifting of plain functions to readings. -/
namespace Mi
open PySem PySem.Spec L2

/-- a value: tuples are data, mutable things are numbered -/
inductive MV where
  | non | bl (b : Bool) | int (i : Int) | str (s : List Nat) | tup (xs : List MV)
  /-- a list that is only read -/
  | rol (xs : List MV)
  | loc (n : Nat)
inductive MO where
  | lst (xs : List MV)
  | ins (c : Nat) (fs : List (Str × MV))
abbrev Sto := List MO
abbrev Sl := List (Option MV)
/-- what is fixed: the written part, the addresses of own classes and of own exceptions -/
structure Zc where
  K : PySem.W.Frag
  cls : Nat → Addr
  xcls : Nat → Addr

/-- a text's codes as Python has them -/
def goodS (s : List Nat) : Prop := (∀ c ∈ s, c < 1114112) ∧ s.length ≤ 16777216
/-- a list that stands frozen, or in the written part -/
def SqF (K : PySem.W.Frag) (H : Hp) (a : Addr) (xs : List V) : Prop := (∃ o, H a = some (.frz o (.lst xs))) ∨
    ∃ (o : Obj) (its : Array Value) (n : Nat), K.lookup a = some o ∧ o.cls = .type "list" ∧ o.dict = none ∧ o.data = .seq its n ∧ its.size ≤ sizeLine ∧ Vals xs its.toList
theorem SqF.sq {K : PySem.W.Frag} {H : Hp} {a : Addr} {xs : List V} (h : SqF K H a xs) : SqL K H a xs := by
  rcases h with ⟨o, h⟩ | h
  · exact .inl (.inr ⟨o, h⟩)
  · exact .inr h

mutual
def RV (Z : Zc) (ρ : List Addr) (H : Hp) : MV → V → Prop
  | .non, v => v = .non
  | .bl b, v => v = .bl b
  | .int i, v => v = .int i
  | .str s, v => v = .str ⟨s.toArray⟩ ∧ goodS s
  | .tup xs, v => ∃ a vs, v = .ref a ∧ SqT Z.K H a vs ∧ RVs Z ρ H xs vs
  | .rol xs, v => ∃ a vs, v = .ref a ∧ SqF Z.K H a vs ∧ RVs Z ρ H xs vs
  | .loc n, v => ∃ a, v = .ref a ∧ ρ[n]? = some a
def RVs (Z : Zc) (ρ : List Addr) (H : Hp) : List MV → List V → Prop
  | [], vs => vs = []
  | x :: xs, vs => ∃ v r, vs = v :: r ∧ RV Z ρ H x v ∧ RVs Z ρ H xs r
end
/-- fields, by name and place -/
def RFs (Z : Zc) (ρ : List Addr) (H : Hp) : List (Str × MV) → List (Str × V) → Prop
  | [], vs => vs = []
  | (f, x) :: xs, vs => ∃ v r, vs = (f, v) :: r ∧ RV Z ρ H x v ∧ RFs Z ρ H xs r
def ROb (Z : Zc) (ρ : List Addr) (H : Hp) (a : Addr) : MO → Prop
  | .lst xs => ∃ vs, H a = some (.lst vs) ∧ RVs Z ρ H xs vs
  | .ins c fs => ∃ dx gs, H a = some (.ins (Z.cls c) dx gs) ∧ RFs Z ρ H fs gs
structure Rep (Z : Zc) (ρ : List Addr) (H : Hp) (st : Sto) : Prop where
  len : ρ.length = st.length
  nd : ρ.Nodup
  ob : ∀ (n : Nat) (a : Addr) (o : MO), ρ[n]? = some a → st[n]? = some o → ROb Z ρ H a o
def RSl (Z : Zc) (ρ : List Addr) (H : Hp) (σ : Sl) (σV : St) : Prop :=
  σ.length = σV.length ∧ ∀ (i : Nat) (x : MV), σ[i]? = some (some x) → ∃ v : V, σV[i]? = some (some v) ∧ RV Z ρ H x v
/-- what never goes: tuples, frozen things -/
structure Ext (ρ : List Addr) (H : Hp) (ρ' : List Addr) (H' : Hp) : Prop where
  pre : ∃ t, ρ' = ρ ++ t
  tup : ∀ a xs, H a = some (.tup xs) → H' a = some (.tup xs)
  frz : ∀ a o u, H a = some (.frz o u) → H' a = some (.frz o u)

section
variable {Z : Zc} {ρ ρ' ρ'' : List Addr} {H H' H'' : Hp}
theorem Ext.refl : Ext ρ H ρ H := ⟨⟨[], by simp⟩, fun _ _ h => h, fun _ _ _ h => h⟩
theorem Ext.trans (a : Ext ρ H ρ' H') (b : Ext ρ' H' ρ'' H'') : Ext ρ H ρ'' H'' := by
  obtain ⟨t, rfl⟩ := a.pre
  obtain ⟨u, rfl⟩ := b.pre
  exact ⟨⟨t ++ u, by simp⟩, fun c xs h => b.tup c xs (a.tup c xs h), fun c o u h => b.frz c o u (a.frz c o u h)⟩
theorem Ext.at (e : Ext ρ H ρ' H') {n : Nat} {a : Addr} (h : ρ[n]? = some a) : ρ'[n]? = some a := by
  obtain ⟨t, rfl⟩ := e.pre
  obtain ⟨hl, _⟩ := List.getElem?_eq_some_iff.mp h
  rw [List.getElem?_append_left hl]
  exact h
theorem Ext.sqT (e : Ext ρ H ρ' H') {K : PySem.W.Frag} {a : Addr} {xs : List V} (h : SqT K H a xs) : SqT K H' a xs := by
  rcases h with (h | ⟨o, h⟩) | h
  · exact .inl (.inl (e.tup _ _ h))
  · exact .inl (.inr ⟨o, e.frz _ _ _ h⟩)
  · exact .inr h
theorem Ext.sqF (e : Ext ρ H ρ' H') {K : PySem.W.Frag} {a : Addr} {xs : List V} (h : SqF K H a xs) : SqF K H' a xs := by
  rcases h with ⟨o, h⟩ | h
  · exact .inl ⟨o, e.frz _ _ _ h⟩
  · exact .inr h
mutual
theorem RV.mono (e : Ext ρ H ρ' H') : ∀ (x : MV) (v : V), RV Z ρ H x v → RV Z ρ' H' x v
  | .non, _, h => h
  | .bl _, _, h => h
  | .int _, _, h => h
  | .str _, _, h => h
  | .tup xs, _, h => by
    obtain ⟨a, vs, e1, h1, h2⟩ := h
    exact ⟨a, vs, e1, e.sqT h1, RVs.mono e xs vs h2⟩
  | .rol xs, _, h => by
    obtain ⟨a, vs, e1, h1, h2⟩ := h
    exact ⟨a, vs, e1, e.sqF h1, RVs.mono e xs vs h2⟩
  | .loc n, _, h => by
    obtain ⟨a, e1, h1⟩ := h
    exact ⟨a, e1, e.at h1⟩
theorem RVs.mono (e : Ext ρ H ρ' H') : ∀ (xs : List MV) (vs : List V), RVs Z ρ H xs vs → RVs Z ρ' H' xs vs
  | [], _, h => h
  | x :: xs, _, h => by
    obtain ⟨v, r, e1, h1, h2⟩ := h
    exact ⟨v, r, e1, RV.mono e x v h1, RVs.mono e xs r h2⟩
end
theorem RFs.mono (e : Ext ρ H ρ' H') : ∀ (xs : List (Str × MV)) (vs : List (Str × V)), RFs Z ρ H xs vs → RFs Z ρ' H' xs vs
  | [], _, h => h
  | (f, x) :: xs, _, h => by
    obtain ⟨v, r, e1, h1, h2⟩ := h
    exact ⟨v, r, e1, h1.mono e, RFs.mono e xs r h2⟩
theorem RSl.mono {σ : Sl} {σV : St} (e : Ext ρ H ρ' H') (h : RSl Z ρ H σ σV) : RSl Z ρ' H' σ σV :=
  ⟨h.1, fun i x q => by
    obtain ⟨v, e1, r⟩ := h.2 i x q
    exact ⟨v, e1, r.mono e⟩⟩

/-! ### lists of values -/
theorem RVs.length : ∀ {xs : List MV} {vs : List V}, RVs Z ρ H xs vs → xs.length = vs.length
  | [], _, h => by cases h; rfl
  | x :: xs, _, h => by
    obtain ⟨v, r, rfl, h1, h2⟩ := h
    simp [RVs.length h2]
theorem RVs.get : ∀ {xs : List MV} {vs : List V} {i : Nat} {x : MV}, RVs Z ρ H xs vs → xs[i]? = some x → ∃ v, vs[i]? = some v ∧ RV Z ρ H x v
  | [], _, _, _, _, e => by simp at e
  | x :: xs, _, 0, y, h, e => by
    obtain ⟨v, r, rfl, h1, h2⟩ := h
    simp at e; subst e
    exact ⟨v, rfl, h1⟩
  | x :: xs, _, i + 1, y, h, e => by
    obtain ⟨v, r, rfl, h1, h2⟩ := h
    obtain ⟨w, e1, e2⟩ := RVs.get (i := i) h2 (by simpa using e)
    exact ⟨w, by simpa using e1, e2⟩
theorem RVs.get' {xs : List MV} {vs : List V} {i : Nat} {v : V} (h : RVs Z ρ H xs vs) (e : vs[i]? = some v) : ∃ x, xs[i]? = some x ∧ RV Z ρ H x v := by
  have hl := h.length
  obtain ⟨hi, _⟩ := List.getElem?_eq_some_iff.mp e
  have hx : xs[i]? = some xs[i] := List.getElem?_eq_getElem (by omega)
  obtain ⟨w, e1, r⟩ := h.get hx
  rw [e] at e1; cases e1
  exact ⟨_, hx, r⟩
theorem RVs.append : ∀ {xs ys : List MV} {vs ws : List V}, RVs Z ρ H xs vs → RVs Z ρ H ys ws → RVs Z ρ H (xs ++ ys) (vs ++ ws)
  | [], _, _, _, h, k => by cases h; exact k
  | x :: xs, _, _, _, h, k => by
    obtain ⟨v, r, rfl, h1, h2⟩ := h
    exact ⟨v, _, rfl, h1, RVs.append h2 k⟩
theorem RVs.one {x : MV} {v : V} (h : RV Z ρ H x v) : RVs Z ρ H [x] [v] := ⟨v, [], rfl, h, rfl⟩
theorem RVs.take : ∀ (n : Nat) {xs : List MV} {vs : List V}, RVs Z ρ H xs vs → RVs Z ρ H (xs.take n) (vs.take n)
  | 0, _, _, _ => rfl
  | n + 1, [], _, h => by cases h; rfl
  | n + 1, x :: xs, _, h => by
    obtain ⟨v, r, rfl, h1, h2⟩ := h
    exact ⟨v, _, rfl, h1, RVs.take n h2⟩
theorem RVs.drop : ∀ (n : Nat) {xs : List MV} {vs : List V}, RVs Z ρ H xs vs → RVs Z ρ H (xs.drop n) (vs.drop n)
  | 0, _, _, h => h
  | n + 1, [], _, h => by cases h; rfl
  | n + 1, x :: xs, _, h => by
    obtain ⟨v, r, rfl, h1, h2⟩ := h
    exact RVs.drop n h2
theorem RVs.set : ∀ {xs : List MV} {vs : List V} (i : Nat) {x : MV} {v : V}, RVs Z ρ H xs vs → RV Z ρ H x v → RVs Z ρ H (xs.set i x) (vs.set i v)
  | [], _, _, _, _, h, _ => by cases h; rfl
  | y :: xs, _, 0, _, _, h, r => by
    obtain ⟨v, q, rfl, h1, h2⟩ := h
    exact ⟨_, _, rfl, r, h2⟩
  | y :: xs, _, i + 1, _, _, h, r => by
    obtain ⟨v, q, rfl, h1, h2⟩ := h
    exact ⟨_, _, rfl, h1, RVs.set i h2 r⟩
theorem RVs.dropLast {xs : List MV} {vs : List V} (h : RVs Z ρ H xs vs) : RVs Z ρ H xs.dropLast vs.dropLast := by
  rw [List.dropLast_eq_take, List.dropLast_eq_take, ← h.length]
  exact h.take _
theorem RVs.eraseIdx : ∀ {xs : List MV} {vs : List V} (i : Nat), RVs Z ρ H xs vs → RVs Z ρ H (xs.eraseIdx i) (vs.eraseIdx i)
  | [], _, _, h => by cases h; rfl
  | y :: xs, _, 0, h => by
    obtain ⟨v, q, rfl, h1, h2⟩ := h
    exact h2
  | y :: xs, _, i + 1, h => by
    obtain ⟨v, q, rfl, h1, h2⟩ := h
    exact ⟨_, _, rfl, h1, RVs.eraseIdx i h2⟩

/-! ### fields -/
def putM (f : Str) (v : MV) : List (Str × MV) → List (Str × MV)
  | [] => [(f, v)]
  | (g, x) :: r => if g = f then (g, v) :: r else (g, x) :: putM f v r
theorem RFs.length : ∀ {xs : List (Str × MV)} {vs : List (Str × V)}, RFs Z ρ H xs vs → xs.length = vs.length
  | [], _, h => by cases h; rfl
  | (f, x) :: xs, _, h => by
    obtain ⟨v, r, rfl, h1, h2⟩ := h
    simp [RFs.length h2]
theorem RFs.put {f : Str} {x : MV} {v : V} (r : RV Z ρ H x v) : ∀ {xs : List (Str × MV)} {vs : List (Str × V)}, RFs Z ρ H xs vs → RFs Z ρ H (putM f x xs) (putF f v vs)
  | [], _, h => by cases h; exact ⟨v, [], rfl, r, rfl⟩
  | (g, y) :: xs, _, h => by
    obtain ⟨w, q, rfl, h1, h2⟩ := h
    unfold putM putF
    by_cases e : g = f
    · rw [if_pos e, if_pos e]
      exact ⟨v, q, rfl, r, h2⟩
    · rw [if_neg e, if_neg e]
      exact ⟨w, _, rfl, h1, RFs.put r h2⟩
theorem RFs.look {f : Str} : ∀ {xs : List (Str × MV)} {vs : List (Str × V)} {x : MV}, RFs Z ρ H xs vs → xs.lookup f = some x → ∃ v, vs.lookup f = some v ∧ RV Z ρ H x v
  | [], _, _, h, e => by simp at e
  | (g, y) :: xs, _, x, h, e => by
    obtain ⟨w, q, rfl, h1, h2⟩ := h
    rw [List.lookup_cons] at e ⊢
    cases hb : f == g with
    | true =>
      rw [hb] at e
      cases e
      exact ⟨w, rfl, h1⟩
    | false =>
      rw [hb] at e
      exact RFs.look h2 e
theorem RFs.nolook {f : Str} : ∀ {xs : List (Str × MV)} {vs : List (Str × V)}, RFs Z ρ H xs vs → xs.lookup f = none → vs.lookup f = none
  | [], _, h, e => by cases h; rfl
  | (g, y) :: xs, _, h, e => by
    obtain ⟨w, q, rfl, h1, h2⟩ := h
    rw [List.lookup_cons] at e ⊢
    cases hb : f == g with
    | true =>
      rw [hb] at e
      cases e
    | false =>
      rw [hb] at e
      exact RFs.nolook h2 e

/-! ### the store -/
section
variable {st : Sto} {n : Nat} {o : MO} {a : Addr}
theorem Rep.addr (R : Rep Z ρ H st) (h : st[n]? = some o) : ∃ a, ρ[n]? = some a ∧ ROb Z ρ H a o := by
  obtain ⟨hn, _⟩ := List.getElem?_eq_some_iff.mp h
  have : ρ[n]? = some (ρ[n]'(by rw [R.len]; exact hn)) := List.getElem?_eq_getElem _
  exact ⟨_, this, R.ob n _ o this h⟩
theorem ROb.isome : ∀ {o : MO}, ROb Z ρ H a o → ∃ u, H a = some u
  | .lst xs, h => by
    obtain ⟨vs, e, _⟩ := h
    exact ⟨_, e⟩
  | .ins c fs, h => by
    obtain ⟨dx, gs, e, _⟩ := h
    exact ⟨_, e⟩
theorem Rep.there (R : Rep Z ρ H st) (h : a ∈ ρ) : ∃ u, H a = some u := by
  obtain ⟨n, hn, e⟩ := List.mem_iff_getElem.mp h
  have e1 : ρ[n]? = some a := by rw [List.getElem?_eq_getElem hn, e]
  have hs : st[n]? = some (st[n]'(by rw [← R.len]; exact hn)) := List.getElem?_eq_getElem _
  exact (R.ob n a _ e1 hs).isome
theorem Rep.notin (R : Rep Z ρ H st) (h : H a = none) : a ∉ ρ := fun hm => by
  obtain ⟨u, e⟩ := R.there hm
  rw [h] at e
  cases e
/-- an object seen from a grown heap: its own place is as it was -/
theorem ROb.mono (e : Ext ρ H ρ' H') : ∀ {o : MO}, ROb Z ρ H a o → (∀ u, H a = some u → H' a = some u) → ROb Z ρ' H' a o
  | .lst xs, h, k => by
    obtain ⟨vs, q, r⟩ := h
    exact ⟨vs, k _ q, r.mono e⟩
  | .ins c fs, h, k => by
    obtain ⟨dx, gs, q, r⟩ := h
    exact ⟨dx, gs, k _ q, r.mono e⟩
/-- new untracked-by-the-store things (tuples) -/
theorem Rep.grow (R : Rep Z ρ H st) (k : ∀ b u, H b = some u → H' b = some u) : Rep Z ρ H' st ∧ Ext ρ H ρ H' := by
  have e : Ext ρ H ρ H' := ⟨⟨[], by simp⟩, fun a xs h => k _ _ h, fun a o u h => k _ _ h⟩
  exact ⟨⟨R.len, R.nd, fun n a o h1 h2 => (R.ob n a o h1 h2).mono e (k a)⟩, e⟩
theorem upd_keep {p : Addr} {u : HO} (h : H p = none) : ∀ b w, H b = some w → upd H p u b = some w := fun b w q => by
  rw [upd_ne (ne_of_none q h)]
  exact q
/-- a new object at p -/
theorem Rep.new {p : Addr} {u : HO} (R : Rep Z ρ H st) (h : H' p = some u) (k : ∀ b u, H b = some u → H' b = some u) (hn : H p = none)
    (ho : Ext ρ H (ρ ++ [p]) H' → ROb Z (ρ ++ [p]) H' p o) : Rep Z (ρ ++ [p]) H' (st ++ [o]) ∧ Ext ρ H (ρ ++ [p]) H' := by
  have e : Ext ρ H (ρ ++ [p]) H' := ⟨⟨[p], rfl⟩, fun a xs h => k _ _ h, fun a o u h => k _ _ h⟩
  refine ⟨⟨by simp [R.len], ?_, fun n a o' h1 h2 => ?_⟩, e⟩
  · rw [List.nodup_append]
    refine ⟨R.nd, by simp, fun x hx y hy z => ?_⟩
    simp at hy
    subst hy; subst z
    exact R.notin hn hx
  · by_cases hl : n < ρ.length
    · rw [List.getElem?_append_left hl] at h1
      rw [List.getElem?_append_left (by rw [← R.len]; exact hl)] at h2
      exact (R.ob n a o' h1 h2).mono e (k a)
    · have hlt : n < (ρ ++ [p]).length := (List.getElem?_eq_some_iff.mp h1).1
      have : n = ρ.length := by simp at hlt; omega
      subst this
      rw [List.getElem?_append_right (Nat.le_refl _)] at h1
      rw [R.len, List.getElem?_append_right (Nat.le_refl _)] at h2
      simp at h1 h2
      subst h1; subst h2
      exact ho e
theorem ixA {N : List Addr} (hN : N.Nodup) {i j : Nat} {x : Addr} (a : N[i]? = some x) (b : N[j]? = some x) : i = j := by
  obtain ⟨h1, e1⟩ := List.getElem?_eq_some_iff.mp a
  obtain ⟨h2, e2⟩ := List.getElem?_eq_some_iff.mp b
  exact (List.getElem_inj hN).mp (e1.trans e2.symm)
/-- the object at n is written -/
theorem Rep.write {x : Addr} {u u' : HO} (R : Rep Z ρ H st) (hx : ρ[n]? = some x) (hu : H x = some u) (nt : ∀ xs, u ≠ .tup xs) (nf : ∀ o w, u ≠ .frz o w)
    (ho : Ext ρ H ρ (upd H x u') → ROb Z ρ (upd H x u') x o) : Rep Z ρ (upd H x u') (st.set n o) ∧ Ext ρ H ρ (upd H x u') := by
  have e : Ext ρ H ρ (upd H x u') := by
    refine ⟨⟨[], by simp⟩, fun a xs h => ?_, fun a o w h => ?_⟩
    · rw [upd_ne (ne_of h hu (Ne.symm (nt xs)))]
      exact h
    · rw [upd_ne (ne_of h hu (Ne.symm (nf o w)))]
      exact h
  refine ⟨⟨by simp [R.len], R.nd, fun m a o' h1 h2 => ?_⟩, e⟩
  by_cases hm : m = n
  · subst hm
    rw [hx] at h1
    cases h1
    have hlt : m < st.length := by
      have := (List.getElem?_eq_some_iff.mp h2).1
      simpa using this
    rw [List.getElem?_set_self hlt] at h2
    cases h2
    exact ho e
  · rw [List.getElem?_set_ne (Ne.symm hm)] at h2
    refine (R.ob m a o' h1 h2).mono e fun w hw => ?_
    have na : a ≠ x := fun z => hm (ixA R.nd h1 (by rw [z]; exact hx))
    rw [upd_ne na]
    exact hw
end
end

/-! ### results -/
inductive Res (α : Type) where
  | ok (a : α) (st : Sto)
  /-- an own exception: its class, its fields -/
  | exc (c : Nat) (fs : List (Str × MV)) (st : Sto)
  | fail
def M (α : Type) := Sto → Res α
def M.pure {α : Type} (a : α) : M α := fun st => .ok a st
def M.bind {α β : Type} (m : M α) (k : α → M β) : M β := fun st => match m st with
  | .ok a st' => k a st'
  | .exc c fs st' => .exc c fs st'
  | .fail => .fail
instance : Monad M where
  pure := M.pure
  bind := M.bind
def M.fail {α : Type} : M α := fun _ => .fail
def M.get : M Sto := fun st => .ok st st
def M.opt {α : Type} (o : Option α) : M α := fun st => match o with
  | some a => .ok a st
  | none => .fail
theorem bind_ok {α β : Type} {m : M α} {k : α → M β} {st st' : Sto} {a : α} (h : m st = .ok a st') : (m >>= k) st = k a st' := by
  show M.bind m k st = _
  unfold M.bind
  rw [h]
theorem pure_eq {α : Type} (a : α) (st : Sto) : (pure a : M α) st = .ok a st := rfl

/-- what is due of a result, W: of its exception -/
def Got (Z : Zc) (W : Value → Option Addr → Hp → Prop) (ρ : List Addr) (H : Hp) {α : Type} (r : Res α) (P : α → Sto → List Addr → Hp → Prop) : Prop := match r with
  | .ok a st' => ∀ ρ' H', Ext ρ H ρ' H' → Rep Z ρ' H' st' → P a st' ρ' H'
  | .exc c fs st' => ∀ ρ' H' d gs, Ext ρ H ρ' H' → Rep Z ρ' H' st' → H' d = some (.xd gs) → (∀ f x, fs.lookup f = some x → ∃ v, gs.lookup f = some v ∧ RV Z ρ' H' x v) → W (.ref (Z.xcls c)) (some d) H'
  | .fail => False
section
variable {Z : Zc} {W : Value → Option Addr → Hp → Prop} {ρ ρ' : List Addr} {H H' : Hp} {α β : Type} {r : Res α} {P P' : α → Sto → List Addr → Hp → Prop}
theorem Got.imp (h : Got Z W ρ H r P) (k : ∀ a st' ρ' H', Ext ρ H ρ' H' → Rep Z ρ' H' st' → P a st' ρ' H' → P' a st' ρ' H') : Got Z W ρ H r P' := by
  cases r with
  | ok a st' => exact fun ρ' H' e R => k a st' ρ' H' e R (h ρ' H' e R)
  | exc c fs st' => exact h
  | fail => exact h
theorem Got.ext (h : Got Z W ρ H r P) (e : Ext ρ H ρ' H') : Got Z W ρ' H' r P := by
  cases r with
  | ok a st' => exact fun ρ2 H2 e2 R => h ρ2 H2 (e.trans e2) R
  | exc c fs st' => exact fun ρ2 H2 d gs e2 R => h ρ2 H2 d gs (e.trans e2) R
  | fail => exact h
theorem Got.bind {m : M α} {k : α → M β} {st : Sto} {P : β → Sto → List Addr → Hp → Prop} (h : Got Z W ρ H ((m >>= k) st) P) :
    Got Z W ρ H (m st) fun a st' ρ' H' => Got Z W ρ' H' (k a st') P := by
  have h' : Got Z W ρ H (M.bind m k st) P := h
  unfold M.bind at h'
  revert h'
  cases m st with
  | ok a st' =>
    intro h ρ' H' e R
    exact Got.ext h e
  | exc c fs st' => exact fun h => h
  | fail => exact fun h => h
/-- .. with what is known there -/
theorem Got.seq {m : M α} {k : α → M β} {st : Sto} {P : β → Sto → List Addr → Hp → Prop} (h : Got Z W ρ H ((m >>= k) st) P)
    (q : ∀ a st' ρ' H', Ext ρ H ρ' H' → Rep Z ρ' H' st' → Got Z W ρ' H' (k a st') P → P' a st' ρ' H') : Got Z W ρ H (m st) P' := h.bind.imp q
theorem Got.ok {a : α} {st : Sto} (h : Got Z W ρ H (.ok a st) P) (R : Rep Z ρ H st) : P a st ρ H := h ρ H Ext.refl R
theorem Got.pure {a : α} {st : Sto} (h : Got Z W ρ H ((Pure.pure a : M α) st) P) (R : Rep Z ρ H st) : P a st ρ H := h ρ H Ext.refl R
theorem Got.opt {o : Option α} {st : Sto} (h : Got Z W ρ H (M.opt o st) P) (R : Rep Z ρ H st) : ∃ a, o = some a ∧ P a st ρ H := by
  cases o with
  | none => exact h.elim
  | some a => exact ⟨a, rfl, h ρ H Ext.refl R⟩
end

/-! ### liftings -/
abbrev Exp := Sl → M MV
abbrev Tst := Sl → M Bool
abbrev Arg := Sl → M (List MV)
inductive Fl where
  | nx (σ : Sl) | ret (v : MV) | bk (σ : Sl) | ct (σ : Sl) | exc (c : Nat) (fs : List (Str × MV)) (σ : Sl)
abbrev Stm := Sl → M Fl
/-- what is due of a value -/
abbrev PV (Z : Zc) (Q : VK) : MV → Sto → List Addr → Hp → Prop := fun x _ ρ' H' => ∀ v, RV Z ρ' H' x v → Q v H'
def liftE (Z : Zc) (W : WX) (f : Exp) : TE := fun σV H Q => ∃ ρ σ st, Rep Z ρ H st ∧ RSl Z ρ H σ σV ∧ Got Z (fun c d H' => W c d σV H') ρ H (f σ st) (PV Z Q)
def liftT (Z : Zc) (W : WX) (f : Tst) : TT := fun σV H Q => ∃ ρ σ st, Rep Z ρ H st ∧ RSl Z ρ H σ σV ∧ Got Z (fun c d H' => W c d σV H') ρ H (f σ st) fun b _ _ H' => Q b H'
def liftA (Z : Zc) (W : WX) (f : Arg) : TA := fun σV H Q => ∃ ρ σ st, Rep Z ρ H st ∧ RSl Z ρ H σ σV ∧ Got Z (fun c d H' => W c d σV H') ρ H (f σ st) fun xs _ ρ' H' => ∀ vs, RVs Z ρ' H' xs vs → Q vs H'
def FlOk (Z : Zc) (W : WX) (D : Ends) (ρ : List Addr) (H : Hp) : Fl → Prop
  | .nx σ => ∀ σV, RSl Z ρ H σ σV → D.nx σV H
  | .ret x => ∀ v, RV Z ρ H x v → D.rt v H
  | .bk σ => ∀ σV, RSl Z ρ H σ σV → D.bk σV H
  | .ct σ => ∀ σV, RSl Z ρ H σ σV → D.ct σV H
  | .exc c fs σ => ∀ σV d gs, RSl Z ρ H σ σV → H d = some (.xd gs) → (∀ f x, fs.lookup f = some x → ∃ v, gs.lookup f = some v ∧ RV Z ρ H x v) → W (.ref (Z.xcls c)) (some d) σV H
def liftS (Z : Zc) (W : WX) (f : Stm) : TS := fun D σV H => ∃ ρ σ st, Rep Z ρ H st ∧ RSl Z ρ H σ σV ∧ Got Z (fun _ _ _ => False) ρ H (f σ st) fun fl _ ρ' H' => FlOk Z W D ρ' H' fl
theorem _root_.L2.PE.weak {X : Cx} {e : Expr} {t t' : TE} (h : PE X e t) (k : ∀ σ H Q, t' σ H Q → t σ H Q) : PE X e t' := ⟨fun pins s σ H Q I q => h.run pins s σ H Q I (k σ H Q q)⟩
theorem _root_.L2.PT.weak {X : Cx} {e : Expr} {t t' : TT} (h : PT X e t) (k : ∀ σ H Q, t' σ H Q → t σ H Q) : PT X e t' := ⟨fun pins s σ H Q I q => h.run pins s σ H Q I (k σ H Q q)⟩
theorem _root_.L2.PW.weak {X : Cx} {e : Expr} {t t' : TT} (h : PW X e t) (k : ∀ σ H Q, t' σ H Q → t σ H Q) : PW X e t' := ⟨fun wh pins s σ H Q I q => h.run wh pins s σ H Q I (k σ H Q q)⟩
theorem _root_.L2.PA.weak {X : Cx} {es : List Expr} {t t' : TA} (h : PA X es t) (k : ∀ σ H Q, t' σ H Q → t σ H Q) : PA X es t' := ⟨fun pos pins s σ H Q I q => h.run pos pins s σ H Q I (k σ H Q q)⟩
theorem _root_.L2.PS.weak {X : Cx} {st : Stmt} {t t' : TS} (h : PS X st t) (k : ∀ D σ H, t' D σ H → t D σ H) : PS X st t' := ⟨fun pins s σ H D I q => h.run pins s σ H D I (k D σ H q)⟩
theorem _root_.L2.PSs.weak {X : Cx} {st : List Stmt} {t t' : TS} (h : PSs X st t) (k : ∀ D σ H, t' D σ H → t D σ H) : PSs X st t' := ⟨fun pins s σ H D I q => h.run pins s σ H D I (k D σ H q)⟩
end Mi
end
section
set_option Elab.async false
set_option linter.all false
set_option maxRecDepth 100000
set_option maxHeartbeats 2000000
set_option autoImplicit false
/-! Mi1: expressions. -/
namespace Mi
open PySem PySem.Spec L2

abbrev zc (X : Cx) (cl xl : Nat → Addr) : Zc := ⟨X.K, cl, xl⟩
section
variable {Z : Zc} {ρ ρ' : List Addr} {H H' : Hp} {st : Sto} {W : Value → Option Addr → Hp → Prop}
theorem sizeL : (sizeLine : Nat) = 16777216 := sizeLine_eq
/-- a fresh tuple -/
theorem got_tup {xs : List MV} {vs : List V} {Q : VK} {p : Addr} (h : Got Z W ρ H (Res.ok (MV.tup xs) st) (PV Z Q)) (R : Rep Z ρ H st) (r : RVs Z ρ H xs vs) (hn : H p = none) : Q (.ref p) (upd H p (.tup vs)) := by
  obtain ⟨R', e⟩ := R.grow (upd_keep (u := .tup vs) hn)
  exact h ρ _ e R' _ ⟨p, vs, rfl, .inl (.inl upd_same), r.mono e⟩
def alloc (o : MO) : M MV := fun st => .ok (.loc st.length) (st ++ [o])
theorem got_alloc {o : MO} {u : HO} {Q : VK} {p : Addr} (h : Got Z W ρ H (alloc o st) (PV Z Q)) (R : Rep Z ρ H st) (hn : H p = none) (ho : Ext ρ H (ρ ++ [p]) (upd H p u) → ROb Z (ρ ++ [p]) (upd H p u) p o) : Q (.ref p) (upd H p u) := by
  obtain ⟨R', e⟩ := R.new (u := u) upd_same (upd_keep hn) hn ho
  refine h _ _ e R' _ ⟨p, rfl, ?_⟩
  rw [← R.len, List.getElem?_append_right (Nat.le_refl _)]
  simp
theorem got_list {xs : List MV} {vs : List V} {Q : VK} {p : Addr} (h : Got Z W ρ H (alloc (.lst xs) st) (PV Z Q)) (R : Rep Z ρ H st) (r : RVs Z ρ H xs vs) (hn : H p = none) : Q (.ref p) (upd H p (.lst vs)) :=
  got_alloc h R hn fun e => ⟨vs, upd_same, r.mono e⟩
/-- a value that touches nothing -/
theorem got_val {x : MV} {v : V} {Q : VK} (h : Got Z W ρ H (Res.ok x st) (PV Z Q)) (R : Rep Z ρ H st) (r : RV Z ρ H x v) : Q v H := h ρ H Ext.refl R v r
/-- the list at n is written -/
theorem got_write {n : Nat} {xs : List MV} {vs ws : List V} {a : Addr} {α : Type} {b : α} {P : α → Sto → List Addr → Hp → Prop} (h : Got Z W ρ H (Res.ok b (st.set n (.lst xs))) P) (R : Rep Z ρ H st) (hx : ρ[n]? = some a) (hu : H a = some (.lst ws)) (r : RVs Z ρ H xs vs) :
    ∃ H', H' = upd H a (.lst vs) ∧ Ext ρ H ρ H' ∧ P b (st.set n (.lst xs)) ρ H' := by
  obtain ⟨R', e⟩ := R.write (o := .lst xs) (u' := .lst vs) hx hu (fun _ z => nomatch z) (fun _ _ z => nomatch z) fun e => ⟨vs, upd_same, r.mono e⟩
  exact ⟨_, rfl, e, h _ _ e R'⟩
end

section
variable {X : Cx} {cl xl : Nat → Addr} {W : WX} {a b c e : Expr} {pos p apos cpos : Pos} {f g fa fb : Exp}
/-! ### names, constants -/
def mVar (i : Nat) : Exp := fun σ => M.opt ((σ[i]?).bind id)
theorem m_var {i : Nat} (h : PE X e (tVar i)) : PE X e (liftE (zc X cl xl) W (mVar i)) := h.weak fun σV H Q ⟨ρ, σ, st, R, S, G⟩ => by
  obtain ⟨x, e1, P⟩ := G.opt R
  have e2 : σ[i]? = some (some x) := by
    cases q : σ[i]? with
    | none => rw [q] at e1; cases e1
    | some y => rw [q] at e1; exact congrArg some e1
  obtain ⟨v, e3, r⟩ := S.2 i x e2
  exact ⟨v, e3, P v r⟩
theorem mv (i : Nat) {x : Str} (hN : X.N[i]? = some x := by rfl) (hv : Vis X.env.scope x := by first | exact Or.inl rfl | exact Or.inr (Or.inl rfl) | exact Or.inr (Or.inr rfl)) (hd : (x == ("__debug__" : Str)) = false := by decide)
    (hcd : (x == ("__classdict__" : Str)) = false := by decide) : PE X (.Name x pos) (liftE (zc X cl xl) W (mVar i)) := m_var (pv i hN hv hd hcd)
def mC (x : MV) : Exp := fun _ => Pure.pure x
theorem m_const {x : MV} {v : V} (h : PE X e (tC v)) (hx : ∀ ρ H, RV (zc X cl xl) ρ H x v) : PE X e (liftE (zc X cl xl) W (mC x)) := h.weak fun σV H Q ⟨ρ, σ, st, R, S, G⟩ => G.pure R v (hx ρ H)
theorem m_int {i j} : PE X (.Constant (.int i) j pos) (liftE (zc X cl xl) W (mC (.int i))) := m_const pe_int fun _ _ => rfl
theorem m_bl {b j} : PE X (.Constant (.bool b) j pos) (liftE (zc X cl xl) W (mC (.bl b))) := m_const pe_bl fun _ _ => rfl
theorem m_non {j} : PE X (.Constant .none j pos) (liftE (zc X cl xl) W (mC .non)) := m_const pe_non fun _ _ => rfl
theorem m_str {x : Str} {j} (cs : List Nat) (hx : x = ⟨cs.toArray⟩) (hg : goodS cs) : PE X (.Constant (.str x) j pos) (liftE (zc X cl xl) W (mC (.str cs))) := m_const pe_str fun _ _ => by
  subst hx
  exact ⟨rfl, hg⟩
theorem m_glob {x : Str} {y : MV} {v : V} {u : Value} (hg : Gl X x) (hm : X.mg x = some u) (r : RelV v u) (hx : ∀ ρ H, RV (zc X cl xl) ρ H y v) (hd : (x == ("__debug__" : Str)) = false := by decide) : PE X (.Name x pos) (liftE (zc X cl xl) W (mC y)) := m_const (pe_glob hg hm r hd) hx

/-! ### operators -/
abbrev R2 := V → V → Hp → VK → Prop
def SimOp (Z : Zc) (r : R2) (g : MV → MV → M MV) : Prop := ∀ (W : Value → Option Addr → Hp → Prop) (ρ : List Addr) (H : Hp) (st : Sto) (x y : MV) (v u : V) (Q : VK), Rep Z ρ H st → RV Z ρ H x v → RV Z ρ H y u → Got Z W ρ H (g x y st) (PV Z Q) → r v u H Q
def mOp (g : MV → MV → M MV) (fa fb : Exp) : Exp := fun σ => fa σ >>= fun x => fb σ >>= fun y => g x y
theorem lift2 {Z : Zc} {W : WX} {α : Type} {k : MV → MV → M α} {P : α → Sto → List Addr → Hp → Prop} {σV : St} {H : Hp} {R : V → V → Hp → Prop} {ρ : List Addr} {σ : Sl} {st : Sto} (R0 : Rep Z ρ H st) (S : RSl Z ρ H σ σV)
    (G : Got Z (fun c d H' => W c d σV H') ρ H ((fa σ >>= fun x => fb σ >>= fun y => k x y) st) P)
    (h : ∀ ρ2 H2 st2 x y v u, Ext ρ H ρ2 H2 → Rep Z ρ2 H2 st2 → RV Z ρ2 H2 x v → RV Z ρ2 H2 y u → Got Z (fun c d H' => W c d σV H') ρ2 H2 (k x y st2) P → R v u H2) :
    liftE Z W fa σV H fun v H1 => liftE Z W fb σV H1 fun u H2 => R v u H2 :=
  ⟨ρ, σ, st, R0, S, G.seq fun x st1 ρ1 H1 e1 R1 G1 v rv => ⟨ρ1, σ, st1, R1, S.mono e1, G1.seq fun y st2 ρ2 H2 e2 R2 G2 u ru => h ρ2 H2 st2 x y v u (e1.trans e2) R2 (rv.mono e2) ru G2⟩⟩
theorem m_op {op : Operator} {r : R2} {g : MV → MV → M MV} (ho : OpR X (binaryOp op) r) (hs : SimOp (zc X cl xl) r g) (ha : PE X a (liftE (zc X cl xl) W fa)) (hb : PE X b (liftE (zc X cl xl) W fb)) : PE X (.BinOp a op b pos) (liftE (zc X cl xl) W (mOp g fa fb)) :=
  (pe_op ho ha hb).weak fun σV H Q ⟨ρ, σ, st, R, S, G⟩ => lift2 R S G fun ρ2 H2 st2 x y v u _ R2 rv ru G2 => hs _ ρ2 H2 st2 x y v u Q R2 rv ru G2
/-- a comparison -/
def SimCmp (Z : Zc) (r : R2) (g : Sto → MV → MV → Option Bool) : Prop := ∀ (ρ : List Addr) (H : Hp) (st : Sto) (x y : MV) (v u : V) (Q : VK) (k : Bool), Rep Z ρ H st → RV Z ρ H x v → RV Z ρ H y u → g st x y = some k → Q (.bl k) H → r v u H Q
def M.look {α : Type} (g : Sto → Option α) : M α := fun st => match g st with
  | some a => .ok a st
  | none => .fail
theorem Got.look {Z : Zc} {W : Value → Option Addr → Hp → Prop} {ρ : List Addr} {H : Hp} {α : Type} {g : Sto → Option α} {st : Sto} {P : α → Sto → List Addr → Hp → Prop} (h : Got Z W ρ H (M.look g st) P) (R : Rep Z ρ H st) : ∃ a, g st = some a ∧ P a st ρ H := by
  unfold M.look at h
  cases q : g st with
  | none => rw [q] at h; exact h.elim
  | some a => rw [q] at h; exact ⟨a, rfl, h ρ H Ext.refl R⟩
def mCmp (g : Sto → MV → MV → Option Bool) (fa fb : Exp) : Tst := fun σ => fa σ >>= fun x => fb σ >>= fun y => M.look fun st => g st x y
def mB (t : Tst) : Exp := fun σ => t σ >>= fun b => Pure.pure (.bl b)
theorem m_cmp {op : CmpOp} {r : R2} {g : Sto → MV → MV → Option Bool} (ho : OpR X (compareOp op) r) (hs : SimCmp (zc X cl xl) r g) (ha : PE X a (liftE (zc X cl xl) W fa)) (hb : PE X b (liftE (zc X cl xl) W fb)) (hm : behindInMarks op b = false) :
    PE X (.Compare a [op] [b] pos) (liftE (zc X cl xl) W (mB (mCmp g fa fb))) :=
  (pe_cmpR ho ha hb hm).weak fun σV H Q ⟨ρ, σ, st, R, S, G⟩ => lift2 (P := fun b st' ρ' H' => Got (zc X cl xl) (fun c d H' => W c d σV H') ρ' H' ((Pure.pure (.bl b) : M MV) st') (PV _ Q)) R S (by
      have G' := G.bind
      exact G') fun ρ2 H2 st2 x y v u _ R2 rv ru G2 => by
    obtain ⟨k, e1, q⟩ := G2.look R2
    exact hs ρ2 H2 st2 x y v u Q k R2 rv ru e1 (q.pure R2 _ rfl)
theorem t_cmp {op : CmpOp} {r : R2} {g : Sto → MV → MV → Option Bool} (ho : OpR X (compareOp op) r) (hs : SimCmp (zc X cl xl) r g) (ha : PE X a (liftE (zc X cl xl) W fa)) (hb : PE X b (liftE (zc X cl xl) W fb)) (hm : behindInMarks op b = false) :
    PT X (.Compare a [op] [b] pos) (liftT (zc X cl xl) W (mCmp g fa fb)) :=
  (pt_cmpR ho ha hb hm).weak fun σV H Q ⟨ρ, σ, st, R, S, G⟩ => lift2 R S G fun ρ2 H2 st2 x y v u _ R2 rv ru G2 => by
    obtain ⟨k, e1, q⟩ := G2.look R2
    exact hs ρ2 H2 st2 x y v u _ k R2 rv ru e1 ⟨k, rfl, q⟩
/-! ### truth, and, or, not, if -/
def asB : MV → Option Bool
  | .bl b => some b
  | _ => none
def mAsB (f : Exp) : Tst := fun σ => f σ >>= fun x => M.opt (asB x)
theorem t_val (h : PE X e (liftE (zc X cl xl) W f)) (he : ∀ whole, isTrue e X.env whole = (do let v ← whole; standAt e.pos; holding [v] (truthy v)) := by intro _; rfl) : PT X e (liftT (zc X cl xl) W (mAsB f)) :=
  (pt_val h he).weak fun σV H Q ⟨ρ, σ, st, R, S, G⟩ => ⟨ρ, σ, st, R, S, G.seq fun x st1 ρ1 H1 e1 R1 G1 v rv => by
    obtain ⟨k, e2, q⟩ := G1.opt R1
    cases x with
    | bl b =>
      cases e2
      exact ⟨k, rv, q⟩
    | _ => cases e2⟩
def tAnd2 (t u : Tst) : Tst := fun σ => t σ >>= fun c => if c = true then u σ else Pure.pure false
def tOr2 (t u : Tst) : Tst := fun σ => t σ >>= fun c => if c = true then Pure.pure true else u σ
def tNot1 (t : Tst) : Tst := fun σ => t σ >>= fun c => Pure.pure (!c)
variable {t u : Tst} {rest : List Expr}
theorem t_and1 (h : PT X a (liftT (zc X cl xl) W t)) : PW X (.BoolOp .And [a] pos) (liftT (zc X cl xl) W t) := pw_and1 h
theorem t_or1 (h : PT X a (liftT (zc X cl xl) W t)) : PW X (.BoolOp .Or [a] pos) (liftT (zc X cl xl) W t) := pw_or1 h
theorem t_and (ha : PT X a (liftT (zc X cl xl) W t)) (hb : PW X (.BoolOp .And (b :: rest) pos) (liftT (zc X cl xl) W u)) : PW X (.BoolOp .And (a :: b :: rest) pos) (liftT (zc X cl xl) W (tAnd2 t u)) :=
  (pw_and ha hb).weak fun σV H Q ⟨ρ, σ, st, R, S, G⟩ => ⟨ρ, σ, st, R, S, G.seq fun c st1 ρ1 H1 e1 R1 G1 => by
    cases c with
    | true => exact iteT ⟨ρ1, σ, st1, R1, S.mono e1, G1⟩
    | false => exact iteF (G1.pure R1)⟩
theorem t_or (ha : PT X a (liftT (zc X cl xl) W t)) (hb : PW X (.BoolOp .Or (b :: rest) pos) (liftT (zc X cl xl) W u)) : PW X (.BoolOp .Or (a :: b :: rest) pos) (liftT (zc X cl xl) W (tOr2 t u)) :=
  (pw_or ha hb).weak fun σV H Q ⟨ρ, σ, st, R, S, G⟩ => ⟨ρ, σ, st, R, S, G.seq fun c st1 ρ1 H1 e1 R1 G1 => by
    cases c with
    | true => exact iteT (G1.pure R1)
    | false => exact iteF ⟨ρ1, σ, st1, R1, S.mono e1, G1⟩⟩
theorem t_not (ha : PT X a (liftT (zc X cl xl) W t)) : PT X (.UnaryOp .Not a pos) (liftT (zc X cl xl) W (tNot1 t)) :=
  (pt_not ha).weak fun σV H Q ⟨ρ, σ, st, R, S, G⟩ => ⟨ρ, σ, st, R, S, G.seq fun c st1 ρ1 H1 e1 R1 G1 => G1.pure R1⟩
/-- as values -/
theorem m_and1 {op} (h : PE X a (liftE (zc X cl xl) W f)) : PE X (.BoolOp op [a] pos) (liftE (zc X cl xl) W f) := pe_one h
def mAndV (t : Tst) (g : Exp) : Exp := fun σ => t σ >>= fun c => if c = true then g σ else Pure.pure (.bl false)
def mOrV (t : Tst) (g : Exp) : Exp := fun σ => t σ >>= fun c => if c = true then Pure.pure (.bl true) else g σ
theorem Got.mB {Z : Zc} {W : Value → Option Addr → Hp → Prop} {ρ : List Addr} {H : Hp} {st : Sto} {σ : Sl} {P : Bool → Sto → List Addr → Hp → Prop} {P' : MV → Sto → List Addr → Hp → Prop} (h : Got Z W ρ H (t σ st) P)
    (k : ∀ b st' ρ' H', Ext ρ H ρ' H' → Rep Z ρ' H' st' → P b st' ρ' H' → ∀ ρ2 H2, Ext ρ' H' ρ2 H2 → Rep Z ρ2 H2 st' → P' (.bl b) st' ρ2 H2) : Got Z W ρ H (Mi.mB t σ st) P' := by
  show Got Z W ρ H (M.bind (t σ) (fun b => Pure.pure (.bl b)) st) P'
  unfold M.bind
  revert h
  cases t σ st with
  | ok b st' => exact fun h ρ' H' e R => k b st' ρ' H' e R (h ρ' H' e R) ρ' H' Ext.refl R
  | exc c fs st' => exact fun h => h
  | fail => exact fun h => h
theorem m_and (ha : PE X a (liftE (zc X cl xl) W (mB t))) (hb : PE X (.BoolOp .And (b :: rest) pos) (liftE (zc X cl xl) W g)) : PE X (.BoolOp .And (a :: b :: rest) pos) (liftE (zc X cl xl) W (mAndV t g)) :=
  (pe_and ha hb).weak fun σV H Q ⟨ρ, σ, st, R, S, G⟩ => ⟨ρ, σ, st, R, S, G.bind.mB fun c st1 ρ1 H1 e1 R1 G1 ρ2 H2 e2 R2 v rv => by
    cases c with
    | true => exact ⟨true, rv, iteT ⟨ρ2, σ, st1, R2, (S.mono e1).mono e2, Got.ext G1 e2⟩⟩
    | false => exact ⟨false, rv, iteF (Got.pure (Got.ext G1 e2) R2 _ rfl)⟩⟩
theorem m_or (ha : PE X a (liftE (zc X cl xl) W (mB t))) (hb : PE X (.BoolOp .Or (b :: rest) pos) (liftE (zc X cl xl) W g)) : PE X (.BoolOp .Or (a :: b :: rest) pos) (liftE (zc X cl xl) W (mOrV t g)) :=
  (pe_or ha hb).weak fun σV H Q ⟨ρ, σ, st, R, S, G⟩ => ⟨ρ, σ, st, R, S, G.bind.mB fun c st1 ρ1 H1 e1 R1 G1 ρ2 H2 e2 R2 v rv => by
    cases c with
    | true => exact ⟨true, rv, iteT (Got.pure (Got.ext G1 e2) R2 _ rfl)⟩
    | false => exact ⟨false, rv, iteF ⟨ρ2, σ, st1, R2, (S.mono e1).mono e2, Got.ext G1 e2⟩⟩⟩
/-- a value that is a truth value, seen as made by a test -/
theorem m_asB (h : PE X e (liftE (zc X cl xl) W f)) : PE X e (liftE (zc X cl xl) W (mB (mAsB f))) := h.weak fun σV H Q ⟨ρ, σ, st, R, S, G⟩ => ⟨ρ, σ, st, R, S, by
  have G2 := G.bind.bind
  refine G2.imp fun x st1 ρ1 H1 e1 R1 G1 v rv => ?_
  obtain ⟨k, e2, q⟩ := G1.opt R1
  cases x with
  | bl b =>
    cases e2
    exact q.pure R1 v rv
  | _ => cases e2⟩
theorem m_not (ha : PE X a (liftE (zc X cl xl) W (mB t))) : PE X (.UnaryOp .Not a pos) (liftE (zc X cl xl) W (mB (tNot1 t))) :=
  (pe_not ha).weak fun σV H Q ⟨ρ, σ, st, R, S, G⟩ => ⟨ρ, σ, st, R, S, by
    have G2 := G.bind.bind
    refine G2.mB fun c st1 ρ1 H1 e1 R1 G1 ρ2 H2 e2 R2 v rv => ⟨c, rv, ?_⟩
    exact Got.pure (Got.ext (Got.pure G1 R1) e2) R2 _ rfl⟩
def mIf (t : Tst) (f g : Exp) : Exp := fun σ => t σ >>= fun c => if c = true then f σ else g σ
theorem m_ifExp (hc : PT X c (liftT (zc X cl xl) W t)) (ha : PE X a (liftE (zc X cl xl) W fa)) (hb : PE X b (liftE (zc X cl xl) W fb)) : PE X (.IfExp c a b pos) (liftE (zc X cl xl) W (mIf t fa fb)) :=
  (pe_ifExp hc ha hb).weak fun σV H Q ⟨ρ, σ, st, R, S, G⟩ => ⟨ρ, σ, st, R, S, G.seq fun c st1 ρ1 H1 e1 R1 G1 => by
    cases c with
    | true => exact iteT ⟨ρ1, σ, st1, R1, S.mono e1, G1⟩
    | false => exact iteF ⟨ρ1, σ, st1, R1, S.mono e1, G1⟩⟩

/-! ### arguments, displays -/
def mArgs : List Exp → Arg
  | [] => fun _ => Pure.pure []
  | f :: fs => fun σ => f σ >>= fun x => mArgs fs σ >>= fun xs => Pure.pure (x :: xs)
variable {es : List Expr} {fs : List Exp}
theorem a_nil : PA X [] (liftA (zc X cl xl) W (mArgs [])) := pa_nil.weak fun σV H Q ⟨ρ, σ, st, R, S, G⟩ => G.pure R _ rfl
theorem a_cons (ha : PE X e (liftE (zc X cl xl) W f)) (hr : PA X es (liftA (zc X cl xl) W (mArgs fs))) (hs : starEach (e :: es) X.env = (false, eval e X.env) :: starEach es X.env := by rfl) : PA X (e :: es) (liftA (zc X cl xl) W (mArgs (f :: fs))) :=
  (pa_cons ha hr hs).weak fun σV H Q ⟨ρ, σ, st, R, S, G⟩ => ⟨ρ, σ, st, R, S, G.seq fun x st1 ρ1 H1 e1 R1 G1 v rv => ⟨ρ1, σ, st1, R1, S.mono e1, G1.seq fun xs st2 ρ2 H2 e2 R2 G2 vs rvs =>
    G2.pure R2 _ ⟨v, vs, rfl, rv.mono e2, rvs⟩⟩⟩
theorem mArgs_len : ∀ (fs : List Exp) {σ : Sl} {st st' : Sto} {xs : List MV}, mArgs fs σ st = .ok xs st' → xs.length = fs.length
  | [], σ, st, st', xs, h => by cases h; rfl
  | f :: fs, σ, st, st', xs, h => by
    have h' : M.bind (f σ) (fun x => M.bind (mArgs fs σ) fun xs => M.pure (x :: xs)) st = .ok xs st' := h
    unfold M.bind at h'
    revert h'
    cases f σ st with
    | ok x st1 =>
      show M.bind (mArgs fs σ) (fun xs => M.pure (x :: xs)) st1 = .ok xs st' → _
      unfold M.bind
      cases q : mArgs fs σ st1 with
      | ok ys st2 =>
        intro h
        cases h
        simp [mArgs_len fs q]
      | exc c fs st' => exact fun h => nomatch h
      | fail => exact fun h => nomatch h
    | exc c fs st' => exact fun h => nomatch h
    | fail => exact fun h => nomatch h
theorem Got.args {Z : Zc} {W : Value → Option Addr → Hp → Prop} {ρ : List Addr} {H : Hp} {α : Type} {σ : Sl} {st : Sto} {k : List MV → M α} {P : α → Sto → List Addr → Hp → Prop} {P' : List MV → Sto → List Addr → Hp → Prop} (h : Got Z W ρ H ((mArgs fs σ >>= k) st) P)
    (q : ∀ a st' ρ' H', Ext ρ H ρ' H' → Rep Z ρ' H' st' → a.length = fs.length → Got Z W ρ' H' (k a st') P → P' a st' ρ' H') : Got Z W ρ H (mArgs fs σ st) P' := by
  have h1 := h.bind
  revert h1
  cases e : mArgs fs σ st with
  | ok a st' => exact fun h1 ρ' H' ex R => q a st' ρ' H' ex R (mArgs_len fs e) (h1 ρ' H' ex R)
  | exc c fs st' => exact fun h => h
  | fail => exact fun h => h
def mTup (fs : List Exp) : Exp := fun σ => mArgs fs σ >>= fun xs => Pure.pure (.tup xs)
def mLst (fs : List Exp) : Exp := fun σ => mArgs fs σ >>= fun xs => alloc (.lst xs)
theorem m_tup {x1} (h : PA X es (liftA (zc X cl xl) W (mArgs fs))) (hl : fs.length ≤ 1000 := by decide) : PE X (.Tuple es x1 pos) (liftE (zc X cl xl) W (mTup fs)) :=
  (pe_tup h).weak fun σV H Q ⟨ρ, σ, st, R, S, G⟩ => ⟨ρ, σ, st, R, S, G.args fun xs st1 ρ1 H1 e1 R1 l1 G1 vs rvs => ⟨by rw [← rvs.length, l1, sizeL]; omega, fun p hp => got_tup G1 R1 rvs hp⟩⟩
theorem m_lst (h : PA X es (liftA (zc X cl xl) W (mArgs fs))) (hl : fs.length ≤ 1000 := by decide) : PE X (.List es pos) (liftE (zc X cl xl) W (mLst fs)) :=
  (pe_lst h).weak fun σV H Q ⟨ρ, σ, st, R, S, G⟩ => ⟨ρ, σ, st, R, S, G.args fun xs st1 ρ1 H1 e1 R1 l1 G1 vs rvs => ⟨by rw [← rvs.length, l1, sizeL]; omega, fun p hp => got_list G1 R1 rvs hp⟩⟩

/-! ### calls of built-ins -/
def SimCall (Z : Zc) (r : List V → Hp → VK → Prop) (g : List MV → M MV) : Prop := ∀ (W : Value → Option Addr → Hp → Prop) (ρ : List Addr) (H : Hp) (st : Sto) (xs : List MV) (vs : List V) (Q : VK), Rep Z ρ H st → RVs Z ρ H xs vs → Got Z W ρ H (g xs st) (PV Z Q) → r vs H Q
def mCallG (g : List MV → M MV) (fs : List Exp) : Exp := fun σ => mArgs fs σ >>= g
theorem liftCall {Z : Zc} {r : List V → Hp → VK → Prop} {g : List MV → M MV} (hs : SimCall Z r g) : ∀ σV H Q, liftE Z W (mCallG g fs) σV H Q → tCB r (liftA Z W (mArgs fs)) σV H Q :=
  fun σV H Q ⟨ρ, σ, st, R, S, G⟩ => ⟨ρ, σ, st, R, S, G.seq fun xs st1 ρ1 H1 e1 R1 G1 vs rvs => hs _ ρ1 H1 st1 xs vs Q R1 rvs G1⟩
theorem m_callB {id : String} {x : Str} {r : List V → Hp → VK → Prop} {g : List MV → M MV} (hs : SimCall (zc X cl xl) r g) (hc : CallR X (.builtin id) r) (hg : Gl X x) (hm : X.mg x = none) (hv : bootBuiltins x = some (.builtin id)) (ha : PA X (e :: es) (liftA (zc X cl xl) W (mArgs fs)))
    (hn : x ≠ "__name__" := by decide) (hdb : (x == ("__debug__" : Str)) = false := by decide) (he : starEach (e :: es) X.env = (false, eval e X.env) :: starEach es X.env := by rfl) (hpl : (backTo pos (starEach es X.env)).any (·.1) = false := by rfl) :
    PE X (.Call (.Name x p) (e :: es) [] pos) (liftE (zc X cl xl) W (mCallG g fs)) := (pe_callB hc hg hm hv ha hn hdb he hpl).weak (liftCall hs)
theorem m_callTy {T : String} {x : Str} {r : List V → Hp → VK → Prop} {g : List MV → M MV} (hs : SimCall (zc X cl xl) r g) (hc : CallR X (.type T) r) (hg : Gl X x) (hm : X.mg x = none) (hv : bootBuiltins x = some (.type T)) (ha : PA X (e :: es) (liftA (zc X cl xl) W (mArgs fs)))
    (hn : x ≠ "__name__" := by decide) (hdb : (x == ("__debug__" : Str)) = false := by decide) (he : starEach (e :: es) X.env = (false, eval e X.env) :: starEach es X.env := by rfl) (hpl : (backTo pos (starEach es X.env)).any (·.1) = false := by rfl) :
    PE X (.Call (.Name x p) (e :: es) [] pos) (liftE (zc X cl xl) W (mCallG g fs)) := (pe_callTy hc hg hm hv ha hn hdb he hpl).weak (liftCall hs)

/-! ### calls of own defs -/
/-- a def's promise from its denotation -/
def spOf (Z : Zc) (D : List MV → M MV) (n : Nat) : Sp := fun vs H Q E => ∃ ρ st xs, Rep Z ρ H st ∧ RVs Z ρ H xs vs ∧ xs.length = n ∧ Got Z E ρ H (D xs st) (PV Z Q)
def mCall (D : List MV → M MV) (fs : List Exp) : Exp := fun σ => mArgs fs σ >>= D
theorem m_call {x : Str} {k : Nat} {f : Addr} {fd : FuncData} {ps : List Str} {D : List MV → M MV} (F : FnOk X.prog X.w X.K X.mg X.base (L2.CX X.prog X.w) k f fd ps (spOf (zc X cl xl) D fs.length)) (tk : Takes X W) (hr : Room k X.A) (hg : Gl X x) (hm : X.mg x = some (.ref f))
    (hk : PySem.W.keepIn X.K (.ref f) = true) (hb : Binds X.K fd ps []) (ha : PA X (e :: es) (liftA (zc X cl xl) W (mArgs fs)))
    (hdb : (x == ("__debug__" : Str)) = false := by decide) (he : starEach (e :: es) X.env = (false, eval e X.env) :: starEach es X.env := by rfl) (hpl : (backTo pos (starEach es X.env)).any (·.1) = false := by rfl) :
    PE X (.Call (.Name x p) (e :: es) [] pos) (liftE (zc X cl xl) W (mCall D fs)) :=
  (pe_callS F hr hg hm hk hb (fun σ => passAt tk σ) ha hdb he hpl).weak fun σV H Q ⟨ρ, σ, st, R, S, G⟩ => ⟨ρ, σ, st, R, S, G.args fun xs st1 ρ1 H1 e1 R1 l1 G1 vs rvs => ⟨ρ1, st1, xs, R1, rvs, l1, G1⟩⟩
theorem m_call0 {x : Str} {k : Nat} {f : Addr} {fd : FuncData} {ps : List Str} {D : List MV → M MV} (F : FnOk X.prog X.w X.K X.mg X.base (L2.CX X.prog X.w) k f fd ps (spOf (zc X cl xl) D 0)) (tk : Takes X W) (hW : ∀ c d σ σ' H, W c d σ H → W c d σ' H) (hr : Room k X.A) (hg : Gl X x) (hm : X.mg x = some (.ref f))
    (hk : PySem.W.keepIn X.K (.ref f) = true) (hb : Binds X.K fd ps []) (hdb : (x == ("__debug__" : Str)) = false := by decide) :
    PE X (.Call (.Name x p) [] [] pos) (liftE (zc X cl xl) W (mCall D [])) :=
  (pe_call0 (E := fun c d H => W c d [] H) F hr hg hm hk hb .nil (passes_call tk fun c d σ H h => hW c d [] σ H h) hdb).weak fun σV H Q ⟨ρ, σ, st, R, S, G⟩ => by
    refine ⟨ρ, st, [], R, rfl, rfl, ?_⟩
    have G1 : Got (zc X cl xl) (fun c d H' => W c d σV H') ρ H (D [] st) (PV (zc X cl xl) Q) := G
    revert G1
    cases D [] st with
    | ok a st' => exact fun h => h
    | exc c fs st' => exact fun h ρ' H' d gs e R hd hl => hW _ _ _ _ _ (h ρ' H' d gs e R hd hl)
    | fail => exact fun h => h
end
end Mi
end
section
set_option Elab.async false
set_option linter.all false
set_option maxRecDepth 100000
set_option maxHeartbeats 2000000
set_option autoImplicit false
/-! Mi2: statements, bodies. -/
namespace Mi
open PySem PySem.Spec L2

/-- an expression's exception becomes the statement's, with the slots as they are -/
def catchX {α : Type} (m : M α) (σ : Sl) (k : α → M Fl) : M Fl := fun st => match m st with
  | .ok a st' => k a st'
  | .exc c fs st' => .ok (.exc c fs σ) st'
  | .fail => .fail
/-- what a statement hands on -/
def Fl.thn (fl : Fl) (k : Sl → M Fl) : M Fl := match fl with
  | .nx σ => k σ
  | fl => Pure.pure fl
section
variable {Z : Zc} {W : WX} {ρ ρ' : List Addr} {H H' : Hp} {σ : Sl} {σV : St} {st : Sto} {D : Ends}
abbrev W0 : Value → Option Addr → Hp → Prop := fun _ _ _ => False
abbrev PF (Z : Zc) (W : WX) (D : Ends) : Fl → Sto → List Addr → Hp → Prop := fun fl _ ρ' H' => FlOk Z W D ρ' H' fl
theorem Got.catch {α : Type} {m : M α} {k : α → M Fl} {P : α → Sto → List Addr → Hp → Prop} (h : Got Z W0 ρ H (catchX m σ k st) (PF Z W D)) (S : RSl Z ρ H σ σV)
    (q : ∀ a st' ρ' H', Ext ρ H ρ' H' → Rep Z ρ' H' st' → Got Z W0 ρ' H' (k a st') (PF Z W D) → P a st' ρ' H') : Got Z (fun c d H' => W c d σV H') ρ H (m st) P := by
  unfold catchX at h
  revert h
  cases m st with
  | ok a st' => exact fun h ρ' H' e R => q a st' ρ' H' e R (Got.ext h e)
  | exc c fs st' => exact fun h ρ' H' d gs e R hd hl => (h ρ' H' e R) σV d gs (S.mono e) hd hl
  | fail => exact fun h => h
theorem RSl.set {i : Nat} {x : MV} {v : V} (S : RSl Z ρ H σ σV) (r : RV Z ρ H x v) : RSl Z ρ H (σ.set i (some x)) (σV.set i (some v)) := by
  refine ⟨by simp [S.1], fun j y e => ?_⟩
  by_cases hj : j = i
  · subst hj
    have hl : j < σ.length := by
      have := (List.getElem?_eq_some_iff.mp e).1
      simpa using this
    rw [List.getElem?_set_self hl] at e
    cases e
    exact ⟨v, List.getElem?_set_self (by rw [← S.1]; exact hl), r⟩
  · rw [List.getElem?_set_ne (Ne.symm hj)] at e
    obtain ⟨w, e1, r1⟩ := S.2 j y e
    exact ⟨w, by rw [List.getElem?_set_ne (Ne.symm hj)]; exact e1, r1⟩
theorem RSl.gone {i : Nat} {o : Option V} (S : RSl Z ρ H σ σV) : RSl Z ρ H (σ.set i none) (σV.set i o) := by
  refine ⟨by simp [S.1], fun j y e => ?_⟩
  by_cases hj : j = i
  · subst hj
    have hl : j < σ.length := by
      have := (List.getElem?_eq_some_iff.mp e).1
      simpa using this
    rw [List.getElem?_set_self hl] at e
    cases e
  · rw [List.getElem?_set_ne (Ne.symm hj)] at e
    obtain ⟨w, e1, r1⟩ := S.2 j y e
    exact ⟨w, by rw [List.getElem?_set_ne (Ne.symm hj)]; exact e1, r1⟩
theorem Got.thn {P : Fl → Sto → List Addr → Hp → Prop} {fl : Fl} {k : Sl → M Fl} (h : Got Z W0 ρ H (fl.thn k st) (PF Z W D)) (R : Rep Z ρ H st) {nx : St → Hp → Prop} (hn : ∀ σ, fl = .nx σ → Got Z W0 ρ H (k σ st) (PF Z W D) → ∀ σV, RSl Z ρ H σ σV → nx σV H) :
    FlOk Z W { D with nx := nx } ρ H fl := by
  cases fl with
  | nx σ => exact fun σV S => hn σ rfl h σV S
  | ret v => exact Got.pure h R
  | bk σ => exact Got.pure h R
  | ct σ => exact Got.pure h R
  | exc c fs σ => exact Got.pure h R
end

section
variable {X : Cx} {cl xl : Nat → Addr} {W : WX} {e : Expr} {s : Stmt} {ss : List Stmt} {pos : Pos} {f : Exp} {fa fb : Stm} {t : Tst}
def sNop : Stm := fun σ => Pure.pure (.nx σ)
def sSeq (a b : Stm) : Stm := fun σ => a σ >>= fun fl => fl.thn b
theorem ss_nil : PSs X [] (liftS (zc X cl xl) W sNop) := pss_nil.weak fun D σV H ⟨ρ, σ, st, R, S, G⟩ => Got.pure G R σV S
theorem ss_one (h : PS X s (liftS (zc X cl xl) W fa)) : PSs X [s] (liftS (zc X cl xl) W fa) := pss_one h
theorem ss_cons (h : PS X s (liftS (zc X cl xl) W fa)) (k : PSs X ss (liftS (zc X cl xl) W fb)) : PSs X (s :: ss) (liftS (zc X cl xl) W (sSeq fa fb)) :=
  (pss_cons h k).weak fun D σV H ⟨ρ, σ, st, R, S, G⟩ => ⟨ρ, σ, st, R, S, G.seq fun fl st1 ρ1 H1 e1 R1 G1 => Got.thn (P := fun _ _ _ _ => True) G1 R1 fun σ1 _ G2 σV1 S1 => ⟨ρ1, σ1, st1, R1, S1, G2⟩⟩
def sSet (i : Nat) (f : Exp) : Stm := fun σ => catchX (f σ) σ fun x => Pure.pure (.nx (σ.set i (some x)))
theorem s_set {i : Nat} {x : Str} {pos' : Pos} (he : PE X e (liftE (zc X cl xl) W f)) (hN : X.N.Nodup) (hi : X.N[i]? = some x := by rfl) (hx : Loc X.env.scope x := by first | exact Or.inl rfl | exact Or.inr rfl)
    (hs : swapsWith e (some (.Name x pos')) pos.line X.env = pure false := by rfl) (hf : X.fn x = true ∨ X.env.scope.names.lookup x = some .local := by first | exact .inl rfl | exact .inr rfl) :
    PS X (.Assign [.Name x pos'] e pos) (liftS (zc X cl xl) W (sSet i f)) :=
  (ps_set hN hi hx he hs hf).weak fun D σV H ⟨ρ, σ, st, R, S, G⟩ => ⟨ρ, σ, st, R, S, G.catch S fun x st1 ρ1 H1 e1 R1 G1 v rv => G1.pure R1 _ ((S.mono e1).set rv)⟩
def sExpr (f : Exp) : Stm := fun σ => catchX (f σ) σ fun _ => Pure.pure (.nx σ)
theorem s_expr (he : PE X e (liftE (zc X cl xl) W f)) (hs : swapsWith e none pos.line X.env = pure false := by rfl) : PS X (.Expr e pos) (liftS (zc X cl xl) W (sExpr f)) :=
  (ps_expr he hs).weak fun D σV H ⟨ρ, σ, st, R, S, G⟩ => ⟨ρ, σ, st, R, S, G.catch S fun x st1 ρ1 H1 e1 R1 G1 v rv => G1.pure R1 _ (S.mono e1)⟩
def sRet (f : Exp) : Stm := fun σ => catchX (f σ) σ fun x => Pure.pure (.ret x)
theorem s_ret (he : PE X e (liftE (zc X cl xl) W f)) : PS X (.Return (some e) pos) (liftS (zc X cl xl) W (sRet f)) :=
  (ps_ret he).weak fun D σV H ⟨ρ, σ, st, R, S, G⟩ => ⟨ρ, σ, st, R, S, G.catch S fun x st1 ρ1 H1 e1 R1 G1 v rv => G1.pure R1 v rv⟩
def sRetN : Stm := fun _ => Pure.pure (.ret .non)
theorem s_retN : PS X (.Return none pos) (liftS (zc X cl xl) W sRetN) := ps_retN.weak fun D σV H ⟨ρ, σ, st, R, S, G⟩ => G.pure R _ rfl
theorem s_pass : PS X (.Pass pos) (liftS (zc X cl xl) W sNop) := ps_pass.weak fun D σV H ⟨ρ, σ, st, R, S, G⟩ => Got.pure G R σV S
def sBreak : Stm := fun σ => Pure.pure (.bk σ)
def sCont : Stm := fun σ => Pure.pure (.ct σ)
theorem s_break : PS X (.Break pos) (liftS (zc X cl xl) W sBreak) := ps_break.weak fun D σV H ⟨ρ, σ, st, R, S, G⟩ => Got.pure G R σV S
theorem s_cont : PS X (.Continue pos) (liftS (zc X cl xl) W sCont) := ps_continue.weak fun D σV H ⟨ρ, σ, st, R, S, G⟩ => Got.pure G R σV S
def sIf (t : Tst) (a b : Stm) : Stm := fun σ => catchX (t σ) σ fun c => if c = true then a σ else b σ
theorem s_if {c : Expr} {a b : List Stmt} (hc : PT X c (liftT (zc X cl xl) W t)) (ha : PSs X a (liftS (zc X cl xl) W fa)) (hb : PSs X b (liftS (zc X cl xl) W fb)) : PS X (.If c a b pos) (liftS (zc X cl xl) W (sIf t fa fb)) :=
  (ps_if hc ha hb).weak fun D σV H ⟨ρ, σ, st, R, S, G⟩ => ⟨ρ, σ, st, R, S, G.catch S fun c st1 ρ1 H1 e1 R1 G1 => by
    cases c with
    | true => exact iteT ⟨ρ1, σ, st1, R1, S.mono e1, G1⟩
    | false => exact iteF ⟨ρ1, σ, st1, R1, S.mono e1, G1⟩⟩

/-! ### targets -/
abbrev Tg := MV → Sl → M Sl
def liftG (Z : Zc) (g : Tg) : TG := fun v σV H Q => ∃ ρ σ st x, Rep Z ρ H st ∧ RSl Z ρ H σ σV ∧ RV Z ρ H x v ∧ Got Z W0 ρ H (g x σ st) fun σ' _ ρ' H' => ∀ σV', RSl Z ρ' H' σ' σV' → Q σV' H'
theorem _root_.L2.PG.weak {X : Cx} {tg : Expr} {t t' : TG} (h : PG X tg t) (k : ∀ v σ H Q, t' v σ H Q → t v σ H Q) : PG X tg t' := ⟨fun pins s σ H v u Q I r q => h.run pins s σ H v u Q I r (k v σ H Q q)⟩
def tgName (i : Nat) : Tg := fun x σ => Pure.pure (σ.set i (some x))
theorem g_name {i : Nat} {x : Str} {p : Pos} (hN : X.N.Nodup) (hi : X.N[i]? = some x := by rfl) (hx : Loc X.env.scope x := by first | exact Or.inl rfl | exact Or.inr rfl) (hf : X.fn x = true ∨ X.env.scope.names.lookup x = some .local := by first | exact .inl rfl | exact .inr rfl) :
    PG X (.Name x p) (liftG (zc X cl xl) (tgName i)) := (pg_name hN hi hx hf).weak fun v σV H Q ⟨ρ, σ, st, x, R, S, r, G⟩ => G.pure R _ (S.set r)
/-- several targets in a row -/
def tgs : List Tg → List MV → Sl → M Sl
  | [], [], σ => Pure.pure σ
  | g :: gs, x :: xs, σ => g x σ >>= fun σ' => tgs gs xs σ'
  | _, _, _ => M.fail
def liftGs (Z : Zc) (gs : List Tg) : TGs := fun vs σV H Q => ∃ ρ σ st xs, Rep Z ρ H st ∧ RSl Z ρ H σ σV ∧ RVs Z ρ H xs vs ∧ Got Z W0 ρ H (tgs gs xs σ st) fun σ' _ ρ' H' => ∀ σV', RSl Z ρ' H' σ' σV' → Q σV' H'
theorem _root_.L2.PGs.weak {X : Cx} {tg : List Expr} {t t' : TGs} (h : PGs X tg t) (k : ∀ v σ H Q, t' v σ H Q → t v σ H Q) : PGs X tg t' := ⟨fun pins s σ H v u Q I r q => h.run pins s σ H v u Q I r (k v σ H Q q)⟩
variable {g : Tg} {gs : List Tg} {es : List Expr}
theorem gs_nil : PGs X [] (liftGs (zc X cl xl) []) := pgs_nil.weak fun vs σV H Q ⟨ρ, σ, st, xs, R, S, r, G⟩ => by
  cases xs with
  | nil => exact ⟨r, G.pure R _ S⟩
  | cons x xs => exact (show False from G).elim
theorem gs_cons (h : PG X e (liftG (zc X cl xl) g)) (k : PGs X es (liftGs (zc X cl xl) gs)) (hs : (assignEach (e :: es) X.env).map (·.2) = assign e X.env :: (assignEach es X.env).map (·.2) := by rfl) : PGs X (e :: es) (liftGs (zc X cl xl) (g :: gs)) :=
  (pgs_cons h k hs).weak fun vs σV H Q ⟨ρ, σ, st, xs, R, S, r, G⟩ => by
    cases xs with
    | nil => exact (show False from G).elim
    | cons x xs =>
      obtain ⟨v, rs, e1, h1, h2⟩ := r
      have G' : Got (zc X cl xl) W0 ρ H ((g x σ >>= fun σ' => tgs gs xs σ') st) fun σ' _ ρ' H' => ∀ σV', RSl (zc X cl xl) ρ' H' σ' σV' → Q σV' H' := G
      exact ⟨v, rs, e1, ρ, σ, st, x, R, S, h1, G'.seq fun σ1 st1 ρ1 H1 e1 R1 G1 σV1 S1 => ⟨ρ1, σ1, st1, xs, R1, S1, h2.mono e1, G1⟩⟩
/-- (a, b, ..) = a tuple -/
def tgTup (gs : List Tg) : Tg := fun x σ => match x with
  | .tup xs => if xs.length = gs.length then tgs gs xs σ else M.fail
  | _ => M.fail
theorem g_tup {k : Nat} {p : Pos} (hc : X.calm = true) (h : PGs X es (liftGs (zc X cl xl) gs)) (hn : (assignEach es X.env).length = gs.length := by rfl) (hst : (assignEach es X.env).findIdx? (·.1) = none := by rfl) :
    PG X (.Tuple es k p) (liftG (zc X cl xl) (tgTup gs)) := (pg_tup hc h hn hst).weak fun v σV H Q ⟨ρ, σ, st, x, R, S, r, G⟩ => by
  cases x with
  | tup xs =>
    obtain ⟨a, vs, e1, h1, h2⟩ := r
    have G' : Got (zc X cl xl) W0 ρ H ((if xs.length = gs.length then tgs gs xs σ else M.fail) st) fun σ' _ ρ' H' => ∀ σV', RSl (zc X cl xl) ρ' H' σ' σV' → Q σV' H' := G
    by_cases hl : xs.length = gs.length
    · rw [if_pos hl] at G'
      exact ⟨a, vs, e1, h1, by rw [← h2.length]; exact hl, ρ, σ, st, xs, R, S, h2, G'⟩
    · rw [if_neg hl] at G'
      exact (show False from G').elim
  | _ => exact (show False from G).elim
def sAsg (g : Tg) (f : Exp) : Stm := fun σ => catchX (f σ) σ fun x st => match g x σ st with
  | .ok σ' st' => .ok (.nx σ') st'
  | _ => .fail
theorem s_asg {tg : Expr} (he : PE X e (liftE (zc X cl xl) W f)) (hg : PG X tg (liftG (zc X cl xl) g)) (hs : swapsWithSole [tg] e pos.line X.env = pure false := by rfl) (hw : swappedStores [tg] e X.env = pure none := by rfl)
    (h1 : (assignEach [tg] X.env).map (·.2) = [assign tg X.env] := by rfl) : PS X (.Assign [tg] e pos) (liftS (zc X cl xl) W (sAsg g f)) :=
  (ps_asg he hg hs hw h1).weak fun D σV H ⟨ρ, σ, st, R, S, G⟩ => ⟨ρ, σ, st, R, S, G.catch S fun x st1 ρ1 H1 e1 R1 G1 v rv => ⟨ρ1, σ, st1, x, R1, S.mono e1, rv, by
    revert G1
    cases g x σ st1 with
    | ok σ' st' => exact fun G1 ρ' H' e R σV' S' => G1 ρ' H' e R σV' S'
    | exc c fs st' => exact fun G1 => (show False from G1).elim
    | fail => exact fun G1 => G1⟩⟩
/-- a, b = x, y -/
def sPar (i j : Nat) (fs : List Exp) : Stm := fun σ => catchX (mArgs fs σ) σ fun xs => match xs with
  | [x, y] => Pure.pure (.nx ((σ.set i (some x)).set j (some y)))
  | _ => M.fail
theorem s_par {i j : Nat} {x y : Str} {a b : Expr} {px py pt : Pos} {kt k2 pt2} {fs : List Exp} (hc : X.calm = true) (hN : X.N.Nodup) (ha : PA X [a, b] (liftA (zc X cl xl) W (mArgs fs)))
    (hi : X.N[i]? = some x := by rfl) (hj : X.N[j]? = some y := by rfl) (hij : i ≠ j := by decide)
    (hx : X.env.scope.names.lookup x = some .local := by rfl) (hy : X.env.scope.names.lookup y = some .local := by rfl)
    (hw : swappedStores [.Tuple [.Name x px, .Name y py] kt pt] (.Tuple [a, b] k2 pt2) X.env = pure (some [x, y]) := by rfl)
    (hs : swapsWithSole [.Tuple [.Name x px, .Name y py] kt pt] (.Tuple [a, b] k2 pt2) pos.line X.env = pure false := by rfl) :
    PS X (.Assign [.Tuple [.Name x px, .Name y py] kt pt] (.Tuple [a, b] k2 pt2) pos) (liftS (zc X cl xl) W (sPar i j fs)) :=
  (ps_par hc hN hi hj hij hx hy ha hw hs).weak fun D σV H ⟨ρ, σ, st, R, S, G⟩ => ⟨ρ, σ, st, R, S, G.catch S fun xs st1 ρ1 H1 e1 R1 G1 vs rvs => by
    cases xs with
    | nil => exact (show False from G1).elim
    | cons x xs => cases xs with
      | nil => exact (show False from G1).elim
      | cons y xs => cases xs with
        | nil =>
          obtain ⟨v, r, rfl, h1, w, r', rfl, h2, rfl⟩ := rvs
          exact ⟨v, w, rfl, G1.pure R1 _ (((S.mono e1).set h1).set h2)⟩
        | cons z xs => exact (show False from G1).elim⟩

/-! ### while -/
def whileN (t : Tst) (b : Stm) : Nat → Sl → M Fl
  | 0, _ => M.fail
  | n + 1, σ => catchX (t σ) σ fun c => if c = true then b σ >>= fun fl => match fl with
      | .nx σ' => whileN t b n σ'
      | .ct σ' => whileN t b n σ'
      | .bk σ' => Pure.pure (.nx σ')
      | .ret v => Pure.pure (.ret v)
      | .exc c fs σ' => Pure.pure (.exc c fs σ')
    else Pure.pure (.nx σ)
open Classical in
/-- as many turns as it takes -/
noncomputable def sWhile (t : Tst) (b : Stm) : Stm := fun σ st => if h : ∃ n, whileN t b n σ st ≠ .fail then whileN t b (Classical.choose h) σ st else .fail
theorem s_while {c : Expr} {body : List Stmt} (hp : PassesOwn (model X.prog X.w) X.A X.env X.xe) (hc : PT X c (liftT (zc X cl xl) W t)) (hb : PSs X body (liftS (zc X cl xl) W fa)) : PS X (.While c body [] pos) (liftS (zc X cl xl) W (sWhile t fa)) :=
  (ps_while hp hc hb).weak fun D σV H ⟨ρ, σ, st, R, S, G⟩ => by
    have G0 : ∃ n, Got (zc X cl xl) W0 ρ H (whileN t fa n σ st) (PF (zc X cl xl) W D) := by
      have G' : Got (zc X cl xl) W0 ρ H (sWhile t fa σ st) (PF (zc X cl xl) W D) := G
      unfold sWhile at G'
      split at G'
      · exact ⟨_, G'⟩
      · exact (show False from G').elim
    refine ⟨fun m σV H => ∃ ρ σ st, Rep (zc X cl xl) ρ H st ∧ RSl (zc X cl xl) ρ H σ σV ∧ Got (zc X cl xl) W0 ρ H (whileN t fa m σ st) (PF (zc X cl xl) W D), ?_, ?_⟩
    · obtain ⟨n, G0⟩ := G0
      exact ⟨n, ρ, σ, st, R, S, G0⟩
    · rintro m σV H ⟨ρ, σ, st, R, S, G⟩
      cases m with
      | zero => exact (show False from G).elim
      | succ m =>
        have G' : Got (zc X cl xl) W0 ρ H (catchX (t σ) σ (fun c => if c = true then fa σ >>= fun fl => match fl with
            | .nx σ' => whileN t fa m σ'
            | .ct σ' => whileN t fa m σ'
            | .bk σ' => Pure.pure (.nx σ')
            | .ret v => Pure.pure (.ret v)
            | .exc c fs σ' => Pure.pure (.exc c fs σ')
          else Pure.pure (.nx σ)) st) (PF (zc X cl xl) W D) := G
        refine ⟨ρ, σ, st, R, S, G'.catch S fun c st1 ρ1 H1 e1 R1 G1 => ?_⟩
        cases c with
        | false =>
          exact iteF (Got.pure G1 R1 σV (S.mono e1))
        | true =>
          refine iteT ⟨fun σV' H' => ∃ ρ σ st, Rep (zc X cl xl) ρ H' st ∧ RSl (zc X cl xl) ρ H' σ σV' ∧ Got (zc X cl xl) W0 ρ H' (whileN t fa m σ st) (PF (zc X cl xl) W D), fun σ' H' h => ⟨m, Nat.lt_succ_self _, h⟩, ρ1, σ, st1, R1, S.mono e1, ?_⟩
          refine Got.seq (by exact G1) fun fl st2 ρ2 H2 e2 R2 G2 => ?_
          cases fl with
          | nx σ2 => exact fun σV2 S2 => ⟨ρ2, σ2, st2, R2, S2, G2⟩
          | ct σ2 => exact fun σV2 S2 => ⟨ρ2, σ2, st2, R2, S2, G2⟩
          | bk σ2 => exact fun σV2 S2 => Got.pure G2 R2 σV2 S2
          | ret v => exact Got.pure G2 R2
          | exc c fs σ2 => exact Got.pure G2 R2

/-! ### for -/
/-- what is walked: from the slots and the store its items, and what must stay so at each turn -/
abbrev Itm := Sl → M (List MV × M Unit)
def forGo (chk : M Unit) (g : Tg) (b : Stm) : List MV → Sl → M Fl
  | [], σ => chk >>= fun _ => Pure.pure (.nx σ)
  | x :: r, σ => chk >>= fun _ => (fun st => match g x σ st with
      | .ok σ1 st1 => (b σ1 >>= fun fl => match fl with
        | .nx σ' => forGo chk g b r σ'
        | .ct σ' => forGo chk g b r σ'
        | .bk σ' => Pure.pure (.nx σ')
        | .ret v => Pure.pure (.ret v)
        | .exc c fs σ' => Pure.pure (.exc c fs σ')) st1
      | _ => .fail)
def sFor (it : Itm) (g : Tg) (b : Stm) : Stm := fun σ => catchX (it σ) σ fun p => forGo p.2 g b p.1 σ
/-- how an iterator J yields the items xs; ok: what the check tells of a state -/
structure Itx (Z : Zc) (J : It) (xs : List MV) (chk : M Unit) (ρ0 : List Addr) (H0 : Hp) : Prop where
  go : ∀ i x ρ H st, xs[i]? = some x → Ext ρ0 H0 ρ H → Rep Z ρ H st → chk st = .ok () st → J.go i H ∧ ∀ v H', J.yld i H v H' → ∃ ρ', Ext ρ H ρ' H' ∧ Rep Z ρ' H' st ∧ RV Z ρ' H' x v
  stop : ∀ ρ H st, Ext ρ0 H0 ρ H → Rep Z ρ H st → chk st = .ok () st → J.stop xs.length H
  chk1 : ∀ st, chk st = .ok () st ∨ chk st = .fail
def liftI (Z : Zc) (W : WX) (it : Itm) : TI := fun σV H R => ∃ ρ σ st, Rep Z ρ H st ∧ RSl Z ρ H σ σV ∧ Got Z (fun c d H' => W c d σV H') ρ H (it σ st) fun p st' ρ' H' => ∀ J, Itx Z J p.1 p.2 ρ' H' → R J H'
theorem s_for {tg iter : Expr} {body : List Stmt} {it : Itm} (hp : PassesOwn (model X.prog X.w) X.A X.env X.xe) (hc : X.calm = true) (hi : PI X tg iter (liftI (zc X cl xl) W it)) (hg : PG X tg (liftG (zc X cl xl) g)) (hb : PSs X body (liftS (zc X cl xl) W fa))
    (hs : ∀ x, foldedSetIterable iter X.env x = pure x := by intro _; rfl) : PS X (.For tg iter body [] pos) (liftS (zc X cl xl) W (sFor it g fa)) :=
  (ps_for hp hc hi hg hb hs).weak fun D σV H ⟨ρ, σ, st, R, S, G⟩ => by
    have G0 : Got (zc X cl xl) W0 ρ H (catchX (it σ) σ (fun p => forGo p.2 g fa p.1 σ) st) (PF (zc X cl xl) W D) := G
    refine ⟨ρ, σ, st, R, S, G0.catch S fun p st1 ρ1 H1 e1 R1 G1 J hJ => ?_⟩
    obtain ⟨xs, chk⟩ := p
    have hJ : Itx (zc X cl xl) J xs chk ρ1 H1 := hJ
    refine ⟨fun i m σV H => i ≤ xs.length ∧ m = xs.length - i ∧ ∃ ρ σ st, Ext ρ1 H1 ρ H ∧ Rep (zc X cl xl) ρ H st ∧ RSl (zc X cl xl) ρ H σ σV ∧ Got (zc X cl xl) W0 ρ H (forGo chk g fa (xs.drop i) σ st) (PF (zc X cl xl) W D),
      ⟨_, Nat.zero_le _, rfl, ρ1, σ, st1, Ext.refl, R1, S.mono e1, G1⟩, ?_⟩
    rintro i m σV H ⟨hi, rfl, ρ, σ, st, ex, R, S, G⟩
    by_cases hlt : i < xs.length
    · have hx : xs[i]? = some xs[i] := List.getElem?_eq_getElem hlt
      rw [List.drop_eq_getElem_cons hlt] at G
      have G' : Got (zc X cl xl) W0 ρ H ((chk >>= fun _ => (fun st => match g xs[i] σ st with
          | .ok σ1 st1 => (fa σ1 >>= fun fl => match fl with
            | .nx σ' => forGo chk g fa (xs.drop (i + 1)) σ'
            | .ct σ' => forGo chk g fa (xs.drop (i + 1)) σ'
            | .bk σ' => Pure.pure (.nx σ')
            | .ret v => Pure.pure (.ret v)
            | .exc c fs σ' => Pure.pure (.exc c fs σ')) st1
          | _ => .fail : M Fl)) st) (PF (zc X cl xl) W D) := G
      rcases hJ.chk1 st with hk | hk
      · have G2 := G'.bind
        rw [hk] at G2
        obtain ⟨hgo, hy⟩ := hJ.go i _ ρ H st hx ex R hk
        refine .inr ⟨hgo, fun σV' H' => ∃ ρ σ st, Ext ρ1 H1 ρ H' ∧ Rep (zc X cl xl) ρ H' st ∧ RSl (zc X cl xl) ρ H' σ σV' ∧ Got (zc X cl xl) W0 ρ H' (forGo chk g fa (xs.drop (i + 1)) σ st) (PF (zc X cl xl) W D),
          fun σ' H' h => ⟨xs.length - (i + 1), by omega, hlt, rfl, h⟩, fun v H' yl => ?_⟩
        obtain ⟨ρ', e', R', rv⟩ := hy v H' yl
        have G3 := G2 ρ' H' e' R'
        refine ⟨ρ', σ, st, xs[i], R', S.mono e', rv, ?_⟩
        revert G3
        show Got (zc X cl xl) W0 ρ' H' (match g xs[i] σ st with
          | .ok σ1 st1 => (fa σ1 >>= fun fl => match fl with
            | .nx σ' => forGo chk g fa (xs.drop (i + 1)) σ'
            | .ct σ' => forGo chk g fa (xs.drop (i + 1)) σ'
            | .bk σ' => Pure.pure (.nx σ')
            | .ret v => Pure.pure (.ret v)
            | .exc c fs σ' => Pure.pure (.exc c fs σ')) st1
          | _ => .fail) (PF (zc X cl xl) W D) → _
        cases g xs[i] σ st with
        | ok σ2 st2 =>
          intro G3 ρ2 H2 e2 R2 σV2 S2
          refine ⟨ρ2, σ2, st2, R2, S2, (Got.ext G3 e2).seq fun fl st3 ρ3 H3 e3 R3 G4 => ?_⟩
          cases fl with
          | nx σ3 => exact fun σV3 S3 => ⟨ρ3, σ3, st3, ((ex.trans e').trans e2).trans e3, R3, S3, G4⟩
          | ct σ3 => exact fun σV3 S3 => ⟨ρ3, σ3, st3, ((ex.trans e').trans e2).trans e3, R3, S3, G4⟩
          | bk σ3 => exact fun σV3 S3 => Got.pure G4 R3 σV3 S3
          | ret v => exact Got.pure G4 R3
          | exc c fs σ3 => exact Got.pure G4 R3
        | exc c fs st' => exact fun G3 => (show False from G3).elim
        | fail => exact fun G3 => (show False from G3).elim
      · have G2 := G'.bind
        rw [hk] at G2
        exact (show False from G2).elim
    · have e : i = xs.length := by omega
      subst e
      rw [List.drop_length] at G
      have G' : Got (zc X cl xl) W0 ρ H ((chk >>= fun _ => (Pure.pure (.nx σ) : M Fl)) st) (PF (zc X cl xl) W D) := G
      rcases hJ.chk1 st with hk | hk
      · have G2 := G'.bind
        rw [hk] at G2
        exact .inl ⟨hJ.stop ρ H st ex R hk, Got.pure (G2 ρ H Ext.refl R) R σV S⟩
      · have G2 := G'.bind
        rw [hk] at G2
        exact (show False from G2).elim
end
end Mi
end
section
set_option Elab.async false
set_option linter.all false
set_option maxRecDepth 100000
set_option maxHeartbeats 2000000
set_option autoImplicit false
/-! Mi3: bodies of defs; what is walked; operators by values. -/
namespace Mi
open PySem PySem.Spec L2

/-! ### a def's body -/
def init0 (n : Nat) (xs : List MV) : Sl := xs.map some ++ List.replicate (n - xs.length) none
def mRun (n : Nat) (b : Stm) : List MV → M MV := fun xs st => match b (init0 n xs) st with
  | .ok (.nx _) st' => .ok .non st'
  | .ok (.ret v) st' => .ok v st'
  | .ok (.exc c fs _) st' => .exc c fs st'
  | _ => .fail
theorem RSl.init {Z : Zc} {ρ : List Addr} {H : Hp} {xs : List MV} {vs : List V} {N : List Str} (r : RVs Z ρ H xs vs) : RSl Z ρ H (init0 N.length xs) (L2.start N vs) := by
  have hl := r.length
  refine ⟨by simp [init0, L2.start, hl], fun i x e => ?_⟩
  unfold init0 at e
  by_cases hi : i < xs.length
  · rw [List.getElem?_append_left (by simpa using hi), List.getElem?_map] at e
    cases q : xs[i]? with
    | none => rw [q] at e; cases e
    | some y =>
      rw [q] at e
      cases e
      obtain ⟨v, e1, r1⟩ := r.get q
      refine ⟨v, ?_, r1⟩
      unfold L2.start
      rw [List.getElem?_append_left (by rw [List.length_map]; omega), List.getElem?_map, e1]
      rfl
  · rw [List.getElem?_append_right (by simpa using hi), List.getElem?_replicate] at e
    split at e <;> cases e
section
variable {P : Program} {w : World} {K : PySem.W.Frag} {mg : Str → Option Value} {base : Heap} {cl xl : Nat → Addr}
theorem fn_body {x qual : Str} {st : Stmt} {f : Addr} {fd : FuncData} {N ps : List Str} {k : Nat} {b : Stm} (F : Fun K x qual st f fd) (S : FnScope N ps (defScope st))
    (hbody : ∀ (cdv : Value) (A : Around) (outer : List Env) (s : Shared) (H : Hp) (E : XK), Room k (A.deeper (PyProof.Rows.envOfC qual (defScope st) s.heap.objs.size f cdv)) →
      PSs (cxOf (L2.CX P w) P w K mg base N qual (defScope st) f cdv A outer s H E) (defBody st) (liftS ⟨K, cl, xl⟩ (fun c d _ H => E c d H) b)) :
    FnOk P w K mg base (L2.CX P w) (k + 1) f fd ps (spOf ⟨K, cl, xl⟩ (mRun N.length b) ps.length) := by
  refine F.okX S (fun vs H Q E ⟨ρ, st, xs, R, r, hl, G⟩ => by rw [← r.length]; exact hl) (fun cdv A outer s H vs Q E hr ⟨ρ, st, xs, R, r, hl, G⟩ => ⟨_, hbody cdv A outer s H E hr, ρ, _, st, R, RSl.init r, ?_⟩)
  unfold mRun at G
  revert G
  cases b (init0 N.length xs) st with
  | ok fl st' =>
    cases fl with
    | nx σ => exact fun G ρ' H' e R' σV' S' => G ρ' H' e R' _ rfl
    | ret v => exact fun G ρ' H' e R' v' r' => G ρ' H' e R' v' r'
    | bk σ => exact fun G => (show False from G).elim
    | ct σ => exact fun G => (show False from G).elim
    | exc c fs σ => exact fun G ρ' H' e R' σV' d gs S' hd hl => G ρ' H' d gs e R' hd hl
  | exc c fs st' => exact fun G => (show False from G).elim
  | fail => exact fun G => G
/-- a promise that is never asked for -/
theorem fn_zero {f : Addr} {fd : FuncData} {ps : List Str} {k : Nat} {D : List MV → M MV} (h : ∀ xs st, D xs st = .fail) : FnOk P w K mg base (L2.CX P w) k f fd ps (spOf ⟨K, cl, xl⟩ D ps.length) :=
  ⟨fun vs H Q E ⟨ρ, st, xs, R, r, hl, G⟩ => by rw [h] at G; exact G.elim, fun A outer s H args us vs Q E hr e0 hb hv ⟨ρ, st, xs, R, r, hl, G⟩ => by rw [h] at G; exact G.elim⟩
end

/-! ### what is walked -/
section
variable {X : Cx} {cl xl : Nat → Addr} {W : WX} {e tg : Expr} {es : List Expr} {pos p : Pos} {f : Exp} {fs : List Exp}
theorem _root_.L2.PI.weak {X : Cx} {tg e : Expr} {t t' : TI} (h : PI X tg e t) (k : ∀ σ H R, t' σ H R → t σ H R) : PI X tg e t' := ⟨fun pins s σ H R I q => h.run pins s σ H R I (k σ H R q)⟩
def intsFrom (lo : Int) (n : Nat) : List MV := (List.range n).map fun (k : Nat) => MV.int (lo + k)
def iRange (fs : List Exp) : Itm := fun σ => mArgs fs σ >>= fun xs => match xs with
  | [.int j] => if -(2 ^ 62) ≤ j ∧ j < 2 ^ 62 then Pure.pure (intsFrom 0 j.toNat, Pure.pure ()) else M.fail
  | [.int i, .int j] => if (-(2 ^ 62) ≤ i ∧ i < 2 ^ 62) ∧ -(2 ^ 62) ≤ j ∧ j < 2 ^ 62 then Pure.pure (intsFrom i (j - i).toNat, Pure.pure ()) else M.fail
  | _ => M.fail
theorem itx_range {Z : Zc} {ρ : List Addr} {H : Hp} (lo : Int) (n : Nat) : Itx Z (Itr lo n) (intsFrom lo n) (Pure.pure ()) ρ H where
  go := fun i x ρ1 H1 st hx e R _ => by
    have hi : i < n := by
      have := (List.getElem?_eq_some_iff.mp hx).1
      simpa [intsFrom] using this
    refine ⟨hi, fun v H' y => ?_⟩
    obtain ⟨rfl, rfl⟩ := y
    refine ⟨ρ1, Ext.refl, R, ?_⟩
    unfold intsFrom at hx
    rw [List.getElem?_map, List.getElem?_range hi] at hx
    cases hx
    rfl
  stop := fun ρ1 H1 st e R _ => by
    show n ≤ (intsFrom lo n).length
    simp [intsFrom]
  chk1 := fun st => .inl rfl
theorem i_range1 (hg : Gl X "range") (hm : X.mg "range" = none) (ha : PA X [e] (liftA (zc X cl xl) W (mArgs [f]))) (hs : starEach [e] X.env = [(false, eval e X.env)] := by rfl) : PI X tg (.Call (.Name "range" p) [e] [] pos) (liftI (zc X cl xl) W (iRange [f])) :=
  (pi_range1 hg hm ha hs).weak fun σV H R ⟨ρ, σ, st, R0, S, G⟩ => ⟨ρ, σ, st, R0, S, G.args fun xs st1 ρ1 H1 e1 R1 l1 G1 vs rvs => by
    match xs, l1 with
    | [x], _ =>
      obtain ⟨v, r, rfl, h1, rfl⟩ := rvs
      cases x with
      | int j =>
        cases h1
        have G2 : Got (zc X cl xl) (fun c d H' => W c d σV H') ρ1 H1 ((if -(2 ^ 62) ≤ j ∧ j < 2 ^ 62 then Pure.pure (intsFrom 0 j.toNat, Pure.pure ()) else M.fail : M (List MV × M Unit)) st1) (fun p st' ρ' H' => ∀ J, Itx (zc X cl xl) J p.1 p.2 ρ' H' → R J H') := G1
        by_cases hj : -(2 ^ 62) ≤ j ∧ j < 2 ^ 62
        · rw [if_pos hj] at G2
          exact ⟨j, rfl, hj.1, hj.2, G2.pure R1 _ (itx_range 0 _)⟩
        · rw [if_neg hj] at G2
          exact (show False from G2).elim
      | _ => exact (show False from G1).elim⟩
theorem i_range2 {a b : Expr} {fa fb : Exp} (hg : Gl X "range") (hm : X.mg "range" = none) (ha : PA X [a, b] (liftA (zc X cl xl) W (mArgs [fa, fb]))) (hs : starEach [a, b] X.env = [(false, eval a X.env), (false, eval b X.env)] := by rfl)
    (hs2 : starEach [b] X.env = [(false, eval b X.env)] := by rfl) : PI X tg (.Call (.Name "range" p) [a, b] [] pos) (liftI (zc X cl xl) W (iRange [fa, fb])) :=
  (pi_range2 hg hm ha hs hs2).weak fun σV H R ⟨ρ, σ, st, R0, S, G⟩ => ⟨ρ, σ, st, R0, S, G.args fun xs st1 ρ1 H1 e1 R1 l1 G1 vs rvs => by
    match xs, l1 with
    | [x, y], _ =>
      obtain ⟨v, r, rfl, h1, u, r', rfl, h2, rfl⟩ := rvs
      cases x with
      | int i =>
        cases y with
        | int j =>
          cases h1
          cases h2
          have G2 : Got (zc X cl xl) (fun c d H' => W c d σV H') ρ1 H1 ((if (-(2 ^ 62) ≤ i ∧ i < 2 ^ 62) ∧ -(2 ^ 62) ≤ j ∧ j < 2 ^ 62 then Pure.pure (intsFrom i (j - i).toNat, Pure.pure ()) else M.fail : M (List MV × M Unit)) st1) (fun p st' ρ' H' => ∀ J, Itx (zc X cl xl) J p.1 p.2 ρ' H' → R J H') := G1
          by_cases hj : (-(2 ^ 62) ≤ i ∧ i < 2 ^ 62) ∧ -(2 ^ 62) ≤ j ∧ j < 2 ^ 62
          · rw [if_pos hj] at G2
            exact ⟨i, j, rfl, ⟨hj.1.1, hj.1.2, hj.2.1, hj.2.2⟩, G2.pure R1 _ (itx_range i _)⟩
          · rw [if_neg hj] at G2
            exact (show False from G2).elim
        | _ => exact (show False from G1).elim
      | _ => exact (show False from G1).elim⟩

/-! a list, a tuple, a text, as the value says -/
def iSeqR (K : PySem.W.Frag) (tl : TE) : TI := fun σ H R => tl σ H fun v H1 => (∃ a, v = .ref a ∧ (∃ xs, SqL K H1 a xs) ∧ R (Itl K a) H1) ∨ (∃ a, v = .ref a ∧ (∃ xs, SqT K H1 a xs) ∧ R (Itt K a) H1) ∨ ∃ z, v = .str z ∧ R (Its z) H1
theorem pi_seqR {l : Expr} {tl : TE} (hl : PE X l tl) : PI X tg l (iSeqR X.K tl) := ⟨fun pins s σ H R I h => thn (hl.run pins s σ H _ I h) fun v s1 ⟨y, H1, I1, r1, q1⟩ => by
  rcases q1 with ⟨a, rfl, ⟨xs, hq⟩, q⟩ | ⟨a, rfl, ⟨xs, hq⟩, q⟩ | ⟨z, rfl, q⟩
  · cases r1
    obtain ⟨its, rv, pl, hz⟩ := I1.list hq
    refine wpAny_pyIter_list pl.isList ?_
    exact pi_one (tk := s1.toks) I1 _ (turn_list a _) ⟨_, Heap.get?_push_size _ rfl, rfl, rfl⟩ q
  · cases r1
    obtain ⟨its, rv, pl, hz⟩ := I1.tuple hq
    refine wpAny_pyIter_tuple (show s1.heap.IsTuple a its.toArray from pl) ?_
    exact pi_one (tk := s1.toks) I1 _ (turn_tuple a _) ⟨_, Heap.get?_push_size _ rfl, rfl, rfl⟩ q
  · obtain ⟨t, rfl⟩ := r1
    cases ha : z.cps.all (· < 128)
    · exact wpAny_pyIter_wide ha (pi_one (tk := s1.toks) I1 _ (turn_str _ z t "str_iterator" (Or.inr rfl)) ⟨_, Heap.get?_push_size _ rfl, rfl, rfl⟩ q)
    · exact wpAny_pyIter_ascii ha (pi_one (tk := s1.toks) I1 _ (turn_str _ z t "str_ascii_iterator" (Or.inl rfl)) ⟨_, Heap.get?_push_size _ rfl, rfl, rfl⟩ q)⟩
open Classical in
/-- the list at n still holds xs -/
noncomputable def chkL (n : Nat) (xs : List MV) : M Unit := fun st => if st[n]? = some (.lst xs) then .ok () st else .fail
noncomputable def iSeq (f : Exp) : Itm := fun σ => f σ >>= fun x => match x with
  | .loc n => fun st => match st[n]? with
    | some (.lst xs) => .ok (xs, chkL n xs) st
    | _ => .fail
  | .rol xs => Pure.pure (xs, Pure.pure ())
  | .tup xs => Pure.pure (xs, Pure.pure ())
  | .str cs => Pure.pure (cs.map fun c => MV.str [c], Pure.pure ())
  | _ => M.fail
theorem itx_list {Z : Zc} {ρ : List Addr} {H : Hp} {n : Nat} {a : Addr} {xs : List MV} (ha : ρ[n]? = some a) : Itx Z (Itl Z.K a) xs (chkL n xs) ρ H where
  go := fun i x ρ1 H1 st hx e R hk => by
    have hs : st[n]? = some (.lst xs) := by
      unfold chkL at hk
      split at hk
      · assumption
      · cases hk
    obtain ⟨vs, q, r⟩ := R.ob n a _ (e.at ha) hs
    obtain ⟨v, e1, r1⟩ := r.get hx
    refine ⟨⟨vs, v, SqL.of q, e1⟩, fun u H' y => ?_⟩
    obtain ⟨rfl, y⟩ := y
    have e2 := y vs (SqL.of q)
    rw [e1] at e2
    cases e2
    exact ⟨ρ1, Ext.refl, R, r1⟩
  stop := fun ρ1 H1 st e R hk => by
    have hs : st[n]? = some (.lst xs) := by
      unfold chkL at hk
      split at hk
      · assumption
      · cases hk
    obtain ⟨vs, q, r⟩ := R.ob n a _ (e.at ha) hs
    exact ⟨vs, SqL.of q, by rw [r.length]; exact Nat.le_refl _⟩
  chk1 := fun st => by
    unfold chkL
    split
    · exact .inl rfl
    · exact .inr rfl
theorem itx_rol {Z : Zc} {ρ : List Addr} {H : Hp} {a : Addr} {xs : List MV} {vs : List V} (hq : SqF Z.K H a vs) (r : RVs Z ρ H xs vs) : Itx Z (Itl Z.K a) xs (Pure.pure ()) ρ H where
  go := fun i x ρ1 H1 st hx e R hk => by
    obtain ⟨v, e1, r1⟩ := r.get hx
    have q := (e.sqF hq).sq
    refine ⟨⟨vs, v, q, e1⟩, fun u H' y => ?_⟩
    obtain ⟨rfl, y⟩ := y
    have e2 := y vs q
    rw [e1] at e2
    cases e2
    exact ⟨ρ1, Ext.refl, R, r1.mono e⟩
  stop := fun ρ1 H1 st e R hk => ⟨vs, (e.sqF hq).sq, by rw [r.length]; exact Nat.le_refl _⟩
  chk1 := fun st => .inl rfl
theorem itx_tup {Z : Zc} {ρ : List Addr} {H : Hp} {a : Addr} {xs : List MV} {vs : List V} (hq : SqT Z.K H a vs) (r : RVs Z ρ H xs vs) : Itx Z (Itt Z.K a) xs (Pure.pure ()) ρ H where
  go := fun i x ρ1 H1 st hx e R hk => by
    obtain ⟨v, e1, r1⟩ := r.get hx
    have q := e.sqT hq
    refine ⟨⟨vs, v, q, e1⟩, fun u H' y => ?_⟩
    obtain ⟨rfl, y⟩ := y
    have e2 := y vs q
    rw [e1] at e2
    cases e2
    exact ⟨ρ1, Ext.refl, R, r1.mono e⟩
  stop := fun ρ1 H1 st e R hk => ⟨vs, e.sqT hq, by rw [r.length]; exact Nat.le_refl _⟩
  chk1 := fun st => .inl rfl
theorem goodS.one {s : List Nat} (h : goodS s) {c : Nat} (hc : c ∈ s) : goodS [c] := ⟨fun d hd => by simp at hd; subst hd; exact h.1 d hc, by simp⟩
theorem itx_str {Z : Zc} {ρ : List Addr} {H : Hp} {s : List Nat} (hg : goodS s) : Itx Z (Its ⟨s.toArray⟩) (s.map fun c => MV.str [c]) (Pure.pure ()) ρ H where
  go := fun i x ρ1 H1 st hx e R hk => by
    rw [List.getElem?_map] at hx
    cases q : s[i]? with
    | none => rw [q] at hx; cases hx
    | some c =>
      rw [q] at hx
      cases hx
      refine ⟨by show i < s.toArray.size; rw [List.size_toArray]; exact (List.getElem?_eq_some_iff.mp q).1, fun u H' y => ?_⟩
      obtain ⟨rfl, c', y, rfl⟩ := y
      have e2 : c = c' := by
        have y' : s.toArray[i]? = some c' := y
        rw [List.getElem?_toArray, q] at y'
        exact Option.some.inj y'
      subst e2
      exact ⟨ρ1, Ext.refl, R, rfl, hg.one (List.mem_of_getElem? q)⟩
  stop := fun ρ1 H1 st e R hk => by
    show s.toArray.size ≤ (s.map fun c => MV.str [c]).length
    simp
  chk1 := fun st => .inl rfl
theorem i_seq (h : PE X e (liftE (zc X cl xl) W f)) : PI X tg e (liftI (zc X cl xl) W (iSeq f)) :=
  (pi_seqR h).weak fun σV H R ⟨ρ, σ, st, R0, S, G⟩ => ⟨ρ, σ, st, R0, S, G.seq fun x st1 ρ1 H1 e1 R1 G1 v rv => by
    cases x with
    | loc n =>
      obtain ⟨a, rfl, ha⟩ := rv
      have G2 : Got (zc X cl xl) (fun c d H' => W c d σV H') ρ1 H1 (match st1[n]? with
        | some (.lst xs) => .ok (xs, chkL n xs) st1
        | _ => .fail : Res (List MV × M Unit)) (fun p st' ρ' H' => ∀ J, Itx (zc X cl xl) J p.1 p.2 ρ' H' → R J H') := G1
      cases q : st1[n]? with
      | none => rw [q] at G2; exact (show False from G2).elim
      | some o =>
        rw [q] at G2
        cases o with
        | lst xs =>
          obtain ⟨vs, q2, r⟩ := R1.ob n a _ ha q
          exact .inl ⟨a, rfl, ⟨vs, SqL.of q2⟩, G2 ρ1 H1 Ext.refl R1 _ (itx_list ha)⟩
        | ins c fs => exact (show False from G2).elim
    | rol xs =>
      obtain ⟨a, vs, rfl, hq, r⟩ := rv
      exact .inl ⟨a, rfl, ⟨vs, hq.sq⟩, G1.pure R1 _ (itx_rol hq r)⟩
    | tup xs =>
      obtain ⟨a, vs, rfl, hq, r⟩ := rv
      exact .inr (.inl ⟨a, rfl, ⟨vs, hq⟩, G1.pure R1 _ (itx_tup hq r)⟩)
    | str cs =>
      obtain ⟨rfl, hg⟩ := rv
      exact .inr (.inr ⟨_, rfl, G1.pure R1 _ (itx_str hg)⟩)
    | _ => exact (show False from G1).elim⟩
end
end Mi
end
section
set_option Elab.async false
set_option linter.all false
set_option maxRecDepth 100000
set_option maxHeartbeats 2000000
set_option autoImplicit false
/-! Mi4: operators, comparisons, built-ins by values. -/
namespace Mi
open PySem PySem.Spec L2

/-! ### data and == -/
mutual
def toD : MV → PyData
  | .non => .none
  | .bl b => .bool b
  | .int i => .int i
  | .str s => .str ⟨s.toArray⟩
  | .tup xs => .tuple (toDs xs)
  | .rol xs => .list (toDs xs)
  | .loc _ => .none
def toDs : List MV → List PyData
  | [] => []
  | x :: xs => toD x :: toDs xs
end
mutual
def depM : MV → Nat
  | .tup xs => depMs xs + 1
  | .rol xs => depMs xs + 1
  | .loc _ => 100
  | _ => 0
def depMs : List MV → Nat
  | [] => 0
  | x :: xs => max (depM x) (depMs xs)
end
def eqM (x y : MV) : Bool := PyData.eqv (toD x) (toD y)
section
variable {Z : Zc} {ρ : List Addr} {H : Hp}
theorem strOk_of {s : List Nat} (h : goodS s) : PySem.PyData.strOk ⟨s.toArray⟩ = true := by
  unfold PySem.PyData.strOk
  simp only [List.all_toArray, List.all_eq_true, decide_eq_true_eq]
  exact fun c hc => h.1 c hc
mutual
theorem dp_of : ∀ (x : MV) (v : V), depM x ≤ 60 → RV Z ρ H x v → Dp Z.K H v (toD x) ∧ (toD x).canLay0 = true ∧ (toD x).depth ≤ depM x
  | .non, v, _, r => by cases r; exact ⟨.non, rfl, Nat.le_refl _⟩
  | .bl b, v, _, r => by cases r; exact ⟨.bl b, rfl, Nat.le_refl _⟩
  | .int i, v, _, r => by cases r; exact ⟨.int i, rfl, Nat.le_refl _⟩
  | .str s, v, _, r => by
    obtain ⟨rfl, hg⟩ := r
    exact ⟨.str _, strOk_of hg, Nat.le_refl _⟩
  | .tup xs, v, hd, r => by
    obtain ⟨a, vs, rfl, hq, r⟩ := r
    have hd' : depMs xs + 1 ≤ 60 := hd
    obtain ⟨h1, h2, h3⟩ := dps_of xs vs (by omega) r
    exact ⟨.tup hq h1, h2, Nat.succ_le_succ h3⟩
  | .rol xs, v, hd, r => by
    obtain ⟨a, vs, rfl, hq, r⟩ := r
    have hd' : depMs xs + 1 ≤ 60 := hd
    obtain ⟨h1, h2, h3⟩ := dps_of xs vs (by omega) r
    exact ⟨.lst hq.sq h1, h2, Nat.succ_le_succ h3⟩
  | .loc n, v, hd, r => by
    have hd' : 100 ≤ 60 := hd
    omega
theorem dps_of : ∀ (xs : List MV) (vs : List V), depMs xs ≤ 60 → RVs Z ρ H xs vs → DpAll Z.K H vs (toDs xs) ∧ PyData.canLayAll0 (toDs xs) = true ∧ PyData.depthAll (toDs xs) ≤ depMs xs
  | [], vs, _, r => by cases r; exact ⟨.nil, rfl, Nat.le_refl _⟩
  | x :: xs, vs, hd, r => by
    obtain ⟨v, q, rfl, r1, r2⟩ := r
    have hd' : max (depM x) (depMs xs) ≤ 60 := hd
    obtain ⟨a1, a2, a3⟩ := dp_of x v (by omega) r1
    obtain ⟨b1, b2, b3⟩ := dps_of xs q (by omega) r2
    refine ⟨.cons a1 b1, ?_, ?_⟩
    · show (PyData.canLay0 (toD x) && PyData.canLayAll0 (toDs xs)) = true
      rw [a2, b2] <;> rfl
    · show max (PyData.depth (toD x)) (PyData.depthAll (toDs xs)) ≤ max (depM x) (depMs xs)
      omega
end
theorem shaped_of {x : MV} {v : V} (h : depM x ≤ 60) (r : RV Z ρ H x v) : Dp Z.K H v (toD x) ∧ SeqAt.shaped (toD x) = true := by
  obtain ⟨h1, h2, h3⟩ := dp_of x v h r
  refine ⟨h1, ?_⟩
  unfold SeqAt.shaped
  rw [h2, Bool.true_and, decide_eq_true_eq]
  omega
end
def gEq (_ : Sto) (x y : MV) : Option Bool := if depM x ≤ 60 ∧ depM y ≤ 60 then some (eqM x y) else none
def gNe (_ : Sto) (x y : MV) : Option Bool := if depM x ≤ 60 ∧ depM y ≤ 60 then some (!eqM x y) else none
section
variable {X : Cx} {cl xl : Nat → Addr}
theorem sim_eq : SimCmp (zc X cl xl) (rEqD X.K) gEq := fun ρ H st x y v u Q k R rv ru e q => by
  unfold gEq at e
  split at e
  · rename_i h
    cases e
    obtain ⟨d1, s1⟩ := shaped_of h.1 rv
    obtain ⟨d2, s2⟩ := shaped_of h.2 ru
    exact ⟨_, _, d1, d2, s1, s2, q⟩
  · cases e
theorem sim_ne : SimCmp (zc X cl xl) (rNeD X.K) gNe := fun ρ H st x y v u Q k R rv ru e q => by
  unfold gNe at e
  split at e
  · rename_i h
    cases e
    obtain ⟨d1, s1⟩ := shaped_of h.1 rv
    obtain ⟨d2, s2⟩ := shaped_of h.2 ru
    exact ⟨_, _, d1, d2, s1, s2, q⟩
  · cases e
/-- < <= > >= of ints -/
def gI (p : Int → Int → Bool) (_ : Sto) : MV → MV → Option Bool
  | .int i, .int j => some (p i j)
  | _, _ => none
theorem sim_I {p : Int → Int → Bool} : SimCmp (zc X cl xl) (rI0 fun i j => .bl (p i j)) (gI p) := fun ρ H st x y v u Q k R rv ru e q => by
  cases x with
  | int i =>
    cases y with
    | int j =>
      cases e
      cases rv
      cases ru
      exact ⟨i, j, rfl, rfl, q⟩
    | _ => cases e
  | _ => cases e
/-- one sign in a text; a flat value in a tuple or list -/
def flatM : MV → Bool
  | .non => true
  | .bl _ => true
  | .int _ => true
  | .str _ => true
  | _ => false
def inM (x : MV) (xs : List MV) : Bool := xs.any fun y => eqM y x
def gIn (st : Sto) : MV → MV → Option Bool
  | .str [c], .str z => some (decide (c ∈ z))
  | x, .tup ys => if flatM x && ys.all flatM then some (inM x ys) else none
  | x, .rol ys => if flatM x && ys.all flatM then some (inM x ys) else none
  | x, .loc n => match st[n]? with
    | some (.lst ys) => if flatM x && ys.all flatM then some (inM x ys) else none
    | _ => none
  | _, _ => none
theorem flat_of {ρ : List Addr} {H : Hp} {x : MV} {v : V} (r : RV (zc X cl xl) ρ H x v) (h : flatM x = true) : flatV v = true := by
  cases x with
  | non => cases r; rfl
  | bl b => cases r; rfl
  | int i => cases r; rfl
  | str s => obtain ⟨rfl, _⟩ := r; rfl
  | _ => cases h
theorem str_beq (a b : List Nat) : ((⟨a.toArray⟩ : Str) == ⟨b.toArray⟩) = (a == b) := by
  rw [Bool.eq_iff_iff, beq_iff_eq, beq_iff_eq]
  constructor
  · intro h
    have := congrArg (fun z : Str => z.cps.toList) h
    simpa using this
  · intro h
    rw [h]
theorem eqV_of {ρ : List Addr} {H : Hp} {x y : MV} {v u : V} (rx : RV (zc X cl xl) ρ H x v) (ry : RV (zc X cl xl) ρ H y u) (hx : flatM x = true) (hy : flatM y = true) : eqV v u = eqM x y := by
  cases x with
  | non => cases rx; cases y with
    | non => cases ry; rfl
    | bl b => cases ry; rfl
    | int i => cases ry; rfl
    | str s => obtain ⟨rfl, _⟩ := ry; rfl
    | _ => cases hy
  | bl a => cases rx; cases y with
    | non => cases ry; rfl
    | bl b => cases ry; rfl
    | int i => cases ry; rfl
    | str s => obtain ⟨rfl, _⟩ := ry; rfl
    | _ => cases hy
  | int a => cases rx; cases y with
    | non => cases ry; rfl
    | bl b => cases ry; rfl
    | int i => cases ry; rfl
    | str s => obtain ⟨rfl, _⟩ := ry; rfl
    | _ => cases hy
  | str a => obtain ⟨rfl, _⟩ := rx; cases y with
    | non => cases ry; rfl
    | bl b => cases ry; rfl
    | int i => cases ry; rfl
    | str s => obtain ⟨rfl, _⟩ := ry; rfl
    | _ => cases hy
  | _ => cases hx
theorem any_of {ρ : List Addr} {H : Hp} {x : MV} {v : V} (rx : RV (zc X cl xl) ρ H x v) (hx : flatM x = true) : ∀ {ys : List MV} {us : List V}, RVs (zc X cl xl) ρ H ys us → ys.all flatM = true → us.all flatV = true ∧ inV v us = inM x ys
  | [], _, r, _ => by cases r; exact ⟨rfl, rfl⟩
  | y :: ys, _, r, h => by
    obtain ⟨u, q, rfl, r1, r2⟩ := r
    rw [List.all_cons, Bool.and_eq_true] at h
    obtain ⟨h1, h2⟩ := any_of rx hx r2 h.2
    refine ⟨by rw [List.all_cons, flat_of r1 h.1, h1]; rfl, ?_⟩
    unfold inV inM at *
    rw [List.any_cons, List.any_cons, eqV_of r1 rx h.1 hx, h2]
def rInX (K : PySem.W.Frag) (neg : Bool) : R2 := fun x y H Q => (∃ (c : Nat) (z : Str), x = .str ⟨#[c]⟩ ∧ y = .str z ∧ Q (.bl (if neg then !decide (c ∈ z.cps.toList) else decide (c ∈ z.cps.toList))) H) ∨ rIn K neg x y H Q
theorem op_inX : OpR X (compareOp .In) (rInX X.K false) := OpR.or (fun pins s σ H x y v u Q I rx ry h => op_in_sign pins s σ H x y v u Q I rx ry h) op_in_seq
theorem op_notInX : OpR X (compareOp .NotIn) (rInX X.K true) := OpR.or (fun pins s σ H x y v u Q I rx ry h => op_notIn_sign pins s σ H x y v u Q I rx ry h) op_notIn_seq
def gNotIn (st : Sto) (x y : MV) : Option Bool := (gIn st x y).map (!·)
theorem sim_in {neg : Bool} : SimCmp (zc X cl xl) (rInX X.K neg) (fun st x y => (gIn st x y).map fun b => if neg then !b else b) := fun ρ H st x y v u Q k R rv ru e q => by
  have key : ∀ (ys : List MV) (us : List V) (p : Addr), u = .ref p → (SqL X.K H p us ∨ SqT X.K H p us) → RVs (zc X cl xl) ρ H ys us → (if (flatM x && ys.all flatM) = true then some (inM x ys) else none).map (fun b => if neg = true then !b else b) = some k → rInX X.K neg v u H Q := by
    intro ys us p hp hs r e
    by_cases h0 : (flatM x && ys.all flatM) = true
    · rw [if_pos h0] at e
      have h := h0
      rw [Bool.and_eq_true] at h
      obtain ⟨h1, h2⟩ := any_of rv h.1 r h.2
      refine .inr ⟨p, us, hp, hs, flat_of rv h.1, h1, ?_⟩
      rw [h2]
      have e' : (if neg = true then !inM x ys else inM x ys) = k := Option.some.inj e
      rw [e']
      exact q
    · rw [if_neg h0] at e
      cases e
  cases y with
  | tup ys =>
    obtain ⟨p, us, hp, hs, r⟩ := ru
    refine key ys us p hp (.inr hs) r ?_
    cases x <;> first | exact e | (rename_i s; cases s <;> first | exact e | (rename_i t; cases t <;> exact e))
  | rol ys =>
    obtain ⟨p, us, hp, hs, r⟩ := ru
    refine key ys us p hp (.inl hs.sq) r ?_
    cases x <;> first | exact e | (rename_i s; cases s <;> first | exact e | (rename_i t; cases t <;> exact e))
  | loc n =>
    obtain ⟨p, hp, ha⟩ := ru
    have e2 : (match st[n]? with
      | some (.lst ys) => if (flatM x && ys.all flatM) = true then some (inM x ys) else none
      | _ => none).map (fun b => if neg = true then !b else b) = some k := by
      cases x <;> first | exact e | (rename_i s; cases s <;> first | exact e | (rename_i t; cases t <;> exact e))
    cases q2 : st[n]? with
    | none => rw [q2] at e2; cases e2
    | some o =>
      rw [q2] at e2
      cases o with
      | lst ys =>
        obtain ⟨us, hu, r⟩ := R.ob n p _ ha q2
        exact key ys us p hp (.inl (SqL.of hu)) r e2
      | ins c fs => cases e2
  | str z =>
    obtain ⟨rfl, _⟩ := ru
    cases x with
    | str s =>
      obtain ⟨rfl, _⟩ := rv
      cases s with
      | nil => cases e
      | cons c t => cases t with
        | nil =>
          refine .inl ⟨c, _, rfl, rfl, ?_⟩
          have e' : (if neg = true then !decide (c ∈ z) else decide (c ∈ z)) = k := Option.some.inj e
          show Q (V.bl (if neg = true then !decide (c ∈ z) else decide (c ∈ z))) H
          rw [e']
          exact q
        | cons d t => cases e
    | _ => cases e
  | _ =>
    exfalso
    revert e
    cases x <;> first | (intro e; cases e; done) | (rename_i s; cases s <;> first | (intro e; cases e; done) | (rename_i t; cases t <;> (intro e; cases e; done)))
end

/-! ### + - * // % ** << -/
def mAdd : MV → MV → M MV
  | .int i, .int j => Pure.pure (.int (i + j))
  | .str a, .str b => if a.length + b.length ≤ 16777216 then Pure.pure (.str (a ++ b)) else M.fail
  | .tup xs, .tup ys => if xs.length + ys.length ≤ 16777216 then Pure.pure (.tup (xs ++ ys)) else M.fail
  | .loc n, .loc m => fun st => match st[n]?, st[m]? with
    | some (.lst xs), some (.lst ys) => if xs.length + ys.length ≤ 16777216 then alloc (.lst (xs ++ ys)) st else .fail
    | _, _ => .fail
  | _, _ => M.fail
section
variable {X : Cx} {cl xl : Nat → Addr}
def rAddX (K : PySem.W.Frag) : R2 := fun x y H Q => (rI0 (fun i j => .int (i + j)) x y H Q ∨ (∃ i j, x = .str i ∧ y = .str j ∧ i.length + j.length ≤ sizeLine ∧ Q (.str (i ++ j)) H)) ∨ (rCatA K x y H Q ∨ rCat x y H Q)
theorem op_addX : OpR X (binaryOp .Add) (rAddX X.K) := (op_add.or op_add_str).or (op_catA.or op_cat)
theorem goodS.append {a b : List Nat} (ha : goodS a) (hb : goodS b) (h : a.length + b.length ≤ 16777216) : goodS (a ++ b) :=
  ⟨fun c hc => (List.mem_append.mp hc).elim (ha.1 c) (hb.1 c), by rw [List.length_append]; exact h⟩
theorem sim_add : SimOp (zc X cl xl) (rAddX X.K) mAdd := fun W ρ H st x y v u Q R rv ru G => by
  cases x with
  | int i => cases y with
    | int j =>
      cases rv
      cases ru
      exact .inl (.inl ⟨i, j, rfl, rfl, Got.pure G R _ rfl⟩)
    | _ => exact (show False from G).elim
  | str a => cases y with
    | str b =>
      obtain ⟨rfl, ha⟩ := rv
      obtain ⟨rfl, hb⟩ := ru
      have G2 : Got (zc X cl xl) W ρ H ((if a.length + b.length ≤ 16777216 then Pure.pure (.str (a ++ b)) else M.fail : M MV) st) (PV _ Q) := G
      split at G2
      · rename_i hl
        refine .inl (.inr ⟨_, _, rfl, rfl, by rw [sizeL]; simpa [Str.length] using hl, ?_⟩)
        have e : ((⟨a.toArray⟩ : Str) ++ ⟨b.toArray⟩) = ⟨(a ++ b).toArray⟩ := by
          show Str.append _ _ = _
          unfold Str.append
          simp
        rw [e]
        exact Got.pure G2 R _ ⟨rfl, ha.append hb hl⟩
      · exact (show False from G2).elim
    | _ => exact (show False from G).elim
  | tup xs => cases y with
    | tup ys =>
      obtain ⟨a, vs, rfl, hq, r⟩ := rv
      obtain ⟨b, us, rfl, hq2, r2⟩ := ru
      have G2 : Got (zc X cl xl) W ρ H ((if xs.length + ys.length ≤ 16777216 then Pure.pure (.tup (xs ++ ys)) else M.fail : M MV) st) (PV _ Q) := G
      split at G2
      · rename_i hl
        refine .inr (.inl ⟨a, b, vs, us, rfl, rfl, hq, hq2, by rw [sizeL, ← r.length, ← r2.length]; exact hl, fun e => ?_, fun _ e => ?_, fun _ _ p hp => ?_⟩)
        · subst e
          have : xs = [] := by
            have := r.length
            simpa using this
          subst this
          exact Got.pure G2 R _ ⟨b, us, rfl, hq2, by simpa using r2⟩
        · subst e
          have : ys = [] := by
            have := r2.length
            simpa using this
          subst this
          exact Got.pure G2 R _ ⟨a, vs, rfl, hq, by simpa using r⟩
        · exact got_tup G2 R (r.append r2) hp
      · exact (show False from G2).elim
    | _ => exact (show False from G).elim
  | loc n => cases y with
    | loc m =>
      obtain ⟨a, rfl, ha⟩ := rv
      obtain ⟨b, rfl, hb⟩ := ru
      have G2 : Got (zc X cl xl) W ρ H (match st[n]?, st[m]? with
        | some (.lst xs), some (.lst ys) => if xs.length + ys.length ≤ 16777216 then alloc (.lst (xs ++ ys)) st else .fail
        | _, _ => .fail) (PV _ Q) := G
      cases q1 : st[n]? with
      | none => rw [q1] at G2; exact (show False from G2).elim
      | some o1 =>
        cases q2 : st[m]? with
        | none => rw [q1, q2] at G2; cases o1 <;> exact (show False from G2).elim
        | some o2 =>
          rw [q1, q2] at G2
          cases o1 with
          | ins c fs => exact (show False from G2).elim
          | lst xs => cases o2 with
            | ins c fs => exact (show False from G2).elim
            | lst ys =>
              have G3 : Got (zc X cl xl) W ρ H (if xs.length + ys.length ≤ 16777216 then alloc (.lst (xs ++ ys)) st else .fail) (PV _ Q) := G2
              split at G3
              · rename_i hl
                obtain ⟨vs, e1, r1⟩ := R.ob n a _ ha q1
                obtain ⟨us, e2, r2⟩ := R.ob m b _ hb q2
                exact .inr (.inr ⟨a, b, vs, us, rfl, rfl, e1, e2, by rw [sizeL, ← r1.length, ← r2.length]; exact hl, fun p hp => got_list G3 R (r1.append r2) hp⟩)
              · exact (show False from G3).elim
    | _ => exact (show False from G).elim
  | _ => exact (show False from G).elim
/-- ints under a condition -/
def mI (c : Int → Int → Bool) (g : Int → Int → Int) : MV → MV → M MV
  | .int i, .int j => if c i j = true then Pure.pure (.int (g i j)) else M.fail
  | _, _ => M.fail
theorem sim_int {C : Int → Int → Prop} {c : Int → Int → Bool} {g : Int → Int → Int} (h : ∀ i j, c i j = true → C i j) : SimOp (zc X cl xl) (rI C fun i j => .int (g i j)) (mI c g) := fun W ρ H st x y v u Q R rv ru G => by
  cases x with
  | int i => cases y with
    | int j =>
      cases rv
      cases ru
      have G2 : Got (zc X cl xl) W ρ H ((if c i j = true then Pure.pure (.int (g i j)) else M.fail : M MV) st) (PV _ Q) := G
      split at G2
      · rename_i hc
        exact ⟨i, j, rfl, rfl, h i j hc, Got.pure G2 R _ rfl⟩
      · exact (show False from G2).elim
    | _ => exact (show False from G).elim
  | _ => exact (show False from G).elim
def mSub : MV → MV → M MV
  | .int i, .int j => Pure.pure (.int (i - j))
  | _, _ => M.fail
theorem sim_sub : SimOp (zc X cl xl) (rI0 fun i j => .int (i - j)) mSub := fun W ρ H st x y v u Q R rv ru G => by
  cases x with
  | int i => cases y with
    | int j =>
      cases rv
      cases ru
      exact ⟨i, j, rfl, rfl, Got.pure G R _ rfl⟩
    | _ => exact (show False from G).elim
  | _ => exact (show False from G).elim
def cMul (i j : Int) : Bool := decide ((-(2 ^ 64) < i ∧ i < 2 ^ 64) ∨ (-(2 ^ 64) < j ∧ j < 2 ^ 64))
def cDiv (_ j : Int) : Bool := decide (0 < j ∧ j < 1073741824)
def cMod (_ j : Int) : Bool := decide (0 < j)
def cPow (i j : Int) : Bool := decide (0 ≤ j ∧ j ≤ 1000000 ∧ i.natAbs < 2 ^ 64)
abbrev mDiv : MV → MV → M MV := mI cDiv fun i j => i / j
abbrev mMod : MV → MV → M MV := mI cMod fun i j => i % j
abbrev mPow : MV → MV → M MV := mI cPow fun i j => i ^ j.toNat
abbrev mShl : MV → MV → M MV := mI cPow fun i j => i * 2 ^ j.toNat
theorem sim_div : SimOp (zc X cl xl) (rI CDiv fun i j => .int (i / j)) mDiv := sim_int fun i j h => of_decide_eq_true (p := 0 < j ∧ j < 1073741824) h
theorem sim_mod : SimOp (zc X cl xl) (rI (fun _ j => 0 < j) fun i j => .int (i % j)) mMod := sim_int fun i j h => of_decide_eq_true h
theorem sim_pow : SimOp (zc X cl xl) (rI CPow fun i j => .int (i ^ j.toNat)) mPow := sim_int fun i j h => of_decide_eq_true (p := 0 ≤ j ∧ j ≤ 1000000 ∧ i.natAbs < 2 ^ 64) h
theorem sim_shl : SimOp (zc X cl xl) (rI CPow fun i j => .int (i * 2 ^ j.toNat)) mShl := sim_int fun i j h => of_decide_eq_true (p := 0 ≤ j ∧ j ≤ 1000000 ∧ i.natAbs < 2 ^ 64) h
/-- a text so many times -/
def repS (s : List Nat) (n : Nat) : List Nat := (List.replicate n s).flatten
def mMul : MV → MV → M MV
  | .int i, .int j => if cMul i j = true then Pure.pure (.int (i * j)) else M.fail
  | .str s, .int n => if -(2 ^ 31) ≤ n ∧ n < 2 ^ 31 ∧ s.length * n.toNat ≤ 16777216 then Pure.pure (.str (repS s n.toNat)) else M.fail
  | .loc n, .int k => fun st => match st[n]? with
    | some (.lst xs) => if -(2 ^ 63) ≤ k ∧ k < 2 ^ 63 ∧ xs.length * k.toNat ≤ 16777216 then alloc (.lst (List.replicate k.toNat xs).flatten) st else .fail
    | _ => .fail
  | _, _ => M.fail
end
end Mi
end
section
set_option Elab.async false
set_option linter.all false
set_option maxRecDepth 100000
set_option maxHeartbeats 2000000
set_option autoImplicit false
/-! Mi5: built-in calls, subscripts, slices, list methods. -/
namespace Mi
open PySem PySem.Spec L2

section
variable {X : Cx} {cl xl : Nat → Addr}
/-! ### * -/
theorem rep_fold (s : List Nat) : ∀ (n : Nat) (acc : Array Nat), ((List.replicate n s.toArray).foldl (· ++ ·) acc) = acc ++ (repS s n).toArray
  | 0, acc => by simp [repS]
  | n + 1, acc => by
    rw [List.replicate_succ, List.foldl_cons, rep_fold s n]
    simp [repS, List.replicate_succ, Array.append_assoc]
theorem repS_len (s : List Nat) (n : Nat) : (repS s n).length = s.length * n := by
  unfold repS
  induction n with
  | zero => simp
  | succ n ih => rw [List.replicate_succ, List.flatten_cons, List.length_append, ih, Nat.mul_succ, Nat.add_comm]
theorem op_mulS : OpR X (binaryOp .Mult) (fun x y H Q => ∃ (s : List Nat) (n : Int), x = .str ⟨s.toArray⟩ ∧ y = .int n ∧ -(2 ^ 31) ≤ n ∧ n < 2 ^ 31 ∧ s.length * n.toNat ≤ 16777216 ∧ Q (.str ⟨(repS s n.toNat).toArray⟩) H) := by
  intro pins s0 σ H x y v u Q I rx ry h
  obtain ⟨s, n, rfl, rfl, h1, h2, h3, q⟩ := h
  obtain ⟨t, rfl⟩ := rx
  obtain ⟨t', rfl⟩ := ry
  have hlen : (⟨s.toArray⟩ : Str).length = s.length := by simp [Str.length]
  refine PySem.SB.mul (x := ⟨s.toArray⟩) (n := n) ⟨?_, fun hn hb => ?_, fun hn hb => ?_⟩ fun t2 k => ⟨.str _, H, I.tok k, ⟨t2, ?_⟩, q⟩
  · have e1 : decide (n < -(2 ^ 63 : Int)) = false := decide_eq_false (by omega)
    have e2 : decide (n ≥ (2 ^ 63 : Int)) = false := decide_eq_false (by omega)
    rw [e1, e2] <;> rfl
  · rw [hlen]
    have hn1 : 1 ≤ n := by omega
    have hs : s.length ≤ 16777216 := by
      have : 1 ≤ n.toNat := by omega
      calc s.length = s.length * 1 := by omega
        _ ≤ s.length * n.toNat := Nat.mul_le_mul_left _ this
        _ ≤ 16777216 := h3
    have hq : (2 ^ 63 - 1) / n ≥ 16777216 := by
      have : (16777216 : Int) * n ≤ 2 ^ 63 - 1 := by omega
      exact (Int.le_ediv_iff_mul_le (by omega)).mpr this
    omega
  · rw [hlen]
    show PySem.Builtin.Str.tooLong (s.length * n.toNat) = false
    exact notLongS h3
  · unfold PySem.Txt.mul
    rw [hlen]
    by_cases hn : n < 1
    · rw [if_pos hn]
      have : n.toNat = 0 := by omega
      rw [this]
      rfl
    · rw [if_neg hn]
      by_cases hb : (n == 1 || s.length == 0) = true
      · rw [if_pos hb]
        rw [Bool.or_eq_true, beq_iff_eq, beq_iff_eq] at hb
        rcases hb with hb | hb
        · subst hb
          simp [repS]
        · have : s = [] := List.eq_nil_of_length_eq_zero hb
          subst this
          simp [repS]
      · rw [if_neg hb, rep_fold]
        simp
where
  notLongS {n : Nat} (h : n ≤ 16777216) : PySem.Builtin.Str.tooLong n = false := by
    unfold PySem.Builtin.Str.tooLong
    first
      | exact decide_eq_false (by rw [sizeL]; omega)
      | (simp [sizeL]; omega)
def rMulX : R2 := fun x y H Q => rI CMul (fun i j => .int (i * j)) x y H Q ∨ ((∃ (s : List Nat) (n : Int), x = .str ⟨s.toArray⟩ ∧ y = .int n ∧ -(2 ^ 31) ≤ n ∧ n < 2 ^ 31 ∧ s.length * n.toNat ≤ 16777216 ∧ Q (.str ⟨(repS s n.toNat).toArray⟩) H) ∨ rRep x y H Q)
theorem op_mulX' : OpR X (binaryOp .Mult) rMulX := op_mul.or (op_mulS.or op_rep)
theorem goodS.rep {s : List Nat} {n : Nat} (h : goodS s) (hl : s.length * n ≤ 16777216) : goodS (repS s n) := by
  refine ⟨fun c hc => ?_, by rw [repS_len]; exact hl⟩
  unfold repS at hc
  rw [List.mem_flatten] at hc
  obtain ⟨l, h1, h2⟩ := hc
  rw [List.mem_replicate] at h1
  rw [h1.2] at h2
  exact h.1 c h2
theorem RVs.flat {Z : Zc} {ρ : List Addr} {H : Hp} {xs : List MV} {vs : List V} (h : RVs Z ρ H xs vs) : ∀ n : Nat, RVs Z ρ H (List.replicate n xs).flatten (List.replicate n vs).flatten
  | 0 => rfl
  | n + 1 => by
    rw [List.replicate_succ, List.replicate_succ, List.flatten_cons, List.flatten_cons]
    exact h.append (h.flat n)
theorem sim_mul : SimOp (zc X cl xl) rMulX mMul := fun W ρ H st x y v u Q R rv ru G => by
  cases x with
  | int i => cases y with
    | int j =>
      cases rv
      cases ru
      have G2 : Got (zc X cl xl) W ρ H ((if cMul i j = true then Pure.pure (.int (i * j)) else M.fail : M MV) st) (PV _ Q) := G
      split at G2
      · rename_i hc
        exact .inl ⟨i, j, rfl, rfl, of_decide_eq_true (p := (-(2 ^ 64) < i ∧ i < 2 ^ 64) ∨ (-(2 ^ 64) < j ∧ j < 2 ^ 64)) hc, Got.pure G2 R _ rfl⟩
      · exact (show False from G2).elim
    | _ => exact (show False from G).elim
  | str s => cases y with
    | int n =>
      obtain ⟨rfl, hg⟩ := rv
      cases ru
      have G2 : Got (zc X cl xl) W ρ H ((if -(2 ^ 31) ≤ n ∧ n < 2 ^ 31 ∧ s.length * n.toNat ≤ 16777216 then Pure.pure (.str (repS s n.toNat)) else M.fail : M MV) st) (PV _ Q) := G
      split at G2
      · rename_i hc
        exact .inr (.inl ⟨s, n, rfl, rfl, hc.1, hc.2.1, hc.2.2, Got.pure G2 R _ ⟨rfl, hg.rep hc.2.2⟩⟩)
      · exact (show False from G2).elim
    | _ => exact (show False from G).elim
  | loc n => cases y with
    | int k =>
      obtain ⟨a, rfl, ha⟩ := rv
      cases ru
      have G2 : Got (zc X cl xl) W ρ H (match st[n]? with
        | some (.lst xs) => if -(2 ^ 63) ≤ k ∧ k < 2 ^ 63 ∧ xs.length * k.toNat ≤ 16777216 then alloc (.lst (List.replicate k.toNat xs).flatten) st else .fail
        | _ => .fail) (PV _ Q) := G
      cases q : st[n]? with
      | none => rw [q] at G2; exact (show False from G2).elim
      | some o =>
        rw [q] at G2
        cases o with
        | ins c fs => exact (show False from G2).elim
        | lst xs =>
          have G3 : Got (zc X cl xl) W ρ H (if -(2 ^ 63) ≤ k ∧ k < 2 ^ 63 ∧ xs.length * k.toNat ≤ 16777216 then alloc (.lst (List.replicate k.toNat xs).flatten) st else .fail) (PV _ Q) := G2
          split at G3
          · rename_i hc
            obtain ⟨vs, e1, r1⟩ := R.ob n a _ ha q
            exact .inr (.inr ⟨a, k, vs, rfl, rfl, e1, hc.1, hc.2.1, by rw [sizeL, ← r1.length]; exact hc.2.2, fun p hp => got_list G3 R (r1.flat _) hp⟩)
          · exact (show False from G3).elim
    | _ => exact (show False from G).elim
  | _ => exact (show False from G).elim

/-! ### the list behind a value -/
/-- the items of a list, tuple, read-only list -/
def seqM (st : Sto) : MV → Option (List MV)
  | .tup xs => some xs
  | .rol xs => some xs
  | .loc n => match st[n]? with
    | some (.lst xs) => some xs
    | _ => none
  | _ => none
theorem seq_of {ρ : List Addr} {H : Hp} {st : Sto} {x : MV} {v : V} {xs : List MV} (R : Rep (zc X cl xl) ρ H st) (r : RV (zc X cl xl) ρ H x v) (h : seqM st x = some xs) :
    ∃ p vs, v = .ref p ∧ (SqL X.K H p vs ∨ SqT X.K H p vs) ∧ RVs (zc X cl xl) ρ H xs vs := by
  cases x with
  | tup ys =>
    cases h
    obtain ⟨a, vs, rfl, hq, r⟩ := r
    exact ⟨a, vs, rfl, .inr hq, r⟩
  | rol ys =>
    cases h
    obtain ⟨a, vs, rfl, hq, r⟩ := r
    exact ⟨a, vs, rfl, .inl hq.sq, r⟩
  | loc n =>
    obtain ⟨a, rfl, ha⟩ := r
    have h' : (match st[n]? with
      | some (.lst xs) => some xs
      | _ => none) = some xs := h
    cases q : st[n]? with
    | none => rw [q] at h'; cases h'
    | some o =>
      rw [q] at h'
      cases o with
      | ins c fs => cases h'
      | lst ys =>
        cases h'
        obtain ⟨vs, e1, r1⟩ := R.ob n a _ ha q
        exact ⟨a, vs, rfl, .inl (SqL.of e1), r1⟩
  | _ => cases h

/-! ### built-ins -/
def mLen : List MV → M MV
  | [.str s] => Pure.pure (.int s.length)
  | [x] => fun st => match seqM st x with
    | some xs => .ok (.int xs.length) st
    | none => .fail
  | _ => M.fail
def rLenX (K : PySem.W.Frag) : List V → Hp → VK → Prop := fun xs H Q => (∃ p ys, xs = [.ref p] ∧ (SqL K H p ys ∨ SqT K H p ys) ∧ Q (.int ys.length) H) ∨ (∃ z, xs = [.str z] ∧ z.length ≤ sizeLine ∧ Q (.int z.length) H)
theorem call_lenX : CallR X (.builtin "len") (rLenX X.K) := call_len_seq.or call_len_str
theorem sim_len : SimCall (zc X cl xl) (rLenX X.K) mLen := fun W ρ H st xs vs Q R r G => by
  match xs, r with
  | [], r => exact (show False from G).elim
  | x :: y :: xs, r => cases x <;> exact (show False from G).elim
  | [x], r =>
    obtain ⟨v, q, rfl, r1, rfl⟩ := r
    have key : Got (zc X cl xl) W ρ H (match seqM st x with
        | some xs => .ok (.int xs.length) st
        | none => .fail : Res MV) (PV (zc X cl xl) Q) → rLenX X.K [v] H Q := by
      intro G
      cases e : seqM st x with
      | none => rw [e] at G; exact (show False from G).elim
      | some ys =>
        rw [e] at G
        obtain ⟨p, us, rfl, hs, r2⟩ := seq_of R r1 e
        refine .inl ⟨p, us, rfl, hs, ?_⟩
        rw [← r2.length]
        exact got_val (Z := zc X cl xl) G R rfl
    cases x with
    | str s =>
      obtain ⟨rfl, hg⟩ := r1
      refine .inr ⟨_, rfl, by rw [sizeL]; simpa [Str.length] using hg.2, ?_⟩
      have := got_val (Z := zc X cl xl) (v := .int s.length) (show Got (zc X cl xl) W ρ H (Res.ok (.int s.length) st) (PV _ Q) from G) R rfl
      simpa [Str.length] using this
    | _ => exact key G
def strI (i : Int) : List Nat := (toString i).toList.map Char.toNat
theorem strI_str (i : Int) : ((toString i : String) : Str) = ⟨(strI i).toArray⟩ := by
  show Str.ofString (toString i) = _
  rw [Str.ofString_eq_toList]
  rfl
theorem strI_lt (i : Int) : ∀ c ∈ strI i, c < 1114112 := fun c hc => by
  unfold strI at hc
  rw [List.mem_map] at hc
  obtain ⟨d, _, rfl⟩ := hc
  have := d.valid
  simp only [UInt32.isValidChar, Nat.isValidChar] at this
  show d.val.toNat < 1114112
  omega
def mStr : List MV → M MV
  | [.str s] => Pure.pure (.str s)
  | [.int i] => if i.natAbs.log2 < 1920 ∧ (strI i).length ≤ 16777216 then Pure.pure (.str (strI i)) else M.fail
  | _ => M.fail
def rStrX : List V → Hp → VK → Prop := fun xs H Q => (∃ i, xs = [.int i] ∧ i.natAbs.log2 < 1920 ∧ Q (.str (toString i)) H) ∨ (∃ a, xs = [.str a] ∧ Q (.str a) H)
theorem call_strX : CallR X (.type "str") rStrX := call_str_int.or SkE.call_str_str
theorem sim_str : SimCall (zc X cl xl) rStrX mStr := fun W ρ H st xs vs Q R r G => by
  match xs, r with
  | [], r => exact (show False from G).elim
  | x :: y :: xs, r => cases x <;> exact (show False from G).elim
  | [x], r =>
    obtain ⟨v, q, rfl, r1, rfl⟩ := r
    cases x with
    | str s =>
      obtain ⟨rfl, hg⟩ := r1
      exact .inr ⟨_, rfl, Got.pure G R _ ⟨rfl, hg⟩⟩
    | int i =>
      cases r1
      have G2 : Got (zc X cl xl) W ρ H ((if i.natAbs.log2 < 1920 ∧ (strI i).length ≤ 16777216 then Pure.pure (.str (strI i)) else M.fail : M MV) st) (PV _ Q) := G
      split at G2
      · rename_i hc
        refine .inl ⟨i, rfl, hc.1, ?_⟩
        rw [strI_str]
        exact Got.pure G2 R _ ⟨rfl, strI_lt i, hc.2⟩
      · exact (show False from G2).elim
    | _ => exact (show False from G).elim
def mInt : List MV → M MV
  | [.int i] => Pure.pure (.int i)
  | [.bl b] => Pure.pure (.int (if b then 1 else 0))
  | [.str s] => if s.length ≤ 640 then M.opt ((PySem.intText? ⟨s.toArray⟩).map MV.int) else M.fail
  | _ => M.fail
def rIntX : List V → Hp → VK → Prop := fun xs H Q => ((∃ i, xs = [.int i] ∧ Q (.int i) H) ∨ ∃ k, xs = [.bl k] ∧ Q (.int (if k then 1 else 0)) H) ∨ (∃ a n, xs = [.str a] ∧ PySem.intText? a = some n ∧ a.length ≤ 640 ∧ Q (.int n) H)
theorem call_intX : CallR X (.type "int") rIntX := call_int1.or call_int_str
theorem sim_int_ : SimCall (zc X cl xl) rIntX mInt := fun W ρ H st xs vs Q R r G => by
  match xs, r with
  | [], r => exact (show False from G).elim
  | x :: y :: xs, r => cases x <;> exact (show False from G).elim
  | [x], r =>
    obtain ⟨v, q, rfl, r1, rfl⟩ := r
    cases x with
    | int i => cases r1; exact .inl (.inl ⟨i, rfl, Got.pure G R _ rfl⟩)
    | bl b => cases r1; exact .inl (.inr ⟨b, rfl, Got.pure G R _ rfl⟩)
    | str s =>
      obtain ⟨rfl, hg⟩ := r1
      have G2 : Got (zc X cl xl) W ρ H ((if s.length ≤ 640 then M.opt ((PySem.intText? ⟨s.toArray⟩).map MV.int) else M.fail : M MV) st) (PV _ Q) := G
      split at G2
      · rename_i hc
        obtain ⟨y, e, q⟩ := Got.opt G2 R
        cases e2 : PySem.intText? ⟨s.toArray⟩ with
        | none => rw [e2] at e; cases e
        | some n =>
          rw [e2] at e
          cases e
          exact .inr ⟨_, n, rfl, e2, by simpa [Str.length] using hc, q _ rfl⟩
      · exact (show False from G2).elim
    | _ => exact (show False from G).elim
def mAbs : List MV → M MV
  | [.int i] => Pure.pure (.int (if i < 0 then -i else i))
  | _ => M.fail
theorem sim_abs : SimCall (zc X cl xl) (fun xs H Q => ∃ i, xs = [.int i] ∧ Q (.int (if i < 0 then -i else i)) H) mAbs := fun W ρ H st xs vs Q R r G => by
  match xs, r with
  | [], r => exact (show False from G).elim
  | x :: y :: xs, r => cases x <;> exact (show False from G).elim
  | [x], r =>
    obtain ⟨v, q, rfl, r1, rfl⟩ := r
    cases x with
    | int i => cases r1; exact ⟨i, rfl, Got.pure G R _ rfl⟩
    | _ => exact (show False from G).elim
/-- all of a list of truth values -/
def bls : List MV → Option (List Bool)
  | [] => some []
  | .bl b :: r => (bls r).map (b :: ·)
  | _ :: _ => none
theorem bls_of {ρ : List Addr} {H : Hp} : ∀ {xs : List MV} {vs : List V} {bs : List Bool}, RVs (zc X cl xl) ρ H xs vs → bls xs = some bs → vs = bs.map V.bl
  | [], _, _, r, e => by cases r; cases e; rfl
  | .bl b :: xs, _, bs, r, e => by
    obtain ⟨v, q, rfl, r1, r2⟩ := r
    cases r1
    have e' : (bls xs).map (b :: ·) = some bs := e
    cases q2 : bls xs with
    | none => rw [q2] at e'; cases e'
    | some cs =>
      rw [q2] at e'
      cases e'
      rw [bls_of r2 q2]
      rfl
  | .non :: _, _, _, _, e => by cases e
  | .int _ :: _, _, _, _, e => by cases e
  | .str _ :: _, _, _, _, e => by cases e
  | .tup _ :: _, _, _, _, e => by cases e
  | .rol _ :: _, _, _, _, e => by cases e
  | .loc _ :: _, _, _, _, e => by cases e
def lstAt (st : Sto) (n : Nat) : Option (List MV) := match st[n]? with
  | some (.lst xs) => some xs
  | _ => none
theorem lstAt_of {st : Sto} {n : Nat} {xs : List MV} (h : lstAt st n = some xs) : st[n]? = some (.lst xs) := by
  unfold lstAt at h
  split at h
  · cases h; assumption
  · cases h
theorem Rep.lst {Z : Zc} {ρ : List Addr} {H : Hp} {st : Sto} {n : Nat} {xs : List MV} {a : Addr} (R : Rep Z ρ H st) (ha : ρ[n]? = some a) (h : lstAt st n = some xs) : ∃ vs, H a = some (.lst vs) ∧ RVs Z ρ H xs vs := R.ob n a _ ha (lstAt_of h)
def mAll : List MV → M MV
  | [.loc n] => M.look fun st => ((lstAt st n).bind bls).map fun bs => .bl (bs.all id)
  | _ => M.fail
theorem sim_all : SimCall (zc X cl xl) (rAll X.K) mAll := fun W ρ H st xs vs Q R r G => by
  match xs, r with
  | [], r => exact (show False from G).elim
  | x :: y :: xs, r => cases x <;> exact (show False from G).elim
  | [x], r =>
    obtain ⟨v, q, rfl, r1, rfl⟩ := r
    cases x with
    | loc n =>
      obtain ⟨a, rfl, ha⟩ := r1
      obtain ⟨y, e, q⟩ := Got.look (g := fun st => ((lstAt st n).bind bls).map fun bs => MV.bl (bs.all id)) G R
      have e : ((lstAt st n).bind bls).map (fun bs => MV.bl (bs.all id)) = some y := e
      cases e1 : lstAt st n with
      | none => rw [e1] at e; cases e
      | some ys =>
        rw [e1] at e
        have e' : (bls ys).map (fun bs => MV.bl (bs.all id)) = some y := e
        cases e2 : bls ys with
        | none => rw [e2] at e'; cases e'
        | some bs =>
          rw [e2] at e'
          cases e'
          obtain ⟨us, h1, h2⟩ := R.lst ha e1
          have h3 := bls_of h2 e2
          exact ⟨a, bs, rfl, by rw [← h3]; exact SqL.of h1, q _ rfl⟩
    | _ => exact (show False from G).elim
/-- list(x), tuple(x) of a sequence -/
def mList : List MV → M MV
  | [x] => fun st => match seqM st x with
    | some xs => alloc (.lst xs) st
    | none => .fail
  | _ => M.fail
theorem sim_list : SimCall (zc X cl xl) (fun xs H Q => ∃ p ys, xs = [.ref p] ∧ (SqL X.K H p ys ∨ SqT X.K H p ys) ∧ ∀ l, H l = none → Q (.ref l) (upd H l (.lst ys))) mList := fun W ρ H st xs vs Q R r G => by
  match xs, r with
  | [], r => exact (show False from G).elim
  | x :: y :: xs, r => exact (show False from G).elim
  | [x], r =>
    obtain ⟨v, q, rfl, r1, rfl⟩ := r
    have G2 : Got (zc X cl xl) W ρ H (match seqM st x with
      | some xs => alloc (.lst xs) st
      | none => .fail) (PV _ Q) := G
    cases e : seqM st x with
    | none => rw [e] at G2; exact (show False from G2).elim
    | some ys =>
      rw [e] at G2
      obtain ⟨p, us, rfl, hs, r2⟩ := seq_of R r1 e
      exact ⟨p, us, rfl, hs, fun l hl => got_list G2 R r2 hl⟩
def mTuple : List MV → M MV
  | [x] => M.look fun st => (seqM st x).map .tup
  | _ => M.fail
theorem sim_tuple : SimCall (zc X cl xl) (fun xs H Q => ∃ p ys, xs = [.ref p] ∧ ((SqL X.K H p ys ∧ ∀ l, H l = none → Q (.ref l) (upd H l (.tup ys))) ∨ (SqT X.K H p ys ∧ Q (.ref p) H))) mTuple := fun W ρ H st xs vs Q R r G => by
  match xs, r with
  | [], r => exact (show False from G).elim
  | x :: y :: xs, r => exact (show False from G).elim
  | [x], r =>
    obtain ⟨v, q, rfl, r1, rfl⟩ := r
    have G2 : Got (zc X cl xl) W ρ H (M.look (fun st => (seqM st x).map .tup) st) (PV _ Q) := G
    unfold M.look at G2
    dsimp only at G2
    cases e : seqM st x with
    | none => rw [e] at G2; exact (show False from G2).elim
    | some ys =>
      rw [e] at G2
      obtain ⟨p, us, rfl, hs, r2⟩ := seq_of R r1 e
      have G3 : Got (zc X cl xl) W ρ H (Res.ok (MV.tup ys) st) (PV _ Q) := G2
      rcases hs with hs | hs
      · exact ⟨p, us, rfl, .inl ⟨hs, fun l hl => got_tup G3 R r2 hl⟩⟩
      · exact ⟨p, us, rfl, .inr ⟨hs, got_val G3 R ⟨p, us, rfl, hs, r2⟩⟩⟩
/-! isinstance against a built-in type -/
def tyN (st : Sto) : MV → Option String
  | .non => some "NoneType"
  | .bl _ => some "bool"
  | .int _ => some "int"
  | .str _ => some "str"
  | .tup _ => some "tuple"
  | .rol _ => some "list"
  | .loc n => (lstAt st n).map fun _ => "list"
def isiB (t T : String) : Bool := t == T || (t == "bool" && T == "int")
def mIsi (T : String) (f : Exp) : Tst := fun σ => f σ >>= fun x => M.look fun st => (tyN st x).map fun t => isiB t T
theorem kit_isi {K : PySem.W.Frag} {t T : String} (ht : t = "NoneType" ∨ t = "bool" ∨ t = "int" ∨ t = "str" ∨ t = "tuple" ∨ t = "list") (hT : T = "bool" ∨ T = "int" ∨ T = "str" ∨ T = "tuple" ∨ T = "list") : PySem.W.kitOne K (.type t) (.type T) = some (isiB t T) := by
  rcases ht with rfl | rfl | rfl | rfl | rfl | rfl <;> rcases hT with rfl | rfl | rfl | rfl | rfl <;> exact kit_ty (by decide +kernel)
theorem ty_of {ρ : List Addr} {H : Hp} {st : Sto} {x : MV} {v : V} {t : String} (R : Rep (zc X cl xl) ρ H st) (r : RV (zc X cl xl) ρ H x v) (e : tyN st x = some t) :
    TyX X.K H v (.type t) ∧ (t = "NoneType" ∨ t = "bool" ∨ t = "int" ∨ t = "str" ∨ t = "tuple" ∨ t = "list") := by
  cases x with
  | non => cases r; cases e; exact ⟨.base .non, by simp⟩
  | bl b => cases r; cases e; exact ⟨.base (.bl b), by simp⟩
  | int i => cases r; cases e; exact ⟨.base (.int i), by simp⟩
  | str s => obtain ⟨rfl, _⟩ := r; cases e; exact ⟨.base (.str _), by simp⟩
  | tup xs =>
    obtain ⟨a, vs, rfl, hq, r⟩ := r
    cases e
    refine ⟨?_, by simp⟩
    rcases hq with (h | ⟨o, h⟩) | ⟨o, its, n, hk, hc, _⟩
    · exact .base (.tup h)
    · exact .fTuple h
    · exact .kTuple hk hc
  | rol xs =>
    obtain ⟨a, vs, rfl, hq, r⟩ := r
    cases e
    refine ⟨?_, by simp⟩
    rcases hq with ⟨o, h⟩ | ⟨o, its, n, hk, hc, _⟩
    · exact .base (.frz h)
    · exact .kList hk hc
  | loc n =>
    obtain ⟨a, rfl, ha⟩ := r
    have e' : (lstAt st n).map (fun _ => "list") = some t := e
    cases q : lstAt st n with
    | none => rw [q] at e'; cases e'
    | some xs =>
      rw [q] at e'
      cases e'
      obtain ⟨vs, h1, h2⟩ := R.lst ha q
      exact ⟨.base (.lst h1), by simp⟩
theorem m_isi {W : WX} {e : Expr} {f : Exp} {p p2 pos : Pos} {T : String} {y : Str} (h : PE X e (liftE (zc X cl xl) W f)) (hg : Gl X "isinstance") (hm : X.mg "isinstance" = none) (hgT : Gl X y) (hmT : X.mg y = none) (hv : bootBuiltins y = some (.type T)) (hT : T = "bool" ∨ T = "int" ∨ T = "str" ∨ T = "tuple" ∨ T = "list")
    (hn : y ≠ "__name__" := by decide) (hd : (y == ("__debug__" : Str)) = false := by decide) (he : starEach [e, .Name y p2] X.env = (false, eval e X.env) :: starEach [.Name y p2] X.env := by rfl) (hpl : (backTo pos (starEach [.Name y p2] X.env)).any (·.1) = false := by rfl)
    (he2 : starEach [.Name y p2] X.env = (false, eval (.Name y p2) X.env) :: starEach [] X.env := by rfl) :
    PE X (.Call (.Name "isinstance" p) [e, .Name y p2] [] pos) (liftE (zc X cl xl) W (mB (mIsi T f))) :=
  (pe_callB call_isi hg hm (by decide +kernel) (pa_cons h (pa_cons (pe_bltn (v := .ty T) hgT hmT hv rfl hn hd) pa_nil he2) he) (by decide) (by decide) he hpl).weak fun σV H Q ⟨ρ, σ, st, R, S, G⟩ => by
    have G2 := G.bind
    have G3 : Got (zc X cl xl) (fun c d H' => W c d σV H') ρ H ((f σ >>= fun x => M.look fun st => (tyN st x).map fun t => isiB t T) st) (fun b st' ρ' H' => Got (zc X cl xl) (fun c d H' => W c d σV H') ρ' H' ((Pure.pure (MV.bl b) : M MV) st') (PV _ Q)) := G2
    refine ⟨ρ, σ, st, R, S, G3.seq fun x st1 ρ1 H1 e1 R1 G4 v rv => ?_⟩
    obtain ⟨b, e2, q⟩ := Got.look G4 R1
    cases e3 : tyN st1 x with
    | none => rw [e3] at e2; cases e2
    | some t =>
      rw [e3] at e2
      cases e2
      obtain ⟨h1, h2⟩ := ty_of R1 rv e3
      exact ⟨v, .ty T, .type t, .type T, _, rfl, .ty T, h1, kit_isi h2 hT, Got.pure q R1 _ rfl⟩
end
end Mi
end
section
set_option Elab.async false
set_option linter.all false
set_option maxRecDepth 100000
set_option maxHeartbeats 2000000
set_option autoImplicit false
/-! Mi6: subscripts, slices, stores, list methods, comprehensions, fields, methods, instances. -/
namespace Mi
open PySem PySem.Spec L2

section
variable {X : Cx} {cl xl : Nat → Addr} {W : WX} {e o a b : Expr} {es : List Expr} {pos p apos cpos p2 tpos : Pos} {f fo fi fa fb : Exp} {fs : List Exp}
/-! ### x[i] -/
def ixM (st : Sto) (x : MV) (i : MV) : Option MV := match i with
  | .int i => match x with
    | .str s => (atI s i).map fun c => .str [c]
    | x => (seqM st x).bind fun xs => atI xs i
  | _ => none
def mIx (fa fb : Exp) : Exp := fun σ => fa σ >>= fun x => fb σ >>= fun i => M.look fun st => ixM st x i
theorem atI_of {α : Type} {xs : List α} {i : Int} {x : α} (h : atI xs i = some x) : ∃ j, ixN xs.length i = some j ∧ xs[j]? = some x := by
  unfold atI at h
  cases q : ixN xs.length i with
  | none => rw [q] at h; cases h
  | some j => rw [q] at h; exact ⟨j, rfl, h⟩
theorem atI_to {α : Type} {xs : List α} {i : Int} {j : Nat} {x : α} (h : ixN xs.length i = some j) (e : xs[j]? = some x) : atI xs i = some x := by
  unfold atI
  rw [h]
  exact e
theorem ix_sim {Z : Zc} {ρ : List Addr} {H : Hp} {xs : List MV} {vs : List V} {i : Int} {y : MV} (r : RVs Z ρ H xs vs) (h : atI xs i = some y) : ∃ v, atI vs i = some v ∧ RV Z ρ H y v := by
  obtain ⟨j, h1, h2⟩ := atI_of h
  obtain ⟨v, e, rv⟩ := r.get h2
  exact ⟨v, atI_to (by rw [← r.length]; exact h1) e, rv⟩
theorem ixM_of {ρ : List Addr} {H : Hp} {st : Sto} {x i y : MV} {v u : V} {Q : VK} (R : Rep (zc X cl xl) ρ H st) (rv : RV (zc X cl xl) ρ H x v) (ru : RV (zc X cl xl) ρ H i u) (e : ixM st x i = some y) (q : ∀ w, RV (zc X cl xl) ρ H y w → Q w H) : rIx X.K v u H Q := by
  cases i with
  | int i =>
    cases ru
    have key : (seqM st x).bind (fun xs => atI xs i) = some y → rIx X.K v (.int i) H Q := by
      intro e
      cases e1 : seqM st x with
      | none => rw [e1] at e; cases e
      | some xs =>
        rw [e1] at e
        obtain ⟨pp, vs, rfl, hs, r⟩ := seq_of R rv e1
        obtain ⟨w, e2, rw'⟩ := ix_sim r e
        rcases hs with hs | hs
        · exact .inl ⟨pp, vs, i, w, rfl, rfl, hs, e2, q w rw'⟩
        · exact .inr (.inl ⟨pp, vs, i, w, rfl, rfl, hs, e2, q w rw'⟩)
    cases x with
    | str s =>
      obtain ⟨rfl, hg⟩ := rv
      have e' : (atI s i).map (fun c => MV.str [c]) = some y := e
      cases e1 : atI s i with
      | none => rw [e1] at e'; cases e'
      | some c =>
        rw [e1] at e'
        cases e'
        obtain ⟨j, h1, h2⟩ := atI_of e1
        exact .inr (.inr ⟨_, i, c, rfl, rfl, by rw [sizeL]; simpa [Str.length] using hg.2, e1, q _ ⟨rfl, hg.one (List.mem_of_getElem? h2)⟩⟩)
    | _ => exact key e
  | _ => cases e
theorem m_ix (ha : PE X a (liftE (zc X cl xl) W fa)) (hb : PE X b (liftE (zc X cl xl) W fb)) (hs : PlainIx b := by exact fun _ _ => rfl) : PE X (.Subscript a b pos) (liftE (zc X cl xl) W (mIx fa fb)) :=
  (pe_ix ix_seq ha hb hs).weak fun σV H Q ⟨ρ, σ, st, R, S, G⟩ => lift2 R S G fun ρ2 H2 st2 x y v u _ R2 rv ru G2 => by
    obtain ⟨z, e, q⟩ := G2.look R2
    exact ixM_of R2 rv ru e q

/-! ### x[i:j] -/
def cutL {α : Type} (xs : List α) (lo hi : Option Int) : List α := (xs.drop (HT.sIx xs.length 0 lo)).take (HT.sIx xs.length xs.length hi - HT.sIx xs.length 0 lo)
abbrev Prt := Sl → M (Option Int)
def mPart (f : Exp) : Prt := fun σ => f σ >>= fun x => match x with
  | .int i => Pure.pure (some i)
  | _ => M.fail
def mNoPart : Prt := fun _ => Pure.pure none
def liftP (Z : Zc) (W : WX) (f : Prt) : TO := fun σV H Q => ∃ ρ σ st, Rep Z ρ H st ∧ RSl Z ρ H σ σV ∧ Got Z (fun c d H' => W c d σV H') ρ H (f σ st) fun b _ _ H' => Q b H'
theorem _root_.L2.PO.weak {X : Cx} {e : Option Expr} {t t' : TO} (h : PO X e t) (k : ∀ σ H Q, t' σ H Q → t σ H Q) : PO X e t' := ⟨fun pins s σ H Q I q => h.run pins s σ H Q I (k σ H Q q)⟩
theorem p_none : PO X none (liftP (zc X cl xl) W mNoPart) := po_none.weak fun σV H Q ⟨ρ, σ, st, R, S, G⟩ => G.pure R
theorem p_some (h : PE X e (liftE (zc X cl xl) W f)) : PO X (some e) (liftP (zc X cl xl) W (mPart f)) := (po_some h).weak fun σV H Q ⟨ρ, σ, st, R, S, G⟩ => ⟨ρ, σ, st, R, S, G.seq fun x st1 ρ1 H1 e1 R1 G1 v rv => by
  cases x with
  | int i => cases rv; exact ⟨i, rfl, Got.pure G1 R1⟩
  | _ => exact (show False from G1).elim⟩
def slM (x : MV) (lo hi : Option Int) : M MV := match x with
  | .str s => Pure.pure (.str (cutL s lo hi))
  | .tup xs => Pure.pure (.tup (cutL xs lo hi))
  | .loc n => fun st => match lstAt st n with
    | some xs => alloc (.lst (cutL xs lo hi)) st
    | none => .fail
  | _ => M.fail
def mSlice (f : Exp) (lo hi : Prt) : Exp := fun σ => f σ >>= fun x => lo σ >>= fun l => hi σ >>= fun h => slM x l h
def rSlX (K : PySem.W.Frag) : V → Option Int → Option Int → Hp → VK → Prop := fun x lo hi H Q => rSlL K x lo hi H Q ∨ (rSlA K x lo hi H Q ∨ rSlS x lo hi H Q)
theorem sl_X : SlR X (rSlX X.K) := sl_list.or (sl_tupA.or sl_str)
theorem RVs.cut {Z : Zc} {ρ : List Addr} {H : Hp} {xs : List MV} {vs : List V} (r : RVs Z ρ H xs vs) (lo hi : Option Int) : RVs Z ρ H (cutL xs lo hi) (cutV vs lo hi) := by
  unfold cutL cutV
  rw [r.length]
  exact (r.drop _).take _
theorem goodS.cut {s : List Nat} (h : goodS s) (lo hi : Option Int) : goodS (cutL s lo hi) := by
  refine ⟨fun c hc => h.1 c (List.mem_of_mem_drop (List.mem_of_mem_take hc)), ?_⟩
  unfold cutL
  rw [List.length_take, List.length_drop]
  have := h.2
  omega
theorem cutS_eq (s : List Nat) (lo hi : Option Int) : cutS ⟨s.toArray⟩ lo hi = ⟨(cutL s lo hi).toArray⟩ := by
  unfold cutS cutL
  have e : (⟨s.toArray⟩ : Str).length = s.length := by simp [Str.length]
  rw [e]
theorem m_slice {lo hi : Option Expr} {pl ph : Prt} (he : PE X e (liftE (zc X cl xl) W f)) (hl : PO X lo (liftP (zc X cl xl) W pl)) (hh : PO X hi (liftP (zc X cl xl) W ph)) : PE X (.Subscript e (.Slice lo hi none p2) pos) (liftE (zc X cl xl) W (mSlice f pl ph)) :=
  (pe_slice sl_X he hl hh).weak fun σV H Q ⟨ρ, σ, st, R, S, G⟩ => ⟨ρ, σ, st, R, S, G.seq fun x st1 ρ1 H1 e1 R1 G1 v rv => ⟨ρ1, σ, st1, R1, S.mono e1, G1.seq fun l st2 ρ2 H2 e2 R2 G2 => ⟨ρ2, σ, st2, R2, (S.mono e1).mono e2, G2.seq fun h st3 ρ3 H3 e3 R3 G3 => by
    have rv := (rv.mono e2).mono e3
    cases x with
    | str s =>
      obtain ⟨rfl, hg⟩ := rv
      refine .inr (.inr ⟨_, rfl, by rw [sizeL]; simpa [Str.length] using hg.2, ?_⟩)
      rw [cutS_eq]
      exact Got.pure G3 R3 _ ⟨rfl, hg.cut l h⟩
    | tup xs =>
      obtain ⟨aa, vs, rfl, hq, r⟩ := rv
      refine .inr (.inl ⟨aa, vs, rfl, hq, fun hw => ?_, fun _ q hq2 => got_tup G3 R3 (r.cut l h) hq2⟩)
      refine Got.pure G3 R3 _ ⟨aa, vs, rfl, hq, ?_⟩
      have e : cutV vs l h = vs := by
        unfold cutV
        rw [hw.1, hw.2]
        simp
      have := r.cut l h
      rw [e] at this
      exact this
    | loc n =>
      obtain ⟨aa, rfl, ha⟩ := rv
      have G4 : Got (zc X cl xl) (fun c d H' => W c d σV H') ρ3 H3 (match lstAt st3 n with
        | some xs => alloc (.lst (cutL xs l h)) st3
        | none => .fail) (PV (zc X cl xl) Q) := G3
      cases q : lstAt st3 n with
      | none => rw [q] at G4; exact (show False from G4).elim
      | some xs =>
        rw [q] at G4
        obtain ⟨vs, h1, r⟩ := R3.lst ha q
        exact .inl ⟨aa, vs, rfl, SqL.of h1, fun q2 hq2 => got_list G4 R3 (r.cut l h) hq2⟩
    | _ => exact (show False from G3).elim⟩⟩⟩

/-! ### d[i] = e, d[i] += e -/
def setIx (o i x : MV) : M Unit := fun st => match o, i with
  | .loc n, .int k => match lstAt st n with
    | some xs => match ixN xs.length k with
      | some j => .ok () (st.set n (.lst (xs.set j x)))
      | none => .fail
    | none => .fail
  | _, _ => .fail
theorem setIx_of {Z : Zc} {W : Value → Option Addr → Hp → Prop} {ρ : List Addr} {H : Hp} {st : Sto} {o i x : MV} {ov iv v : V} {P : Unit → Sto → List Addr → Hp → Prop} {Q : Hp → Prop} (R : Rep Z ρ H st) (ro : RV Z ρ H o ov) (ri : RV Z ρ H i iv) (rx : RV Z ρ H x v) (G : Got Z W ρ H (setIx o i x st) P)
    (q : ∀ st' ρ' H', Ext ρ H ρ' H' → Rep Z ρ' H' st' → P () st' ρ' H' → Q H') : rSetL ov iv v H Q := by
  cases o with
  | loc n => cases i with
    | int k =>
      obtain ⟨aa, rfl, ha⟩ := ro
      cases ri
      have G2 : Got Z W ρ H (match lstAt st n with
        | some xs => match ixN xs.length k with
          | some j => .ok () (st.set n (.lst (xs.set j x)))
          | none => .fail
        | none => .fail) P := G
      cases e1 : lstAt st n with
      | none => rw [e1] at G2; exact (show False from G2).elim
      | some xs =>
        rw [e1] at G2
        have G3 : Got Z W ρ H (match ixN xs.length k with
          | some j => .ok () (st.set n (.lst (xs.set j x)))
          | none => .fail) P := G2
        cases e2 : ixN xs.length k with
        | none => rw [e2] at G3; exact (show False from G3).elim
        | some j =>
          rw [e2] at G3
          obtain ⟨vs, h1, r⟩ := R.lst ha e1
          obtain ⟨R', e⟩ := R.write (o := .lst (xs.set j x)) (u' := .lst (vs.set j v)) ha h1 (fun _ z => nomatch z) (fun _ _ z => nomatch z) fun e => ⟨_, upd_same, (r.mono e).set j (rx.mono e)⟩
          exact ⟨aa, vs, k, j, rfl, rfl, h1, by rw [← r.length]; exact e2, q _ _ _ e R' (G3 ρ _ e R')⟩
    | _ => exact (show False from G).elim
  | _ => exact (show False from G).elim
def tgIx (fo fi : Exp) : Tg := fun x σ => fo σ >>= fun o => fi σ >>= fun i => setIx o i x >>= fun _ => Pure.pure σ
theorem g_ix (ho : PE X o (liftE (zc X cl xl) W fo)) (hi : PE X e (liftE (zc X cl xl) W fi))
    (ha : ∀ v, assign (.Subscript o e pos) X.env v = (do
      let ov ← holding [v] (eval o X.env)
      let iv ← holding [v, ov] (eval e X.env)
      standAt pos
      holding [v, ov, iv] (setItem ov iv v)
      release [v, ov, iv] []) := by intro _; rfl) : PG X (.Subscript o e pos) (liftG (zc X cl xl) (tgIx fo fi)) :=
  (pg_sub ho hi set_list ha).weak fun v σV H Q ⟨ρ, σ, st, x, R, S, rx, G⟩ => by
    have weakW : ∀ {α : Type} {ρ : List Addr} {H : Hp} {r : Res α} {P : α → Sto → List Addr → Hp → Prop}, Got (zc X cl xl) W0 ρ H r P → Got (zc X cl xl) (fun c d H' => W c d σV H') ρ H r P := by
      intro α ρ H r P h
      cases r with
      | ok a st' => exact h
      | exc c fs st' => exact fun ρ' H' d gs e R hd hl => (h ρ' H' d gs e R hd hl).elim
      | fail => exact h
    have G1 : Got (zc X cl xl) (fun c d H' => W c d σV H') ρ H ((fo σ >>= fun o => fi σ >>= fun i => setIx o i x >>= fun _ => Pure.pure σ) st) (fun σ' _ ρ' H' => ∀ σV', RSl (zc X cl xl) ρ' H' σ' σV' → Q σV' H') := weakW G
    refine ⟨ρ, σ, st, R, S, G1.seq fun ov st1 ρ1 H1 e1 R1 G2 v1 r1 => ⟨ρ1, σ, st1, R1, S.mono e1, G2.seq fun iv st2 ρ2 H2 e2 R2 G3 v2 r2 => ?_⟩⟩
    exact setIx_of R2 (r1.mono e2) r2 ((rx.mono e1).mono e2) G3.bind fun st' ρ' H' e R' q => Got.pure q R' _ (((S.mono e1).mono e2).mono e)
theorem pg_get : PGet X (rIxL X.K) := by
  intro pins s σ H o i ov iv Q I ro ri h
  obtain ⟨pp, xs, k, z, rfl, rfl, hq, he, q⟩ := h
  cases ro
  obtain ⟨t, rfl⟩ := ri
  obtain ⟨its, r, pl, hz⟩ := I.list hq
  obtain ⟨j, h1, h2, h3, h4, h5⟩ := atI_get he
  obtain ⟨w, ew, rw'⟩ := r.get h2
  have hl := r.length
  have hn := line63
  have fin : EP X pins σ Q w s := ⟨z, H, I, rw', q⟩
  by_cases h0 : 0 ≤ k
  · have hj : k.toNat = j := by
      rw [seqIndex_of h0 h5] at h1
      exact Option.some.inj h1
    exact wpAny_getItem_list pl.isList h0 (by omega) (by rw [hj]; simpa using ew) fin
  · have hj : (k + (its.toArray.size : Int)).toNat = j := by
      rw [seqIndex_neg (by omega) h4] at h1
      rw [List.size_toArray, ← hl]
      exact Option.some.inj h1
    exact wpAny_getItem_list_neg pl.isList (by omega) (by rw [List.size_toArray] <;> omega) (by omega) (by rw [hj]; simpa using ew) fin
/-- d[i] op= e for ints in a list -/
def sAugIx (g : Int → Int → Int) (fo fi fe : Exp) : Stm := fun σ => catchX (fo σ >>= fun o => fi σ >>= fun i => (M.look fun st => match o with | .loc n => (lstAt st n).bind (fun xs => match i with | .int k => atI xs k | _ => none) | _ => none) >>= fun x => fe σ >>= fun y => (match x, y with
  | .int k, .int j => setIx o i (.int (g k j))
  | _, _ => M.fail)) σ fun _ => Pure.pure (.nx σ)
theorem s_augIx {g : Int → Int → Int} {op : Operator} {fe : Exp} (hp : PIp X op (ipI g)) (ho : PE X o (liftE (zc X cl xl) W fo)) (hi : PE X e (liftE (zc X cl xl) W fi)) (he : PE X a (liftE (zc X cl xl) W fe))
    (ha : ∀ ov iv new, augStore e ov iv new = (do holding [new, ov, iv] (setItem ov iv new); release [new, ov, iv] []; pure .next) := by intros; rfl) : PS X (.AugAssign (.Subscript o e tpos) op a pos) (liftS (zc X cl xl) W (sAugIx g fo fi fe)) :=
  (ps_augS ho hi pg_get he hp set_list ha).weak fun D σV H ⟨ρ, σ, st, R, S, G⟩ => by
    have G1 := Got.catch (P := fun _ st' ρ' H' => Ext ρ H ρ' H' ∧ Rep (zc X cl xl) ρ' H' st' ∧ D.nx σV H') (σV := σV) G S fun _ st' ρ' H' e R' q => ⟨e, R', Got.pure q R' σV (S.mono e)⟩
    refine ⟨ρ, σ, st, R, S, G1.seq fun ov st1 ρ1 H1 e1 R1 G2 v1 r1 => ⟨ρ1, σ, st1, R1, S.mono e1, G2.seq fun iv st2 ρ2 H2 e2 R2 G3 v2 r2 => ?_⟩⟩
    have G4 := G3.bind
    obtain ⟨x, hx, G5⟩ := Got.look G4 R2
    cases ov with
    | loc n =>
      obtain ⟨aa, rfl, haa⟩ := r1
      cases iv with
      | int k =>
        cases r2
        have hx' : (lstAt st2 n).bind (fun xs => atI xs k) = some x := hx
        cases e3 : lstAt st2 n with
        | none => rw [e3] at hx'; cases hx'
        | some xs =>
          rw [e3] at hx'
          have ha2 := e2.at haa
          obtain ⟨vs, h1, r⟩ := R2.lst ha2 e3
          obtain ⟨w, e4, rw'⟩ := ix_sim r hx'
          refine ⟨aa, vs, k, w, rfl, rfl, SqL.of h1, e4, ρ2, σ, st2, R2, (S.mono e1).mono e2, G5.seq fun y st3 ρ3 H3 e5 R3 G6 v3 r3 => ?_⟩
          cases x with
          | int z =>
            cases rw'
            cases y with
            | int j =>
              cases r3
              refine ⟨z, j, rfl, rfl, ?_⟩
              exact setIx_of (o := .loc n) (i := .int k) (x := .int (g z j)) R3 ⟨aa, rfl, e5.at ha2⟩ rfl rfl G6 fun st' ρ' H' e R' q => q.2.2
            | _ => exact (show False from G6).elim
          | _ => exact (show False from G6).elim
      | _ => cases h : lstAt st2 n <;> (rw [show (match (MV.loc n) with | .loc n => (lstAt st2 n).bind (fun xs => none) | _ => none) = (lstAt st2 n).bind (fun xs => (none : Option MV)) from rfl, h] at hx; cases hx)
    | _ => cases hx
end
end Mi
end
section
set_option Elab.async false
set_option linter.all false
set_option maxRecDepth 100000
set_option maxHeartbeats 2000000
set_option autoImplicit false
/-! Mi7: list methods, join, comprehensions, fields, own methods, instances. -/
namespace Mi
open PySem PySem.Spec L2

section
variable {X : Cx} {cl xl : Nat → Addr} {W : WX} {e o a b : Expr} {es : List Expr} {pos p apos cpos p2 tpos : Pos} {f fo fi fa fb : Exp} {fs : List Exp}
/-! ### methods of built-ins -/
/-- the method's own work, behind its arguments; the receiver's kind by chk -/
def SimMt (Z : Zc) (T : String) (chk : Sto → MV → Bool) (r : V → List V → Hp → VK → Prop) (g : MV → List MV → M MV) : Prop :=
  (∀ (ρ : List Addr) (H : Hp) (st : Sto) (x : MV) (v : V), Rep Z ρ H st → RV Z ρ H x v → chk st x = true → tyV Z.K T v H) ∧
  ∀ (W : Value → Option Addr → Hp → Prop) (ρ : List Addr) (H : Hp) (st : Sto) (x : MV) (v : V) (xs : List MV) (vs : List V) (Q : VK), Rep Z ρ H st → RV Z ρ H x v → RVs Z ρ H xs vs → Got Z W ρ H (g x xs st) (PV Z Q) → r v vs H Q
def mMt (chk : Sto → MV → Bool) (g : MV → List MV → M MV) (fo : Exp) (fs : List Exp) : Exp := fun σ => fo σ >>= fun x => (M.look fun st => if chk st x = true then some () else none) >>= fun _ => mArgs fs σ >>= fun xs => g x xs
theorem m_bm {T id : String} {name : Str} {chk : Sto → MV → Bool} {r : V → List V → Hp → VK → Prop} {g : MV → List MV → M MV} (hs : SimMt (zc X cl xl) T chk r g) (pa : PlainAttrs T) (slot : Slot T name id) (hty : typeOf (.builtin id) = pure (.type "method_descriptor")) (hm : MtR X id r)
    (ho : PE X o (liftE (zc X cl xl) W fo)) (ha : PA X (e :: es) (liftA (zc X cl xl) W (mArgs fs)))
    (hbase : attributeBase o name X.env (eval o X.env) = eval o X.env := by rfl)
    (hfew : ((backTo cpos (starEach (e :: es) X.env)).all (fun x => !x.1) && (backToKw cpos (keywordEach [] X.env)).all (fun x => x.1.isSome)
      && decide ((e :: es).length + ([] : List Keyword).length + (if ([] : List Keyword).isEmpty then 0 else 1) < 30)) = true := by rfl)
    (hline : (apos.endLine == cpos.line) = true := by rfl) (hst : starEach (e :: es) X.env = (false, eval e X.env) :: starEach es X.env := by rfl) (hplain : (backTo cpos (starEach es X.env)).any (·.1) = false := by rfl) :
    PE X (.Call (.Attribute o name apos) (e :: es) [] cpos) (liftE (zc X cl xl) W (mMt chk g fo fs)) :=
  (pe_bm pa slot hty hm ho ha hbase hfew hline hst hplain).weak fun σV H Q ⟨ρ, σ, st, R, S, G⟩ => ⟨ρ, σ, st, R, S, G.seq fun x st1 ρ1 H1 e1 R1 G1 v rv => by
    have G2 := G1.bind
    obtain ⟨u, hc, G3⟩ := Got.look G2 R1
    have hc' : chk st1 x = true := by
      by_cases h : chk st1 x = true
      · exact h
      · rw [if_neg h] at hc; cases hc
    exact ⟨hs.1 ρ1 H1 st1 x v R1 rv hc', ρ1, σ, st1, R1, S.mono e1, G3.seq fun xs st2 ρ2 H2 e2 R2 G4 vs rvs => hs.2 _ ρ2 H2 st2 x v xs vs Q R2 (rv.mono e2) rvs G4⟩⟩
theorem m_bm0 {T id : String} {name : Str} {chk : Sto → MV → Bool} {r : V → List V → Hp → VK → Prop} {g : MV → List MV → M MV} (hs : SimMt (zc X cl xl) T chk r g) (pa : PlainAttrs T) (slot : Slot T name id) (hty : typeOf (.builtin id) = pure (.type "method_descriptor")) (hm : MtR X id r)
    (ho : PE X o (liftE (zc X cl xl) W fo)) (hbase : attributeBase o name X.env (eval o X.env) = eval o X.env := by rfl) (hline : (apos.endLine == cpos.line) = true := by rfl) :
    PE X (.Call (.Attribute o name apos) [] [] cpos) (liftE (zc X cl xl) W (mMt chk g fo [])) :=
  (pe_bm0 pa slot hty hm ho hbase hline).weak fun σV H Q ⟨ρ, σ, st, R, S, G⟩ => ⟨ρ, σ, st, R, S, G.seq fun x st1 ρ1 H1 e1 R1 G1 v rv => by
    have G2 := G1.bind
    obtain ⟨u, hc, G3⟩ := Got.look G2 R1
    have hc' : chk st1 x = true := by
      by_cases h : chk st1 x = true
      · exact h
      · rw [if_neg h] at hc; cases hc
    have G4 := (Got.bind G3).ok R1
    exact ⟨hs.1 ρ1 H1 st1 x v R1 rv hc', hs.2 _ ρ1 H1 st1 x v [] [] Q R1 rv rfl G4⟩⟩
def isL (st : Sto) : MV → Bool
  | .loc n => (lstAt st n).isSome
  | _ => false
theorem isL_of {ρ : List Addr} {H : Hp} {st : Sto} {x : MV} {v : V} (R : Rep (zc X cl xl) ρ H st) (r : RV (zc X cl xl) ρ H x v) (h : isL st x = true) : tyV X.K "list" v H := by
  cases x with
  | loc n =>
    obtain ⟨aa, rfl, ha⟩ := r
    have h' : (lstAt st n).isSome = true := h
    obtain ⟨xs, e1⟩ := Option.isSome_iff_exists.mp h'
    obtain ⟨vs, h1, _⟩ := R.lst ha e1
    exact .inl ⟨rfl, vs, SqL.of h1⟩
  | _ => cases h
def mAppend : MV → List MV → M MV := fun o xs st => match o, xs with
  | .loc n, [x] => match lstAt st n with
    | some ys => if ys.length < 16777216 then .ok .non (st.set n (.lst (ys ++ [x]))) else .fail
    | none => .fail
  | _, _ => .fail
theorem got_set {Z : Zc} {W : Value → Option Addr → Hp → Prop} {ρ : List Addr} {H : Hp} {st : Sto} {n : Nat} {aa : Addr} {α : Type} {r : α} {xs : List MV} {ws vs : List V} {P : α → Sto → List Addr → Hp → Prop} (G : Got Z W ρ H (Res.ok r (st.set n (.lst xs))) P) (R : Rep Z ρ H st) (ha : ρ[n]? = some aa) (h : H aa = some (.lst ws)) (rv : RVs Z ρ H xs vs) :
    Rep Z ρ (upd H aa (.lst vs)) (st.set n (.lst xs)) ∧ Ext ρ H ρ (upd H aa (.lst vs)) ∧ P r (st.set n (.lst xs)) ρ (upd H aa (.lst vs)) := by
  obtain ⟨R', e⟩ := R.write (o := .lst xs) (u' := .lst vs) ha h (fun _ z => nomatch z) (fun _ _ z => nomatch z) fun e => ⟨_, upd_same, rv.mono e⟩
  exact ⟨R', e, G ρ _ e R'⟩
theorem sim_append : SimMt (zc X cl xl) "list" isL rAppend mAppend := by
  refine ⟨fun ρ H st x v R r h => isL_of R r h, fun W ρ H st x v xs vs Q R rv rvs G => ?_⟩
  cases x with
  | loc n =>
    obtain ⟨aa, rfl, ha⟩ := rv
    match xs, rvs with
    | [y], rvs =>
      obtain ⟨w, q, rfl, r1, rfl⟩ := rvs
      have G2 : Got (zc X cl xl) W ρ H (match lstAt st n with
        | some ys => if ys.length < 16777216 then .ok .non (st.set n (.lst (ys ++ [y]))) else .fail
        | none => .fail) (PV (zc X cl xl) Q) := G
      cases e1 : lstAt st n with
      | none => rw [e1] at G2; exact (show False from G2).elim
      | some ys =>
        rw [e1] at G2
        have G3 : Got (zc X cl xl) W ρ H (if ys.length < 16777216 then .ok .non (st.set n (.lst (ys ++ [y]))) else .fail) (PV (zc X cl xl) Q) := G2
        split at G3
        · rename_i hl
          obtain ⟨us, h1, r2⟩ := R.lst ha e1
          obtain ⟨R', ex, q⟩ := got_set G3 R ha h1 (r2.append (RVs.one r1))
          exact ⟨aa, us, w, rfl, rfl, h1, by rw [sizeL, ← r2.length]; exact hl, q _ rfl⟩
        · exact (show False from G3).elim
    | [], _ => exact (show False from G).elim
    | _ :: _ :: _, _ => exact (show False from G).elim
  | _ => exact (show False from G).elim
def mPop : MV → List MV → M MV := fun o xs st => match o, xs with
  | .loc n, [] => match lstAt st n with
    | some ys => match ys[ys.length - 1]? with
      | some y => .ok y (st.set n (.lst ys.dropLast))
      | none => .fail
    | none => .fail
  | _, _ => .fail
theorem sim_pop : SimMt (zc X cl xl) "list" isL rPop mPop := by
  refine ⟨fun ρ H st x v R r h => isL_of R r h, fun W ρ H st x v xs vs Q R rv rvs G => ?_⟩
  cases x with
  | loc n =>
    obtain ⟨aa, rfl, ha⟩ := rv
    match xs, rvs with
    | [], rvs =>
      cases rvs
      have G2 : Got (zc X cl xl) W ρ H (match lstAt st n with
        | some ys => match ys[ys.length - 1]? with
          | some y => .ok y (st.set n (.lst ys.dropLast))
          | none => .fail
        | none => .fail) (PV (zc X cl xl) Q) := G
      cases e1 : lstAt st n with
      | none => rw [e1] at G2; exact (show False from G2).elim
      | some ys =>
        rw [e1] at G2
        have G3 : Got (zc X cl xl) W ρ H (match ys[ys.length - 1]? with
          | some y => .ok y (st.set n (.lst ys.dropLast))
          | none => .fail) (PV (zc X cl xl) Q) := G2
        cases e2 : ys[ys.length - 1]? with
        | none => rw [e2] at G3; exact (show False from G3).elim
        | some y =>
          rw [e2] at G3
          obtain ⟨us, h1, r2⟩ := R.lst ha e1
          obtain ⟨w, e3, r3⟩ := r2.get e2
          obtain ⟨R', ex, q⟩ := got_set G3 R ha h1 r2.dropLast
          exact ⟨aa, us, w, rfl, rfl, h1, by rw [← r2.length]; exact e3, q _ (r3.mono ex)⟩
    | _ :: _, _ => exact (show False from G).elim
  | _ => exact (show False from G).elim
def isS (_ : Sto) : MV → Bool
  | .str _ => true
  | _ => false
def txts : List MV → Option (List (List Nat))
  | [] => some []
  | .str s :: r => (txts r).map (s :: ·)
  | _ :: _ => none
theorem txts_of {ρ : List Addr} {H : Hp} : ∀ {xs : List MV} {vs : List V} {ss : List (List Nat)}, RVs (zc X cl xl) ρ H xs vs → txts xs = some ss → vs = (ss.map fun s => (⟨s.toArray⟩ : Str)).map V.str ∧ ∀ s ∈ ss, goodS s
  | [], _, _, r, e => by cases r; cases e; exact ⟨rfl, by simp⟩
  | .str s :: xs, _, ss, r, e => by
    obtain ⟨v, q, rfl, ⟨rfl, hg⟩, r2⟩ := r
    have e' : (txts xs).map (s :: ·) = some ss := e
    cases q2 : txts xs with
    | none => rw [q2] at e'; cases e'
    | some cs =>
      rw [q2] at e'
      cases e'
      obtain ⟨h1, h2⟩ := txts_of r2 q2
      rw [h1]
      exact ⟨rfl, fun t ht => (List.mem_cons.mp ht).elim (fun z => z ▸ hg) (h2 t)⟩
  | .non :: _, _, _, _, e => by cases e
  | .int _ :: _, _, _, _, e => by cases e
  | .bl _ :: _, _, _, _, e => by cases e
  | .tup _ :: _, _, _, _, e => by cases e
  | .rol _ :: _, _, _, _, e => by cases e
  | .loc _ :: _, _, _, _, e => by cases e
def mJoin : MV → List MV → M MV := fun o xs => match o, xs with
  | .str s, [x] => M.look fun st => ((seqM st x).bind txts).bind fun ss => if (ss.map (·.length)).sum + ss.length * s.length ≤ 16777216 ∧ (TL.joinL s ss).length ≤ 16777216 then some (.str (TL.joinL s ss)) else none
  | _, _ => M.fail
theorem joinL_mem {s : List Nat} : ∀ {ss : List (List Nat)} {c : Nat}, c ∈ TL.joinL s ss → c ∈ s ∨ ∃ t ∈ ss, c ∈ t
  | [], c, h => by cases h
  | [t], c, h => .inr ⟨t, List.mem_cons_self, h⟩
  | t :: u :: r, c, h => by
    have h' : c ∈ t ++ (s ++ TL.joinL s (u :: r)) := h
    rw [List.mem_append, List.mem_append] at h'
    rcases h' with h' | h' | h'
    · exact .inr ⟨t, List.mem_cons_self, h'⟩
    · exact .inl h'
    · rcases joinL_mem h' with h2 | ⟨v, h2, h3⟩
      · exact .inl h2
      · exact .inr ⟨v, List.mem_cons_of_mem _ h2, h3⟩
theorem sim_join : SimMt (zc X cl xl) "str" isS (fun x xs H Q => ∃ a p, ∃ ys : List Str, x = .str a ∧ xs = [.ref p] ∧ (SqL X.K H p (ys.map V.str) ∨ SqT X.K H p (ys.map V.str)) ∧
    (ys.map (·.length)).sum + ys.length * a.length ≤ 16777216 ∧ Q (.str (Txt.join a ys)) H) mJoin := by
  refine ⟨fun ρ H st x v R r h => ?_, fun W ρ H st x v xs vs Q R rv rvs G => ?_⟩
  · cases x with
    | str s => obtain ⟨rfl, _⟩ := r; exact rfl
    | _ => cases h
  · cases x with
    | str s =>
      obtain ⟨rfl, hg⟩ := rv
      match xs, rvs with
      | [y], rvs =>
        obtain ⟨w, q, rfl, r1, rfl⟩ := rvs
        obtain ⟨z, e, q⟩ := Got.look (g := fun st => ((seqM st y).bind txts).bind fun ss => if (ss.map (·.length)).sum + ss.length * s.length ≤ 16777216 ∧ (TL.joinL s ss).length ≤ 16777216 then some (MV.str (TL.joinL s ss)) else none) G R
        cases e1 : seqM st y with
        | none => rw [e1] at e; cases e
        | some ys =>
          rw [e1, Option.bind_some] at e
          cases e2 : txts ys with
          | none => rw [e2] at e; cases e
          | some ss =>
            rw [e2, Option.bind_some] at e
            split at e
            · rename_i hl
              cases e
              obtain ⟨pp, us, rfl, hs, r2⟩ := seq_of R r1 e1
              obtain ⟨h1, h2⟩ := txts_of r2 e2
              rw [h1] at hs
              refine ⟨_, pp, _, rfl, rfl, hs, ?_, ?_⟩
              · have := hl.1
                simpa [Str.length, Function.comp_def] using this
              · have ej : Txt.join ⟨s.toArray⟩ (ss.map fun s => (⟨s.toArray⟩ : Str)) = ⟨(TL.joinL s ss).toArray⟩ := by
                  rw [TL.join_eq]
                  refine TL.ext_tl ?_
                  rw [TL.tl_join, List.map_map]
                  have : (TL.tl ∘ fun s : List Nat => (⟨s.toArray⟩ : Str)) = id := by
                    funext t
                    rfl
                  rw [this, List.map_id]
                rw [ej]
                refine q _ ⟨rfl, fun c hc => ?_, hl.2⟩
                rcases joinL_mem hc with h | ⟨t, h3, h4⟩
                · exact hg.1 c h
                · exact (h2 t h3).1 c h4
            · cases e
      | [], _ => exact (show False from G).elim
      | _ :: _ :: _, _ => exact (show False from G).elim
    | _ => exact (show False from G).elim

/-! ### comprehensions -/
def wipeM (σ : Sl) : List Nat → Sl
  | [] => σ
  | v :: vs => (wipeM σ vs).set v none
theorem RSl.wipe {Z : Zc} {ρ : List Addr} {H : Hp} {σ : Sl} {σV : St} (S : RSl Z ρ H σ σV) : ∀ vs : List Nat, RSl Z ρ H (wipeM σ vs) (L2.wipe σV vs)
  | [] => S
  | v :: vs => (S.wipe vs).gone
def liftGw (Z : Zc) (vs : List Nat) (g : Tg) : TG := fun v σV H Q => ∃ ρ σ st x, Rep Z ρ H st ∧ RSl Z ρ H σ σV ∧ RV Z ρ H x v ∧ Got Z W0 ρ H (g x σ st) fun σ' _ ρ' H' => ∀ σV', RSl Z ρ' H' σ' σV' → wipe σV' vs = wipe σV vs → Q σV' H'
theorem wipe_set {σ : St} {i : Nat} {v : Option V} : ∀ {vs : List Nat}, i ∈ vs → wipe (σ.set i v) vs = wipe σ vs
  | w :: vs, h => by
    unfold wipe
    by_cases hw : w = i
    · subst hw
      by_cases hv : w ∈ vs
      · rw [wipe_set hv]
      · rw [wipe_out' hv, List.set_set]
    · rcases List.mem_cons.mp h with h | h
      · exact absurd h.symm hw
      · rw [wipe_set h]
where
  wipe_out' {σ : St} {i : Nat} {v : Option V} : ∀ {vs : List Nat}, i ∉ vs → wipe (σ.set i v) vs = (wipe σ vs).set i v
  | [], _ => rfl
  | w :: vs, h => by
    unfold wipe
    have h1 : i ≠ w := fun z => h (z ▸ List.mem_cons_self)
    have h2 : i ∉ vs := fun z => h (List.mem_cons_of_mem _ z)
    rw [wipe_out' h2, List.set_comm _ _ h1]
theorem gw_name {i : Nat} {x : Str} {vs : List Nat} (hN : X.N.Nodup) (hv : i ∈ vs := by decide) (hi : X.N[i]? = some x := by rfl) (hx : Loc X.env.scope x := by first | exact Or.inl rfl | exact Or.inr rfl) (hf : X.fn x = true ∨ X.env.scope.names.lookup x = some .local := by first | exact .inl rfl | exact .inr rfl) :
    PG X (.Name x p) (liftGw (zc X cl xl) vs (tgName i)) := (pg_name hN hi hx hf).weak fun v σV H Q ⟨ρ, σ, st, x, R, S, r, G⟩ => G.pure R _ (S.set r) (wipe_set hv)
def lcGo (chk : M Unit) (g : Tg) (t : Tst) (f : Exp) (D : Nat) : List MV → Sl → M Unit
  | [], _ => chk
  | x :: r, σ => chk >>= fun _ => g x σ >>= fun σ1 => t σ1 >>= fun c => if c = true then f σ1 >>= fun y => mAppend (.loc D) [y] >>= fun _ => lcGo chk g t f D r σ else lcGo chk g t f D r σ
def finL (n : Nat) : Res Unit → Res MV
  | .ok _ st' => .ok (.loc n) st'
  | _ => .fail
def mLc (it : Itm) (g : Tg) (t : Tst) (f : Exp) (vs : List Nat) : Exp := fun σ => it σ >>= fun q => fun st => finL st.length (lcGo q.2 g t f st.length q.1 (wipeM σ vs) (st ++ [.lst []]))
theorem Got.fin {Z : Zc} {W : Value → Option Addr → Hp → Prop} {ρ : List Addr} {H : Hp} {α : Type} {m : M α} {k : α → M Unit} {st : Sto} {n : Nat} {P : MV → Sto → List Addr → Hp → Prop} (h : Got Z W ρ H (finL n ((m >>= k) st)) P) (W' : Value → Option Addr → Hp → Prop) :
    Got Z W' ρ H (m st) fun a st' ρ' H' => Got Z W ρ' H' (finL n (k a st')) P := by
  have h' : Got Z W ρ H (finL n (M.bind m k st)) P := h
  unfold M.bind at h'
  revert h'
  cases m st with
  | ok a st' => exact fun h ρ' H' e R => Got.ext h e
  | exc c fs st' => exact fun h => (show False from h).elim
  | fail => exact fun h => (show False from h).elim
def tYes1 : Tst := fun _ => Pure.pure true
theorem ts_nil {X : Cx} : PTs X [] (liftT (zc X cl xl) W tYes1) := ⟨fun pins s σ H Q I h => pts_nil.run pins s σ H Q I (by
  obtain ⟨ρ, σ, st, R, S, G⟩ := h
  exact Got.pure G R)⟩
theorem ts_one {X : Cx} {c : Expr} {t : Tst} (h : PT X c (liftT (zc X cl xl) W t)) : PTs X [c] (liftT (zc X cl xl) W t) := pts_one h
abbrev WF : WX := fun _ _ _ _ => False
theorem lc_lift {it : Itm} {g : Tg} {t : Tst} {vs : List Nat} : ∀ (σV : St) (H : Hp) (Q : VK), liftE (zc X cl xl) W (mLc it g t f vs) σV H Q →
    tLc (liftI (zc X cl xl) W it) (liftGw (zc X cl xl) vs g) (liftT (zc X cl xl) WF t) (liftE (zc X cl xl) WF f) vs σV H Q := by
  rintro σV H Q ⟨ρ, σ, st, R, S, G⟩
  refine ⟨ρ, σ, st, R, S, G.seq fun q st1 ρ1 H1 e1 R1 G1 J hJ D hD => ?_⟩
  obtain ⟨xs, chk⟩ := q
  have hJ : Itx (zc X cl xl) J xs chk ρ1 H1 := hJ
  have G2 : Got (zc X cl xl) (fun c d H' => W c d σV H') ρ1 H1 (finL st1.length (lcGo chk g t f st1.length xs (wipeM σ vs) (st1 ++ [.lst []]))) (PV (zc X cl xl) Q) := G1
  obtain ⟨R2, e2⟩ := R1.new (o := .lst []) (u := .lst []) (p := D) upd_same (upd_keep hD) hD fun e => ⟨[], upd_same, rfl⟩
  have hn : (ρ1 ++ [D])[st1.length]? = some D := by
    rw [← R1.len, List.getElem?_append_right (Nat.le_refl _)]
    simp
  have S1 := (S.mono e1).mono e2
  refine ⟨fun i m H => i ≤ xs.length ∧ m = xs.length - i ∧ ∃ ρ st, Ext ρ1 H1 ρ H ∧ Rep (zc X cl xl) ρ H st ∧ ρ[st1.length]? = some D ∧ RSl (zc X cl xl) ρ H σ σV ∧
      Got (zc X cl xl) (fun c d H' => W c d σV H') ρ H (finL st1.length (lcGo chk g t f st1.length (xs.drop i) (wipeM σ vs) st)) (PV (zc X cl xl) Q), ⟨_, Nat.zero_le _, rfl, _, _, e2, R2, hn, S1, Got.ext G2 e2⟩, ?_⟩
  rintro i m H ⟨hi, rfl, ρ, st, ex, R, hn, S, G⟩
  by_cases hlt : i < xs.length
  · have hx : xs[i]? = some xs[i] := List.getElem?_eq_getElem hlt
    rw [List.drop_eq_getElem_cons hlt] at G
    have G' : Got (zc X cl xl) (fun c d H' => W c d σV H') ρ H (finL st1.length ((chk >>= fun _ => g xs[i] (wipeM σ vs) >>= fun σ1 => t σ1 >>= fun c => (if c = true then f σ1 >>= fun y => mAppend (.loc st1.length) [y] >>= fun _ => lcGo chk g t f st1.length (xs.drop (i + 1)) (wipeM σ vs) else lcGo chk g t f st1.length (xs.drop (i + 1)) (wipeM σ vs))) st)) (PV (zc X cl xl) Q) := G
    rcases hJ.chk1 st with hk | hk
    · have G3 := G'.fin W0
      rw [hk] at G3
      obtain ⟨hgo, hy⟩ := hJ.go i _ ρ H st hx ex R hk
      refine .inr ⟨hgo, fun H' => ∃ ρ st, Ext ρ1 H1 ρ H' ∧ Rep (zc X cl xl) ρ H' st ∧ ρ[st1.length]? = some D ∧ RSl (zc X cl xl) ρ H' σ σV ∧
        Got (zc X cl xl) (fun c d H' => W c d σV H') ρ H' (finL st1.length (lcGo chk g t f st1.length (xs.drop (i + 1)) (wipeM σ vs) st)) (PV (zc X cl xl) Q), fun H' h => ⟨xs.length - (i + 1), by omega, hlt, rfl, h⟩, fun v H' yl => ?_⟩
      obtain ⟨ρ', e', R', rv⟩ := hy v H' yl
      have G4 := G3 ρ' H' e' R'
      refine ⟨ρ', wipeM σ vs, st, xs[i], R', (S.mono e').wipe vs, rv, (G4.fin W0).imp fun σ2 st2 ρ2 H2 ex2 R2 G5 σV2 S2 hw => ⟨?_, ?_⟩⟩
      · rw [hw]
        exact wipe_wipe
      · have Sb := (S.mono e').mono ex2
        refine ⟨ρ2, σ2, st2, R2, S2, (G5.fin _).imp fun c st3 ρ3 H3 ex3 R3 G6 => ?_⟩
        have Sc := Sb.mono ex3
        cases c with
        | false => exact iteF ⟨ρ3, st3, ((ex.trans e').trans ex2).trans ex3, R3, ex3.at (ex2.at (e'.at hn)), Sc, G6⟩
        | true =>
          refine iteT ⟨ρ3, σ2, st3, R3, S2.mono ex3, (Got.fin (m := f σ2) G6 _).imp fun y st4 ρ4 H4 ex4 R4 G7 w rw' => ?_⟩
          have hD4 := ex4.at (ex3.at (ex2.at (e'.at hn)))
          have G8 := Got.fin (m := mAppend (.loc st1.length) [y]) G7 W0
          have G9 : Got (zc X cl xl) W0 ρ4 H4 (match lstAt st4 st1.length with
            | some ys => if ys.length < 16777216 then .ok .non (st4.set st1.length (.lst (ys ++ [y]))) else .fail
            | none => .fail : Res MV) (fun _ st' ρ' H' => Got (zc X cl xl) (fun c d H' => W c d σV H') ρ' H' (finL st1.length (lcGo chk g t f st1.length (xs.drop (i + 1)) (wipeM σ vs) st')) (PV (zc X cl xl) Q)) := G8
          cases q : lstAt st4 st1.length with
          | none => rw [q] at G9; exact (show False from G9).elim
          | some ys =>
            rw [q] at G9
            obtain ⟨us, h1, r2⟩ := R4.lst hD4 q
            have G10 : Got (zc X cl xl) W0 ρ4 H4 (if ys.length < 16777216 then .ok .non (st4.set st1.length (.lst (ys ++ [y]))) else .fail : Res MV) (fun _ st' ρ' H' => Got (zc X cl xl) (fun c d H' => W c d σV H') ρ' H' (finL st1.length (lcGo chk g t f st1.length (xs.drop (i + 1)) (wipeM σ vs) st')) (PV (zc X cl xl) Q)) := G9
            split at G10
            · rename_i hl
              obtain ⟨R5, ex5, q5⟩ := got_set G10 R4 hD4 h1 (r2.append (RVs.one rw'))
              exact ⟨us, h1, by rw [sizeL, ← r2.length]; exact hl, ρ4, _, ((((ex.trans e').trans ex2).trans ex3).trans ex4).trans ex5, R5, hD4, (Sc.mono ex4).mono ex5, q5⟩
            · exact (show False from G10).elim
    · have G3 := G'.fin W0
      rw [hk] at G3
      exact (show False from G3).elim
  · have e : i = xs.length := by omega
    subst e
    rw [List.drop_length] at G
    have G' : Got (zc X cl xl) (fun c d H' => W c d σV H') ρ H (finL st1.length (chk st)) (PV (zc X cl xl) Q) := G
    rcases hJ.chk1 st with hk | hk
    · rw [hk] at G'
      exact .inl ⟨hJ.stop ρ H st ex R hk, (Got.ok G' R) _ ⟨D, rfl, hn⟩⟩
    · rw [hk] at G'
      exact (show False from G').elim
where
  wipe_wipe {σ : St} {vs : List Nat} : wipe (wipe σ vs) vs = wipe σ vs := by
    have key : ∀ (us : List Nat), (∀ i ∈ us, i ∈ vs) → wipe (wipe σ us) vs = wipe σ vs := by
      intro us
      induction us with
      | nil => intro _; rfl
      | cons u us ih =>
        intro h
        show wipe ((wipe σ us).set u none) vs = wipe σ vs
        rw [wipe_set (h u List.mem_cons_self)]
        exact ih fun i hi => h i (List.mem_cons_of_mem _ hi)
    exact key vs fun _ h => h
end
section
variable {X : Cx} {cl xl : Nat → Addr} {W : WX} {f : Exp} {g : Tg} {t : Tst} {it : Itm}
theorem m_lc {elt tg iter : Expr} {ifs : List Expr} {scope : Scope} {own : List (Str × Nat)} {pos : Pos} (hc : X.calm = true) (hN : X.N.Nodup) (hi : PI X tg iter (liftI (zc X cl xl) W it)) (ok : blkC X.N X.env.scope scope own = true)
    (hg : ∀ (s : Shared) (H : Hp) (C : Addr) (cl' : List (Str × Addr)) (fp : List Addr), PG (X.blk s H scope (compEnvC scope cl' C X.env) fp) tg (liftGw (zc X cl xl) (own.map (·.2)) g))
    (ht : ∀ (s : Shared) (H : Hp) (C : Addr) (cl' : List (Str × Addr)) (fp : List Addr), PTs (X.blk s H scope (compEnvC scope cl' C X.env) fp) ifs (liftT (zc X cl xl) WF t))
    (he : ∀ (s : Shared) (H : Hp) (C : Addr) (cl' : List (Str × Addr)) (fp : List Addr), PE (X.blk s H scope (compEnvC scope cl' C X.env) fp) elt (liftE (zc X cl xl) WF f)) (hs : ∀ x, foldedSetIterable iter X.env x = pure x := by intro _; rfl) :
    PE X (.ListComp elt [⟨tg, iter, ifs, 0⟩] scope pos) (liftE (zc X cl xl) W (mLc it g t f (own.map (·.2)))) :=
  (pe_lc hc hN hi (blkOk_by ok) hg ht he hs).weak lc_lift
end
end Mi
end
section
set_option Elab.async false
set_option linter.all false
set_option maxRecDepth 100000
set_option maxHeartbeats 2000000
set_option autoImplicit false
/-! Mi8: fields, own methods, instances, name op= value, a name bound to a comprehension, raise. -/
namespace Mi
open PySem PySem.Spec L2

section
variable {X : Cx} {cl xl : Nat → Addr} {W : WX} {e o a b : Expr} {es : List Expr} {pos p apos cpos p2 tpos pos' : Pos} {f fo fi fa fb fe : Exp} {fs : List Exp}
/-! ### fields -/
def insAt (st : Sto) (c : Nat) : MV → Option (List (Str × MV))
  | .loc n => match st[n]? with
    | some (.ins c' fs) => if c' = c then some fs else none
    | _ => none
  | _ => none
theorem ins_of {Z : Zc} {ρ : List Addr} {H : Hp} {st : Sto} {c : Nat} {x : MV} {v : V} {fs : List (Str × MV)} (R : Rep Z ρ H st) (r : RV Z ρ H x v) (h : insAt st c x = some fs) :
    ∃ n a dx gs, x = .loc n ∧ v = .ref a ∧ ρ[n]? = some a ∧ H a = some (.ins (Z.cls c) dx gs) ∧ RFs Z ρ H fs gs := by
  cases x with
  | loc n =>
    obtain ⟨a, rfl, ha⟩ := r
    have h' : (match st[n]? with
      | some (.ins c' fs) => if c' = c then some fs else none
      | _ => none) = some fs := h
    cases q : st[n]? with
    | none => rw [q] at h'; cases h'
    | some ob =>
      rw [q] at h'
      cases ob with
      | lst xs => cases h'
      | ins c' fs' =>
        have h2 : (if c' = c then some fs' else none) = some fs := h'
        split at h2
        · rename_i hc
          subst hc
          cases h2
          obtain ⟨dx, gs, e1, r1⟩ := R.ob n a _ ha q
          exact ⟨n, a, dx, gs, rfl, rfl, ha, e1, r1⟩
        · cases h2
  | _ => cases h
def mFld (c : Nat) (nm : Str) (fo : Exp) : Exp := fun σ => fo σ >>= fun x => M.look fun st => (insAt st c x).bind fun fs => fs.lookup nm
theorem m_fld {c : Nat} {nm : Str} (T : Cls X.K (cl c)) (n : NoAttr X.K (cl c) nm) (h : PE X e (liftE (zc X cl xl) W fo)) (hb : attributeBase e nm X.env (eval e X.env) = eval e X.env := by rfl) : PE X (.Attribute e nm pos) (liftE (zc X cl xl) W (mFld c nm fo)) :=
  (pe_fld h hb).weak fun σV H Q ⟨ρ, σ, st, R, S, G⟩ => ⟨ρ, σ, st, R, S, G.seq fun x st1 ρ1 H1 e1 R1 G1 v rv => by
    obtain ⟨y, e2, q⟩ := Got.look G1 R1
    cases e3 : insAt st1 c x with
    | none => rw [e3] at e2; cases e2
    | some fs =>
      rw [e3] at e2
      have e2' : fs.lookup nm = some y := e2
      obtain ⟨m, a, dx, gs, _, rfl, _, h1, r1⟩ := ins_of R1 rv e3
      obtain ⟨w, e4, rw'⟩ := r1.look e2'
      exact ⟨a, cl c, dx, gs, w, rfl, h1, T, n, e4, q w rw'⟩⟩
def setF (c : Nat) (nm : Str) (x y : MV) : M Unit := fun st => match x, insAt st c x with
  | .loc n, some fs => if fs.length < 1000 then .ok () (st.set n (.ins c (putM nm y fs))) else .fail
  | _, _ => .fail
theorem setF_of {Z : Zc} {W : Value → Option Addr → Hp → Prop} {ρ : List Addr} {H : Hp} {st : Sto} {c : Nat} {nm : Str} {x y : MV} {v w : V} {P : Unit → Sto → List Addr → Hp → Prop} {Q : Hp → Prop} (R : Rep Z ρ H st) (rx : RV Z ρ H x v) (ry : RV Z ρ H y w) (G : Got Z W ρ H (setF c nm x y st) P)
    (q : ∀ st' ρ' H', Ext ρ H ρ' H' → Rep Z ρ' H' st' → P () st' ρ' H' → Q H') : ∃ a dx gs, v = .ref a ∧ H a = some (.ins (Z.cls c) dx gs) ∧ gs.length < 1000 ∧ Q (upd H a (.ins (Z.cls c) dx (putF nm w gs))) := by
  unfold setF at G
  cases e1 : insAt st c x with
  | none => rw [e1] at G; cases x <;> exact (show False from G).elim
  | some fs =>
    rw [e1] at G
    obtain ⟨n, a, dx, gs, rfl, rfl, ha, h1, r1⟩ := ins_of R rx e1
    have G2 : Got Z W ρ H (if fs.length < 1000 then .ok () (st.set n (.ins c (putM nm y fs))) else .fail) P := G
    split at G2
    · rename_i hl
      obtain ⟨R', e⟩ := R.write (o := .ins c (putM nm y fs)) (u' := .ins (Z.cls c) dx (putF nm w gs)) ha h1 (fun _ z => nomatch z) (fun _ _ z => nomatch z) fun e => ⟨dx, _, upd_same, (r1.mono e).put (ry.mono e)⟩
      exact ⟨a, dx, gs, rfl, h1, by rw [← r1.length]; exact hl, q _ _ _ e R' (G2 ρ _ e R')⟩
    · exact (show False from G2).elim
def sFld (c : Nat) (nm : Str) (fo fe : Exp) : Stm := fun σ => catchX (fe σ >>= fun y => fo σ >>= fun x => setF c nm x y) σ fun _ => Pure.pure (.nx σ)
theorem s_fld {c : Nat} {nm : Str} (T : Cls X.K (cl c)) (n : NoAttr X.K (cl c) nm) (ho : PE X o (liftE (zc X cl xl) W fo)) (he : PE X e (liftE (zc X cl xl) W fe)) (hs : swapsWith e (some (.Attribute o nm pos')) pos.line X.env = pure false := by rfl) : PS X (.Assign [.Attribute o nm pos'] e pos) (liftS (zc X cl xl) W (sFld c nm fo fe)) :=
  (ps_fld ho he hs).weak fun D σV H ⟨ρ, σ, st, R, S, G⟩ => by
    have G1 := Got.catch (P := fun _ st' ρ' H' => Ext ρ H ρ' H' ∧ Rep (zc X cl xl) ρ' H' st' ∧ D.nx σV H') (σV := σV) G S fun _ st' ρ' H' e R' q => ⟨e, R', Got.pure q R' σV (S.mono e)⟩
    refine ⟨ρ, σ, st, R, S, G1.seq fun y st1 ρ1 H1 e1 R1 G2 w rw' => ⟨ρ1, σ, st1, R1, S.mono e1, G2.seq fun x st2 ρ2 H2 e2 R2 G3 v rv => ?_⟩⟩
    obtain ⟨a, dx, gs, rfl, h1, hl, q⟩ := setF_of (Q := fun H' => D.nx σV H') R2 rv (rw'.mono e2) G3 fun st' ρ' H' e R' q => q.2.2
    exact ⟨a, cl c, dx, gs, rfl, h1, T, n, hl, q⟩
/-- o.f += e, ints -/
def sFldAdd (c : Nat) (nm : Str) (fo fe : Exp) : Stm := fun σ => catchX (fo σ >>= fun x => (M.look fun st => (insAt st c x).bind fun fs => fs.lookup nm) >>= fun z => fe σ >>= fun y => match z, y with
  | .int i, .int j => setF c nm x (.int (i + j))
  | _, _ => M.fail) σ fun _ => Pure.pure (.nx σ)
theorem s_fldAdd {c : Nat} {nm : Str} (T : Cls X.K (cl c)) (n : NoAttr X.K (cl c) nm) (ho : PE X o (liftE (zc X cl xl) W fo)) (he : PE X e (liftE (zc X cl xl) W fe)) : PS X (.AugAssign (.Attribute o nm tpos) .Add e pos) (liftS (zc X cl xl) W (sFldAdd c nm fo fe)) :=
  (ps_fldaug ho he in_add).weak fun D σV H ⟨ρ, σ, st, R, S, G⟩ => by
    have G1 := Got.catch (P := fun _ st' ρ' H' => Ext ρ H ρ' H' ∧ Rep (zc X cl xl) ρ' H' st' ∧ D.nx σV H') (σV := σV) G S fun _ st' ρ' H' e R' q => ⟨e, R', Got.pure q R' σV (S.mono e)⟩
    refine ⟨ρ, σ, st, R, S, G1.seq fun x st1 ρ1 H1 e1 R1 G2 v rv => ?_⟩
    have G3 := G2.bind
    obtain ⟨z, e2, G4⟩ := Got.look G3 R1
    cases e3 : insAt st1 c x with
    | none => rw [e3] at e2; cases e2
    | some fs =>
      rw [e3] at e2
      have e2' : fs.lookup nm = some z := e2
      obtain ⟨m, a, dx, gs, hx, rfl, _, h1, r1⟩ := ins_of R1 rv e3
      obtain ⟨w, e4, rw'⟩ := r1.look e2'
      refine ⟨a, cl c, dx, gs, w, rfl, h1, T, n, e4, ρ1, σ, st1, R1, S.mono e1, G4.seq fun y st2 ρ2 H2 ex2 R2 G5 u ru => ?_⟩
      cases z with
      | int i =>
        cases rw'
        cases y with
        | int j =>
          cases ru
          obtain ⟨a', dx', gs', ea, h2, hl, q⟩ := setF_of (y := .int (i + j)) (w := .int (i + j)) (Q := fun H' => D.nx σV H') R2 (rv.mono ex2) rfl G5 fun st' ρ' H' e R' q => q.2.2
          cases ea
          exact ⟨i, j, rfl, rfl, dx', gs', h2, hl, q⟩
        | _ => exact (show False from G5).elim
      | _ => cases y <;> exact (show False from G5).elim

/-! ### own methods, instances -/
/-- the receiver is an instance of class c without an own attribute m -/
def chkM (c : Nat) (m : Str) (x : MV) : M Unit := M.look fun st => (insAt st c x).bind fun fs => if fs.lookup m = none then some () else none
def mMeth (c : Nat) (m : Str) (D : List MV → M MV) (fo : Exp) (fs : List Exp) : Exp := fun σ => fo σ >>= fun x => chkM c m x >>= fun _ => mArgs fs σ >>= fun xs => D (x :: xs)
/-- a wish that does not lean on the slots -/
def Flat (W : WX) : Prop := ∀ c d σ σ' H, W c d σ H → W c d σ' H
theorem chk_of {Z : Zc} {W : Value → Option Addr → Hp → Prop} {ρ : List Addr} {H : Hp} {st : Sto} {c : Nat} {m : Str} {x : MV} {v : V} {P : Unit → Sto → List Addr → Hp → Prop} (R : Rep Z ρ H st) (rx : RV Z ρ H x v) (G : Got Z W ρ H (chkM c m x st) P) :
    ∃ a dx gs, v = .ref a ∧ H a = some (.ins (Z.cls c) dx gs) ∧ gs.lookup m = none ∧ P () st ρ H := by
  obtain ⟨u, e2, q⟩ := Got.look G R
  cases e3 : insAt st c x with
  | none => rw [e3] at e2; cases e2
  | some fs =>
    rw [e3] at e2
    have e2' : (if fs.lookup m = none then some () else none) = some u := e2
    split at e2'
    · rename_i hl
      obtain ⟨n, a, dx, gs, _, rfl, _, h1, r1⟩ := ins_of R rx e3
      exact ⟨a, dx, gs, rfl, h1, r1.nolook hl, q⟩
    · cases e2'
theorem m_meth {c : Nat} {m : Str} {k : Nat} {g : Addr} {fd : FuncData} {ps : List Str} {D : List MV → M MV} {pl : Sem Bool} (hW : Flat W) (T : Cls X.K (cl c)) (hm : Meth X.K (cl c) m g) (F : FnOk X.prog X.w X.K X.mg X.base (L2.CX X.prog X.w) k g fd ps (spOf (zc X cl xl) D (fs.length + 1))) (tk : Takes X W) (hr : Room k X.A) (hb : Binds X.K fd ps [])
    (ho : PE X o (liftE (zc X cl xl) W fo)) (ha : PA X (e :: es) (liftA (zc X cl xl) W (mArgs fs)))
    (hst : starEach (e :: es) X.env = (false, eval e X.env) :: starEach es X.env := by rfl) (hpl : (backTo pos (starEach es X.env)).any (·.1) = false := by rfl)
    (ht : eval (.Call (.Attribute o m apos) (e :: es) [] pos) X.env = (do
      let ov ← eval o X.env
      standAt apos.atName
      let (f, first) ← holding [ov] (getMethod ov m pl)
      callWith pos f first (backTo pos (starEach (e :: es) X.env)) (backToKw pos (keywordEach [] X.env))) := by rfl) :
    PE X (.Call (.Attribute o m apos) (e :: es) [] pos) (liftE (zc X cl xl) W (mMeth c m D fo fs)) :=
  (pe_meth (E := fun c d H => W c d [] H) ho T hm F hr hb .nil (passes_call tk fun c d σ H h => hW c d [] σ H h) ha hst hpl ht).weak fun σV H Q ⟨ρ, σ, st, R, S, G⟩ => ⟨ρ, σ, st, R, S, G.seq fun x st1 ρ1 H1 e1 R1 G1 v rv => by
    obtain ⟨a, dx, gs, rfl, h1, hl, G2⟩ := chk_of R1 rv G1.bind
    refine ⟨a, dx, gs, rfl, h1, hl, ρ1, σ, st1, R1, S.mono e1, G2.args fun xs st2 ρ2 H2 e2 R2 l2 G3 vs rvs => ⟨ρ2, st2, x :: xs, R2, ⟨.ref a, vs ++ [], by simp, rv.mono e2, by rw [List.append_nil]; exact rvs⟩, by simp [l2], ?_⟩⟩
    revert G3
    cases D (x :: xs) st2 with
    | ok b st' => exact fun h => h
    | exc c fs st' => exact fun h ρ' H' d gs e R hd hl => hW _ _ _ _ _ (h ρ' H' d gs e R hd hl)
    | fail => exact fun h => h⟩
theorem m_meth0 {c : Nat} {m : Str} {k : Nat} {g : Addr} {fd : FuncData} {ps : List Str} {D : List MV → M MV} {pl : Sem Bool} (hW : Flat W) (T : Cls X.K (cl c)) (hm : Meth X.K (cl c) m g) (F : FnOk X.prog X.w X.K X.mg X.base (L2.CX X.prog X.w) k g fd ps (spOf (zc X cl xl) D 1)) (tk : Takes X W) (hr : Room k X.A) (hb : Binds X.K fd ps [])
    (ho : PE X o (liftE (zc X cl xl) W fo))
    (ht : eval (.Call (.Attribute o m apos) [] [] pos) X.env = (do
      let ov ← eval o X.env
      standAt apos.atName
      let (f, first) ← holding [ov] (getMethod ov m pl)
      callWith pos f first (backTo pos (starEach [] X.env)) (backToKw pos (keywordEach [] X.env))) := by rfl) :
    PE X (.Call (.Attribute o m apos) [] [] pos) (liftE (zc X cl xl) W (mMeth c m D fo [])) :=
  (pe_meth0 (E := fun c d H => W c d [] H) ho T hm F hr hb .nil (passes_call tk fun c d σ H h => hW c d [] σ H h) ht).weak fun σV H Q ⟨ρ, σ, st, R, S, G⟩ => ⟨ρ, σ, st, R, S, G.seq fun x st1 ρ1 H1 e1 R1 G1 v rv => by
    obtain ⟨a, dx, gs, rfl, h1, hl, G2⟩ := chk_of R1 rv G1.bind
    have G3 := (Got.bind G2).ok R1
    refine ⟨a, dx, gs, rfl, h1, hl, ρ1, st1, [x], R1, ⟨.ref a, [], rfl, rv, rfl⟩, rfl, ?_⟩
    revert G3
    cases D [x] st1 with
    | ok b st' => exact fun h => h
    | exc c fs st' => exact fun h ρ' H' d gs e R hd hl => hW _ _ _ _ _ (h ρ' H' d gs e R hd hl)
    | fail => exact fun h => h⟩
def finN (n : Nat) : Res MV → Res MV
  | .ok .non st' => .ok (.loc n) st'
  | _ => .fail
def mMake (c : Nat) (D : List MV → M MV) (fs : List Exp) : Exp := fun σ => mArgs fs σ >>= fun xs => fun st => finN st.length (D (.loc st.length :: xs) (st ++ [.ins c []]))
theorem make_of {Z : Zc} {W : Value → Option Addr → Hp → Prop} {ρ : List Addr} {H : Hp} {st : Sto} {c : Nat} {D : List MV → M MV} {xs : List MV} {vs : List V} {n : Nat} {Q : VK} (R : Rep Z ρ H st) (rvs : RVs Z ρ H xs vs) (hl : xs.length = n) (G : Got Z W ρ H (finN st.length (D (.loc st.length :: xs) (st ++ [.ins c []]))) (PV Z Q)) :
    ∀ x dx, H x = none → H dx = none → dx ≠ x → spOf Z D (n + 1) (.ref x :: (vs ++ [])) (upd (upd H dx (.own x)) x (.ins (Z.cls c) dx [])) (fun v H2 => v = .non ∧ Q (.ref x) H2) E0 := by
  intro x dx hx hdx ne
  have k1 : ∀ b u, H b = some u → upd (upd H dx (.own x)) x (.ins (Z.cls c) dx []) b = some u := fun b u e => by
    rw [upd_ne (ne_of_none e hx), upd_ne (ne_of_none e hdx)]
    exact e
  obtain ⟨R', e⟩ := R.new (o := .ins c []) (u := .ins (Z.cls c) dx []) (p := x) upd_same k1 hx fun e => ⟨dx, [], upd_same, rfl⟩
  have hn : (ρ ++ [x])[st.length]? = some x := by
    rw [← R.len, List.getElem?_append_right (Nat.le_refl _)]
    simp
  refine ⟨ρ ++ [x], st ++ [.ins c []], .loc st.length :: xs, R', ⟨.ref x, _, rfl, ⟨x, rfl, hn⟩, by rw [List.append_nil]; exact rvs.mono e⟩, by simp [hl], ?_⟩
  have G' := Got.ext G e
  revert G'
  cases D (.loc st.length :: xs) (st ++ [.ins c []]) with
  | ok y st' => cases y with
    | non => exact fun h ρ' H' e' R2 v hv => ⟨hv, h ρ' H' e' R2 _ ⟨x, rfl, e'.at hn⟩⟩
    | _ => exact fun h => (show False from h).elim
  | exc c fs st' => exact fun h => (show False from h).elim
  | fail => exact fun h => (show False from h).elim
theorem m_make {c : Nat} {x : Str} {k : Nat} {g : Addr} {fd : FuncData} {ps : List Str} {D : List MV → M MV} (M : Mk X.K (cl c) g) (F : FnOk X.prog X.w X.K X.mg X.base (L2.CX X.prog X.w) k g fd ps (spOf (zc X cl xl) D (fs.length + 1))) (hr : Room (k + 1) X.A) (hg : Gl X x) (hm : X.mg x = some (.ref (cl c))) (hb : Binds X.K fd ps [])
    (ha : PA X (e :: es) (liftA (zc X cl xl) W (mArgs fs))) (hdb : (x == ("__debug__" : Str)) = false := by decide) (he : starEach (e :: es) X.env = (false, eval e X.env) :: starEach es X.env := by rfl) (hpl : (backTo pos (starEach es X.env)).any (·.1) = false := by rfl) :
    PE X (.Call (.Name x p) (e :: es) [] pos) (liftE (zc X cl xl) W (mMake c D fs)) :=
  (pe_make M F hr hg hm hb .nil passL ha hdb he hpl).weak fun σV H Q ⟨ρ, σ, st, R, S, G⟩ => ⟨ρ, σ, st, R, S, G.args fun xs st1 ρ1 H1 e1 R1 l1 G1 vs rvs => make_of R1 rvs l1 G1⟩
theorem m_make0 {c : Nat} {x : Str} {k : Nat} {g : Addr} {fd : FuncData} {ps : List Str} {D : List MV → M MV} (M : Mk X.K (cl c) g) (F : FnOk X.prog X.w X.K X.mg X.base (L2.CX X.prog X.w) k g fd ps (spOf (zc X cl xl) D 1)) (hr : Room (k + 1) X.A) (hg : Gl X x) (hm : X.mg x = some (.ref (cl c))) (hb : Binds X.K fd ps [])
    (hdb : (x == ("__debug__" : Str)) = false := by decide) : PE X (.Call (.Name x p) [] [] pos) (liftE (zc X cl xl) W (mMake c D [])) :=
  (pe_make0 M F hr hg hm hb .nil passL hdb).weak fun σV H Q ⟨ρ, σ, st, R, S, G⟩ => make_of (n := 0) (xs := []) (vs := []) R rfl rfl (show Got (zc X cl xl) (fun c d H' => W c d σV H') ρ H (finN st.length (D [.loc st.length] (st ++ [.ins c []]))) (PV (zc X cl xl) Q) from G)

/-! ### name op= e (ints); name = [..] -/
def sAug (g : Int → Int → Int) (i : Nat) (fe : Exp) : Stm := fun σ => match (σ[i]?).bind id with
  | some (.int k) => catchX (fe σ) σ fun y => match y with
    | .int j => Pure.pure (.nx (σ.set i (some (.int (g k j)))))
    | _ => M.fail
  | _ => M.fail
theorem s_aug {g : Int → Int → Int} {op : Operator} {i : Nat} {x : Str} (hp : PIp X op (ipI g)) (he : PE X e (liftE (zc X cl xl) W fe)) (hN : X.N.Nodup) (hi : X.N[i]? = some x := by rfl) (hx : Loc X.env.scope x := by first | exact Or.inl rfl | exact Or.inr rfl)
    (hf : X.fn x = true ∨ X.env.scope.names.lookup x = some .local := by first | exact .inl rfl | exact .inr rfl) : PS X (.AugAssign (.Name x pos') op e pos) (liftS (zc X cl xl) W (sAug g i fe)) :=
  (ps_aug hN hi hx he hp hf).weak fun D σV H ⟨ρ, σ, st, R, S, G⟩ => by
    have G0 : Got (zc X cl xl) W0 ρ H ((match (σ[i]?).bind id with
      | some (.int k) => catchX (fe σ) σ fun y => match y with
        | .int j => Pure.pure (.nx (σ.set i (some (.int (g k j)))))
        | _ => M.fail
      | _ => M.fail : M Fl) st) (PF (zc X cl xl) W D) := G
    cases q : (σ[i]?).bind id with
    | none => rw [q] at G0; exact (show False from G0).elim
    | some z =>
      rw [q] at G0
      have e2 : σ[i]? = some (some z) := by
        cases q2 : σ[i]? with
        | none => rw [q2] at q; cases q
        | some y => rw [q2] at q; exact congrArg some q
      obtain ⟨v, e3, r⟩ := S.2 i z e2
      cases z with
      | int k =>
        cases r
        refine ⟨_, e3, ρ, σ, st, R, S, Got.catch G0 S fun y st1 ρ1 H1 e1 R1 G1 w rw' => ?_⟩
        cases y with
        | int j =>
          cases rw'
          exact ⟨k, j, rfl, rfl, Got.pure G1 R1 _ ((S.mono e1).set (x := .int (g k j)) rfl)⟩
        | _ => exact (show False from G1).elim
      | _ => exact (show False from G0).elim
theorem s_setLc {i : Nat} {y : Str} {py spos : Pos} {elt tg iter : Expr} {ifs : List Expr} {scope : Scope} {own : List (Str × Nat)} {g : Tg} {t : Tst} {it : Itm} (hc : X.calm = true) (hN : X.N.Nodup)
    (hsw : swapsWith (.ListComp elt [⟨tg, iter, ifs, 0⟩] scope pos) (some (.Name y py)) spos.line X.env = pure true) (hi : PI X tg iter (liftI (zc X cl xl) W it)) (ok : blkC X.N X.env.scope scope own = true)
    (hg : ∀ (s : Shared) (H : Hp) (C : Addr) (cl' : List (Str × Addr)) (fp : List Addr), PG (X.blk s H scope (compEnvC scope cl' C X.env) fp) tg (liftGw (zc X cl xl) (own.map (·.2)) g))
    (ht : ∀ (s : Shared) (H : Hp) (C : Addr) (cl' : List (Str × Addr)) (fp : List Addr), PTs (X.blk s H scope (compEnvC scope cl' C X.env) fp) ifs (liftT (zc X cl xl) WF t))
    (he : ∀ (s : Shared) (H : Hp) (C : Addr) (cl' : List (Str × Addr)) (fp : List Addr), PE (X.blk s H scope (compEnvC scope cl' C X.env) fp) elt (liftE (zc X cl xl) WF f)) (hs : ∀ x, foldedSetIterable iter X.env x = pure x := by intro _; rfl)
    (hy : X.N[i]? = some y := by rfl) (hyl : X.env.scope.names.lookup y = some .local := by rfl) :
    PS X (.Assign [.Name y py] (.ListComp elt [⟨tg, iter, ifs, 0⟩] scope pos) spos) (liftS (zc X cl xl) W (sSet i (mLc it g t f (own.map (·.2))))) :=
  (ps_setLc hc hN hy hyl hsw hi (blkOk_by ok) hg ht he hs).weak fun D σV H ⟨ρ, σ, st, R, S, G⟩ => lc_lift σV H (fun x H1 => gName i x σV H1 D.nx) ⟨ρ, σ, st, R, S, G.catch S fun x st1 ρ1 H1 e1 R1 G1 v rv => G1.pure R1 _ ((S.mono e1).set rv)⟩
end

/-! ### raise -/
/-- what __init__ of an own exception leaves: the fields nms with the arguments, where ok holds of these -/
def spXI (Z : Zc) (c : Nat) (nms : List Str) (ok : List MV → Bool) : Sp := fun vs H Q _ => ∃ (a : Addr) (ws : List V) (ρ : List Addr) (xs : List MV), vs = .ref a :: ws ∧ RVs Z ρ H xs ws ∧ xs.length = nms.length ∧ ok xs = true ∧ H a = some (exo a (Z.xcls c) none) ∧
  ∀ d H', H d = none → d ≠ a → H' a = some (exo a (Z.xcls c) (some d)) → (∃ gs, H' d = some (exd d gs) ∧ gs.map (·.1) = nms.reverse ∧ gs.map (·.2) = ws.reverse) → (∀ b, b ≠ a → b ≠ d → H' b = H b) → Q .non H'
def sRaise (c : Nat) (nms : List Str) (ok : List MV → Bool) (fs : List Exp) : Stm := fun σ => catchX (mArgs fs σ) σ fun xs => if ok xs = true then Pure.pure (.exc c (nms.reverse.zip xs.reverse) σ) else M.fail
theorem RFs.ofzip {Z : Zc} {ρ : List Addr} {H : Hp} : ∀ {nms : List Str} {xs : List MV} {ws : List V} {gs : List (Str × V)}, RVs Z ρ H xs ws → xs.length = nms.length → gs.map (·.1) = nms → gs.map (·.2) = ws → RFs Z ρ H (nms.zip xs) gs
  | [], [], ws, gs, r, _, h1, _ => by
    have : gs = [] := List.map_eq_nil_iff.mp h1
    subst this
    rfl
  | n :: nms, x :: xs, ws, gs, r, hl, h1, h2 => by
    obtain ⟨v, q, rfl, r1, r2⟩ := r
    cases gs with
    | nil => cases h1
    | cons g gs =>
      obtain ⟨g1, g2⟩ := g
      simp only [List.map_cons, List.cons.injEq] at h1 h2
      obtain ⟨rfl, h1⟩ := h1
      obtain ⟨rfl, h2⟩ := h2
      exact ⟨g2, gs, rfl, r1, RFs.ofzip r2 (by simpa using hl) h1 h2⟩
  | [], _ :: _, _, _, _, hl, _, _ => by cases hl
  | _ :: _, [], _, _, _, hl, _, _ => by cases hl
theorem RVs.rev {Z : Zc} {ρ : List Addr} {H : Hp} : ∀ {xs : List MV} {vs : List V}, RVs Z ρ H xs vs → RVs Z ρ H xs.reverse vs.reverse
  | [], _, r => by cases r; rfl
  | x :: xs, _, r => by
    obtain ⟨v, q, rfl, r1, r2⟩ := r
    rw [List.reverse_cons, List.reverse_cons]
    exact (RVs.rev r2).append (RVs.one r1)
section
variable {X : Cx} {cl xl : Nat → Addr} {W : WX} {e : Expr} {es : List Expr} {pos p p2 : Pos} {fs : List Exp}
theorem s_raise {c : Nat} {nms : List Str} {ok : List MV → Bool} {x : Str} {fI : Addr} {k : Nat} {fd : FuncData} {ps : List Str} (hc : X.calm = true) (tk : Takes X W) (T : OexC X.K (xl c)) (iC : PySem.W.findIn X.K (.ref (xl c)) "__init__" = some (some (.ref fI))) (tI : PySem.W.typeIn X.K (.ref fI) = some (.type "function"))
    (F : FnOk X.prog X.w X.K X.mg X.base (L2.CX X.prog X.w) k fI fd ps (spXI (zc X cl xl) c nms ok)) (hr : Room (k + 1) X.A) (hb : Binds X.K fd ps []) (hg : Gl X x) (hm : X.mg x = some (.ref (xl c))) (hl : fs.length = nms.length) (hl2 : fs.length ≤ 1000)
    (ha : PA X (e :: es) (liftA (zc X cl xl) W (mArgs fs))) (hdb : (x == ("__debug__" : Str)) = false := by decide) (he : starEach (e :: es) X.env = (false, eval e X.env) :: starEach es X.env := by rfl) (hpl : (backTo p2 (starEach es X.env)).any (·.1) = false := by rfl) :
    PS X (.Raise (some (.Call (.Name x p) (e :: es) [] p2)) none pos) (liftS (zc X cl xl) W (sRaise c nms ok fs)) :=
  (ps_raise hc tk (pmk_oex T iC tI F hr hb .nil passL hg hm ha hdb he hpl)).weak fun D σV H ⟨ρ, σ, st, R, S, G⟩ => ⟨ρ, σ, st, R, S, by
    have G0 : Got (zc X cl xl) W0 ρ H (catchX (mArgs fs σ) σ (fun xs => if ok xs = true then Pure.pure (.exc c (nms.reverse.zip xs.reverse) σ) else M.fail) st) (PF (zc X cl xl) W D) := G
    have G1 := Got.catch (P := fun xs st' ρ' H' => Ext ρ H ρ' H' ∧ Rep (zc X cl xl) ρ' H' st' ∧ ok xs = true ∧ ∀ ρ2 H2, Ext ρ' H' ρ2 H2 → Rep (zc X cl xl) ρ2 H2 st' → FlOk (zc X cl xl) W D ρ2 H2 (.exc c (nms.reverse.zip xs.reverse) σ)) G0 S fun xs st' ρ' H' ex R' q => by
      by_cases h : ok xs = true
      · rw [if_pos h] at q
        exact ⟨ex, R', h, fun ρ2 H2 e2 R2 => q ρ2 H2 e2 R2⟩
      · rw [if_neg h] at q
        exact (show False from q).elim
    have G2 : Got (zc X cl xl) (fun c d H' => W c d σV H') ρ H (mArgs fs σ st) (fun xs st' ρ' H' => xs.length = fs.length ∧ Ext ρ H ρ' H' ∧ Rep (zc X cl xl) ρ' H' st' ∧ ok xs = true ∧ ∀ ρ2 H2, Ext ρ' H' ρ2 H2 → Rep (zc X cl xl) ρ2 H2 st' → FlOk (zc X cl xl) W D ρ2 H2 (.exc c (nms.reverse.zip xs.reverse) σ)) := by
      revert G1
      cases q : mArgs fs σ st with
      | ok xs st' => exact fun h ρ' H' ex R' => ⟨mArgs_len fs q, h ρ' H' ex R'⟩
      | exc c fs st' => exact fun h => h
      | fail => exact fun h => h
    refine G2.imp fun xs st1 ρ1 H1 e1 R1 q vs rvs => ?_
    obtain ⟨l1, _, _, hok, q⟩ := q
    refine ⟨by rw [← rvs.length, l1]; exact hl2, fun a ha => ?_⟩
    obtain ⟨Ra, ea⟩ := R1.grow (upd_keep (u := exo a (xl c) none) ha)
    refine ⟨a, vs ++ [], ρ1, xs, rfl, by rw [List.append_nil]; exact rvs.mono ea, by rw [l1, hl], hok, upd_same, fun d H' hd hda hH hg hrest => ⟨rfl, ?_⟩⟩
    obtain ⟨gs, hg1, hg2, hg3⟩ := hg
    rw [List.append_nil] at hg3
    have hd1 : H1 d = none := by
      rw [upd_ne hda] at hd
      exact hd
    refine ⟨d, gs, hH, hg1, hd1, ?_⟩
    have eH : upd (del H' a) d (.xd gs) = upd H1 d (.xd gs) := by
      funext b
      by_cases hb : b = d
      · rw [hb, upd_same, upd_same]
      · rw [upd_ne hb, upd_ne hb]
        by_cases hba : b = a
        · rw [hba, del_same, ha]
        · rw [del_ne hba, hrest b hba hb, upd_ne hba]
    rw [eH]
    obtain ⟨Rd, ed⟩ := R1.grow (upd_keep (u := .xd gs) hd1)
    have rf : RFs (zc X cl xl) ρ1 (upd H1 d (.xd gs)) (nms.reverse.zip xs.reverse) gs := RFs.ofzip ((rvs.mono ed).rev) (by rw [List.length_reverse, List.length_reverse, l1, hl]) hg2 hg3
    exact q ρ1 _ ed Rd σV d gs ((S.mono e1).mono ed) upd_same fun nm x hx => rf.look hx⟩
end
end Mi
end
section
set_option Elab.async false
set_option linter.all false
set_option maxRecDepth 100000
set_option maxHeartbeats 2000000
set_option autoImplicit false
/-! Mi9: __init__ of an own exception over ValueError that begins with super().__init__(text). -/
namespace Mi
open PySem PySem.Spec PyProof.Rows L2 NdefX

/-- what the written part holds of such a class C and its __init__'s code and cell -/
structure SupC (P : Program) (K : PySem.W.Frag) (C cda cc : Addr) : Prop where
  code : ∃ ccl cdd vs ccs file tf, K.lookup cda = some ⟨ccl, cdd, .fields vs, ccs⟩ ∧ vs[2]? = some (.str file tf) ∧ ((P.main.file : Str) == file) = true
  cell : ∃ cl cld csl, K.lookup cc = some ⟨cl, cld, .cell (some (.ref C)), csl⟩
  sup : PySem.W.nsIn K mainGlobals "super" = some none
  opq : PySem.W.nsIn K cStatics "thirdparty.any" = some none
  ini : PySem.W.ks_superIn K C C "__init__" = some (some (.builtin "ValueError.__init__"))
  sub : PySem.W.mroIn K C (.ref C) = some true
  subV : PySem.W.subIn K (.ref C) (.type "ValueError") = some true
  top : (P.main.scope.names.lookup ("super" : Str)).isSome = false
  oex : OexC K C
section
variable {P : Program} {w : World} {K : PySem.W.Frag} {mg : Str → Option Value} {base : Heap}
theorem exo_clsIn {C : Addr} (T : OexC K C) : ∃ cd, PySem.W.clsIn K C = some cd := by
  obtain ⟨nm, q, N, bs, bm, sn, sub, ab, col, dd, k0, k1, k2, k3, k5, hC, hbm⟩ := T.cls
  exact ⟨{ name := nm, bases := bs, mro := .ref C :: bm, ns := N, qualname := q, hasDict := true, slotNames := sn, subclasses := sub, abstract := ab, collection := col, hasDel := false }, by unfold PySem.W.clsIn; rw [hC] <;> rfl⟩
theorem clsIn_get {h : Heap} {C : Addr} {cd : ClassData} (X : K.In h) (hD : PySem.W.clsIn K C = some cd) : ∃ oD, h.get? C = some oD ∧ oD.data = .cls cd := by
  unfold PySem.W.clsIn at hD
  split at hD
  · rename_i c d cd' sl ho
    cases hD
    exact ⟨_, X _ _ ho, rfl⟩
  · cases hD
/-- the object of an exception being made is no class -/
theorem exo_ne {h : Heap} {C a t1 : Addr} {cd : ClassData} (X : K.In h) (hD : PySem.W.clsIn K C = some cd) (ho : h.get? a = some ({ cls := .ref C, dict := none, data := .fields #[.ref t1, .none, .none, .none, .bool false, .none] } : Obj)) : a ≠ C := by
  rintro rfl
  obtain ⟨oD, e1, e2⟩ := clsIn_get X hD
  rw [ho] at e1
  cases e1
  cases e2
end
section
variable {P : Program} {w : World} {K : PySem.W.Frag} {mg : Str → Option Value} {base : Heap} {N ps : List Str} {G : NF} {f C cc : Addr} {A : Around} {outer : List Env} {s0 : Shared} {H0 : Hp} {E : XK} {CX : CXT}
theorem super_run {pins : List (Addr × Obj)} {σ : L2.St} {H : Hp} {s : Shared} {a : Addr} {ar : PySem.Arg} {e : Expr} {ta : TA} {p0 p1 p2 p3 pos : Pos} {D : L2.St → Hp → Prop} {fd : FuncData} {oc : Value} {od : Option Addr} {osl : Array (Option Value)}
    (U : SupC P K C G.c cc) (hcl : G.cl = [(("__class__" : Str), cc)]) (lk : K.lookup f = some ⟨oc, od, .func fd, osl⟩) (hpar : (fd.params.posonlyargs ++ fd.params.args).head? = some ar) (hN : N[0]? = some ar.arg)
    (hks : G.scope.names.lookup ("super" : Str) = some .globalImplicit) (hkc : G.scope.names.lookup ("__class__" : Str) = some .free) (hka : G.scope.names.lookup ar.arg = some .local) (hk : G.scope.kind = .function)
    (I : Inv (ncx CX P w K mg base N G f A outer s0 H0 E) pins σ H s) (h0 : σ[0]? = some (some (.ref a))) (ha : H a = some (exo a C none))
    (hA : PA (ncx CX P w K mg base N G f A outer s0 H0 E) [e] ta) (hta : ta σ H fun vs H1 => vs.length ≤ 1000 ∧ H1 a = some (exo a C none) ∧ D σ H1)
    {pl : Sem Bool} (hev : eval (.Call (.Attribute (.Call (.Name "super" p0) [] [] p1) "__init__" p2) [e] [] p3) (ncx CX P w K mg base N G f A outer s0 H0 E).env = (do
      let ov ← attributeBase (.Call (.Name "super" p0) [] [] p1) "__init__" (ncx CX P w K mg base N G f A outer s0 H0 E).env (eval (.Call (.Name "super" p0) [] [] p1) (ncx CX P w K mg base N G f A outer s0 H0 E).env)
      standAt p2.atName
      let (g, first) ← holding [ov] (getMethod ov "__init__" pl)
      callWith p3 g first (backTo p3 (starEach [e] (ncx CX P w K mg base N G f A outer s0 H0 E).env)) []) := by rfl)
    (hst : starEach [e] (ncx CX P w K mg base N G f A outer s0 H0 E).env = [(false, eval e (ncx CX P w K mg base N G f A outer s0 H0 E).env)] := by rfl)
    (hsw : swapsWith (.Call (.Attribute (.Call (.Name "super" p0) [] [] p1) "__init__" p2) [e] [] p3) none pos.line (ncx CX P w K mg base N G f A outer s0 H0 E).env = pure false := by rfl) :
    PySem.wpAt (model P w) (A.deeper (envF G f s0.heap.objs.size)) (.func G.body (envF G f s0.heap.objs.size)) (exec (.Expr (.Call (.Attribute (.Call (.Name "super" p0) [] [] p1) "__init__" p2) [e] [] p3) pos) (envF G f s0.heap.objs.size))
      (fun fl s' => fl = .next ∧ ∃ H1, Inv (ncx CX P w K mg base N G f A outer s0 H0 E) pins σ H1 s' ∧ D σ H1) (ncx CX P w K mg base N G f A outer s0 H0 E).xe s := by
  have X : K.In s.heap := I.kIn
  obtain ⟨ccl, cdd, vs, ccs, file, tf, hcode, hvs, hfile⟩ := U.code
  obtain ⟨cl, cld, csl, hcell⟩ := U.cell
  obtain ⟨cd, hcd⟩ := exo_clsIn U.oex
  obtain ⟨oD, hD1, hD2⟩ := clsIn_get X hcd
  obtain ⟨t1, ho⟩ := exo_at I.hok ha
  have hne := exo_ne X hcd ho
  obtain ⟨m, hns, hloc⟩ := I.loc
  obtain ⟨u, ru, hu⟩ := hloc 0 ar.arg (.ref a) hN h0 (Or.inl hka)
  obtain rfl : u = Value.ref a := ru
  have hm : m ar.arg = some (.ref a) := by
    rcases hu with ⟨_, hu⟩ | ⟨hu, _⟩
    · exact hu
    · have hka' : (ncx CX P w K mg base N G f A outer s0 H0 E).env.kindOf ar.arg = some .local := hka
      rw [hka'] at hu
      rcases hu with hu | hu <;> cases hu
  obtain ⟨mb, hb1, hb2⟩ := I.mod.blt
  have hcl' : (envF G f s0.heap.objs.size).cells.lookup ("__class__" : Str) = some cc := by
    show G.cl.lookup _ = _
    rw [hcl]
    rfl
  refine ks_wpAt_Expr_any (ks_wpAt_MethodCall (pl := pl) ?_ hev) I.quiet hsw
  refine ks_wpAt_super_base (env := envF G f s0.heap.objs.size) hks hkc (by decide) rfl (X _ _ lk) rfl hpar rfl (X _ _ hcode) rfl hvs hfile U.top ?_
  refine PySem.W.ks_loadName_global hk hks (PySem.Calls.loadGlobal_builtin (env := envF G f s0.heap.objs.size) (mg := mg) (mb := mb) (I.mod.glob.keeps I.bk) (PySem.W.mg_none_of I.mod.kin I.mod.glob U.sup) (hb1.keeps I.bk) ((hb2 _ (by decide)).trans PyProof.Rows.Boot.«super») ⟨rfl, ?_⟩)
  refine wpAny_loadName_free hk hkc hcl' ⟨_, X _ _ hcell, rfl⟩ ?_
  refine wpAny_loadName_local hk hka hns hm ?_
  obtain ⟨hh, g, d, t, os⟩ := s
  refine ks_wpAny_isType_cls hD1 hD2 ⟨rfl, ?_⟩
  refine ks_wpAny_call_super hD1 hD2 ho rfl (fun c z => nomatch z) (PySem.W.looks_mroIn X U.sub) (fun h' e1 k1 => ?_)
  have I1 := I.kept (t' := t) k1
  have X1 : K.In h' := I1.kIn
  have hin : PySem.W.ks_superIn K C C "__init__" = some (some (.builtin "ValueError.__init__")) := U.ini
  unfold PySem.W.ks_superIn at hin
  rw [hcd] at hin
  have i1 := k1 _ _ ho
  have IA : PySem.W.InstAt h' a _ C none := ⟨i1, rfl, rfl, trivial⟩
  refine PySem.W.kxs_getMethod PySem.W.kxs_ValueError e1 (PySem.W.looks_opaque X1 U.opq) (l₀ := cd.mro) ?_ rfl X1 hin ?_ hne (by decide) ?_
  · exact fun A Q E s k q => wpAny_bind ((PySem.W.looks_clsIn X1 hcd) A _ E s k (wpAny_pure q))
  · exact IA.type.andThen (PySem.W.looks_subIn X1 U.subV)
  have k2 : ∀ b u, h'.get? b = some u → (h'.push (PySem.W.kxs_mw "ValueError.__init__" a)).get? b = some u := fun b u z => Heap.get?_push_of_some _ z
  have I2 := I1.kept (t' := t + 1) k2
  have hw : (h'.push (PySem.W.kxs_mw "ValueError.__init__" a)).get? h'.objs.size = some (PySem.W.kxs_mw "ValueError.__init__" a) := Heap.get?_push_at rfl rfl
  have lt1 : s0.heap.objs.size < h'.objs.size := I1.lt
  have I3 : Inv (ncx CX P w K mg base N G f A outer s0 H0 E) ((h'.objs.size, PySem.W.kxs_mw "ValueError.__init__" a) :: pins) σ H { heap := h'.push (PySem.W.kxs_mw "ValueError.__init__" a), gens := g, drawn := d, toks := t + 1, os := os } := by
    refine I2.pins_of fun p hp => ?_
    rcases List.mem_cons.mp hp with rfl | hp
    · exact ⟨hw, I1.hok.fresh (Nat.le_refl _), Nat.ne_of_gt lt1, I1.nofs (Nat.le_refl _), fun v z => nomatch z⟩
    · exact I2.pin p (List.mem_append_right _ hp)
  show wpAny _ _ (callWith p3 (.ref h'.objs.size) [] (backTo p3 (starEach [e] (envF G f s0.heap.objs.size))) []) _ _ _
  have hst' : starEach [e] (envF G f s0.heap.objs.size) = [(false, eval e (envF G f s0.heap.objs.size))] := hst
  refine PySem.W.kxs_callWith (i := "ValueError.__init__") (x := a) (by rw [hst']; rfl) ?_
  rw [hst']
  refine PySem.Calls.evalArgs_plain ?_
  have hAr := hA.run p3 ((h'.objs.size, PySem.W.kxs_mw "ValueError.__init__" a) :: pins) _ σ H _ I3 hta
  have hAr' : wpAny (model P w) (A.deeper (envF G f s0.heap.objs.size)) (spliced (backTo p3 (starEach [e] (envF G f s0.heap.objs.size)))) _ _ _ := hAr
  rw [hst'] at hAr'
  refine thn hAr' fun us s4 ⟨vs', H4, I4, r4, hl4, ha4, hD4⟩ => ?_
  have hw4 := (I4.pin _ (List.mem_append_right _ (List.mem_cons_self ..))).1
  refine ⟨hw4, ?_⟩
  have hz : us.length ≤ sizeLine := by
    rw [← r4.length, sizeLine_eq]
    omega
  obtain ⟨nm, q, N', bs, bm, sn, sub, ab, col, dd, k0, k1', k2', k3, k5, hC, hbm⟩ := U.oex.cls
  obtain ⟨t4, ho4⟩ := exo_at I4.hok ha4
  have X4 : K.In s4.heap := I4.kIn
  obtain ⟨h4, g4, d4, tk4, os4⟩ := s4
  refine wpAny_call (codeAny_of_tree ?_)
  show wpAny _ (A.deeper (envF G f s0.heap.objs.size)).in1 (callAny (.ref h'.objs.size) ⟨us, []⟩) _ _ _
  simp only [callAny]
  refine wpAny_bind (wpAny_load hw4 ?_)
  simp only [PySem.W.kxs_mw, show (Value.type "method-wrapper" == Value.type "method" || Value.type "method-wrapper" == Value.type "builtin_function_or_method" || Value.type "method-wrapper" == Value.type "method-wrapper") = true by decide, if_true]
  refine PySem.W.KFB.if_so (by decide) ?_
  refine wpAny_bind (PySem.W.check_bound_init F.excBase_ValueError.toExcCallFacts (X4 _ _ hC) ho4 rfl ?_)
  refine wpAny_bind (wpAny_pure (wpAny_pure ?_))
  refine ⟨plainId_quiet F.excBase_ValueError.init.plain _, codeAny_builtin F.excBase_ValueError.initEntry ?_⟩
  refine PySem.W.exc_init_tree (cls := .ref C) (t0 := t4) (dv := none) (c2 := .none) (c3 := .none) (b4 := .bool false) ho4 hz fun h5 k5' e5 _ => ?_
  have J := I4.write (t' := tk4) (x := a) (e := a) (o := exo a C none) (by rw [ha4]; exact True.intro) (.inl rfl) k5' ⟨_, e5⟩ (exo_ok e5)
  have eu : upd H4 a (exo a C none) = H4 := by
    funext b
    by_cases hb : b = a
    · rw [hb, upd_same, ha4]
    · rw [upd_ne hb]
  rw [eu] at J
  exact ⟨by first | exact True.intro | rfl, H4, J.pins_of fun p hp => J.pin p (List.mem_append_right _ (List.mem_cons_of_mem _ hp)), hD4⟩
end
end Mi
namespace Mi
open PySem PySem.Spec PyProof.Rows L2 NdefX
section
variable {P : Program} {w : World} {K : PySem.W.Frag} {mg : Str → Option Value} {base : Heap} {cl xl : Nat → Addr}
/-- the shape of the first statement -/
abbrev superX (e : Expr) (p0 p1 p2 p3 pos : Pos) : Stmt := .Expr (.Call (.Attribute (.Call (.Name "super" p0) [] [] p1) "__init__" p2) [e] [] p3) pos
/-- a def that begins with super().__init__(e), then other statements -/
theorem fn_super {N ps : List Str} {qual name : Str} {st : Stmt} {f C cda cc : Addr} {k : Nat} {sp : Sp} {e : Expr} {rest : List Stmt} {p0 p1 p2 p3 pos : Pos} {ar : PySem.Arg} {oc : Value} {od : Option Addr} {osl : Array (Option Value)} {kV doc pm ct : Value} {an : Option Addr}
    (U : SupC P K C cda cc) (lk : K.lookup f = some ⟨oc, od, .func (PySem.W.fnX name qual (defArgs st) (defBody st) (defScope st) [(("__class__" : Str), cc)] .none kV doc pm an (.ref cda) ct), osl⟩) (hcd : PySem.W.codeIn K (.ref cda) qual = true)
    (S : NScope N ps ["__class__"] (defScope st)) (hb : defBody st = superX e p0 p1 p2 p3 pos :: rest) (hpar : ((defArgs st).posonlyargs ++ (defArgs st).args).head? = some ar) (hN : N[0]? = some ar.arg)
    (hks : (defScope st).names.lookup ("super" : Str) = some .globalImplicit) (hka : (defScope st).names.lookup ar.arg = some .local) (len : ∀ vs H Q E, sp vs H Q E → vs.length = ps.length)
    (hst : ∀ env : Env, starEach [e] env = [(false, eval e env)] := by intro _; rfl) (hsw : ∀ env : Env, swapsWith (.Call (.Attribute (.Call (.Name "super" p0) [] [] p1) "__init__" p2) [e] [] p3) none pos.line env = pure false := by intro _; rfl)
    {pl : Sem Bool} (hev : ∀ env : Env, eval (.Call (.Attribute (.Call (.Name "super" p0) [] [] p1) "__init__" p2) [e] [] p3) env = (do
      let ov ← attributeBase (.Call (.Name "super" p0) [] [] p1) "__init__" env (eval (.Call (.Name "super" p0) [] [] p1) env)
      standAt p2.atName
      let (g, first) ← holding [ov] (getMethod ov "__init__" pl)
      callWith p3 g first (backTo p3 (starEach [e] env)) []) := by intro _; rfl)
    (hbody : ∀ (A : Around) (outer : List Env) (s : Shared) (H : Hp) (vs : List V) (Q : VK) (E : XK), sp vs H Q E → ∃ (a : Addr) (ta : TA) (tr : TS), vs.head? = some (.ref a) ∧ H a = some (exo a C none) ∧
      PA (ncx (L2.CX P w) P w K mg base N ⟨name, qual, defArgs st, defBody st, defScope st, [(("__class__" : Str), cc)], cda⟩ f A outer s H E) [e] ta ∧
      PSs (ncx (L2.CX P w) P w K mg base N ⟨name, qual, defArgs st, defBody st, defScope st, [(("__class__" : Str), cc)], cda⟩ f A outer s H E) rest tr ∧
      ta (startF N vs [none]) H fun us H1 => us.length ≤ 1000 ∧ H1 a = some (exo a C none) ∧ tr { nx := fun _ H' => Q .non H', rt := Q } (startF N vs [none]) H1) :
    FnOk P w K mg base (L2.CX P w) (k + 1) f (PySem.W.fnX name qual (defArgs st) (defBody st) (defScope st) [(("__class__" : Str), cc)] .none kV doc pm an (.ref cda) ct) ps sp := by
  refine ⟨len, fun A outer s H args us vs Q E hr e0 hbd r hsp => ?_⟩
  have hl := len _ _ _ _ hsp
  have kb := fun b o e => (e0.bs b o e).1
  have KX : K.In s.heap := e0.mod.kin.keeps kb
  have lim : s.heap.NoLimit := e0.mod.nolimit.keeps kb
  obtain ⟨clo, cld, csl, hcell⟩ := U.cell
  have hcellN : H cc = none := (e0.bs cc _ (e0.mod.kin _ _ hcell)).2
  obtain ⟨G, hG⟩ : ∃ G : NF, G = ⟨name, qual, defArgs st, defBody st, defScope st, [(("__class__" : Str), cc)], cda⟩ := ⟨_, rfl⟩
  have lk1 : ∀ {y : Str} {c : Addr}, ([(("__class__" : Str), cc)] : List (Str × Addr)).lookup y = some c → y = "__class__" ∧ c = cc := fun {y c} z => by
    have m := PySem.mem_of_lookup z
    simp only [List.mem_singleton, Prod.mk.injEq] at m
    exact m
  have CA : CellsAt [(("__class__" : Str), cc)] ["__class__"] [none] s.heap H := {
    len := rfl
    all := fun y c z => by
      obtain ⟨_, rfl⟩ := lk1 z
      exact ⟨hcellN, _, _, KX _ _ hcell, rfl⟩
    inj := fun x y c z1 z2 => by
      rw [(lk1 z1).1, (lk1 z2).1]
    has := fun i y z => by
      match i, z with
      | 0, z =>
        cases z
        exact ⟨cc, rfl, fun v z => nomatch z⟩ }
  obtain ⟨a, ta, tr, ha0, ha, hA, hR, hq⟩ := hbody A outer s H vs Q E hsp
  refine ks_codeAny_call_defAt hr.depth (KX _ _ lk) rfl lim (PySem.W.codeRec_of KX hcd) rfl hbd S.nocell (fun ⟨n, _⟩ hy => S.par n (List.of_mem_zip hy).1) (fun h₁ hns kp => ?_) S.co S.gen S.kind
  have I := inv_startN (CX := L2.CX P w) (P := P) (w := w) (K := K) (mg := mg) (base := base) (F := ⟨name, qual, defArgs st, defBody st, defScope st, [(("__class__" : Str), cc)], cda⟩) (f := f) (E := E) (tk := s.toks + (ps.zip us).length) S hr.hd e0 hl r CA hns kp
  have hs0 : (startF N vs [none])[0]? = some (some (.ref a)) := by
    cases vs with
    | nil => cases ha0
    | cons v vs =>
      cases ha0
      rfl
  have step := super_run (G := ⟨name, qual, defArgs st, defBody st, defScope st, [(("__class__" : Str), cc)], cda⟩) (A := A) (outer := outer) (s0 := s) (H0 := H) (E := E) (CX := L2.CX P w) (D := fun σ H1 => tr { nx := fun _ H' => Q .non H', rt := Q } σ H1) (p0 := p0) (p1 := p1) (p2 := p2) (p3 := p3) (pos := pos)
    U rfl lk hpar hN hks (S.frk _ (by simp)) hka S.kind I hs0 ha hA hq (pl := pl) (hev _) (hst _) (hsw _)
  show PySem.wpAt (model P w) (A.deeper (envF ⟨name, qual, defArgs st, defBody st, defScope st, [(("__class__" : Str), cc)], cda⟩ f s.heap.objs.size)) (.func (defBody st) (envF ⟨name, qual, defArgs st, defBody st, defScope st, [(("__class__" : Str), cc)], cda⟩ f s.heap.objs.size)) (execs (defBody st) (envF ⟨name, qual, defArgs st, defBody st, defScope st, [(("__class__" : Str), cc)], cda⟩ f s.heap.objs.size)) _ _ _
  have key : PySem.wpAt (model P w) (A.deeper (envF ⟨name, qual, defArgs st, defBody st, defScope st, [(("__class__" : Str), cc)], cda⟩ f s.heap.objs.size)) (.func (defBody st) (envF ⟨name, qual, defArgs st, defBody st, defScope st, [(("__class__" : Str), cc)], cda⟩ f s.heap.objs.size)) (execs (superX e p0 p1 p2 p3 pos :: rest) (envF ⟨name, qual, defArgs st, defBody st, defScope st, [(("__class__" : Str), cc)], cda⟩ f s.heap.objs.size))
      (fun fl s' => CR (L2.CX P w) outer P w H s Q E (.ok (.ret (match fl with | .ret v => v | _ => .none))) s')
      (ncx (L2.CX P w) P w K mg base N ⟨name, qual, defArgs st, defBody st, defScope st, [(("__class__" : Str), cc)], cda⟩ f A outer s H E).xe { s with heap := h₁, toks := s.toks + (ps.zip us).length } := by
    refine ks_wpAt_execs_cons (ks_wpAt_mono step (fun fl s' hs => ?_) fun _ _ z => z)
    obtain ⟨rfl, H1, I1, q1⟩ := hs
    refine wpAt_of_wpAny (wpAny_mono (hR.run [] s' _ H1 _ I1 q1) (fun fl s' hs => ?_) fun e s' hs => hs)
    have fin : ∀ {σ' : L2.St} {H' : Hp} {v : V} {u : Value}, Inv (ncx (L2.CX P w) P w K mg base N ⟨name, qual, defArgs st, defBody st, defScope st, [(("__class__" : Str), cc)], cda⟩ f A outer s H E) [] σ' H' s' → L2.RelV v u → Q v H' → CE outer P w H s Q u s' :=
      fun {σ' H' v u} J rv q => ⟨v, H', J.os, J.bare, J.base, J.hok, rv, q⟩
    cases fl with
    | ret u =>
      obtain ⟨v, σ', H', J, rv, q⟩ := hs
      exact fin J rv q
    | next =>
      obtain ⟨σ', H', J, q⟩ := hs
      exact fin (v := V.non) (u := Value.none) J rfl q
    | brk =>
      obtain ⟨_, _, _, q⟩ := hs
      exact False.elim q
    | cont =>
      obtain ⟨_, _, _, q⟩ := hs
      exact False.elim q
  rw [← hb] at key
  exact key
end
end Mi
namespace Mi
open PySem PySem.Spec PyProof.Rows L2 NdefX
section
variable {P : Program} {w : World} {K : PySem.W.Frag} {mg : Str → Option Value} {base : Heap} {cl xl : Nat → Addr}
abbrev fldS (n : Str) (q0 q1 q2 q3 : Pos) : Stmt := .Assign [.Attribute (.Name "self" q0) n q1] (.Name n q2) q3
/-- the whole of what such a def and its class need -/
structure ExD (P : Program) (K : PySem.W.Frag) (C : Addr) (name qual : Str) (st : Stmt) (f : Addr) (fd : FuncData) : Prop where
  ex : ∃ (cda cc : Addr) (oc : Value) (od : Option Addr) (osl : Array (Option Value)) (kV doc pm ct : Value) (an : Option Addr), SupC P K C cda cc ∧ fd = PySem.W.fnX name qual (defArgs st) (defBody st) (defScope st) [(("__class__" : Str), cc)] .none kV doc pm an (.ref cda) ct ∧
    K.lookup f = some ⟨oc, od, .func fd, osl⟩ ∧ PySem.W.codeIn K (.ref cda) qual = true
theorem ExD.binds {C : Addr} {name qual : Str} {st : Stmt} {f : Addr} {fd : FuncData} (F : ExD P K C name qual st f fd) {ps : List Str}
    (h : ∀ (cl : List (Str × Addr)) (kV doc pm : Value) (an : Option Addr) (cdv ct : Value) (us : List Value), us.length = ps.length → bindArgs (PySem.W.fnX name qual (defArgs st) (defBody st) (defScope st) cl .none kV doc pm an cdv ct) ⟨us, []⟩ = pure (ps.zip us)) : Binds K fd ps [] := by
  obtain ⟨cda, cc, oc, od, osl, kV, doc, pm, ct, an, U, rfl, lk, hcd⟩ := F.ex
  exact .all (h _ kV doc pm an _ ct)
theorem fn_ex1 {N : List Str} {qual name n1 : Str} {st : Stmt} {f : Addr} {c k : Nat} {e : Expr} {ok : List MV → Bool} {te : TE} {p0 p1 p2 p3 pos q0 q1 q2 q3 : Pos} {ar : PySem.Arg} {fd : FuncData}
    (F : ExD P K (xl c) name qual st f fd) (S : NScope N ["self", n1] ["__class__"] (defScope st)) (hb : defBody st = [superX e p0 p1 p2 p3 pos, fldS n1 q0 q1 q2 q3]) (hpar : ((defArgs st).posonlyargs ++ (defArgs st).args).head? = some ar) (hN : N[0]? = some ar.arg) (hself : ar.arg = "self")
    (hN1 : N[1]? = some n1) (hd : (n1 == ("__debug__" : Str)) = false) (hcd : (n1 == ("__classdict__" : Str)) = false)
    (hks : (defScope st).names.lookup ("super" : Str) = some .globalImplicit) (hno : PySem.W.findIn K (.ref (xl c)) n1 = some none)
    (hmsg : ∀ (G : NF) (A : Around) (outer : List Env) (s : Shared) (H : Hp) (E : XK), G.scope = defScope st → PE (ncx (L2.CX P w) P w K mg base N G f A outer s H E) e te)
    (hte : ∀ (ρ : List Addr) (H : Hp) (xs : List MV) (ws : List V) (a : Addr) (Q : VK), RVs ⟨K, cl, xl⟩ ρ H xs ws → xs.length = 1 → ok xs = true → (∀ z, Q (.str z) H) → te (startF N (.ref a :: ws) [none]) H Q)
    (hst : ∀ env : Env, starEach [e] env = [(false, eval e env)] := by intro _; rfl) (hsw : ∀ env : Env, swapsWith (.Call (.Attribute (.Call (.Name "super" p0) [] [] p1) "__init__" p2) [e] [] p3) none pos.line env = pure false := by intro _; rfl)
    {pl : Sem Bool} (hev : ∀ env : Env, eval (.Call (.Attribute (.Call (.Name "super" p0) [] [] p1) "__init__" p2) [e] [] p3) env = (do
      let ov ← attributeBase (.Call (.Name "super" p0) [] [] p1) "__init__" env (eval (.Call (.Name "super" p0) [] [] p1) env)
      standAt p2.atName
      let (g, first) ← holding [ov] (getMethod ov "__init__" pl)
      callWith p3 g first (backTo p3 (starEach [e] env)) []) := by intro _; rfl) :
    FnOk P w K mg base (L2.CX P w) (k + 1) f fd ["self", n1] (spXI ⟨K, cl, xl⟩ c [n1] ok) := by
  obtain ⟨cda, cc, oc, od, osl, kV, doc, pm, ct, an, U, rfl, lk, hcd'⟩ := F.ex
  have hN0 : N[0]? = some ("self" : Str) := by rw [hN, hself]
  have vis0 : Vis (defScope st) "self" := Or.inl (S.par _ (by simp))
  have vis1 : Vis (defScope st) n1 := Or.inl (S.par _ (by simp))
  refine fn_super U lk hcd' S hb hpar hN hks (by rw [hself]; exact S.par _ (by simp)) (fun vs H Q E h => ?_) hst hsw (pl := pl) hev (fun A outer s H vs Q E h => ?_)
  · obtain ⟨a, ws, ρ, xs, rfl, r, hl, _⟩ := h
    rw [List.length_cons, ← r.length, hl]
    rfl
  · obtain ⟨a, ws, ρ, xs, rfl, r, hl, hok, ha, q⟩ := h
    refine ⟨a, _, _, rfl, ha, pa_cons (hmsg _ A outer s H E rfl) pa_nil (hst _), pss_one (ps_ost (pv 0 hN0 vis0) (pv 1 hN1 vis1 hd hcd) rfl), ?_⟩
    match xs, hl with
    | [x1], _ =>
      obtain ⟨v1, _, rfl, r1, rfl⟩ := r
      refine hte ρ H [x1] [v1] a _ ⟨v1, [], rfl, r1, rfl⟩ rfl hok fun z => ⟨by show 1 ≤ 1000; omega, ha, ?_⟩
      refine ⟨v1, rfl, .ref a, rfl, a, xl c, rfl, U.oex, hno, .inl ⟨ha, fun dx hx hne => ?_⟩⟩
      refine q dx _ hx hne upd_same ⟨[(n1, v1)], by rw [upd_ne hne, upd_same], rfl, rfl⟩ fun b hb1 hb2 => ?_
      rw [upd_ne hb1, upd_ne hb2]
theorem fn_ex2 {N : List Str} {qual name n1 n2 : Str} {st : Stmt} {f : Addr} {c k : Nat} {e : Expr} {ok : List MV → Bool} {te : TE} {p0 p1 p2 p3 pos q0 q1 q2 q3 s0 s1 s2 s3 : Pos} {ar : PySem.Arg} {fd : FuncData}
    (F : ExD P K (xl c) name qual st f fd) (S : NScope N ["self", n1, n2] ["__class__"] (defScope st)) (hb : defBody st = [superX e p0 p1 p2 p3 pos, fldS n1 q0 q1 q2 q3, fldS n2 s0 s1 s2 s3]) (hpar : ((defArgs st).posonlyargs ++ (defArgs st).args).head? = some ar) (hN : N[0]? = some ar.arg) (hself : ar.arg = "self")
    (hN1 : N[1]? = some n1) (hd : (n1 == ("__debug__" : Str)) = false) (hcd : (n1 == ("__classdict__" : Str)) = false) (hN2 : N[2]? = some n2) (hd2 : (n2 == ("__debug__" : Str)) = false) (hcd2 : (n2 == ("__classdict__" : Str)) = false)
    (hks : (defScope st).names.lookup ("super" : Str) = some .globalImplicit) (hno : PySem.W.findIn K (.ref (xl c)) n1 = some none) (hno2 : PySem.W.findIn K (.ref (xl c)) n2 = some none)
    (hmsg : ∀ (G : NF) (A : Around) (outer : List Env) (s : Shared) (H : Hp) (E : XK), G.scope = defScope st → PE (ncx (L2.CX P w) P w K mg base N G f A outer s H E) e te)
    (hte : ∀ (ρ : List Addr) (H : Hp) (xs : List MV) (ws : List V) (a : Addr) (Q : VK), RVs ⟨K, cl, xl⟩ ρ H xs ws → xs.length = 2 → ok xs = true → (∀ z, Q (.str z) H) → te (startF N (.ref a :: ws) [none]) H Q)
    (hst : ∀ env : Env, starEach [e] env = [(false, eval e env)] := by intro _; rfl) (hsw : ∀ env : Env, swapsWith (.Call (.Attribute (.Call (.Name "super" p0) [] [] p1) "__init__" p2) [e] [] p3) none pos.line env = pure false := by intro _; rfl)
    {pl : Sem Bool} (hev : ∀ env : Env, eval (.Call (.Attribute (.Call (.Name "super" p0) [] [] p1) "__init__" p2) [e] [] p3) env = (do
      let ov ← attributeBase (.Call (.Name "super" p0) [] [] p1) "__init__" env (eval (.Call (.Name "super" p0) [] [] p1) env)
      standAt p2.atName
      let (g, first) ← holding [ov] (getMethod ov "__init__" pl)
      callWith p3 g first (backTo p3 (starEach [e] env)) []) := by intro _; rfl) :
    FnOk P w K mg base (L2.CX P w) (k + 1) f fd ["self", n1, n2] (spXI ⟨K, cl, xl⟩ c [n1, n2] ok) := by
  obtain ⟨cda, cc, oc, od, osl, kV, doc, pm, ct, an, U, rfl, lk, hcd'⟩ := F.ex
  have hN0 : N[0]? = some ("self" : Str) := by rw [hN, hself]
  have vis0 : Vis (defScope st) "self" := Or.inl (S.par _ (by simp))
  have vis1 : Vis (defScope st) n1 := Or.inl (S.par _ (by simp))
  have vis2 : Vis (defScope st) n2 := Or.inl (S.par _ (by simp))
  refine fn_super U lk hcd' S hb hpar hN hks (by rw [hself]; exact S.par _ (by simp)) (fun vs H Q E h => ?_) hst hsw (pl := pl) hev (fun A outer s H vs Q E h => ?_)
  · obtain ⟨a, ws, ρ, xs, rfl, r, hl, _⟩ := h
    rw [List.length_cons, ← r.length, hl]
    rfl
  · obtain ⟨a, ws, ρ, xs, rfl, r, hl, hok, ha, q⟩ := h
    refine ⟨a, _, _, rfl, ha, pa_cons (hmsg _ A outer s H E rfl) pa_nil (hst _), pss_cons (ps_ost (pv 0 hN0 vis0) (pv 1 hN1 vis1 hd hcd) rfl) (pss_one (ps_ost (pv 0 hN0 vis0) (pv 2 hN2 vis2 hd2 hcd2) rfl)), ?_⟩
    match xs, hl with
    | [x1, x2], _ =>
      obtain ⟨v1, _, rfl, r1, v2, _, rfl, r2, rfl⟩ := r
      refine hte ρ H [x1, x2] [v1, v2] a _ ⟨v1, _, rfl, r1, v2, [], rfl, r2, rfl⟩ rfl hok fun z => ⟨by show 1 ≤ 1000; omega, ha, ?_⟩
      refine ⟨v1, rfl, .ref a, rfl, a, xl c, rfl, U.oex, hno, .inl ⟨ha, fun dx hx hne => ?_⟩⟩
      refine ⟨v2, rfl, .ref a, rfl, a, xl c, rfl, U.oex, hno2, .inr ⟨dx, [(n1, v1)], upd_same, by rw [upd_ne hne, upd_same], by show 1 ≤ 900; omega, ?_⟩⟩
      refine q dx _ hx hne (by rw [upd_ne hne.symm, upd_same]) ⟨[(n2, v2), (n1, v1)], upd_same, rfl, rfl⟩ fun b hb1 hb2 => ?_
      rw [upd_ne hb2, upd_ne hb1, upd_ne hb2]
end
end Mi
end
section
set_option Elab.async false
set_option linter.all false
set_option maxRecDepth 100000
set_option maxHeartbeats 2000000
set_option autoImplicit false
/-! Mi10: except clauses that name the error; in their suites: its fields, isinstance of it, calls of plain defs. -/
namespace Mi
open PySem PySem.Spec PySem.Calls PyProof.Rows

/-! ### isinstance of a caught error that has fields -/
section
open PySem.W
variable {prog : Program} {w : World} {A : Around} {E : Value → Shared → Prop} {s : Shared} {K : Frag} {x D : Addr} {ox : Obj} {od : Option Obj}
theorem find_bind {C : Addr} {name : Str} {a g : Value} (hc : (clsIn K C).isSome = true) (ha : findIn K (.ref C) name = some (some a)) (hg : specialIn K a "__get__" = some (some g)) (ht : takesIn K a = some true) : findObj K C od name = some (.bind g a) := by
  obtain ⟨cd, hcd⟩ := Option.isSome_iff_exists.mp hc
  unfold findObj
  rw [hcd, Option.bind_some, ha, Option.bind_some]
  simp only [hg, ht, Option.bind_some]
theorem class_ofX {Q : Option Value → Shared → Prop} (T : L2.ExcC K D) (X : K.In s.heap) (I : InstAt s.heap x ox D od) (h : Q (some (.ref D)) { s with toks := s.toks + 1 }) : wpAny (model prog w) A (getAttr? (.ref x) "__class__") Q E s := by
  have hsome : (clsIn K D).isSome = true := by
    obtain ⟨cd, hc, _⟩ := any_some T.hd
    rw [hc]; rfl
  have hf : findObj K D od "__class__" = some (.bind (.builtin "getset_descriptor.__get__") (.builtin "object.__class__")) := find_bind hsome T.ha T.hn T.ht
  obtain ⟨hp, g, d, t, os⟩ := s
  have E0 := I.type (M := model prog w)
  have E1 := looks_findIn (M := model prog w) X T.hg
  have E2 := looks_findIn (M := model prog w) X T.hk
  have E3 := looks_find (M := model prog w) X I hf
  have sub : Looks (model prog w) hp (isInstance (.ref x) (.type "BaseException")) true := E0.andThen (looks_subIn X T.hs)
  have n2 : (Value.builtin "BaseException.__getattribute__" == Value.builtin "object.__getattribute__") = false := by decide +kernel
  have n1 : (onTheHeap (Value.ref D) && Value.builtin "BaseException.__getattribute__" == Value.builtin "object.__getattribute__") = false := by rw [n2]; rfl
  unfold getAttr? getAttrBy? getAttrBy
  refine wpAny_bind (wpAny_mkText (wpAny_bind (wpAny_attempt (wpAny_holding (wpAny_bind (E0.at (wpAny_bind (E1.at ?_))))))))
  show wpAny _ _ (if (onTheHeap (Value.ref D) && Value.builtin "BaseException.__getattribute__" == Value.builtin "object.__getattribute__") = true then _ else _) _ _ _
  rw [n1, if_neg Bool.false_ne_true]
  unfold getAttrByItsOwn hookBefore
  refine wpAny_bind ?_
  rw [if_pos (show onTheHeap (Value.ref D) = true from rfl)]
  refine E2.at (wpAny_bind (wpAny_attempt (wpAny_holding ?_)))
  unfold callGetattribute
  rw [show (false && onTheHeap (Value.builtin "BaseException.__getattribute__")) = false from rfl, if_neg Bool.false_ne_true]
  unfold boundAndCalled
  rw [PySem.F.excAttr_ValueError.ga.bind (.ref x)]
  refine wpAny_bind (wpAny_pure ?_)
  show wpAny _ _ (call (.builtin "BaseException.__getattribute__") [.ref x, .str "__class__" t]) _ _ _
  refine wpAny_call (codeAny_call_builtin PySem.F.excAttr_ValueError.ga.plain PySem.F.entry_bexc_ga ?_)
  refine @check_slot (model prog w) _ _ ⟨hp, g, d, t + 1, os⟩ "BaseException.__getattribute__" "BaseException" "__getattribute__" (.ref x) [.str "__class__" t] [] _ (by decide +kernel) (by decide +kernel) sub (PySem.F.args_bexc_ga (.ref x) (.str "__class__" t)) ?_
  unfold Builtin.«object.__getattribute__»
  refine wpAny_bind (wpAny_of_eq (a := ((Value.ref x : Value), [Value.str "__class__" t])) (by first | rfl | (simp only [slotArgs]; rfl)) ?_)
  refine wpAny_bind (wpAny_pure (wpAny_bind (E0.at (wpAny_bind (E3.at ?_)))))
  show wpAny _ _ (holding [Value.builtin "object.__class__"] (call (.builtin "getset_descriptor.__get__") [.builtin "object.__class__", .ref x, .ref D]) >>= ret) _ _ _
  refine wpAny_bind (wpAny_holding (wpAny_call (class_get (s := ⟨hp, g, d, t + 1, os⟩) (ox := ox) (od := od) X I T.hm (wpAny_pure ?_))))
  show wpAny _ _ (handedOut (.ref D)) _ _ _
  rw [handedOut_of (v := .ref D) rfl]
  first
    | exact wpAny_pure (wpAny_pure h)
    | exact wpAny_pure h
    | exact wpAny_pure (wpAny_bind (wpAny_pure (wpAny_pure h)))
theorem kit_ofX (T : L2.ExcC K D) : KitX K (.ref x) (.ref D) (fun h => ∃ ox od, InstAt h x ox D od) where
  ty := fun _ _ _ ⟨_, _, I⟩ => I.type
  it := fun _ _ X _ => by
    obtain ⟨cdD, hcD, _⟩ := any_some T.hd
    unfold clsIn at hcD
    split at hcD
    · rename_i c' d' cd' sl' ho
      intro A' Q' E' s' k q
      unfold isType loadHead
      exact wpAny_bind (wpAny_loadPart (k _ _ (X _ _ ho)) (wpAny_pure q))
    · cases hcD
  ne := fun h tp dd its n sl X htp => by
    obtain ⟨cdD, hcD, _⟩ := any_some T.hd
    refine Bool.eq_false_iff.mpr fun q => ?_
    obtain rfl : D = tp := Value.ref.inj (beq_iff_eq.mp q)
    unfold clsIn at hcD
    split at hcD
    · rename_i c' d' cd' sl' ho
      have z := (X _ _ ho).symm.trans htp
      cases z
    · cases hcD
  ca := fun X ⟨_, _, I⟩ k => class_ofX T X I k
end
open L2
/-- isinstance(e, c), e the suite's error, of class D, its dict at d -/
def rIsX (K : PySem.W.Frag) (D a d : Addr) : List V → Hp → VK → Prop := fun xs H Q => ∃ (c : V) (cv : Value) (b : Bool) (fs : List (Str × V)), xs = [.ref a, c] ∧ (∀ u, RelV c u → u = cv) ∧ H d = some (.xd fs) ∧ PySem.W.kitOne K (.ref D) cv = some b ∧ Q (.bl b) H
theorem call_isX {X : Cx} {a D d : Addr} {oe : Obj} {pn : List (Addr × Obj)} (T : ExcC X.K D) (hz : L2.Zc (.ref D) (some d) oe) (hf : ∃ vs, oe.data = .fields vs) : CallR (X.suite a ((a, oe) :: pn)) (.builtin "isinstance") (rIsX X.K D a d) := by
  intro pins s σ H xs us Q I r h
  obtain ⟨c, cv, b, fs, rfl, hcv, hd, e, q⟩ := h
  cases r with
  | cons rx rr =>
    cases rr with
    | cons rt rr =>
      cases rr
      cases rx
      have ec := hcv _ rt
      subst ec
      obtain ⟨hget, _⟩ := I.pin (a, oe) (List.mem_append.mpr (.inl List.mem_cons_self))
      obtain ⟨vs, hv⟩ := hf
      have hx : ObjOk X.prog X.w H s.heap d (.xd fs) := I.hok d _ hd
      obtain ⟨mA, hns, hr⟩ := hx
      obtain ⟨od, ho, hl⟩ := lookIn_ns hns
      have J : PySem.W.InstAt s.heap a oe D (some od) := ⟨hget, hz.1, by unfold PySem.W.notCls; rw [hv] <;> rfl, by rw [hz.2]; exact ho⟩
      exact PySem.W.kia_one (kit_ofX T) I.kIn ⟨_, _, J⟩ e (fun z => nomatch z) fun tk => ⟨.bl b, H, I.kept (t' := tk) fun _ _ z => z, rfl, q⟩

/-! ### plain defs, called where an error is handled -/
/-- the same context seen from another surrounding, uncalm -/
abbrev warm (X : Cx) (A : Around) (xe : Value → Shared → Prop) : Cx := { X with A := A, calm := false, xe := xe }
theorem _root_.L2.Inv.warm {X : Cx} {pins : List (Addr × Obj)} {σ : L2.St} {H : Hp} {s : Shared} {A : Around} {xe : Value → Shared → Prop} (I : Inv X pins σ H s) (h : A.frames = X.A.frames) : Inv (warm X A xe) pins σ H s :=
  ⟨⟨I.ok.mod, I.ok.kind, I.ok.glob, I.ok.blt, I.ok.above, I.ok.inj, I.ok.has, I.ok.cab, (fun z => Bool.noConfusion (show false = true from z)), h.trans I.ok.frames, I.ok.stk, I.ok.exf, I.ok.bs, I.ok.bsz, I.ok.noex, I.ok.exfs, I.ok.funs, I.ok.frf⟩,
    I.os, I.bare, I.base, I.loc, I.cell, I.free, I.freeC, I.pin, I.hok, I.len⟩
/-- what a def promises anywhere: it lets nothing out -/
structure FnW (P : Program) (w : World) (K : PySem.W.Frag) (mg : Str → Option Value) (base : Heap) (k : Nat) (f : Addr) (fd : FuncData) (ps : List Str) (sp : Sp) : Prop where
  len : ∀ vs H Q E, sp vs H Q E → vs.length = ps.length
  run : ∀ (A : Around) (outer : List Env) (s : Shared) (H : Hp) (args : Args) (us : List Value) (vs : List V) (Q : VK), L2H.RoomH k A → Env0 P w K mg base A outer s H → BindsTo s fd args (ps.zip us) → Vals vs us → sp vs H Q (fun _ _ _ => False) →
    codeAny (model P w) A (.call (.ref f) args) (CR (L2.CX P w) outer P w H s Q (fun _ _ _ => False)) s
section
variable {P : Program} {w : World} {K : PySem.W.Frag} {mg : Str → Option Value} {base : Heap} {cl xl : Nat → Addr}
theorem fn_warm {x qual : Str} {st : Stmt} {f : Addr} {fd : FuncData} {N ps : List Str} {k : Nat} {sp : Sp} (F : Fun K x qual st f fd) (S : FnScope N ps (defScope st)) (len : ∀ vs H Q E, sp vs H Q E → vs.length = ps.length)
    (hbody : ∀ (cdv : Value) (A0 A : Around) (outer : List Env) (s : Shared) (H : Hp) (xe : Value → Shared → Prop) (vs : List V) (Q : VK), sp vs H Q (fun _ _ _ => False) → ∃ t, PSs (warm (cxOf (L2.CX P w) P w K mg base N qual (defScope st) f cdv A0 outer s H (fun _ _ _ => False)) A xe) (defBody st) t ∧
      t { nx := fun _ H' => Q .non H', rt := Q } (L2.start N vs) H) : FnW P w K mg base (k + 1) f fd ps sp := by
  obtain ⟨oc, od, kV, doc, pm, an, cdv, ct, osl, rfl, lk, hcd⟩ := F.ex
  refine ⟨len, fun A outer s H args us vs Q hr e0 hb r hsp => ?_⟩
  have hl : vs.length = ps.length := len _ _ _ _ hsp
  have KX : K.In s.heap := e0.mod.kin.keeps fun b o e => (e0.bs b o e).1
  have lim : s.heap.NoLimit := e0.mod.nolimit.keeps fun b o e => (e0.bs b o e).1
  have hkind : ∀ y ∈ ps.zip us, (defScope st).names.lookup y.1 = some .local ∨ ((defScope st).names.lookup y.1 = some .cell ∧ ((cellsFrom (s.heap.objs.size + 1) (defScope st).names []).lookup y.1).isSome = true) := fun ⟨n, v⟩ hy => by
    rcases S.par n (List.of_mem_zip hy).1 with q | q
    · exact .inl q
    · exact .inr ⟨q, PySem.W.cellsFrom_some _ _ _ (.inl q)⟩
  refine codeAny_call_function hr.depth (KX _ _ lk) rfl S.co S.gen rfl (PySem.W.codeRec_of KX hcd) (hb _ _ _ _ ?_)
  refine wpAny_newFunctionEnv_cells S.kind hkind fun env he s1 x => ?_
  subst he
  refine ⟨lim.keeps x.toInCall.keep, codeAny_func ?_⟩
  have e0' : Env0 P w K mg base { A with handled := none } outer s H := ⟨e0.frames, e0.mod, e0.bs, e0.bsz, e0.funs, e0.frf, e0.hok, e0.bare⟩
  have I0 : Inv (cxOf (L2.CX P w) P w K mg base N qual (defScope st) f cdv { A with handled := none } outer s H (fun _ _ _ => False)) [] (L2.start N vs) H s1 := inv_start S rfl e0' hl r x
  have I := I0.warm (A := A.deeper (envOfC qual (defScope st) s.heap.objs.size f cdv)) (xe := fun e s' => wpAny (model P w) (A.deeper (envOfC qual (defScope st) s.heap.objs.size f cdv)) (leaving (envOfC qual (defScope st) s.heap.objs.size f cdv) e) (fun _ s'' => L2.CX P w outer H s (fun _ _ _ => False) e s'') (fun e' s'' => L2.CX P w outer H s (fun _ _ _ => False) e' s'') s') rfl
  obtain ⟨t, hB, hq⟩ := hbody cdv { A with handled := none } (A.deeper (envOfC qual (defScope st) s.heap.objs.size f cdv)) outer s H (fun e s' => wpAny (model P w) (A.deeper (envOfC qual (defScope st) s.heap.objs.size f cdv)) (leaving (envOfC qual (defScope st) s.heap.objs.size f cdv) e) (fun _ s'' => L2.CX P w outer H s (fun _ _ _ => False) e s'') (fun e' s'' => L2.CX P w outer H s (fun _ _ _ => False) e' s'') s') vs Q hsp
  refine wpAny_mono (hB.run [] s1 (L2.start N vs) H _ I hq) (fun fl s' hs => ?_) fun e s' hs => hs
  have fin : ∀ {σ' : L2.St} {H' : Hp} {v : V} {u : Value}, Inv (warm (cxOf (L2.CX P w) P w K mg base N qual (defScope st) f cdv { A with handled := none } outer s H (fun _ _ _ => False)) (A.deeper (envOfC qual (defScope st) s.heap.objs.size f cdv)) (fun e s' => wpAny (model P w) (A.deeper (envOfC qual (defScope st) s.heap.objs.size f cdv)) (leaving (envOfC qual (defScope st) s.heap.objs.size f cdv) e) (fun _ s'' => L2.CX P w outer H s (fun _ _ _ => False) e s'') (fun e' s'' => L2.CX P w outer H s (fun _ _ _ => False) e' s'') s')) [] σ' H' s' → RelV v u → Q v H' → CE outer P w H s Q u s' :=
    fun {σ' H' v u} J rv q => ⟨v, H', J.os, J.bare, J.base, J.hok, rv, q⟩
  cases fl with
  | ret u =>
    obtain ⟨v, σ', H', J, rv, q⟩ := hs
    exact fin J rv q
  | next =>
    obtain ⟨σ', H', J, q⟩ := hs
    exact fin (v := V.non) (u := Value.none) J rfl q
  | brk =>
    obtain ⟨_, _, _, q⟩ := hs
    exact False.elim q
  | cont =>
    obtain ⟨_, _, _, q⟩ := hs
    exact False.elim q
end
section
variable {X : Cx} {k : Nat} {f : Addr} {fd : FuncData} {ps : List Str} {sp : Sp} {x : Str} {q pos : Pos} {e : Expr} {es : List Expr} {t : TA}
theorem pe_callW (F : FnW X.prog X.w X.K X.mg X.base k f fd ps sp) (hr : L2H.RoomH k X.A) (hg : Gl X x) (hm : X.mg x = some (.ref f)) (hk : PySem.W.keepIn X.K (.ref f) = true) (hb : Binds X.K fd ps [])
    (ha : PA X (e :: es) t) (hdb : (x == ("__debug__" : Str)) = false := by decide) (he : starEach (e :: es) X.env = (false, eval e X.env) :: starEach es X.env := by rfl) (hpl : (backTo pos (starEach es X.env)).any (·.1) = false := by rfl) :
    PE X (.Call (.Name x q) (e :: es) [] pos) (fun σ H Q => t σ H fun vs H1 => sp vs H1 Q (fun _ _ _ => False)) := by
  refine ⟨fun pins s σ H Q I h => ?_⟩
  refine wpAny_Call_Name_kw (ld_glob I hg hm ?_ hdb)
  refine PySem.W.callWith_K (h₀ := X.base) I.ok.mod.kin hk (thn (ha.run pos pins s σ H _ I h) fun us s1 ⟨vs, H1, I1, r, q1⟩ => ⟨I1.kIn, ?_⟩) he hpl
  have hl : us.length = ps.length := by rw [← r.length]; exact F.len _ _ _ _ q1
  have b := hb s1 us I1.kIn (by rw [List.append_nil]; exact hl)
  rw [List.append_nil] at b
  refine wpAny_call (codeAny_mono (F.run X.A X.stack s1 H1 ⟨us, []⟩ us vs Q hr I1.env0 b r q1) fun r s' hq => ?_)
  cases r with
  | error e =>
    have hq : L2.CX X.prog X.w X.stack H1 s1 (fun _ _ _ => False) e s' := hq
    obtain ⟨_, _, _, _, _, _, _, _, _, _, _, _, z⟩ := hq
    exact z.elim
  | ok fl =>
    cases fl with
    | ret u => exact I1.after hq
    | next => exact False.elim hq
    | brk => exact False.elim hq
    | cont => exact False.elim hq
end
end Mi
end
section
set_option Elab.async false
set_option linter.all false
set_option maxRecDepth 100000
set_option maxHeartbeats 2000000
set_option autoImplicit false
/-! Mi11: several except clauses, each with a name. -/
namespace Mi
open PySem PySem.Spec PyProof.Rows L2
/-- one clause: its class, the slot of its name, its suite -/
abbrev Cls1 := Value × Nat × (Addr → Value → Option Addr → TS)
abbrev endsAs (D : Ends) (i : Nat) : Ends := { nx := fun σ' H' => D.nx (σ'.set i none) H', rt := D.rt, bk := fun σ' H' => D.bk (σ'.set i none) H', ct := fun σ' H' => D.ct (σ'.set i none) H' }
def wNamed (K : PySem.W.Frag) (Wout : WX) (D : Ends) : List Cls1 → WX
  | [] => Wout
  | (c, i, ts) :: r => fun cls d σ H => ∃ b, PySem.W.exmOne K cls c = some b ∧ (b = true → ∀ a, H a = none → ts a cls d (endsAs D i) (σ.set i (some (.ref a))) H) ∧ (b = false → wNamed K Wout D r cls d σ H)
inductive HdsNamed (X : Cx) : List ExceptHandler → List Cls1 → Prop
  | nil : HdsNamed X [] []
  | cons {x n : Str} {c : Value} {i : Nat} {ts : Addr → Value → Option Addr → TS} {b₀ : Stmt} {suite : List Stmt} {np pos' : Pos} {hds : List ExceptHandler} {l : List Cls1} (hi : X.N[i]? = some n) (hln : X.env.kindOf n = some .local) (hc : Names X x c)
      (hsu : ∀ (a : Addr) (oe : Obj) (cls : Value) (d : Option Addr) (pn : List (Addr × Obj)), L2.Zc cls d oe → (∃ vs, oe.data = .fields vs) → PSs (X.suite a ((a, oe) :: pn)) (b₀ :: suite) (ts a cls d)) (r : HdsNamed X hds l) :
      HdsNamed X (.ExceptHandler (some (.Name x np)) (some n) (b₀ :: suite) pos' :: hds) ((c, i, ts) :: l)
section
variable {X : Cx} {body : List Stmt} {h₀ : ExceptHandler} {hds : List ExceptHandler} {l : List Cls1} {pos : Pos} {tb : WX → TS} {Wout : WX}
theorem ps_try_named (hs : X.stack = X.env :: X.outer) (hf : X.env.frame = some X.env.locals) (hN : X.N.Nodup) (tk : Takes X Wout)
    (hb : ∀ (W : WX) (pn : List (Addr × Obj)) (xe : Value → Shared → Prop), Takes (X.tr pn xe) W → PassesOwn (model X.prog X.w) X.A X.env xe → PSs (X.tr pn xe) body (tb W))
    (hh : HdsNamed X (h₀ :: hds) l) : PS X (.Try body (h₀ :: hds) [] [] pos) (fun D σ H => tb (wNamed X.K Wout D l) D σ H) := by
  refine ⟨fun pins s σ H D I h => ?_⟩
  have ok := I.ok
  have hfr : X.A.frames = some (X.env :: X.outer) := by rw [ok.frames, hs]
  refine wpAny_Try_except ?_
  refine wpAny_mono ((hb (wNamed X.K Wout D l) (X.pn ++ pins) (fun e s₁ => wpAny (model X.prog X.w) X.A (noteFrame e X.env) (fun _ s₂ => wpAny (model X.prog X.w) X.A (setFlight e none) (fun _ s₃ =>
    wpAny (model X.prog X.w) X.A (handleBy e X.env (h₀ :: hds)) (SP X pins D) X.xe s₃) X.xe s₂) X.xe s₁) (fun u s' xx => ?_) PassesOwn.looking).run [] s σ H D (I.toTry _) h) (fun f s1 hsp => ?_) (fun e s1 he => he)
  · obtain ⟨a, B, sI, pins', σ', H', cls, d, rfl, J', nb, up, sky, na, os, ag, w⟩ := xx
    have J : Inv X pins σ' H' sI := J'.ofTry ok
    have sky' : Sky B (X.env :: X.outer) a (L2.Zc cls d) X.env.locals s'.heap := by rw [← hs]; exact sky
    show wpAny (model X.prog X.w) X.A (noteFrame (.ref a) X.env) _ _ _
    refine Sky.land Zc.steady hfr hf sky' fun h3 fl3 up3 => ?_
    have J3 : Inv X pins σ' H' { s' with heap := h3 } := J.landed nb fl3.1 (up.trans up3) os ag
    obtain ⟨oe3, vs3, he3, hz3, hd3⟩ := fl3.there
    have nfr : a ∉ frs (X.env :: X.outer) := fun hm => by
      obtain ⟨_, o', e', hnf⟩ := fl3.2.2.1.mem hm
      rw [he3] at e'
      cases e'
      exact hnf _ hd3
    have nL : a ≠ X.env.locals := fun z => nfr (List.mem_filterMap.mpr ⟨X.env, List.mem_cons_self, by rw [hf, z]⟩)
    have nF : a ∉ X.fs := fun hm => by
      obtain ⟨e, he, q⟩ := List.mem_filterMap.mp hm
      exact nfr (List.mem_filterMap.mpr ⟨e, List.mem_cons_of_mem _ he, q⟩)
    have S3 := J3.suite he3 hd3 na nL nF
    have go : ∀ {hds' : List ExceptHandler} {l' : List Cls1}, HdsNamed X hds' l' → wNamed X.K Wout D l' cls d σ' H' → wpAny (model X.prog X.w) X.A (handleBy (.ref a) X.env hds') (SP X pins D) X.xe { s' with heap := h3 } := by
      intro hds' l' hk
      induction hk with
      | nil =>
        intro w
        refine wpAny_handleBy_nil ?_
        obtain ⟨k1, k2, k3, oe, vs, T, oT, ts', he, hz, hd, h1, hr⟩ := id fl3
        unfold PySem.passOn
        refine wpAny_bind (wpAny_field he hd h1 ?_)
        rw [if_neg (show ¬ ((Value.ref T == Value.none) = true) from by simp)]
        have fin : wpAny (model X.prog X.w) X.A (setFlight (.ref a) X.env.frame) (fun _ s4 => wpAny (model X.prog X.w) X.A (throw (.ref a) : Sem Flow) (SP X pins D) X.xe s4) X.xe { s' with heap := h3 } := by
          rw [hf]
          refine HandSPX.setFlight_upZ fl3 fun h4 hh4 up4 => wpAny_throw (tk _ _ ?_)
          exact ⟨a, B, sI, pins, σ', H', cls, d, rfl, J, nb, (up.trans up3).trans up4, .inr (.inr (by rw [hs]; exact hh4)), na, os, ag, w⟩
        first
          | exact wpAny_bind (wpAny_pure (wpAny_bind fin))
          | exact wpAny_bind fin
      | @cons x n c i ts b₀ suite np pos' hds2 l2 hi hln hc hsu r ih =>
        intro w
        have hloc : Loc X.env.scope n := .inl hln
        obtain ⟨b, hb1, hyes, hno⟩ := w
        refine wpAny_handleBy_cons (codeAny_handlers_test ?_) (by intro q; cases q)
        have LT : PySem.W.Looks (model X.prog X.w) h3 (typeOf (.ref a)) cls := fun A Q E s k q => wpAny_typeOf_ref (k _ _ he3) (by rw [hz3.1]; exact q)
        have LM := PySem.W.exm_one (M := model X.prog X.w) (J3.kIn) LT hb1
        have test : ∀ {Q : Value → Shared → Prop} {E : Value → Shared → Prop}, Q c { s' with heap := h3 } → wpAny (model X.prog X.w) (X.A.mark (some (.ref a))) (eval (.Name x np) X.env) Q E { s' with heap := h3 } := fun {Q E} q => by
          obtain ⟨hg, hdbg, hm | ⟨hm, hv, hnn⟩⟩ := hc
          · exact ld_glob (X := X.suite a ((a, oe3) :: (X.pn ++ pins))) S3 hg hm q hdbg
          · exact ld_blt (X := X.suite a ((a, oe3) :: (X.pn ++ pins))) S3 hg hm hv q hnn hdbg
        refine test (LM.here ?_)
        cases b with
        | true =>
          refine codeAny_handlers_suite_as ?_
          refine HandSPX.lands_againZ fl3 fun h4 fl4 up4 => ?_
          have J4 : Inv X pins σ' H' { s' with heap := h4 } := J.landed nb fl4.1 ((up.trans up3).trans up4) os ag
          obtain ⟨oe4, vs4, he4, hz4, hd4⟩ := fl4.there
          have S4 := J4.suite he4 hd4 na nL nF
          refine store_ok (X := X.suite a ((a, oe4) :: (X.pn ++ pins))) (v := .ref a) S4 hN hi hloc rfl (fun s5 S5 => ?_) (.inr hln)
          refine wpAny_mono ((hsu a oe4 cls d (X.pn ++ pins) hz4 ⟨_, hd4⟩).run [] s5 _ H' _ S5 (hyes rfl a na)) (fun f s6 hsp => ?_) (fun _ _ z => False.elim z)
          have end_ : ∀ {σ6 : L2.St} {H6 : Hp} {Q : Shared → Prop}, Inv (X.suite a ((a, oe4) :: (X.pn ++ pins))) [] σ6 H6 s6 → (∀ s7, Inv X pins (σ6.set i none) H6 s7 → Q s7) →
              wpAny (model X.prog X.w) X.A (do bindName X.env n .none; unbindBehindTheSuite X.env n pos') (fun _ s7 => Q s7) X.xe s6 := fun {σ6 H6 Q} S6 hq => gone_ok (S6.unsuite ok) hN hi hln hq
          cases f with
          | next =>
            obtain ⟨σ6, H6, S6, q6⟩ := hsp
            exact end_ S6 fun s7 J7 => ⟨_, _, J7, q6⟩
          | brk =>
            obtain ⟨σ6, H6, S6, q6⟩ := hsp
            exact end_ S6 fun s7 J7 => ⟨_, _, J7, q6⟩
          | cont =>
            obtain ⟨σ6, H6, S6, q6⟩ := hsp
            exact end_ S6 fun s7 J7 => ⟨_, _, J7, q6⟩
          | ret u =>
            obtain ⟨v6, σ6, H6, S6, r6, q6⟩ := hsp
            exact end_ S6 fun s7 J7 => ⟨_, _, _, J7, r6, q6⟩
        | false =>
          show wpAny _ X.A (handleBy (.ref a) X.env hds2) _ _ _
          exact ih (hno rfl)
    exact go hh w
  · cases f with
    | next =>
      obtain ⟨σ', H', J', q⟩ := hsp
      exact wpAny_execs_nil ⟨σ', H', J'.ofTry ok, q⟩
    | brk =>
      obtain ⟨σ', H', J', q⟩ := hsp
      exact ⟨σ', H', J'.ofTry ok, q⟩
    | cont =>
      obtain ⟨σ', H', J', q⟩ := hsp
      exact ⟨σ', H', J'.ofTry ok, q⟩
    | ret u =>
      obtain ⟨v, σ', H', J', r, q⟩ := hsp
      exact ⟨v, σ', H', J'.ofTry ok, r, q⟩
end
end Mi
end
section
set_option Elab.async false
set_option linter.all false
set_option maxRecDepth 100000
set_option maxHeartbeats 2000000
set_option autoImplicit false
/-! Mi12: small things for the printed proofs. -/
namespace Mi
open PySem PySem.Spec L2
section
variable {X : Cx} {cl xl : Nat → Addr} {W : WX} {e : Expr} {f : Exp} {pos : Pos}
def mNeg (f : Exp) : Exp := fun σ => f σ >>= fun x => match x with
  | .int i => Pure.pure (.int (-i))
  | _ => M.fail
theorem m_neg (h : PE X e (liftE (zc X cl xl) W f)) : PE X (.UnaryOp .USub e pos) (liftE (zc X cl xl) W (mNeg f)) :=
  (pe_un un_neg h).weak fun σV H Q ⟨ρ, σ, st, R, S, G⟩ => ⟨ρ, σ, st, R, S, by
    have G0 : Got (zc X cl xl) (fun c d H' => W c d σV H') ρ H ((f σ >>= fun x => match x with
      | .int i => Pure.pure (.int (-i))
      | _ => M.fail : M MV) st) (PV _ Q) := G
    refine G0.seq fun x st1 ρ1 H1 e1 R1 G1 v rv => ?_
    cases x with
    | int i =>
      cases rv
      exact ⟨i, rfl, Got.pure G1 R1 _ rfl⟩
    | _ => exact (show False from G1).elim⟩
def gInX (neg : Bool) : Sto → MV → MV → Option Bool := fun st x y => (gIn st x y).map fun b => if neg then !b else b
theorem rv_str {Z : Zc} {ρ : List Addr} {H : Hp} {x : Str} {cs : List Nat} (h : x = ⟨cs.toArray⟩) (g : goodS cs) : RV Z ρ H (.str cs) (.str x) := by
  subst h
  exact ⟨rfl, g⟩
theorem huR {k : Nat} {A : Around} (r : Room k A) : A.units + 64 < cLine := by
  have := r.un
  omega
end
end Mi
end
section
set_option Elab.async false
set_option linter.all false
set_option maxRecDepth 100000
set_option maxHeartbeats 2000000
set_option autoImplicit false
/-! Mi13: the head's facts: plain defs, classes, own errors whose __init__ says super(). -/
namespace Mi
open PySem PySem.Spec PyProof.Rows L2 He
/-- what is looked at: what the module's names reach, and the statics -/
def asM (g : Addr → Option Obj) : Nat → List Addr
  | 0 => [mainGlobals, cStatics]
  | n + 1 => growD g (asM g n)
/-- an error's __init__: its class, its words -/
structure XDef where
  cls : Str
  qual : Str
  params : Arguments
  body : List Stmt
  scope : Scope
abbrev FnX : Type := Option (Str × Str × Arguments × FuncBody × Scope × Addr × List Str × Addr)
def iAd (K : PySem.W.Frag) (x : Str) : Addr := ma K (ga K x) "__init__"
def fnX' (K : PySem.W.Frag) (x : Str) : FnX := match K.lookup (iAd K x) with
  | some ⟨_, _, .func fd, _⟩ => some (fd.name, fd.qualname, fd.params, fd.body, fd.scope, fd.globals, fd.closure.map (·.1), fd.builtins)
  | _ => none
def XDef.val (d : XDef) : FnX := some ("__init__", d.qual, d.params, .stmts d.body, d.scope, mainGlobals, ["__class__"], builtinsNs)
def oexB (K : PySem.W.Frag) (C : Addr) : Bool := match K.lookup C with
  | some ⟨.type t, _, .cls cd, sl⟩ => (match cd.mro, sl.toList with
    | .ref C' :: bm, [_, _, _, _, some (.builtin n), _] => decide (t = "type") && (decide (C' = C) && (decide (n = "ValueError.__new__") && (!cd.hasDel && (cd.hasDict && PySem.HandSPX.refsVE bm))))
    | _, _ => false)
  | _ => false
theorem oexB_ok {K : PySem.W.Frag} {C : Addr} (h : oexB K C = true) : ∃ nm q N bs bm sn sub ab col dd k0 k1 k2 k3 k5, K.lookup C = some (excClassObj nm q C N bs bm true sn sub ab col dd k0 k1 k2 k3 k5 "ValueError.__new__") ∧ PySem.HandSPX.refsVE bm = true := by
  unfold oexB at h
  split at h
  · rename_i t dd cd sl ho
    split at h
    · rename_i C' bm k0 k1 k2 k3 n k5 hm hs
      obtain ⟨h1, h⟩ := ba h
      obtain ⟨h2, h⟩ := ba h
      obtain ⟨h3, h⟩ := ba h
      obtain ⟨h4, h⟩ := ba h
      obtain ⟨h5, h6⟩ := ba h
      have e1 : t = "type" := of_decide_eq_true h1
      have e2 : C' = C := of_decide_eq_true h2
      have e3 : n = "ValueError.__new__" := of_decide_eq_true h3
      obtain ⟨nm, bs, mro, ns, qn, hd, sn, sub, ab, col, del⟩ := cd
      dsimp only at hm h4 h5
      have e4 : del = false := by
        cases del with
        | false => rfl
        | true => cases h4
      subst e1 e2 e3 hm h5 e4
      have hsl : sl = #[k0, k1, k2, k3, some (.builtin "ValueError.__new__"), k5] := by
        obtain ⟨l⟩ := sl
        simp only at hs
        rw [hs]
      subst hsl
      exact ⟨nm, qn, ns, bs, bm, sn, sub, ab, col, dd, k0, k1, k2, k3, k5, ho, h6⟩
    · cases h
  · cases h
def oexAll (K : PySem.W.Frag) (C : Addr) : Bool := oexB K C && (eqO (PySem.W.findIn K (.ref C) "__setattr__") (some (some (.builtin "object.__setattr__"))) && (decide (PySem.W.subIn K (.ref C) (.type "BaseException") = some true) && (decide (PySem.W.typeIn K (.ref C) = some (.type "type")) && PySem.W.keepIn K (.ref C))))
theorem oexAll_ok {K : PySem.W.Frag} {C : Addr} (h : oexAll K C = true) : OexC K C := by
  obtain ⟨h1, h⟩ := ba h
  obtain ⟨h2, h⟩ := ba h
  obtain ⟨h3, h⟩ := ba h
  obtain ⟨h4, h5⟩ := ba h
  exact ⟨oexB_ok h1, eqO_ok h2, of_decide_eq_true h3, of_decide_eq_true h4, h5⟩
/-- the def at f, closing over __class__ -/
def supF (file : Str) (K : PySem.W.Frag) (C f : Addr) (q : Str) : Bool := match K.lookup f with
  | some ⟨_, _, .func ⟨_, _, _, _, _, _, [(nm, cc)], .none, _, _, _, _, .ref cda, _, _⟩, _⟩ => decide (nm = "__class__") && (PySem.W.codeIn K (.ref cda) q &&
    ((match K.lookup cda with
      | some ⟨_, _, .fields vs, _⟩ => (match (vs[2]? : Option Value) with
        | some (.str fl _) => file == fl
        | _ => false)
      | _ => false) &&
    (match K.lookup cc with
      | some ⟨_, _, .cell (some (.ref D)), _⟩ => decide (D = C)
      | _ => false)))
  | _ => false
def supB (file : Str) (K : PySem.W.Frag) (x q : Str) : Bool := supF file K (ga K x) (iAd K x) q && (eqO (PySem.W.nsIn K mainGlobals "super") (some none) && (eqO (PySem.W.nsIn K cStatics "thirdparty.any") (some none) &&
  (eqO (PySem.W.ks_superIn K (ga K x) (ga K x) "__init__") (some (some (.builtin "ValueError.__init__"))) && (decide (PySem.W.mroIn K (ga K x) (.ref (ga K x)) = some true) && (decide (PySem.W.subIn K (.ref (ga K x)) (.type "ValueError") = some true) && oexAll K (ga K x))))))
theorem supB_ok {P : Program} {K : PySem.W.Frag} {d : XDef} (ht : (P.main.scope.names.lookup ("super" : Str)).isSome = false) (h : supB P.main.file K d.cls d.qual = true) (e : fnX' K d.cls = d.val) :
    ∃ (fd : FuncData) (cda cc : Addr) (oc : Value) (od : Option Addr) (osl : Array (Option Value)) (kV doc pm ct : Value) (an : Option Addr), SupC P K (ga K d.cls) cda cc ∧ fd = PySem.W.fnX "__init__" d.qual d.params d.body d.scope [(("__class__" : Str), cc)] .none kV doc pm an (.ref cda) ct ∧
      K.lookup (iAd K d.cls) = some ⟨oc, od, .func fd, osl⟩ ∧ PySem.W.codeIn K (.ref cda) d.qual = true := by
  obtain ⟨h1, h⟩ := ba h
  obtain ⟨h2, h⟩ := ba h
  obtain ⟨h3, h⟩ := ba h
  obtain ⟨h4, h⟩ := ba h
  obtain ⟨h5, h⟩ := ba h
  obtain ⟨h6, h7⟩ := ba h
  unfold supF at h1
  split at h1
  · rename_i oc od n1 n2 n3 n4 n5 n6 nm cc n9 n10 n11 n12 cda n14 n15 osl lk
    obtain ⟨g1, h1⟩ := ba h1
    obtain ⟨g2, h1⟩ := ba h1
    obtain ⟨g3, g4⟩ := ba h1
    have enm : nm = "__class__" := of_decide_eq_true g1
    subst enm
    unfold fnX' at e
    rw [lk] at e
    have e2 : (some (n1, n2, n3, n4, n5, n6, [("__class__" : Str)], n15) : FnX) = d.val := e
    unfold XDef.val at e2
    simp only [Option.some.injEq, Prod.mk.injEq, true_and] at e2
    obtain ⟨k1, k2, k3, k4, k5, k6, k8⟩ := e2
    subst k1 k2 k3 k4 k5 k6 k8
    refine ⟨_, cda, cc, oc, od, osl, n9, n10, n11, n14, n12, ⟨?_, ?_, eqO_ok h2, eqO_ok h3, eqO_ok h4, of_decide_eq_true h5, of_decide_eq_true h6, ht, oexAll_ok h7⟩, rfl, lk, g2⟩
    · split at g3
      · rename_i ccl cdd vs ccs lc
        split at g3
        · rename_i fl tf hv
          exact ⟨ccl, cdd, vs, ccs, fl, tf, lc, hv, g3⟩
        · cases g3
      · cases g3
    · split at g4
      · rename_i cl cld D csl lc
        have eD : D = ga K d.cls := of_decide_eq_true g4
        subst eD
        exact ⟨cl, cld, csl, lc⟩
      · cases g4
  · cases h1
def xcB (K : PySem.W.Frag) (D : Addr) : Bool := eqO (PySem.W.findIn K (.ref D) "__getattribute__") (some (some (.builtin "BaseException.__getattribute__"))) && (eqO (PySem.W.findIn K (.ref D) "__getattr__") (some none) && (decide (PySem.W.subIn K (.ref D) (.type "BaseException") = some true) &&
  (PySem.W.hasDictIn K D && (eqO (PySem.W.findIn K (.ref D) "__class__") (some (some (.builtin "object.__class__"))) && (eqO (PySem.W.specialIn K (.builtin "object.__class__") "__get__") (some (some (.builtin "getset_descriptor.__get__"))) &&
  (decide (PySem.W.takesIn K (.builtin "object.__class__") = some true) && decide (PySem.W.mroIn K D (.type "object") = some true)))))))
theorem xcB_ok {K : PySem.W.Frag} {D : Addr} (h : xcB K D = true) : ExcC K D := by
  obtain ⟨h1, h⟩ := ba h
  obtain ⟨h2, h⟩ := ba h
  obtain ⟨h3, h⟩ := ba h
  obtain ⟨h4, h⟩ := ba h
  obtain ⟨h5, h⟩ := ba h
  obtain ⟨h6, h⟩ := ba h
  obtain ⟨h7, h8⟩ := ba h
  exact ⟨eqO_ok h1, eqO_ok h2, of_decide_eq_true h3, h4, eqO_ok h5, eqO_ok h6, of_decide_eq_true h7, of_decide_eq_true h8⟩
/-- facts as a list of truth values -/
def allB (l : List Bool) : Bool := l.all id
theorem allB_at {l : List Bool} (h : allB l = true) (i : Nat) {b : Bool} (e : l[i]? = some b) : b = true := List.all_eq_true.mp h b (List.mem_of_getElem? e)
/-! ### the Hook -/
abbrev AlM : Type := AlD × List FnX
def obsM (fa : List Fa) (fn : List DefD) (xs : List XDef) (ex : PySem.W.Frag → Bool) (K : PySem.W.Frag) : AlM × Bool := ((obsD fa fn K, xs.map fun d => fnX' K d.cls), ex K)
def valM (fn : List DefD) (xs : List XDef) : AlM × Bool := ((valD fn, xs.map XDef.val), true)
def obsMG (n : Nat) (fa : List Fa) (fn : List DefD) (xs : List XDef) (ex : PySem.W.Frag → Bool) (g : Addr → Option Obj) : AlM × Bool := obsM fa fn xs ex (frG g (asM g n))
def SaysM (fa : List Fa) (fn : List DefD) (xs : List XDef) (ex : PySem.W.Frag → Bool) (K : PySem.W.Frag) : Prop := obsM fa fn xs ex K = valM fn xs
def hookM (n : Nat) (fa : List Fa) (fn : List DefD) (xs : List XDef) (ex : PySem.W.Frag → Bool) : PySem.W.Hook where
  α := AlM × Bool
  obs := fun s => obsMG n fa fn xs ex s.heap.get?
  val := fun _ => valM fn xs
  says := fun _ h => ∃ K : PySem.W.Frag, K.In h ∧ SaysM fa fn xs ex K
  of := fun _ _ e => ⟨_, frG_in, e⟩
  keeps := fun _ _ _ ⟨K, hK, c⟩ k => ⟨K, PySem.W.Frag.In.keeps hK k, c⟩
theorem obsMG_eq {n : Nat} {fa : List Fa} {fn : List DefD} {xs : List XDef} {ex : PySem.W.Frag → Bool} {g : Addr → Option Obj} {s : Shared} (h : ∀ a, g a = s.heap.get? a) : obsMG n fa fn xs ex g = (hookM n fa fn xs ex).obs s := by
  have e : g = s.heap.get? := funext h
  rw [e] <;> rfl
section
variable {fa : List Fa} {fn : List DefD} {xs : List XDef} {ex : PySem.W.Frag → Bool} {K : PySem.W.Frag}
theorem SaysM.toD (c : SaysM fa fn xs ex K) : SaysD fa fn K := congrArg (fun z : AlM × Bool => z.1.1) c
theorem SaysM.more (c : SaysM fa fn xs ex K) : ex K = true := congrArg (fun z : AlM × Bool => z.2) c
theorem SaysM.xd (c : SaysM fa fn xs ex K) (i : Nat) {d : XDef} (h : xs[i]? = some d := by rfl) : fnX' K d.cls = d.val := by
  have e : xs.map (fun d => fnX' K d.cls) = xs.map XDef.val := congrArg (fun z : AlM × Bool => z.1.2) c
  have e2 : (xs.map fun d => fnX' K d.cls)[i]? = (xs.map XDef.val)[i]? := by rw [e]
  rw [List.getElem?_map, List.getElem?_map, h] at e2
  exact Option.some.inj e2
end
end Mi
end
section
set_option Elab.async false
set_option linter.all false
set_option maxRecDepth 100000
set_option maxHeartbeats 2000000
set_option autoImplicit false
/-! Pl0: how the readings compute (no program in sight). -/
namespace Mi
open PySem PySem.Spec L2
section
variable {α β : Type} {σ : Sl} {st : Sto}
/-- results in a row -/
def Res.bnd {α β : Type} (r : Res α) (k : α → Sto → Res β) : Res β := match r with
  | .ok a st' => k a st'
  | .exc c fs st' => .exc c fs st'
  | .fail => .fail
@[simp] theorem bnd_ok (a : α) (st : Sto) (k : α → Sto → Res β) : (Res.ok a st).bnd k = k a st := rfl
@[simp] theorem bnd_exc (c : Nat) (fs : List (Str × MV)) (st : Sto) (k : α → Sto → Res β) : (Res.exc c fs st : Res α).bnd k = .exc c fs st := rfl
@[simp] theorem bnd_fail (k : α → Sto → Res β) : (Res.fail : Res α).bnd k = .fail := rfl
@[simp] theorem bind_ap (m : M α) (k : α → M β) (st : Sto) : (m >>= k) st = (m st).bnd fun a st' => k a st' := rfl
@[simp] theorem pure_ap (a : α) (st : Sto) : (Pure.pure a : M α) st = .ok a st := rfl
@[simp] theorem fail_ap (st : Sto) : (M.fail : M α) st = .fail := rfl
@[simp] theorem opt_some (a : α) (st : Sto) : M.opt (some a) st = .ok a st := rfl
@[simp] theorem opt_none (st : Sto) : (M.opt none : M α) st = .fail := rfl
theorem look_ap (g : Sto → Option α) (st : Sto) : M.look g st = match g st with | some a => .ok a st | none => .fail := rfl
@[simp] theorem look_some {g : Sto → Option α} {st : Sto} {a : α} (h : g st = some a) : M.look g st = .ok a st := by rw [look_ap, h]
/-- a statement's part -/
def Res.cat (r : Res α) (σ : Sl) (k : α → Sto → Res Fl) : Res Fl := match r with
  | .ok a st' => k a st'
  | .exc c fs st' => .ok (.exc c fs σ) st'
  | .fail => .fail
@[simp] theorem cat_ok (a : α) (st : Sto) (σ : Sl) (k : α → Sto → Res Fl) : (Res.ok a st).cat σ k = k a st := rfl
@[simp] theorem cat_exc (c : Nat) (fs : List (Str × MV)) (st : Sto) (σ : Sl) (k : α → Sto → Res Fl) : (Res.exc c fs st : Res α).cat σ k = .ok (.exc c fs σ) st := rfl
@[simp] theorem catchX_ap (m : M α) (σ : Sl) (k : α → M Fl) (st : Sto) : catchX m σ k st = (m st).cat σ fun a st' => k a st' := rfl
@[simp] theorem mVar_ap (i : Nat) (σ : Sl) (st : Sto) : mVar i σ st = M.opt ((σ[i]?).bind id) st := rfl
@[simp] theorem mC_ap (x : MV) (σ : Sl) (st : Sto) : mC x σ st = .ok x st := rfl
@[simp] theorem mOp_ap (g : MV → MV → M MV) (a b : Exp) (σ : Sl) (st : Sto) : mOp g a b σ st = (a σ st).bnd fun x s1 => (b σ s1).bnd fun y s2 => g x y s2 := rfl
@[simp] theorem mCmp_ap (g : Sto → MV → MV → Option Bool) (a b : Exp) (σ : Sl) (st : Sto) : mCmp g a b σ st = (a σ st).bnd fun x s1 => (b σ s1).bnd fun y s2 => M.opt (g s2 x y) s2 := by
  show ((a σ st).bnd fun x s1 => (b σ s1).bnd fun y s2 => M.look (fun s => g s x y) s2) = _
  refine congrArg _ (funext fun x => funext fun s1 => congrArg _ (funext fun y => funext fun s2 => ?_))
  rw [look_ap]
  cases g s2 x y <;> rfl
@[simp] theorem mB_ap (t : Tst) (σ : Sl) (st : Sto) : mB t σ st = (t σ st).bnd fun b s => .ok (.bl b) s := rfl
@[simp] theorem mAsB_ap (f : Exp) (σ : Sl) (st : Sto) : mAsB f σ st = (f σ st).bnd fun x s => M.opt (asB x) s := rfl
@[simp] theorem asB_bl (b : Bool) : asB (.bl b) = some b := rfl
@[simp] theorem tAnd2_ap (t u : Tst) (σ : Sl) (st : Sto) : tAnd2 t u σ st = (t σ st).bnd fun c s => if c = true then u σ s else .ok false s := by
  show ((t σ st).bnd fun c s => (if c = true then u σ else Pure.pure false : M Bool) s) = _
  congr 1
  funext c s
  cases c <;> rfl
@[simp] theorem tOr2_ap (t u : Tst) (σ : Sl) (st : Sto) : tOr2 t u σ st = (t σ st).bnd fun c s => if c = true then .ok true s else u σ s := by
  show ((t σ st).bnd fun c s => (if c = true then Pure.pure true else u σ : M Bool) s) = _
  congr 1
  funext c s
  cases c <;> rfl
@[simp] theorem tNot1_ap (t : Tst) (σ : Sl) (st : Sto) : tNot1 t σ st = (t σ st).bnd fun c s => .ok (!c) s := rfl
@[simp] theorem mAndV_ap (t : Tst) (g : Exp) (σ : Sl) (st : Sto) : mAndV t g σ st = (t σ st).bnd fun c s => if c = true then g σ s else .ok (.bl false) s := by
  show ((t σ st).bnd fun c s => (if c = true then g σ else Pure.pure (.bl false) : M MV) s) = _
  congr 1
  funext c s
  cases c <;> rfl
@[simp] theorem mOrV_ap (t : Tst) (g : Exp) (σ : Sl) (st : Sto) : mOrV t g σ st = (t σ st).bnd fun c s => if c = true then .ok (.bl true) s else g σ s := by
  show ((t σ st).bnd fun c s => (if c = true then Pure.pure (.bl true) else g σ : M MV) s) = _
  congr 1
  funext c s
  cases c <;> rfl
@[simp] theorem mIf_ap (t : Tst) (f g : Exp) (σ : Sl) (st : Sto) : mIf t f g σ st = (t σ st).bnd fun c s => if c = true then f σ s else g σ s := by
  show ((t σ st).bnd fun c s => (if c = true then f σ else g σ : M MV) s) = _
  congr 1
  funext c s
  cases c <;> rfl
@[simp] theorem mArgs_nil (σ : Sl) (st : Sto) : mArgs [] σ st = .ok [] st := rfl
@[simp] theorem mArgs_cons (f : Exp) (fs : List Exp) (σ : Sl) (st : Sto) : mArgs (f :: fs) σ st = (f σ st).bnd fun x s1 => (mArgs fs σ s1).bnd fun xs s2 => .ok (x :: xs) s2 := rfl
@[simp] theorem mTup_ap (fs : List Exp) (σ : Sl) (st : Sto) : mTup fs σ st = (mArgs fs σ st).bnd fun xs s => .ok (.tup xs) s := rfl
@[simp] theorem mLst_ap (fs : List Exp) (σ : Sl) (st : Sto) : mLst fs σ st = (mArgs fs σ st).bnd fun xs s => .ok (.loc s.length) (s ++ [.lst xs]) := rfl
@[simp] theorem mCallG_ap (g : List MV → M MV) (fs : List Exp) (σ : Sl) (st : Sto) : mCallG g fs σ st = (mArgs fs σ st).bnd fun xs s => g xs s := rfl
@[simp] theorem mCall_ap (D : List MV → M MV) (fs : List Exp) (σ : Sl) (st : Sto) : mCall D fs σ st = (mArgs fs σ st).bnd fun xs s => D xs s := rfl
@[simp] theorem mNeg_ap (f : Exp) (σ : Sl) (st : Sto) : mNeg f σ st = (f σ st).bnd fun x s => (match x with | .int i => Pure.pure (.int (-i)) | _ => M.fail : M MV) s := rfl
@[simp] theorem mIx_ap (a b : Exp) (σ : Sl) (st : Sto) : mIx a b σ st = (a σ st).bnd fun x s1 => (b σ s1).bnd fun i s2 => M.opt (ixM s2 x i) s2 := by
  show ((a σ st).bnd fun x s1 => (b σ s1).bnd fun i s2 => M.look (fun s => ixM s x i) s2) = _
  refine congrArg _ (funext fun x => funext fun s1 => congrArg _ (funext fun y => funext fun s2 => ?_))
  rw [look_ap]
  cases ixM s2 x y <;> rfl
@[simp] theorem mSlice_ap (f : Exp) (lo hi : Prt) (σ : Sl) (st : Sto) : mSlice f lo hi σ st = (f σ st).bnd fun x s1 => (lo σ s1).bnd fun l s2 => (hi σ s2).bnd fun h s3 => slM x l h s3 := rfl
@[simp] theorem mPart_ap (f : Exp) (σ : Sl) (st : Sto) : mPart f σ st = (f σ st).bnd fun x s => (match x with | .int i => Pure.pure (some i) | _ => M.fail : M (Option Int)) s := rfl
@[simp] theorem mNoPart_ap (σ : Sl) (st : Sto) : mNoPart σ st = .ok none st := rfl
@[simp] theorem slM_str (s : List Nat) (lo hi : Option Int) (st : Sto) : slM (.str s) lo hi st = .ok (.str (cutL s lo hi)) st := rfl
@[simp] theorem mMt_ap (chk : Sto → MV → Bool) (g : MV → List MV → M MV) (o : Exp) (fs : List Exp) (σ : Sl) (st : Sto) : mMt chk g o fs σ st = (o σ st).bnd fun x s1 => if chk s1 x = true then (mArgs fs σ s1).bnd fun xs s2 => g x xs s2 else .fail := by
  show ((o σ st).bnd fun x s1 => (M.look (fun st => if chk st x = true then some () else none) s1).bnd fun _ s1 => (mArgs fs σ s1).bnd fun xs s2 => g x xs s2) = _
  congr 1
  funext x s1
  rw [look_ap]
  by_cases h : chk s1 x = true
  · rw [if_pos h, if_pos h]; rfl
  · rw [if_neg h, if_neg h]; rfl
@[simp] theorem mFld_ap (c : Nat) (nm : Str) (f : Exp) (σ : Sl) (st : Sto) : mFld c nm f σ st = (f σ st).bnd fun x s => M.opt ((insAt s c x).bind fun fs => fs.lookup nm) s := by
  show ((f σ st).bnd fun x s1 => M.look (fun st => (insAt st c x).bind fun fs => fs.lookup nm) s1) = _
  refine congrArg _ (funext fun x => funext fun s1 => ?_)
  rw [look_ap]
  cases (insAt s1 c x).bind fun fs => fs.lookup nm <;> rfl
theorem chkM_ap (c : Nat) (m : Str) (x : MV) (st : Sto) : chkM c m x st = M.opt ((insAt st c x).bind fun fs => if fs.lookup m = none then some () else none) st := by
  show M.look _ st = _
  rw [look_ap]
  cases (insAt st c x).bind fun fs => if fs.lookup m = none then some () else none <;> rfl
@[simp] theorem mMeth_ap (c : Nat) (m : Str) (D : List MV → M MV) (o : Exp) (fs : List Exp) (σ : Sl) (st : Sto) : mMeth c m D o fs σ st = (o σ st).bnd fun x s1 => (chkM c m x s1).bnd fun _ s1 => (mArgs fs σ s1).bnd fun xs s2 => D (x :: xs) s2 := rfl
@[simp] theorem mMake_ap (c : Nat) (D : List MV → M MV) (fs : List Exp) (σ : Sl) (st : Sto) : mMake c D fs σ st = (mArgs fs σ st).bnd fun xs s => finN s.length (D (.loc s.length :: xs) (s ++ [.ins c []])) := rfl
@[simp] theorem finN_ok (n : Nat) (st : Sto) : finN n (.ok .non st) = .ok (.loc n) st := rfl
/-! ### statements -/
/-- what comes behind -/
def Fl.go (fl : Fl) (st : Sto) (k : Stm) : Res Fl := match fl with
  | .nx σ => k σ st
  | fl => .ok fl st
@[simp] theorem go_nx (σ : Sl) (st : Sto) (k : Stm) : (Fl.nx σ).go st k = k σ st := rfl
@[simp] theorem go_ret (v : MV) (st : Sto) (k : Stm) : (Fl.ret v).go st k = .ok (.ret v) st := rfl
@[simp] theorem go_bk (σ : Sl) (st : Sto) (k : Stm) : (Fl.bk σ).go st k = .ok (.bk σ) st := rfl
@[simp] theorem go_ct (σ : Sl) (st : Sto) (k : Stm) : (Fl.ct σ).go st k = .ok (.ct σ) st := rfl
@[simp] theorem go_exc (c : Nat) (fs : List (Str × MV)) (σ : Sl) (st : Sto) (k : Stm) : (Fl.exc c fs σ).go st k = .ok (.exc c fs σ) st := rfl
@[simp] theorem sSeq_ap (a b : Stm) (σ : Sl) (st : Sto) : sSeq a b σ st = (a σ st).bnd fun fl s => fl.go s b := by
  show ((a σ st).bnd fun fl s => (fl.thn b) s) = _
  congr 1
  funext fl s
  cases fl <;> rfl
@[simp] theorem sNop_ap (σ : Sl) (st : Sto) : sNop σ st = .ok (.nx σ) st := rfl
@[simp] theorem sSet_ap (i : Nat) (f : Exp) (σ : Sl) (st : Sto) : sSet i f σ st = (f σ st).cat σ fun x s => .ok (.nx (σ.set i (some x))) s := rfl
@[simp] theorem sExpr_ap (f : Exp) (σ : Sl) (st : Sto) : sExpr f σ st = (f σ st).cat σ fun _ s => .ok (.nx σ) s := rfl
@[simp] theorem sRet_ap (f : Exp) (σ : Sl) (st : Sto) : sRet f σ st = (f σ st).cat σ fun x s => .ok (.ret x) s := rfl
@[simp] theorem sRetN_ap (σ : Sl) (st : Sto) : sRetN σ st = .ok (.ret .non) st := rfl
@[simp] theorem sBreak_ap (σ : Sl) (st : Sto) : sBreak σ st = .ok (.bk σ) st := rfl
@[simp] theorem sCont_ap (σ : Sl) (st : Sto) : sCont σ st = .ok (.ct σ) st := rfl
@[simp] theorem sIf_ap (t : Tst) (a b : Stm) (σ : Sl) (st : Sto) : sIf t a b σ st = (t σ st).cat σ fun c s => if c = true then a σ s else b σ s := by
  show ((t σ st).cat σ fun c s => (if c = true then a σ else b σ : M Fl) s) = _
  congr 1
  funext c s
  cases c <;> rfl
@[simp] theorem sAsg_ap (g : Tg) (f : Exp) (σ : Sl) (st : Sto) : sAsg g f σ st = (f σ st).cat σ fun x s => match g x σ s with | .ok σ' s' => .ok (.nx σ') s' | _ => .fail := rfl
@[simp] theorem tgName_ap (i : Nat) (x : MV) (σ : Sl) (st : Sto) : tgName i x σ st = .ok (σ.set i (some x)) st := rfl
@[simp] theorem tgIx_ap (o i : Exp) (x : MV) (σ : Sl) (st : Sto) : tgIx o i x σ st = (o σ st).bnd fun a s1 => (i σ s1).bnd fun b s2 => (setIx a b x s2).bnd fun _ s3 => .ok σ s3 := rfl
@[simp] theorem sPar_ap (i j : Nat) (f g : Exp) (σ : Sl) (st : Sto) : sPar i j [f, g] σ st = (f σ st).cat σ fun x s1 => (g σ s1).cat σ fun y s2 => .ok (.nx ((σ.set i (some x)).set j (some y))) s2 := by
  show (mArgs [f, g] σ st).cat σ _ = _
  rw [mArgs_cons]
  cases f σ st with
  | ok x s1 =>
    show ((mArgs [g] σ s1).bnd fun xs s2 => .ok (x :: xs) s2).cat σ _ = _
    rw [mArgs_cons]
    show _ = (g σ s1).cat σ _
    cases g σ s1 <;> rfl
  | exc c fs s1 => rfl
  | fail => rfl
@[simp] theorem sFld_ap (c : Nat) (nm : Str) (o e : Exp) (σ : Sl) (st : Sto) : sFld c nm o e σ st = ((e σ st).bnd fun y s1 => (o σ s1).bnd fun x s2 => setF c nm x y s2).cat σ fun _ s => .ok (.nx σ) s := rfl
@[simp] theorem mRun_ap (n : Nat) (b : Stm) (xs : List MV) (st : Sto) : mRun n b xs st = match b (init0 n xs) st with
  | .ok (.nx _) st' => .ok .non st'
  | .ok (.ret v) st' => .ok v st'
  | .ok (.exc c fs _) st' => .exc c fs st'
  | _ => .fail := rfl
@[simp] theorem init0_nil (n : Nat) : init0 n [] = List.replicate n none := by simp [init0]
@[simp] theorem init0_cons (n : Nat) (x : MV) (xs : List MV) : init0 (n + 1) (x :: xs) = some x :: init0 n xs := by simp [init0]
end
/-! ### step by step -/
section
variable {a b : Stm} {t u : Tst} {σ σ' : Sl} {st s s1 : Sto} {r : Res Fl} {v : MV} {c : Nat} {fs : List (Str × MV)} {n : Nat} {xs : List MV}
theorem seq_nx (h : a σ st = .ok (.nx σ') s1) (hb : b σ' s1 = r) : sSeq a b σ st = r := by rw [sSeq_ap, h]; exact hb
theorem seq_ret (h : a σ st = .ok (.ret v) s1) : sSeq a b σ st = .ok (.ret v) s1 := by rw [sSeq_ap, h]; rfl
theorem seq_bk (h : a σ st = .ok (.bk σ') s1) : sSeq a b σ st = .ok (.bk σ') s1 := by rw [sSeq_ap, h]; rfl
theorem seq_exc (h : a σ st = .ok (.exc c fs σ') s1) : sSeq a b σ st = .ok (.exc c fs σ') s1 := by rw [sSeq_ap, h]; rfl
theorem run_ret (h : b (init0 n xs) st = .ok (.ret v) s) : mRun n b xs st = .ok v s := by rw [mRun_ap, h]
theorem run_nx (h : b (init0 n xs) st = .ok (.nx σ') s) : mRun n b xs st = .ok .non s := by rw [mRun_ap, h]
theorem run_exc (h : b (init0 n xs) st = .ok (.exc c fs σ') s) : mRun n b xs st = .exc c fs s := by rw [mRun_ap, h]
theorem if_t (h : t σ st = .ok true s) (ha : a σ s = r) : sIf t a b σ st = r := by rw [sIf_ap, h]; exact ha
theorem if_f (h : t σ st = .ok false s) (hb : b σ s = r) : sIf t a b σ st = r := by rw [sIf_ap, h]; exact hb
theorem ret_of {f : Exp} (h : f σ st = .ok v s) : sRet f σ st = .ok (.ret v) s := by rw [sRet_ap, h]; rfl
theorem set_of {f : Exp} {i : Nat} (h : f σ st = .ok v s) : sSet i f σ st = .ok (.nx (σ.set i (some v))) s := by rw [sSet_ap, h]; rfl
theorem expr_of {f : Exp} (h : f σ st = .ok v s) : sExpr f σ st = .ok (.nx σ) s := by rw [sExpr_ap, h]; rfl
theorem expr_exc {f : Exp} (h : f σ st = .exc c fs s) : sExpr f σ st = .ok (.exc c fs σ) s := by rw [sExpr_ap, h]; rfl
theorem or_t (h : t σ st = .ok true s) : tOr2 t u σ st = .ok true s := by rw [tOr2_ap, h]; rfl
theorem or_f {k : Bool} (h : t σ st = .ok false s) (hu : u σ s = .ok k s1) : tOr2 t u σ st = .ok k s1 := by rw [tOr2_ap, h]; exact hu
theorem and_t {k : Bool} (h : t σ st = .ok true s) (hu : u σ s = .ok k s1) : tAnd2 t u σ st = .ok k s1 := by rw [tAnd2_ap, h]; exact hu
theorem and_f (h : t σ st = .ok false s) : tAnd2 t u σ st = .ok false s := by rw [tAnd2_ap, h]; rfl
theorem not_of {k : Bool} (h : t σ st = .ok k s) : tNot1 t σ st = .ok (!k) s := by rw [tNot1_ap, h]; rfl
theorem asB_of {f : Exp} {k : Bool} (h : f σ st = .ok (.bl k) s) : mAsB f σ st = .ok k s := by rw [mAsB_ap, h]; rfl
theorem cmp_of {f g : Exp} {q : Sto → MV → MV → Option Bool} {x y : MV} {k : Bool} {s2 : Sto} (hf : f σ st = .ok x s1) (hg : g σ s1 = .ok y s2) (h : q s2 x y = some k) : mCmp q f g σ st = .ok k s2 := by
  rw [mCmp_ap, hf, bnd_ok, hg, bnd_ok, h]
  rfl
theorem op_of {f g : Exp} {q : MV → MV → M MV} {x y : MV} {s2 : Sto} {w : Res MV} (hf : f σ st = .ok x s1) (hg : g σ s1 = .ok y s2) (h : q x y s2 = w) : mOp q f g σ st = w := by
  rw [mOp_ap, hf, bnd_ok, hg, bnd_ok, h]
theorem call1 {D : List MV → M MV} {f : Exp} {x : MV} {w : Res MV} (hf : f σ st = .ok x s1) (h : D [x] s1 = w) : mCall D [f] σ st = w := by
  rw [mCall_ap, mArgs_cons, hf]
  exact h
theorem call2 {D : List MV → M MV} {f g : Exp} {x y : MV} {s2 : Sto} {w : Res MV} (hf : f σ st = .ok x s1) (hg : g σ s1 = .ok y s2) (h : D [x, y] s2 = w) : mCall D [f, g] σ st = w := by
  rw [mCall_ap, mArgs_cons, hf, bnd_ok, mArgs_cons, hg]
  exact h
theorem call3 {D : List MV → M MV} {f g k : Exp} {x y z : MV} {s2 s3 : Sto} {w : Res MV} (hf : f σ st = .ok x s1) (hg : g σ s1 = .ok y s2) (hk : k σ s2 = .ok z s3) (h : D [x, y, z] s3 = w) : mCall D [f, g, k] σ st = w := by
  rw [mCall_ap, mArgs_cons, hf, bnd_ok, mArgs_cons, hg, bnd_ok, mArgs_cons, hk]
  exact h
theorem callG1 {D : List MV → M MV} {f : Exp} {x : MV} {w : Res MV} (hf : f σ st = .ok x s1) (h : D [x] s1 = w) : mCallG D [f] σ st = w := by
  rw [mCallG_ap, mArgs_cons, hf]
  exact h
theorem ix_of {f g : Exp} {x : MV} {i : MV} {s2 : Sto} {y : MV} (hf : f σ st = .ok x s1) (hg : g σ s1 = .ok i s2) (h : ixM s2 x i = some y) : mIx f g σ st = .ok y s2 := by
  rw [mIx_ap, hf, bnd_ok, hg, bnd_ok, h]
  rfl
theorem var_of {i : Nat} {x : MV} (h : (σ[i]?).bind id = some x) : mVar i σ st = .ok x st := by rw [mVar_ap, h]; rfl
end
/-! ### while -/
section
variable {t : Tst} {b : Stm}
theorem whileN_mono : ∀ {n : Nat} {σ : Sl} {st : Sto}, whileN t b n σ st ≠ .fail → ∀ k, whileN t b (n + k) σ st = whileN t b n σ st := by
  intro n
  induction n with
  | zero => exact fun h => (h rfl).elim
  | succ n ih =>
    intro σ st h k
    rw [Nat.succ_add]
    unfold whileN at h ⊢
    rw [catchX_ap] at h ⊢
    rw [catchX_ap]
    cases q : t σ st with
    | fail => rfl
    | exc c fs s => rfl
    | ok c s =>
      rw [q] at h
      simp only [cat_ok] at h ⊢
      cases c with
      | false => rfl
      | true =>
        simp only [if_true] at h ⊢
        rw [bind_ap] at h ⊢
        rw [bind_ap]
        cases q2 : b σ s with
        | fail => rfl
        | exc c fs s => rfl
        | ok fl s2 =>
          rw [q2] at h
          simp only [bnd_ok] at h ⊢
          cases fl with
          | nx σ' => exact ih h k
          | ct σ' => exact ih h k
          | bk σ' => rfl
          | ret v => rfl
          | exc c fs σ' => rfl
theorem sWhile_of {n : Nat} {σ : Sl} {st : Sto} {r : Res Fl} (h : whileN t b n σ st = r) (hr : r ≠ .fail) : sWhile t b σ st = r := by
  have ex : ∃ n, whileN t b n σ st ≠ .fail := ⟨n, by rw [h]; exact hr⟩
  unfold sWhile
  rw [dif_pos ex]
  have h1 := Classical.choose_spec ex
  generalize Classical.choose ex = m at h1
  have e1 := whileN_mono h1 n
  have e2 := whileN_mono (n := n) (by rw [h]; exact hr) m
  rw [← e1, Nat.add_comm, e2, h]
theorem sWhile_get {σ : Sl} {st : Sto} {r : Res Fl} (h : sWhile t b σ st = r) (hr : r ≠ .fail) : ∃ n, whileN t b n σ st = r := by
  unfold sWhile at h
  split at h
  · exact ⟨_, h⟩
  · exact (hr h.symm).elim
theorem while_stop {σ : Sl} {st s1 : Sto} (h : t σ st = .ok false s1) : sWhile t b σ st = .ok (.nx σ) s1 := by
  refine sWhile_of (n := 1) ?_ (fun z => nomatch z)
  unfold whileN
  rw [catchX_ap, h]
  rfl
theorem while_step {σ σ' : Sl} {st s1 s2 : Sto} {r : Res Fl} (h : t σ st = .ok true s1) (hb : b σ s1 = .ok (.nx σ') s2) (hw : sWhile t b σ' s2 = r) (hr : r ≠ .fail) : sWhile t b σ st = r := by
  obtain ⟨n, e⟩ := sWhile_get hw hr
  refine sWhile_of (n := n + 1) ?_ hr
  unfold whileN
  rw [catchX_ap, h]
  show (b σ >>= _) s1 = r
  rw [bind_ap, hb]
  exact e
theorem while_break {σ σ' : Sl} {st s1 s2 : Sto} (h : t σ st = .ok true s1) (hb : b σ s1 = .ok (.bk σ') s2) : sWhile t b σ st = .ok (.nx σ') s2 := by
  refine sWhile_of (n := 1) ?_ (fun z => nomatch z)
  unfold whileN
  rw [catchX_ap, h]
  show (b σ >>= _) s1 = _
  rw [bind_ap, hb]
  rfl
theorem while_ret {σ : Sl} {st s1 s2 : Sto} {v : MV} (h : t σ st = .ok true s1) (hb : b σ s1 = .ok (.ret v) s2) : sWhile t b σ st = .ok (.ret v) s2 := by
  refine sWhile_of (n := 1) ?_ (fun z => nomatch z)
  unfold whileN
  rw [catchX_ap, h]
  show (b σ >>= _) s1 = _
  rw [bind_ap, hb]
  rfl
theorem while_exc {σ σ' : Sl} {st s1 s2 : Sto} {c : Nat} {fs : List (Str × MV)} (h : t σ st = .ok true s1) (hb : b σ s1 = .ok (.exc c fs σ') s2) : sWhile t b σ st = .ok (.exc c fs σ') s2 := by
  refine sWhile_of (n := 1) ?_ (fun z => nomatch z)
  unfold whileN
  rw [catchX_ap, h]
  show (b σ >>= _) s1 = _
  rw [bind_ap, hb]
  rfl
end
/-! ### comparisons -/
@[simp] theorem eqM_str (a b : List Nat) : eqM (.str a) (.str b) = decide (a = b) := by
  show ((⟨a.toArray⟩ : Str) == ⟨b.toArray⟩) = _
  rw [str_beq, Bool.eq_iff_iff]
  simp
@[simp] theorem eqM_int_str (i : Int) (b : List Nat) : eqM (.int i) (.str b) = false := rfl
@[simp] theorem eqM_int (i j : Int) : eqM (.int i) (.int j) = decide (i = j) := by
  show (i == j) = _
  rw [Bool.eq_iff_iff]
  simp
@[simp] theorem depM_str (a : List Nat) : depM (.str a) = 0 := rfl
@[simp] theorem depM_int (i : Int) : depM (.int i) = 0 := rfl
@[simp] theorem gEq_ss (st : Sto) (a b : List Nat) : gEq st (.str a) (.str b) = some (decide (a = b)) := by simp [gEq]
@[simp] theorem gNe_ss (st : Sto) (a b : List Nat) : gNe st (.str a) (.str b) = some (!decide (a = b)) := by simp [gNe]
@[simp] theorem gEq_ii (st : Sto) (a b : Int) : gEq st (.int a) (.int b) = some (decide (a = b)) := by simp [gEq]
@[simp] theorem gNe_ii (st : Sto) (a b : Int) : gNe st (.int a) (.int b) = some (!decide (a = b)) := by simp [gNe]
@[simp] theorem gEq_is (st : Sto) (a : Int) (b : List Nat) : gEq st (.int a) (.str b) = some false := by simp [gEq]
@[simp] theorem gI_ii (p : Int → Int → Bool) (st : Sto) (i j : Int) : gI p st (.int i) (.int j) = some (p i j) := rfl
@[simp] theorem gInX_s1 (neg : Bool) (st : Sto) (c : Nat) (z : List Nat) : gInX neg st (.str [c]) (.str z) = some (if neg then !decide (c ∈ z) else decide (c ∈ z)) := rfl
/-! ### built-ins -/
@[simp] theorem mAdd_ii (i j : Int) (st : Sto) : mAdd (.int i) (.int j) st = .ok (.int (i + j)) st := rfl
@[simp] theorem mSub_ii (i j : Int) (st : Sto) : mSub (.int i) (.int j) st = .ok (.int (i - j)) st := rfl
theorem mAdd_ss {a b : List Nat} (st : Sto) (h : a.length + b.length ≤ 16777216) : mAdd (.str a) (.str b) st = .ok (.str (a ++ b)) st := by
  show (if a.length + b.length ≤ 16777216 then Pure.pure (.str (a ++ b)) else M.fail : M MV) st = _
  rw [if_pos h]
  rfl
@[simp] theorem mLen_str (s : List Nat) (st : Sto) : mLen [.str s] st = .ok (.int s.length) st := rfl
theorem mLen_loc {n : Nat} {xs : List MV} {st : Sto} (h : st[n]? = some (.lst xs)) : mLen [.loc n] st = .ok (.int xs.length) st := by
  show (match seqM st (.loc n) with | some xs => .ok (.int xs.length) st | none => .fail : Res MV) = _
  have : seqM st (.loc n) = some xs := by
    show (match st[n]? with | some (.lst xs) => some xs | _ => none) = _
    rw [h]
  rw [this]
theorem lstAt_iff {st : Sto} {n : Nat} {xs : List MV} (h : st[n]? = some (.lst xs)) : lstAt st n = some xs := by
  unfold lstAt
  rw [h]
theorem seqM_loc {n : Nat} {xs : List MV} {st : Sto} (h : st[n]? = some (.lst xs)) : seqM st (.loc n) = some xs := by
  show (match st[n]? with | some (.lst xs) => some xs | _ => none) = _
  rw [h]
theorem ixM_loc {n : Nat} {xs : List MV} {st : Sto} (h : st[n]? = some (.lst xs)) (i : Int) : ixM st (.loc n) (.int i) = atI xs i := by
  show (seqM st (.loc n)).bind _ = _
  rw [seqM_loc h]
  rfl
@[simp] theorem ixM_str (st : Sto) (s : List Nat) (i : Int) : ixM st (.str s) (.int i) = (atI s i).map fun c => .str [c] := rfl
@[simp] theorem ixM_tup (st : Sto) (s : List MV) (i : Int) : ixM st (.tup s) (.int i) = atI s i := rfl
theorem atI_nat {α : Type} (xs : List α) (k : Nat) : atI xs (k : Int) = xs[k]? := by
  unfold atI ixN
  by_cases h : k < xs.length
  · rw [if_pos (by omega), if_pos (by omega)]
    simp
  · rw [if_pos (by omega), if_neg (by omega)]
    simp only [Option.bind_none]
    rw [List.getElem?_eq_none (by omega)]
@[simp] theorem atI_zero {α : Type} (xs : List α) : atI xs 0 = xs[0]? := atI_nat xs 0
@[simp] theorem atI_one {α : Type} (xs : List α) : atI xs 1 = xs[1]? := atI_nat xs 1
theorem atI_last {α : Type} (xs : List α) (x : α) : atI (xs ++ [x]) (-1) = some x := by
  unfold atI ixN
  rw [if_neg (by omega), if_pos (by simp; omega)]
  have e : (-1 + ((xs ++ [x]).length : Int)).toNat = xs.length := by simp; omega
  rw [Option.bind_some, e]
  simp
/-! ### stores -/
theorem get_app {st g : Sto} {n : Nat} {o : MO} (h : st[n]? = some o) : (st ++ g)[n]? = some o := by
  rw [List.getElem?_append_left (List.getElem?_eq_some_iff.mp h).1]
  exact h
theorem get_new {st : Sto} {o : MO} : (st ++ [o])[st.length]? = some o := by
  rw [List.getElem?_append_right (Nat.le_refl _)]
  simp
end Mi
end
section
set_option Elab.async false
set_option linter.all false
set_option maxRecDepth 100000
set_option maxHeartbeats 4000000
set_option autoImplicit false
/-! Written by gen.py: the defs of the linked text, their denotations, and that each keeps its promise. -/
namespace K76
open PySem PySem.Spec PyProof.Rows L2 Mi
def top (i : Nat) : Stmt := PySem.Challenge.pw_asknest_k76_state_texts.main.body.getD i (.Pass ⟨0, 0, 0, 0⟩)
def c0 : List Nat := []
theorem c0_eq : (Str.ofString "") = ⟨c0.toArray⟩ := by decide +kernel
theorem c0_good : goodS c0 := ⟨by decide, by decide⟩
def c1 : List Nat := [46]
theorem c1_eq : (Str.ofString ".") = ⟨c1.toArray⟩ := by decide +kernel
theorem c1_good : goodS c1 := ⟨by decide, by decide⟩
def c2 : List Nat := [40]
theorem c2_eq : (Str.ofString "(") = ⟨c2.toArray⟩ := by decide +kernel
theorem c2_good : goodS c2 := ⟨by decide, by decide⟩
def c3 : List Nat := [32]
theorem c3_eq : (Str.ofString " ") = ⟨c3.toArray⟩ := by decide +kernel
theorem c3_good : goodS c3 := ⟨by decide, by decide⟩
def c4 : List Nat := [41]
theorem c4_eq : (Str.ofString ")") = ⟨c4.toArray⟩ := by decide +kernel
theorem c4_good : goodS c4 := ⟨by decide, by decide⟩
def c5 : List Nat := [48]
theorem c5_eq : (Str.ofString "0") = ⟨c5.toArray⟩ := by decide +kernel
theorem c5_good : goodS c5 := ⟨by decide, by decide⟩
def c6 : List Nat := [48, 49, 50, 51, 52, 53, 54, 55, 56, 57]
theorem c6_eq : (Str.ofString "0123456789") = ⟨c6.toArray⟩ := by decide +kernel
theorem c6_good : goodS c6 := ⟨by decide, by decide⟩
def c7 : List Nat := [45]
theorem c7_eq : (Str.ofString "-") = ⟨c7.toArray⟩ := by decide +kernel
theorem c7_good : goodS c7 := ⟨by decide, by decide⟩
def c8 : List Nat := [32, 40, 41]
theorem c8_eq : (Str.ofString " ()") = ⟨c8.toArray⟩ := by decide +kernel
theorem c8_good : goodS c8 := ⟨by decide, by decide⟩
def c9 : List Nat := [100, 101, 112, 116, 104]
theorem c9_eq : (Str.ofString "depth") = ⟨c9.toArray⟩ := by decide +kernel
theorem c9_good : goodS c9 := ⟨by decide, by decide⟩
def c10 : List Nat := [116, 101, 120, 116]
theorem c10_eq : (Str.ofString "text") = ⟨c10.toArray⟩ := by decide +kernel
theorem c10_good : goodS c10 := ⟨by decide, by decide⟩
def c11 : List Nat := [97, 98, 99, 100, 101, 102, 103, 104, 105, 106, 107, 108, 109, 110, 111, 112, 113, 114, 115, 116, 117, 118, 119, 120, 121, 122, 65, 66, 67, 88, 89, 90, 48, 49, 50, 51, 52, 53, 54, 55, 56, 57, 95, 45, 46, 44, 58, 59, 43, 42, 61, 60, 62, 47, 33, 63, 35, 38, 36, 64, 94, 126, 124]
theorem c11_eq : (Str.ofString "abcdefghijklmnopqrstuvwxyzABCXYZ0123456789_-.,:;+*=<>/!?#&$@^~|") = ⟨c11.toArray⟩ := by decide +kernel
theorem c11_good : goodS c11 := ⟨by decide, by decide⟩
def c12 : List Nat := [110, 111, 110, 101]
theorem c12_eq : (Str.ofString "none") = ⟨c12.toArray⟩ := by decide +kernel
theorem c12_good : goodS c12 := ⟨by decide, by decide⟩
def c13 : List Nat := [45, 46]
theorem c13_eq : (Str.ofString "-.") = ⟨c13.toArray⟩ := by decide +kernel
theorem c13_good : goodS c13 := ⟨by decide, by decide⟩
def c14 : List Nat := [49, 95, 48]
theorem c14_eq : (Str.ofString "1_0") = ⟨c14.toArray⟩ := by decide +kernel
theorem c14_good : goodS c14 := ⟨by decide, by decide⟩
def c15 : List Nat := [45, 49, 97]
theorem c15_eq : (Str.ofString "-1a") = ⟨c15.toArray⟩ := by decide +kernel
theorem c15_good : goodS c15 := ⟨by decide, by decide⟩
def c16 : List Nat := [49, 46]
theorem c16_eq : (Str.ofString "1.") = ⟨c16.toArray⟩ := by decide +kernel
theorem c16_good : goodS c16 := ⟨by decide, by decide⟩
def c17 : List Nat := [46, 46]
theorem c17_eq : (Str.ofString "..") = ⟨c17.toArray⟩ := by decide +kernel
theorem c17_good : goodS c17 := ⟨by decide, by decide⟩
def c18 : List Nat := [48, 120, 49]
theorem c18_eq : (Str.ofString "0x1") = ⟨c18.toArray⟩ := by decide +kernel
theorem c18_good : goodS c18 := ⟨by decide, by decide⟩
def c19 : List Nat := [49, 45]
theorem c19_eq : (Str.ofString "1-") = ⟨c19.toArray⟩ := by decide +kernel
theorem c19_good : goodS c19 := ⟨by decide, by decide⟩
def c20 : List Nat := [43, 49]
theorem c20_eq : (Str.ofString "+1") = ⟨c20.toArray⟩ := by decide +kernel
theorem c20_good : goodS c20 := ⟨by decide, by decide⟩
def c21 : List Nat := [45, 45, 49]
theorem c21_eq : (Str.ofString "--1") = ⟨c21.toArray⟩ := by decide +kernel
theorem c21_good : goodS c21 := ⟨by decide, by decide⟩
def c22 : List Nat := [45, 48, 48]
theorem c22_eq : (Str.ofString "-00") = ⟨c22.toArray⟩ := by decide +kernel
theorem c22_good : goodS c22 := ⟨by decide, by decide⟩
def c23 : List Nat := [48, 48]
theorem c23_eq : (Str.ofString "00") = ⟨c23.toArray⟩ := by decide +kernel
theorem c23_good : goodS c23 := ⟨by decide, by decide⟩
def c24 : List Nat := [45, 48]
theorem c24_eq : (Str.ofString "-0") = ⟨c24.toArray⟩ := by decide +kernel
theorem c24_good : goodS c24 := ⟨by decide, by decide⟩
def c25 : List Nat := [40, 41]
theorem c25_eq : (Str.ofString "()") = ⟨c25.toArray⟩ := by decide +kernel
theorem c25_good : goodS c25 := ⟨by decide, by decide⟩
def c26 : List Nat := [114, 101, 97, 100]
theorem c26_eq : (Str.ofString "read") = ⟨c26.toArray⟩ := by decide +kernel
theorem c26_good : goodS c26 := ⟨by decide, by decide⟩
def c27 : List Nat := [100, 111, 110, 101]
theorem c27_eq : (Str.ofString "done") = ⟨c27.toArray⟩ := by decide +kernel
theorem c27_good : goodS c27 := ⟨by decide, by decide⟩
def c28 : List Nat := [98, 97, 100]
theorem c28_eq : (Str.ofString "bad") = ⟨c28.toArray⟩ := by decide +kernel
theorem c28_good : goodS c28 := ⟨by decide, by decide⟩
def c29 : List Nat := [112, 97, 114, 116]
theorem c29_eq : (Str.ofString "part") = ⟨c29.toArray⟩ := by decide +kernel
theorem c29_good : goodS c29 := ⟨by decide, by decide⟩
def c30 : List Nat := [102, 105, 114, 115, 116]
theorem c30_eq : (Str.ofString "first") = ⟨c30.toArray⟩ := by decide +kernel
theorem c30_good : goodS c30 := ⟨by decide, by decide⟩
def c31 : List Nat := [98, 101, 103, 105, 110]
theorem c31_eq : (Str.ofString "begin") = ⟨c31.toArray⟩ := by decide +kernel
theorem c31_good : goodS c31 := ⟨by decide, by decide⟩
def c32 : List Nat := [100, 101, 101, 112]
theorem c32_eq : (Str.ofString "deep") = ⟨c32.toArray⟩ := by decide +kernel
theorem c32_good : goodS c32 := ⟨by decide, by decide⟩
def c33 : List Nat := [110, 101, 120, 116]
theorem c33_eq : (Str.ofString "next") = ⟨c33.toArray⟩ := by decide +kernel
theorem c33_good : goodS c33 := ⟨by decide, by decide⟩
def c34 : List Nat := [40, 32, 41]
theorem c34_eq : (Str.ofString "( )") = ⟨c34.toArray⟩ := by decide +kernel
theorem c34_good : goodS c34 := ⟨by decide, by decide⟩
def c35 : List Nat := [40, 32, 41, 97, 48, 45, 46]
theorem c35_eq : (Str.ofString "( )a0-.") = ⟨c35.toArray⟩ := by decide +kernel
theorem c35_good : goodS c35 := ⟨by decide, by decide⟩
def c36 : List Nat := [119]
theorem c36_eq : (Str.ofString "w") = ⟨c36.toArray⟩ := by decide +kernel
theorem c36_good : goodS c36 := ⟨by decide, by decide⟩
def c37 : List Nat := [108, 111, 110, 103]
theorem c37_eq : (Str.ofString "long") = ⟨c37.toArray⟩ := by decide +kernel
theorem c37_good : goodS c37 := ⟨by decide, by decide⟩
def c38 : List Nat := [32, 45]
theorem c38_eq : (Str.ofString " -") = ⟨c38.toArray⟩ := by decide +kernel
theorem c38_good : goodS c38 := ⟨by decide, by decide⟩
abbrev s_NotRead_init : Stmt := inClass (top 4) 0
abbrev s_TooLarge_init : Stmt := inClass (top 5) 0
abbrev s_write_state : Stmt := top 8
abbrev s_is_integer : Stmt := top 9
abbrev s_word_value : Stmt := top 10
abbrev s_word_stop : Stmt := top 11
abbrev s_Reading_init : Stmt := inClass (top 12) 0
abbrev s_Reading_fail : Stmt := inClass (top 12) 1
abbrev s_Reading_sign : Stmt := inClass (top 12) 2
abbrev s_Reading_enter : Stmt := inClass (top 12) 3
abbrev s_Reading_part : Stmt := inClass (top 12) 4
abbrev s_read_state : Stmt := top 13
abbrev s__law_begin : Stmt := top 15
abbrev s__law_draw : Stmt := top 16
abbrev s__law_pick : Stmt := top 17
abbrev s__law_is_int : Stmt := top 18
abbrev s__law_figures : Stmt := top 19
abbrev s__law_word : Stmt := top 20
abbrev s__law_meant : Stmt := top 21
abbrev s__law_built : Stmt := top 22
abbrev s__law_deep : Stmt := top 23
abbrev s__law_read : Stmt := top 24
abbrev s__law_same : Stmt := top 25
abbrev s__law_asked : Stmt := top 26
abbrev s__law_right : Stmt := top 27
abbrev s__law_spoilt : Stmt := top 28
abbrev s__law_long : Stmt := top 29
abbrev s__law_long_right : Stmt := top 30
abbrev s_law : Stmt := top 31
theorem sc_write_state : FnScope ["state", "part"] ["state"] (defScope s_write_state) := ⟨rfl, rfl, rfl, by decide +kernel, rfl, by decide +kernel, by decide +kernel⟩
theorem sc_is_integer : FnScope ["word", "digits", "sign"] ["word"] (defScope s_is_integer) := ⟨rfl, rfl, rfl, by decide +kernel, rfl, by decide +kernel, by decide +kernel⟩
theorem sc_word_value : FnScope ["word"] ["word"] (defScope s_word_value) := ⟨rfl, rfl, rfl, by decide +kernel, rfl, by decide +kernel, by decide +kernel⟩
theorem sc_word_stop : FnScope ["text", "at"] ["text", "at"] (defScope s_word_stop) := ⟨rfl, rfl, rfl, by decide +kernel, rfl, by decide +kernel, by decide +kernel⟩
theorem sc_Reading_init : FnScope ["self", "text"] ["self", "text"] (defScope s_Reading_init) := ⟨rfl, rfl, rfl, by decide +kernel, rfl, by decide +kernel, by decide +kernel⟩
theorem sc_Reading_fail : FnScope ["self"] ["self"] (defScope s_Reading_fail) := ⟨rfl, rfl, rfl, by decide +kernel, rfl, by decide +kernel, by decide +kernel⟩
theorem sc_Reading_sign : FnScope ["self"] ["self"] (defScope s_Reading_sign) := ⟨rfl, rfl, rfl, by decide +kernel, rfl, by decide +kernel, by decide +kernel⟩
theorem sc_Reading_enter : FnScope ["self"] ["self"] (defScope s_Reading_enter) := ⟨rfl, rfl, rfl, by decide +kernel, rfl, by decide +kernel, by decide +kernel⟩
theorem sc_Reading_part : FnScope ["self", "stop"] ["self"] (defScope s_Reading_part) := ⟨rfl, rfl, rfl, by decide +kernel, rfl, by decide +kernel, by decide +kernel⟩
theorem sc_read_state : FnScope ["text", "reading", "done"] ["text"] (defScope s_read_state) := ⟨rfl, rfl, rfl, by decide +kernel, rfl, by decide +kernel, by decide +kernel⟩
theorem sc__law_begin : FnScope ["script", "cell"] ["script"] (defScope s__law_begin) := ⟨rfl, rfl, rfl, by decide +kernel, rfl, by decide +kernel, by decide +kernel⟩
theorem sc__law_draw : FnScope ["d", "many", "found", "size", "cell"] ["d", "many"] (defScope s__law_draw) := ⟨rfl, rfl, rfl, by decide +kernel, rfl, by decide +kernel, by decide +kernel⟩
theorem sc__law_pick : FnScope ["d", "row"] ["d", "row"] (defScope s__law_pick) := ⟨rfl, rfl, rfl, by decide +kernel, rfl, by decide +kernel, by decide +kernel⟩
theorem sc__law_is_int : FnScope ["thing"] ["thing"] (defScope s__law_is_int) := ⟨rfl, rfl, rfl, by decide +kernel, rfl, by decide +kernel, by decide +kernel⟩
theorem sc__law_figures : FnScope ["d", "many", "told", "k"] ["d", "many"] (defScope s__law_figures) := ⟨rfl, rfl, rfl, by decide +kernel, rfl, by decide +kernel, by decide +kernel⟩
theorem sc__law_word : FnScope ["d", "way", "signs", "k"] ["d"] (defScope s__law_word) := ⟨rfl, rfl, rfl, by decide +kernel, rfl, by decide +kernel, by decide +kernel⟩
theorem sc__law_meant : FnScope ["word", "digits", "sign"] ["word"] (defScope s__law_meant) := ⟨rfl, rfl, rfl, by decide +kernel, rfl, by decide +kernel, by decide +kernel⟩
theorem sc__law_built : FnScope ["d", "depth", "b", "texts", "things", "k", "told", "thing"] ["d", "depth", "b"] (defScope s__law_built) := ⟨rfl, rfl, rfl, by decide +kernel, rfl, by decide +kernel, by decide +kernel⟩
theorem sc__law_deep : FnScope ["d", "many", "told", "thing", "k", "way", "word"] ["d", "many"] (defScope s__law_deep) := ⟨rfl, rfl, rfl, by decide +kernel, rfl, by decide +kernel, by decide +kernel⟩
theorem sc__law_read : FnScope ["text", "rows", "due", "done", "at", "sign", "stop"] ["text"] (defScope s__law_read) := ⟨rfl, rfl, rfl, by decide +kernel, rfl, by decide +kernel, by decide +kernel⟩
theorem sc__law_same : FnScope ["one", "other", "k"] ["one", "other"] (defScope s__law_same) := ⟨rfl, rfl, rfl, by decide +kernel, rfl, by decide +kernel, by decide +kernel⟩
theorem sc__law_asked : FnScope ["text", "told", "e"] ["text"] (defScope s__law_asked) := ⟨rfl, rfl, rfl, by decide +kernel, rfl, by decide +kernel, by decide +kernel⟩
theorem sc__law_right : FnScope ["text", "due", "told"] ["text"] (defScope s__law_right) := ⟨rfl, rfl, rfl, by decide +kernel, rfl, by decide +kernel, by decide +kernel⟩
theorem sc__law_spoilt : FnScope ["d", "text", "k", "at", "sign", "way"] ["d", "text"] (defScope s__law_spoilt) := ⟨rfl, rfl, rfl, by decide +kernel, rfl, by decide +kernel, by decide +kernel⟩
theorem sc__law_long : FnScope ["d", "many", "words", "left", "k", "size", "word"] ["d", "many"] (defScope s__law_long) := ⟨rfl, rfl, rfl, by decide +kernel, rfl, by decide +kernel, by decide +kernel⟩
theorem sc__law_long_right : FnScope ["d", "text", "thing", "told"] ["d"] (defScope s__law_long_right) := ⟨rfl, rfl, rfl, by decide +kernel, rfl, by decide +kernel, by decide +kernel⟩
theorem sc_law : FnScope ["script", "d", "k", "text", "thing", "more", "many", "number", "told"] ["script"] (defScope s_law) := ⟨rfl, rfl, rfl, by decide +kernel, rfl, by decide +kernel, by decide +kernel⟩
/-- what the written part and the names hold -/
structure Fx (P : Program) (K : PySem.W.Frag) (mg : Str → Option Value) where
  f_NotRead_init : Addr
  fd_NotRead_init : FuncData
  f_TooLarge_init : Addr
  fd_TooLarge_init : FuncData
  f_write_state : Addr
  fd_write_state : FuncData
  f_is_integer : Addr
  fd_is_integer : FuncData
  f_word_value : Addr
  fd_word_value : FuncData
  f_word_stop : Addr
  fd_word_stop : FuncData
  f_Reading_init : Addr
  fd_Reading_init : FuncData
  f_Reading_fail : Addr
  fd_Reading_fail : FuncData
  f_Reading_sign : Addr
  fd_Reading_sign : FuncData
  f_Reading_enter : Addr
  fd_Reading_enter : FuncData
  f_Reading_part : Addr
  fd_Reading_part : FuncData
  f_read_state : Addr
  fd_read_state : FuncData
  f__law_begin : Addr
  fd__law_begin : FuncData
  f__law_draw : Addr
  fd__law_draw : FuncData
  f__law_pick : Addr
  fd__law_pick : FuncData
  f__law_is_int : Addr
  fd__law_is_int : FuncData
  f__law_figures : Addr
  fd__law_figures : FuncData
  f__law_word : Addr
  fd__law_word : FuncData
  f__law_meant : Addr
  fd__law_meant : FuncData
  f__law_built : Addr
  fd__law_built : FuncData
  f__law_deep : Addr
  fd__law_deep : FuncData
  f__law_read : Addr
  fd__law_read : FuncData
  f__law_same : Addr
  fd__law_same : FuncData
  f__law_asked : Addr
  fd__law_asked : FuncData
  f__law_right : Addr
  fd__law_right : FuncData
  f__law_spoilt : Addr
  fd__law_spoilt : FuncData
  f__law_long : Addr
  fd__law_long : FuncData
  f__law_long_right : Addr
  fd__law_long_right : FuncData
  f_law : Addr
  fd_law : FuncData
  a_Reading : Addr
  a_NotRead : Addr
  a_TooLarge : Addr
  a_AskError : Addr
  v_STATE_SIGNS : Value
  v_STATE_DEPTH : Value
  v_DIGITS : Value
  F_NotRead_init : ExD P K a_NotRead "__init__" "NotRead.__init__" s_NotRead_init f_NotRead_init fd_NotRead_init
  b_NotRead_init : Binds K fd_NotRead_init ["self", "line", "column"] []
  F_TooLarge_init : ExD P K a_TooLarge "__init__" "TooLarge.__init__" s_TooLarge_init f_TooLarge_init fd_TooLarge_init
  b_TooLarge_init : Binds K fd_TooLarge_init ["self", "part"] []
  F_write_state : Fun K "write_state" "write_state" s_write_state f_write_state fd_write_state
  b_write_state : Binds K fd_write_state ["state"] []
  g_write_state : mg "write_state" = some (.ref f_write_state)
  F_is_integer : Fun K "is_integer" "is_integer" s_is_integer f_is_integer fd_is_integer
  b_is_integer : Binds K fd_is_integer ["word"] []
  g_is_integer : mg "is_integer" = some (.ref f_is_integer)
  F_word_value : Fun K "word_value" "word_value" s_word_value f_word_value fd_word_value
  b_word_value : Binds K fd_word_value ["word"] []
  g_word_value : mg "word_value" = some (.ref f_word_value)
  F_word_stop : Fun K "word_stop" "word_stop" s_word_stop f_word_stop fd_word_stop
  b_word_stop : Binds K fd_word_stop ["text", "at"] []
  g_word_stop : mg "word_stop" = some (.ref f_word_stop)
  F_Reading_init : Fun K "__init__" "Reading.__init__" s_Reading_init f_Reading_init fd_Reading_init
  b_Reading_init : Binds K fd_Reading_init ["self", "text"] []
  F_Reading_fail : Fun K "fail" "Reading.fail" s_Reading_fail f_Reading_fail fd_Reading_fail
  b_Reading_fail : Binds K fd_Reading_fail ["self"] []
  F_Reading_sign : Fun K "sign" "Reading.sign" s_Reading_sign f_Reading_sign fd_Reading_sign
  b_Reading_sign : Binds K fd_Reading_sign ["self"] []
  F_Reading_enter : Fun K "enter" "Reading.enter" s_Reading_enter f_Reading_enter fd_Reading_enter
  b_Reading_enter : Binds K fd_Reading_enter ["self"] []
  F_Reading_part : Fun K "part" "Reading.part" s_Reading_part f_Reading_part fd_Reading_part
  b_Reading_part : Binds K fd_Reading_part ["self"] []
  F_read_state : Fun K "read_state" "read_state" s_read_state f_read_state fd_read_state
  b_read_state : Binds K fd_read_state ["text"] []
  g_read_state : mg "read_state" = some (.ref f_read_state)
  F__law_begin : Fun K "_law_begin" "_law_begin" s__law_begin f__law_begin fd__law_begin
  b__law_begin : Binds K fd__law_begin ["script"] []
  g__law_begin : mg "_law_begin" = some (.ref f__law_begin)
  F__law_draw : Fun K "_law_draw" "_law_draw" s__law_draw f__law_draw fd__law_draw
  b__law_draw : Binds K fd__law_draw ["d", "many"] []
  g__law_draw : mg "_law_draw" = some (.ref f__law_draw)
  F__law_pick : Fun K "_law_pick" "_law_pick" s__law_pick f__law_pick fd__law_pick
  b__law_pick : Binds K fd__law_pick ["d", "row"] []
  g__law_pick : mg "_law_pick" = some (.ref f__law_pick)
  F__law_is_int : Fun K "_law_is_int" "_law_is_int" s__law_is_int f__law_is_int fd__law_is_int
  b__law_is_int : Binds K fd__law_is_int ["thing"] []
  g__law_is_int : mg "_law_is_int" = some (.ref f__law_is_int)
  F__law_figures : Fun K "_law_figures" "_law_figures" s__law_figures f__law_figures fd__law_figures
  b__law_figures : Binds K fd__law_figures ["d", "many"] []
  g__law_figures : mg "_law_figures" = some (.ref f__law_figures)
  F__law_word : Fun K "_law_word" "_law_word" s__law_word f__law_word fd__law_word
  b__law_word : Binds K fd__law_word ["d"] []
  g__law_word : mg "_law_word" = some (.ref f__law_word)
  F__law_meant : Fun K "_law_meant" "_law_meant" s__law_meant f__law_meant fd__law_meant
  b__law_meant : Binds K fd__law_meant ["word"] []
  g__law_meant : mg "_law_meant" = some (.ref f__law_meant)
  F__law_built : Fun K "_law_built" "_law_built" s__law_built f__law_built fd__law_built
  b__law_built : Binds K fd__law_built ["d", "depth", "b"] []
  g__law_built : mg "_law_built" = some (.ref f__law_built)
  F__law_deep : Fun K "_law_deep" "_law_deep" s__law_deep f__law_deep fd__law_deep
  b__law_deep : Binds K fd__law_deep ["d", "many"] []
  g__law_deep : mg "_law_deep" = some (.ref f__law_deep)
  F__law_read : Fun K "_law_read" "_law_read" s__law_read f__law_read fd__law_read
  b__law_read : Binds K fd__law_read ["text"] []
  g__law_read : mg "_law_read" = some (.ref f__law_read)
  F__law_same : Fun K "_law_same" "_law_same" s__law_same f__law_same fd__law_same
  b__law_same : Binds K fd__law_same ["one", "other"] []
  g__law_same : mg "_law_same" = some (.ref f__law_same)
  F__law_asked : Fun K "_law_asked" "_law_asked" s__law_asked f__law_asked fd__law_asked
  b__law_asked : Binds K fd__law_asked ["text"] []
  g__law_asked : mg "_law_asked" = some (.ref f__law_asked)
  F__law_right : Fun K "_law_right" "_law_right" s__law_right f__law_right fd__law_right
  b__law_right : Binds K fd__law_right ["text"] []
  g__law_right : mg "_law_right" = some (.ref f__law_right)
  F__law_spoilt : Fun K "_law_spoilt" "_law_spoilt" s__law_spoilt f__law_spoilt fd__law_spoilt
  b__law_spoilt : Binds K fd__law_spoilt ["d", "text"] []
  g__law_spoilt : mg "_law_spoilt" = some (.ref f__law_spoilt)
  F__law_long : Fun K "_law_long" "_law_long" s__law_long f__law_long fd__law_long
  b__law_long : Binds K fd__law_long ["d", "many"] []
  g__law_long : mg "_law_long" = some (.ref f__law_long)
  F__law_long_right : Fun K "_law_long_right" "_law_long_right" s__law_long_right f__law_long_right fd__law_long_right
  b__law_long_right : Binds K fd__law_long_right ["d"] []
  g__law_long_right : mg "_law_long_right" = some (.ref f__law_long_right)
  F_law : Fun K "law" "law" s_law f_law fd_law
  b_law : Binds K fd_law ["script"] []
  g_law : mg "law" = some (.ref f_law)
  g_Reading : mg "Reading" = some (.ref a_Reading)
  cl_Reading : Cls K a_Reading
  mk_Reading : Mk K a_Reading f_Reading_init
  no_Reading_text : NoAttr K a_Reading "text"
  no_Reading_at : NoAttr K a_Reading "at"
  no_Reading_opened : NoAttr K a_Reading "opened"
  no_Reading_fresh : NoAttr K a_Reading "fresh"
  me_Reading_fail : Meth K a_Reading "fail" f_Reading_fail
  me_Reading_sign : Meth K a_Reading "sign" f_Reading_sign
  me_Reading_enter : Meth K a_Reading "enter" f_Reading_enter
  me_Reading_part : Meth K a_Reading "part" f_Reading_part
  g_NotRead : mg "NotRead" = some (.ref a_NotRead)
  oex_NotRead : OexC K a_NotRead
  ini_NotRead : PySem.W.findIn K (.ref a_NotRead) "__init__" = some (some (.ref f_NotRead_init))
  ity_NotRead : PySem.W.typeIn K (.ref f_NotRead_init) = some (.type "function")
  xno_NotRead_line : PySem.W.findIn K (.ref a_NotRead) "line" = some none
  xno_NotRead_column : PySem.W.findIn K (.ref a_NotRead) "column" = some none
  g_TooLarge : mg "TooLarge" = some (.ref a_TooLarge)
  oex_TooLarge : OexC K a_TooLarge
  ini_TooLarge : PySem.W.findIn K (.ref a_TooLarge) "__init__" = some (some (.ref f_TooLarge_init))
  ity_TooLarge : PySem.W.typeIn K (.ref f_TooLarge_init) = some (.type "function")
  xno_TooLarge_part : PySem.W.findIn K (.ref a_TooLarge) "part" = some none
  g_AskError : mg "AskError" = some (.ref a_AskError)
  g_STATE_SIGNS : True ∧ mg "STATE_SIGNS" = some v_STATE_SIGNS
  r_STATE_SIGNS : RelV (.int 100000) v_STATE_SIGNS
  g_STATE_DEPTH : True ∧ mg "STATE_DEPTH" = some v_STATE_DEPTH
  r_STATE_DEPTH : RelV (.int 12) v_STATE_DEPTH
  g_DIGITS : True ∧ mg "DIGITS" = some v_DIGITS
  r_DIGITS : RelV (.str (Str.ofString "0123456789")) v_DIGITS
  n_abs : mg "abs" = none
  n_all : mg "all" = none
  n_bool : mg "bool" = none
  n_int : mg "int" = none
  n_isinstance : mg "isinstance" = none
  n_len : mg "len" = none
  n_range : mg "range" = none
  n_str : mg "str" = none
  n_super : mg "super" = none
  n_tuple : mg "tuple" = none
  ba_law : ∀ (s : Shared) (v : Value), BindsTo s fd_law ⟨[v], []⟩ [("script", v)]
  xc_NotRead : ExcC K a_NotRead
  xc_TooLarge : ExcC K a_TooLarge
  xf_NotRead : XfC K a_NotRead
  xf_TooLarge : XfC K a_TooLarge
  ex00 : PySem.W.exmOne K (.ref a_NotRead) (.ref a_NotRead) = some true
  ex10 : PySem.W.exmOne K (.ref a_TooLarge) (.ref a_NotRead) = some false
  ex11 : PySem.W.exmOne K (.ref a_TooLarge) (.ref a_TooLarge) = some true
  k01 : PySem.W.kitOne K (.ref a_NotRead) (.ref a_TooLarge) = some false
  k12 : PySem.W.kitOne K (.ref a_TooLarge) (.ref a_AskError) = some true
section
variable {P : Program} {w : World} {K : PySem.W.Frag} {mg : Str → Option Value} {base : Heap}
abbrev Fx.cl (T : Fx P K mg) : Nat → Addr := fun c => match c with
  | 0 => T.a_Reading
  | _ => 0
abbrev Fx.xl (T : Fx P K mg) : Nat → Addr := fun c => match c with
  | 0 => T.a_NotRead
  | 1 => T.a_TooLarge
  | 2 => T.a_AskError
  | _ => 0
abbrev Fx.Z (T : Fx P K mg) : Zc := ⟨K, T.cl, T.xl⟩
theorem sc_NotRead_init : NdefX.NScope ["self", "line", "column", "__class__"] ["self", "line", "column"] ["__class__"] (defScope s_NotRead_init) := NdefX.nscope_by (by decide +kernel)
/-- a message can be made of these -/
def okNR : List MV → Bool
  | [.int l, .int c] => decide (l.natAbs.log2 < 1920 ∧ c.natAbs.log2 < 1920 ∧ (strI l).length ≤ 10000 ∧ (strI c).length ≤ 10000)
  | _ => false
abbrev rAS : L2.R2 := fun x y H Q => ∃ i j, x = .str i ∧ y = .str j ∧ i.length + j.length ≤ sizeLine ∧ Q (.str (i ++ j)) H
abbrev rSI : List V → Hp → VK → Prop := fun xs H Q => ∃ i, xs = [.int i] ∧ i.natAbs.log2 < 1920 ∧ Q (.str (toString i)) H
def teNR : TE := tOp rAS (tOp rAS (tOp rAS (tC (.str "the text is not read beyond line ")) (tCB rSI (tCons (tVar 1) tNil))) (tC (.str ", column "))) (tCB rSI (tCons (tVar 2) tNil))
theorem len_strI (i : Int) : (((toString i : String) : Str)).length = (strI i).length := by
  rw [strI_str]
  simp [Str.length]
theorem len_app (a b : Str) : (a ++ b).length = a.length + b.length := by
  show (Str.append a b).length = _
  simp [Str.append, Str.length]
theorem ok_NotRead_init (T : Fx P K mg) : FnOk P w K mg base (L2.CX P w) 1 T.f_NotRead_init T.fd_NotRead_init ["self", "line", "column"] (spXI T.Z 0 ["line", "column"] okNR) := by
  refine fn_ex2 (te := teNR) (k := 0) (xl := T.xl) (cl := T.cl) (c := 0) T.F_NotRead_init sc_NotRead_init rfl rfl rfl rfl rfl (by decide) (by decide) rfl (by decide) (by decide) rfl T.xno_NotRead_line T.xno_NotRead_column (fun G A outer s H E hG => ?_) (fun ρ H xs ws a Q r hl hok q => ?_)
  · have hg : Gl (NdefX.ncx (L2.CX P w) P w K mg base ["self", "line", "column", "__class__"] G T.f_NotRead_init A outer s H E) "str" := by
      show G.scope.names.lookup _ = _
      rw [hG]
      rfl
    have v1 : Vis G.scope "line" := Or.inl (by rw [hG]; rfl)
    have v2 : Vis G.scope "column" := Or.inl (by rw [hG]; rfl)
    exact pe_op op_add_str (pe_op op_add_str (pe_op op_add_str pe_str (pe_callTy call_str_int hg T.n_str PyProof.Rows.Boot.«str» (pa_cons (pv 1 rfl v1) pa_nil))) pe_str) (pe_callTy call_str_int hg T.n_str PyProof.Rows.Boot.«str» (pa_cons (pv 2 rfl v2) pa_nil))
  · match xs, hl, hok with
    | [.int l, .int c], _, hok =>
      obtain ⟨_, _, rfl, rfl, _, _, rfl, rfl, rfl⟩ := r
      obtain ⟨h1, h2, h3, h4⟩ := of_decide_eq_true (p := l.natAbs.log2 < 1920 ∧ c.natAbs.log2 < 1920 ∧ (strI l).length ≤ 10000 ∧ (strI c).length ≤ 10000) hok
      refine ⟨_, rfl, l, rfl, h1, _, _, rfl, rfl, ?_, _, _, rfl, rfl, ?_, _, rfl, c, rfl, h2, _, _, rfl, rfl, ?_, q _⟩
      · rw [len_strI, sizeL, show (Str.ofString "the text is not read beyond line ").length = 33 from by decide +kernel]
        omega
      · rw [len_app, len_strI, sizeL, show (Str.ofString "the text is not read beyond line ").length = 33 from by decide +kernel, show (Str.ofString ", column ").length = 9 from by decide +kernel]
        omega
      · rw [len_app, len_app, len_strI, len_strI, sizeL, show (Str.ofString "the text is not read beyond line ").length = 33 from by decide +kernel, show (Str.ofString ", column ").length = 9 from by decide +kernel]
        omega
theorem sc_TooLarge_init : NdefX.NScope ["self", "part", "__class__"] ["self", "part"] ["__class__"] (defScope s_TooLarge_init) := NdefX.nscope_by (by decide +kernel)
def okTL : List MV → Bool
  | [.str s] => decide (s.length ≤ 10000)
  | _ => false
theorem ok_TooLarge_init (T : Fx P K mg) : FnOk P w K mg base (L2.CX P w) 1 T.f_TooLarge_init T.fd_TooLarge_init ["self", "part"] (spXI T.Z 1 ["part"] okTL) := by
  refine fn_ex1 (te := tOp rAS (tC (.str "too large: ")) (tVar 1)) (k := 0) (xl := T.xl) (cl := T.cl) (c := 1) T.F_TooLarge_init sc_TooLarge_init rfl rfl rfl rfl rfl (by decide) (by decide) rfl T.xno_TooLarge_part (fun G A outer s H E hG => ?_) (fun ρ H xs ws a Q r hl hok q => ?_)
  · have v1 : Vis G.scope "part" := Or.inl (by rw [hG]; rfl)
    exact pe_op op_add_str pe_str (pv 1 rfl v1)
  · match xs, hl, hok with
    | [.str s], _, hok =>
      obtain ⟨_, _, rfl, ⟨rfl, hg⟩, rfl⟩ := r
      have h1 : s.length ≤ 10000 := of_decide_eq_true hok
      refine ⟨_, rfl, _, _, rfl, rfl, ?_, q _⟩
      have e : (⟨s.toArray⟩ : Str).length = s.length := by simp [Str.length]
      rw [e, sizeL, show (Str.ofString "too large: ").length = 11 from by decide +kernel]
      omega
noncomputable def D_write_state : Nat → List MV → M MV
  | 0 => fun _ _ => .fail
  | n + 1 => mRun 2 (sSeq (sIf (mAsB (mB (mIsi "tuple" (mVar 0)))) (sRet (mOp mAdd (mOp mAdd (mC (.str c2)) (mMt isS mJoin (mC (.str c3)) [mLc (iSeq (mVar 0)) (tgName 1) (tYes1) (mCall (D_write_state n) [mVar 1]) [1]])) (mC (.str c4)))) (sNop)) (sSeq (sIf (mCmp gEq (mVar 0) (mC (.str c0))) (sRet (mC (.str c1))) (sNop)) (sRet (mCallG mStr [mVar 0]))))
theorem ok_write_state (T : Fx P K mg) : ∀ n : Nat, FnOk P w K mg base (L2.CX P w) (0 + n) T.f_write_state T.fd_write_state ["state"] (spOf T.Z (D_write_state n) 1)
  | 0 => fn_zero (ps := ["state"]) fun _ _ => rfl
  | n + 1 => by
    have ih := ok_write_state T n
    have S := sc_write_state
    refine fn_body (k := 0 + n) T.F_write_state S (fun cdv A outer s H E hr => ?_)
    have tk := takes_of (X := cxOf (L2.CX P w) P w K mg base ["state", "part"] "write_state" (defScope s_write_state) T.f_write_state cdv A outer s H E) rfl rfl rfl rfl
    have hp := passes_of (X := cxOf (L2.CX P w) P w K mg base ["state", "part"] "write_state" (defScope s_write_state) T.f_write_state cdv A outer s H E) rfl
    exact ss_cons (s_if (t_val (m_isi (T := "tuple") (mv 0) (by rfl) T.n_isinstance (by rfl) T.n_tuple PyProof.Rows.Boot.«tuple» (by decide))) (ss_one (s_ret (m_op op_addX sim_add (m_op op_addX sim_add (m_str c2 c2_eq c2_good) (m_bm sim_join F.plainAttrs_str F.slot_str_join F.type_str_join mt_join (m_str c3 c3_eq c3_good) (a_cons (m_lc rfl S.nd (i_seq (mv 0)) (own := [("part", 1)]) (show blkC ["state", "part"] (defScope s_write_state) _ [("part", 1)] = true from by decide +kernel) (fun _ _ _ _ _ => gw_name (i := 1) S.nd) (fun _ _ _ _ _ => ts_nil) (fun _ _ _ _ _ => m_call ih takes0 (hr.mono (by first | decide | omega)) (by rfl) T.g_write_state T.F_write_state.kp T.b_write_state (a_cons (mv 1) (a_nil)))) (a_nil)))) (m_str c4 c4_eq c4_good)))) (ss_nil))
      (ss_cons (s_if (t_cmp (op_eqD (huR hr)) sim_eq (mv 0) (m_str c0 c0_eq c0_good) rfl) (ss_one (s_ret (m_str c1 c1_eq c1_good))) (ss_nil))
      (ss_one (s_ret (m_callTy sim_str call_strX (by rfl) T.n_str PyProof.Rows.Boot.«str» (a_cons (mv 0) (a_nil))))))
noncomputable def D_is_integer : List MV → M MV := mRun 3 (sSeq (sSet 1 (mVar 0)) (sSeq (sIf (mCmp gEq (mIx (mVar 0) (mC (.int 0))) (mC (.str c7))) (sSet 1 (mSlice (mVar 0) (mPart (mC (.int 1))) mNoPart)) (sNop)) (sSeq (sIf (tOr2 (mCmp gEq (mVar 1) (mC (.str c0))) (tOr2 (mCmp (gI fun i j => decide (j < i)) (mCallG mLen [mVar 1]) (mC (.int 9))) (tNot1 (mAsB (mCallG mAll [mLc (iSeq (mVar 1)) (tgName 2) (tYes1) (mB (mCmp (gInX false) (mVar 2) (mC (.str c6)))) [2]]))))) (sRet (mC (.bl false))) (sNop)) (sRet (mOrV (mCmp gNe (mIx (mVar 1) (mC (.int 0))) (mC (.str c5))) (mB (mCmp gEq (mVar 0) (mC (.str c5)))))))))
theorem ok_is_integer (T : Fx P K mg) : FnOk P w K mg base (L2.CX P w) 1 T.f_is_integer T.fd_is_integer ["word"] (spOf T.Z D_is_integer 1) := by
  have S := sc_is_integer
  refine fn_body (k := 0) T.F_is_integer S (fun cdv A outer s H E hr => ?_)
  have tk := takes_of (X := cxOf (L2.CX P w) P w K mg base ["word", "digits", "sign"] "is_integer" (defScope s_is_integer) T.f_is_integer cdv A outer s H E) rfl rfl rfl rfl
  have hp := passes_of (X := cxOf (L2.CX P w) P w K mg base ["word", "digits", "sign"] "is_integer" (defScope s_is_integer) T.f_is_integer cdv A outer s H E) rfl
  exact ss_cons (s_set (i := 1) (mv 0) S.nd)
      (ss_cons (s_if (t_cmp (op_eqD (huR hr)) sim_eq (m_ix (mv 0) (m_int)) (m_str c7 c7_eq c7_good) rfl) (ss_one (s_set (i := 1) (m_slice (mv 0) (p_some (m_int)) p_none) S.nd)) (ss_nil))
      (ss_cons (s_if (PW.pt (t_or (t_cmp (op_eqD (huR hr)) sim_eq (mv 1) (m_str c0 c0_eq c0_good) rfl) (t_or (t_cmp op_gt sim_I (m_callB sim_len call_lenX (by rfl) T.n_len PyProof.Rows.Boot.«len» (a_cons (mv 1) (a_nil))) (m_int) rfl) (t_or1 (t_not (t_val (m_callB sim_all (cr_all rfl) (by rfl) T.n_all PyProof.Rows.Boot.«all» (a_cons (m_lc rfl S.nd (i_seq (mv 1)) (own := [("sign", 2)]) (show blkC ["word", "digits", "sign"] (defScope s_is_integer) _ [("sign", 2)] = true from by decide +kernel) (fun _ _ _ _ _ => gw_name (i := 2) S.nd) (fun _ _ _ _ _ => ts_nil) (fun _ _ _ _ _ => m_cmp op_inX sim_in (mv 2) (m_glob (by rfl) T.g_DIGITS.2 T.r_DIGITS (fun _ _ => rv_str c6_eq c6_good)) rfl)) (a_nil))))))))) (ss_one (s_ret (m_bl))) (ss_nil))
      (ss_one (s_ret (m_or (m_cmp (op_neD (huR hr)) sim_ne (m_ix (mv 1) (m_int)) (m_str c5 c5_eq c5_good) rfl) (m_and1 (m_cmp (op_eqD (huR hr)) sim_eq (mv 0) (m_str c5 c5_eq c5_good) rfl)))))))
noncomputable def D_word_value : List MV → M MV := mRun 1 (sSeq (sIf (mCmp gEq (mVar 0) (mC (.str c1))) (sRet (mC (.str c0))) (sNop)) (sSeq (sIf (mAsB (mCall D_is_integer [mVar 0])) (sRet (mCallG mInt [mVar 0])) (sNop)) (sRet (mVar 0))))
theorem ok_word_value (T : Fx P K mg) : FnOk P w K mg base (L2.CX P w) 2 T.f_word_value T.fd_word_value ["word"] (spOf T.Z D_word_value 1) := by
  have S := sc_word_value
  refine fn_body (k := 1) T.F_word_value S (fun cdv A outer s H E hr => ?_)
  have tk := takes_of (X := cxOf (L2.CX P w) P w K mg base ["word"] "word_value" (defScope s_word_value) T.f_word_value cdv A outer s H E) rfl rfl rfl rfl
  have hp := passes_of (X := cxOf (L2.CX P w) P w K mg base ["word"] "word_value" (defScope s_word_value) T.f_word_value cdv A outer s H E) rfl
  exact ss_cons (s_if (t_cmp (op_eqD (huR hr)) sim_eq (mv 0) (m_str c1 c1_eq c1_good) rfl) (ss_one (s_ret (m_str c0 c0_eq c0_good))) (ss_nil))
      (ss_cons (s_if (t_val (m_call (ok_is_integer T) tk (hr.mono (by first | decide | omega)) (by rfl) T.g_is_integer T.F_is_integer.kp T.b_is_integer (a_cons (mv 0) (a_nil)))) (ss_one (s_ret (m_callTy sim_int_ call_intX (by rfl) T.n_int PyProof.Rows.Boot.«int» (a_cons (mv 0) (a_nil))))) (ss_nil))
      (ss_one (s_ret (mv 0))))
noncomputable def D_word_stop : List MV → M MV := mRun 2 (sSeq (sWhile (tAnd2 (mCmp (gI fun i j => decide (i < j)) (mVar 1) (mCallG mLen [mVar 0])) (mCmp (gInX true) (mIx (mVar 0) (mVar 1)) (mC (.str c8)))) (sAug (fun i j => i + j) 1 (mC (.int 1)))) (sRet (mVar 1)))
theorem ok_word_stop (T : Fx P K mg) : FnOk P w K mg base (L2.CX P w) 1 T.f_word_stop T.fd_word_stop ["text", "at"] (spOf T.Z D_word_stop 2) := by
  have S := sc_word_stop
  refine fn_body (k := 0) T.F_word_stop S (fun cdv A outer s H E hr => ?_)
  have tk := takes_of (X := cxOf (L2.CX P w) P w K mg base ["text", "at"] "word_stop" (defScope s_word_stop) T.f_word_stop cdv A outer s H E) rfl rfl rfl rfl
  have hp := passes_of (X := cxOf (L2.CX P w) P w K mg base ["text", "at"] "word_stop" (defScope s_word_stop) T.f_word_stop cdv A outer s H E) rfl
  exact ss_cons (s_while hp (PW.pt (t_and (t_cmp op_lt sim_I (mv 1) (m_callB sim_len call_lenX (by rfl) T.n_len PyProof.Rows.Boot.«len» (a_cons (mv 0) (a_nil))) rfl) (t_and1 (t_cmp op_notInX sim_in (m_ix (mv 0) (mv 1)) (m_str c8 c8_eq c8_good) rfl)))) (ss_one (s_aug (i := 1) ip_add (m_int) S.nd)))
      (ss_one (s_ret (mv 1)))
noncomputable def D_Reading_init : List MV → M MV := mRun 2 (sSeq (sFld 0 "text" (mVar 0) (mVar 1)) (sSeq (sFld 0 "at" (mVar 0) (mC (.int 0))) (sSeq (sFld 0 "opened" (mVar 0) (mLst [])) (sFld 0 "fresh" (mVar 0) (mC (.bl true))))))
theorem ok_Reading_init (T : Fx P K mg) : FnOk P w K mg base (L2.CX P w) 1 T.f_Reading_init T.fd_Reading_init ["self", "text"] (spOf T.Z D_Reading_init 2) := by
  have S := sc_Reading_init
  refine fn_body (k := 0) T.F_Reading_init S (fun cdv A outer s H E hr => ?_)
  have tk := takes_of (X := cxOf (L2.CX P w) P w K mg base ["self", "text"] "Reading.__init__" (defScope s_Reading_init) T.f_Reading_init cdv A outer s H E) rfl rfl rfl rfl
  have hp := passes_of (X := cxOf (L2.CX P w) P w K mg base ["self", "text"] "Reading.__init__" (defScope s_Reading_init) T.f_Reading_init cdv A outer s H E) rfl
  exact ss_cons (s_fld (c := 0) T.cl_Reading T.no_Reading_text (mv 0) (mv 1))
      (ss_cons (s_fld (c := 0) T.cl_Reading T.no_Reading_at (mv 0) (m_int))
      (ss_cons (s_fld (c := 0) T.cl_Reading T.no_Reading_opened (mv 0) (m_lst (a_nil)))
      (ss_one (s_fld (c := 0) T.cl_Reading T.no_Reading_fresh (mv 0) (m_bl)))))
noncomputable def D_Reading_fail : List MV → M MV := mRun 1 (sRaise 0 ["line", "column"] okNR [mC (.int 1), mOp mAdd (mFld 0 "at" (mVar 0)) (mC (.int 1))])
theorem ok_Reading_fail (T : Fx P K mg) : FnOk P w K mg base (L2.CX P w) 3 T.f_Reading_fail T.fd_Reading_fail ["self"] (spOf T.Z D_Reading_fail 1) := by
  have S := sc_Reading_fail
  refine fn_body (k := 2) T.F_Reading_fail S (fun cdv A outer s H E hr => ?_)
  have tk := takes_of (X := cxOf (L2.CX P w) P w K mg base ["self"] "Reading.fail" (defScope s_Reading_fail) T.f_Reading_fail cdv A outer s H E) rfl rfl rfl rfl
  have hp := passes_of (X := cxOf (L2.CX P w) P w K mg base ["self"] "Reading.fail" (defScope s_Reading_fail) T.f_Reading_fail cdv A outer s H E) rfl
  exact ss_one (s_raise (c := 0) rfl tk T.oex_NotRead T.ini_NotRead T.ity_NotRead (ok_NotRead_init T) (hr.mono (by first | decide | omega)) T.b_NotRead_init (by rfl) T.g_NotRead (by rfl) (by decide) (a_cons (m_int) (a_cons (m_op op_addX sim_add (m_fld (c := 0) T.cl_Reading T.no_Reading_at (mv 0)) (m_int)) (a_nil))))
noncomputable def D_Reading_sign : List MV → M MV := mRun 1 (sRet (mSlice (mFld 0 "text" (mVar 0)) (mPart (mFld 0 "at" (mVar 0))) (mPart (mOp mAdd (mFld 0 "at" (mVar 0)) (mC (.int 1))))))
theorem ok_Reading_sign (T : Fx P K mg) : FnOk P w K mg base (L2.CX P w) 1 T.f_Reading_sign T.fd_Reading_sign ["self"] (spOf T.Z D_Reading_sign 1) := by
  have S := sc_Reading_sign
  refine fn_body (k := 0) T.F_Reading_sign S (fun cdv A outer s H E hr => ?_)
  have tk := takes_of (X := cxOf (L2.CX P w) P w K mg base ["self"] "Reading.sign" (defScope s_Reading_sign) T.f_Reading_sign cdv A outer s H E) rfl rfl rfl rfl
  have hp := passes_of (X := cxOf (L2.CX P w) P w K mg base ["self"] "Reading.sign" (defScope s_Reading_sign) T.f_Reading_sign cdv A outer s H E) rfl
  exact ss_one (s_ret (m_slice (m_fld (c := 0) T.cl_Reading T.no_Reading_text (mv 0)) (p_some (m_fld (c := 0) T.cl_Reading T.no_Reading_at (mv 0))) (p_some (m_op op_addX sim_add (m_fld (c := 0) T.cl_Reading T.no_Reading_at (mv 0)) (m_int)))))
noncomputable def D_Reading_enter : List MV → M MV := mRun 1 (sSeq (sIf (mCmp (gI fun i j => decide (j ≤ i)) (mCallG mLen [mFld 0 "opened" (mVar 0)]) (mC (.int 12))) (sRaise 1 ["part"] okTL [mC (.str c9)]) (sNop)) (sSeq (sExpr (mMt isL mAppend (mFld 0 "opened" (mVar 0)) [mLst []])) (sSeq (sFldAdd 0 "at" (mVar 0) (mC (.int 1))) (sFld 0 "fresh" (mVar 0) (mC (.bl true))))))
theorem ok_Reading_enter (T : Fx P K mg) : FnOk P w K mg base (L2.CX P w) 3 T.f_Reading_enter T.fd_Reading_enter ["self"] (spOf T.Z D_Reading_enter 1) := by
  have S := sc_Reading_enter
  refine fn_body (k := 2) T.F_Reading_enter S (fun cdv A outer s H E hr => ?_)
  have tk := takes_of (X := cxOf (L2.CX P w) P w K mg base ["self"] "Reading.enter" (defScope s_Reading_enter) T.f_Reading_enter cdv A outer s H E) rfl rfl rfl rfl
  have hp := passes_of (X := cxOf (L2.CX P w) P w K mg base ["self"] "Reading.enter" (defScope s_Reading_enter) T.f_Reading_enter cdv A outer s H E) rfl
  exact ss_cons (s_if (t_cmp op_ge sim_I (m_callB sim_len call_lenX (by rfl) T.n_len PyProof.Rows.Boot.«len» (a_cons (m_fld (c := 0) T.cl_Reading T.no_Reading_opened (mv 0)) (a_nil))) (m_glob (by rfl) T.g_STATE_DEPTH.2 T.r_STATE_DEPTH (fun _ _ => rfl)) rfl) (ss_one (s_raise (c := 1) rfl tk T.oex_TooLarge T.ini_TooLarge T.ity_TooLarge (ok_TooLarge_init T) (hr.mono (by first | decide | omega)) T.b_TooLarge_init (by rfl) T.g_TooLarge (by rfl) (by decide) (a_cons (m_str c9 c9_eq c9_good) (a_nil)))) (ss_nil))
      (ss_cons (s_expr (m_bm sim_append F.plainAttrs_list F.slot_list_append F.type_list_append mt_append (m_fld (c := 0) T.cl_Reading T.no_Reading_opened (mv 0)) (a_cons (m_lst (a_nil)) (a_nil))))
      (ss_cons (s_fldAdd (c := 0) T.cl_Reading T.no_Reading_at (mv 0) (m_int))
      (ss_one (s_fld (c := 0) T.cl_Reading T.no_Reading_fresh (mv 0) (m_bl)))))
noncomputable def D_Reading_part : List MV → M MV := mRun 2 (sSeq (sIf (mCmp gEq (mMeth 0 "sign" D_Reading_sign (mVar 0) []) (mC (.str c2))) (sSeq (sExpr (mMeth 0 "enter" D_Reading_enter (mVar 0) [])) (sRetN)) (sNop)) (sSeq (sSet 1 (mCall D_word_stop [mFld 0 "text" (mVar 0), mFld 0 "at" (mVar 0)])) (sSeq (sIf (mCmp gEq (mVar 1) (mFld 0 "at" (mVar 0))) (sExpr (mMeth 0 "fail" D_Reading_fail (mVar 0) [])) (sNop)) (sSeq (sExpr (mMt isL mAppend (mIx (mFld 0 "opened" (mVar 0)) (mNeg (mC (.int 1)))) [mCall D_word_value [mSlice (mFld 0 "text" (mVar 0)) (mPart (mFld 0 "at" (mVar 0))) (mPart (mVar 1))]])) (sSeq (sFld 0 "at" (mVar 0) (mVar 1)) (sFld 0 "fresh" (mVar 0) (mC (.bl false))))))))
theorem ok_Reading_part (T : Fx P K mg) : FnOk P w K mg base (L2.CX P w) 4 T.f_Reading_part T.fd_Reading_part ["self"] (spOf T.Z D_Reading_part 1) := by
  have S := sc_Reading_part
  refine fn_body (k := 3) T.F_Reading_part S (fun cdv A outer s H E hr => ?_)
  have tk := takes_of (X := cxOf (L2.CX P w) P w K mg base ["self", "stop"] "Reading.part" (defScope s_Reading_part) T.f_Reading_part cdv A outer s H E) rfl rfl rfl rfl
  have hp := passes_of (X := cxOf (L2.CX P w) P w K mg base ["self", "stop"] "Reading.part" (defScope s_Reading_part) T.f_Reading_part cdv A outer s H E) rfl
  exact ss_cons (s_if (t_cmp (op_eqD (huR hr)) sim_eq (m_meth0 (c := 0) (fun _ _ _ _ _ h => h) T.cl_Reading T.me_Reading_sign (ok_Reading_sign T) tk (hr.mono (by first | decide | omega)) T.b_Reading_sign (mv 0)) (m_str c2 c2_eq c2_good) rfl) (ss_cons (s_expr (m_meth0 (c := 0) (fun _ _ _ _ _ h => h) T.cl_Reading T.me_Reading_enter (ok_Reading_enter T) tk (hr.mono (by first | decide | omega)) T.b_Reading_enter (mv 0)))
      (ss_one (s_retN))) (ss_nil))
      (ss_cons (s_set (i := 1) (m_call (ok_word_stop T) tk (hr.mono (by first | decide | omega)) (by rfl) T.g_word_stop T.F_word_stop.kp T.b_word_stop (a_cons (m_fld (c := 0) T.cl_Reading T.no_Reading_text (mv 0)) (a_cons (m_fld (c := 0) T.cl_Reading T.no_Reading_at (mv 0)) (a_nil)))) S.nd)
      (ss_cons (s_if (t_cmp (op_eqD (huR hr)) sim_eq (mv 1) (m_fld (c := 0) T.cl_Reading T.no_Reading_at (mv 0)) rfl) (ss_one (s_expr (m_meth0 (c := 0) (fun _ _ _ _ _ h => h) T.cl_Reading T.me_Reading_fail (ok_Reading_fail T) tk (hr.mono (by first | decide | omega)) T.b_Reading_fail (mv 0)))) (ss_nil))
      (ss_cons (s_expr (m_bm sim_append F.plainAttrs_list F.slot_list_append F.type_list_append mt_append (m_ix (m_fld (c := 0) T.cl_Reading T.no_Reading_opened (mv 0)) (m_neg (m_int))) (a_cons (m_call (ok_word_value T) tk (hr.mono (by first | decide | omega)) (by rfl) T.g_word_value T.F_word_value.kp T.b_word_value (a_cons (m_slice (m_fld (c := 0) T.cl_Reading T.no_Reading_text (mv 0)) (p_some (m_fld (c := 0) T.cl_Reading T.no_Reading_at (mv 0))) (p_some (mv 1))) (a_nil))) (a_nil))))
      (ss_cons (s_fld (c := 0) T.cl_Reading T.no_Reading_at (mv 0) (mv 1))
      (ss_one (s_fld (c := 0) T.cl_Reading T.no_Reading_fresh (mv 0) (m_bl)))))))
noncomputable def D_read_state : List MV → M MV := mRun 3 (sSeq (sIf (mCmp (gI fun i j => decide (j < i)) (mCallG mLen [mVar 0]) (mC (.int 100000))) (sRaise 1 ["part"] okTL [mC (.str c10)]) (sNop)) (sSeq (sSet 1 (mMake 0 D_Reading_init [mVar 0])) (sSeq (sIf (mCmp gNe (mMeth 0 "sign" D_Reading_sign (mVar 1) []) (mC (.str c2))) (sExpr (mMeth 0 "fail" D_Reading_fail (mVar 1) [])) (sNop)) (sSeq (sExpr (mMeth 0 "enter" D_Reading_enter (mVar 1) [])) (sSeq (sWhile (mAsB (mC (.bl true))) (sIf (mCmp gEq (mMeth 0 "sign" D_Reading_sign (mVar 1) []) (mC (.str c4))) (sSeq (sFldAdd 0 "at" (mVar 1) (mC (.int 1))) (sSeq (sSet 2 (mCallG mTuple [mMt isL mPop (mFld 0 "opened" (mVar 1)) []])) (sSeq (sIf (mCmp gEq (mCallG mLen [mFld 0 "opened" (mVar 1)]) (mC (.int 0))) (sBreak) (sNop)) (sSeq (sExpr (mMt isL mAppend (mIx (mFld 0 "opened" (mVar 1)) (mNeg (mC (.int 1)))) [mVar 2])) (sFld 0 "fresh" (mVar 1) (mC (.bl false))))))) (sIf (mAsB (mFld 0 "fresh" (mVar 1))) (sExpr (mMeth 0 "part" D_Reading_part (mVar 1) [])) (sIf (mCmp gEq (mMeth 0 "sign" D_Reading_sign (mVar 1) []) (mC (.str c3))) (sSeq (sFldAdd 0 "at" (mVar 1) (mC (.int 1))) (sExpr (mMeth 0 "part" D_Reading_part (mVar 1) []))) (sExpr (mMeth 0 "fail" D_Reading_fail (mVar 1) [])))))) (sSeq (sIf (mCmp (gI fun i j => decide (i < j)) (mFld 0 "at" (mVar 1)) (mCallG mLen [mVar 0])) (sExpr (mMeth 0 "fail" D_Reading_fail (mVar 1) [])) (sNop)) (sRet (mVar 2))))))))
theorem ok_read_state (T : Fx P K mg) : FnOk P w K mg base (L2.CX P w) 5 T.f_read_state T.fd_read_state ["text"] (spOf T.Z D_read_state 1) := by
  have S := sc_read_state
  refine fn_body (k := 4) T.F_read_state S (fun cdv A outer s H E hr => ?_)
  have tk := takes_of (X := cxOf (L2.CX P w) P w K mg base ["text", "reading", "done"] "read_state" (defScope s_read_state) T.f_read_state cdv A outer s H E) rfl rfl rfl rfl
  have hp := passes_of (X := cxOf (L2.CX P w) P w K mg base ["text", "reading", "done"] "read_state" (defScope s_read_state) T.f_read_state cdv A outer s H E) rfl
  exact ss_cons (s_if (t_cmp op_gt sim_I (m_callB sim_len call_lenX (by rfl) T.n_len PyProof.Rows.Boot.«len» (a_cons (mv 0) (a_nil))) (m_glob (by rfl) T.g_STATE_SIGNS.2 T.r_STATE_SIGNS (fun _ _ => rfl)) rfl) (ss_one (s_raise (c := 1) rfl tk T.oex_TooLarge T.ini_TooLarge T.ity_TooLarge (ok_TooLarge_init T) (hr.mono (by first | decide | omega)) T.b_TooLarge_init (by rfl) T.g_TooLarge (by rfl) (by decide) (a_cons (m_str c10 c10_eq c10_good) (a_nil)))) (ss_nil))
      (ss_cons (s_set (i := 1) (m_make (c := 0) T.mk_Reading (ok_Reading_init T) (hr.mono (by first | decide | omega)) (by rfl) T.g_Reading T.b_Reading_init (a_cons (mv 0) (a_nil))) S.nd)
      (ss_cons (s_if (t_cmp (op_neD (huR hr)) sim_ne (m_meth0 (c := 0) (fun _ _ _ _ _ h => h) T.cl_Reading T.me_Reading_sign (ok_Reading_sign T) tk (hr.mono (by first | decide | omega)) T.b_Reading_sign (mv 1)) (m_str c2 c2_eq c2_good) rfl) (ss_one (s_expr (m_meth0 (c := 0) (fun _ _ _ _ _ h => h) T.cl_Reading T.me_Reading_fail (ok_Reading_fail T) tk (hr.mono (by first | decide | omega)) T.b_Reading_fail (mv 1)))) (ss_nil))
      (ss_cons (s_expr (m_meth0 (c := 0) (fun _ _ _ _ _ h => h) T.cl_Reading T.me_Reading_enter (ok_Reading_enter T) tk (hr.mono (by first | decide | omega)) T.b_Reading_enter (mv 1)))
      (ss_cons (s_while hp (t_val (m_bl)) (ss_one (s_if (t_cmp (op_eqD (huR hr)) sim_eq (m_meth0 (c := 0) (fun _ _ _ _ _ h => h) T.cl_Reading T.me_Reading_sign (ok_Reading_sign T) tk (hr.mono (by first | decide | omega)) T.b_Reading_sign (mv 1)) (m_str c4 c4_eq c4_good) rfl) (ss_cons (s_fldAdd (c := 0) T.cl_Reading T.no_Reading_at (mv 1) (m_int))
      (ss_cons (s_set (i := 2) (m_callTy sim_tuple call_tuple_of (by rfl) T.n_tuple PyProof.Rows.Boot.«tuple» (a_cons (m_bm0 sim_pop F.plainAttrs_list F.slot_list_pop F.type_list_pop mt_pop (m_fld (c := 0) T.cl_Reading T.no_Reading_opened (mv 1))) (a_nil))) S.nd)
      (ss_cons (s_if (t_cmp (op_eqD (huR hr)) sim_eq (m_callB sim_len call_lenX (by rfl) T.n_len PyProof.Rows.Boot.«len» (a_cons (m_fld (c := 0) T.cl_Reading T.no_Reading_opened (mv 1)) (a_nil))) (m_int) rfl) (ss_one (s_break)) (ss_nil))
      (ss_cons (s_expr (m_bm sim_append F.plainAttrs_list F.slot_list_append F.type_list_append mt_append (m_ix (m_fld (c := 0) T.cl_Reading T.no_Reading_opened (mv 1)) (m_neg (m_int))) (a_cons (mv 2) (a_nil))))
      (ss_one (s_fld (c := 0) T.cl_Reading T.no_Reading_fresh (mv 1) (m_bl))))))) (ss_one (s_if (t_val (m_fld (c := 0) T.cl_Reading T.no_Reading_fresh (mv 1))) (ss_one (s_expr (m_meth0 (c := 0) (fun _ _ _ _ _ h => h) T.cl_Reading T.me_Reading_part (ok_Reading_part T) tk (hr.mono (by first | decide | omega)) T.b_Reading_part (mv 1)))) (ss_one (s_if (t_cmp (op_eqD (huR hr)) sim_eq (m_meth0 (c := 0) (fun _ _ _ _ _ h => h) T.cl_Reading T.me_Reading_sign (ok_Reading_sign T) tk (hr.mono (by first | decide | omega)) T.b_Reading_sign (mv 1)) (m_str c3 c3_eq c3_good) rfl) (ss_cons (s_fldAdd (c := 0) T.cl_Reading T.no_Reading_at (mv 1) (m_int))
      (ss_one (s_expr (m_meth0 (c := 0) (fun _ _ _ _ _ h => h) T.cl_Reading T.me_Reading_part (ok_Reading_part T) tk (hr.mono (by first | decide | omega)) T.b_Reading_part (mv 1))))) (ss_one (s_expr (m_meth0 (c := 0) (fun _ _ _ _ _ h => h) T.cl_Reading T.me_Reading_fail (ok_Reading_fail T) tk (hr.mono (by first | decide | omega)) T.b_Reading_fail (mv 1)))))))))))
      (ss_cons (s_if (t_cmp op_lt sim_I (m_fld (c := 0) T.cl_Reading T.no_Reading_at (mv 1)) (m_callB sim_len call_lenX (by rfl) T.n_len PyProof.Rows.Boot.«len» (a_cons (mv 0) (a_nil))) rfl) (ss_one (s_expr (m_meth0 (c := 0) (fun _ _ _ _ _ h => h) T.cl_Reading T.me_Reading_fail (ok_Reading_fail T) tk (hr.mono (by first | decide | omega)) T.b_Reading_fail (mv 1)))) (ss_nil))
      (ss_one (s_ret (mv 2))))))))
noncomputable def D__law_begin : List MV → M MV := mRun 2 (sRet (mLst [mLc (iSeq (mVar 0)) (tgName 1) (tYes1) (mCallG mInt [mVar 1]) [1], mC (.int 0), mC (.int 0), mC (.int 7), mC (.int 3)]))
theorem ok__law_begin (T : Fx P K mg) : FnOk P w K mg base (L2.CX P w) 1 T.f__law_begin T.fd__law_begin ["script"] (spOf T.Z D__law_begin 1) := by
  have S := sc__law_begin
  refine fn_body (k := 0) T.F__law_begin S (fun cdv A outer s H E hr => ?_)
  have tk := takes_of (X := cxOf (L2.CX P w) P w K mg base ["script", "cell"] "_law_begin" (defScope s__law_begin) T.f__law_begin cdv A outer s H E) rfl rfl rfl rfl
  have hp := passes_of (X := cxOf (L2.CX P w) P w K mg base ["script", "cell"] "_law_begin" (defScope s__law_begin) T.f__law_begin cdv A outer s H E) rfl
  exact ss_one (s_ret (m_lst (a_cons (m_lc rfl S.nd (i_seq (mv 0)) (own := [("cell", 1)]) (show blkC ["script", "cell"] (defScope s__law_begin) _ [("cell", 1)] = true from by decide +kernel) (fun _ _ _ _ _ => gw_name (i := 1) S.nd) (fun _ _ _ _ _ => ts_nil) (fun _ _ _ _ _ => m_callTy sim_int_ call_intX (by rfl) T.n_int PyProof.Rows.Boot.«int» (a_cons (mv 1) (a_nil)))) (a_cons (m_int) (a_cons (m_int) (a_cons (m_int) (a_cons (m_int) (a_nil))))))))
noncomputable def D__law_draw : List MV → M MV := mRun 5 (sSeq (sIf (mCmp (gI fun i j => decide (j < i)) (mIx (mVar 0) (mC (.int 2))) (mC (.int 0))) (sSeq (sSet 2 (mIx (mVar 0) (mC (.int 2)))) (sSeq (sAsg (tgIx (mVar 0) (mC (.int 2))) (mOp mDiv (mVar 2) (mVar 1))) (sRet (mOp mMod (mCallG mInt [mVar 2]) (mVar 1))))) (sNop)) (sSeq (sSet 3 (mC (.int 0))) (sSeq (sIf (mCmp (gI fun i j => decide (i < j)) (mIx (mVar 0) (mC (.int 1))) (mCallG mLen [mIx (mVar 0) (mC (.int 0))])) (sSeq (sSet 4 (mIx (mIx (mVar 0) (mC (.int 0))) (mIx (mVar 0) (mC (.int 1))))) (sSet 3 (mOp mAdd (mOp mMul (mC (.int 2)) (mCallG mAbs [mVar 4])) (mCallG mInt [mB (mCmp (gI fun i j => decide (i < j)) (mVar 4) (mC (.int 0)))])))) (sNop)) (sSeq (sAugIx (fun i j => i + j) (mVar 0) (mC (.int 1)) (mC (.int 1))) (sSeq (sIf (mCmp (gI fun i j => decide (j ≤ i)) (mVar 3) (mOp mMul (mC (.int 2)) (mOp mPow (mC (.int 10)) (mC (.int 18))))) (sSeq (sSet 2 (mOp mMod (mCallG mInt [mOp mDiv (mVar 3) (mC (.int 2))]) (mOp mShl (mC (.int 1)) (mC (.int 6000))))) (sSeq (sAsg (tgIx (mVar 0) (mC (.int 2))) (mOp mDiv (mVar 2) (mVar 1))) (sRet (mOp mMod (mCallG mInt [mVar 2]) (mVar 1))))) (sNop)) (sSeq (sAsg (tgIx (mVar 0) (mC (.int 3))) (mOp mMod (mCallG mInt [mOp mAdd (mOp mAdd (mOp mAdd (mOp mMul (mIx (mVar 0) (mC (.int 3))) (mC (.int 48271))) (mOp mMul (mOp mMod (mCallG mInt [mVar 3]) (mC (.int 2147483629))) (mC (.int 16807)))) (mOp mMul (mIx (mVar 0) (mC (.int 1))) (mC (.int 69621)))) (mC (.int 11))]) (mC (.int 2147483647)))) (sRet (mOp mMod (mCallG mInt [mOp mDiv (mIx (mVar 0) (mC (.int 3))) (mC (.int 16))]) (mVar 1)))))))))
theorem ok__law_draw (T : Fx P K mg) : FnOk P w K mg base (L2.CX P w) 1 T.f__law_draw T.fd__law_draw ["d", "many"] (spOf T.Z D__law_draw 2) := by
  have S := sc__law_draw
  refine fn_body (k := 0) T.F__law_draw S (fun cdv A outer s H E hr => ?_)
  have tk := takes_of (X := cxOf (L2.CX P w) P w K mg base ["d", "many", "found", "size", "cell"] "_law_draw" (defScope s__law_draw) T.f__law_draw cdv A outer s H E) rfl rfl rfl rfl
  have hp := passes_of (X := cxOf (L2.CX P w) P w K mg base ["d", "many", "found", "size", "cell"] "_law_draw" (defScope s__law_draw) T.f__law_draw cdv A outer s H E) rfl
  exact ss_cons (s_if (t_cmp op_gt sim_I (m_ix (mv 0) (m_int)) (m_int) rfl) (ss_cons (s_set (i := 2) (m_ix (mv 0) (m_int)) S.nd)
      (ss_cons (s_asg (m_op op_fdiv sim_div (mv 2) (mv 1)) (g_ix (W := WF) (mv 0) (m_int)))
      (ss_one (s_ret (m_op op_mod sim_mod (m_callTy sim_int_ call_intX (by rfl) T.n_int PyProof.Rows.Boot.«int» (a_cons (mv 2) (a_nil))) (mv 1)))))) (ss_nil))
      (ss_cons (s_set (i := 3) (m_int) S.nd)
      (ss_cons (s_if (t_cmp op_lt sim_I (m_ix (mv 0) (m_int)) (m_callB sim_len call_lenX (by rfl) T.n_len PyProof.Rows.Boot.«len» (a_cons (m_ix (mv 0) (m_int)) (a_nil))) rfl) (ss_cons (s_set (i := 4) (m_ix (m_ix (mv 0) (m_int)) (m_ix (mv 0) (m_int))) S.nd)
      (ss_one (s_set (i := 3) (m_op op_addX sim_add (m_op op_mulX' sim_mul (m_int) (m_callB sim_abs call_abs (by rfl) T.n_abs PyProof.Rows.Boot.«abs» (a_cons (mv 4) (a_nil)))) (m_callTy sim_int_ call_intX (by rfl) T.n_int PyProof.Rows.Boot.«int» (a_cons (m_cmp op_lt sim_I (mv 4) (m_int) rfl) (a_nil)))) S.nd))) (ss_nil))
      (ss_cons (s_augIx ip_add (mv 0) (m_int) (m_int))
      (ss_cons (s_if (t_cmp op_ge sim_I (mv 3) (m_op op_mulX' sim_mul (m_int) (m_op op_pow sim_pow (m_int) (m_int))) rfl) (ss_cons (s_set (i := 2) (m_op op_mod sim_mod (m_callTy sim_int_ call_intX (by rfl) T.n_int PyProof.Rows.Boot.«int» (a_cons (m_op op_fdiv sim_div (mv 3) (m_int)) (a_nil))) (m_op op_shl sim_shl (m_int) (m_int))) S.nd)
      (ss_cons (s_asg (m_op op_fdiv sim_div (mv 2) (mv 1)) (g_ix (W := WF) (mv 0) (m_int)))
      (ss_one (s_ret (m_op op_mod sim_mod (m_callTy sim_int_ call_intX (by rfl) T.n_int PyProof.Rows.Boot.«int» (a_cons (mv 2) (a_nil))) (mv 1)))))) (ss_nil))
      (ss_cons (s_asg (m_op op_mod sim_mod (m_callTy sim_int_ call_intX (by rfl) T.n_int PyProof.Rows.Boot.«int» (a_cons (m_op op_addX sim_add (m_op op_addX sim_add (m_op op_addX sim_add (m_op op_mulX' sim_mul (m_ix (mv 0) (m_int)) (m_int)) (m_op op_mulX' sim_mul (m_op op_mod sim_mod (m_callTy sim_int_ call_intX (by rfl) T.n_int PyProof.Rows.Boot.«int» (a_cons (mv 3) (a_nil))) (m_int)) (m_int))) (m_op op_mulX' sim_mul (m_ix (mv 0) (m_int)) (m_int))) (m_int)) (a_nil))) (m_int)) (g_ix (W := WF) (mv 0) (m_int)))
      (ss_one (s_ret (m_op op_mod sim_mod (m_callTy sim_int_ call_intX (by rfl) T.n_int PyProof.Rows.Boot.«int» (a_cons (m_op op_fdiv sim_div (m_ix (mv 0) (m_int)) (m_int)) (a_nil))) (mv 1)))))))))
noncomputable def D__law_pick : List MV → M MV := mRun 2 (sRet (mIx (mVar 1) (mCall D__law_draw [mVar 0, mCallG mLen [mVar 1]])))
theorem ok__law_pick (T : Fx P K mg) : FnOk P w K mg base (L2.CX P w) 2 T.f__law_pick T.fd__law_pick ["d", "row"] (spOf T.Z D__law_pick 2) := by
  have S := sc__law_pick
  refine fn_body (k := 1) T.F__law_pick S (fun cdv A outer s H E hr => ?_)
  have tk := takes_of (X := cxOf (L2.CX P w) P w K mg base ["d", "row"] "_law_pick" (defScope s__law_pick) T.f__law_pick cdv A outer s H E) rfl rfl rfl rfl
  have hp := passes_of (X := cxOf (L2.CX P w) P w K mg base ["d", "row"] "_law_pick" (defScope s__law_pick) T.f__law_pick cdv A outer s H E) rfl
  exact ss_one (s_ret (m_ix (mv 1) (m_call (ok__law_draw T) tk (hr.mono (by first | decide | omega)) (by rfl) T.g__law_draw T.F__law_draw.kp T.b__law_draw (a_cons (mv 0) (a_cons (m_callB sim_len call_lenX (by rfl) T.n_len PyProof.Rows.Boot.«len» (a_cons (mv 1) (a_nil))) (a_nil))))))
noncomputable def D__law_is_int : List MV → M MV := mRun 1 (sRet (mAndV (mIsi "int" (mVar 0)) (mB (tNot1 (mIsi "bool" (mVar 0))))))
theorem ok__law_is_int (T : Fx P K mg) : FnOk P w K mg base (L2.CX P w) 1 T.f__law_is_int T.fd__law_is_int ["thing"] (spOf T.Z D__law_is_int 1) := by
  have S := sc__law_is_int
  refine fn_body (k := 0) T.F__law_is_int S (fun cdv A outer s H E hr => ?_)
  have tk := takes_of (X := cxOf (L2.CX P w) P w K mg base ["thing"] "_law_is_int" (defScope s__law_is_int) T.f__law_is_int cdv A outer s H E) rfl rfl rfl rfl
  have hp := passes_of (X := cxOf (L2.CX P w) P w K mg base ["thing"] "_law_is_int" (defScope s__law_is_int) T.f__law_is_int cdv A outer s H E) rfl
  exact ss_one (s_ret (m_and (m_isi (T := "int") (mv 0) (by rfl) T.n_isinstance (by rfl) T.n_int PyProof.Rows.Boot.«int» (by decide)) (m_and1 (m_not (m_isi (T := "bool") (mv 0) (by rfl) T.n_isinstance (by rfl) T.n_bool PyProof.Rows.Boot.«bool» (by decide))))))
noncomputable def D__law_figures : List MV → M MV := mRun 4 (sSeq (sSet 2 (mCallG mStr [mOp mAdd (mC (.int 1)) (mCall D__law_draw [mVar 0, mC (.int 9)])])) (sSeq (sFor (iRange [mOp mSub (mVar 1) (mC (.int 1))]) (tgName 3) (sSet 2 (mOp mAdd (mVar 2) (mCallG mStr [mCall D__law_draw [mVar 0, mC (.int 10)]])))) (sRet (mVar 2))))
theorem ok__law_figures (T : Fx P K mg) : FnOk P w K mg base (L2.CX P w) 2 T.f__law_figures T.fd__law_figures ["d", "many"] (spOf T.Z D__law_figures 2) := by
  have S := sc__law_figures
  refine fn_body (k := 1) T.F__law_figures S (fun cdv A outer s H E hr => ?_)
  have tk := takes_of (X := cxOf (L2.CX P w) P w K mg base ["d", "many", "told", "k"] "_law_figures" (defScope s__law_figures) T.f__law_figures cdv A outer s H E) rfl rfl rfl rfl
  have hp := passes_of (X := cxOf (L2.CX P w) P w K mg base ["d", "many", "told", "k"] "_law_figures" (defScope s__law_figures) T.f__law_figures cdv A outer s H E) rfl
  exact ss_cons (s_set (i := 2) (m_callTy sim_str call_strX (by rfl) T.n_str PyProof.Rows.Boot.«str» (a_cons (m_op op_addX sim_add (m_int) (m_call (ok__law_draw T) tk (hr.mono (by first | decide | omega)) (by rfl) T.g__law_draw T.F__law_draw.kp T.b__law_draw (a_cons (mv 0) (a_cons (m_int) (a_nil))))) (a_nil))) S.nd)
      (ss_cons (s_for hp rfl (i_range1 (by rfl) T.n_range (a_cons (m_op op_sub sim_sub (mv 1) (m_int)) (a_nil))) (g_name (i := 3) S.nd) (ss_one (s_set (i := 2) (m_op op_addX sim_add (mv 2) (m_callTy sim_str call_strX (by rfl) T.n_str PyProof.Rows.Boot.«str» (a_cons (m_call (ok__law_draw T) tk (hr.mono (by first | decide | omega)) (by rfl) T.g__law_draw T.F__law_draw.kp T.b__law_draw (a_cons (mv 0) (a_cons (m_int) (a_nil)))) (a_nil)))) S.nd)))
      (ss_one (s_ret (mv 2))))
noncomputable def D__law_word : List MV → M MV := mRun 4 (sSeq (sSet 1 (mCall D__law_draw [mVar 0, mC (.int 9)])) (sSeq (sIf (mCmp (gI fun i j => decide (i ≤ j)) (mVar 1) (mC (.int 1))) (sRet (mOp mAdd (mIx (mLst [mC (.str c0), mC (.str c7)]) (mVar 1)) (mCallG mStr [mCall D__law_draw [mVar 0, mC (.int 12)]]))) (sNop)) (sSeq (sIf (mCmp (gI fun i j => decide (i ≤ j)) (mVar 1) (mC (.int 3))) (sRet (mOp mAdd (mIx (mLst [mC (.str c0), mC (.str c7)]) (mOp mSub (mVar 1) (mC (.int 2)))) (mCall D__law_figures [mVar 0, mOp mAdd (mC (.int 8)) (mCall D__law_draw [mVar 0, mC (.int 3)])]))) (sNop)) (sSeq (sIf (mCmp gEq (mVar 1) (mC (.int 4))) (sRet (mOp mAdd (mIx (mLst [mC (.str c5), mC (.str c24), mC (.str c23), mC (.str c22)]) (mCall D__law_draw [mVar 0, mC (.int 4)])) (mCallG mStr [mCall D__law_draw [mVar 0, mC (.int 100)]]))) (sNop)) (sSeq (sIf (mCmp gEq (mVar 1) (mC (.int 5))) (sRet (mCall D__law_pick [mVar 0, mLst [mC (.str c1), mC (.str c7), mC (.str c21), mC (.str c20), mC (.str c19), mC (.str c18), mC (.str c17), mC (.str c16), mC (.str c15), mC (.str c14), mC (.str c13), mC (.str c12)]])) (sNop)) (sSeq (sSet 2 (mC (.str c11))) (sRet (mMt isS mJoin (mC (.str c0)) [mLc (iRange [mOp mAdd (mC (.int 1)) (mCall D__law_draw [mVar 0, mC (.int 14)])]) (tgName 3) (tYes1) (mCall D__law_pick [mVar 0, mVar 2]) [3]]))))))))
theorem ok__law_word (T : Fx P K mg) : FnOk P w K mg base (L2.CX P w) 3 T.f__law_word T.fd__law_word ["d"] (spOf T.Z D__law_word 1) := by
  have S := sc__law_word
  refine fn_body (k := 2) T.F__law_word S (fun cdv A outer s H E hr => ?_)
  have tk := takes_of (X := cxOf (L2.CX P w) P w K mg base ["d", "way", "signs", "k"] "_law_word" (defScope s__law_word) T.f__law_word cdv A outer s H E) rfl rfl rfl rfl
  have hp := passes_of (X := cxOf (L2.CX P w) P w K mg base ["d", "way", "signs", "k"] "_law_word" (defScope s__law_word) T.f__law_word cdv A outer s H E) rfl
  exact ss_cons (s_set (i := 1) (m_call (ok__law_draw T) tk (hr.mono (by first | decide | omega)) (by rfl) T.g__law_draw T.F__law_draw.kp T.b__law_draw (a_cons (mv 0) (a_cons (m_int) (a_nil)))) S.nd)
      (ss_cons (s_if (t_cmp op_le sim_I (mv 1) (m_int) rfl) (ss_one (s_ret (m_op op_addX sim_add (m_ix (m_lst (a_cons (m_str c0 c0_eq c0_good) (a_cons (m_str c7 c7_eq c7_good) (a_nil)))) (mv 1)) (m_callTy sim_str call_strX (by rfl) T.n_str PyProof.Rows.Boot.«str» (a_cons (m_call (ok__law_draw T) tk (hr.mono (by first | decide | omega)) (by rfl) T.g__law_draw T.F__law_draw.kp T.b__law_draw (a_cons (mv 0) (a_cons (m_int) (a_nil)))) (a_nil)))))) (ss_nil))
      (ss_cons (s_if (t_cmp op_le sim_I (mv 1) (m_int) rfl) (ss_one (s_ret (m_op op_addX sim_add (m_ix (m_lst (a_cons (m_str c0 c0_eq c0_good) (a_cons (m_str c7 c7_eq c7_good) (a_nil)))) (m_op op_sub sim_sub (mv 1) (m_int))) (m_call (ok__law_figures T) tk (hr.mono (by first | decide | omega)) (by rfl) T.g__law_figures T.F__law_figures.kp T.b__law_figures (a_cons (mv 0) (a_cons (m_op op_addX sim_add (m_int) (m_call (ok__law_draw T) tk (hr.mono (by first | decide | omega)) (by rfl) T.g__law_draw T.F__law_draw.kp T.b__law_draw (a_cons (mv 0) (a_cons (m_int) (a_nil))))) (a_nil))))))) (ss_nil))
      (ss_cons (s_if (t_cmp (op_eqD (huR hr)) sim_eq (mv 1) (m_int) rfl) (ss_one (s_ret (m_op op_addX sim_add (m_ix (m_lst (a_cons (m_str c5 c5_eq c5_good) (a_cons (m_str c24 c24_eq c24_good) (a_cons (m_str c23 c23_eq c23_good) (a_cons (m_str c22 c22_eq c22_good) (a_nil)))))) (m_call (ok__law_draw T) tk (hr.mono (by first | decide | omega)) (by rfl) T.g__law_draw T.F__law_draw.kp T.b__law_draw (a_cons (mv 0) (a_cons (m_int) (a_nil))))) (m_callTy sim_str call_strX (by rfl) T.n_str PyProof.Rows.Boot.«str» (a_cons (m_call (ok__law_draw T) tk (hr.mono (by first | decide | omega)) (by rfl) T.g__law_draw T.F__law_draw.kp T.b__law_draw (a_cons (mv 0) (a_cons (m_int) (a_nil)))) (a_nil)))))) (ss_nil))
      (ss_cons (s_if (t_cmp (op_eqD (huR hr)) sim_eq (mv 1) (m_int) rfl) (ss_one (s_ret (m_call (ok__law_pick T) tk (hr.mono (by first | decide | omega)) (by rfl) T.g__law_pick T.F__law_pick.kp T.b__law_pick (a_cons (mv 0) (a_cons (m_lst (a_cons (m_str c1 c1_eq c1_good) (a_cons (m_str c7 c7_eq c7_good) (a_cons (m_str c21 c21_eq c21_good) (a_cons (m_str c20 c20_eq c20_good) (a_cons (m_str c19 c19_eq c19_good) (a_cons (m_str c18 c18_eq c18_good) (a_cons (m_str c17 c17_eq c17_good) (a_cons (m_str c16 c16_eq c16_good) (a_cons (m_str c15 c15_eq c15_good) (a_cons (m_str c14 c14_eq c14_good) (a_cons (m_str c13 c13_eq c13_good) (a_cons (m_str c12 c12_eq c12_good) (a_nil)))))))))))))) (a_nil)))))) (ss_nil))
      (ss_cons (s_set (i := 2) (m_str c11 c11_eq c11_good) S.nd)
      (ss_one (s_ret (m_bm sim_join F.plainAttrs_str F.slot_str_join F.type_str_join mt_join (m_str c0 c0_eq c0_good) (a_cons (m_lc rfl S.nd (i_range1 (by rfl) T.n_range (a_cons (m_op op_addX sim_add (m_int) (m_call (ok__law_draw T) tk (hr.mono (by first | decide | omega)) (by rfl) T.g__law_draw T.F__law_draw.kp T.b__law_draw (a_cons (mv 0) (a_cons (m_int) (a_nil))))) (a_nil))) (own := [("k", 3)]) (show blkC ["d", "way", "signs", "k"] (defScope s__law_word) _ [("k", 3)] = true from by decide +kernel) (fun _ _ _ _ _ => gw_name (i := 3) S.nd) (fun _ _ _ _ _ => ts_nil) (fun _ _ _ _ _ => m_call (ok__law_pick T) takes0 (hr.mono (by first | decide | omega)) (by rfl) T.g__law_pick T.F__law_pick.kp T.b__law_pick (a_cons (mv 0) (a_cons (mv 2) (a_nil))))) (a_nil))))))))))
noncomputable def D__law_meant : List MV → M MV := mRun 3 (sSeq (sIf (mCmp gEq (mVar 0) (mC (.str c1))) (sRet (mC (.str c0))) (sNop)) (sSeq (sSet 1 (mIf (mCmp gEq (mIx (mVar 0) (mC (.int 0))) (mC (.str c7))) (mSlice (mVar 0) (mPart (mC (.int 1))) mNoPart) (mVar 0))) (sSeq (sIf (tOr2 (mCmp gEq (mVar 1) (mC (.str c0))) (tOr2 (mCmp (gI fun i j => decide (j < i)) (mCallG mLen [mVar 1]) (mC (.int 9))) (tNot1 (mAsB (mCallG mAll [mLc (iSeq (mVar 1)) (tgName 2) (tYes1) (mB (mCmp (gInX false) (mVar 2) (mC (.str c6)))) [2]]))))) (sRet (mVar 0)) (sNop)) (sSeq (sIf (tAnd2 (mCmp gEq (mIx (mVar 1) (mC (.int 0))) (mC (.str c5))) (mCmp gNe (mVar 0) (mC (.str c5)))) (sRet (mVar 0)) (sNop)) (sRet (mIf (mCmp gEq (mIx (mVar 0) (mC (.int 0))) (mC (.str c7))) (mOp mSub (mC (.int 0)) (mCallG mInt [mVar 1])) (mCallG mInt [mVar 1])))))))
theorem ok__law_meant (T : Fx P K mg) : FnOk P w K mg base (L2.CX P w) 1 T.f__law_meant T.fd__law_meant ["word"] (spOf T.Z D__law_meant 1) := by
  have S := sc__law_meant
  refine fn_body (k := 0) T.F__law_meant S (fun cdv A outer s H E hr => ?_)
  have tk := takes_of (X := cxOf (L2.CX P w) P w K mg base ["word", "digits", "sign"] "_law_meant" (defScope s__law_meant) T.f__law_meant cdv A outer s H E) rfl rfl rfl rfl
  have hp := passes_of (X := cxOf (L2.CX P w) P w K mg base ["word", "digits", "sign"] "_law_meant" (defScope s__law_meant) T.f__law_meant cdv A outer s H E) rfl
  exact ss_cons (s_if (t_cmp (op_eqD (huR hr)) sim_eq (mv 0) (m_str c1 c1_eq c1_good) rfl) (ss_one (s_ret (m_str c0 c0_eq c0_good))) (ss_nil))
      (ss_cons (s_set (i := 1) (m_ifExp (t_cmp (op_eqD (huR hr)) sim_eq (m_ix (mv 0) (m_int)) (m_str c7 c7_eq c7_good) rfl) (m_slice (mv 0) (p_some (m_int)) p_none) (mv 0)) S.nd)
      (ss_cons (s_if (PW.pt (t_or (t_cmp (op_eqD (huR hr)) sim_eq (mv 1) (m_str c0 c0_eq c0_good) rfl) (t_or (t_cmp op_gt sim_I (m_callB sim_len call_lenX (by rfl) T.n_len PyProof.Rows.Boot.«len» (a_cons (mv 1) (a_nil))) (m_int) rfl) (t_or1 (t_not (t_val (m_callB sim_all (cr_all rfl) (by rfl) T.n_all PyProof.Rows.Boot.«all» (a_cons (m_lc rfl S.nd (i_seq (mv 1)) (own := [("sign", 2)]) (show blkC ["word", "digits", "sign"] (defScope s__law_meant) _ [("sign", 2)] = true from by decide +kernel) (fun _ _ _ _ _ => gw_name (i := 2) S.nd) (fun _ _ _ _ _ => ts_nil) (fun _ _ _ _ _ => m_cmp op_inX sim_in (mv 2) (m_str c6 c6_eq c6_good) rfl)) (a_nil))))))))) (ss_one (s_ret (mv 0))) (ss_nil))
      (ss_cons (s_if (PW.pt (t_and (t_cmp (op_eqD (huR hr)) sim_eq (m_ix (mv 1) (m_int)) (m_str c5 c5_eq c5_good) rfl) (t_and1 (t_cmp (op_neD (huR hr)) sim_ne (mv 0) (m_str c5 c5_eq c5_good) rfl)))) (ss_one (s_ret (mv 0))) (ss_nil))
      (ss_one (s_ret (m_ifExp (t_cmp (op_eqD (huR hr)) sim_eq (m_ix (mv 0) (m_int)) (m_str c7 c7_eq c7_good) rfl) (m_op op_sub sim_sub (m_int) (m_callTy sim_int_ call_intX (by rfl) T.n_int PyProof.Rows.Boot.«int» (a_cons (mv 1) (a_nil)))) (m_callTy sim_int_ call_intX (by rfl) T.n_int PyProof.Rows.Boot.«int» (a_cons (mv 1) (a_nil)))))))))
noncomputable def D__law_built : Nat → List MV → M MV
  | 0 => fun _ _ => .fail
  | n + 1 => mRun 8 (sSeq (sSet 3 (mLst [])) (sSeq (sSet 4 (mLst [])) (sSeq (sFor (iRange [mCall D__law_draw [mVar 0, mC (.int 6)]]) (tgName 5) (sSeq (sIf (mCmp (gI fun i j => decide (i ≤ j)) (mIx (mVar 2) (mC (.int 0))) (mC (.int 0))) (sBreak) (sNop)) (sSeq (sAugIx (fun i j => i - j) (mVar 2) (mC (.int 0)) (mC (.int 1))) (sSeq (sIf (tAnd2 (mCmp (gI fun i j => decide (j < i)) (mVar 1) (mC (.int 1))) (mCmp gEq (mCall D__law_draw [mVar 0, mC (.int 3)]) (mC (.int 0)))) (sAsg (tgTup [tgName 6, tgName 7]) (mCall (D__law_built n) [mVar 0, mOp mSub (mVar 1) (mC (.int 1)), mVar 2])) (sSeq (sSet 6 (mCall D__law_word [mVar 0])) (sSet 7 (mCall D__law_meant [mVar 6])))) (sSeq (sExpr (mMt isL mAppend (mVar 3) [mVar 6])) (sExpr (mMt isL mAppend (mVar 4) [mVar 7]))))))) (sRet (mTup [mOp mAdd (mOp mAdd (mC (.str c2)) (mMt isS mJoin (mC (.str c3)) [mVar 3])) (mC (.str c4)), mCallG mTuple [mVar 4]])))))
theorem ok__law_built (T : Fx P K mg) : ∀ n : Nat, FnOk P w K mg base (L2.CX P w) (3 + n) T.f__law_built T.fd__law_built ["d", "depth", "b"] (spOf T.Z (D__law_built n) 3)
  | 0 => fn_zero (ps := ["d", "depth", "b"]) fun _ _ => rfl
  | n + 1 => by
    have ih := ok__law_built T n
    have S := sc__law_built
    refine fn_body (k := 3 + n) T.F__law_built S (fun cdv A outer s H E hr => ?_)
    have tk := takes_of (X := cxOf (L2.CX P w) P w K mg base ["d", "depth", "b", "texts", "things", "k", "told", "thing"] "_law_built" (defScope s__law_built) T.f__law_built cdv A outer s H E) rfl rfl rfl rfl
    have hp := passes_of (X := cxOf (L2.CX P w) P w K mg base ["d", "depth", "b", "texts", "things", "k", "told", "thing"] "_law_built" (defScope s__law_built) T.f__law_built cdv A outer s H E) rfl
    exact ss_cons (s_set (i := 3) (m_lst (a_nil)) S.nd)
      (ss_cons (s_set (i := 4) (m_lst (a_nil)) S.nd)
      (ss_cons (s_for hp rfl (i_range1 (by rfl) T.n_range (a_cons (m_call (ok__law_draw T) tk (hr.mono (by first | decide | omega)) (by rfl) T.g__law_draw T.F__law_draw.kp T.b__law_draw (a_cons (mv 0) (a_cons (m_int) (a_nil)))) (a_nil))) (g_name (i := 5) S.nd) (ss_cons (s_if (t_cmp op_le sim_I (m_ix (mv 2) (m_int)) (m_int) rfl) (ss_one (s_break)) (ss_nil))
      (ss_cons (s_augIx ip_sub (mv 2) (m_int) (m_int))
      (ss_cons (s_if (PW.pt (t_and (t_cmp op_gt sim_I (mv 1) (m_int) rfl) (t_and1 (t_cmp (op_eqD (huR hr)) sim_eq (m_call (ok__law_draw T) tk (hr.mono (by first | decide | omega)) (by rfl) T.g__law_draw T.F__law_draw.kp T.b__law_draw (a_cons (mv 0) (a_cons (m_int) (a_nil)))) (m_int) rfl)))) (ss_one (s_asg (m_call ih tk (hr.mono (by first | decide | omega)) (by rfl) T.g__law_built T.F__law_built.kp T.b__law_built (a_cons (mv 0) (a_cons (m_op op_sub sim_sub (mv 1) (m_int)) (a_cons (mv 2) (a_nil))))) (g_tup rfl (gs_cons (g_name (i := 6) S.nd) (gs_cons (g_name (i := 7) S.nd) (gs_nil)))))) (ss_cons (s_set (i := 6) (m_call (ok__law_word T) tk (hr.mono (by first | decide | omega)) (by rfl) T.g__law_word T.F__law_word.kp T.b__law_word (a_cons (mv 0) (a_nil))) S.nd)
      (ss_one (s_set (i := 7) (m_call (ok__law_meant T) tk (hr.mono (by first | decide | omega)) (by rfl) T.g__law_meant T.F__law_meant.kp T.b__law_meant (a_cons (mv 6) (a_nil))) S.nd))))
      (ss_cons (s_expr (m_bm sim_append F.plainAttrs_list F.slot_list_append F.type_list_append mt_append (mv 3) (a_cons (mv 6) (a_nil))))
      (ss_one (s_expr (m_bm sim_append F.plainAttrs_list F.slot_list_append F.type_list_append mt_append (mv 4) (a_cons (mv 7) (a_nil))))))))))
      (ss_one (s_ret (m_tup (a_cons (m_op op_addX sim_add (m_op op_addX sim_add (m_str c2 c2_eq c2_good) (m_bm sim_join F.plainAttrs_str F.slot_str_join F.type_str_join mt_join (m_str c3 c3_eq c3_good) (a_cons (mv 3) (a_nil)))) (m_str c4 c4_eq c4_good)) (a_cons (m_callTy sim_tuple call_tuple_of (by rfl) T.n_tuple PyProof.Rows.Boot.«tuple» (a_cons (mv 4) (a_nil))) (a_nil))))))))
noncomputable def D__law_deep : List MV → M MV := mRun 7 (sSeq (sSet 2 (mC (.str c25))) (sSeq (sSet 3 (mTup [])) (sSeq (sFor (iRange [mOp mSub (mVar 1) (mC (.int 1))]) (tgName 4) (sSeq (sSet 5 (mCall D__law_draw [mVar 0, mC (.int 3)])) (sSeq (sSet 6 (mCall D__law_word [mVar 0])) (sIf (mCmp gEq (mVar 5) (mC (.int 0))) (sPar 2 3 [mOp mAdd (mOp mAdd (mC (.str c2)) (mVar 2)) (mC (.str c4)), mTup [mVar 3]]) (sIf (mCmp gEq (mVar 5) (mC (.int 1))) (sPar 2 3 [mOp mAdd (mOp mAdd (mOp mAdd (mOp mAdd (mC (.str c2)) (mVar 6)) (mC (.str c3))) (mVar 2)) (mC (.str c4)), mTup [mCall D__law_meant [mVar 6], mVar 3]]) (sPar 2 3 [mOp mAdd (mOp mAdd (mOp mAdd (mOp mAdd (mC (.str c2)) (mVar 2)) (mC (.str c3))) (mVar 6)) (mC (.str c4)), mTup [mVar 3, mCall D__law_meant [mVar 6]]])))))) (sRet (mTup [mVar 2, mVar 3])))))
theorem ok__law_deep (T : Fx P K mg) : FnOk P w K mg base (L2.CX P w) 4 T.f__law_deep T.fd__law_deep ["d", "many"] (spOf T.Z D__law_deep 2) := by
  have S := sc__law_deep
  refine fn_body (k := 3) T.F__law_deep S (fun cdv A outer s H E hr => ?_)
  have tk := takes_of (X := cxOf (L2.CX P w) P w K mg base ["d", "many", "told", "thing", "k", "way", "word"] "_law_deep" (defScope s__law_deep) T.f__law_deep cdv A outer s H E) rfl rfl rfl rfl
  have hp := passes_of (X := cxOf (L2.CX P w) P w K mg base ["d", "many", "told", "thing", "k", "way", "word"] "_law_deep" (defScope s__law_deep) T.f__law_deep cdv A outer s H E) rfl
  exact ss_cons (s_set (i := 2) (m_str c25 c25_eq c25_good) S.nd)
      (ss_cons (s_set (i := 3) (m_tup (a_nil)) S.nd)
      (ss_cons (s_for hp rfl (i_range1 (by rfl) T.n_range (a_cons (m_op op_sub sim_sub (mv 1) (m_int)) (a_nil))) (g_name (i := 4) S.nd) (ss_cons (s_set (i := 5) (m_call (ok__law_draw T) tk (hr.mono (by first | decide | omega)) (by rfl) T.g__law_draw T.F__law_draw.kp T.b__law_draw (a_cons (mv 0) (a_cons (m_int) (a_nil)))) S.nd)
      (ss_cons (s_set (i := 6) (m_call (ok__law_word T) tk (hr.mono (by first | decide | omega)) (by rfl) T.g__law_word T.F__law_word.kp T.b__law_word (a_cons (mv 0) (a_nil))) S.nd)
      (ss_one (s_if (t_cmp (op_eqD (huR hr)) sim_eq (mv 5) (m_int) rfl) (ss_one (s_par (i := 2) (j := 3) rfl S.nd (a_cons (m_op op_addX sim_add (m_op op_addX sim_add (m_str c2 c2_eq c2_good) (mv 2)) (m_str c4 c4_eq c4_good)) (a_cons (m_tup (a_cons (mv 3) (a_nil))) (a_nil))))) (ss_one (s_if (t_cmp (op_eqD (huR hr)) sim_eq (mv 5) (m_int) rfl) (ss_one (s_par (i := 2) (j := 3) rfl S.nd (a_cons (m_op op_addX sim_add (m_op op_addX sim_add (m_op op_addX sim_add (m_op op_addX sim_add (m_str c2 c2_eq c2_good) (mv 6)) (m_str c3 c3_eq c3_good)) (mv 2)) (m_str c4 c4_eq c4_good)) (a_cons (m_tup (a_cons (m_call (ok__law_meant T) tk (hr.mono (by first | decide | omega)) (by rfl) T.g__law_meant T.F__law_meant.kp T.b__law_meant (a_cons (mv 6) (a_nil))) (a_cons (mv 3) (a_nil)))) (a_nil))))) (ss_one (s_par (i := 2) (j := 3) rfl S.nd (a_cons (m_op op_addX sim_add (m_op op_addX sim_add (m_op op_addX sim_add (m_op op_addX sim_add (m_str c2 c2_eq c2_good) (mv 2)) (m_str c3 c3_eq c3_good)) (mv 6)) (m_str c4 c4_eq c4_good)) (a_cons (m_tup (a_cons (mv 3) (a_cons (m_call (ok__law_meant T) tk (hr.mono (by first | decide | omega)) (by rfl) T.g__law_meant T.F__law_meant.kp T.b__law_meant (a_cons (mv 6) (a_nil))) (a_nil)))) (a_nil))))))))))))
      (ss_one (s_ret (m_tup (a_cons (mv 2) (a_cons (mv 3) (a_nil))))))))
noncomputable def D__law_read : List MV → M MV := mRun 7 (sSeq (sSet 1 (mLst [])) (sSeq (sSet 2 (mC (.str c31))) (sSeq (sSet 3 (mTup [])) (sSeq (sSet 4 (mC (.int 0))) (sSeq (sWhile (mCmp (gI fun i j => decide (i < j)) (mVar 4) (mCallG mLen [mVar 0])) (sSeq (sSet 5 (mIx (mVar 0) (mVar 4))) (sIf (tAnd2 (mCmp gEq (mVar 5) (mC (.str c2))) (mCmp (gInX false) (mVar 2) (mTup [mC (.str c31), mC (.str c30), mC (.str c29)]))) (sSeq (sIf (mCmp gEq (mCallG mLen [mVar 1]) (mC (.int 12))) (sRet (mTup [mC (.str c32), mC (.int 0)])) (sNop)) (sSeq (sExpr (mMt isL mAppend (mVar 1) [mLst []])) (sSeq (sSet 2 (mC (.str c30))) (sAug (fun i j => i + j) 4 (mC (.int 1)))))) (sIf (tAnd2 (mCmp gEq (mVar 5) (mC (.str c4))) (mCmp (gInX false) (mVar 2) (mTup [mC (.str c30), mC (.str c33)]))) (sSeq (sSet 3 (mCallG mTuple [mMt isL mPop (mVar 1) []])) (sSeq (sSet 2 (mC (.str c27))) (sSeq (sIf (mCmp (gI fun i j => decide (j < i)) (mCallG mLen [mVar 1]) (mC (.int 0))) (sSeq (sExpr (mMt isL mAppend (mIx (mVar 1) (mNeg (mC (.int 1)))) [mVar 3])) (sSet 2 (mC (.str c33)))) (sNop)) (sAug (fun i j => i + j) 4 (mC (.int 1)))))) (sIf (tAnd2 (mCmp gEq (mVar 5) (mC (.str c3))) (mCmp gEq (mVar 2) (mC (.str c33)))) (sSeq (sSet 2 (mC (.str c29))) (sAug (fun i j => i + j) 4 (mC (.int 1)))) (sIf (tAnd2 (mCmp (gInX true) (mVar 5) (mC (.str c34))) (mCmp (gInX false) (mVar 2) (mTup [mC (.str c30), mC (.str c29)]))) (sSeq (sSet 6 (mVar 4)) (sSeq (sWhile (tAnd2 (mCmp (gI fun i j => decide (i < j)) (mVar 6) (mCallG mLen [mVar 0])) (mCmp (gInX true) (mIx (mVar 0) (mVar 6)) (mC (.str c34)))) (sAug (fun i j => i + j) 6 (mC (.int 1)))) (sSeq (sExpr (mMt isL mAppend (mIx (mVar 1) (mNeg (mC (.int 1)))) [mCall D__law_meant [mSlice (mVar 0) (mPart (mVar 4)) (mPart (mVar 6))]])) (sSeq (sSet 2 (mC (.str c33))) (sSet 4 (mVar 6)))))) (sRet (mTup [mC (.str c28), mOp mAdd (mVar 4) (mC (.int 1))])))))))) (sSeq (sIf (mCmp gNe (mVar 2) (mC (.str c27))) (sRet (mTup [mC (.str c28), mOp mAdd (mCallG mLen [mVar 0]) (mC (.int 1))])) (sNop)) (sRet (mTup [mC (.str c26), mVar 3]))))))))
theorem ok__law_read (T : Fx P K mg) : FnOk P w K mg base (L2.CX P w) 2 T.f__law_read T.fd__law_read ["text"] (spOf T.Z D__law_read 1) := by
  have S := sc__law_read
  refine fn_body (k := 1) T.F__law_read S (fun cdv A outer s H E hr => ?_)
  have tk := takes_of (X := cxOf (L2.CX P w) P w K mg base ["text", "rows", "due", "done", "at", "sign", "stop"] "_law_read" (defScope s__law_read) T.f__law_read cdv A outer s H E) rfl rfl rfl rfl
  have hp := passes_of (X := cxOf (L2.CX P w) P w K mg base ["text", "rows", "due", "done", "at", "sign", "stop"] "_law_read" (defScope s__law_read) T.f__law_read cdv A outer s H E) rfl
  exact ss_cons (s_set (i := 1) (m_lst (a_nil)) S.nd)
      (ss_cons (s_set (i := 2) (m_str c31 c31_eq c31_good) S.nd)
      (ss_cons (s_set (i := 3) (m_tup (a_nil)) S.nd)
      (ss_cons (s_set (i := 4) (m_int) S.nd)
      (ss_cons (s_while hp (t_cmp op_lt sim_I (mv 4) (m_callB sim_len call_lenX (by rfl) T.n_len PyProof.Rows.Boot.«len» (a_cons (mv 0) (a_nil))) rfl) (ss_cons (s_set (i := 5) (m_ix (mv 0) (mv 4)) S.nd)
      (ss_one (s_if (PW.pt (t_and (t_cmp (op_eqD (huR hr)) sim_eq (mv 5) (m_str c2 c2_eq c2_good) rfl) (t_and1 (t_cmp op_inX sim_in (mv 2) (m_tup (a_cons (m_str c31 c31_eq c31_good) (a_cons (m_str c30 c30_eq c30_good) (a_cons (m_str c29 c29_eq c29_good) (a_nil))))) rfl)))) (ss_cons (s_if (t_cmp (op_eqD (huR hr)) sim_eq (m_callB sim_len call_lenX (by rfl) T.n_len PyProof.Rows.Boot.«len» (a_cons (mv 1) (a_nil))) (m_int) rfl) (ss_one (s_ret (m_tup (a_cons (m_str c32 c32_eq c32_good) (a_cons (m_int) (a_nil)))))) (ss_nil))
      (ss_cons (s_expr (m_bm sim_append F.plainAttrs_list F.slot_list_append F.type_list_append mt_append (mv 1) (a_cons (m_lst (a_nil)) (a_nil))))
      (ss_cons (s_set (i := 2) (m_str c30 c30_eq c30_good) S.nd)
      (ss_one (s_aug (i := 4) ip_add (m_int) S.nd))))) (ss_one (s_if (PW.pt (t_and (t_cmp (op_eqD (huR hr)) sim_eq (mv 5) (m_str c4 c4_eq c4_good) rfl) (t_and1 (t_cmp op_inX sim_in (mv 2) (m_tup (a_cons (m_str c30 c30_eq c30_good) (a_cons (m_str c33 c33_eq c33_good) (a_nil)))) rfl)))) (ss_cons (s_set (i := 3) (m_callTy sim_tuple call_tuple_of (by rfl) T.n_tuple PyProof.Rows.Boot.«tuple» (a_cons (m_bm0 sim_pop F.plainAttrs_list F.slot_list_pop F.type_list_pop mt_pop (mv 1)) (a_nil))) S.nd)
      (ss_cons (s_set (i := 2) (m_str c27 c27_eq c27_good) S.nd)
      (ss_cons (s_if (t_cmp op_gt sim_I (m_callB sim_len call_lenX (by rfl) T.n_len PyProof.Rows.Boot.«len» (a_cons (mv 1) (a_nil))) (m_int) rfl) (ss_cons (s_expr (m_bm sim_append F.plainAttrs_list F.slot_list_append F.type_list_append mt_append (m_ix (mv 1) (m_neg (m_int))) (a_cons (mv 3) (a_nil))))
      (ss_one (s_set (i := 2) (m_str c33 c33_eq c33_good) S.nd))) (ss_nil))
      (ss_one (s_aug (i := 4) ip_add (m_int) S.nd))))) (ss_one (s_if (PW.pt (t_and (t_cmp (op_eqD (huR hr)) sim_eq (mv 5) (m_str c3 c3_eq c3_good) rfl) (t_and1 (t_cmp (op_eqD (huR hr)) sim_eq (mv 2) (m_str c33 c33_eq c33_good) rfl)))) (ss_cons (s_set (i := 2) (m_str c29 c29_eq c29_good) S.nd)
      (ss_one (s_aug (i := 4) ip_add (m_int) S.nd))) (ss_one (s_if (PW.pt (t_and (t_cmp op_notInX sim_in (mv 5) (m_str c34 c34_eq c34_good) rfl) (t_and1 (t_cmp op_inX sim_in (mv 2) (m_tup (a_cons (m_str c30 c30_eq c30_good) (a_cons (m_str c29 c29_eq c29_good) (a_nil)))) rfl)))) (ss_cons (s_set (i := 6) (mv 4) S.nd)
      (ss_cons (s_while hp (PW.pt (t_and (t_cmp op_lt sim_I (mv 6) (m_callB sim_len call_lenX (by rfl) T.n_len PyProof.Rows.Boot.«len» (a_cons (mv 0) (a_nil))) rfl) (t_and1 (t_cmp op_notInX sim_in (m_ix (mv 0) (mv 6)) (m_str c34 c34_eq c34_good) rfl)))) (ss_one (s_aug (i := 6) ip_add (m_int) S.nd)))
      (ss_cons (s_expr (m_bm sim_append F.plainAttrs_list F.slot_list_append F.type_list_append mt_append (m_ix (mv 1) (m_neg (m_int))) (a_cons (m_call (ok__law_meant T) tk (hr.mono (by first | decide | omega)) (by rfl) T.g__law_meant T.F__law_meant.kp T.b__law_meant (a_cons (m_slice (mv 0) (p_some (mv 4)) (p_some (mv 6))) (a_nil))) (a_nil))))
      (ss_cons (s_set (i := 2) (m_str c33 c33_eq c33_good) S.nd)
      (ss_one (s_set (i := 4) (mv 6) S.nd)))))) (ss_one (s_ret (m_tup (a_cons (m_str c28 c28_eq c28_good) (a_cons (m_op op_addX sim_add (mv 4) (m_int)) (a_nil))))))))))))))))
      (ss_cons (s_if (t_cmp (op_neD (huR hr)) sim_ne (mv 2) (m_str c27 c27_eq c27_good) rfl) (ss_one (s_ret (m_tup (a_cons (m_str c28 c28_eq c28_good) (a_cons (m_op op_addX sim_add (m_callB sim_len call_lenX (by rfl) T.n_len PyProof.Rows.Boot.«len» (a_cons (mv 0) (a_nil))) (m_int)) (a_nil)))))) (ss_nil))
      (ss_one (s_ret (m_tup (a_cons (m_str c26 c26_eq c26_good) (a_cons (mv 3) (a_nil)))))))))))
noncomputable def D__law_same : Nat → List MV → M MV
  | 0 => fun _ _ => .fail
  | n + 1 => mRun 3 (sSeq (sIf (mAsB (mB (mIsi "tuple" (mVar 0)))) (sSeq (sIf (tOr2 (tNot1 (mAsB (mB (mIsi "tuple" (mVar 1))))) (mCmp gNe (mCallG mLen [mVar 0]) (mCallG mLen [mVar 1]))) (sRet (mC (.bl false))) (sNop)) (sRet (mCallG mAll [mLc (iRange [mCallG mLen [mVar 0]]) (tgName 2) (tYes1) (mCall (D__law_same n) [mIx (mVar 0) (mVar 2), mIx (mVar 1) (mVar 2)]) [2]]))) (sNop)) (sSeq (sIf (mAsB (mB (mIsi "str" (mVar 0)))) (sRet (mAndV (mIsi "str" (mVar 1)) (mB (mCmp gEq (mVar 0) (mVar 1))))) (sNop)) (sRet (mAndV (mAsB (mCall D__law_is_int [mVar 1])) (mB (mCmp gEq (mVar 0) (mVar 1)))))))
theorem ok__law_same (T : Fx P K mg) : ∀ n : Nat, FnOk P w K mg base (L2.CX P w) (1 + n) T.f__law_same T.fd__law_same ["one", "other"] (spOf T.Z (D__law_same n) 2)
  | 0 => fn_zero (ps := ["one", "other"]) fun _ _ => rfl
  | n + 1 => by
    have ih := ok__law_same T n
    have S := sc__law_same
    refine fn_body (k := 1 + n) T.F__law_same S (fun cdv A outer s H E hr => ?_)
    have tk := takes_of (X := cxOf (L2.CX P w) P w K mg base ["one", "other", "k"] "_law_same" (defScope s__law_same) T.f__law_same cdv A outer s H E) rfl rfl rfl rfl
    have hp := passes_of (X := cxOf (L2.CX P w) P w K mg base ["one", "other", "k"] "_law_same" (defScope s__law_same) T.f__law_same cdv A outer s H E) rfl
    exact ss_cons (s_if (t_val (m_isi (T := "tuple") (mv 0) (by rfl) T.n_isinstance (by rfl) T.n_tuple PyProof.Rows.Boot.«tuple» (by decide))) (ss_cons (s_if (PW.pt (t_or (t_not (t_val (m_isi (T := "tuple") (mv 1) (by rfl) T.n_isinstance (by rfl) T.n_tuple PyProof.Rows.Boot.«tuple» (by decide)))) (t_or1 (t_cmp (op_neD (huR hr)) sim_ne (m_callB sim_len call_lenX (by rfl) T.n_len PyProof.Rows.Boot.«len» (a_cons (mv 0) (a_nil))) (m_callB sim_len call_lenX (by rfl) T.n_len PyProof.Rows.Boot.«len» (a_cons (mv 1) (a_nil))) rfl)))) (ss_one (s_ret (m_bl))) (ss_nil))
      (ss_one (s_ret (m_callB sim_all (cr_all rfl) (by rfl) T.n_all PyProof.Rows.Boot.«all» (a_cons (m_lc rfl S.nd (i_range1 (by rfl) T.n_range (a_cons (m_callB sim_len call_lenX (by rfl) T.n_len PyProof.Rows.Boot.«len» (a_cons (mv 0) (a_nil))) (a_nil))) (own := [("k", 2)]) (show blkC ["one", "other", "k"] (defScope s__law_same) _ [("k", 2)] = true from by decide +kernel) (fun _ _ _ _ _ => gw_name (i := 2) S.nd) (fun _ _ _ _ _ => ts_nil) (fun _ _ _ _ _ => m_call ih takes0 (hr.mono (by first | decide | omega)) (by rfl) T.g__law_same T.F__law_same.kp T.b__law_same (a_cons (m_ix (mv 0) (mv 2)) (a_cons (m_ix (mv 1) (mv 2)) (a_nil))))) (a_nil)))))) (ss_nil))
      (ss_cons (s_if (t_val (m_isi (T := "str") (mv 0) (by rfl) T.n_isinstance (by rfl) T.n_str PyProof.Rows.Boot.«str» (by decide))) (ss_one (s_ret (m_and (m_isi (T := "str") (mv 1) (by rfl) T.n_isinstance (by rfl) T.n_str PyProof.Rows.Boot.«str» (by decide)) (m_and1 (m_cmp (op_eqD (huR hr)) sim_eq (mv 0) (mv 1) rfl))))) (ss_nil))
      (ss_one (s_ret (m_and (m_asB (m_call (ok__law_is_int T) tk (hr.mono (by first | decide | omega)) (by rfl) T.g__law_is_int T.F__law_is_int.kp T.b__law_is_int (a_cons (mv 1) (a_nil)))) (m_and1 (m_cmp (op_eqD (huR hr)) sim_eq (mv 0) (mv 1) rfl))))))
end
end K76
end
section
set_option Elab.async false
set_option linter.all false
set_option maxRecDepth 100000
set_option maxHeartbeats 2000000
set_option autoImplicit false
/-! P76a: words. -/
namespace Mi
open PySem PySem.Spec L2
@[simp] theorem cut_from {α : Type} (xs : List α) : cutL xs (some 1) none = xs.drop 1 := by
  unfold cutL
  rw [HT.sIx_none]
  have : HT.sIx xs.length 0 (some 1) = min 1 xs.length := HT.sIx_nat _ _ 1
  rw [this]
  cases xs with
  | nil => rfl
  | cons x xs =>
    simp
theorem cut_nat {α : Type} (xs : List α) (i j : Nat) : cutL xs (some (i : Int)) (some (j : Int)) = (xs.drop i).take (j - i) := by
  unfold cutL
  rw [HT.sIx_nat, HT.sIx_nat]
  by_cases hi : i ≤ xs.length
  · rw [Nat.min_eq_left hi]
    by_cases hj : j ≤ xs.length
    · rw [Nat.min_eq_left hj]
    · rw [Nat.min_eq_right (by omega)]
      rw [List.take_of_length_le (by simp), List.take_of_length_le (by simp; omega)]
  · have h1 : min i xs.length = xs.length := Nat.min_eq_right (by omega)
    rw [h1, List.drop_of_length_le (Nat.le_refl _), List.drop_of_length_le (show xs.length ≤ i by omega)]
    simp
/-- a comprehension whose elements leave the store as a longer one -/
theorem lc_ext {g : Tg} {f : Exp} {σ : Sl} {h : MV → MV} : ∀ (xs acc : List MV) (st rest : Sto), (∀ x ∈ xs, ∀ s : Sto, ∃ (σ' : Sl) (r : Sto), g x σ s = .ok σ' s ∧ f σ' s = .ok (h x) (s ++ r)) → acc.length + xs.length ≤ 16777216 →
    ∃ r, lcGo (Pure.pure ()) g tYes1 f st.length xs σ (st ++ .lst acc :: rest) = .ok () (st ++ .lst (acc ++ xs.map h) :: r)
  | [], acc, st, rest, _, _ => ⟨rest, by simp [lcGo]⟩
  | x :: xs, acc, st, rest, hx, hl => by
    obtain ⟨σ', r, e1, e2⟩ := hx x (by simp) (st ++ .lst acc :: rest)
    have hget : (st ++ .lst acc :: (rest ++ r))[st.length]? = some (.lst acc) := by
      rw [List.getElem?_append_right (Nat.le_refl _)]
      simp
    have e3 : mAppend (.loc st.length) [h x] (st ++ .lst acc :: (rest ++ r)) = .ok .non (st ++ .lst (acc ++ [h x]) :: (rest ++ r)) := by
      show (match lstAt _ st.length with | some ys => if ys.length < 16777216 then .ok .non ((st ++ .lst acc :: (rest ++ r)).set st.length (.lst (ys ++ [h x]))) else .fail | none => .fail : Res MV) = _
      rw [lstAt_iff hget]
      simp only [List.length_cons] at hl
      show (if acc.length < 16777216 then _ else _) = _
      rw [if_pos (by omega)]
      congr 1
      rw [List.set_append_right _ _ (Nat.le_refl _)]
      simp
    obtain ⟨r', ih⟩ := lc_ext xs (acc ++ [h x]) st (rest ++ r) (fun y hy => hx y (by simp [hy])) (by simp at hl ⊢; omega)
    refine ⟨r', ?_⟩
    show ((Pure.pure () : M Unit) >>= fun _ => g x σ >>= fun σ1 => tYes1 σ1 >>= fun c => if c = true then f σ1 >>= fun y => mAppend (.loc st.length) [y] >>= fun _ => lcGo (Pure.pure ()) g tYes1 f st.length xs σ else lcGo (Pure.pure ()) g tYes1 f st.length xs σ) (st ++ .lst acc :: rest) = _
    simp only [bind_ap, pure_ap, bnd_ok, e1]
    show ((f σ' >>= fun y => mAppend (.loc st.length) [y] >>= fun _ => lcGo (Pure.pure ()) g tYes1 f st.length xs σ) (st ++ .lst acc :: rest)) = _
    rw [bind_ap, e2, bnd_ok, bind_ap]
    rw [show (st ++ MO.lst acc :: rest ++ r) = st ++ MO.lst acc :: (rest ++ r) by simp]
    rw [e3, bnd_ok, ih]
    simp
/-- .. over items that ask for no check -/
theorem mLc_any {it : Itm} {g : Tg} {f : Exp} {vs : List Nat} {σ : Sl} {st : Sto} {xs : List MV} {h : MV → MV} (hi : it σ st = .ok (xs, Pure.pure ()) st) (hx : ∀ x ∈ xs, ∀ s : Sto, ∃ (σ' : Sl) (r : Sto), g x (wipeM σ vs) s = .ok σ' s ∧ f σ' s = .ok (h x) (s ++ r)) (hl : xs.length ≤ 16777216) :
    ∃ r, mLc it g tYes1 f vs σ st = .ok (.loc st.length) (st ++ .lst (xs.map h) :: r) := by
  obtain ⟨r, e⟩ := lc_ext xs [] st [] hx (by simpa using hl)
  refine ⟨r, ?_⟩
  show ((it σ st).bnd fun q st => finL st.length (lcGo q.2 g tYes1 f st.length q.1 (wipeM σ vs) (st ++ [.lst []]))) = _
  rw [hi, bnd_ok]
  show finL st.length (lcGo (Pure.pure ()) g tYes1 f st.length xs (wipeM σ vs) (st ++ [.lst []])) = _
  rw [e]
  rfl
theorem mLc_ext {fi : Exp} {g : Tg} {f : Exp} {vs : List Nat} {σ : Sl} {st : Sto} {xs : List MV} {h : MV → MV} (hi : iSeq fi σ st = .ok (xs, Pure.pure ()) st) (hx : ∀ x ∈ xs, ∀ s : Sto, ∃ (σ' : Sl) (r : Sto), g x (wipeM σ vs) s = .ok σ' s ∧ f σ' s = .ok (h x) (s ++ r)) (hl : xs.length ≤ 16777216) :
    ∃ r, mLc (iSeq fi) g tYes1 f vs σ st = .ok (.loc st.length) (st ++ .lst (xs.map h) :: r) := mLc_any hi hx hl
theorem iRange1 {f : Exp} {σ : Sl} {st s : Sto} {j : Int} (h : f σ st = .ok (.int j) s) (h1 : -(2 ^ 62) ≤ j) (h2 : j < 2 ^ 62) : iRange [f] σ st = .ok (Mi.intsFrom 0 j.toNat, Pure.pure ()) s := by
  show ((mArgs [f] σ st).bnd _) = _
  rw [mArgs_cons, h]
  show (if -(2 ^ 62) ≤ j ∧ j < 2 ^ 62 then Pure.pure (Mi.intsFrom 0 j.toNat, Pure.pure ()) else M.fail : M (List MV × M Unit)) s = _
  rw [if_pos ⟨h1, h2⟩]
  rfl
theorem mem_ints {n : Nat} {y : MV} (h : y ∈ Mi.intsFrom 0 n) : ∃ k : Nat, k < n ∧ y = .int k := by
  unfold Mi.intsFrom at h
  obtain ⟨k, hk, rfl⟩ := List.mem_map.mp h
  exact ⟨k, by simpa using hk, by simp⟩
theorem ints_len (n : Nat) : (Mi.intsFrom 0 n).length = n := by simp [Mi.intsFrom]
theorem iSeq_str {fi : Exp} {σ : Sl} {st s : Sto} {w : List Nat} (h : fi σ st = .ok (.str w) s) : iSeq fi σ st = .ok (w.map fun c => MV.str [c], Pure.pure ()) s := by
  show ((fi σ st).bnd _) = _
  rw [h]
  rfl
theorem iSeq_tup {fi : Exp} {σ : Sl} {st s : Sto} {xs : List MV} (h : fi σ st = .ok (.tup xs) s) : iSeq fi σ st = .ok (xs, Pure.pure ()) s := by
  show ((fi σ st).bnd _) = _
  rw [h]
  rfl
theorem bls_map (p : Nat → Bool) : ∀ w : List Nat, bls (w.map fun c => MV.bl (p c)) = some (w.map p)
  | [] => rfl
  | c :: w => by
    show (bls (w.map fun c => MV.bl (p c))).map (p c :: ·) = _
    rw [bls_map p w]
    rfl
theorem mAll_loc {st : Sto} {n : Nat} {p : Nat → Bool} {w : List Nat} (h : st[n]? = some (.lst (w.map fun c => MV.bl (p c)))) : mAll [.loc n] st = .ok (.bl (w.all p)) st := by
  show M.look (fun st => ((lstAt st n).bind bls).map fun bs => MV.bl (bs.all id)) st = _
  rw [look_ap]
  rw [lstAt_iff h, Option.bind_some, bls_map]
  simp
end Mi
namespace K76
open PySem PySem.Spec L2 Mi
/-- the word behind its sign -/
def digs (w : List Nat) : List Nat := if w[0]? = some 45 then w.drop 1 else w
def okDigs (w : List Nat) : Bool := !decide (digs w = []) && (decide ((digs w).length ≤ 9) && (digs w).all fun c => decide (c ∈ c6))
def isI (w : List Nat) : Bool := okDigs w && (decide ((digs w)[0]? ≠ some 48) || decide (w = [48]))
/-- all signs are digits: the list of truth values and all() -/
theorem all_digs (i : Nat) (σ : Sl) (st : Sto) (ds : List Nat) (hσ : (σ[i]?).bind id = some (.str ds)) (hl : ds.length ≤ 16777216) (k : Nat) (hk : k < σ.length) :
    ∃ r, mCallG mAll [mLc (iSeq (mVar i)) (tgName k) tYes1 (mB (mCmp (gInX false) (mVar k) (mC (.str c6)))) [k]] σ st = .ok (.bl (ds.all fun c => decide (c ∈ c6))) (st ++ r) := by
  have hi : mVar i σ st = .ok (.str ds) st := by rw [mVar_ap, hσ]; rfl
  obtain ⟨r, e⟩ := mLc_ext (fi := mVar i) (g := tgName k) (f := mB (mCmp (gInX false) (mVar k) (mC (.str c6)))) (vs := [k]) (σ := σ) (st := st) (h := fun x => match x with | .str [c] => .bl (decide (c ∈ c6)) | y => y) (iSeq_str hi) (fun x hx s => by
    obtain ⟨c, _, rfl⟩ := List.mem_map.mp hx
    refine ⟨(wipeM σ [k]).set k (some (.str [c])), [], rfl, ?_⟩
    have hlen : k < (wipeM σ [k]).length := by simp [wipeM, hk]
    simp [List.getElem?_set_self hlen]) (by simpa using hl)
  refine ⟨.lst (ds.map fun c => .bl (decide (c ∈ c6))) :: r, ?_⟩
  rw [mCallG_ap, mArgs_cons, e]
  simp only [bnd_ok, mArgs_nil, List.map_map]
  exact mAll_loc (p := fun c => decide (c ∈ c6)) (by rw [List.getElem?_append_right (Nat.le_refl _)]; simp)
theorem isint_tail (w ds : List Nat) (hl : ds.length ≤ 16777216) (st : Sto) : ∃ g, (sSeq (sIf (tOr2 (mCmp gEq (mVar 1) (mC (.str c0))) (tOr2 (mCmp (gI fun i j => decide (j < i)) (mCallG mLen [mVar 1]) (mC (.int 9))) (tNot1 (mAsB (mCallG mAll [mLc (iSeq (mVar 1)) (tgName 2) (tYes1) (mB (mCmp (gInX false) (mVar 2) (mC (.str c6)))) [2]]))))) (sRet (mC (.bl false))) (sNop)) (sRet (mOrV (mCmp gNe (mIx (mVar 1) (mC (.int 0))) (mC (.str c5))) (mB (mCmp gEq (mVar 0) (mC (.str c5))))))) [some (.str w), some (.str ds), none] st =
    .ok (.ret (.bl ((!decide (ds = []) && (decide (ds.length ≤ 9) && ds.all fun c => decide (c ∈ c6))) && (decide (ds[0]? ≠ some 48) || decide (w = [48]))))) (st ++ g) := by
  have hc0 : c0 = [] := rfl
  have hc5 : c5 = [48] := rfl
  by_cases h1 : ds = []
  · refine ⟨[], ?_⟩
    simp [h1, hc0]
  · by_cases h2 : 9 < ds.length
    · refine ⟨[], ?_⟩
      have h3 : ¬ ds.length ≤ 9 := by omega
      have h2' : (9 : Int) < (ds.length : Int) := by omega
      simp [h1, h3, hc0, h2']
    · obtain ⟨r, e⟩ := all_digs 1 [some (.str w), some (.str ds), none] st ds rfl hl 2 (by simp)
      have h2' : ¬ (9 : Int) < (ds.length : Int) := by omega
      have h3 : ds.length ≤ 9 := by omega
      obtain ⟨c, u, rfl⟩ : ∃ c u, ds = c :: u := by
        cases ds with
        | nil => exact (h1 rfl).elim
        | cons c u => exact ⟨c, u, rfl⟩
      refine ⟨r, ?_⟩
      have e1 := or_f (t := mCmp gEq (mVar 1) (mC (.str c0))) (σ := [some (.str w), some (.str (c :: u)), none]) (st := st) (s := st) (by simp [hc0]) (or_f (t := mCmp (gI fun i j => decide (j < i)) (mCallG mLen [mVar 1]) (mC (.int 9))) (s := st) (by simp at h2'; simp [h2']) (not_of (asB_of e)))
      cases ha : (c :: u).all fun c => decide (c ∈ c6) with
      | false =>
        rw [ha] at e1
        exact seq_ret (if_t e1 (by simp [ha]))
      | true =>
        rw [ha] at e1
        refine seq_nx (if_f e1 (sNop_ap _ _)) ?_
        by_cases hc : c = 48
        · simp [hc5, hc, h3, ha]
          intro _
          simpa using h3
        · simp [hc5, hc, h3]
          simpa using h3
theorem is_integer_ok {w : List Nat} (hw : w ≠ []) (hl : w.length ≤ 16777216) (st : Sto) : ∃ g, D_is_integer [.str w] st = .ok (.bl (isI w)) (st ++ g) := by
  obtain ⟨c, u, rfl⟩ : ∃ c u, w = c :: u := by
    cases w with
    | nil => exact (hw rfl).elim
    | cons c u => exact ⟨c, u, rfl⟩
  have hc7 : c7 = [45] := rfl
  unfold D_is_integer
  by_cases h : c = 45
  · subst h
    obtain ⟨g, e⟩ := isint_tail (45 :: u) u (by simp at hl; omega) st
    exact ⟨g, run_ret (seq_nx (σ' := [some (.str (45 :: u)), some (.str (45 :: u)), none]) (s1 := st) (by simp) (seq_nx (σ' := [some (.str (45 :: u)), some (.str u), none]) (s1 := st) (by simp [hc7]) e))⟩
  · obtain ⟨g, e⟩ := isint_tail (c :: u) (c :: u) hl st
    have hd : digs (c :: u) = c :: u := by simp [digs, h]
    refine ⟨g, run_ret ?_⟩
    unfold isI okDigs
    rw [hd]
    exact seq_nx (σ' := [some (.str (c :: u)), some (.str (c :: u)), none]) (s1 := st) (by simp) (seq_nx (σ' := [some (.str (c :: u)), some (.str (c :: u)), none]) (s1 := st) (by simp [hc7, h]) e)

open PySem.NumText PySem.W.KIN
def ival (w : List Nat) : Int := if w[0]? = some 45 then -((digitsVal (w.drop 1) : Nat) : Int) else ((digitsVal w : Nat) : Int)
/-- the value of a word -/
def wv (w : List Nat) : MV := if w = [46] then .str [] else if isI w = true then .int (ival w) else .str w
theorem mem_c6 {c : Nat} : c ∈ c6 ↔ 48 ≤ c ∧ c ≤ 57 := by
  have : c6 = [48, 49, 50, 51, 52, 53, 54, 55, 56, 57] := rfl
  rw [this]
  simp
  omega
theorem okDigs_iff {w : List Nat} : okDigs w = true ↔ digs w ≠ [] ∧ (digs w).length ≤ 9 ∧ AllDigits (digs w) := by
  unfold okDigs
  simp only [Bool.and_eq_true, Bool.not_eq_true', decide_eq_false_iff_not, decide_eq_true_eq, List.all_eq_true, mem_c6]
  rfl
theorem digs_pos {w : List Nat} (h : w[0]? = some 45) : w = 45 :: digs w := by
  unfold digs
  rw [if_pos h]
  cases w with
  | nil => cases h
  | cons c u =>
    simp at h
    simp [h]
theorem digs_neg {w : List Nat} (h : ¬ w[0]? = some 45) : digs w = w := by
  unfold digs
  rw [if_neg h]
theorem int_word {w : List Nat} (h : okDigs w = true) : PySem.intText? ⟨w.toArray⟩ = some (ival w) ∧ w.length ≤ 640 := by
  obtain ⟨h1, h2, h3⟩ := okDigs_iff.mp h
  by_cases hm : w[0]? = some 45
  · have e := digs_pos hm
    have hl : w.length ≤ 640 := by rw [e]; simp; omega
    refine ⟨?_, hl⟩
    rw [intText_neg (x := ⟨w.toArray⟩) (cs := digs w) e h3 h1 (by show w.toArray.size ≤ 4300; simp; omega)]
    unfold ival
    rw [if_pos hm]
    rw [show w.drop 1 = digs w from by unfold digs; rw [if_pos hm]]
  · have e := digs_neg hm
    rw [e] at h1 h2 h3
    refine ⟨?_, by omega⟩
    rw [intText_digits (x := ⟨w.toArray⟩) h3 h1 (by show w.toArray.size ≤ 4300; simp; omega)]
    unfold ival
    rw [if_neg hm]
theorem mInt_str {w : List Nat} {n : Int} (h : PySem.intText? ⟨w.toArray⟩ = some n) (hl : w.length ≤ 640) (st : Sto) : mInt [.str w] st = .ok (.int n) st := by
  show (if w.length ≤ 640 then M.opt ((PySem.intText? ⟨w.toArray⟩).map MV.int) else M.fail : M MV) st = _
  rw [if_pos hl, h]
  rfl
theorem isI_ok {w : List Nat} (h : isI w = true) : okDigs w = true := by
  unfold isI at h
  rw [Bool.and_eq_true] at h
  exact h.1
theorem word_value_ok {w : List Nat} (hw : w ≠ []) (hl : w.length ≤ 16777216) (st : Sto) : ∃ g, D_word_value [.str w] st = .ok (wv w) (st ++ g) := by
  have hc1 : c1 = [46] := rfl
  have hc0 : c0 = [] := rfl
  unfold D_word_value
  by_cases h1 : w = [46]
  · refine ⟨[], ?_⟩
    subst h1
    simp [hc1, hc0, wv]
  · obtain ⟨g, e⟩ := is_integer_ok hw hl st
    have e1 := asB_of (call1 (σ := [some (.str w)]) (f := mVar 0) (s1 := st) (var_of rfl) e)
    refine ⟨g, run_ret (seq_nx (σ' := [some (.str w)]) (s1 := st) (by simp [hc1, h1]) ?_)⟩
    cases hi : isI w with
    | true =>
      rw [hi] at e1
      obtain ⟨h2, h3⟩ := int_word (isI_ok hi)
      refine seq_ret (if_t e1 ?_)
      rw [show wv w = .int (ival w) by simp [wv, h1, hi]]
      exact ret_of (callG1 (var_of rfl) (mInt_str h2 h3 _))
    | false =>
      rw [hi] at e1
      refine seq_nx (if_f e1 (sNop_ap _ _)) ?_
      rw [show wv w = .str w by simp [wv, h1, hi]]
      exact ret_of (var_of rfl)
theorem meant_ok {w : List Nat} (hw : w ≠ []) (hl : w.length ≤ 16777216) (st : Sto) : ∃ g, D__law_meant [.str w] st = .ok (wv w) (st ++ g) := by
  have hc1 : c1 = [46] := rfl
  have hc0 : c0 = [] := rfl
  have hc7 : c7 = [45] := rfl
  have hc5 : c5 = [48] := rfl
  unfold D__law_meant
  by_cases h1 : w = [46]
  · refine ⟨[], ?_⟩
    subst h1
    simp [hc1, hc0, wv]
  · obtain ⟨c, u, rfl⟩ : ∃ c u, w = c :: u := by
      cases w with
      | nil => exact (hw rfl).elim
      | cons c u => exact ⟨c, u, rfl⟩
    have hd : (digs (c :: u)).length ≤ 16777216 := by
      unfold digs
      split
      · simp at hl ⊢; omega
      · exact hl
    obtain ⟨r, e⟩ := all_digs 1 [some (.str (c :: u)), some (.str (digs (c :: u))), none] st (digs (c :: u)) rfl hd 2 (by simp)
    have s1 : (sSet 1 (mIf (mCmp gEq (mIx (mVar 0) (mC (.int 0))) (mC (.str c7))) (mSlice (mVar 0) (mPart (mC (.int 1))) mNoPart) (mVar 0))) [some (.str (c :: u)), none, none] st = .ok (.nx [some (.str (c :: u)), some (.str (digs (c :: u))), none]) st := by
      by_cases h : c = 45
      · simp [hc7, h, digs]
      · simp [hc7, h, digs]
    have start : ∀ {b : Stm} {v : MV} {s : Sto}, b [some (.str (c :: u)), some (.str (digs (c :: u))), none] st = .ok (.ret v) s → mRun 3 (sSeq (sIf (mCmp gEq (mVar 0) (mC (.str c1))) (sRet (mC (.str c0))) (sNop)) (sSeq (sSet 1 (mIf (mCmp gEq (mIx (mVar 0) (mC (.int 0))) (mC (.str c7))) (mSlice (mVar 0) (mPart (mC (.int 1))) mNoPart) (mVar 0))) b)) [.str (c :: u)] st = .ok v s := by
      intro b v s h
      exact run_ret (seq_nx (σ' := [some (.str (c :: u)), none, none]) (s1 := st) (by simp [hc1]; simpa using h1) (seq_nx s1 h))
    cases hk : okDigs (c :: u) with
    | false =>
      have hv : wv (c :: u) = .str (c :: u) := by simp [wv, h1, isI, hk]
      rw [hv]
      by_cases z1 : digs (c :: u) = []
      · exact ⟨[], start (seq_ret (if_t (or_t (s := st) (by simp [z1, hc0])) (by simp)))⟩
      · by_cases z2 : 9 < (digs (c :: u)).length
        · exact ⟨[], start (seq_ret (if_t (or_f (s := st) (by simp [z1, hc0]) (or_t (s := st) (by simp; omega))) (by simp)))⟩
        · have z3 : ((digs (c :: u)).all fun c => decide (c ∈ c6)) = false := by
            unfold okDigs at hk
            simp only [z1, decide_false, Bool.not_false, Bool.true_and, show (digs (c :: u)).length ≤ 9 by omega, decide_true] at hk
            exact hk
          rw [z3] at e
          exact ⟨r, start (seq_ret (if_t (or_f (s := st) (by simp [z1, hc0]) (or_f (s := st) (by simp; omega) (not_of (asB_of e)))) (by simp)))⟩
    | true =>
      obtain ⟨z1, z2, z3⟩ := okDigs_iff.mp hk
      have z4 : ((digs (c :: u)).all fun c => decide (c ∈ c6)) = true := by
        rw [List.all_eq_true]
        intro x hx
        exact decide_eq_true (mem_c6.mpr (z3 x hx))
      rw [z4] at e
      refine ⟨r, start (seq_nx (if_f (or_f (s := st) (by simp [z1, hc0]) (or_f (s := st) (by simp; omega) (not_of (asB_of e)))) (sNop_ap _ _)) ?_)⟩
      obtain ⟨d, ds, hds⟩ : ∃ d ds, digs (c :: u) = d :: ds := by
        cases hq : digs (c :: u) with
        | nil => exact (z1 hq).elim
        | cons d ds => exact ⟨d, ds, rfl⟩
      obtain ⟨i1, i2⟩ := int_word hk
      by_cases y : d = 48 ∧ c :: u ≠ [48]
      · have hv : wv (c :: u) = .str (c :: u) := by
          have : isI (c :: u) = false := by simp [isI, hk, hds, y.1]; simpa using y.2
          simp [wv, h1, this]
        rw [hv]
        refine seq_ret (if_t (s := st ++ r) ?_ (by simp))
        simp [hds, hc5, y.1]
        have y2 := y.2
        simp at y2
        by_cases hc48 : c = 48
        · exact .inr (y2 hc48)
        · exact .inl hc48
      · have hv : wv (c :: u) = .int (ival (c :: u)) := by
          have : isI (c :: u) = true := by
            simp [isI, hk, hds]
            by_cases q : d = 48
            · right
              have := fun z => y ⟨q, z⟩
              simpa using this
            · exact .inl q
          simp [wv, h1, this]
        rw [hv]
        refine seq_nx (σ' := [some (.str (c :: u)), some (.str (digs (c :: u))), none]) (s1 := st ++ r) ?_ ?_
        · by_cases q : d = 48
          · have : (c :: u) = [48] := by
              have := fun z => y ⟨q, z⟩
              simpa using this
            simp at this
            have hdg : digs [48] = [48] := rfl
            simp [hds, hc5, q, this, hdg]
          · simp [hds, hc5, q]
        · rw [hds]
          by_cases h : c = 45
          · have hdd : digs (c :: u) = u := by simp [digs, h]
            rw [hdd] at hds
            have hu : okDigs u = true ∧ digs u = u := by
              have : digs u = u := by
                apply digs_neg
                rw [hdd] at z3
                rw [hds] at z3 ⊢
                simp
                have := z3 d (by simp)
                omega
              exact ⟨okDigs_iff.mpr (by rw [this]; rw [hdd] at z1 z2 z3; exact ⟨z1, z2, z3⟩), this⟩
            obtain ⟨j1, j2⟩ := int_word hu.1
            have hiv : ival (c :: u) = 0 - ival u := by
              unfold ival
              have h45 : ¬ u[0]? = some 45 := by
                intro z
                have := digs_pos z
                rw [hu.2] at this
                have := congrArg List.length this
                simp at this
              rw [if_pos (by simp [h]), if_neg h45]
              simp
            have e5 : mInt [.str u] (st ++ r) = .ok (.int (ival u)) (st ++ r) := mInt_str j1 j2 _
            rw [hiv, ← hds]
            simp [hc7, h, e5]
          · have hdd : digs (c :: u) = c :: u := by simp [digs, h]
            rw [← hds, hdd]
            have e5 : mInt [.str (c :: u)] (st ++ r) = .ok (.int (ival (c :: u))) (st ++ r) := mInt_str i1 i2 _
            simp [hc7, h, e5]
end K76
end
section
set_option Elab.async false
set_option linter.all false
set_option maxRecDepth 100000
set_option maxHeartbeats 2000000
set_option autoImplicit false
/-! P76b: values written; same values. -/
namespace Mi
open PySem PySem.Spec L2
@[simp] theorem mIsi_ap (T : String) (f : Exp) (σ : Sl) (st : Sto) : mIsi T f σ st = (f σ st).bnd fun x s => M.opt ((tyN s x).map fun t => isiB t T) s := by
  show ((f σ st).bnd fun x s1 => M.look (fun st => (tyN st x).map fun t => isiB t T) s1) = _
  refine congrArg _ (funext fun x => funext fun s1 => ?_)
  rw [look_ap]
  cases (tyN s1 x).map fun t => isiB t T <;> rfl
theorem isi_of {T : String} {f : Exp} {σ : Sl} {st s : Sto} {x : MV} {t : String} {k : Bool} (h : f σ st = .ok x s) (ht : tyN s x = some t) (hk : isiB t T = k := by decide) : mIsi T f σ st = .ok k s := by
  rw [mIsi_ap, h, bnd_ok, ht, ← hk]
  rfl
@[simp] theorem isiB_tt : isiB "tuple" "tuple" = true := by decide
@[simp] theorem isiB_st : isiB "str" "tuple" = false := by decide
@[simp] theorem isiB_it : isiB "int" "tuple" = false := by decide
@[simp] theorem isiB_ss : isiB "str" "str" = true := by decide
@[simp] theorem isiB_is : isiB "int" "str" = false := by decide
@[simp] theorem isiB_ii : isiB "int" "int" = true := by decide
@[simp] theorem isiB_ib : isiB "int" "bool" = false := by decide
@[simp] theorem tyN_tup (st : Sto) (xs : List MV) : tyN st (.tup xs) = some "tuple" := rfl
@[simp] theorem tyN_str (st : Sto) (s : List Nat) : tyN st (.str s) = some "str" := rfl
@[simp] theorem tyN_int (st : Sto) (i : Int) : tyN st (.int i) = some "int" := rfl
@[simp] theorem mB_of {t : Tst} {σ : Sl} {st s : Sto} {k : Bool} (h : t σ st = .ok k s) : mB t σ st = .ok (.bl k) s := by rw [mB_ap, h]; rfl
theorem txts_map : ∀ ts : List (List Nat), txts (ts.map MV.str) = some ts
  | [] => rfl
  | t :: ts => by
    show (txts (ts.map MV.str)).map (t :: ·) = _
    rw [txts_map ts]
    rfl
theorem joinL_len {s : List Nat} (hs : s.length = 1) : ∀ ts : List (List Nat), (ts.map (·.length)).sum + ts.length * s.length ≤ (TL.joinL s ts).length + 1
  | [] => by simp
  | [t] => by
    show _ ≤ t.length + 1
    simp [hs]
  | t :: u :: r => by
    have ih := joinL_len hs (u :: r)
    have e : TL.joinL s (t :: u :: r) = t ++ (s ++ TL.joinL s (u :: r)) := rfl
    rw [e]
    rw [hs] at ih ⊢
    simp only [List.map_cons, List.sum_cons, List.length_cons, List.length_append, hs] at ih ⊢
    omega
theorem joinL_le {s : List Nat} : ∀ {ts : List (List Nat)} {t : List Nat}, t ∈ ts → t.length ≤ (TL.joinL s ts).length
  | [u], t, h => by
    simp at h
    subst h
    exact Nat.le_refl _
  | u :: v :: r, t, h => by
    have e : TL.joinL s (u :: v :: r) = u ++ (s ++ TL.joinL s (v :: r)) := rfl
    rw [e, List.length_append, List.length_append]
    rcases List.mem_cons.mp h with h | h
    · subst h; omega
    · have := joinL_le (s := s) h
      omega
theorem mJoin_ok {s : List Nat} {st : Sto} {n : Nat} {ts : List (List Nat)} (hs : s.length = 1) (h : st[n]? = some (.lst (ts.map MV.str))) (hl : (TL.joinL s ts).length ≤ 16000000) : mJoin (.str s) [.loc n] st = .ok (.str (TL.joinL s ts)) st := by
  show M.look (fun st => ((seqM st (.loc n)).bind txts).bind fun ss => if (ss.map (·.length)).sum + ss.length * s.length ≤ 16777216 ∧ (TL.joinL s ss).length ≤ 16777216 then some (MV.str (TL.joinL s ss)) else none) st = _
  rw [look_ap, seqM_loc h, Option.bind_some, txts_map, Option.bind_some]
  have := joinL_len hs ts
  rw [if_pos ⟨by omega, by omega⟩]
theorem depM_mem : ∀ {xs : List MV} {x : MV}, x ∈ xs → depM x ≤ depMs xs
  | y :: ys, x, h => by
    show _ ≤ max (depM y) (depMs ys)
    rcases List.mem_cons.mp h with h | h
    · subst h; omega
    · have := depM_mem h
      omega
theorem bls_true : ∀ {ys : List MV}, (∀ y ∈ ys, y = .bl true) → ∃ bs, bls ys = some bs ∧ bs.all id = true
  | [], _ => ⟨[], rfl, rfl⟩
  | y :: ys, h => by
    obtain ⟨bs, e1, e2⟩ := bls_true (ys := ys) fun z hz => h z (by simp [hz])
    have hy := h y (by simp)
    subst hy
    refine ⟨true :: bs, ?_, ?_⟩
    · show (bls ys).map (true :: ·) = _
      rw [e1]
      rfl
    · simpa using e2
theorem mAll_true {st : Sto} {n : Nat} {ys : List MV} (h : st[n]? = some (.lst ys)) (hy : ∀ y ∈ ys, y = .bl true) : mAll [.loc n] st = .ok (.bl true) st := by
  show M.look (fun st => ((lstAt st n).bind bls).map fun bs => MV.bl (bs.all id)) st = _
  obtain ⟨bs, e1, e2⟩ := bls_true hy
  rw [look_ap, lstAt_iff h, Option.bind_some, e1]
  show (Res.ok (MV.bl (bs.all id)) st : Res MV) = _
  rw [e2]
end Mi
namespace K76
open PySem PySem.Spec L2 Mi
mutual
/-- the text of a value -/
def W : MV → List Nat
  | .tup xs => 40 :: (TL.joinL [32] (Ws xs) ++ [41])
  | .str s => if s = [] then [46] else s
  | .int i => strI i
  | _ => []
def Ws : List MV → List (List Nat)
  | [] => []
  | x :: xs => W x :: Ws xs
end
mutual
/-- tuples, texts, numbers -/
def plain : MV → Bool
  | .tup xs => plains xs
  | .str _ => true
  | .int i => decide (i.natAbs < 10 ^ 12)
  | _ => false
def plains : List MV → Bool
  | [] => true
  | x :: xs => plain x && plains xs
end
theorem Ws_map : ∀ xs : List MV, Ws xs = xs.map W
  | [] => rfl
  | x :: xs => by
    show W x :: Ws xs = _
    rw [Ws_map xs]
    rfl
theorem plains_mem : ∀ {xs : List MV}, plains xs = true → ∀ x ∈ xs, plain x = true
  | [], _, x, h => by simp at h
  | y :: ys, h, x, hx => by
    have h' : (plain y && plains ys) = true := h
    rw [Bool.and_eq_true] at h'
    rcases List.mem_cons.mp hx with e | e
    · subst e; exact h'.1
    · exact plains_mem h'.2 x e
theorem plains_of : ∀ {xs : List MV}, (∀ x ∈ xs, plain x = true) → plains xs = true
  | [], _ => rfl
  | y :: ys, h => by
    show (plain y && plains ys) = true
    rw [h y (by simp), plains_of fun x hx => h x (by simp [hx])]
    rfl
theorem log_small {n : Nat} (h : n < 10 ^ 12) : n.log2 < 1920 := by
  by_cases h0 : n = 0
  · subst h0; decide
  · have := (Nat.log2_lt h0 (k := 40)).mpr (by omega)
    omega
theorem mStr_int {i : Int} (h : i.natAbs < 10 ^ 12) (hl : (strI i).length ≤ 16777216) (st : Sto) : mStr [.int i] st = .ok (.str (strI i)) st := by
  show (if i.natAbs.log2 < 1920 ∧ (strI i).length ≤ 16777216 then Pure.pure (.str (strI i)) else M.fail : M MV) st = _
  rw [if_pos ⟨log_small h, hl⟩]
  rfl
theorem write_ok : ∀ (n : Nat) (x : MV) (st : Sto), plain x = true → depM x < n → (W x).length ≤ 1000000 → ∃ g, D_write_state n [x] st = .ok (.str (W x)) (st ++ g)
  | 0, _, _, _, h, _ => by omega
  | n + 1, x, st, hp, hd, hl => by
    have hc0 : c0 = [] := rfl
    have hc1 : c1 = [46] := rfl
    have hc2 : c2 = [40] := rfl
    have hc3 : c3 = [32] := rfl
    have hc4 : c4 = [41] := rfl
    unfold D_write_state
    cases x with
    | tup xs =>
      have hW : W (.tup xs) = 40 :: (TL.joinL [32] (xs.map W) ++ [41]) := by
        show 40 :: (TL.joinL [32] (Ws xs) ++ [41]) = _
        rw [Ws_map]
      have hd' : depMs xs + 1 < n + 1 := hd
      rw [hW] at hl
      simp only [List.length_cons, List.length_append, List.length_nil] at hl
      have hjl := joinL_len (s := [32]) rfl (xs.map W)
      simp only [List.length_map, List.length_cons, List.length_nil] at hjl
      obtain ⟨r, e⟩ := mLc_ext (fi := mVar 0) (g := tgName 1) (f := mCall (D_write_state n) [mVar 1]) (vs := [1]) (σ := init0 2 [.tup xs]) (st := st) (xs := xs) (h := fun x => .str (W x)) (iSeq_tup (var_of rfl)) (fun x hx s => by
        have hlx : (W x).length ≤ 1000000 := by
          have := joinL_le (s := [32]) (List.mem_map_of_mem (f := W) hx)
          omega
        obtain ⟨g, e⟩ := write_ok n x s (plains_mem hp x hx) (by have := depM_mem hx; omega) hlx
        exact ⟨[some (.tup xs), some x], g, rfl, call1 (var_of rfl) e⟩) (by omega)
      refine ⟨.lst (xs.map fun x => .str (W x)) :: r, run_ret (seq_ret (if_t (asB_of (mB_of (isi_of (var_of rfl) rfl))) ?_))⟩
      refine ret_of (op_of (op_of (x := .str [40]) (y := .str (TL.joinL [32] (xs.map W))) (s1 := st) (s2 := st ++ .lst (xs.map fun x => .str (W x)) :: r) (by rw [mC_ap, hc2]) ?_ (mAdd_ss _ (by simp; omega))) (y := .str [41]) (by rw [mC_ap, hc4]) ?_)
      · rw [mMt_ap, mC_ap, bnd_ok]
        simp only [isS, if_true, mArgs_cons, e, bnd_ok, mArgs_nil, hc3]
        refine mJoin_ok (s := [32]) (ts := xs.map W) rfl ?_ (by omega)
        rw [List.getElem?_append_right (Nat.le_refl _)]
        simp
      · rw [mAdd_ss _ (by simp; omega), hW]
        rfl
    | str s =>
      have hW : W (.str s) = if s = [] then [46] else s := rfl
      refine ⟨[], ?_⟩
      by_cases h : s = []
      · subst h
        rw [hW]
        simp [hc0, hc1]
      · rw [hW, if_neg h]
        simp [hc0, h]
        rfl
    | int i =>
      refine ⟨[], ?_⟩
      have e := mStr_int (i := i) (of_decide_eq_true hp) (by have : (W (.int i)) = strI i := rfl; rw [this] at hl; omega) st
      simp [e, hc0]
      rfl
    | _ => cases hp

theorem same_ok : ∀ (n : Nat) (x : MV) (st : Sto), plain x = true → depM x < n → n ≤ 60 → (W x).length ≤ 1000000 → ∃ g, D__law_same n [x, x] st = .ok (.bl true) (st ++ g)
  | 0, _, _, _, h, _, _ => by omega
  | n + 1, x, st, hp, hd, hn, hl => by
    unfold D__law_same
    cases x with
    | tup xs =>
      have hW : W (.tup xs) = 40 :: (TL.joinL [32] (xs.map W) ++ [41]) := by
        show 40 :: (TL.joinL [32] (Ws xs) ++ [41]) = _
        rw [Ws_map]
      have hd' : depMs xs + 1 < n + 1 := hd
      rw [hW] at hl
      simp only [List.length_cons, List.length_append, List.length_nil] at hl
      have hjl := joinL_len (s := [32]) rfl (xs.map W)
      simp only [List.length_map, List.length_cons, List.length_nil] at hjl
      have hlen : ∀ s : Sto, mLen [.tup xs] s = .ok (.int xs.length) s := fun s => rfl
      obtain ⟨r, e2⟩ := mLc_any (it := iRange [mCallG mLen [mVar 0]]) (vs := [2]) (g := tgName 2) (f := mCall (D__law_same n) [mIx (mVar 0) (mVar 2), mIx (mVar 1) (mVar 2)]) (σ := [some (.tup xs), some (.tup xs), none]) (h := fun _ => .bl true) (st := st)
        (iRange1 (callG1 (var_of rfl) (hlen st)) (by omega) (by omega)) (fun y hy s => by
        obtain ⟨k, hk, rfl⟩ := mem_ints hy
        have hk' : k < xs.length := by simpa using hk
        have hx : xs[k]? = some xs[k] := List.getElem?_eq_getElem hk'
        have hmem : xs[k] ∈ xs := List.getElem_mem hk'
        have hlx : (W xs[k]).length ≤ 1000000 := by
          have := joinL_le (s := [32]) (List.mem_map_of_mem (f := W) hmem)
          omega
        obtain ⟨g, e⟩ := same_ok n xs[k] s (plains_mem hp _ hmem) (by have := depM_mem hmem; omega) (by omega) hlx
        refine ⟨[some (.tup xs), some (.tup xs), some (.int k)], g, rfl, ?_⟩
        have ek : atI xs (k : Int) = some xs[k] := by rw [Mi.atI_nat, hx]
        exact call2 (ix_of (var_of rfl) (var_of rfl) ek) (ix_of (var_of rfl) (var_of rfl) ek) e) (by rw [ints_len]; omega)
      refine ⟨.lst ((Mi.intsFrom 0 (xs.length : Int).toNat).map fun _ => .bl true) :: r, run_ret (seq_ret (if_t (asB_of (mB_of (isi_of (var_of rfl) rfl))) ?_))⟩
      refine seq_nx (if_f (s := st) (or_f (not_of (k := true) (asB_of (mB_of (isi_of (var_of rfl) rfl)))) (cmp_of (callG1 (var_of rfl) (hlen st)) (callG1 (var_of rfl) (hlen st)) (by simp))) (sNop_ap _ _)) ?_
      refine ret_of (callG1 e2 (mAll_true (ys := (Mi.intsFrom 0 (xs.length : Int).toNat).map fun _ => .bl true) ?_ ?_))
      · rw [List.getElem?_append_right (Nat.le_refl _)]
        simp
      · intro y hy
        obtain ⟨_, _, rfl⟩ := List.mem_map.mp hy
        rfl
    | str s => exact ⟨[], by simp⟩
    | int i =>
      refine ⟨[], ?_⟩
      simp [D__law_is_int]
    | _ => cases hp
end K76
end
section
set_option Elab.async false
set_option linter.all false
set_option maxRecDepth 100000
set_option maxHeartbeats 2000000
set_option autoImplicit false
/-! P76c: a word's value is written as the word. -/
namespace K76
open PySem PySem.Spec L2 Mi PySem.NumText PySem.W.KIN
theorem strI_nat (n : Nat) : strI (n : Int) = TL.numL n := by
  unfold strI TL.numL
  show (Nat.repr n).toList.map Char.toNat = _
  rw [Nat.toList_repr]
theorem strI_neg {n : Nat} (h : 0 < n) : strI (-(n : Int)) = 45 :: TL.numL n := by
  obtain ⟨m, rfl⟩ : ∃ m, n = m + 1 := ⟨n - 1, by omega⟩
  unfold strI TL.numL
  have e : (-((m + 1 : Nat) : Int)) = Int.negSucc m := rfl
  rw [e]
  show (("-" ++ (m + 1).repr : String)).toList.map Char.toNat = _
  rw [String.toList_append, Nat.toList_repr]
  rfl
theorem dv_snoc (l : List Nat) (c : Nat) : digitsVal (l ++ [c]) = digitsVal l * 10 + (c - 48) := digitsVal_snoc l c
/-- digits without a leading 0 are the number's own -/
theorem num_back : ∀ (n : Nat) (ds : List Nat), ds.length = n → AllDigits ds → ds ≠ [] → (ds[0]? ≠ some 48 ∨ ds = [48]) → TL.numL (digitsVal ds) = ds := by
  intro n
  induction n with
  | zero => exact fun ds hl _ h _ => (h (List.eq_nil_of_length_eq_zero hl)).elim
  | succ n ih =>
    intro ds hl had hne h0
    obtain ⟨l, c, rfl⟩ : ∃ l c, ds = l ++ [c] := ⟨ds.dropLast, ds.getLast hne, (List.dropLast_concat_getLast hne).symm⟩
    have hc := had c (by simp)
    rw [dv_snoc]
    by_cases hl0 : l = []
    · subst hl0
      have e : digitsVal [] * 10 + (c - 48) = c - 48 := by
        show 0 * 10 + (c - 48) = _
        omega
      rw [e, TL.numL_lt (by omega)]
      simp
      omega
    · have h1 : l[0]? ≠ some 48 := by
        rcases h0 with h0 | h0
        · cases l with
          | nil => exact (hl0 rfl).elim
          | cons a l => simpa using h0
        · cases l with
          | nil => exact (hl0 rfl).elim
          | cons a l =>
            have := congrArg List.length h0
            simp at this
      have hal : AllDigits l := fun x hx => had x (by simp [hx])
      have ihl := ih l (by simp at hl; omega) hal hl0 (.inl h1)
      have hpos : 1 ≤ digitsVal l := by
        by_cases hz : digitsVal l = 0
        · rw [hz, TL.numL_lt (by decide)] at ihl
          rw [← ihl] at h1
          exact (h1 rfl).elim
        · omega
      rw [TL.numL_step (by omega), show (digitsVal l * 10 + (c - 48)) / 10 = digitsVal l by omega, show (digitsVal l * 10 + (c - 48)) % 10 = c - 48 by omega, ihl]
      congr 1
      simp
      omega
theorem dv_lt : ∀ (ds : List Nat), AllDigits ds → digitsVal ds < 10 ^ ds.length := by
  intro ds
  induction hn : ds.length generalizing ds with
  | zero =>
    intro _
    have := List.eq_nil_of_length_eq_zero hn
    subst this
    decide
  | succ n ih =>
    intro had
    have hne : ds ≠ [] := by
      intro z
      subst z
      cases hn
    obtain ⟨l, c, rfl⟩ : ∃ l c, ds = l ++ [c] := ⟨ds.dropLast, ds.getLast hne, (List.dropLast_concat_getLast hne).symm⟩
    have hc := had c (by simp)
    have := ih l (by simp at hn; exact hn) fun x hx => had x (by simp [hx])
    rw [dv_snoc, Nat.pow_succ]
    omega
theorem W_wv {w : List Nat} (hw : w ≠ []) : W (wv w) = w := by
  unfold wv
  by_cases h1 : w = [46]
  · rw [if_pos h1, h1]
    rfl
  · rw [if_neg h1]
    by_cases h2 : isI w = true
    · rw [if_pos h2]
      show strI (ival w) = w
      obtain ⟨z1, z2, z3⟩ := okDigs_iff.mp (isI_ok h2)
      have h3 : (digs w)[0]? ≠ some 48 ∨ w = [48] := by
        unfold isI at h2
        rw [Bool.and_eq_true, Bool.or_eq_true, decide_eq_true_eq, decide_eq_true_eq] at h2
        exact h2.2
      by_cases hm : w[0]? = some 45
      · have e := digs_pos hm
        have h4 : (digs w)[0]? ≠ some 48 := by
          rcases h3 with h3 | h3
          · exact h3
          · rw [h3] at hm
            cases hm
        have hb := num_back _ (digs w) rfl z3 z1 (.inl h4)
        have hpos : 0 < digitsVal (digs w) := by
          by_cases hz : digitsVal (digs w) = 0
          · rw [hz, TL.numL_lt (by decide)] at hb
            rw [← hb] at h4
            exact (h4 rfl).elim
          · omega
        have hd : w.drop 1 = digs w := by unfold digs; rw [if_pos hm]
        unfold ival
        rw [if_pos hm, hd, strI_neg hpos, hb]
        exact e.symm
      · have e := digs_neg hm
        rw [e] at z1 z3 h3
        unfold ival
        rw [if_neg hm, strI_nat]
        exact num_back _ w rfl z3 z1 h3
    · rw [if_neg h2]
      show (if w = [] then [46] else w) = w
      rw [if_neg hw]
theorem plain_wv (w : List Nat) : plain (wv w) = true ∧ depM (wv w) = 0 := by
  unfold wv
  split
  · exact ⟨rfl, rfl⟩
  · split
    · rename_i h2
      refine ⟨?_, rfl⟩
      obtain ⟨z1, z2, z3⟩ := okDigs_iff.mp (isI_ok h2)
      refine decide_eq_true ?_
      unfold ival
      split
      · rename_i hm
        have hd : w.drop 1 = digs w := by unfold digs; rw [if_pos hm]
        have := dv_lt _ z3
        have h9 : 10 ^ (digs w).length ≤ 10 ^ 9 := Nat.pow_le_pow_right (by decide) z2
        rw [hd]
        omega
      · rename_i hm
        have e := digs_neg hm
        rw [e] at z2 z3
        have := dv_lt _ z3
        have h9 : 10 ^ w.length ≤ 10 ^ 9 := Nat.pow_le_pow_right (by decide) z2
        omega
    · exact ⟨rfl, rfl⟩
end K76
end
section
set_option Elab.async false
set_option linter.all false
set_option maxRecDepth 100000
set_option maxHeartbeats 2000000
set_option autoImplicit false
/-! P76d: reading, as a relation. -/
namespace K76
open PySem PySem.Spec L2 Mi
inductive Due where
  | begin | first | part | next
deriving DecidableEq
/-- what a reading comes to: a whole value, the rest, the place behind it; the first place that does not fit; too deep -/
inductive Out where
  | fin (v : MV) (rest : List Nat) (at_ : Nat) | bad (n : Nat) | deep
def sep (c : Nat) : Bool := c == 40 || (c == 41 || c == 32)
def noFit (c : Nat) (due : Due) : Prop := (c = 40 ∧ due = .next) ∨ (c = 41 ∧ (due = .begin ∨ due = .part)) ∨ (c = 32 ∧ due ≠ .next) ∨ (sep c = false ∧ (due = .begin ∨ due = .next))
inductive Rd : List Nat → Nat → List (List MV) → Due → Out → Prop
  | opn {rest : List Nat} {i : Nat} {stk : List (List MV)} {due : Due} {o : Out} : due ≠ .next → stk.length ≠ 12 → Rd rest (i + 1) ([] :: stk) .first o → Rd (40 :: rest) i stk due o
  | deep {rest : List Nat} {i : Nat} {stk : List (List MV)} {due : Due} : due ≠ .next → stk.length = 12 → Rd (40 :: rest) i stk due .deep
  | top {rest : List Nat} {i : Nat} {xs : List MV} {due : Due} : (due = .first ∨ due = .next) → Rd (41 :: rest) i [xs] due (.fin (.tup xs) rest (i + 1))
  | close {rest : List Nat} {i : Nat} {xs ys : List MV} {stk : List (List MV)} {due : Due} {o : Out} : (due = .first ∨ due = .next) → Rd rest (i + 1) ((ys ++ [.tup xs]) :: stk) .next o → Rd (41 :: rest) i (xs :: ys :: stk) due o
  | space {rest : List Nat} {i : Nat} {stk : List (List MV)} {o : Out} : Rd rest (i + 1) stk .part o → Rd (32 :: rest) i stk .next o
  | word {w rest : List Nat} {i : Nat} {xs : List MV} {stk : List (List MV)} {due : Due} {o : Out} : (due = .first ∨ due = .part) → w ≠ [] → (∀ c ∈ w, sep c = false) → (∀ c, rest.head? = some c → sep c = true) →
      Rd rest (i + w.length) ((xs ++ [wv w]) :: stk) .next o → Rd (w ++ rest) i (xs :: stk) due o
  | ends {i : Nat} {stk : List (List MV)} {due : Due} : Rd [] i stk due (.bad (i + 1))
  | bad {c : Nat} {rest : List Nat} {i : Nat} {stk : List (List MV)} {due : Due} : noFit c due → Rd (c :: rest) i stk due (.bad (i + 1))
/-- how the stack lies to what is due -/
def Fits : List (List MV) → Due → Prop
  | [], .begin => True
  | [] :: _, .first => True
  | (_ :: _) :: _, .part => True
  | (_ :: _) :: _, .next => True
  | _, _ => False
theorem fits_snoc (ys : List MV) (x : MV) (stk : List (List MV)) : Fits ((ys ++ [x]) :: stk) .next := by
  cases ys <;> exact True.intro
theorem split_word : ∀ (c : Nat) (l : List Nat), sep c = false → ∃ w rest, c :: l = w ++ rest ∧ w ≠ [] ∧ (∀ x ∈ w, sep x = false) ∧ ∀ x, rest.head? = some x → sep x = true
  | c, [], h => ⟨[c], [], rfl, by simp, by simpa using h, by simp⟩
  | c, d :: l, h => by
    cases hd : sep d with
    | true => exact ⟨[c], d :: l, rfl, by simp, by simpa using h, by simpa using hd⟩
    | false =>
      obtain ⟨w, rest, e, h1, h2, h3⟩ := split_word d l hd
      refine ⟨c :: w, rest, by rw [e]; rfl, by simp, fun x hx => ?_, h3⟩
      rcases List.mem_cons.mp hx with z | z
      · rw [z]; exact h
      · exact h2 x z
theorem rd_total : ∀ (n : Nat) (rest : List Nat) (i : Nat) (stk : List (List MV)) (due : Due), rest.length ≤ n → Fits stk due → ∃ o, Rd rest i stk due o := by
  intro n
  induction n with
  | zero =>
    intro rest i stk due hl hf
    have := List.eq_nil_of_length_eq_zero (Nat.le_zero.mp hl)
    subst this
    exact ⟨_, .ends⟩
  | succ n ih =>
    intro rest i stk due hl hf
    cases rest with
    | nil => exact ⟨_, .ends⟩
    | cons c rest =>
      have hl' : rest.length ≤ n := by simpa using hl
      by_cases h40 : c = 40
      · subst h40
        by_cases hd : due = .next
        · exact ⟨_, .bad (.inl ⟨rfl, hd⟩)⟩
        · by_cases h12 : stk.length = 12
          · exact ⟨_, .deep hd h12⟩
          · obtain ⟨o, h⟩ := ih rest (i + 1) ([] :: stk) .first hl' True.intro
            exact ⟨o, .opn hd h12 h⟩
      · by_cases h41 : c = 41
        · subst h41
          by_cases hd : due = .first ∨ due = .next
          · match stk, hf with
            | [xs], _ => exact ⟨_, .top hd⟩
            | xs :: ys :: stk, _ =>
              obtain ⟨o, h⟩ := ih rest (i + 1) ((ys ++ [.tup xs]) :: stk) .next hl' (fits_snoc _ _ _)
              exact ⟨o, .close hd h⟩
            | [], hf =>
              rcases hd with hd | hd
              · subst hd; exact hf.elim
              · subst hd; exact hf.elim
          · refine ⟨_, .bad (.inr (.inl ⟨rfl, ?_⟩))⟩
            cases due with
            | begin => exact .inl rfl
            | part => exact .inr rfl
            | first => exact (hd (.inl rfl)).elim
            | next => exact (hd (.inr rfl)).elim
        · by_cases h32 : c = 32
          · subst h32
            by_cases hd : due = .next
            · subst hd
              match stk, hf with
              | (y :: ys) :: stk, _ =>
                obtain ⟨o, h⟩ := ih rest (i + 1) ((y :: ys) :: stk) .part hl' True.intro
                exact ⟨o, .space h⟩
              | [] :: _, hf => exact hf.elim
              | [], hf => exact hf.elim
            · exact ⟨_, .bad (.inr (.inr (.inl ⟨rfl, hd⟩)))⟩
          · have hs : sep c = false := by simp [sep, h40, h41, h32]
            by_cases hd : due = .first ∨ due = .part
            · obtain ⟨w, r, e, h1, h2, h3⟩ := split_word c rest hs
              match stk, hf with
              | xs :: stk, _ =>
                have hlen : r.length ≤ n := by
                  have := congrArg List.length e
                  have hw : 0 < w.length := List.length_pos_iff.mpr h1
                  simp at this
                  omega
                obtain ⟨o, h⟩ := ih r (i + w.length) ((xs ++ [wv w]) :: stk) .next hlen (fits_snoc _ _ _)
                rw [e]
                exact ⟨o, .word hd h1 h2 h3 h⟩
              | [], hf =>
                rcases hd with hd | hd
                · subst hd; exact hf.elim
                · subst hd; exact hf.elim
            · refine ⟨_, .bad (.inr (.inr (.inr ⟨hs, ?_⟩)))⟩
              cases due with
              | begin => exact .inl rfl
              | next => exact .inr rfl
              | first => exact (hd (.inl rfl)).elim
              | part => exact (hd (.inr rfl)).elim
/-! ### what was read is what is written -/
def body (xs : List MV) : List Nat := 40 :: TL.joinL [32] (xs.map W)
def gap (ys : List MV) : List Nat := if ys = [] then [] else [32]
def ptx : List (List MV) → List Nat
  | [] => []
  | [xs] => body xs
  | xs :: ys :: stk => ptx (ys :: stk) ++ (gap ys ++ body xs)
theorem joinL_snoc (s t : List Nat) : ∀ ts : List (List Nat), ts ≠ [] → TL.joinL s (ts ++ [t]) = TL.joinL s ts ++ (s ++ t)
  | [], h => (h rfl).elim
  | [u], _ => rfl
  | u :: v :: r, _ => by
    have e : TL.joinL s (u :: v :: r) = u ++ (s ++ TL.joinL s (v :: r)) := rfl
    have e2 : TL.joinL s (u :: v :: r ++ [t]) = u ++ (s ++ TL.joinL s (v :: r ++ [t])) := rfl
    rw [e, e2, joinL_snoc s t (v :: r) (by simp)]
    simp
theorem body_snoc (ys : List MV) (x : MV) : body (ys ++ [x]) = body ys ++ (gap ys ++ W x) := by
  unfold body gap
  by_cases h : ys = []
  · subst h
    rfl
  · rw [if_neg h, List.map_append, List.map_cons, List.map_nil, joinL_snoc _ _ _ (by simpa using h)]
    rfl
theorem ptx_snoc (ys : List MV) (x : MV) (stk : List (List MV)) : ptx ((ys ++ [x]) :: stk) = ptx (ys :: stk) ++ (gap ys ++ W x) := by
  cases stk with
  | nil => exact body_snoc ys x
  | cons zs stk =>
    show ptx (zs :: stk) ++ (gap zs ++ body (ys ++ [x])) = (ptx (zs :: stk) ++ (gap zs ++ body ys)) ++ _
    rw [body_snoc]
    simp
def mark (due : Due) : List Nat := if due = .part then [32] else []
theorem W_tup (xs : List MV) : W (.tup xs) = body xs ++ [41] := by
  show 40 :: (TL.joinL [32] (Ws xs) ++ [41]) = _
  rw [Ws_map]
  rfl
theorem rd_text {rest : List Nat} {i : Nat} {stk : List (List MV)} {due : Due} {o : Out} (h : Rd rest i stk due o) : Fits stk due → ∀ v r j, o = .fin v r j → ptx stk ++ (mark due ++ rest) = W v ++ r := by
  induction h with
  | @opn rest i stk due o h1 h2 h3 ih =>
    intro hf v r j e
    have := ih True.intro v r j e
    rw [← this]
    match due, stk, hf with
    | .begin, [], _ => rfl
    | .first, [] :: stk, _ =>
      show _ = (ptx ([] :: stk) ++ (gap [] ++ body [])) ++ _
      simp [mark, gap, body, TL.joinL]
    | .part, (y :: ys) :: stk, _ =>
      show _ = (ptx ((y :: ys) :: stk) ++ (gap (y :: ys) ++ body [])) ++ _
      simp [mark, gap, body, TL.joinL]
    | .next, _, _ => exact (h1 rfl).elim
    | .begin, x :: stk, hf => cases x <;> exact hf.elim
  | deep h1 h2 => intro _ v r j e; cases e
  | @top rest i xs due hd =>
    intro hf v r j e
    cases e
    rw [W_tup]
    show body xs ++ _ = _
    rcases hd with hd | hd <;> subst hd <;> simp [mark]
  | @close rest i xs ys stk due o hd h1 ih =>
    intro hf v r j e
    have := ih (fits_snoc _ _ _) v r j e
    rw [← this, ptx_snoc, W_tup]
    show (ptx (ys :: stk) ++ (gap ys ++ body xs)) ++ _ = _
    rcases hd with hd | hd <;> subst hd <;> simp [mark]
  | @space rest i stk o h1 ih =>
    intro hf v r j e
    match stk, hf with
    | (y :: ys) :: stk, _ =>
      have := ih True.intro v r j e
      rw [← this]
      simp [mark]
  | @word w rest i xs stk due o hd hw h1 h2 h3 ih =>
    intro hf v r j e
    have := ih (fits_snoc _ _ _) v r j e
    rw [← this, ptx_snoc, W_wv hw]
    match due, xs, hf, hd with
    | .first, [], _, _ => simp [mark, gap]
    | .part, y :: ys, _, _ => simp [mark, gap]
    | .next, _, _, hd => rcases hd with hd | hd <;> cases hd
  | ends => intro _ v r j e; cases e
  | bad h => intro _ v r j e; cases e
/-- the values on the stack -/
def SOk : List (List MV) → Prop
  | [] => True
  | xs :: stk => (∀ x ∈ xs, plain x = true ∧ depM x + (stk.length + 1) ≤ 12) ∧ SOk stk
theorem dep_tup {xs : List MV} {n : Nat} : (∀ x ∈ xs, depM x ≤ n) → depM (.tup xs) ≤ n + 1 := by
  intro h
  show depMs xs + 1 ≤ n + 1
  have : depMs xs ≤ n := by
    induction xs with
    | nil => exact Nat.zero_le _
    | cons x xs ih =>
      show max (depM x) (depMs xs) ≤ n
      have h1 := h x (by simp)
      have h2 := ih fun y hy => h y (by simp [hy])
      omega
  omega
theorem rd_ok {rest : List Nat} {i : Nat} {stk : List (List MV)} {due : Due} {o : Out} (h : Rd rest i stk due o) : SOk stk → stk.length ≤ 12 → ∀ v r j, o = .fin v r j → plain v = true ∧ depM v ≤ 12 := by
  induction h with
  | @opn rest i stk due o h1 h2 h3 ih =>
    intro hs hl v r j e
    exact ih ⟨by simp, hs⟩ (by simp; omega) v r j e
  | deep h1 h2 => intro _ _ v r j e; cases e
  | @top rest i xs due hd =>
    intro hs hl v r j e
    cases e
    refine ⟨plains_of fun x hx => (hs.1 x hx).1, ?_⟩
    have := dep_tup (xs := xs) (n := 11) fun x hx => by
      have := (hs.1 x hx).2
      simp at this
      omega
    omega
  | @close rest i xs ys stk due o hd h1 ih =>
    intro hs hl v r j e
    refine ih ⟨fun x hx => ?_, hs.2.2⟩ (by simp at hl ⊢; omega) v r j e
    rcases List.mem_append.mp hx with hx | hx
    · exact hs.2.1 x hx
    · simp at hx
      subst hx
      refine ⟨plains_of fun x hx => (hs.1 x hx).1, ?_⟩
      have hlen : (ys :: stk).length + 1 ≤ 12 := by simpa using hl
      have := dep_tup (xs := xs) (n := 12 - ((ys :: stk).length + 1)) fun x hx => by
        have := (hs.1 x hx).2
        omega
      simp at this hlen ⊢
      omega
  | @space rest i stk o h1 ih =>
    intro hs hl v r j e
    exact ih hs hl v r j e
  | @word w rest i xs stk due o hd hw h1 h2 h3 ih =>
    intro hs hl v r j e
    refine ih ⟨fun x hx => ?_, hs.2⟩ hl v r j e
    rcases List.mem_append.mp hx with hx | hx
    · exact hs.1 x hx
    · simp at hx
      subst hx
      have := plain_wv w
      refine ⟨this.1, ?_⟩
      rw [this.2]
      simp at hl
      omega
  | ends => intro _ _ v r j e; cases e
  | bad h => intro _ _ v r j e; cases e
theorem rd_bad {rest : List Nat} {i : Nat} {stk : List (List MV)} {due : Due} {o : Out} (h : Rd rest i stk due o) : (∀ n, o = .bad n → 1 ≤ n ∧ n ≤ i + rest.length + 1) ∧ ∀ v r j, o = .fin v r j → j + r.length = i + rest.length := by
  induction h with
  | opn h1 h2 h3 ih => exact ⟨fun n e => by have := ih.1 n e; simp; omega, fun v r j e => by have := ih.2 v r j e; simp; omega⟩
  | deep h1 h2 => exact ⟨fun n e => (nomatch e), fun v r j e => nomatch e⟩
  | top hd => exact ⟨fun n e => (nomatch e), fun v r j e => by cases e; simp; omega⟩
  | close hd h1 ih => exact ⟨fun n e => by have := ih.1 n e; simp; omega, fun v r j e => by have := ih.2 v r j e; simp; omega⟩
  | space h1 ih => exact ⟨fun n e => by have := ih.1 n e; simp; omega, fun v r j e => by have := ih.2 v r j e; simp; omega⟩
  | word hd hw h1 h2 h3 ih => exact ⟨fun n e => by have := ih.1 n e; simp; omega, fun v r j e => by have := ih.2 v r j e; simp; omega⟩
  | ends => exact ⟨fun n e => by cases e; simp, fun v r j e => nomatch e⟩
  | bad h => exact ⟨fun n e => by cases e; simp, fun v r j e => nomatch e⟩
end K76
end
section
set_option Elab.async false
set_option linter.all false
set_option maxRecDepth 100000
set_option maxHeartbeats 2000000
set_option autoImplicit false
/-! P76e: a list of rows in the store. -/
namespace K76
open PySem PySem.Spec L2 Mi
/-- the rows at ls (the last one first) hold stk -/
def Rows (st : Sto) : List Nat → List (List MV) → Prop
  | [], [] => True
  | l :: ls, xs :: stk => st[l]? = some (.lst xs) ∧ Rows st ls stk
  | _, _ => False
structure Sk (st : Sto) (r : Nat) (ls : List Nat) (stk : List (List MV)) : Prop where
  at_ : st[r]? = some (.lst (ls.reverse.map MV.loc))
  rows : Rows st ls stk
  nd : (r :: ls).Nodup
/-- all else stays -/
structure Keep (st st' : Sto) (r : Nat) (ls : List Nat) : Prop where
  len : st.length ≤ st'.length
  at_ : ∀ q, q < st.length → q ≠ r → q ∉ ls → st'[q]? = st[q]?
theorem Rows.len : ∀ {ls : List Nat} {st : Sto} {stk : List (List MV)}, Rows st ls stk → ls.length = stk.length
  | [], _, [], _ => rfl
  | l :: ls, _, xs :: stk, h => by simp [Rows.len h.2]
  | [], _, _ :: _, h => h.elim
  | _ :: _, _, [], h => h.elim
theorem Rows.lt : ∀ {ls : List Nat} {st : Sto} {stk : List (List MV)}, Rows st ls stk → ∀ l ∈ ls, l < st.length
  | [], _, [], _, l, h => by simp at h
  | k :: ls, _, xs :: stk, h, l, hl => by
    rcases List.mem_cons.mp hl with e | e
    · subst e
      exact (List.getElem?_eq_some_iff.mp h.1).1
    · exact h.2.lt l e
  | [], _, _ :: _, h, _, _ => h.elim
  | _ :: _, _, [], h, _, _ => h.elim
theorem Rows.of {st st' : Sto} : ∀ {ls : List Nat} {stk : List (List MV)}, Rows st ls stk → (∀ l ∈ ls, st'[l]? = st[l]?) → Rows st' ls stk
  | [], [], _, _ => True.intro
  | l :: ls, xs :: stk, h, k => ⟨by rw [k l (by simp)]; exact h.1, h.2.of fun m hm => k m (by simp [hm])⟩
  | [], _ :: _, h, _ => h.elim
  | _ :: _, [], h, _ => h.elim
section
variable {st : Sto} {r : Nat} {ls : List Nat} {stk : List (List MV)}
theorem Sk.rlt (h : Sk st r ls stk) : r < st.length := (List.getElem?_eq_some_iff.mp h.at_).1
theorem Sk.app (h : Sk st r ls stk) (g : Sto) : Sk (st ++ g) r ls stk :=
  ⟨get_app h.at_, h.rows.of fun l hl => List.getElem?_append_left (h.rows.lt l hl), h.nd⟩
theorem Keep.refl : Keep st st r ls := ⟨Nat.le_refl _, fun _ _ _ _ => rfl⟩
theorem Keep.app (g : Sto) : Keep st (st ++ g) r ls := ⟨by simp, fun q hq _ _ => List.getElem?_append_left hq⟩
theorem Keep.trans {s1 s2 : Sto} {ls' : List Nat} (a : Keep st s1 r ls) (b : Keep s1 s2 r ls') (h : ∀ q, q < st.length → q ∉ ls → q ∉ ls') : Keep st s2 r ls :=
  ⟨Nat.le_trans a.len b.len, fun q hq h1 h2 => (b.at_ q (Nat.lt_of_lt_of_le hq a.len) h1 (h q hq h2)).trans (a.at_ q hq h1 h2)⟩
theorem set_ne {st : Sto} {n q : Nat} {o : MO} (h : q ≠ n) : (st.set n o)[q]? = st[q]? := List.getElem?_set_ne (Ne.symm h)
theorem set_eq {st : Sto} {n : Nat} {o : MO} (h : n < st.length) : (st.set n o)[n]? = some o := List.getElem?_set_self h
variable {fo : Exp} {σ : Sl}
theorem mAppend_ok {n : Nat} {xs : List MV} {x : MV} (h : st[n]? = some (.lst xs)) (hl : xs.length < 16777216) : mAppend (.loc n) [x] st = .ok .non (st.set n (.lst (xs ++ [x]))) := by
  show (match lstAt st n with | some ys => if ys.length < 16777216 then .ok .non (st.set n (.lst (ys ++ [x]))) else .fail | none => .fail : Res MV) = _
  rw [lstAt_iff h]
  show (if xs.length < 16777216 then _ else _) = _
  rw [if_pos hl]
theorem isL_ok {n : Nat} {xs : List MV} (h : st[n]? = some (.lst xs)) : isL st (.loc n) = true := by
  show (lstAt st n).isSome = true
  rw [lstAt_iff h]
  rfl
/-- rows.append([]) -/
theorem push_ok (h : Sk st r ls stk) (hf : fo σ st = .ok (.loc r) st) (hl : ls.length < 1000) :
    ∃ st', mMt isL mAppend fo [mLst []] σ st = .ok .non st' ∧ Sk st' r (st.length :: ls) ([] :: stk) ∧ Keep st st' r ls := by
  have hr := h.rlt
  have h1 : (st ++ [MO.lst []])[r]? = some (.lst (ls.reverse.map MV.loc)) := get_app h.at_
  refine ⟨(st ++ [MO.lst []]).set r (MO.lst (ls.reverse.map MV.loc ++ [MV.loc st.length])), ?_, ⟨?_, ⟨?_, ?_⟩, ?_⟩, ⟨by simp, fun q hq h2 h3 => ?_⟩⟩
  · rw [mMt_ap, hf, bnd_ok, isL_ok h.at_, if_pos rfl, mArgs_cons, mLst_ap, mArgs_nil]
    simp only [bnd_ok, mArgs_nil]
    exact mAppend_ok h1 (by simp; omega)
  · rw [set_eq (by simp; omega)]
    simp
  · rw [set_ne (by omega)]
    exact get_new
  · refine h.rows.of fun l hl => ?_
    have hlr : l ≠ r := fun z => (List.nodup_cons.mp h.nd).1 (z ▸ hl)
    rw [set_ne hlr]
    exact List.getElem?_append_left (h.rows.lt l hl)
  · have := h.nd
    rw [List.nodup_cons] at this ⊢
    refine ⟨?_, ?_⟩
    · intro z
      rcases List.mem_cons.mp z with e | e
      · omega
      · exact this.1 e
    · rw [List.nodup_cons]
      refine ⟨fun z => ?_, this.2⟩
      have := h.rows.lt _ z
      omega
  · rw [set_ne h2]
    exact List.getElem?_append_left hq
/-- tuple(rows.pop()) -/
theorem pop_ok {l : Nat} {xs : List MV} (h : Sk st r (l :: ls) (xs :: stk)) (hf : fo σ st = .ok (.loc r) st) :
    ∃ st', mCallG mTuple [mMt isL mPop fo []] σ st = .ok (.tup xs) st' ∧ Sk st' r ls stk ∧ Keep st st' r (l :: ls) := by
  have hr := h.rlt
  have e0 : (l :: ls).reverse.map MV.loc = ls.reverse.map MV.loc ++ [.loc l] := by simp
  have nd := h.nd
  rw [List.nodup_cons, List.nodup_cons] at nd
  have hlr : l ≠ r := fun z => nd.1 (z ▸ List.mem_cons_self)
  refine ⟨st.set r (.lst (ls.reverse.map MV.loc)), ?_, ⟨set_eq hr, h.rows.2.of fun m hm => set_ne fun z => nd.1 (z ▸ List.mem_cons_of_mem _ hm), ?_⟩, ⟨by simp, fun q hq h2 h3 => set_ne h2⟩⟩
  · have e1 : mPop (.loc r) [] st = .ok (.loc l) (st.set r (.lst (ls.reverse.map MV.loc))) := by
      show (match lstAt st r with | some ys => (match ys[ys.length - 1]? with | some y => .ok y (st.set r (.lst ys.dropLast)) | none => .fail) | none => .fail : Res MV) = _
      rw [lstAt_iff h.at_, e0]
      simp
    have e2 : mTuple [.loc l] (st.set r (.lst (ls.reverse.map MV.loc))) = .ok (.tup xs) (st.set r (.lst (ls.reverse.map MV.loc))) := by
      have hh : (st.set r (.lst (ls.reverse.map MV.loc)))[l]? = some (.lst xs) := by rw [set_ne hlr]; exact h.rows.1
      have := seqM_loc hh
      show M.look (fun st => (seqM st (.loc l)).map MV.tup) (st.set r (.lst (ls.reverse.map MV.loc))) = _
      rw [look_ap, this]
      rfl
    refine callG1 (x := .loc l) (s1 := st.set r (.lst (ls.reverse.map MV.loc))) ?_ e2
    rw [mMt_ap, hf, bnd_ok, isL_ok h.at_, if_pos rfl, mArgs_nil, bnd_ok, e1]
  · rw [List.nodup_cons]
    exact ⟨fun z => nd.1 (List.mem_cons_of_mem _ z), nd.2.2⟩
theorem top_ix {l : Nat} {xs : List MV} (h : Sk st r (l :: ls) (xs :: stk)) (hf : fo σ st = .ok (.loc r) st) : mIx fo (mNeg (mC (.int 1))) σ st = .ok (.loc l) st := by
  refine ix_of hf (i := .int (-1)) (by rw [mNeg_ap, mC_ap]; rfl) ?_
  rw [ixM_loc h.at_]
  have e0 : (l :: ls).reverse.map MV.loc = ls.reverse.map MV.loc ++ [.loc l] := by simp
  rw [e0]
  exact Mi.atI_last _ _
/-- rows[-1].append(e) -/
theorem add_ok {l : Nat} {xs : List MV} {fe : Exp} {x : MV} {s1 : Sto} (h : Sk st r (l :: ls) (xs :: stk)) (hf : fo σ st = .ok (.loc r) st) (he : fe σ st = .ok x s1) (h1 : Sk s1 r (l :: ls) (xs :: stk)) (hl : xs.length < 16777216) :
    ∃ st', mMt isL mAppend (mIx fo (mNeg (mC (.int 1)))) [fe] σ st = .ok .non st' ∧ Sk st' r (l :: ls) ((xs ++ [x]) :: stk) ∧ Keep s1 st' r (l :: ls) := by
  have nd := h.nd
  rw [List.nodup_cons, List.nodup_cons] at nd
  have hlr : r ≠ l := fun z => nd.1 (z ▸ List.mem_cons_self)
  have hlt : l < s1.length := (List.getElem?_eq_some_iff.mp h1.rows.1).1
  refine ⟨s1.set l (.lst (xs ++ [x])), ?_, ⟨?_, ⟨set_eq hlt, h1.rows.2.of fun m hm => set_ne fun z => nd.2.1 (z ▸ hm)⟩, h.nd⟩, ⟨by simp, fun q hq h2 h3 => set_ne fun z => h3 (z ▸ List.mem_cons_self)⟩⟩
  · rw [mMt_ap, top_ix h hf, bnd_ok, isL_ok h.rows.1, if_pos rfl, mArgs_cons, he]
    simp only [bnd_ok, mArgs_nil]
    exact mAppend_ok h1.rows.1 hl
  · rw [set_ne hlr]
    exact h1.at_
theorem len_ok (h : Sk st r ls stk) (hf : fo σ st = .ok (.loc r) st) : mCallG mLen [fo] σ st = .ok (.int stk.length) st := by
  refine callG1 hf ?_
  rw [mLen_loc h.at_]
  have := h.rows.len
  simp [this]
end
end K76
end
section
set_option Elab.async false
set_option linter.all false
set_option maxRecDepth 100000
set_option maxHeartbeats 2000000
set_option autoImplicit false
/-! P76f: the law's own reader. -/
namespace K76
open PySem PySem.Spec L2 Mi
abbrev rdT : Tst := (mCmp (gI fun i j => decide (i < j)) (mVar 4) (mCallG mLen [mVar 0]))
noncomputable abbrev rdB : Stm := (sSeq (sSet 5 (mIx (mVar 0) (mVar 4))) (sIf (tAnd2 (mCmp gEq (mVar 5) (mC (.str c2))) (mCmp (gInX false) (mVar 2) (mTup [mC (.str c31), mC (.str c30), mC (.str c29)]))) (sSeq (sIf (mCmp gEq (mCallG mLen [mVar 1]) (mC (.int 12))) (sRet (mTup [mC (.str c32), mC (.int 0)])) (sNop)) (sSeq (sExpr (mMt isL mAppend (mVar 1) [mLst []])) (sSeq (sSet 2 (mC (.str c30))) (sAug (fun i j => i + j) 4 (mC (.int 1)))))) (sIf (tAnd2 (mCmp gEq (mVar 5) (mC (.str c4))) (mCmp (gInX false) (mVar 2) (mTup [mC (.str c30), mC (.str c33)]))) (sSeq (sSet 3 (mCallG mTuple [mMt isL mPop (mVar 1) []])) (sSeq (sSet 2 (mC (.str c27))) (sSeq (sIf (mCmp (gI fun i j => decide (j < i)) (mCallG mLen [mVar 1]) (mC (.int 0))) (sSeq (sExpr (mMt isL mAppend (mIx (mVar 1) (mNeg (mC (.int 1)))) [mVar 3])) (sSet 2 (mC (.str c33)))) (sNop)) (sAug (fun i j => i + j) 4 (mC (.int 1)))))) (sIf (tAnd2 (mCmp gEq (mVar 5) (mC (.str c3))) (mCmp gEq (mVar 2) (mC (.str c33)))) (sSeq (sSet 2 (mC (.str c29))) (sAug (fun i j => i + j) 4 (mC (.int 1)))) (sIf (tAnd2 (mCmp (gInX true) (mVar 5) (mC (.str c34))) (mCmp (gInX false) (mVar 2) (mTup [mC (.str c30), mC (.str c29)]))) (sSeq (sSet 6 (mVar 4)) (sSeq (sWhile (tAnd2 (mCmp (gI fun i j => decide (i < j)) (mVar 6) (mCallG mLen [mVar 0])) (mCmp (gInX true) (mIx (mVar 0) (mVar 6)) (mC (.str c34)))) (sAug (fun i j => i + j) 6 (mC (.int 1)))) (sSeq (sExpr (mMt isL mAppend (mIx (mVar 1) (mNeg (mC (.int 1)))) [mCall D__law_meant [mSlice (mVar 0) (mPart (mVar 4)) (mPart (mVar 6))]])) (sSeq (sSet 2 (mC (.str c33))) (sSet 4 (mVar 6)))))) (sRet (mTup [mC (.str c28), mOp mAdd (mVar 4) (mC (.int 1))])))))))
abbrev rdR : Stm := (sSeq (sIf (mCmp gNe (mVar 2) (mC (.str c27))) (sRet (mTup [mC (.str c28), mOp mAdd (mCallG mLen [mVar 0]) (mC (.int 1))])) (sNop)) (sRet (mTup [mC (.str c26), mVar 3])))
theorem read_def : D__law_read = mRun 7 (sSeq (sSet 1 (mLst [])) (sSeq (sSet 2 (mC (.str c31))) (sSeq (sSet 3 (mTup [])) (sSeq (sSet 4 (mC (.int 0))) (sSeq (sWhile rdT rdB) rdR))))) := rfl
theorem aug_of {g : Int → Int → Int} {i : Nat} {fe : Exp} {σ : Sl} {st s : Sto} {k j : Int} (h : (σ[i]?).bind id = some (.int k)) (hf : fe σ st = .ok (.int j) s) : sAug g i fe σ st = .ok (.nx (σ.set i (some (.int (g k j))))) s := by
  unfold sAug
  rw [h]
  show catchX (fe σ) σ _ st = _
  rw [catchX_ap, hf]
  rfl
/-- the end of a word -/
theorem stop_loop (a b : Nat) (z text : List Nat) (hab : a ≠ b) : ∀ (w rest : List Nat) (σ : Sl) (st : Sto) (j : Nat), (σ[a]?) = some (some (.str text)) → σ[b]? = some (some (.int j)) → text.drop j = w ++ rest → (∀ c ∈ w, c ∉ z) → (∀ c, rest.head? = some c → c ∈ z) →
    sWhile (tAnd2 (mCmp (gI fun i j => decide (i < j)) (mVar b) (mCallG mLen [mVar a])) (mCmp (gInX true) (mIx (mVar a) (mVar b)) (mC (.str z)))) (sAug (fun i j => i + j) b (mC (.int 1))) σ st = .ok (.nx (σ.set b (some (.int (j + w.length))))) st
  | [], rest, σ, st, j, ha, hb, hd, _, hr => by
    have hσ : σ.set b (some (.int ((j : Int) + (([] : List Nat).length : Int)))) = σ := by
      have : (some (some (MV.int (j + ([] : List Nat).length)))) = σ[b]? := by rw [hb]; simp
      apply List.ext_getElem?
      intro n
      by_cases hn : n = b
      · subst hn
        have hlt : n < σ.length := (List.getElem?_eq_some_iff.mp hb).1
        rw [List.getElem?_set_self hlt, hb]
        simp
      · rw [List.getElem?_set_ne (Ne.symm hn)]
    rw [hσ]
    have va : mVar a σ st = .ok (.str text) st := var_of (by rw [ha]; rfl)
    have vb : mVar b σ st = .ok (.int j) st := var_of (by rw [hb]; rfl)
    refine while_stop ?_
    cases rest with
    | nil =>
      refine and_f (cmp_of vb (callG1 va (mLen_str _ _)) ?_)
      have : text.length ≤ j := by
        have := congrArg List.length hd
        simp at this
        omega
      simp
      omega
    | cons c rest =>
      have hc := hr c rfl
      have hlt : j < text.length := by
        have := congrArg List.length hd
        simp at this
        omega
      have hx : text[j]? = some c := by
        have := congrArg (fun l => l[0]?) hd
        simpa using this
      refine and_t (cmp_of vb (callG1 va (mLen_str _ _)) (k := true) (by simp; omega)) (cmp_of (ix_of va vb (y := .str [c]) ?_) (mC_ap _ _ _) ?_)
      · rw [ixM_str, Mi.atI_nat, hx]
        rfl
      · rw [gInX_s1]
        simp [hc]
  | c :: w, rest, σ, st, j, ha, hb, hd, hw, hr => by
    have va : mVar a σ st = .ok (.str text) st := var_of (by rw [ha]; rfl)
    have vb : mVar b σ st = .ok (.int j) st := var_of (by rw [hb]; rfl)
    have hlt : j < text.length := by
      have := congrArg List.length hd
      simp at this
      omega
    have hx : text[j]? = some c := by
      have := congrArg (fun l => l[0]?) hd
      simpa using this
    have hc := hw c (by simp)
    have hbl : b < σ.length := (List.getElem?_eq_some_iff.mp hb).1
    have ih := stop_loop a b z text hab w rest (σ.set b (some (.int ((j + 1 : Nat) : Int)))) st (j + 1) (by rw [List.getElem?_set_ne (Ne.symm hab)]; exact ha) (List.getElem?_set_self hbl) (by
      rw [← List.drop_drop, hd]
      rfl) (fun x hx => hw x (by simp [hx])) hr
    refine while_step (σ' := σ.set b (some (.int ((j + 1 : Nat) : Int)))) (s1 := st) (s2 := st) ?_ ?_ (r := _) (ih.trans ?_) (fun z => nomatch z)
    · refine and_t (cmp_of vb (callG1 va (mLen_str _ _)) (k := true) (by simp; omega)) (cmp_of (ix_of va vb (y := .str [c]) ?_) (mC_ap _ _ _) ?_)
      · rw [ixM_str, Mi.atI_nat, hx]
        rfl
      · rw [gInX_s1]
        simp [hc]
    · exact aug_of (by rw [hb]; rfl) (mC_ap _ _ _)
    · rw [List.set_set]
      congr 5
      simp
      omega
/-- due's word -/
def dn : Due → List Nat
  | .begin => c31
  | .first => c30
  | .part => c29
  | .next => c33
abbrev S (text : List Nat) (r : Nat) (due : List Nat) (dv : Option MV) (i : Nat) (a b : Option MV) : Sl := [some (.str text), some (.loc r), some (.str due), dv, some (.int i), a, b]
theorem dn_bfp (due : Due) (st : Sto) : gInX false st (.str (dn due)) (.tup [.str c31, .str c30, .str c29]) = some (decide (due ≠ .next)) := by cases due <;> rfl
theorem dn_fn (due : Due) (st : Sto) : gInX false st (.str (dn due)) (.tup [.str c30, .str c33]) = some (decide (due = .first ∨ due = .next)) := by cases due <;> rfl
theorem dn_fp (due : Due) (st : Sto) : gInX false st (.str (dn due)) (.tup [.str c30, .str c29]) = some (decide (due = .first ∨ due = .part)) := by cases due <;> rfl
theorem dn_n (due : Due) : decide (dn due = c33) = decide (due = .next) := by cases due <;> rfl
theorem dn_done (due : Due) : decide (dn due = c27) = false := by cases due <;> rfl
/-- what the own reader tells -/
def oval : Out → MV
  | .fin v [] _ => .tup [.str c26, v]
  | .fin v (_ :: _) j => .tup [.str c28, .int (j + 1)]
  | .bad n => .tup [.str c28, .int n]
  | .deep => .tup [.str c32, .int 0]
section
variable {text : List Nat} {r : Nat} {due : Due} {dv a b : Option MV} {i : Nat} {st : Sto} {ls : List Nat} {stk : List (List MV)} {c : Nat}
theorem t_in (h : i < text.length) (d : List Nat) : rdT (S text r d dv i a b) st = .ok true st := cmp_of (var_of rfl) (callG1 (var_of rfl) (mLen_str _ _)) (by simp; omega)
theorem t_out (h : i = text.length) (d : List Nat) : rdT (S text r d dv i a b) st = .ok false st := cmp_of (var_of rfl) (callG1 (var_of rfl) (mLen_str _ _)) (by simp; omega)
theorem set5 (h : text[i]? = some c) (d : List Nat) : sSet 5 (mIx (mVar 0) (mVar 4)) (S text r d dv i a b) st = .ok (.nx (S text r d dv i (some (.str [c])) b)) st := by
  have e : mIx (mVar 0) (mVar 4) (S text r d dv i a b) st = .ok (.str [c]) st := ix_of (var_of rfl) (var_of rfl) (by rw [ixM_str, Mi.atI_nat, h]; rfl)
  exact set_of e
theorem is_c {x : Nat} (z : List Nat) (d : List Nat) (hz : z = [x]) : mCmp gEq (mVar 5) (mC (.str z)) (S text r d dv i (some (.str [c])) b) st = .ok (decide (c = x)) st := cmp_of (var_of rfl) (mC_ap _ _ _) (by simp [hz])
theorem tup3 (x y z : List Nat) (σ : Sl) : mTup [mC (.str x), mC (.str y), mC (.str z)] σ st = .ok (.tup [.str x, .str y, .str z]) st := rfl
theorem aug4 (d : List Nat) : sAug (fun i j => i + j) 4 (mC (.int 1)) (S text r d dv i a b) st = .ok (.nx (S text r d dv (i + 1) a b)) st := aug_of (k := (i : Int)) rfl (mC_ap _ _ _)
theorem set2 (d : List Nat) {y : List Nat} : sSet 2 (mC (.str y)) (S text r d dv i a b) st = .ok (.nx (S text r y dv i a b)) st := rfl
theorem tup2 (x y : List Nat) (σ : Sl) : mTup [mC (.str x), mC (.str y)] σ st = .ok (.tup [.str x, .str y]) st := rfl
theorem seqW_step {t : Tst} {bd R : Stm} {σ σ' : Sl} {s0 s1 s2 : Sto} {x : Res Fl} (h : t σ s0 = .ok true s1) (hb : bd σ s1 = .ok (.nx σ') s2) (hw : sSeq (sWhile t bd) R σ' s2 = x) (hr : x ≠ .fail) : sSeq (sWhile t bd) R σ s0 = x := by
  have hne : sWhile t bd σ' s2 ≠ .fail := fun z => by
    rw [sSeq_ap, z] at hw
    exact hr hw.symm
  rw [sSeq_ap, while_step h hb rfl hne, ← sSeq_ap]
  exact hw
theorem seqW_ret {t : Tst} {bd R : Stm} {σ : Sl} {s0 s1 s2 : Sto} {v : MV} (h : t σ s0 = .ok true s1) (hb : bd σ s1 = .ok (.ret v) s2) : sSeq (sWhile t bd) R σ s0 = .ok (.ret v) s2 := seq_ret (while_ret h hb)
theorem c_open (due : Due) (s : Sto) : tAnd2 (mCmp gEq (mVar 5) (mC (.str c2))) (mCmp (gInX false) (mVar 2) (mTup [mC (.str c31), mC (.str c30), mC (.str c29)])) (S text r (dn due) dv i (some (.str [c])) b) s = .ok (decide (c = 40) && decide (due ≠ .next)) s := by
  by_cases h : c = 40
  · rw [show (decide (c = 40) && decide (due ≠ .next)) = decide (due ≠ .next) by simp [h]]
    exact and_t (by rw [is_c c2 (dn due) (x := 40) rfl]; simp [h]) (cmp_of (var_of rfl) (tup3 _ _ _ _) (dn_bfp due s))
  · rw [show (decide (c = 40) && decide (due ≠ .next)) = false by simp [h]]
    exact and_f (by rw [is_c c2 (dn due) (x := 40) rfl]; simp [h])
theorem c_close (due : Due) (s : Sto) : tAnd2 (mCmp gEq (mVar 5) (mC (.str c4))) (mCmp (gInX false) (mVar 2) (mTup [mC (.str c30), mC (.str c33)])) (S text r (dn due) dv i (some (.str [c])) b) s = .ok (decide (c = 41) && decide (due = .first ∨ due = .next)) s := by
  by_cases h : c = 41
  · rw [show (decide (c = 41) && decide (due = .first ∨ due = .next)) = decide (due = .first ∨ due = .next) by simp [h]]
    exact and_t (by rw [is_c c4 (dn due) (x := 41) rfl]; simp [h]) (cmp_of (var_of rfl) (tup2 _ _ _) (dn_fn due s))
  · rw [show (decide (c = 41) && decide (due = .first ∨ due = .next)) = false by simp [h]]
    exact and_f (by rw [is_c c4 (dn due) (x := 41) rfl]; simp [h])
theorem c_space (due : Due) (s : Sto) : tAnd2 (mCmp gEq (mVar 5) (mC (.str c3))) (mCmp gEq (mVar 2) (mC (.str c33))) (S text r (dn due) dv i (some (.str [c])) b) s = .ok (decide (c = 32) && decide (due = .next)) s := by
  by_cases h : c = 32
  · rw [show (decide (c = 32) && decide (due = .next)) = decide (due = .next) by simp [h]]
    exact and_t (by rw [is_c c3 (dn due) (x := 32) rfl]; simp [h]) (cmp_of (var_of rfl) (mC_ap _ _ _) (by rw [gEq_ss, dn_n]))
  · rw [show (decide (c = 32) && decide (due = .next)) = false by simp [h]]
    exact and_f (by rw [is_c c3 (dn due) (x := 32) rfl]; simp [h])
theorem sep_c34 (c : Nat) : decide (c ∈ c34) = sep c := by
  have : c34 = [40, 32, 41] := rfl
  rw [this]
  unfold sep
  rw [Bool.eq_iff_iff]
  simp
  omega
theorem c_word (due : Due) (s : Sto) : tAnd2 (mCmp (gInX true) (mVar 5) (mC (.str c34))) (mCmp (gInX false) (mVar 2) (mTup [mC (.str c30), mC (.str c29)])) (S text r (dn due) dv i (some (.str [c])) b) s = .ok (!sep c && decide (due = .first ∨ due = .part)) s := by
  have e1 : mCmp (gInX true) (mVar 5) (mC (.str c34)) (S text r (dn due) dv i (some (.str [c])) b) s = .ok (!sep c) s := cmp_of (var_of rfl) (mC_ap _ _ _) (by rw [gInX_s1, sep_c34]; rfl)
  cases h : sep c with
  | false =>
    rw [h] at e1
    exact and_t e1 (cmp_of (var_of rfl) (tup2 _ _ _) (dn_fp due s))
  | true =>
    rw [h] at e1
    exact and_f e1
end
theorem law_read_go {rest : List Nat} {i : Nat} {stk : List (List MV)} {due : Due} {o : Out} (h : Rd rest i stk due o) : ∀ (text : List Nat) (r : Nat) (ls : List Nat) (st : Sto) (dv a b : Option MV), text.drop i = rest → i ≤ text.length → Fits stk due → Sk st r ls stk → stk.length ≤ 12 →
    (∀ xs ∈ stk, xs.length + rest.length ≤ 1000000) → text.length ≤ 1000000 → ∃ st', sSeq (sWhile rdT rdB) rdR (S text r (dn due) dv i a b) st = .ok (.ret (oval o)) st' ∧ Keep st st' r ls := by
  induction h with
  | @opn rest i stk due o h1 h2 h3 ih =>
    intro text r ls st dv a b hd hi hf hs hl hx ht
    have hc : text[i]? = some 40 := by
      have := congrArg (fun l => l[0]?) hd
      simpa using this
    have hlt : i < text.length := (List.getElem?_eq_some_iff.mp hc).1
    have hls : ls.length < 1000 := by have := hs.rows.len; omega
    obtain ⟨s1, e1, k1, k2⟩ := push_ok (fo := mVar 1) (σ := S text r (dn due) dv i (some (.str [40])) b) hs (var_of rfl) hls
    have hd' : text.drop (i + 1) = rest := by
      rw [← List.drop_drop, hd]
      rfl
    obtain ⟨st', e2, k3⟩ := ih text r (st.length :: ls) s1 dv (some (.str [40])) b hd' hlt True.intro k1 (by simp; omega) (fun xs hxs => by
      rcases List.mem_cons.mp hxs with z | z
      · subst z
        have := congrArg List.length hd
        simp at this ⊢
        omega
      · have := hx xs z
        simp at this
        omega) ht
    refine ⟨st', seqW_step (t_in hlt _) (seq_nx (set5 hc _) (if_t ((c_open (c := 40) due st).trans (by simp [h1])) (seq_nx (if_f (cmp_of (len_ok hs (var_of rfl)) (mC_ap _ _ _) (by simp; omega)) (sNop_ap _ _)) (seq_nx (expr_of e1) (seq_nx (set2 _) (aug4 _)))))) e2 (fun z => nomatch z), k2.trans k3 fun q hq hn => ?_⟩
    · intro z
      rcases List.mem_cons.mp z with z | z
      · omega
      · exact hn z
  | @deep rest i stk due h1 h2 =>
    intro text r ls st dv a b hd hi hf hs hl hx ht
    have hc : text[i]? = some 40 := by
      have := congrArg (fun l => l[0]?) hd
      simpa using this
    have hlt : i < text.length := (List.getElem?_eq_some_iff.mp hc).1
    refine ⟨st, seqW_ret (t_in hlt _) (seq_nx (set5 hc _) (if_t ((c_open (c := 40) due st).trans (by simp [h1])) (seq_ret (if_t (cmp_of (len_ok hs (var_of rfl)) (mC_ap _ _ _) (by simp [h2])) (ret_of rfl))))), Keep.refl⟩
  | @top rest i xs due hd =>
    intro text r ls st dv a b hd' hi hf hs hl hx ht
    have hc : text[i]? = some 41 := by
      have := congrArg (fun l => l[0]?) hd'
      simpa using this
    have hlt : i < text.length := (List.getElem?_eq_some_iff.mp hc).1
    obtain ⟨l, rfl⟩ : ∃ l, ls = [l] := by
      have := hs.rows.len
      cases ls with
      | nil => cases this
      | cons l ls => cases ls with
        | nil => exact ⟨l, rfl⟩
        | cons m ls => simp at this
    obtain ⟨s1, e1, k1, k2⟩ := pop_ok (fo := mVar 1) (σ := S text r (dn due) dv i (some (.str [41])) b) hs (var_of rfl)
    have hd2 : text.drop (i + 1) = rest := by
      rw [← List.drop_drop, hd']
      rfl
    refine ⟨s1, seqW_step (t_in hlt _) (seq_nx (set5 hc _) (if_f ((c_open (c := 41) due st).trans (by simp)) (if_t ((c_close (c := 41) due st).trans (by simp [hd])) (seq_nx (set_of e1) (seq_nx (σ' := S text r c27 (some (.tup xs)) i (some (.str [41])) b) rfl (seq_nx (if_f (cmp_of (len_ok k1 (var_of rfl)) (mC_ap _ _ _) (by simp)) (sNop_ap _ _)) (aug4 _))))))) ?_ (fun z => nomatch z), k2⟩
    cases rest with
    | nil =>
      have hlen : i + 1 = text.length := by
        have := congrArg List.length hd2
        simp at this
        omega
      exact seq_nx (while_stop (t_out hlen _)) (seq_nx (if_f (cmp_of (var_of rfl) (mC_ap _ _ _) (by simp)) (sNop_ap _ _)) (ret_of rfl))
    | cons c rest =>
      have hc2 : text[i + 1]? = some c := by
        have := congrArg (fun l => l[0]?) hd2
        simpa using this
      have hlt2 : i + 1 < text.length := (List.getElem?_eq_some_iff.mp hc2).1
      have f1 : ∀ (z : List Nat) (x : Nat) (y : List Nat) (ys : List (List Nat)) (u : Exp) (bb : Option MV) (s : Sto), z = [x] → (∀ σ s, u σ s = .ok (.tup (ys.map MV.str)) s) → gInX false s (.str c27) (.tup (ys.map MV.str)) = some false → tAnd2 (mCmp gEq (mVar 5) (mC (.str z))) (mCmp (gInX false) (mVar 2) u) (S text r c27 (some (.tup xs)) (i + 1) (some (.str [c])) bb) s = .ok false s := by
        intro z x y ys u bb s hz hu hg
        by_cases h : c = x
        · exact and_t (by rw [is_c z c27 (x := x) hz]; simp [h]) (cmp_of (var_of rfl) (hu _ _) hg)
        · exact and_f (by rw [is_c z c27 (x := x) hz]; simp [h])
      refine seqW_ret (t_in hlt2 _) (seq_nx (set5 hc2 _) (if_f (f1 c2 40 [] [c31, c30, c29] _ _ _ rfl (fun _ _ => rfl) rfl) (if_f (f1 c4 41 [] [c30, c33] _ _ _ rfl (fun _ _ => rfl) rfl) (if_f (s := s1) ?_ (if_f (s := s1) ?_ (ret_of ?_))))))
      · by_cases h : c = 32
        · exact and_t (by rw [is_c c3 c27 (x := 32) rfl]; simp [h]) (cmp_of (var_of rfl) (mC_ap _ _ _) rfl)
        · exact and_f (by rw [is_c c3 c27 (x := 32) rfl]; simp [h])
      · have e1 : mCmp (gInX true) (mVar 5) (mC (.str c34)) (S text r c27 (some (.tup xs)) (i + 1) (some (.str [c])) b) s1 = .ok (!sep c) s1 := cmp_of (var_of rfl) (mC_ap _ _ _) (by rw [gInX_s1, sep_c34]; rfl)
        cases h : sep c with
        | false =>
          rw [h] at e1
          exact and_t e1 (cmp_of (var_of rfl) (tup2 _ _ _) rfl)
        | true =>
          rw [h] at e1
          exact and_f e1
      · simp [oval]
  | @close rest i xs ys stk due o hd h1 ih =>
    intro text r ls st dv a b hd' hi hf hs hl hx ht
    have hc : text[i]? = some 41 := by
      have := congrArg (fun l => l[0]?) hd'
      simpa using this
    have hlt : i < text.length := (List.getElem?_eq_some_iff.mp hc).1
    obtain ⟨l, m, ls, rfl⟩ : ∃ l m ls', ls = l :: m :: ls' := by
      have := hs.rows.len
      cases ls with
      | nil => cases this
      | cons l ls => cases ls with
        | nil => simp at this
        | cons m ls => exact ⟨l, m, ls, rfl⟩
    obtain ⟨s1, e1, k1, k2⟩ := pop_ok (fo := mVar 1) (σ := S text r (dn due) dv i (some (.str [41])) b) hs (var_of rfl)
    obtain ⟨s2, e2, k3, k4⟩ := add_ok (fo := mVar 1) (σ := S text r c27 (some (.tup xs)) i (some (.str [41])) b) (fe := mVar 3) k1 (var_of rfl) (var_of rfl) k1 (by have := hx ys (by simp); omega)
    have hd2 : text.drop (i + 1) = rest := by
      rw [← List.drop_drop, hd']
      rfl
    obtain ⟨st', e3, k5⟩ := ih text r (m :: ls) s2 (some (.tup xs)) (some (.str [41])) b hd2 hlt (fits_snoc _ _ _) k3 (by simp at hl ⊢; omega) (fun zs hzs => by
      rcases List.mem_cons.mp hzs with z | z
      · subst z
        have := hx ys (by simp)
        simp at this ⊢
        omega
      · have := hx zs (by simp [z])
        simp at this
        omega) ht
    refine ⟨st', seqW_step (t_in hlt _) (seq_nx (set5 hc _) (if_f ((c_open (c := 41) due st).trans (by simp)) (if_t ((c_close (c := 41) due st).trans (by simp [hd])) (seq_nx (set_of e1) (seq_nx (σ' := S text r c27 (some (.tup xs)) i (some (.str [41])) b) rfl (seq_nx (if_t (cmp_of (len_ok k1 (var_of rfl)) (mC_ap _ _ _) (by simp)) (seq_nx (expr_of e2) (set2 _))) (aug4 _))))))) e3 (fun z => nomatch z), ?_⟩
    refine k2.trans (k4.trans k5 fun q hq hn => hn) fun q hq hn => fun z => hn (by simp at z ⊢; exact .inr z)
  | @space rest i stk o h1 ih =>
    intro text r ls st dv a b hd' hi hf hs hl hx ht
    have hc : text[i]? = some 32 := by
      have := congrArg (fun l => l[0]?) hd'
      simpa using this
    have hlt : i < text.length := (List.getElem?_eq_some_iff.mp hc).1
    have hd2 : text.drop (i + 1) = rest := by
      rw [← List.drop_drop, hd']
      rfl
    have hf2 : Fits stk .part := by
      match stk, hf with
      | (y :: ys) :: stk, _ => exact True.intro
    obtain ⟨st', e3, k5⟩ := ih text r ls st dv (some (.str [32])) b hd2 hlt hf2 hs hl (fun zs hzs => by have := hx zs hzs; simp at this; omega) ht
    exact ⟨st', seqW_step (t_in hlt _) (seq_nx (set5 hc _) (if_f ((c_open (c := 32) .next st).trans (by simp)) (if_f ((c_close (c := 32) .next st).trans (by simp)) (if_t ((c_space (c := 32) .next st).trans (by simp)) (seq_nx (set2 _) (aug4 _)))))) e3 (fun z => nomatch z), k5⟩
  | @word w rest i xs stk due o hd hw h1 h2 h3 ih =>
    intro text r ls st dv a b hd' hi hf hs hl hx ht
    obtain ⟨c, u, rfl⟩ : ∃ c u, w = c :: u := by
      cases w with
      | nil => exact (hw rfl).elim
      | cons c u => exact ⟨c, u, rfl⟩
    have hc : text[i]? = some c := by
      have := congrArg (fun l => l[0]?) hd'
      simpa using this
    have hlt : i < text.length := (List.getElem?_eq_some_iff.mp hc).1
    have hsc := h1 c (by simp)
    have n40 : c ≠ 40 := fun z => by subst z; cases hsc
    have n41 : c ≠ 41 := fun z => by subst z; cases hsc
    have n32 : c ≠ 32 := fun z => by subst z; cases hsc
    obtain ⟨l, ls, rfl⟩ : ∃ l ls', ls = l :: ls' := by
      have := hs.rows.len
      cases ls with
      | nil => cases this
      | cons l ls => exact ⟨l, ls, rfl⟩
    have hlenT : (c :: u).length ≤ 16777216 := by
      have := congrArg List.length hd'
      simp at this ⊢
      omega
    obtain ⟨g, eg⟩ := meant_ok (w := c :: u) (by simp) hlenT st
    have es := stop_loop 0 6 c34 text (by decide) (c :: u) rest (S text r (dn due) dv i (some (.str [c])) (some (.int i))) st i rfl rfl hd' (fun x hx => by
      have := h1 x hx
      rw [← sep_c34] at this
      exact of_decide_eq_false this) (fun x hx => by
      have := h2 x hx
      rw [← sep_c34] at this
      exact of_decide_eq_true this)
    have ew : mCall D__law_meant [mSlice (mVar 0) (mPart (mVar 4)) (mPart (mVar 6))] (S text r (dn due) dv i (some (.str [c])) (some (.int (i + (c :: u).length)))) st = .ok (wv (c :: u)) (st ++ g) := by
      refine call1 (x := .str (c :: u)) (s1 := st) ?_ eg
      have e0 : cutL text (some (i : Int)) (some ((i : Int) + ((c :: u).length : Int))) = c :: u := by
        have : ((i : Int) + ((c :: u).length : Int)) = ((i + (c :: u).length : Nat) : Int) := by simp
        rw [this, cut_nat, hd']
        simp
      show slM (.str text) (some (i : Int)) (some ((i : Int) + ((c :: u).length : Int))) st = _
      rw [slM_str, e0]
    obtain ⟨s2, e2, k3, k4⟩ := add_ok (fo := mVar 1) (σ := S text r (dn due) dv i (some (.str [c])) (some (.int (i + (c :: u).length)))) (fe := mCall D__law_meant [mSlice (mVar 0) (mPart (mVar 4)) (mPart (mVar 6))]) hs (var_of rfl) ew (hs.app g) (by have := hx xs (by simp); omega)
    have hd2 : text.drop (i + (c :: u).length) = rest := by
      rw [← List.drop_drop, hd']
      simp
    have hi2 : i + (c :: u).length ≤ text.length := by
      have := congrArg List.length hd'
      simp at this ⊢
      omega
    obtain ⟨st', e3, k5⟩ := ih text r (l :: ls) s2 dv (some (.str [c])) (some (.int (i + (c :: u).length))) hd2 hi2 (fits_snoc _ _ _) k3 (by simpa using hl) (fun zs hzs => by
      rcases List.mem_cons.mp hzs with z | z
      · subst z
        have := hx xs (by simp)
        simp at this ⊢
        omega
      · have := hx zs (by simp [z])
        simp at this
        omega) ht
    refine ⟨st', seqW_step (σ' := S text r (dn .next) dv (i + (c :: u).length) (some (.str [c])) (some (.int (i + (c :: u).length)))) (s2 := s2) (t_in hlt _) (seq_nx (set5 hc _) (if_f ((c_open due st).trans (by simp [n40])) (if_f ((c_close due st).trans (by simp [n41])) (if_f ((c_space due st).trans (by simp [n32])) (if_t ((c_word due st).trans (by simp [hsc, hd])) (seq_nx (σ' := S text r (dn due) dv i (some (.str [c])) (some (.int i))) (s1 := st) rfl (seq_nx es (seq_nx (expr_of e2) (seq_nx (set2 _) ?_))))))))) e3 (fun z => nomatch z), ?_⟩
    · show Res.ok (Fl.nx [some (.str text), some (.loc r), some (.str c33), dv, some (.int (i + (c :: u).length)), some (.str [c]), some (.int (i + (c :: u).length))]) s2 = _
      congr 6
    · exact (Keep.app g).trans (k4.trans k5 fun q hq hn => hn) fun q hq hn => hn
  | @ends i stk due =>
    intro text r ls st dv a b hd' hi hf hs hl hx ht
    have hlen : i = text.length := by
      have := congrArg List.length hd'
      simp at this
      omega
    refine ⟨st, seq_nx (while_stop (t_out hlen _)) (seq_ret (if_t (cmp_of (var_of rfl) (mC_ap _ _ _) (by rw [gNe_ss, dn_done]; rfl)) (ret_of ?_))), Keep.refl⟩
    subst hlen
    simp [oval]
  | @bad c rest i stk due h =>
    intro text r ls st dv a b hd' hi hf hs hl hx ht
    have hc : text[i]? = some c := by
      have := congrArg (fun l => l[0]?) hd'
      simpa using this
    have hlt : i < text.length := (List.getElem?_eq_some_iff.mp hc).1
    have q1 : (decide (c = 40) && decide (due ≠ .next)) = false := by
      rcases h with ⟨rfl, rfl⟩ | ⟨rfl, h⟩ | ⟨rfl, h⟩ | ⟨h, _⟩
      · rfl
      · rfl
      · rfl
      · have : c ≠ 40 := fun z => by subst z; cases h
        simp [this]
    have q2 : (decide (c = 41) && decide (due = .first ∨ due = .next)) = false := by
      rcases h with ⟨rfl, rfl⟩ | ⟨rfl, h⟩ | ⟨rfl, h⟩ | ⟨h, _⟩
      · rfl
      · rcases h with h | h <;> subst h <;> rfl
      · rfl
      · have : c ≠ 41 := fun z => by subst z; cases h
        simp [this]
    have q3 : (decide (c = 32) && decide (due = .next)) = false := by
      rcases h with ⟨rfl, rfl⟩ | ⟨rfl, h⟩ | ⟨rfl, h⟩ | ⟨h, _⟩
      · rfl
      · rfl
      · simp [h]
      · have : c ≠ 32 := fun z => by subst z; cases h
        simp [this]
    have q4 : (!sep c && decide (due = .first ∨ due = .part)) = false := by
      rcases h with ⟨rfl, rfl⟩ | ⟨rfl, h⟩ | ⟨rfl, h⟩ | ⟨h, h'⟩
      · rfl
      · rfl
      · rfl
      · rcases h' with h' | h' <;> subst h' <;> simp
    refine ⟨st, seqW_ret (t_in hlt _) (seq_nx (set5 hc _) (if_f ((c_open due st).trans (by rw [q1])) (if_f ((c_close due st).trans (by rw [q2])) (if_f ((c_space due st).trans (by rw [q3])) (if_f ((c_word due st).trans (by rw [q4])) (ret_of ?_)))))), Keep.refl⟩
    simp [oval]
theorem law_read_ok {text : List Nat} {o : Out} (h : Rd text 0 [] .begin o) (ht : text.length ≤ 1000000) (st : Sto) : ∃ st', D__law_read [.str text] st = .ok (oval o) st' ∧ st.length ≤ st'.length ∧ ∀ q, q < st.length → st'[q]? = st[q]? := by
  have hs : Sk (st ++ [.lst []]) st.length [] [] := ⟨get_new, True.intro, by simp⟩
  obtain ⟨st', e, k⟩ := law_read_go h text st.length [] (st ++ [.lst []]) (some (.tup [])) none none rfl (Nat.zero_le _) True.intro hs (by simp) (by simp) ht
  refine ⟨st', ?_, by have := k.len; simp at this; omega, fun q hq => ?_⟩
  · rw [read_def]
    exact run_ret (seq_nx (σ' := [some (.str text), some (.loc st.length), none, none, none, none, none]) (s1 := st ++ [.lst []]) (by simp) (seq_nx (σ' := [some (.str text), some (.loc st.length), some (.str c31), none, none, none, none]) rfl (seq_nx (σ' := [some (.str text), some (.loc st.length), some (.str c31), some (.tup []), none, none, none]) (s1 := st ++ [.lst []]) (by simp) (seq_nx (σ' := S text st.length (dn .begin) (some (.tup [])) 0 none none) rfl e))))
  · rw [k.at_ q (by simp; omega) (by omega) (by simp)]
    exact List.getElem?_append_left hq
end K76
end
section
set_option Elab.async false
set_option linter.all false
set_option maxRecDepth 100000
set_option maxHeartbeats 2000000
set_option autoImplicit false
/-! P76g: the program's reader: its object's methods. -/
namespace K76
open PySem PySem.Spec L2 Mi
/-- the reading's fields -/
abbrev Fd (text : List Nat) (i : Nat) (r : Nat) (b : Bool) : List (Str × MV) := [("text", .str text), ("at", .int i), ("opened", .loc r), ("fresh", .bl b)]
structure PR (st : Sto) (p r : Nat) (ls : List Nat) (text : List Nat) (i : Nat) (stk : List (List MV)) (b : Bool) : Prop where
  ob : st[p]? = some (.ins 0 (Fd text i r b))
  sk : Sk st r ls stk
  ne : p ≠ r ∧ p ∉ ls
section
variable {st : Sto} {p r : Nat} {ls : List Nat} {text : List Nat} {i : Nat} {stk : List (List MV)} {b : Bool} {σ : Sl} {fo : Exp}
theorem ins_ok (h : PR st p r ls text i stk b) : insAt st 0 (.loc p) = some (Fd text i r b) := by
  show (match st[p]? with | some (.ins c' fs) => if c' = 0 then some fs else none | _ => none) = _
  rw [h.ob]
  rfl
theorem put_at (j : Nat) : putM "at" (.int j) (Fd text i r b) = Fd text j r b := rfl
theorem put_fresh (k : Bool) : putM "fresh" (.bl k) (Fd text i r b) = Fd text i r k := rfl
theorem fld_text (h : PR st p r ls text i stk b) (hf : fo σ st = .ok (.loc p) st) : mFld 0 "text" fo σ st = .ok (.str text) st := by
  rw [mFld_ap, hf, bnd_ok, ins_ok h]
  rfl
theorem fld_at (h : PR st p r ls text i stk b) (hf : fo σ st = .ok (.loc p) st) : mFld 0 "at" fo σ st = .ok (.int i) st := by
  rw [mFld_ap, hf, bnd_ok, ins_ok h]
  rfl
theorem fld_opened (h : PR st p r ls text i stk b) (hf : fo σ st = .ok (.loc p) st) : mFld 0 "opened" fo σ st = .ok (.loc r) st := by
  rw [mFld_ap, hf, bnd_ok, ins_ok h]
  rfl
theorem fld_fresh (h : PR st p r ls text i stk b) (hf : fo σ st = .ok (.loc p) st) : mFld 0 "fresh" fo σ st = .ok (.bl b) st := by
  rw [mFld_ap, hf, bnd_ok, ins_ok h]
  rfl
theorem PR.plt (h : PR st p r ls text i stk b) : p < st.length := (List.getElem?_eq_some_iff.mp h.ob).1
theorem PR.put (h : PR st p r ls text i stk b) (j : Nat) (k : Bool) : PR (st.set p (.ins 0 (Fd text j r k))) p r ls text j stk k :=
  ⟨set_eq h.plt, ⟨by rw [set_ne h.ne.1.symm]; exact h.sk.at_, h.sk.rows.of fun l hl => set_ne fun z => h.ne.2 (z ▸ hl), h.sk.nd⟩, h.ne⟩
theorem keep_put (o : MO) : Keep st (st.set p o) r (p :: ls) := ⟨by simp, fun q hq h1 h2 => set_ne fun z => h2 (z ▸ List.mem_cons_self)⟩
theorem setF_at (h : PR st p r ls text i stk b) (j : Nat) : setF 0 "at" (.loc p) (.int j) st = .ok () (st.set p (.ins 0 (Fd text j r b))) := by
  show (match MV.loc p, insAt st 0 (.loc p) with | .loc n, some fs => if fs.length < 1000 then .ok () (st.set n (.ins 0 (putM "at" (.int j) fs))) else .fail | _, _ => .fail : Res Unit) = _
  rw [ins_ok h]
  rfl
theorem setF_fresh (h : PR st p r ls text i stk b) (k : Bool) : setF 0 "fresh" (.loc p) (.bl k) st = .ok () (st.set p (.ins 0 (Fd text i r k))) := by
  show (match MV.loc p, insAt st 0 (.loc p) with | .loc n, some fs => if fs.length < 1000 then .ok () (st.set n (.ins 0 (putM "fresh" (.bl k) fs))) else .fail | _, _ => .fail : Res Unit) = _
  rw [ins_ok h]
  rfl
theorem s_at_add (h : PR st p r ls text i stk b) (hf : fo σ st = .ok (.loc p) st) : sFldAdd 0 "at" fo (mC (.int 1)) σ st = .ok (.nx σ) (st.set p (.ins 0 (Fd text (i + 1) r b))) := by
  show catchX _ σ _ st = _
  rw [catchX_ap]
  show (((fo σ st).bnd fun x s => _).cat σ _) = _
  rw [hf, bnd_ok]
  show ((((M.look fun st => (insAt st 0 (.loc p)).bind fun fs => fs.lookup ("at" : Str)) st).bnd fun z s => _).cat σ _) = _
  rw [look_ap, ins_ok h]
  show ((setF 0 "at" (.loc p) (.int ((i : Int) + 1)) st).cat σ _) = _
  rw [show ((i : Int) + 1) = ((i + 1 : Nat) : Int) by simp, setF_at h]
  rfl
theorem s_fresh (h : PR st p r ls text i stk b) (hf : fo σ st = .ok (.loc p) st) (k : Bool) : sFld 0 "fresh" fo (mC (.bl k)) σ st = .ok (.nx σ) (st.set p (.ins 0 (Fd text i r k))) := by
  rw [sFld_ap, mC_ap, bnd_ok, hf, bnd_ok, setF_fresh h]
  rfl
theorem s_at_set (h : PR st p r ls text i stk b) (hf : fo σ st = .ok (.loc p) st) {fe : Exp} {j : Nat} (he : fe σ st = .ok (.int j) st) : sFld 0 "at" fo fe σ st = .ok (.nx σ) (st.set p (.ins 0 (Fd text j r b))) := by
  rw [sFld_ap, he, bnd_ok, hf, bnd_ok, setF_at h]
  rfl
theorem meth_of {m : Str} {D : List MV → M MV} {w : Res MV} (h : PR st p r ls text i stk b) (hf : fo σ st = .ok (.loc p) st) (hm : (Fd text i r b).lookup m = none) (hd : D [.loc p] st = w) : mMeth 0 m D fo [] σ st = w := by
  rw [mMeth_ap, hf, bnd_ok, chkM_ap, ins_ok h]
  show (M.opt (if (Fd text i r b).lookup m = none then some () else none) st).bnd _ = _
  rw [if_pos hm, opt_some, bnd_ok, mArgs_nil, bnd_ok, hd]
theorem sign_ok (h : PR st p r ls text i stk b) : D_Reading_sign [.loc p] st = .ok (.str ((text.drop i).take 1)) st := by
  unfold D_Reading_sign
  refine run_ret (ret_of ?_)
  have v0 : mVar 0 (init0 1 [.loc p]) st = .ok (.loc p) st := rfl
  rw [mSlice_ap, fld_text h v0, bnd_ok, mPart_ap, fld_at h v0, bnd_ok]
  show ((mPart (mOp mAdd (mFld 0 "at" (mVar 0)) (mC (.int 1))) (init0 1 [.loc p]) st).bnd fun h s3 => slM (.str text) (some (i : Int)) h s3) = _
  rw [mPart_ap, op_of (fld_at h v0) (mC_ap _ _ _) (mAdd_ii _ _ _), bnd_ok]
  show slM (.str text) (some (i : Int)) (some ((i : Int) + 1)) st = _
  rw [slM_str, show ((i : Int) + 1) = ((i + 1 : Nat) : Int) by simp, cut_nat, show i + 1 - i = 1 by omega]
theorem strI_len {n : Nat} (h : n < 10 ^ 12) : (strI (n : Int)).length ≤ 12 := by
  rw [strI_nat]
  unfold TL.numL
  rw [List.length_map]
  exact (Nat.length_toDigits_le_iff (by decide) (by decide)).mpr h
theorem okNR_ok {n : Nat} (h : n < 10 ^ 12) : okNR [.int 1, .int (n : Int)] = true := by
  refine decide_eq_true ⟨by decide, log_small (by simpa using h), ?_, ?_⟩
  · exact Nat.le_trans (strI_len (n := 1) (by decide)) (by decide)
  · exact Nat.le_trans (strI_len h) (by decide)
/-- the fields of the error -/
abbrev exF (n : Nat) : List (Str × MV) := [("column", .int n), ("line", .int 1)]
theorem fail_ok (h : PR st p r ls text i stk b) (hi : i < 10 ^ 9) : D_Reading_fail [.loc p] st = .exc 0 (exF (i + 1)) st := by
  unfold D_Reading_fail
  have v0 : mVar 0 (init0 1 [.loc p]) st = .ok (.loc p) st := rfl
  refine run_exc (σ' := init0 1 [.loc p]) ?_
  show catchX _ _ _ st = _
  rw [catchX_ap, mArgs_cons, mC_ap, bnd_ok, mArgs_cons, op_of (fld_at h v0) (mC_ap _ _ _) (mAdd_ii _ _ _)]
  show (if okNR [.int 1, .int ((i : Int) + 1)] = true then Pure.pure (.exc 0 _ _) else M.fail : M Fl) st = _
  rw [show ((i : Int) + 1) = ((i + 1 : Nat) : Int) by simp, if_pos (okNR_ok (by omega))]
  rfl
theorem enter_ok (h : PR st p r ls text i stk b) (hl : stk.length < 12) : ∃ st', D_Reading_enter [.loc p] st = .ok .non st' ∧ PR st' p r (st.length :: ls) text (i + 1) ([] :: stk) true ∧ Keep st st' r (p :: ls) := by
  have v0 : ∀ s, mVar 0 (init0 1 [.loc p]) s = .ok (.loc p) s := fun s => rfl
  obtain ⟨s1, e1, k1, k2⟩ := push_ok (fo := mFld 0 "opened" (mVar 0)) (σ := init0 1 [.loc p]) h.sk (fld_opened h (v0 _)) (by have := h.sk.rows.len; omega)
  have h1 : PR s1 p r (st.length :: ls) text i ([] :: stk) b := ⟨by rw [k2.at_ p h.plt h.ne.1 h.ne.2]; exact h.ob, k1, h.ne.1, fun z => by
    rcases List.mem_cons.mp z with z | z
    · have := h.plt; omega
    · exact h.ne.2 z⟩
  have h2 := h1.put (i + 1) b
  have h3 := h2.put (i + 1) true
  refine ⟨_, ?_, h3, ?_⟩
  · unfold D_Reading_enter
    exact run_nx (seq_nx (if_f (cmp_of (len_ok h.sk (fld_opened h (v0 _))) (mC_ap _ _ _) (by simp; omega)) (sNop_ap _ _)) (seq_nx (expr_of e1) (seq_nx (s_at_add h1 (v0 _)) (s_fresh h2 (v0 _) true))))
  · have a : Keep st s1 r (p :: ls) := ⟨k2.len, fun q hq h1 h2 => k2.at_ q hq h1 fun z => h2 (List.mem_cons_of_mem _ z)⟩
    exact (a.trans (keep_put (p := p) (ls := ls) _) fun q _ z => z).trans (keep_put (p := p) (ls := ls) _) fun q _ z => z
theorem enter_deep (h : PR st p r ls text i stk b) (hl : stk.length = 12) : D_Reading_enter [.loc p] st = .exc 1 [("part", .str c9)] st := by
  have v0 : ∀ s, mVar 0 (init0 1 [.loc p]) s = .ok (.loc p) s := fun s => rfl
  unfold D_Reading_enter
  exact run_exc (σ' := init0 1 [.loc p]) (seq_exc (if_t (cmp_of (len_ok h.sk (fld_opened h (v0 _))) (mC_ap _ _ _) (by simp [hl])) rfl))
theorem word_stop_ok {w rest : List Nat} (hd : text.drop i = w ++ rest) (h1 : ∀ c ∈ w, sep c = false) (h2 : ∀ c, rest.head? = some c → sep c = true) (s : Sto) : D_word_stop [.str text, .int i] s = .ok (.int (i + w.length)) s := by
  have hz : ∀ c, decide (c ∈ c8) = sep c := fun c => by
    have : c8 = [32, 40, 41] := rfl
    rw [this]
    unfold sep
    rw [Bool.eq_iff_iff]
    simp
    omega
  have es := stop_loop 0 1 c8 text (by decide) w rest (init0 2 [.str text, .int i]) s i rfl rfl hd (fun x hx => by
    have := h1 x hx
    rw [← hz] at this
    exact of_decide_eq_false this) (fun x hx => by
    have := h2 x hx
    rw [← hz] at this
    exact of_decide_eq_true this)
  unfold D_word_stop
  exact run_ret (seq_nx es (ret_of (var_of rfl)))
end
end K76
end
section
set_option Elab.async false
set_option linter.all false
set_option maxRecDepth 100000
set_option maxHeartbeats 2000000
set_option autoImplicit false
/-! P76h: the program's reader. -/
namespace K76
open PySem PySem.Spec L2 Mi
abbrev pT : Tst := (mAsB (mC (.bl true)))
noncomputable abbrev pB : Stm := (sIf (mCmp gEq (mMeth 0 "sign" D_Reading_sign (mVar 1) []) (mC (.str c4))) (sSeq (sFldAdd 0 "at" (mVar 1) (mC (.int 1))) (sSeq (sSet 2 (mCallG mTuple [mMt isL mPop (mFld 0 "opened" (mVar 1)) []])) (sSeq (sIf (mCmp gEq (mCallG mLen [mFld 0 "opened" (mVar 1)]) (mC (.int 0))) (sBreak) (sNop)) (sSeq (sExpr (mMt isL mAppend (mIx (mFld 0 "opened" (mVar 1)) (mNeg (mC (.int 1)))) [mVar 2])) (sFld 0 "fresh" (mVar 1) (mC (.bl false))))))) (sIf (mAsB (mFld 0 "fresh" (mVar 1))) (sExpr (mMeth 0 "part" D_Reading_part (mVar 1) [])) (sIf (mCmp gEq (mMeth 0 "sign" D_Reading_sign (mVar 1) []) (mC (.str c3))) (sSeq (sFldAdd 0 "at" (mVar 1) (mC (.int 1))) (sExpr (mMeth 0 "part" D_Reading_part (mVar 1) []))) (sExpr (mMeth 0 "fail" D_Reading_fail (mVar 1) [])))))
noncomputable abbrev pR : Stm := (sSeq (sIf (mCmp (gI fun i j => decide (i < j)) (mFld 0 "at" (mVar 1)) (mCallG mLen [mVar 0])) (sExpr (mMeth 0 "fail" D_Reading_fail (mVar 1) [])) (sNop)) (sRet (mVar 2)))
section
variable {st : Sto} {p r : Nat} {ls : List Nat} {text : List Nat} {i : Nat} {stk : List (List MV)} {b : Bool} {σ : Sl} {fo : Exp}
theorem take1 {rest : List Nat} (h : text.drop i = rest) : (text.drop i).take 1 = rest.take 1 := by rw [h]
theorem sign_is {rest : List Nat} {z : List Nat} {k : Bool} (h : PR st p r ls text i stk b) (hf : fo σ st = .ok (.loc p) st) (hd : text.drop i = rest) (hk : decide (rest.take 1 = z) = k) : mCmp gEq (mMeth 0 "sign" D_Reading_sign fo []) (mC (.str z)) σ st = .ok k st := by
  have e : mMeth 0 "sign" D_Reading_sign fo [] σ st = .ok (.str ((text.drop i).take 1)) st := meth_of h hf rfl (sign_ok h)
  refine cmp_of e (mC_ap _ _ _) ?_
  rw [gEq_ss, hd, hk]
theorem part_open {rest : List Nat} (h : PR st p r ls text i stk b) (hd : text.drop i = 40 :: rest) (hl : stk.length < 12) : ∃ st', D_Reading_part [.loc p] st = .ok .non st' ∧ PR st' p r (st.length :: ls) text (i + 1) ([] :: stk) true ∧ Keep st st' r (p :: ls) := by
  obtain ⟨st', e, h1, h2⟩ := enter_ok h hl
  refine ⟨st', ?_, h1, h2⟩
  have v0 : ∀ s, mVar 0 (init0 2 [.loc p]) s = .ok (.loc p) s := fun s => rfl
  have em : mMeth 0 "enter" D_Reading_enter (mVar 0) [] (init0 2 [.loc p]) st = .ok .non st' := meth_of h (v0 _) rfl e
  unfold D_Reading_part
  exact run_ret (seq_ret (if_t (sign_is h (v0 _) hd rfl) (seq_nx (expr_of em) rfl)))
theorem part_deep {rest : List Nat} (h : PR st p r ls text i stk b) (hd : text.drop i = 40 :: rest) (hl : stk.length = 12) : D_Reading_part [.loc p] st = .exc 1 [("part", .str c9)] st := by
  have e := enter_deep h hl
  have v0 : ∀ s, mVar 0 (init0 2 [.loc p]) s = .ok (.loc p) s := fun s => rfl
  have em : mMeth 0 "enter" D_Reading_enter (mVar 0) [] (init0 2 [.loc p]) st = .exc 1 [("part", .str c9)] st := meth_of h (v0 _) rfl e
  unfold D_Reading_part
  exact run_exc (seq_exc (if_t (sign_is h (v0 _) hd rfl) (seq_exc (expr_exc em))))
theorem part_bad {rest : List Nat} (h : PR st p r ls text i stk b) (hd : text.drop i = rest) (hr : ∀ c, rest.head? = some c → c = 41 ∨ c = 32) (hi : i < 10 ^ 9) : D_Reading_part [.loc p] st = .exc 0 (exF (i + 1)) st := by
  have v0 : ∀ s, mVar 0 (init0 2 [.loc p]) s = .ok (.loc p) s := fun s => rfl
  have hc2 : c2 = [40] := rfl
  have n : decide (rest.take 1 = c2) = false := by
    rw [hc2]
    cases rest with
    | nil => rfl
    | cons c rest =>
      rcases hr c rfl with z | z <;> subst z <;> rfl
  have es := word_stop_ok (w := []) (rest := rest) hd (by simp) (fun c hc => by rcases hr c hc with z | z <;> subst z <;> rfl) st
  have v1 : ∀ s, mVar 0 [some (.loc p), some (.int ((i : Int) + (([] : List Nat).length : Int)))] s = .ok (.loc p) s := fun s => rfl
  have em : mMeth 0 "fail" D_Reading_fail (mVar 0) [] [some (.loc p), some (.int ((i : Int) + (([] : List Nat).length : Int)))] st = .exc 0 (exF (i + 1)) st := meth_of h (v1 _) rfl (fail_ok h hi)
  unfold D_Reading_part
  refine run_exc (seq_nx (if_f (sign_is h (v0 _) hd n) (sNop_ap _ _)) (seq_nx (set_of (call2 (fld_text h (v0 _)) (fld_at h (v0 _)) es)) (seq_exc (if_t (s := st) (cmp_of (var_of rfl) (fld_at h (v1 _)) (by simp)) (expr_exc em)))))
theorem part_word {w rest xs : List Nat} {ys : List MV} {stk : List (List MV)} {l : Nat} {ls : List Nat} (h : PR st p r (l :: ls) text i (ys :: stk) b) (hd : text.drop i = w ++ rest) (hw : w ≠ []) (h1 : ∀ c ∈ w, sep c = false) (h2 : ∀ c, rest.head? = some c → sep c = true) (hl : w.length ≤ 16777216) (hy : ys.length < 16777216) :
    ∃ st', D_Reading_part [.loc p] st = .ok .non st' ∧ PR st' p r (l :: ls) text (i + w.length) ((ys ++ [wv w]) :: stk) false ∧ Keep st st' r (p :: l :: ls) := by
  have v0 : ∀ s, mVar 0 (init0 2 [.loc p]) s = .ok (.loc p) s := fun s => rfl
  have hc2 : c2 = [40] := rfl
  obtain ⟨c, u, rfl⟩ : ∃ c u, w = c :: u := by
    cases w with
    | nil => exact (hw rfl).elim
    | cons c u => exact ⟨c, u, rfl⟩
  have hsc := h1 c (by simp)
  have n : decide (((c :: u) ++ rest).take 1 = c2) = false := by
    rw [hc2]
    have : c ≠ 40 := fun z => by subst z; cases hsc
    simp [this]
  have es := word_stop_ok hd h1 h2 st
  obtain ⟨g, eg⟩ := word_value_ok (w := c :: u) hw hl st
  have v1 : ∀ s, mVar 0 [some (.loc p), some (.int ((i : Int) + ((c :: u).length : Int)))] s = .ok (.loc p) s := fun s => rfl
  have ew : mCall D_word_value [mSlice (mFld 0 "text" (mVar 0)) (mPart (mFld 0 "at" (mVar 0))) (mPart (mVar 1))] [some (.loc p), some (.int ((i : Int) + ((c :: u).length : Int)))] st = .ok (wv (c :: u)) (st ++ g) := by
    refine call1 (x := .str (c :: u)) (s1 := st) ?_ eg
    have e0 : cutL text (some (i : Int)) (some ((i : Int) + ((c :: u).length : Int))) = c :: u := by
      have : ((i : Int) + ((c :: u).length : Int)) = ((i + (c :: u).length : Nat) : Int) := by simp
      rw [this, cut_nat, hd]
      simp
    rw [mSlice_ap, fld_text h (v1 _), bnd_ok, mPart_ap, fld_at h (v1 _), bnd_ok]
    show slM (.str text) (some (i : Int)) (some ((i : Int) + ((c :: u).length : Int))) st = _
    rw [slM_str, e0]
  obtain ⟨s2, e2, k3, k4⟩ := add_ok (fo := mFld 0 "opened" (mVar 0)) (σ := [some (.loc p), some (.int ((i : Int) + ((c :: u).length : Int)))]) (fe := mCall D_word_value [mSlice (mFld 0 "text" (mVar 0)) (mPart (mFld 0 "at" (mVar 0))) (mPart (mVar 1))]) h.sk (fld_opened h (v1 _)) ew (h.sk.app g) hy
  have hp2 : s2[p]? = some (.ins 0 (Fd text i r b)) := by
    rw [k4.at_ p (by have := h.plt; simp; omega) h.ne.1 h.ne.2]
    exact get_app h.ob
  have q1 : PR s2 p r (l :: ls) text i ((ys ++ [wv (c :: u)]) :: stk) b := ⟨hp2, k3, h.ne⟩
  have q2 := q1.put (i + (c :: u).length) b
  have q3 := q2.put (i + (c :: u).length) false
  refine ⟨_, ?_, q3, ?_⟩
  · unfold D_Reading_part
    refine run_nx (seq_nx (if_f (sign_is h (v0 _) hd n) (sNop_ap _ _)) (seq_nx (set_of (call2 (fld_text h (v0 _)) (fld_at h (v0 _)) es)) (seq_nx (if_f (s := st) (cmp_of (var_of rfl) (fld_at h (v1 _)) (by simp; omega)) (sNop_ap _ _)) (seq_nx (expr_of e2) (seq_nx (s_at_set (j := i + (c :: u).length) q1 (v1 _) (var_of (by simp))) (s_fresh q2 (v1 _) false))))))
  · have a : Keep st (st ++ g) r (p :: l :: ls) := Keep.app g
    have a2 : Keep (st ++ g) s2 r (p :: l :: ls) := ⟨k4.len, fun q hq h1 h2 => k4.at_ q hq h1 fun z => h2 (List.mem_cons_of_mem _ z)⟩
    exact ((a.trans a2 fun q _ z => z).trans (keep_put (p := p) (ls := l :: ls) _) fun q _ z => z).trans (keep_put (p := p) (ls := l :: ls) _) fun q _ z => z
theorem setF_gen {nm : Str} {y : MV} {fs : List (Str × MV)} (h : st[p]? = some (.ins 0 fs)) (hl : fs.length < 1000) : setF 0 nm (.loc p) y st = .ok () (st.set p (.ins 0 (putM nm y fs))) := by
  show (match MV.loc p, insAt st 0 (.loc p) with | .loc n, some fs => if fs.length < 1000 then .ok () (st.set n (.ins 0 (putM nm y fs))) else .fail | _, _ => .fail : Res Unit) = _
  have : insAt st 0 (.loc p) = some fs := by
    show (match st[p]? with | some (.ins c' fs) => if c' = 0 then some fs else none | _ => none) = _
    rw [h]
    rfl
  rw [this]
  show (if fs.length < 1000 then _ else _) = _
  rw [if_pos hl]
theorem fld_set {nm : Str} {y : MV} {fs : List (Str × MV)} {s1 : Sto} {fe : Exp} (he : fe σ st = .ok y s1) (hf : fo σ s1 = .ok (.loc p) s1) (h : s1[p]? = some (.ins 0 fs)) (hl : fs.length < 1000) : sFld 0 nm fo fe σ st = .ok (.nx σ) (s1.set p (.ins 0 (putM nm y fs))) := by
  rw [sFld_ap, he, bnd_ok, hf, bnd_ok, setF_gen h hl]
  rfl
end
abbrev F1 (text : List Nat) : List (Str × MV) := [("text", .str text)]
abbrev F2 (text : List Nat) : List (Str × MV) := [("text", .str text), ("at", .int 0)]
abbrev F3 (text : List Nat) (r : Nat) : List (Str × MV) := [("text", .str text), ("at", .int 0), ("opened", .loc r)]
/-- a new reading -/
theorem make_ok (text : List Nat) (st : Sto) (σ : Sl) (fe : Exp) (he : fe σ st = .ok (.str text) st) : mMake 0 D_Reading_init [fe] σ st = .ok (.loc st.length) (st ++ [.ins 0 (Fd text 0 (st.length + 1) true), .lst []]) := by
  rw [mMake_ap, mArgs_cons, he, bnd_ok, mArgs_nil]
  simp only [bnd_ok]
  have e : D_Reading_init [.loc st.length, .str text] (st ++ [.ins 0 []]) = .ok .non (st ++ [.ins 0 (Fd text 0 (st.length + 1) true), .lst []]) := by
    have v0 : ∀ s, mVar 0 (init0 2 [.loc st.length, .str text]) s = .ok (.loc st.length) s := fun s => rfl
    have v1 : ∀ s, mVar 1 (init0 2 [.loc st.length, .str text]) s = .ok (.str text) s := fun s => rfl
    have f1 := fld_set (nm := "text") (v1 (st ++ [.ins 0 []])) (v0 _) get_new (by decide)
    have s1 : (st ++ [MO.ins 0 []]).set st.length (.ins 0 (putM "text" (.str text) [])) = st ++ [.ins 0 (F1 text)] := by
      rw [List.set_append_right _ _ (Nat.le_refl _)]
      have : putM "text" (.str text) [] = F1 text := rfl
      rw [this]
      simp
    rw [s1] at f1
    have f2 := fld_set (nm := "at") (fe := mC (.int 0)) (mC_ap (.int 0) (init0 2 [.loc st.length, .str text]) (st ++ [.ins 0 (F1 text)])) (v0 _) get_new (by simp)
    have s2 : (st ++ [MO.ins 0 (F1 text)]).set st.length (.ins 0 (putM "at" (.int 0) (F1 text))) = st ++ [.ins 0 (F2 text)] := by
      rw [List.set_append_right _ _ (Nat.le_refl _)]
      have : putM "at" (.int 0) [(("text" : Str), MV.str text)] = F2 text := rfl
      rw [this]
      simp
    rw [s2] at f2
    have el : mLst [] (init0 2 [.loc st.length, .str text]) (st ++ [MO.ins 0 (F2 text)]) = .ok (.loc (st.length + 1)) (st ++ [MO.ins 0 (F2 text), .lst []]) := by
      rw [mLst_ap, mArgs_nil, bnd_ok]
      simp
    have g3 : (st ++ [MO.ins 0 (F2 text), .lst []])[st.length]? = some (MO.ins 0 (F2 text)) := by
      rw [List.getElem?_append_right (Nat.le_refl _)]
      simp
    have f3 := fld_set (nm := "opened") el (v0 _) g3 (by simp)
    have s3 : (st ++ [MO.ins 0 (F2 text), .lst []]).set st.length (.ins 0 (putM "opened" (.loc (st.length + 1)) (F2 text))) = st ++ [.ins 0 (F3 text (st.length + 1)), .lst []] := by
      rw [List.set_append_right _ _ (Nat.le_refl _)]
      have : putM "opened" (.loc (st.length + 1)) (F2 text) = F3 text (st.length + 1) := rfl
      rw [this]
      simp
    rw [s3] at f3
    have g4 : (st ++ [MO.ins 0 (F3 text (st.length + 1)), .lst []])[st.length]? = some (MO.ins 0 (F3 text (st.length + 1))) := by
      rw [List.getElem?_append_right (Nat.le_refl _)]
      simp
    have f4 := fld_set (nm := "fresh") (fe := mC (.bl true)) (mC_ap (.bl true) (init0 2 [.loc st.length, .str text]) (st ++ [MO.ins 0 (F3 text (st.length + 1)), .lst []])) (v0 _) g4 (by simp)
    have s4 : (st ++ [MO.ins 0 (F3 text (st.length + 1)), .lst []]).set st.length (.ins 0 (putM "fresh" (.bl true) (F3 text (st.length + 1)))) = st ++ [.ins 0 (Fd text 0 (st.length + 1) true), .lst []] := by
      rw [List.set_append_right _ _ (Nat.le_refl _)]
      have : putM "fresh" (.bl true) (F3 text (st.length + 1)) = Fd text 0 (st.length + 1) true := rfl
      rw [this]
      simp
    rw [s4] at f4
    unfold D_Reading_init
    exact run_nx (seq_nx f1 (seq_nx f2 (seq_nx f3 f4)))
  rw [e]
  rfl
end K76
end
section
set_option Elab.async false
set_option linter.all false
set_option maxRecDepth 100000
set_option maxHeartbeats 2000000
set_option autoImplicit false
/-! P76i: the program's reader reads as the relation says. -/
namespace K76
open PySem PySem.Spec L2 Mi
abbrev Sp (text : List Nat) (p : Nat) (dv : Option MV) : Sl := [some (.str text), some (.loc p), dv]
noncomputable abbrev loop (text : List Nat) (p : Nat) (dv : Option MV) (st : Sto) : Res Fl := sSeq (sWhile pT pB) pR (Sp text p dv) st
/-- part() and what comes behind -/
noncomputable def partThen (text : List Nat) (p : Nat) (dv : Option MV) (st : Sto) : Res Fl := match D_Reading_part [.loc p] st with
  | .ok _ s1 => loop text p dv s1
  | .exc c fs s1 => .ok (.exc c fs (Sp text p dv)) s1
  | .fail => .fail
def Rs (o : Out) (x : Res Fl) (st' : Sto) : Prop := match o with
  | .fin v [] _ => x = .ok (.ret v) st'
  | .fin _ (_ :: _) j => ∃ σ, x = .ok (.exc 0 (exF (j + 1)) σ) st'
  | .bad n => ∃ σ, x = .ok (.exc 0 (exF n) σ) st'
  | .deep => ∃ σ, x = .ok (.exc 1 [("part", .str c9)] σ) st'
theorem Rs.ne {o : Out} {x : Res Fl} {st' : Sto} (h : Rs o x st') : x ≠ .fail := by
  intro z
  subst z
  unfold Rs at h
  split at h
  · cases h
  · obtain ⟨_, h⟩ := h; cases h
  · obtain ⟨_, h⟩ := h; cases h
  · obtain ⟨_, h⟩ := h; cases h
section
variable {st : Sto} {p r : Nat} {ls : List Nat} {text : List Nat} {i : Nat} {stk : List (List MV)} {dv : Option MV}
theorem pT_ok (σ : Sl) : pT σ st = .ok true st := asB_of (mC_ap _ _ _)
theorem vp {f : Option MV} (s : Sto) : mVar 1 (Sp text p f) s = .ok (.loc p) s := rfl
theorem seqW_exc {t : Tst} {bd R : Stm} {σ σ' : Sl} {s0 s1 s2 : Sto} {c : Nat} {fs : List (Str × MV)} (h : t σ s0 = .ok true s1) (hb : bd σ s1 = .ok (.exc c fs σ') s2) : sSeq (sWhile t bd) R σ s0 = .ok (.exc c fs σ') s2 := seq_exc (while_exc h hb)
theorem part_stmt {b : Bool} {x : Res Fl} (h : PR st p r ls text i stk b) (hx : partThen text p dv st = x) (hne : x ≠ .fail) : (∃ s1, sExpr (mMeth 0 "part" D_Reading_part (mVar 1) []) (Sp text p dv) st = .ok (.nx (Sp text p dv)) s1 ∧ loop text p dv s1 = x) ∨
    ∃ c fs s1, sExpr (mMeth 0 "part" D_Reading_part (mVar 1) []) (Sp text p dv) st = .ok (.exc c fs (Sp text p dv)) s1 ∧ x = .ok (.exc c fs (Sp text p dv)) s1 := by
  unfold partThen at hx
  cases q : D_Reading_part [.loc p] st with
  | ok v s1 =>
    rw [q] at hx
    exact .inl ⟨s1, expr_of (meth_of h (vp _) rfl q), hx⟩
  | exc c fs s1 =>
    rw [q] at hx
    exact .inr ⟨c, fs, s1, expr_exc (meth_of h (vp _) rfl q), hx.symm⟩
  | fail =>
    rw [q] at hx
    exact (hne hx.symm).elim
theorem not_close {rest : List Nat} (hc : rest.head? ≠ some 41) : decide (rest.take 1 = c4) = false := by
  have : c4 = [41] := rfl
  rw [this]
  cases rest with
  | nil => rfl
  | cons c rest =>
    have : c ≠ 41 := fun z => hc (by simp [z])
    simp [this]
theorem loop_fresh {rest : List Nat} {x : Res Fl} (h : PR st p r ls text i stk true) (hd : text.drop i = rest) (hc : rest.head? ≠ some 41) (hx : partThen text p dv st = x) (hne : x ≠ .fail) : loop text p dv st = x := by
  have c1 := sign_is (z := c4) h (vp (text := text) (f := dv) st) hd (not_close hc)
  have c2 : mAsB (mFld 0 "fresh" (mVar 1)) (Sp text p dv) st = .ok true st := asB_of (fld_fresh h (vp _))
  rcases part_stmt h hx hne with ⟨s1, e1, e2⟩ | ⟨c, fs, s1, e1, e2⟩
  · exact seqW_step (pT_ok _) (if_f c1 (if_t c2 e1)) e2 hne
  · rw [e2]
    exact seqW_exc (pT_ok _) (if_f c1 (if_t c2 e1))
theorem loop_space {rest : List Nat} {x : Res Fl} (h : PR st p r ls text i stk false) (hd : text.drop i = 32 :: rest) (hx : partThen text p dv (st.set p (.ins 0 (Fd text (i + 1) r false))) = x) (hne : x ≠ .fail) : loop text p dv st = x := by
  have c1 := sign_is (z := c4) h (vp (text := text) (f := dv) st) hd (not_close (by simp))
  have c2 : mAsB (mFld 0 "fresh" (mVar 1)) (Sp text p dv) st = .ok false st := asB_of (fld_fresh h (vp _))
  have c3' := sign_is (z := c3) (k := true) h (vp (text := text) (f := dv) st) hd rfl
  have e0 := s_at_add h (vp (text := text) (f := dv) st)
  have h1 := h.put (i + 1) false
  rcases part_stmt h1 hx hne with ⟨s1, e1, e2⟩ | ⟨c, fs, s1, e1, e2⟩
  · exact seqW_step (pT_ok _) (if_f c1 (if_f c2 (if_t c3' (seq_nx e0 e1)))) e2 hne
  · rw [e2]
    exact seqW_exc (pT_ok _) (if_f c1 (if_f c2 (if_t c3' (seq_nx e0 e1))))
theorem loop_bad {rest : List Nat} (h : PR st p r ls text i stk false) (hd : text.drop i = rest) (hc : rest.head? ≠ some 41) (hc2 : rest.head? ≠ some 32) (hi : i < 10 ^ 9) : loop text p dv st = .ok (.exc 0 (exF (i + 1)) (Sp text p dv)) st := by
  have c1 := sign_is (z := c4) h (vp (text := text) (f := dv) st) hd (not_close hc)
  have c2 : mAsB (mFld 0 "fresh" (mVar 1)) (Sp text p dv) st = .ok false st := asB_of (fld_fresh h (vp _))
  have n3 : decide (rest.take 1 = c3) = false := by
    have : c3 = [32] := rfl
    rw [this]
    cases rest with
    | nil => rfl
    | cons c rest =>
      have : c ≠ 32 := fun z => hc2 (by simp [z])
      simp [this]
  have c3' := sign_is (z := c3) h (vp (text := text) (f := dv) st) hd n3
  exact seqW_exc (pT_ok _) (if_f c1 (if_f c2 (if_f c3' (expr_exc (meth_of h (vp _) rfl (fail_ok h hi))))))
end
/-- what is run where this is due -/
noncomputable def tgt (due : Due) (text : List Nat) (p : Nat) (dv : Option MV) (st : Sto) : Res Fl := match due with
  | .part => partThen text p dv st
  | _ => loop text p dv st
theorem to_tgt {due : Due} {text rest : List Nat} {p r i : Nat} {dv : Option MV} {st st' : Sto} {ls : List Nat} {stk : List (List MV)} {o : Out} (hdu : due = .first ∨ due = .part) (h : PR st p r ls text i stk (decide (due = .first))) (hd : text.drop i = rest) (hc : rest.head? ≠ some 41) (hx : Rs o (partThen text p dv st) st') : Rs o (tgt due text p dv st) st' := by
  rcases hdu with z | z
  · subst z
    show Rs o (loop text p dv st) st'
    rw [loop_fresh h hd hc rfl hx.ne]
    exact hx
  · subst z
    exact hx
theorem prog_go {rest : List Nat} {i : Nat} {stk : List (List MV)} {due : Due} {o : Out} (h : Rd rest i stk due o) : ∀ (text : List Nat) (p r : Nat) (ls : List Nat) (st : Sto) (dv : Option MV), text.drop i = rest → i ≤ text.length → due ≠ .begin → Fits stk due → PR st p r ls text i stk (decide (due = .first)) → stk.length ≤ 12 →
    (∀ xs ∈ stk, xs.length + rest.length ≤ 1000000) → text.length ≤ 1000000 → ∃ st', Rs o (tgt due text p dv st) st' ∧ Keep st st' r (p :: ls) := by
  induction h with
  | @opn rest i stk due o h1 h2 h3 ih =>
    intro text p r ls st dv hd hi hb hf hs hl hx ht
    have hdu : due = .first ∨ due = .part := by
      cases due with
      | begin => exact (hb rfl).elim
      | first => exact .inl rfl
      | part => exact .inr rfl
      | next => exact (h1 rfl).elim
    have hlt : i + 1 ≤ text.length := by
      have := congrArg List.length hd
      simp at this
      omega
    have hd' : text.drop (i + 1) = rest := by
      rw [← List.drop_drop, hd]
      rfl
    obtain ⟨s1, e1, k1, k2⟩ := part_open hs hd (by omega)
    obtain ⟨st', e2, k3⟩ := ih text p r (st.length :: ls) s1 dv hd' hlt (fun z => nomatch z) True.intro k1 (by simp; omega) (fun xs hxs => by
      rcases List.mem_cons.mp hxs with z | z
      · subst z
        have := congrArg List.length hd
        simp at this ⊢
        omega
      · have := hx xs z
        simp at this
        omega) ht
    refine ⟨st', to_tgt hdu hs hd (by simp) ?_, k2.trans k3 fun q hq hn z => ?_⟩
    · unfold partThen
      rw [e1]
      exact e2
    · simp at z hn
      rcases z with z | z | z
      · exact hn.1 z
      · omega
      · exact hn.2 z
  | @deep rest i stk due h1 h2 =>
    intro text p r ls st dv hd hi hb hf hs hl hx ht
    have hdu : due = .first ∨ due = .part := by
      cases due with
      | begin => exact (hb rfl).elim
      | first => exact .inl rfl
      | part => exact .inr rfl
      | next => exact (h1 rfl).elim
    refine ⟨st, to_tgt hdu hs hd (by simp) ?_, Keep.refl⟩
    unfold partThen
    rw [part_deep hs hd h2]
    exact ⟨_, rfl⟩
  | @top rest i xs due hdu =>
    intro text p r ls st dv hd hi hb hf hs hl hx ht
    have hlt : i + 1 ≤ text.length := by
      have := congrArg List.length hd
      simp at this
      omega
    have hd' : text.drop (i + 1) = rest := by
      rw [← List.drop_drop, hd]
      rfl
    obtain ⟨l, rfl⟩ : ∃ l, ls = [l] := by
      have := hs.sk.rows.len
      cases ls with
      | nil => cases this
      | cons l ls => cases ls with
        | nil => exact ⟨l, rfl⟩
        | cons m ls => simp at this
    have c1 := sign_is (z := c4) (k := true) hs (vp (text := text) (f := dv) st) hd rfl
    have e0 := s_at_add hs (vp (text := text) (f := dv) st)
    have h1 := hs.put (i + 1) (decide (due = .first))
    obtain ⟨s2, e2, k2, k3⟩ := pop_ok (fo := mFld 0 "opened" (mVar 1)) (σ := Sp text p dv) h1.sk (fld_opened h1 (vp _))
    have hob : s2[p]? = some (.ins 0 (Fd text (i + 1) r (decide (due = .first)))) := by
      rw [k3.at_ p h1.plt hs.ne.1 hs.ne.2]
      exact h1.ob
    have h2 : PR s2 p r [] text (i + 1) [] (decide (due = .first)) := ⟨hob, k2, ⟨hs.ne.1, by simp⟩⟩
    have kk : Keep st s2 r (p :: [l]) := (keep_put (p := p) (ls := [l]) _).trans ⟨k3.len, fun q hq z1 z2 => k3.at_ q hq z1 fun z => z2 (List.mem_cons_of_mem _ z)⟩ fun q _ z => z
    have eb : pB (Sp text p dv) st = .ok (.bk (Sp text p (some (.tup xs)))) s2 := if_t c1 (seq_nx e0 (seq_nx (set_of e2) (seq_bk (if_t (cmp_of (len_ok k2 (fld_opened h2 (vp _))) (mC_ap _ _ _) (by simp)) rfl))))
    have el : loop text p dv st = pR (Sp text p (some (.tup xs))) s2 := seq_nx (while_break (pT_ok _) eb) rfl
    have et : tgt due text p dv st = loop text p dv st := by rcases hdu with z | z <;> subst z <;> rfl
    refine ⟨s2, ?_, kk⟩
    rw [et, el]
    cases rest with
    | nil =>
      have hlen : i + 1 = text.length := by
        have := congrArg List.length hd'
        simp at this
        omega
      exact seq_nx (if_f (cmp_of (fld_at h2 (vp _)) (callG1 (var_of rfl) (mLen_str _ _)) (by simp; omega)) (sNop_ap _ _)) (ret_of (var_of rfl))
    | cons c rest =>
      have hlt2 : i + 1 < text.length := by
        have := congrArg List.length hd'
        simp at this
        omega
      exact ⟨_, seq_exc (if_t (cmp_of (fld_at h2 (vp _)) (callG1 (var_of rfl) (mLen_str _ _)) (by simp; omega)) (expr_exc (meth_of h2 (vp _) rfl (fail_ok h2 (by omega)))))⟩
  | @close rest i xs ys stk due o hdu h1 ih =>
    intro text p r ls st dv hd hi hb hf hs hl hx ht
    have hlt : i + 1 ≤ text.length := by
      have := congrArg List.length hd
      simp at this
      omega
    have hd' : text.drop (i + 1) = rest := by
      rw [← List.drop_drop, hd]
      rfl
    obtain ⟨l, m, ls, rfl⟩ : ∃ l m ls', ls = l :: m :: ls' := by
      have := hs.sk.rows.len
      cases ls with
      | nil => cases this
      | cons l ls => cases ls with
        | nil => simp at this
        | cons m ls => exact ⟨l, m, ls, rfl⟩
    have c1 := sign_is (z := c4) (k := true) hs (vp (text := text) (f := dv) st) hd rfl
    have e0 := s_at_add hs (vp (text := text) (f := dv) st)
    have p1 := hs.put (i + 1) (decide (due = .first))
    obtain ⟨s2, e2, k2, k3⟩ := pop_ok (fo := mFld 0 "opened" (mVar 1)) (σ := Sp text p dv) p1.sk (fld_opened p1 (vp _))
    have p2 : PR s2 p r (m :: ls) text (i + 1) (ys :: stk) (decide (due = .first)) := ⟨by rw [k3.at_ p p1.plt hs.ne.1 hs.ne.2]; exact p1.ob, k2, ⟨hs.ne.1, fun z => hs.ne.2 (List.mem_cons_of_mem _ z)⟩⟩
    obtain ⟨s3, e3, k4, k5⟩ := add_ok (fo := mFld 0 "opened" (mVar 1)) (σ := Sp text p (some (.tup xs))) (fe := mVar 2) k2 (fld_opened p2 (vp _)) (var_of rfl) k2 (by have := hx ys (by simp); omega)
    have p3 : PR s3 p r (m :: ls) text (i + 1) ((ys ++ [.tup xs]) :: stk) (decide (due = .first)) := ⟨by rw [k5.at_ p p2.plt p2.ne.1 p2.ne.2]; exact p2.ob, k4, p2.ne⟩
    have e4 := s_fresh p3 (vp (text := text) (f := some (.tup xs)) s3) false
    have p4 := p3.put (i + 1) false
    obtain ⟨st', e5, k6⟩ := ih text p r (m :: ls) _ (some (.tup xs)) hd' hlt (fun z => nomatch z) (fits_snoc _ _ _) p4 (by simp at hl ⊢; omega) (fun zs hzs => by
      rcases List.mem_cons.mp hzs with z | z
      · subst z
        have := hx ys (by simp)
        simp at this ⊢
        omega
      · have := hx zs (by simp [z])
        simp at this
        omega) ht
    have eb : pB (Sp text p dv) st = .ok (.nx (Sp text p (some (.tup xs)))) (s3.set p (.ins 0 (Fd text (i + 1) r false))) := if_t c1 (seq_nx e0 (seq_nx (set_of e2) (seq_nx (if_f (cmp_of (len_ok k2 (fld_opened p2 (vp _))) (mC_ap _ _ _) (by simp; omega)) (sNop_ap _ _)) (seq_nx (expr_of e3) e4))))
    have et : tgt due text p dv st = loop text p dv st := by rcases hdu with z | z <;> subst z <;> rfl
    have el : loop text p dv st = loop text p (some (.tup xs)) (s3.set p (.ins 0 (Fd text (i + 1) r false))) := seqW_step (pT_ok _) eb rfl e5.ne
    refine ⟨st', ?_, ?_⟩
    · rw [et, el]
      exact e5
    · have a1 : Keep st (st.set p (.ins 0 (Fd text (i + 1) r (decide (due = .first))))) r (p :: l :: m :: ls) := keep_put _
      have a2 : Keep (st.set p (.ins 0 (Fd text (i + 1) r (decide (due = .first))))) s2 r (p :: l :: m :: ls) := ⟨k3.len, fun q hq z1 z2 => k3.at_ q hq z1 fun z => z2 (List.mem_cons_of_mem _ z)⟩
      have a3 : Keep s2 s3 r (p :: l :: m :: ls) := ⟨k5.len, fun q hq z1 z2 => k5.at_ q hq z1 fun z => z2 (List.mem_cons_of_mem _ (List.mem_cons_of_mem _ z))⟩
      have a4 : Keep s3 (s3.set p (.ins 0 (Fd text (i + 1) r false))) r (p :: l :: m :: ls) := keep_put _
      refine (((a1.trans a2 fun q _ z => z).trans a3 fun q _ z => z).trans a4 fun q _ z => z).trans k6 fun q hq hn z => hn ?_
      simp at z ⊢
      rcases z with z | z | z
      · exact .inl z
      · exact .inr (.inr (.inl z))
      · exact .inr (.inr (.inr z))
  | @space rest i stk o h1 ih =>
    intro text p r ls st dv hd hi hb hf hs hl hx ht
    have hlt : i + 1 ≤ text.length := by
      have := congrArg List.length hd
      simp at this
      omega
    have hd' : text.drop (i + 1) = rest := by
      rw [← List.drop_drop, hd]
      rfl
    have hf2 : Fits stk .part := by
      match stk, hf with
      | (y :: ys) :: stk, _ => exact True.intro
    obtain ⟨st', e, k⟩ := ih text p r ls (st.set p (.ins 0 (Fd text (i + 1) r false))) dv hd' hlt (fun z => nomatch z) hf2 (hs.put (i + 1) false) hl (fun zs hzs => by have := hx zs hzs; simp at this; omega) ht
    refine ⟨st', ?_, (keep_put _).trans k fun q _ z => z⟩
    show Rs o (loop text p dv st) st'
    have e' : Rs o (partThen text p dv (st.set p (.ins 0 (Fd text (i + 1) r false)))) st' := e
    rw [loop_space hs hd rfl e'.ne]
    exact e'
  | @word w rest i xs stk due o hdu hw h1 h2 h3 ih =>
    intro text p r ls st dv hd hi hb hf hs hl hx ht
    obtain ⟨l, ls, rfl⟩ : ∃ l ls', ls = l :: ls' := by
      have := hs.sk.rows.len
      cases ls with
      | nil => cases this
      | cons l ls => exact ⟨l, ls, rfl⟩
    have hlenT : w.length ≤ 16777216 := by
      have := congrArg List.length hd
      simp at this
      omega
    have hd2 : text.drop (i + w.length) = rest := by
      rw [← List.drop_drop, hd]
      simp
    have hi2 : i + w.length ≤ text.length := by
      have := congrArg List.length hd
      simp at this
      omega
    obtain ⟨s1, e1, k1, k2⟩ := part_word (xs := []) hs hd hw h1 h2 hlenT (by have := hx xs (by simp); omega)
    obtain ⟨st', e2, k3⟩ := ih text p r (l :: ls) s1 dv hd2 hi2 (fun z => nomatch z) (fits_snoc _ _ _) k1 (by simpa using hl) (fun zs hzs => by
      rcases List.mem_cons.mp hzs with z | z
      · subst z
        have := hx xs (by simp)
        have hw' : 0 < w.length := List.length_pos_iff.mpr hw
        simp at this ⊢
        omega
      · have := hx zs (by simp [z])
        simp at this
        omega) ht
    have hh : (w ++ rest).head? ≠ some 41 := by
      cases w with
      | nil => exact (hw rfl).elim
      | cons c u =>
        have := h1 c (by simp)
        intro z
        simp at z
        subst z
        cases this
    refine ⟨st', to_tgt hdu hs hd hh ?_, k2.trans k3 fun q hq hn => hn⟩
    unfold partThen
    rw [e1]
    exact e2
  | @ends i stk due =>
    intro text p r ls st dv hd hi hb hf hs hl hx ht
    cases due with
    | begin => exact (hb rfl).elim
    | first =>
      refine ⟨st, to_tgt (.inl rfl) hs hd (by simp) ?_, Keep.refl⟩
      unfold partThen
      rw [part_bad hs hd (by simp) (by omega)]
      exact ⟨_, rfl⟩
    | part =>
      refine ⟨st, to_tgt (.inr rfl) hs hd (by simp) ?_, Keep.refl⟩
      unfold partThen
      rw [part_bad hs hd (by simp) (by omega)]
      exact ⟨_, rfl⟩
    | next => exact ⟨st, ⟨_, loop_bad hs hd (by simp) (by simp) (by omega)⟩, Keep.refl⟩
  | @bad c rest i stk due h =>
    intro text p r ls st dv hd hi hb hf hs hl hx ht
    cases due with
    | begin => exact (hb rfl).elim
    | first =>
      have hc : c = 32 := by
        rcases h with ⟨_, z⟩ | ⟨_, z⟩ | ⟨z, _⟩ | ⟨_, z⟩
        · cases z
        · rcases z with z | z <;> cases z
        · exact z
        · rcases z with z | z <;> cases z
      subst hc
      refine ⟨st, to_tgt (.inl rfl) hs hd (by simp) ?_, Keep.refl⟩
      unfold partThen
      rw [part_bad hs hd (by simp) (by omega)]
      exact ⟨_, rfl⟩
    | part =>
      have hc : c = 41 ∨ c = 32 := by
        rcases h with ⟨_, z⟩ | ⟨z, _⟩ | ⟨z, _⟩ | ⟨_, z⟩
        · cases z
        · exact .inl z
        · exact .inr z
        · rcases z with z | z <;> cases z
      refine ⟨st, ?_, Keep.refl⟩
      show Rs _ (partThen text p dv st) st
      unfold partThen
      rw [part_bad hs hd (fun x hx => by simp at hx; subst hx; exact hc) (by omega)]
      exact ⟨_, rfl⟩
    | next =>
      have hc : c ≠ 41 ∧ c ≠ 32 := by
        rcases h with ⟨z, _⟩ | ⟨_, z⟩ | ⟨_, z⟩ | ⟨z, _⟩
        · subst z; exact ⟨by decide, by decide⟩
        · rcases z with z | z <;> cases z
        · exact (z rfl).elim
        · exact ⟨(fun y => by subst y; cases z), (fun y => by subst y; cases z)⟩
      exact ⟨st, ⟨_, loop_bad hs hd (by simp [hc.1]) (by simp [hc.2]) (by omega)⟩, Keep.refl⟩
end K76
end
section
set_option Elab.async false
set_option linter.all false
set_option maxRecDepth 100000
set_option maxHeartbeats 4000000
set_option autoImplicit false
namespace K76
open PySem PySem.Spec PyProof.Rows L2 Mi
section
variable {P : Program} {w : World} {K : PySem.W.Frag} {mg : Str → Option Value} {base : Heap}
/-- what _law_asked makes of the reading -/
def cRead : List Nat := [114, 101, 97, 100]
def cBad : List Nat := [98, 97, 100]
def cDeep : List Nat := [100, 101, 101, 112]
def cLong : List Nat := [108, 111, 110, 103]
def cDepth : List Nat := [100, 101, 112, 116, 104]
def cText : List Nat := [116, 101, 120, 116]
def askR : Res MV → Res MV
  | .ok v st => .ok (.tup [.str cRead, v]) st
  | .exc 0 fs st => match fs.lookup ("line" : Str), fs.lookup ("column" : Str) with
    | some (.int l), some (.int c) => if l = 1 then .ok (.tup [.str cBad, .int c]) st else .fail
    | _, _ => .fail
  | .exc 1 fs st => match fs.lookup ("part" : Str) with
    | some (.str s) => if s = cDepth then .ok (.tup [.str cDeep, .int 0]) st else if s = cText then .ok (.tup [.str cLong, .int 0]) st else .fail
    | _ => .fail
  | _ => .fail
noncomputable def D__law_asked : List MV → M MV := fun xs st => match xs with
  | [.str x] => askR (D_read_state [.str x] st)
  | _ => .fail
theorem warm_is_int (T : Fx P K mg) : FnW P w K mg base 1 T.f__law_is_int T.fd__law_is_int ["thing"] (fun vs H Q _ => ∃ c : Int, vs = [.int c] ∧ Q (.bl true) H) := by
  refine fn_warm (k := 0) T.F__law_is_int sc__law_is_int (fun vs H Q E ⟨c, e, _⟩ => by rw [e]; rfl) (fun cdv A0 A outer s H xe vs Q ⟨c, e, q⟩ => ?_)
  subst e
  refine ⟨_, pss_one (ps_ret (pe_and (pe_callB call_isi (by rfl) T.n_isinstance PyProof.Rows.Boot.«isinstance» (pa_cons (pv 0) (pa_cons (pe_bltn (v := .ty "int") (by rfl) T.n_int PyProof.Rows.Boot.«int» rfl) pa_nil)))
    (pe_one (pe_not (pe_callB call_isi (by rfl) T.n_isinstance PyProof.Rows.Boot.«isinstance» (pa_cons (pv 0) (pa_cons (pe_bltn (v := .ty "bool") (by rfl) T.n_bool PyProof.Rows.Boot.«bool» rfl) pa_nil))))))), ?_⟩
  refine ⟨_, rfl, .int c, .ty "int", .type "int", .type "int", true, rfl, .ty "int", .base (.int c), kit_isi (by simp) (by simp), true, rfl, ?_⟩
  show _
  rw [if_pos rfl]
  exact ⟨_, rfl, .int c, .ty "bool", .type "int", .type "bool", false, rfl, .ty "bool", .base (.int c), kit_isi (by simp) (by simp), false, rfl, q⟩
theorem roomW {k : Nat} {A : Around} {h : Option Value} (r : Room (k + 1) A) : L2H.RoomH 1 (A.mark h) := ⟨by have := r.dp; show A.depth + 3 * 1 + 5 < _; omega, by have := r.un; show A.units + 16 * 1 + 200 < _; omega⟩
/-- the suite of NotRead -/
def tsNR (C : Addr) : Addr → Value → Option Addr → TS := fun a cls d D σ H => ∃ (dd : Addr) (gs : List (Str × V)) (c : Int), cls = .ref C ∧ d = some dd ∧ σ[2]? = some (some (.ref a)) ∧ H dd = some (.xd gs) ∧ gs.lookup ("line" : Str) = some (.int 1) ∧ gs.lookup ("column" : Str) = some (.int c) ∧
  ∀ p, H p = none → D.rt (.ref p) (upd H p (.tup [.str ⟨cBad.toArray⟩, .int c]))
def tsTL (C : Addr) : Addr → Value → Option Addr → TS := fun a cls d D σ H => ∃ (dd : Addr) (gs : List (Str × V)) (b : Bool), cls = .ref C ∧ d = some dd ∧ σ[2]? = some (some (.ref a)) ∧ H dd = some (.xd gs) ∧ gs.lookup ("part" : Str) = some (.str (if b then "depth" else "text")) ∧
  ∀ p q, H q = none → upd H q (.tup [.str "depth", .str "text"]) p = none → D.rt (.ref p) (upd (upd H q (.tup [.str "depth", .str "text"])) p (.tup [.str ⟨(if b then cDeep else cLong).toArray⟩, .int 0]))
theorem ok__law_asked (T : Fx P K mg) : FnOk P w K mg base (L2.CX P w) 6 T.f__law_asked T.fd__law_asked ["text"] (spOf T.Z D__law_asked 1) := by
  have S := sc__law_asked
  refine T.F__law_asked.okX (sp := spOf T.Z D__law_asked 1) (k := 6 - 1) S (fun vs H Q E h => by obtain ⟨ρ, st, xs, R, r, hl, G⟩ := h; rw [← r.length]; exact hl) (fun cdv A outer s H vs Q E hr hsp => ?_)
  have hp := passes_of (X := cxOf (L2.CX P w) P w K mg base ["text", "told", "e"] "_law_asked" (defScope s__law_asked) T.f__law_asked cdv A outer s H E) rfl
  refine ⟨_, pss_cons (ps_try_named (tb := fun W => liftS T.Z W (sSet 1 (mCall D_read_state [mVar 0]))) (Wout := fun _ _ _ _ => False) rfl rfl S.nd takes0 (fun W pn xe tkW hpW => ?_)
    (.cons (c := .ref T.a_NotRead) (i := 2) (ts := tsNR T.a_NotRead) rfl rfl ⟨by rfl, by decide, .inl T.g_NotRead⟩ (fun a oe cls d pn hz hf => ?_) (.cons (c := .ref T.a_TooLarge) (i := 2) (ts := tsTL T.a_TooLarge) rfl rfl ⟨by rfl, by decide, .inl T.g_TooLarge⟩ (fun a oe cls d pn hz hf => ?_) .nil)))
    (pss_one (ps_ret (pe_tup (pa_cons pe_str (pa_cons (pv 1) pa_nil))))), ?_⟩
  · exact ss_one (s_set (i := 1) (m_call (ok_read_state T) tkW hr (by rfl) T.g_read_state T.F_read_state.kp T.b_read_state (a_cons (mv 0) a_nil)) S.nd)
  · refine ⟨fun pins s1 σ H1 D I h => ?_⟩
    obtain ⟨dd, gs, c, rfl, rfl, h2, hdd, hl, hc, q⟩ := h
    refine PSs.run (X := (cxOf (L2.CX P w) P w K mg base ["text", "told", "e"] "_law_asked" (defScope s__law_asked) T.f__law_asked cdv A outer s H E).suite a ((a, oe) :: pn)) (pss_cons (ps_if (PW.pt (pw_or (pt_cmpR op_ne (pe_xf T.xf_NotRead T.xno_NotRead_line hz hf (pv 2)) pe_int (nomark _)) (pw_or (pt_not (pt_val (pe_callW (warm_is_int T) (roomW hr) (by rfl) T.g__law_is_int T.F__law_is_int.kp T.b__law_is_int (pa_cons (pe_xf T.xf_NotRead T.xno_NotRead_column hz hf (pv 2)) pa_nil))))
      (pw_or1 (pt_val (pe_callB (call_isX T.xc_NotRead hz hf) (by rfl) T.n_isinstance PyProof.Rows.Boot.«isinstance» (pa_cons (pv 2) (pa_cons (pe_glob (by rfl) T.g_TooLarge (v := .ref T.a_TooLarge) rfl) pa_nil))))))))
      (pss_one (ps_ret (pe_tup (pa_cons pe_str (pa_cons pe_int pa_nil))))) pss_nil)
      (pss_one (ps_ret (pe_tup (pa_cons pe_str (pa_cons (pe_xf T.xf_NotRead T.xno_NotRead_column hz hf (pv 2)) pa_nil)))))) pins s1 σ H1 D I ?_
    refine ⟨_, h2, rfl, rfl, dd, gs, _, rfl, hdd, hl, rfl, _, rfl, ?_⟩
    rw [show (!decide ((V.int 1) = (V.int 1))) = false from by decide]
    refine iteF ⟨_, h2, rfl, rfl, dd, gs, _, rfl, hdd, hc, c, rfl, true, rfl, ?_⟩
    refine iteF ⟨_, h2, .ref T.a_TooLarge, .ref T.a_TooLarge, false, gs, rfl, fun u r => r, hdd, T.k01, false, rfl, ?_⟩
    refine iteF ⟨_, h2, rfl, rfl, dd, gs, _, rfl, hdd, hc, (by show 2 ≤ sizeLine; decide), fun p hp => ?_⟩
    exact q p hp
  · refine ⟨fun pins s1 σ H1 D I h => ?_⟩
    obtain ⟨dd, gs, b, rfl, rfl, h2, hdd, hl, q⟩ := h
    refine PSs.run (X := (cxOf (L2.CX P w) P w K mg base ["text", "told", "e"] "_law_asked" (defScope s__law_asked) T.f__law_asked cdv A outer s H E).suite a ((a, oe) :: pn)) (pss_cons (ps_if (PW.pt (pw_or (pt_not (pt_val (pe_callB (call_isX T.xc_TooLarge hz hf) (by rfl) T.n_isinstance PyProof.Rows.Boot.«isinstance» (pa_cons (pv 2) (pa_cons (pe_glob (by rfl) T.g_AskError (v := .ref T.a_AskError) rfl) pa_nil)))))
      (pw_or1 (pt_cmpR op_notIn_seq (pe_xf T.xf_TooLarge T.xno_TooLarge_part hz hf (pv 2)) (pe_tup (pa_cons pe_str (pa_cons pe_str pa_nil))) rfl))))
      (pss_one (ps_ret (pe_tup (pa_cons pe_str (pa_cons pe_int pa_nil))))) pss_nil)
      (pss_one (ps_ret (pe_tup (pa_cons (pe_ifExp (pt_cmpR op_eq (pe_xf T.xf_TooLarge T.xno_TooLarge_part hz hf (pv 2)) pe_str (nomark _)) pe_str pe_str) (pa_cons pe_int pa_nil)))))) pins s1 σ H1 D I ?_
    refine ⟨_, h2, .ref T.a_AskError, .ref T.a_AskError, true, gs, rfl, fun u r => r, hdd, T.k12, true, rfl, ?_⟩
    refine iteF ⟨_, h2, rfl, rfl, dd, gs, _, rfl, hdd, hl, by decide, fun p hp => ⟨p, _, rfl, .inr (.inl (.inl upd_same)), rfl, rfl, false, ?_, ?_⟩⟩
    · cases b <;> decide +kernel
    · have hdp : dd ≠ p := ne_of_none hdd hp
      refine iteF ⟨_, h2, rfl, rfl, dd, gs, _, rfl, by rw [upd_ne hdp]; exact hdd, hl, rfl, b, ?_, ?_⟩
      · cases b <;> decide +kernel
      · cases b with
        | true =>
          refine iteT ⟨by decide, fun p' hp' => ?_⟩
          exact q p' p hp hp'
        | false =>
          refine iteF ⟨by decide, fun p' hp' => ?_⟩
          exact q p' p hp hp'
  · obtain ⟨ρ, st, xs, R, r, hl, G⟩ := hsp
    match xs, hl, G with
    | [x], _, G =>
      have Rs : RSl T.Z ρ H (init0 3 [x]) (L2.start ["text", "told", "e"] vs) := RSl.init (N := ["text", "told", "e"]) r
      refine ⟨ρ, init0 3 [x], st, R, Rs, ?_⟩
      have hg0 : (init0 3 [x])[0]? = some (some x) := rfl
      cases x with
      | str z =>
        have G1 : Got T.Z E ρ H (askR (D_read_state [.str z] st)) (PV T.Z Q) := G
        show Got T.Z W0 ρ H (catchX (D_read_state [.str z]) (init0 3 [.str z]) (fun x => Pure.pure (.nx ((init0 3 [.str z]).set 1 (some x)))) st) _
        unfold catchX
        revert G1
        cases D_read_state [.str z] st with
        | fail => exact fun G1 => G1
        | ok v st' =>
          intro G1 ρ' H' e R' σV' S'
          obtain ⟨u, e1, ru⟩ := S'.2 1 v rfl
          refine ⟨u, e1, (by show 2 ≤ sizeLine; decide), fun p hp => ?_⟩
          obtain ⟨R2, e2⟩ := R'.grow (upd_keep (u := .tup [.str "read", u]) hp)
          exact G1 ρ' _ (e.trans e2) R2 _ ⟨p, _, rfl, .inl (.inl upd_same), _, _, rfl, ⟨by decide +kernel, by decide, by decide⟩, _, _, rfl, ru.mono e2, rfl⟩
        | exc c fs st' =>
          intro G1 ρ' H' e R' σV' d gs S' hd hl'
          match c, G1 with
          | 0, G1 =>
            have G2 : Got T.Z E ρ H (match fs.lookup ("line" : Str), fs.lookup ("column" : Str) with
              | some (.int l), some (.int c) => if l = 1 then .ok (.tup [.str cBad, .int c]) st' else .fail
              | _, _ => .fail : Res MV) (PV T.Z Q) := G1
            cases q1 : fs.lookup ("line" : Str) with
            | none => rw [q1] at G2; exact G2.elim
            | some y => cases y with
              | int l =>
                cases q2 : fs.lookup ("column" : Str) with
                | none => rw [q1, q2] at G2; exact G2.elim
                | some y2 => cases y2 with
                  | int c =>
                    rw [q1, q2] at G2
                    have G3 : Got T.Z E ρ H (if l = 1 then .ok (.tup [.str cBad, .int c]) st' else .fail : Res MV) (PV T.Z Q) := G2
                    split at G3
                    · rename_i hl1
                      subst hl1
                      obtain ⟨w1, f1, r1⟩ := hl' _ _ q1
                      obtain ⟨w2, f2, r2⟩ := hl' _ _ q2
                      cases r1
                      cases r2
                      refine ⟨true, T.ex00, fun _ a ha => ?_, fun z => nomatch z⟩
                      have hlen : 2 < σV'.length := by rw [← S'.1]; show 2 < 3; decide
                      refine ⟨d, gs, c, rfl, rfl, List.getElem?_set_self hlen, hd, f1, f2, fun p hp => ?_⟩
                      obtain ⟨R2, e2⟩ := R'.grow (upd_keep (u := .tup [.str ⟨cBad.toArray⟩, .int c]) hp)
                      exact G3 ρ' _ (e.trans e2) R2 _ ⟨p, _, rfl, .inl (.inl upd_same), _, _, rfl, ⟨rfl, by decide, by decide⟩, _, _, rfl, rfl, rfl⟩
                    · exact G3.elim
                  | _ => rw [q1, q2] at G2; exact (show False from G2).elim
              | _ => rw [q1] at G2; exact (show False from G2).elim
          | 1, G1 =>
            have G2 : Got T.Z E ρ H (match fs.lookup ("part" : Str) with
              | some (.str s) => if s = cDepth then .ok (.tup [.str cDeep, .int 0]) st' else if s = cText then .ok (.tup [.str cLong, .int 0]) st' else .fail
              | _ => .fail : Res MV) (PV T.Z Q) := G1
            cases q1 : fs.lookup ("part" : Str) with
            | none => rw [q1] at G2; exact G2.elim
            | some y => cases y with
              | str s2 =>
                rw [q1] at G2
                have G3 : Got T.Z E ρ H (if s2 = cDepth then .ok (.tup [.str cDeep, .int 0]) st' else if s2 = cText then .ok (.tup [.str cLong, .int 0]) st' else .fail : Res MV) (PV T.Z Q) := G2
                obtain ⟨w1, f1, r1, _⟩ := hl' _ _ q1
                refine ⟨false, T.ex10, fun z => (nomatch z), fun _ => ⟨true, T.ex11, fun _ a ha => ?_, fun z => nomatch z⟩⟩
                have hlen : 2 < σV'.length := by rw [← S'.1]; show 2 < 3; decide
                have key : ∀ b : Bool, s2 = (if b then cDepth else cText) → Got T.Z E ρ H (.ok (.tup [.str (if b then cDeep else cLong), .int 0]) st' : Res MV) (PV T.Z Q) → tsTL T.a_TooLarge a (.ref T.a_TooLarge) (some d) (endsAs { nx := tRet (tTup (tCons (tC (.str "read")) (tCons (tVar 1) tNil))) { nx := fun _ H' => Q .non H', rt := Q }, rt := Q } 2) (σV'.set 2 (some (.ref a))) H' := by
                  intro b hb G4
                  refine ⟨d, gs, b, rfl, rfl, List.getElem?_set_self hlen, hd, ?_, fun p q hq hp => ?_⟩
                  · rw [f1, r1, hb]
                    cases b <;> decide +kernel
                  · obtain ⟨R1, e1⟩ := R'.grow (upd_keep (u := .tup [.str "depth", .str "text"]) hq)
                    obtain ⟨R2, e2⟩ := R1.grow (upd_keep (u := .tup [.str ⟨(if b then cDeep else cLong).toArray⟩, .int 0]) hp)
                    exact G4 ρ' _ ((e.trans e1).trans e2) R2 _ ⟨p, _, rfl, .inl (.inl upd_same), _, _, rfl, ⟨rfl, by cases b <;> (exact ⟨by decide, by decide⟩)⟩, _, _, rfl, rfl, rfl⟩
                by_cases z1 : s2 = cDepth
                · rw [if_pos z1] at G3
                  exact key true z1 G3
                · rw [if_neg z1] at G3
                  by_cases z2 : s2 = cText
                  · rw [if_pos z2] at G3
                    exact key false z2 G3
                  · rw [if_neg z2] at G3
                    exact G3.elim
              | _ => rw [q1] at G2; exact (show False from G2).elim
          | n + 2, G1 => exact (show False from G1).elim
      | _ => exact (show False from G).elim
end
end K76
end
section
set_option Elab.async false
set_option linter.all false
set_option maxRecDepth 100000
set_option maxHeartbeats 4000000
set_option autoImplicit false
namespace K76
open PySem PySem.Spec PyProof.Rows L2 Mi
section
variable {P : Program} {w : World} {K : PySem.W.Frag} {mg : Str → Option Value} {base : Heap}
noncomputable def D__law_right : List MV → M MV := mRun 3 (sSeq (sSet 1 (mCall D__law_read [mVar 0])) (sSeq (sSet 2 (mCall D__law_asked [mVar 0])) (sSeq (sIf (mCmp gNe (mIx (mVar 1) (mC (.int 0))) (mC (.str c26))) (sRet (mB (mCmp gEq (mVar 2) (mVar 1)))) (sNop)) (sRet (mAndV (mCmp gEq (mIx (mVar 2) (mC (.int 0))) (mC (.str c26))) (mAndV (mAsB (mCall (D__law_same 15) [mIx (mVar 1) (mC (.int 1)), mIx (mVar 2) (mC (.int 1))])) (mB (mCmp gEq (mCall (D_write_state 15) [mIx (mVar 2) (mC (.int 1))]) (mVar 0)))))))))
theorem ok__law_right (T : Fx P K mg) : FnOk P w K mg base (L2.CX P w) 17 T.f__law_right T.fd__law_right ["text"] (spOf T.Z D__law_right 1) := by
  have S := sc__law_right
  refine fn_body (k := 16) T.F__law_right S (fun cdv A outer s H E hr => ?_)
  have tk := takes_of (X := cxOf (L2.CX P w) P w K mg base ["text", "due", "told"] "_law_right" (defScope s__law_right) T.f__law_right cdv A outer s H E) rfl rfl rfl rfl
  have hp := passes_of (X := cxOf (L2.CX P w) P w K mg base ["text", "due", "told"] "_law_right" (defScope s__law_right) T.f__law_right cdv A outer s H E) rfl
  exact ss_cons (s_set (i := 1) (m_call (ok__law_read T) tk (hr.mono (by first | decide | omega)) (by rfl) T.g__law_read T.F__law_read.kp T.b__law_read (a_cons (mv 0) (a_nil))) S.nd)
      (ss_cons (s_set (i := 2) (m_call (ok__law_asked T) tk (hr.mono (by first | decide | omega)) (by rfl) T.g__law_asked T.F__law_asked.kp T.b__law_asked (a_cons (mv 0) (a_nil))) S.nd)
      (ss_cons (s_if (t_cmp (op_neD (huR hr)) sim_ne (m_ix (mv 1) (m_int)) (m_str c26 c26_eq c26_good) rfl) (ss_one (s_ret (m_cmp (op_eqD (huR hr)) sim_eq (mv 2) (mv 1) rfl))) (ss_nil))
      (ss_one (s_ret (m_and (m_cmp (op_eqD (huR hr)) sim_eq (m_ix (mv 2) (m_int)) (m_str c26 c26_eq c26_good) rfl) (m_and (m_asB (m_call (ok__law_same T 15) tk (hr.mono (by first | decide | omega)) (by rfl) T.g__law_same T.F__law_same.kp T.b__law_same (a_cons (m_ix (mv 1) (m_int)) (a_cons (m_ix (mv 2) (m_int)) (a_nil))))) (m_and1 (m_cmp (op_eqD (huR hr)) sim_eq (m_call (ok_write_state T 15) tk (hr.mono (by first | decide | omega)) (by rfl) T.g_write_state T.F_write_state.kp T.b_write_state (a_cons (m_ix (mv 2) (m_int)) (a_nil))) (mv 0) rfl))))))))
noncomputable def D__law_spoilt : List MV → M MV := mRun 6 (sSeq (sFor (iRange [mOp mAdd (mC (.int 1)) (mCall D__law_draw [mVar 0, mC (.int 3)])]) (tgName 2) (sSeq (sSet 3 (mCall D__law_draw [mVar 0, mOp mAdd (mCallG mLen [mVar 1]) (mC (.int 1))])) (sSeq (sSet 4 (mCall D__law_pick [mVar 0, mC (.str c35)])) (sSeq (sSet 5 (mCall D__law_draw [mVar 0, mC (.int 6)])) (sIf (mCmp gEq (mVar 5) (mC (.int 0))) (sSet 1 (mOp mAdd (mOp mAdd (mSlice (mVar 1) mNoPart (mPart (mVar 3))) (mVar 4)) (mSlice (mVar 1) (mPart (mVar 3)) mNoPart))) (sIf (mCmp (gI fun i j => decide (i ≤ j)) (mVar 5) (mC (.int 2))) (sSet 1 (mOp mAdd (mSlice (mVar 1) mNoPart (mPart (mVar 3))) (mSlice (mVar 1) (mPart (mOp mAdd (mVar 3) (mC (.int 1)))) mNoPart))) (sIf (mCmp gEq (mVar 5) (mC (.int 3))) (sSet 1 (mOp mAdd (mOp mAdd (mSlice (mVar 1) mNoPart (mPart (mVar 3))) (mVar 4)) (mSlice (mVar 1) (mPart (mOp mAdd (mVar 3) (mC (.int 1)))) mNoPart))) (sIf (mCmp gEq (mVar 5) (mC (.int 4))) (sSet 1 (mSlice (mVar 1) mNoPart (mPart (mVar 3)))) (sSet 1 (mOp mAdd (mVar 1) (mVar 4))))))))))) (sRet (mVar 1)))
theorem ok__law_spoilt (T : Fx P K mg) : FnOk P w K mg base (L2.CX P w) 3 T.f__law_spoilt T.fd__law_spoilt ["d", "text"] (spOf T.Z D__law_spoilt 2) := by
  have S := sc__law_spoilt
  refine fn_body (k := 2) T.F__law_spoilt S (fun cdv A outer s H E hr => ?_)
  have tk := takes_of (X := cxOf (L2.CX P w) P w K mg base ["d", "text", "k", "at", "sign", "way"] "_law_spoilt" (defScope s__law_spoilt) T.f__law_spoilt cdv A outer s H E) rfl rfl rfl rfl
  have hp := passes_of (X := cxOf (L2.CX P w) P w K mg base ["d", "text", "k", "at", "sign", "way"] "_law_spoilt" (defScope s__law_spoilt) T.f__law_spoilt cdv A outer s H E) rfl
  exact ss_cons (s_for hp rfl (i_range1 (by rfl) T.n_range (a_cons (m_op op_addX sim_add (m_int) (m_call (ok__law_draw T) tk (hr.mono (by first | decide | omega)) (by rfl) T.g__law_draw T.F__law_draw.kp T.b__law_draw (a_cons (mv 0) (a_cons (m_int) (a_nil))))) (a_nil))) (g_name (i := 2) S.nd) (ss_cons (s_set (i := 3) (m_call (ok__law_draw T) tk (hr.mono (by first | decide | omega)) (by rfl) T.g__law_draw T.F__law_draw.kp T.b__law_draw (a_cons (mv 0) (a_cons (m_op op_addX sim_add (m_callB sim_len call_lenX (by rfl) T.n_len PyProof.Rows.Boot.«len» (a_cons (mv 1) (a_nil))) (m_int)) (a_nil)))) S.nd)
      (ss_cons (s_set (i := 4) (m_call (ok__law_pick T) tk (hr.mono (by first | decide | omega)) (by rfl) T.g__law_pick T.F__law_pick.kp T.b__law_pick (a_cons (mv 0) (a_cons (m_str c35 c35_eq c35_good) (a_nil)))) S.nd)
      (ss_cons (s_set (i := 5) (m_call (ok__law_draw T) tk (hr.mono (by first | decide | omega)) (by rfl) T.g__law_draw T.F__law_draw.kp T.b__law_draw (a_cons (mv 0) (a_cons (m_int) (a_nil)))) S.nd)
      (ss_one (s_if (t_cmp (op_eqD (huR hr)) sim_eq (mv 5) (m_int) rfl) (ss_one (s_set (i := 1) (m_op op_addX sim_add (m_op op_addX sim_add (m_slice (mv 1) p_none (p_some (mv 3))) (mv 4)) (m_slice (mv 1) (p_some (mv 3)) p_none)) S.nd)) (ss_one (s_if (t_cmp op_le sim_I (mv 5) (m_int) rfl) (ss_one (s_set (i := 1) (m_op op_addX sim_add (m_slice (mv 1) p_none (p_some (mv 3))) (m_slice (mv 1) (p_some (m_op op_addX sim_add (mv 3) (m_int))) p_none)) S.nd)) (ss_one (s_if (t_cmp (op_eqD (huR hr)) sim_eq (mv 5) (m_int) rfl) (ss_one (s_set (i := 1) (m_op op_addX sim_add (m_op op_addX sim_add (m_slice (mv 1) p_none (p_some (mv 3))) (mv 4)) (m_slice (mv 1) (p_some (m_op op_addX sim_add (mv 3) (m_int))) p_none)) S.nd)) (ss_one (s_if (t_cmp (op_eqD (huR hr)) sim_eq (mv 5) (m_int) rfl) (ss_one (s_set (i := 1) (m_slice (mv 1) p_none (p_some (mv 3))) S.nd)) (ss_one (s_set (i := 1) (m_op op_addX sim_add (mv 1) (mv 4)) S.nd))))))))))))))
      (ss_one (s_ret (mv 1)))
noncomputable def D__law_long : List MV → M MV := mRun 7 (sSeq (sSet 2 (mLst [])) (sSeq (sSet 3 (mOp mSub (mVar 1) (mC (.int 2)))) (sSeq (sFor (iRange [mC (.int 60)]) (tgName 4) (sSeq (sSet 5 (mOp mAdd (mC (.int 200)) (mCall D__law_draw [mVar 0, mC (.int 1300)]))) (sSeq (sExpr (mMt isL mAppend (mVar 2) [mSlice (mOp mMul (mCall D__law_word [mVar 0]) (mVar 5)) mNoPart (mPart (mVar 5))])) (sAug (fun i j => i - j) 3 (mOp mAdd (mVar 5) (mC (.int 1))))))) (sSeq (sExpr (mMt isL mAppend (mVar 2) [mOp mMul (mC (.str c36)) (mVar 3)])) (sRet (mTup [mOp mAdd (mOp mAdd (mC (.str c2)) (mMt isS mJoin (mC (.str c3)) [mVar 2])) (mC (.str c4)), mCallG mTuple [mLc (iSeq (mVar 2)) (tgName 6) (tYes1) (mCall D__law_meant [mVar 6]) [6]]]))))))
theorem ok__law_long (T : Fx P K mg) : FnOk P w K mg base (L2.CX P w) 4 T.f__law_long T.fd__law_long ["d", "many"] (spOf T.Z D__law_long 2) := by
  have S := sc__law_long
  refine fn_body (k := 3) T.F__law_long S (fun cdv A outer s H E hr => ?_)
  have tk := takes_of (X := cxOf (L2.CX P w) P w K mg base ["d", "many", "words", "left", "k", "size", "word"] "_law_long" (defScope s__law_long) T.f__law_long cdv A outer s H E) rfl rfl rfl rfl
  have hp := passes_of (X := cxOf (L2.CX P w) P w K mg base ["d", "many", "words", "left", "k", "size", "word"] "_law_long" (defScope s__law_long) T.f__law_long cdv A outer s H E) rfl
  exact ss_cons (s_set (i := 2) (m_lst (a_nil)) S.nd)
      (ss_cons (s_set (i := 3) (m_op op_sub sim_sub (mv 1) (m_int)) S.nd)
      (ss_cons (s_for hp rfl (i_range1 (by rfl) T.n_range (a_cons (m_int) (a_nil))) (g_name (i := 4) S.nd) (ss_cons (s_set (i := 5) (m_op op_addX sim_add (m_int) (m_call (ok__law_draw T) tk (hr.mono (by first | decide | omega)) (by rfl) T.g__law_draw T.F__law_draw.kp T.b__law_draw (a_cons (mv 0) (a_cons (m_int) (a_nil))))) S.nd)
      (ss_cons (s_expr (m_bm sim_append F.plainAttrs_list F.slot_list_append F.type_list_append mt_append (mv 2) (a_cons (m_slice (m_op op_mulX' sim_mul (m_call (ok__law_word T) tk (hr.mono (by first | decide | omega)) (by rfl) T.g__law_word T.F__law_word.kp T.b__law_word (a_cons (mv 0) (a_nil))) (mv 5)) p_none (p_some (mv 5))) (a_nil))))
      (ss_one (s_aug (i := 3) ip_sub (m_op op_addX sim_add (mv 5) (m_int)) S.nd)))))
      (ss_cons (s_expr (m_bm sim_append F.plainAttrs_list F.slot_list_append F.type_list_append mt_append (mv 2) (a_cons (m_op op_mulX' sim_mul (m_str c36 c36_eq c36_good) (mv 3)) (a_nil))))
      (ss_one (s_ret (m_tup (a_cons (m_op op_addX sim_add (m_op op_addX sim_add (m_str c2 c2_eq c2_good) (m_bm sim_join F.plainAttrs_str F.slot_str_join F.type_str_join mt_join (m_str c3 c3_eq c3_good) (a_cons (mv 2) (a_nil)))) (m_str c4 c4_eq c4_good)) (a_cons (m_callTy sim_tuple call_tuple_of (by rfl) T.n_tuple PyProof.Rows.Boot.«tuple» (a_cons (m_lc rfl S.nd (i_seq (mv 2)) (own := [("word", 6)]) (show blkC ["d", "many", "words", "left", "k", "size", "word"] (defScope s__law_long) _ [("word", 6)] = true from by decide +kernel) (fun _ _ _ _ _ => gw_name (i := 6) S.nd) (fun _ _ _ _ _ => ts_nil) (fun _ _ _ _ _ => m_call (ok__law_meant T) takes0 (hr.mono (by first | decide | omega)) (by rfl) T.g__law_meant T.F__law_meant.kp T.b__law_meant (a_cons (mv 6) (a_nil)))) (a_nil))) (a_nil)))))))))
noncomputable def D__law_long_right : List MV → M MV := mRun 4 (sSeq (sAsg (tgTup [tgName 1, tgName 2]) (mCall D__law_long [mVar 0, mC (.int 100000)])) (sSeq (sIf (mCmp gNe (mCall (D_write_state 15) [mVar 2]) (mVar 1)) (sRet (mC (.bl false))) (sNop)) (sSeq (sSet 3 (mCall D__law_asked [mVar 1])) (sSeq (sIf (tOr2 (mCmp gNe (mIx (mVar 3) (mC (.int 0))) (mC (.str c26))) (tNot1 (mAsB (mCall (D__law_same 15) [mVar 2, mIx (mVar 3) (mC (.int 1))])))) (sRet (mC (.bl false))) (sNop)) (sSeq (sAsg (tgTup [tgName 1, tgName 2]) (mCall D__law_long [mVar 0, mC (.int 100001)])) (sSeq (sIf (mCmp gEq (mCall D__law_draw [mVar 0, mC (.int 2)]) (mC (.int 0))) (sSet 1 (mOp mAdd (mSlice (mVar 1) mNoPart (mPart (mNeg (mC (.int 1))))) (mC (.str c3)))) (sNop)) (sRet (mB (mCmp gEq (mCall D__law_asked [mVar 1]) (mTup [mC (.str c37), mC (.int 0)]))))))))))
theorem ok__law_long_right (T : Fx P K mg) : FnOk P w K mg base (L2.CX P w) 17 T.f__law_long_right T.fd__law_long_right ["d"] (spOf T.Z D__law_long_right 1) := by
  have S := sc__law_long_right
  refine fn_body (k := 16) T.F__law_long_right S (fun cdv A outer s H E hr => ?_)
  have tk := takes_of (X := cxOf (L2.CX P w) P w K mg base ["d", "text", "thing", "told"] "_law_long_right" (defScope s__law_long_right) T.f__law_long_right cdv A outer s H E) rfl rfl rfl rfl
  have hp := passes_of (X := cxOf (L2.CX P w) P w K mg base ["d", "text", "thing", "told"] "_law_long_right" (defScope s__law_long_right) T.f__law_long_right cdv A outer s H E) rfl
  exact ss_cons (s_asg (m_call (ok__law_long T) tk (hr.mono (by first | decide | omega)) (by rfl) T.g__law_long T.F__law_long.kp T.b__law_long (a_cons (mv 0) (a_cons (m_int) (a_nil)))) (g_tup rfl (gs_cons (g_name (i := 1) S.nd) (gs_cons (g_name (i := 2) S.nd) (gs_nil)))))
      (ss_cons (s_if (t_cmp (op_neD (huR hr)) sim_ne (m_call (ok_write_state T 15) tk (hr.mono (by first | decide | omega)) (by rfl) T.g_write_state T.F_write_state.kp T.b_write_state (a_cons (mv 2) (a_nil))) (mv 1) rfl) (ss_one (s_ret (m_bl))) (ss_nil))
      (ss_cons (s_set (i := 3) (m_call (ok__law_asked T) tk (hr.mono (by first | decide | omega)) (by rfl) T.g__law_asked T.F__law_asked.kp T.b__law_asked (a_cons (mv 1) (a_nil))) S.nd)
      (ss_cons (s_if (PW.pt (t_or (t_cmp (op_neD (huR hr)) sim_ne (m_ix (mv 3) (m_int)) (m_str c26 c26_eq c26_good) rfl) (t_or1 (t_not (t_val (m_call (ok__law_same T 15) tk (hr.mono (by first | decide | omega)) (by rfl) T.g__law_same T.F__law_same.kp T.b__law_same (a_cons (mv 2) (a_cons (m_ix (mv 3) (m_int)) (a_nil))))))))) (ss_one (s_ret (m_bl))) (ss_nil))
      (ss_cons (s_asg (m_call (ok__law_long T) tk (hr.mono (by first | decide | omega)) (by rfl) T.g__law_long T.F__law_long.kp T.b__law_long (a_cons (mv 0) (a_cons (m_int) (a_nil)))) (g_tup rfl (gs_cons (g_name (i := 1) S.nd) (gs_cons (g_name (i := 2) S.nd) (gs_nil)))))
      (ss_cons (s_if (t_cmp (op_eqD (huR hr)) sim_eq (m_call (ok__law_draw T) tk (hr.mono (by first | decide | omega)) (by rfl) T.g__law_draw T.F__law_draw.kp T.b__law_draw (a_cons (mv 0) (a_cons (m_int) (a_nil)))) (m_int) rfl) (ss_one (s_set (i := 1) (m_op op_addX sim_add (m_slice (mv 1) p_none (p_some (m_neg (m_int)))) (m_str c3 c3_eq c3_good)) S.nd)) (ss_nil))
      (ss_one (s_ret (m_cmp (op_eqD (huR hr)) sim_eq (m_call (ok__law_asked T) tk (hr.mono (by first | decide | omega)) (by rfl) T.g__law_asked T.F__law_asked.kp T.b__law_asked (a_cons (mv 1) (a_nil))) (m_tup (a_cons (m_str c37 c37_eq c37_good) (a_cons (m_int) (a_nil)))) rfl))))))))
noncomputable def D_law : List MV → M MV := mRun 9 (sSeq (sSet 1 (mCall D__law_begin [mVar 0])) (sSeq (sFor (iRange [mC (.int 3)]) (tgName 2) (sSeq (sAsg (tgTup [tgName 3, tgName 4]) (mCall (D__law_built 13) [mVar 1, mC (.int 12), mLst [mC (.int 40)]])) (sSeq (sIf (tOr2 (mCmp gNe (mCall (D_write_state 15) [mVar 4]) (mVar 3)) (tNot1 (mAsB (mCall D__law_right [mVar 3])))) (sRet (mC (.bl false))) (sNop)) (sFor (iRange [mC (.int 3)]) (tgName 5) (sIf (tNot1 (mAsB (mCall D__law_right [mCall D__law_spoilt [mVar 1, mVar 3]]))) (sRet (mC (.bl false))) (sNop)))))) (sSeq (sSet 6 (mOp mAdd (mC (.int 10)) (mCall D__law_draw [mVar 1, mC (.int 5)]))) (sSeq (sAsg (tgTup [tgName 3, tgName 4]) (mCall D__law_deep [mVar 1, mVar 6])) (sSeq (sIf (tOr2 (tNot1 (mAsB (mCall D__law_right [mVar 3]))) (tNot1 (mAsB (mCall D__law_right [mCall D__law_spoilt [mVar 1, mVar 3]])))) (sRet (mC (.bl false))) (sNop)) (sSeq (sIf (tAnd2 (mCmp (gI fun i j => decide (i ≤ j)) (mVar 6) (mC (.int 12))) (mCmp gNe (mCall (D_write_state 15) [mVar 4]) (mVar 3))) (sRet (mC (.bl false))) (sNop)) (sSeq (sSet 7 (mOp mAdd (mOp mPow (mC (.int 10)) (mC (.int 9))) (mCall D__law_draw [mVar 1, mOp mPow (mC (.int 10)) (mC (.int 9))]))) (sSeq (sSet 8 (mCallG mStr [mVar 7])) (sSeq (sIf (mCmp gNe (mCall (D_write_state 15) [mTup [mVar 7, mOp mSub (mC (.int 0)) (mVar 7)]]) (mOp mAdd (mOp mAdd (mOp mAdd (mOp mAdd (mC (.str c2)) (mVar 8)) (mC (.str c38))) (mVar 8)) (mC (.str c4)))) (sRet (mC (.bl false))) (sNop)) (sSeq (sIf (tNot1 (mAsB (mCall D__law_right [mOp mAdd (mOp mAdd (mOp mAdd (mOp mAdd (mC (.str c2)) (mSlice (mVar 8) (mPart (mC (.int 1))) mNoPart)) (mC (.str c3))) (mVar 8)) (mC (.str c4))]))) (sRet (mC (.bl false))) (sNop)) (sRet (mOrV (mCmp (gI fun i j => decide (j < i)) (mCall D__law_draw [mVar 1, mC (.int 8)]) (mC (.int 0))) (mCall D__law_long_right [mVar 1])))))))))))))
theorem ok_law (T : Fx P K mg) : FnOk P w K mg base (L2.CX P w) 18 T.f_law T.fd_law ["script"] (spOf T.Z D_law 1) := by
  have S := sc_law
  refine fn_body (k := 17) T.F_law S (fun cdv A outer s H E hr => ?_)
  have tk := takes_of (X := cxOf (L2.CX P w) P w K mg base ["script", "d", "k", "text", "thing", "more", "many", "number", "told"] "law" (defScope s_law) T.f_law cdv A outer s H E) rfl rfl rfl rfl
  have hp := passes_of (X := cxOf (L2.CX P w) P w K mg base ["script", "d", "k", "text", "thing", "more", "many", "number", "told"] "law" (defScope s_law) T.f_law cdv A outer s H E) rfl
  exact ss_cons (s_set (i := 1) (m_call (ok__law_begin T) tk (hr.mono (by first | decide | omega)) (by rfl) T.g__law_begin T.F__law_begin.kp T.b__law_begin (a_cons (mv 0) (a_nil))) S.nd)
      (ss_cons (s_for hp rfl (i_range1 (by rfl) T.n_range (a_cons (m_int) (a_nil))) (g_name (i := 2) S.nd) (ss_cons (s_asg (m_call (ok__law_built T 13) tk (hr.mono (by first | decide | omega)) (by rfl) T.g__law_built T.F__law_built.kp T.b__law_built (a_cons (mv 1) (a_cons (m_int) (a_cons (m_lst (a_cons (m_int) (a_nil))) (a_nil))))) (g_tup rfl (gs_cons (g_name (i := 3) S.nd) (gs_cons (g_name (i := 4) S.nd) (gs_nil)))))
      (ss_cons (s_if (PW.pt (t_or (t_cmp (op_neD (huR hr)) sim_ne (m_call (ok_write_state T 15) tk (hr.mono (by first | decide | omega)) (by rfl) T.g_write_state T.F_write_state.kp T.b_write_state (a_cons (mv 4) (a_nil))) (mv 3) rfl) (t_or1 (t_not (t_val (m_call (ok__law_right T) tk (hr.mono (by first | decide | omega)) (by rfl) T.g__law_right T.F__law_right.kp T.b__law_right (a_cons (mv 3) (a_nil)))))))) (ss_one (s_ret (m_bl))) (ss_nil))
      (ss_one (s_for hp rfl (i_range1 (by rfl) T.n_range (a_cons (m_int) (a_nil))) (g_name (i := 5) S.nd) (ss_one (s_if (t_not (t_val (m_call (ok__law_right T) tk (hr.mono (by first | decide | omega)) (by rfl) T.g__law_right T.F__law_right.kp T.b__law_right (a_cons (m_call (ok__law_spoilt T) tk (hr.mono (by first | decide | omega)) (by rfl) T.g__law_spoilt T.F__law_spoilt.kp T.b__law_spoilt (a_cons (mv 1) (a_cons (mv 3) (a_nil)))) (a_nil))))) (ss_one (s_ret (m_bl))) (ss_nil))))))))
      (ss_cons (s_set (i := 6) (m_op op_addX sim_add (m_int) (m_call (ok__law_draw T) tk (hr.mono (by first | decide | omega)) (by rfl) T.g__law_draw T.F__law_draw.kp T.b__law_draw (a_cons (mv 1) (a_cons (m_int) (a_nil))))) S.nd)
      (ss_cons (s_asg (m_call (ok__law_deep T) tk (hr.mono (by first | decide | omega)) (by rfl) T.g__law_deep T.F__law_deep.kp T.b__law_deep (a_cons (mv 1) (a_cons (mv 6) (a_nil)))) (g_tup rfl (gs_cons (g_name (i := 3) S.nd) (gs_cons (g_name (i := 4) S.nd) (gs_nil)))))
      (ss_cons (s_if (PW.pt (t_or (t_not (t_val (m_call (ok__law_right T) tk (hr.mono (by first | decide | omega)) (by rfl) T.g__law_right T.F__law_right.kp T.b__law_right (a_cons (mv 3) (a_nil))))) (t_or1 (t_not (t_val (m_call (ok__law_right T) tk (hr.mono (by first | decide | omega)) (by rfl) T.g__law_right T.F__law_right.kp T.b__law_right (a_cons (m_call (ok__law_spoilt T) tk (hr.mono (by first | decide | omega)) (by rfl) T.g__law_spoilt T.F__law_spoilt.kp T.b__law_spoilt (a_cons (mv 1) (a_cons (mv 3) (a_nil)))) (a_nil)))))))) (ss_one (s_ret (m_bl))) (ss_nil))
      (ss_cons (s_if (PW.pt (t_and (t_cmp op_le sim_I (mv 6) (m_int) rfl) (t_and1 (t_cmp (op_neD (huR hr)) sim_ne (m_call (ok_write_state T 15) tk (hr.mono (by first | decide | omega)) (by rfl) T.g_write_state T.F_write_state.kp T.b_write_state (a_cons (mv 4) (a_nil))) (mv 3) rfl)))) (ss_one (s_ret (m_bl))) (ss_nil))
      (ss_cons (s_set (i := 7) (m_op op_addX sim_add (m_op op_pow sim_pow (m_int) (m_int)) (m_call (ok__law_draw T) tk (hr.mono (by first | decide | omega)) (by rfl) T.g__law_draw T.F__law_draw.kp T.b__law_draw (a_cons (mv 1) (a_cons (m_op op_pow sim_pow (m_int) (m_int)) (a_nil))))) S.nd)
      (ss_cons (s_set (i := 8) (m_callTy sim_str call_strX (by rfl) T.n_str PyProof.Rows.Boot.«str» (a_cons (mv 7) (a_nil))) S.nd)
      (ss_cons (s_if (t_cmp (op_neD (huR hr)) sim_ne (m_call (ok_write_state T 15) tk (hr.mono (by first | decide | omega)) (by rfl) T.g_write_state T.F_write_state.kp T.b_write_state (a_cons (m_tup (a_cons (mv 7) (a_cons (m_op op_sub sim_sub (m_int) (mv 7)) (a_nil)))) (a_nil))) (m_op op_addX sim_add (m_op op_addX sim_add (m_op op_addX sim_add (m_op op_addX sim_add (m_str c2 c2_eq c2_good) (mv 8)) (m_str c38 c38_eq c38_good)) (mv 8)) (m_str c4 c4_eq c4_good)) rfl) (ss_one (s_ret (m_bl))) (ss_nil))
      (ss_cons (s_if (t_not (t_val (m_call (ok__law_right T) tk (hr.mono (by first | decide | omega)) (by rfl) T.g__law_right T.F__law_right.kp T.b__law_right (a_cons (m_op op_addX sim_add (m_op op_addX sim_add (m_op op_addX sim_add (m_op op_addX sim_add (m_str c2 c2_eq c2_good) (m_slice (mv 8) (p_some (m_int)) p_none)) (m_str c3 c3_eq c3_good)) (mv 8)) (m_str c4 c4_eq c4_good)) (a_nil))))) (ss_one (s_ret (m_bl))) (ss_nil))
      (ss_one (s_ret (m_or (m_cmp op_gt sim_I (m_call (ok__law_draw T) tk (hr.mono (by first | decide | omega)) (by rfl) T.g__law_draw T.F__law_draw.kp T.b__law_draw (a_cons (mv 1) (a_cons (m_int) (a_nil)))) (m_int) rfl) (m_and1 (m_call (ok__law_long_right T) tk (hr.mono (by first | decide | omega)) (by rfl) T.g__law_long_right T.F__law_long_right.kp T.b__law_long_right (a_cons (mv 1) (a_nil))))))))))))))))
end
end K76
end
section
set_option Elab.async false
set_option linter.all false
set_option maxRecDepth 100000
set_option maxHeartbeats 2000000
set_option autoImplicit false
/-! P76j: read_state; both readers agree. -/
namespace K76
open PySem PySem.Spec L2 Mi
def Rr (o : Out) (x : Res MV) (st' : Sto) : Prop := match o with
  | .fin v [] _ => x = .ok v st'
  | .fin _ (_ :: _) j => x = .exc 0 (exF (j + 1)) st'
  | .bad n => x = .exc 0 (exF n) st'
  | .deep => x = .exc 1 [("part", .str c9)] st'
theorem run_rs {o : Out} {n : Nat} {bd : Stm} {xs : List MV} {st st' : Sto} (h : Rs o (bd (init0 n xs) st) st') : Rr o (mRun n bd xs st) st' := by
  unfold Rs at h
  unfold Rr
  split at h
  · exact run_ret h
  · obtain ⟨σ, h⟩ := h
    exact run_exc h
  · obtain ⟨σ, h⟩ := h
    exact run_exc h
  · obtain ⟨σ, h⟩ := h
    exact run_exc h
theorem Rs.seq {o : Out} {a bd : Stm} {σ σ' : Sl} {st s1 st' : Sto} (h : Rs o (bd σ' s1) st') (ha : a σ st = .ok (.nx σ') s1) : Rs o (sSeq a bd σ st) st' := by
  rw [seq_nx ha rfl]
  exact h
theorem read_state_ok {text : List Nat} {o : Out} (h : Rd text 0 [] .begin o) (ht : text.length ≤ 100000) (st : Sto) : ∃ st', Rr o (D_read_state [.str text] st) st' ∧ st.length ≤ st'.length ∧ ∀ q, q < st.length → st'[q]? = st[q]? := by
  have hc2 : c2 = [40] := rfl
  have em := make_ok text st (init0 3 [.str text]) (mVar 0) rfl
  have h1 : PR (st ++ [.ins 0 (Fd text 0 (st.length + 1) true), .lst []]) st.length (st.length + 1) [] text 0 [] true := by
    refine ⟨?_, ⟨?_, True.intro, by simp⟩, by simp⟩
    · rw [List.getElem?_append_right (Nat.le_refl _)]
      simp
    · rw [List.getElem?_append_right (by omega)]
      simp
  have hk0 : ∀ q, q < st.length → (st ++ [MO.ins 0 (Fd text 0 (st.length + 1) true), .lst []])[q]? = st[q]? := fun q hq => List.getElem?_append_left hq
  have v1 : ∀ s, mVar 1 (Sp text st.length none) s = .ok (.loc st.length) s := fun s => rfl
  have start : ∀ {bd : Stm} {st' : Sto} {o : Out}, Rs o (bd (Sp text st.length none) (st ++ [.ins 0 (Fd text 0 (st.length + 1) true), .lst []])) st' →
      Rs o ((sSeq (sIf (mCmp (gI fun i j => decide (j < i)) (mCallG mLen [mVar 0]) (mC (.int 100000))) (sRaise 1 ["part"] okTL [mC (.str c10)]) (sNop)) (sSeq (sSet 1 (mMake 0 D_Reading_init [mVar 0])) bd)) (init0 3 [.str text]) st) st' := by
    intro bd st' o hb
    refine Rs.seq (Rs.seq hb (set_of em)) (if_f (cmp_of (callG1 (var_of rfl) (mLen_str _ _)) (mC_ap _ _ _) (by simp; omega)) (sNop_ap _ _))
  have bad1 : ∀ {bd : Stm}, (text.take 1 ≠ [40]) → Rs (.bad 1) ((sSeq (sIf (mCmp gNe (mMeth 0 "sign" D_Reading_sign (mVar 1) []) (mC (.str c2))) (sExpr (mMeth 0 "fail" D_Reading_fail (mVar 1) [])) (sNop)) bd) (Sp text st.length none) (st ++ [.ins 0 (Fd text 0 (st.length + 1) true), .lst []])) (st ++ [.ins 0 (Fd text 0 (st.length + 1) true), .lst []]) := by
    intro bd hn
    refine ⟨Sp text st.length none, seq_exc (if_t (cmp_of (meth_of h1 (v1 _) rfl (sign_ok h1)) (mC_ap _ _ _) ?_) (expr_exc (meth_of h1 (v1 _) rfl (fail_ok h1 (by decide)))))⟩
    rw [gNe_ss, List.drop_zero, hc2]
    simp [hn]
  have fin1 : (st ++ [MO.ins 0 (Fd text 0 (st.length + 1) true), .lst []]).length = st.length + 2 := by simp
  unfold D_read_state
  cases h with
  | @opn rest _ _ _ _ g1 g2 g3 =>
    obtain ⟨s2, e2, k2, k3⟩ := enter_ok h1 (by simp)
    obtain ⟨st', e3, k4⟩ := prog_go g3 (40 :: rest) st.length (st.length + 1) [(st ++ [MO.ins 0 (Fd (40 :: rest) 0 (st.length + 1) true), .lst []]).length] s2 none rfl (by simp) (fun z => nomatch z) True.intro k2 (by simp) (by simp at ht ⊢; omega) (by omega)
    refine ⟨st', run_rs (start (Rs.seq (s1 := st ++ [.ins 0 (Fd (40 :: rest) 0 (st.length + 1) true), .lst []]) (Rs.seq (show Rs o (sSeq (sWhile pT pB) pR (Sp (40 :: rest) st.length none) s2) st' from e3) (expr_of (meth_of h1 (v1 _) rfl e2))) (if_f (cmp_of (meth_of h1 (v1 _) rfl (sign_ok h1)) (mC_ap _ _ _) ?_) (sNop_ap _ _)))), ?_, fun q hq => ?_⟩
    · rw [gNe_ss, List.drop_zero, hc2]
      rfl
    · have := k3.len
      have := k4.len
      omega
    · rw [k4.at_ q (by have := k3.len; omega) (by omega) (by simp; omega), k3.at_ q (by omega) (by omega) (by simp; omega)]
      exact hk0 q hq
  | deep g1 g2 => cases g2
  | ends => exact ⟨_, run_rs (start (bad1 (by simp))), by omega, hk0⟩
  | @bad c rest _ _ _ g =>
    refine ⟨_, run_rs (start (bad1 ?_)), by omega, hk0⟩
    intro z
    simp at z
    subst z
    rcases g with ⟨_, z⟩ | ⟨z, _⟩ | ⟨z, _⟩ | ⟨z, _⟩
    · cases z
    · cases z
    · cases z
    · cases z
theorem asked_ok {text : List Nat} {o : Out} (h : Rd text 0 [] .begin o) (ht : text.length ≤ 100000) (st : Sto) : ∃ st', D__law_asked [.str text] st = .ok (oval o) st' ∧ st.length ≤ st'.length ∧ ∀ q, q < st.length → st'[q]? = st[q]? := by
  obtain ⟨st', h1, h2, h3⟩ := read_state_ok h ht st
  refine ⟨st', ?_, h2, h3⟩
  show askR (D_read_state [.str text] st) = _
  unfold Rr at h1
  split at h1
  · rw [h1]
    rfl
  · rw [h1]
    rfl
  · rw [h1]
    rfl
  · rw [h1]
    rfl
theorem asked_long {text : List Nat} (ht : 100000 < text.length) (st : Sto) : D__law_asked [.str text] st = .ok (.tup [.str c37, .int 0]) st := by
  show askR (D_read_state [.str text] st) = _
  have e : D_read_state [.str text] st = .exc 1 [("part", .str c10)] st := by
    unfold D_read_state
    exact run_exc (σ' := init0 3 [.str text]) (seq_exc (if_t (cmp_of (callG1 (var_of rfl) (mLen_str _ _)) (mC_ap _ _ _) (by simp; omega)) rfl))
  rw [e]
  rfl
theorem eqM_same {x : MV} (h : (toD x).canLay0 = true) : eqM x x = true := PySem.SeqAt.eqv_refl _ h
theorem gEq_same {x : MV} (st : Sto) (h : (toD x).canLay0 = true) (hd : depM x ≤ 60) : gEq st x x = some true := by
  unfold gEq
  rw [if_pos ⟨hd, hd⟩, eqM_same h]
theorem lay2 {s : List Nat} (hg : goodS s) (n : Int) : (toD (.tup [.str s, .int n])).canLay0 = true := by
  show (PyData.canLay0 (toD (.str s)) && (PyData.canLay0 (toD (.int n)) && PyData.canLayAll0 (toDs []))) = true
  rw [show PyData.canLay0 (toD (.str s)) = true from strOk_of hg]
  rfl
theorem right_ok {text : List Nat} (ht : text.length ≤ 100000) (st : Sto) : ∃ st', D__law_right [.str text] st = .ok (.bl true) st' ∧ st.length ≤ st'.length ∧ ∀ q, q < st.length → st'[q]? = st[q]? := by
  obtain ⟨o, h⟩ := rd_total text.length text 0 [] .begin (Nat.le_refl _) True.intro
  obtain ⟨s1, e1, l1, k1⟩ := law_read_ok h (by omega) st
  obtain ⟨s2, e2, l2, k2⟩ := asked_ok h ht s1
  have kk : ∀ q, q < st.length → s2[q]? = st[q]? := fun q hq => (k2 q (by omega)).trans (k1 q hq)
  have start : ∀ {bd : Stm} {v : MV} {s : Sto}, bd [some (.str text), some (oval o), some (oval o)] s2 = .ok (.ret v) s → mRun 3 (sSeq (sSet 1 (mCall D__law_read [mVar 0])) (sSeq (sSet 2 (mCall D__law_asked [mVar 0])) bd)) [.str text] st = .ok v s := by
    intro bd v s hb
    exact run_ret (seq_nx (σ' := [some (.str text), some (oval o), none]) (set_of (call1 (var_of rfl) e1)) (seq_nx (σ' := [some (.str text), some (oval o), some (oval o)]) (set_of (call1 (var_of rfl) e2)) hb))
  unfold D__law_right
  have notread : ∀ {a b : MV}, oval o = .tup [a, b] → gNe s2 a (.str c26) = some true → gEq s2 (oval o) (oval o) = some true → ∃ st', mRun 3 (sSeq (sSet 1 (mCall D__law_read [mVar 0])) (sSeq (sSet 2 (mCall D__law_asked [mVar 0])) (sSeq (sIf (mCmp gNe (mIx (mVar 1) (mC (.int 0))) (mC (.str c26))) (sRet (mB (mCmp gEq (mVar 2) (mVar 1)))) (sNop)) (sRet (mAndV (mCmp gEq (mIx (mVar 2) (mC (.int 0))) (mC (.str c26))) (mAndV (mAsB (mCall (D__law_same 15) [mIx (mVar 1) (mC (.int 1)), mIx (mVar 2) (mC (.int 1))])) (mB (mCmp gEq (mCall (D_write_state 15) [mIx (mVar 2) (mC (.int 1))]) (mVar 0))))))))) [.str text] st = .ok (.bl true) st' ∧ st.length ≤ st'.length ∧ ∀ q, q < st.length → st'[q]? = st[q]? := by
    intro a b ho hn he
    refine ⟨s2, start (seq_ret (if_t (cmp_of (ix_of (var_of rfl) (mC_ap _ _ _) (y := a) (by rw [ho]; rfl)) (mC_ap _ _ _) hn) (ret_of (mB_of (cmp_of (var_of rfl) (var_of rfl) he))))), by omega, kk⟩
  match o, h with
  | .bad n, h => exact notread (a := .str c28) (b := .int n) rfl rfl (gEq_same _ (lay2 c28_good _) (by show _ ≤ 60; simp [oval, depM, depMs]))
  | .deep, h => exact notread (a := .str c32) (b := .int 0) rfl rfl (gEq_same _ (lay2 c32_good _) (by show _ ≤ 60; simp [oval, depM, depMs]))
  | .fin v (c :: rest) j, h => exact notread (a := .str c28) (b := .int (j + 1)) rfl rfl (gEq_same _ (lay2 c28_good _) (by show _ ≤ 60; simp [oval, depM, depMs]))
  | .fin v [] j, h =>
    have hW := rd_text h True.intro v [] j rfl
    obtain ⟨hp, hdp⟩ := rd_ok h True.intro (by simp) v [] j rfl
    have hWt : W v = text := by
      have : ptx [] ++ (mark .begin ++ text) = W v ++ [] := hW
      simpa [ptx, mark] using this.symm
    obtain ⟨g1, e3⟩ := same_ok 15 v s2 hp (by omega) (by omega) (by rw [hWt]; omega)
    obtain ⟨g2, e4⟩ := write_ok 15 v (s2 ++ g1) hp (by omega) (by rw [hWt]; omega)
    rw [hWt] at e4
    have x1 : ∀ s : Sto, mIx (mVar 1) (mC (.int 1)) [some (.str text), some (oval (.fin v [] j)), some (oval (.fin v [] j))] s = .ok v s := fun s => ix_of (var_of rfl) (mC_ap _ _ _) rfl
    have x2 : ∀ s : Sto, mIx (mVar 2) (mC (.int 1)) [some (.str text), some (oval (.fin v [] j)), some (oval (.fin v [] j))] s = .ok v s := fun s => ix_of (var_of rfl) (mC_ap _ _ _) rfl
    refine ⟨s2 ++ g1 ++ g2, start (seq_nx (if_f (cmp_of (ix_of (var_of rfl) (mC_ap _ _ _) (y := .str c26) rfl) (mC_ap _ _ _) (by simp)) (sNop_ap _ _)) (ret_of ?_)), by simp; omega, fun q hq => ?_⟩
    · rw [mAndV_ap, cmp_of (k := true) (ix_of (var_of rfl) (mC_ap _ _ _) (y := .str c26) rfl) (mC_ap _ _ _) (by simp), bnd_ok, if_pos rfl, mAndV_ap, asB_of (call2 (x1 _) (x2 _) e3), bnd_ok, if_pos rfl]
      exact mB_of (cmp_of (call1 (x2 _) e4) (var_of rfl) (by simp))
    · rw [List.getElem?_append_left (by simp; omega), List.getElem?_append_left (by omega)]
      exact kk q hq
end K76
end
section
set_option Elab.async false
set_option linter.all false
set_option maxRecDepth 100000
set_option maxHeartbeats 2000000
set_option autoImplicit false
/-! P76k: draws. -/
namespace K76
open PySem PySem.Spec L2 Mi
/-- a drawer at n -/
def DOk (st : Sto) (n : Nat) : Prop := ∃ (m : Nat) (cells : List Int) (a : Nat) (f x y : Int), st[n]? = some (.lst [.loc m, .int a, .int f, .int x, .int y]) ∧ st[m]? = some (.lst (cells.map MV.int)) ∧ m < n
/-- all but the drawer stays -/
structure G (st st' : Sto) (n : Nat) : Prop where
  ok : DOk st' n
  len : st.length ≤ st'.length
  at_ : ∀ q, q < st.length → q ≠ n → st'[q]? = st[q]?
theorem DOk.lt {st : Sto} {n : Nat} (h : DOk st n) : n < st.length := by
  obtain ⟨m, cells, a, f, x, y, h1, _⟩ := h
  exact (List.getElem?_eq_some_iff.mp h1).1
theorem G.refl {st : Sto} {n : Nat} (h : DOk st n) : G st st n := ⟨h, Nat.le_refl _, fun _ _ _ => rfl⟩
theorem G.trans {a b c : Sto} {n : Nat} (h : G a b n) (k : G b c n) : G a c n := ⟨k.ok, Nat.le_trans h.len k.len, fun q hq hn => (k.at_ q (Nat.lt_of_lt_of_le hq h.len) hn).trans (h.at_ q hq hn)⟩
theorem DOk.app {st : Sto} {n : Nat} (h : DOk st n) (g : Sto) : DOk (st ++ g) n := by
  obtain ⟨m, cells, a, f, x, y, h1, h2, h3⟩ := h
  exact ⟨m, cells, a, f, x, y, get_app h1, get_app h2, h3⟩
theorem G.app {st : Sto} {n : Nat} (h : DOk st n) (g : Sto) : G st (st ++ g) n := ⟨h.app g, by simp, fun q hq _ => List.getElem?_append_left hq⟩
/-- .. by keeping -/
theorem DOk.keep {st st' : Sto} {n : Nat} (h : DOk st n) (k : ∀ q, q < st.length → st'[q]? = st[q]?) : DOk st' n := by
  obtain ⟨m, cells, a, f, x, y, h1, h2, h3⟩ := h
  exact ⟨m, cells, a, f, x, y, by rw [k n (List.getElem?_eq_some_iff.mp h1).1]; exact h1, by rw [k m (List.getElem?_eq_some_iff.mp h2).1]; exact h2, h3⟩
theorem G.keep {st st' : Sto} {n : Nat} (h : DOk st n) (l : st.length ≤ st'.length) (k : ∀ q, q < st.length → st'[q]? = st[q]?) : G st st' n := ⟨h.keep k, l, fun q hq _ => k q hq⟩
theorem setIx_ok {st : Sto} {n : Nat} {xs : List MV} {k : Nat} {x : MV} (h : st[n]? = some (.lst xs)) (hk : k < xs.length) : setIx (.loc n) (.int k) x st = .ok () (st.set n (.lst (xs.set k x))) := by
  show (match lstAt st n with | some xs => (match ixN xs.length (k : Int) with | some j => .ok () (st.set n (.lst (xs.set j x))) | none => .fail) | none => .fail : Res Unit) = _
  rw [lstAt_iff h]
  have : ixN xs.length (k : Int) = some k := by
    unfold ixN
    rw [if_pos (by omega), if_pos (by omega)]
    simp
  show (match ixN xs.length (k : Int) with | some j => .ok () (st.set n (.lst (xs.set j x))) | none => .fail : Res Unit) = _
  rw [this]
theorem mDiv_ok {i j : Int} (st : Sto) (h : 0 < j ∧ j < 1073741824) : mDiv (.int i) (.int j) st = .ok (.int (i / j)) st := by
  show (if cDiv i j = true then Pure.pure (.int (i / j)) else M.fail : M MV) st = _
  rw [if_pos (show cDiv i j = true from decide_eq_true h)]
  rfl
theorem mMod_ok {i j : Int} (st : Sto) (h : 0 < j) : mMod (.int i) (.int j) st = .ok (.int (i % j)) st := by
  show (if cMod i j = true then Pure.pure (.int (i % j)) else M.fail : M MV) st = _
  rw [if_pos (show cMod i j = true from decide_eq_true h)]
  rfl
theorem mMul_ok {i j : Int} (st : Sto) (h : (-(2 ^ 64) < i ∧ i < 2 ^ 64) ∨ (-(2 ^ 64) < j ∧ j < 2 ^ 64)) : mMul (.int i) (.int j) st = .ok (.int (i * j)) st := by
  show (if cMul i j = true then Pure.pure (.int (i * j)) else M.fail : M MV) st = _
  rw [if_pos (show cMul i j = true from decide_eq_true h)]
  rfl
@[simp] theorem mInt_int (i : Int) (st : Sto) : mInt [.int i] st = .ok (.int i) st := rfl
@[simp] theorem mInt_bl (b : Bool) (st : Sto) : mInt [.bl b] st = .ok (.int (if b then 1 else 0)) st := rfl
@[simp] theorem mAbs_int (i : Int) (st : Sto) : mAbs [.int i] st = .ok (.int (if i < 0 then -i else i)) st := rfl
section
variable {st : Sto} {n m : Nat} {cells : List Int} {a : Nat} {f x y many : Int} {s2 s3 s4 : Option MV}
abbrev Sd (n : Nat) (many : Int) (s2 s3 s4 : Option MV) : Sl := [some (.loc n), some (.int many), s2, s3, s4]
theorem dix {k : Nat} {xs : List MV} {v : MV} (h : st[n]? = some (.lst xs)) (hk : xs[k]? = some v) : mIx (mVar 0) (mC (.int k)) (Sd n many s2 s3 s4) st = .ok v st :=
  ix_of (var_of rfl) (mC_ap _ _ _) (by rw [ixM_loc h, Mi.atI_nat]; exact hk)
/-- d[2] = found // many; return int(found) % many -/
theorem draw_found {xs : List MV} (h : st[n]? = some (.lst xs)) (hl : 2 < xs.length) (hm : 0 < many ∧ many < 1073741824) (fo : Int) : sSeq (sAsg (tgIx (mVar 0) (mC (.int 2))) (mOp mDiv (mVar 2) (mVar 1))) (sRet (mOp mMod (mCallG mInt [mVar 2]) (mVar 1))) (Sd n many (some (.int fo)) s3 s4) st =
    .ok (.ret (.int (fo % many))) (st.set n (.lst (xs.set 2 (.int (fo / many))))) := by
  refine seq_nx (σ' := Sd n many (some (.int fo)) s3 s4) (s1 := st.set n (.lst (xs.set 2 (.int (fo / many))))) ?_ (ret_of (op_of (callG1 (var_of rfl) (mInt_int _ _)) (var_of rfl) (mMod_ok _ hm.1)))
  rw [sAsg_ap, op_of (var_of rfl) (var_of rfl) (mDiv_ok _ hm), cat_ok, tgIx_ap, var_of (σ := Sd n many (some (.int fo)) s3 s4) (i := 0) rfl, bnd_ok, mC_ap, bnd_ok]
  rw [show setIx (.loc n) (.int 2) (.int (fo / many)) st = .ok () (st.set n (.lst (xs.set 2 (.int (fo / many))))) from setIx_ok (k := 2) h hl]
  rfl
theorem aug1 (h : st[n]? = some (.lst [.loc m, .int a, .int f, .int x, .int y])) : sAugIx (fun i j => i + j) (mVar 0) (mC (.int 1)) (mC (.int 1)) (Sd n many s2 s3 s4) st = .ok (.nx (Sd n many s2 s3 s4)) (st.set n (.lst [.loc m, .int (a + 1 : Nat), .int f, .int x, .int y])) := by
  have e : setIx (.loc n) (.int 1) (.int ((a : Int) + 1)) st = .ok () (st.set n (.lst [.loc m, .int ((a : Int) + 1), .int f, .int x, .int y])) := setIx_ok (k := 1) h (by simp)
  unfold sAugIx
  simp only [catchX_ap, bind_ap, mVar_ap, mC_ap]
  have : (lstAt st n) = some [.loc m, .int a, .int f, .int x, .int y] := lstAt_iff h
  simp [look_ap, this, e]
theorem set3 (h : st[n]? = some (.lst [.loc m, .int a, .int f, .int x, .int y])) {fe : Exp} {w : Int} (he : fe (Sd n many s2 s3 s4) st = .ok (.int w) st) : sAsg (tgIx (mVar 0) (mC (.int 3))) fe (Sd n many s2 s3 s4) st = .ok (.nx (Sd n many s2 s3 s4)) (st.set n (.lst [.loc m, .int a, .int f, .int w, .int y])) := by
  rw [sAsg_ap, he, cat_ok, tgIx_ap, var_of (σ := Sd n many s2 s3 s4) (i := 0) rfl, bnd_ok, mC_ap, bnd_ok]
  rw [show setIx (.loc n) (.int 3) (.int w) st = .ok () (st.set n (.lst [.loc m, .int a, .int f, .int w, .int y])) from setIx_ok (k := 3) h (by simp)]
  rfl
end
theorem draw_ok {st : Sto} {n : Nat} {many : Int} (hd : DOk st n) (hm : 0 < many ∧ many < 1073741824) : ∃ (k : Int) (st' : Sto), D__law_draw [.loc n, .int many] st = .ok (.int k) st' ∧ (0 ≤ k ∧ k < many) ∧ G st st' n := by
  obtain ⟨m, cells, a, f, x, y, h1, h2, h3⟩ := hd
  have hn : n < st.length := (List.getElem?_eq_some_iff.mp h1).1
  have gset : ∀ (a' : Nat) (f' x' : Int), G st (st.set n (.lst [.loc m, .int a', .int f', .int x', .int y])) n := fun a' f' x' =>
    ⟨⟨m, cells, a', f', x', y, set_eq hn, by rw [set_ne (by omega)]; exact h2, h3⟩, by simp, fun q hq hq2 => set_ne hq2⟩
  have md : ∀ z : Int, 0 ≤ z % many ∧ z % many < many := fun z => ⟨Int.emod_nonneg z (by omega), Int.emod_lt_of_pos z hm.1⟩
  unfold D__law_draw
  by_cases hf : 0 < f
  · refine ⟨f % many, _, run_ret (seq_ret (if_t (cmp_of (dix (k := 2) h1 rfl) (mC_ap _ _ _) (by simp [hf])) (seq_nx (set_of (dix (k := 2) h1 rfl)) (draw_found (xs := [.loc m, .int a, .int f, .int x, .int y]) h1 (by simp) hm f)))), md f, ?_⟩
    exact gset a (f / many) x
  · -- the size
    have sz : ∃ (z : Int) (s4 : Option MV), 0 ≤ z ∧ (sIf (mCmp (gI fun i j => decide (i < j)) (mIx (mVar 0) (mC (.int 1))) (mCallG mLen [mIx (mVar 0) (mC (.int 0))])) (sSeq (sSet 4 (mIx (mIx (mVar 0) (mC (.int 0))) (mIx (mVar 0) (mC (.int 1))))) (sSet 3 (mOp mAdd (mOp mMul (mC (.int 2)) (mCallG mAbs [mVar 4])) (mCallG mInt [mB (mCmp (gI fun i j => decide (i < j)) (mVar 4) (mC (.int 0)))])))) (sNop)) (Sd n many none (some (.int 0)) none) st = .ok (.nx (Sd n many none (some (.int z)) s4)) st := by
      by_cases ha : a < cells.length
      · have hc : (cells.map MV.int)[a]? = some (.int cells[a]) := by simp [ha]
        refine ⟨2 * (if cells[a] < 0 then -cells[a] else cells[a]) + (if cells[a] < 0 then 1 else 0), some (.int cells[a]), by split <;> omega, ?_⟩
        refine if_t (cmp_of (dix (k := 1) h1 rfl) (callG1 (dix (k := 0) h1 rfl) (mLen_loc h2)) (by simp [ha])) (seq_nx (set_of (ix_of (dix (k := 0) h1 rfl) (dix (k := 1) h1 rfl) (by rw [ixM_loc h2, Mi.atI_nat]; exact hc))) ?_)
        refine set_of (op_of (op_of (mC_ap _ _ _) (callG1 (var_of rfl) (mAbs_int _ _)) (mMul_ok _ (by simp))) (callG1 (mB_of (cmp_of (var_of rfl) (mC_ap _ _ _) rfl)) (mInt_bl _ _)) ?_)
        rw [mAdd_ii]
        by_cases hneg : cells[a] < 0 <;> simp [hneg]
      · exact ⟨0, none, by omega, if_f (cmp_of (dix (k := 1) h1 rfl) (callG1 (dix (k := 0) h1 rfl) (mLen_loc h2)) (by simp; omega)) (sNop_ap _ _)⟩
    obtain ⟨z, s4, hz, ez⟩ := sz
    have hs1 : (st.set n (.lst [.loc m, .int (a + 1 : Nat), .int f, .int x, .int y]))[n]? = some (.lst [.loc m, .int (a + 1 : Nat), .int f, .int x, .int y]) := set_eq hn
    have start : ∀ {bd : Stm} {v : MV} {s : Sto}, bd (Sd n many none (some (.int z)) s4) (st.set n (.lst [.loc m, .int (a + 1 : Nat), .int f, .int x, .int y])) = .ok (.ret v) s → ∀ A : Stm,
        mRun 5 (sSeq (sIf (mCmp (gI fun i j => decide (j < i)) (mIx (mVar 0) (mC (.int 2))) (mC (.int 0))) A (sNop)) (sSeq (sSet 3 (mC (.int 0))) (sSeq (sIf (mCmp (gI fun i j => decide (i < j)) (mIx (mVar 0) (mC (.int 1))) (mCallG mLen [mIx (mVar 0) (mC (.int 0))])) (sSeq (sSet 4 (mIx (mIx (mVar 0) (mC (.int 0))) (mIx (mVar 0) (mC (.int 1))))) (sSet 3 (mOp mAdd (mOp mMul (mC (.int 2)) (mCallG mAbs [mVar 4])) (mCallG mInt [mB (mCmp (gI fun i j => decide (i < j)) (mVar 4) (mC (.int 0)))])))) (sNop)) (sSeq (sAugIx (fun i j => i + j) (mVar 0) (mC (.int 1)) (mC (.int 1))) bd)))) [.loc n, .int many] st = .ok v s := by
      intro bd v s hb A
      exact run_ret (seq_nx (if_f (cmp_of (dix (k := 2) h1 rfl) (mC_ap _ _ _) (by simp [hf])) (sNop_ap _ _)) (seq_nx (σ' := Sd n many none (some (.int 0)) none) rfl (seq_nx ez (seq_nx (aug1 h1) hb))))
    have e18 : mOp mMul (mC (.int 2)) (mOp mPow (mC (.int 10)) (mC (.int 18))) (Sd n many none (some (.int z)) s4) (st.set n (.lst [.loc m, .int (a + 1 : Nat), .int f, .int x, .int y])) = .ok (.int (2 * 10 ^ 18)) (st.set n (.lst [.loc m, .int (a + 1 : Nat), .int f, .int x, .int y])) := rfl
    by_cases hb : (2 * 10 ^ 18 : Int) ≤ z
    · have ev : sSet 2 (mOp mMod (mCallG mInt [mOp mDiv (mVar 3) (mC (.int 2))]) (mOp mShl (mC (.int 1)) (mC (.int 6000)))) (Sd n many none (some (.int z)) s4) (st.set n (.lst [.loc m, .int (a + 1 : Nat), .int f, .int x, .int y])) = .ok (.nx (Sd n many (some (.int (z / 2 % (1 * 2 ^ 6000)))) (some (.int z)) s4)) (st.set n (.lst [.loc m, .int (a + 1 : Nat), .int f, .int x, .int y])) := by
        refine set_of (op_of (callG1 (op_of (var_of rfl) (mC_ap _ _ _) (mDiv_ok _ (by decide))) (mInt_int _ _)) (op_of (mC_ap _ _ _) (mC_ap _ _ _) (w := .ok (.int (1 * 2 ^ 6000)) _) ?_) (mMod_ok _ ?_))
        · show (if cPow 1 6000 = true then Pure.pure (.int (1 * 2 ^ (6000 : Int).toNat)) else M.fail : M MV) _ = _
          rw [if_pos (by decide)]
          rfl
        · have : (0 : Int) < 2 ^ 6000 := Int.pow_pos (by decide)
          omega
      have e3 := draw_found (s3 := some (.int z)) (s4 := s4) (xs := [.loc m, .int (a + 1 : Nat), .int f, .int x, .int y]) hs1 (by simp) hm (z / 2 % (1 * 2 ^ 6000))
      refine ⟨_, _, start (seq_ret (if_t (cmp_of (var_of rfl) e18 (by simp; omega)) (seq_nx ev e3))) _, md _, ?_⟩
      rw [List.set_set]
      exact gset (a + 1) _ x
    · have e4 : mOp mMod (mCallG mInt [mOp mAdd (mOp mAdd (mOp mAdd (mOp mMul (mIx (mVar 0) (mC (.int 3))) (mC (.int 48271))) (mOp mMul (mOp mMod (mCallG mInt [mVar 3]) (mC (.int 2147483629))) (mC (.int 16807)))) (mOp mMul (mIx (mVar 0) (mC (.int 1))) (mC (.int 69621)))) (mC (.int 11))]) (mC (.int 2147483647)) (Sd n many none (some (.int z)) s4) (st.set n (.lst [.loc m, .int (a + 1 : Nat), .int f, .int x, .int y])) =
          .ok (.int ((x * 48271 + z % 2147483629 * 16807 + ((a + 1 : Nat) : Int) * 69621 + 11) % 2147483647)) (st.set n (.lst [.loc m, .int (a + 1 : Nat), .int f, .int x, .int y])) :=
        op_of (callG1 (op_of (op_of (op_of (op_of (dix (k := 3) hs1 rfl) (mC_ap _ _ _) (mMul_ok _ (by simp))) (op_of (op_of (callG1 (var_of rfl) (mInt_int _ _)) (mC_ap _ _ _) (mMod_ok _ (by decide))) (mC_ap _ _ _) (mMul_ok _ (by simp))) (mAdd_ii _ _ _)) (op_of (dix (k := 1) hs1 rfl) (mC_ap _ _ _) (mMul_ok _ (by simp))) (mAdd_ii _ _ _)) (mC_ap _ _ _) (mAdd_ii _ _ _)) (mInt_int _ _)) (mC_ap _ _ _) (mMod_ok _ (by decide))
      have e5 := set3 hs1 e4
      rw [List.set_set] at e5
      have hs2 : (st.set n (.lst [.loc m, .int (a + 1 : Nat), .int f, .int ((x * 48271 + z % 2147483629 * 16807 + ((a + 1 : Nat) : Int) * 69621 + 11) % 2147483647), .int y]))[n]? = _ := set_eq hn
      refine ⟨_, _, start (seq_nx (if_f (cmp_of (var_of rfl) e18 (by simp; omega)) (sNop_ap _ _)) (seq_nx e5 (ret_of (op_of (callG1 (op_of (dix (k := 3) hs2 rfl) (mC_ap _ _ _) (mDiv_ok _ (by decide))) (mInt_int _ _)) (var_of rfl) (mMod_ok _ hm.1))))) _, md _, ?_⟩
      exact gset (a + 1) f _
end K76
end
section
set_option Elab.async false
set_option linter.all false
set_option maxRecDepth 100000
set_option maxHeartbeats 2000000
set_option autoImplicit false
/-! P76l: loops over numbers; drawn words. -/
namespace K76
open PySem PySem.Spec L2 Mi PySem.NumText
/-- a loop by an invariant of the turn -/
theorem for_inv {Inv : Nat → Sl → Sto → Prop} {k N : Nat} {b : Stm} : ∀ (xs : List MV) (i : Nat) (σ : Sl) (st : Sto), i + xs.length ≤ N → Inv i σ st → (∀ x ∈ xs, ∀ (i : Nat) (σ : Sl) (st : Sto), i < N → Inv i σ st → ∃ (σ' : Sl) (st' : Sto), (b (σ.set k (some x)) st = .ok (.nx σ') st' ∨ b (σ.set k (some x)) st = .ok (.bk σ') st') ∧ Inv (i + 1) σ' st') →
    ∃ (j : Nat) (σ' : Sl) (st' : Sto), forGo (Pure.pure ()) (tgName k) b xs σ st = .ok (.nx σ') st' ∧ j ≤ i + xs.length ∧ Inv j σ' st'
  | [], i, σ, st, _, h, _ => ⟨i, σ, st, rfl, by simp, h⟩
  | x :: xs, i, σ, st, hN, h, hb => by
    simp only [List.length_cons] at hN
    obtain ⟨σ1, s1, e, h1⟩ := hb x (by simp) i σ st (by omega) h
    rcases e with e | e
    · obtain ⟨j, σ2, s2, e2, hj, h2⟩ := for_inv xs (i + 1) σ1 s1 (by omega) h1 fun y hy => hb y (by simp [hy])
      refine ⟨j, σ2, s2, ?_, by simp; omega, h2⟩
      show ((b (σ.set k (some x)) >>= fun fl => match fl with
        | .nx σ' => forGo (Pure.pure ()) (tgName k) b xs σ'
        | .ct σ' => forGo (Pure.pure ()) (tgName k) b xs σ'
        | .bk σ' => Pure.pure (.nx σ')
        | .ret v => Pure.pure (.ret v)
        | .exc c fs σ' => Pure.pure (.exc c fs σ')) st : Res Fl) = _
      rw [bind_ap, e]
      exact e2
    · refine ⟨i + 1, σ1, s1, ?_, by simp only [List.length_cons]; omega, h1⟩
      show ((b (σ.set k (some x)) >>= fun fl => match fl with
        | .nx σ' => forGo (Pure.pure ()) (tgName k) b xs σ'
        | .ct σ' => forGo (Pure.pure ()) (tgName k) b xs σ'
        | .bk σ' => Pure.pure (.nx σ')
        | .ret v => Pure.pure (.ret v)
        | .exc c fs σ' => Pure.pure (.exc c fs σ')) st : Res Fl) = _
      rw [bind_ap, e]
      rfl
theorem sFor_of {it : Itm} {g : Tg} {b : Stm} {σ : Sl} {st s : Sto} {xs : List MV} {w : Res Fl} (hi : it σ st = .ok (xs, Pure.pure ()) s) (h : forGo (Pure.pure ()) g b xs σ s = w) : sFor it g b σ st = w := by
  show catchX (it σ) σ _ st = _
  rw [catchX_ap, hi]
  exact h
/-- a word: not empty, short, without blanks and brackets -/
def WOk (n : Nat) (w : List Nat) : Prop := w ≠ [] ∧ w.length ≤ n ∧ ∀ c ∈ w, sep c = false
theorem dig_sep {c : Nat} (h : 48 ≤ c ∧ c ≤ 57) : sep c = false := by
  unfold sep
  have h1 : c ≠ 40 := by omega
  have h2 : c ≠ 41 := by omega
  have h3 : c ≠ 32 := by omega
  simp [h1, h2, h3]
theorem num_ok {k : Int} (h0 : 0 ≤ k) (h1 : k < 100) : WOk 2 (strI k) := by
  obtain ⟨m, rfl⟩ := Int.eq_ofNat_of_zero_le h0
  rw [strI_nat]
  refine ⟨?_, ?_, fun c hc => dig_sep (TL.numL_digits m c hc)⟩
  · intro z
    by_cases hm : m < 10
    · rw [TL.numL_lt hm] at z
      cases z
    · rw [TL.numL_step (by omega)] at z
      simp at z
  · unfold TL.numL
    rw [List.length_map]
    exact (Nat.length_toDigits_le_iff (by decide) (by decide)).mpr (by omega)
theorem strN_ok {k : Int} (h0 : 0 ≤ k) (h1 : k < 100) (st : Sto) : mStr [.int k] st = .ok (.str (strI k)) st := mStr_int (by omega) (by have := (num_ok h0 h1).2.1; omega) st
theorem WOk.app {n m : Nat} {a b : List Nat} (ha : WOk n a) (hb : WOk m b) : WOk (n + m) (a ++ b) :=
  ⟨by simp [ha.1], by have := ha.2.1; have := hb.2.1; simp; omega, fun c hc => (List.mem_append.mp hc).elim (ha.2.2 c) (hb.2.2 c)⟩
theorem WOk.mono {n m : Nat} {a : List Nat} (ha : WOk n a) (h : n ≤ m) : WOk m a := ⟨ha.1, by have := ha.2.1; omega, ha.2.2⟩
theorem draw_at {σ : Sl} {st s1 s : Sto} {n : Nat} {many : Int} {fo fm : Exp} (h1 : fo σ st = .ok (.loc n) s1) (h2 : fm σ s1 = .ok (.int many) s) (hd : DOk s n) (hm : 0 < many ∧ many < 1073741824) : ∃ (k : Int) (st' : Sto), mCall D__law_draw [fo, fm] σ st = .ok (.int k) st' ∧ (0 ≤ k ∧ k < many) ∧ G s st' n := by
  obtain ⟨k, st', e, hk, g⟩ := draw_ok hd hm
  exact ⟨k, st', call2 h1 h2 e, hk, g⟩
theorem pick_str {st : Sto} {n : Nat} {s : List Nat} (hd : DOk st n) (hs : s ≠ []) (hl : s.length < 1000) : ∃ c st', D__law_pick [.loc n, .str s] st = .ok (.str [c]) st' ∧ c ∈ s ∧ G st st' n := by
  have hpos : 0 < s.length := List.length_pos_iff.mpr hs
  obtain ⟨k, s1, e, hk, g⟩ := draw_at (σ := [some (.loc n), some (.str s)]) (fo := mVar 0) (fm := mCallG mLen [mVar 1]) (s1 := st) (var_of rfl) (callG1 (var_of rfl) (mLen_str _ _)) hd ⟨by omega, by omega⟩
  obtain ⟨m, rfl⟩ := Int.eq_ofNat_of_zero_le hk.1
  have hm : m < s.length := by omega
  refine ⟨s[m], s1, ?_, List.getElem_mem hm, g⟩
  unfold D__law_pick
  exact run_ret (ret_of (ix_of (var_of rfl) e (by rw [ixM_str, Mi.atI_nat, List.getElem?_eq_getElem hm]; rfl)))
theorem pick_loc {st : Sto} {n r : Nat} {xs : List MV} (hd : DOk st n) (hr : st[r]? = some (.lst xs)) (hrn : r ≠ n) (hs : xs ≠ []) (hl : xs.length < 1000) : ∃ x st', D__law_pick [.loc n, .loc r] st = .ok x st' ∧ x ∈ xs ∧ G st st' n := by
  have hpos : 0 < xs.length := List.length_pos_iff.mpr hs
  obtain ⟨k, s1, e, hk, g⟩ := draw_at (σ := [some (.loc n), some (.loc r)]) (fo := mVar 0) (fm := mCallG mLen [mVar 1]) (s1 := st) (var_of rfl) (callG1 (var_of rfl) (mLen_loc hr)) hd ⟨by omega, by omega⟩
  obtain ⟨m, rfl⟩ := Int.eq_ofNat_of_zero_le hk.1
  have hm : m < xs.length := by omega
  have hr1 : s1[r]? = some (.lst xs) := by
    rw [g.at_ r (List.getElem?_eq_some_iff.mp hr).1 hrn]
    exact hr
  refine ⟨xs[m], s1, ?_, List.getElem_mem hm, g⟩
  unfold D__law_pick
  exact run_ret (ret_of (ix_of (var_of rfl) e (by rw [ixM_loc hr1, Mi.atI_nat, List.getElem?_eq_getElem hm])))
theorem figures_ok {st : Sto} {n : Nat} {many : Int} (hd : DOk st n) (hm : 1 ≤ many ∧ many ≤ 10) : ∃ w st', D__law_figures [.loc n, .int many] st = .ok (.str w) st' ∧ WOk 20 w ∧ G st st' n := by
  obtain ⟨k0, s0, e0, hk0, g0⟩ := draw_at (σ := init0 4 [.loc n, .int many]) (fo := mVar 0) (fm := mC (.int 9)) (s1 := st) (st := st) (var_of rfl) (mC_ap _ _ _) hd (by decide)
  have e1 : mCallG mStr [mOp mAdd (mC (.int 1)) (mCall D__law_draw [mVar 0, mC (.int 9)])] (init0 4 [.loc n, .int many]) st = .ok (.str (strI (1 + k0))) s0 := callG1 (op_of (mC_ap _ _ _) e0 (mAdd_ii _ _ _)) (strN_ok (by omega) (by omega) _)
  obtain ⟨j, σ', s1, e2, hj, w, k', hσ, hw, hG⟩ := for_inv (Inv := fun i σ s => ∃ (w : List Nat) (k' : Option MV), σ = [some (.loc n), some (.int many), some (.str w), k'] ∧ WOk (2 + 2 * i) w ∧ G st s n) (N := 9) (k := 3) (b := sSet 2 (mOp mAdd (mVar 2) (mCallG mStr [mCall D__law_draw [mVar 0, mC (.int 10)]]))) (Mi.intsFrom 0 (many - 1).toNat) 0 [some (.loc n), some (.int many), some (.str (strI (1 + k0))), none] s0 (by rw [ints_len]; omega) ⟨_, _, rfl, num_ok (by omega) (by omega), g0⟩ (by
    rintro x hx i σ s hi ⟨w, k', rfl, hw, hG⟩
    obtain ⟨k1, s2, e2, hk1, g1⟩ := draw_at (σ := [some (.loc n), some (.int many), some (.str w), some x]) (fo := mVar 0) (fm := mC (.int 10)) (s1 := s) (st := s) (var_of rfl) (mC_ap _ _ _) hG.ok (by decide)
    have hn := num_ok (k := k1) (by omega) (by omega)
    have hw1 := hw.2.1
    exact ⟨[some (.loc n), some (.int many), some (.str (w ++ strI k1)), some x], s2, .inl (set_of (op_of (var_of rfl) (callG1 e2 (strN_ok (by omega) (by omega) _)) (mAdd_ss _ (by have := hn.2.1; omega)))), w ++ strI k1, some x, rfl, (hw.app hn).mono (by omega), hG.trans g1⟩)
  have hjl : j ≤ 9 := by
    rw [ints_len] at hj
    omega
  refine ⟨w, s1, ?_, hw.mono (by omega), hG⟩
  subst hσ
  unfold D__law_figures
  exact run_ret (seq_nx (set_of e1) (seq_nx (sFor_of (iRange1 (op_of (var_of rfl) (mC_ap _ _ _) (mSub_ii _ _ _)) (by omega) (by omega)) e2) (ret_of (var_of rfl))))
/-- a comprehension whose elements draw -/
theorem lc_draw {n D : Nat} {g : Tg} {f : Exp} {σ : Sl} {P : MV → Prop} : ∀ (xs acc : List MV) (st : Sto), st[D]? = some (.lst acc) → n < D → DOk st n → (∀ x ∈ xs, ∀ s : Sto, DOk s n → ∃ (σ' : Sl) (y : MV) (s' : Sto), g x σ s = .ok σ' s ∧ f σ' s = .ok y s' ∧ P y ∧ G s s' n) → acc.length + xs.length ≤ 10000 →
    ∃ (ys : List MV) (s' : Sto), lcGo (Pure.pure ()) g tYes1 f D xs σ st = .ok () s' ∧ s'[D]? = some (.lst (acc ++ ys)) ∧ ys.length = xs.length ∧ (∀ y ∈ ys, P y) ∧ DOk s' n ∧ st.length ≤ s'.length ∧ ∀ q, q < st.length → q ≠ n → q ≠ D → s'[q]? = st[q]?
  | [], acc, st, h, hD, hd, _, _ => ⟨[], st, rfl, by simpa using h, rfl, by simp, hd, Nat.le_refl _, fun _ _ _ _ => rfl⟩
  | x :: xs, acc, st, h, hD, hd, hx, hl => by
    simp only [List.length_cons] at hl
    obtain ⟨σ', y, s1, e1, e2, hP, g1⟩ := hx x (by simp) st hd
    have hlt : D < st.length := (List.getElem?_eq_some_iff.mp h).1
    have h1 : s1[D]? = some (.lst acc) := by rw [g1.at_ D hlt (by omega)]; exact h
    have hlt1 : D < s1.length := (List.getElem?_eq_some_iff.mp h1).1
    have e3 := mAppend_ok (x := y) h1 (by omega)
    have hd2 : DOk (s1.set D (.lst (acc ++ [y]))) n := by
      obtain ⟨m, cells, a, f', x', y', k1, k2, k3⟩ := g1.ok
      exact ⟨m, cells, a, f', x', y', by rw [set_ne (by omega)]; exact k1, by rw [set_ne (by omega)]; exact k2, k3⟩
    obtain ⟨ys, s2, e4, k1, k2, k3, k4, k5, k6⟩ := lc_draw xs (acc ++ [y]) (s1.set D (.lst (acc ++ [y]))) (set_eq hlt1) hD hd2 (fun z hz => hx z (by simp [hz])) (by simp; omega)
    refine ⟨y :: ys, s2, ?_, by rw [k1]; simp, by simp [k2], fun z hz => ?_, k4, ?_, fun q hq hq1 hq2 => ?_⟩
    · show ((Pure.pure () : M Unit) >>= fun _ => g x σ >>= fun σ1 => tYes1 σ1 >>= fun c => if c = true then f σ1 >>= fun y => mAppend (.loc D) [y] >>= fun _ => lcGo (Pure.pure ()) g tYes1 f D xs σ else lcGo (Pure.pure ()) g tYes1 f D xs σ) st = _
      simp only [bind_ap, pure_ap, bnd_ok, e1]
      show ((f σ' >>= fun y => mAppend (.loc D) [y] >>= fun _ => lcGo (Pure.pure ()) g tYes1 f D xs σ) st) = _
      rw [bind_ap, e2, bnd_ok, bind_ap, e3, bnd_ok]
      exact e4
    · rcases List.mem_cons.mp hz with z' | z'
      · subst z'; exact hP
      · exact k3 z z'
    · have := g1.len
      simp at k5
      omega
    · have := g1.len
      rw [k6 q (by simp; omega) hq1 hq2, set_ne hq2]
      exact g1.at_ q hq hq1
theorem mLc_draw {n : Nat} {it : Itm} {g : Tg} {f : Exp} {vs : List Nat} {σ : Sl} {st s0 : Sto} {xs : List MV} {P : MV → Prop} (hi : it σ st = .ok (xs, Pure.pure ()) s0) (hd : DOk s0 n) (hx : ∀ x ∈ xs, ∀ s : Sto, DOk s n → ∃ (σ' : Sl) (y : MV) (s' : Sto), g x (wipeM σ vs) s = .ok σ' s ∧ f σ' s = .ok y s' ∧ P y ∧ G s s' n) (hl : xs.length ≤ 10000) :
    ∃ (r : Nat) (ys : List MV) (s' : Sto), mLc it g tYes1 f vs σ st = .ok (.loc r) s' ∧ s'[r]? = some (.lst ys) ∧ ys.length = xs.length ∧ (∀ y ∈ ys, P y) ∧ G s0 s' n ∧ r ≠ n := by
  have hlt := hd.lt
  obtain ⟨ys, s', e, k1, k2, k3, k4, k5, k6⟩ := lc_draw xs [] (s0 ++ [.lst []]) (D := s0.length) get_new hlt (hd.app _) hx (by simpa using hl)
  refine ⟨s0.length, ys, s', ?_, by simpa using k1, k2, k3, ⟨k4, by simp at k5; omega, fun q hq hq1 => ?_⟩, by omega⟩
  · show ((it σ st).bnd fun q st => finL st.length (lcGo q.2 g tYes1 f st.length q.1 (wipeM σ vs) (st ++ [.lst []]))) = _
    rw [hi, bnd_ok]
    show finL s0.length (lcGo (Pure.pure ()) g tYes1 f s0.length xs (wipeM σ vs) (s0 ++ [.lst []])) = _
    rw [e]
    rfl
  · rw [k6 q (by simp; omega) hq1 (by omega)]
    exact List.getElem?_append_left hq
theorem G.look {a b : Sto} {n r : Nat} {o : MO} (g : G a b n) (h : a[r]? = some o) (hr : r ≠ n) : b[r]? = some o := by
  rw [g.at_ r (List.getElem?_eq_some_iff.mp h).1 hr]
  exact h
theorem wk {n : Nat} (cs : List Nat) (h : cs ≠ [] := by decide) (hl : cs.length ≤ n := by decide) (hs : ∀ c ∈ cs, sep c = false := by decide) : WOk n cs := ⟨h, hl, hs⟩
theorem joined (ys : List MV) (h : ∀ y ∈ ys, ∃ c, y = .str [c] ∧ sep c = false) : ∃ ts : List (List Nat), ys = ts.map MV.str ∧ (TL.joinL [] ts).length = ys.length ∧ ∀ c ∈ TL.joinL [] ts, sep c = false := by
  induction ys with
  | nil => exact ⟨[], rfl, rfl, by simp [TL.joinL]⟩
  | cons y ys ih =>
    obtain ⟨ts, e1, e2, e3⟩ := ih fun z hz => h z (by simp [hz])
    obtain ⟨c, rfl, hc⟩ := h y (by simp)
    refine ⟨[c] :: ts, by rw [e1]; rfl, ?_, ?_⟩
    · cases ts with
      | nil => subst e1; rfl
      | cons t ts =>
        show ([c] ++ ([] ++ TL.joinL [] (t :: ts))).length = _
        simp [e2]
    · cases ts with
      | nil =>
        intro x hx
        have hx' : x ∈ [c] := hx
        simp at hx'
        rw [hx']
        exact hc
      | cons t ts =>
        intro x hx
        have hx' : x ∈ [c] ++ ([] ++ TL.joinL [] (t :: ts)) := hx
        simp at hx'
        rcases hx' with z | z
        · rw [z]; exact hc
        · exact e3 x z
theorem mJoin0 {st : Sto} {n : Nat} {ts : List (List Nat)} (h : st[n]? = some (.lst (ts.map MV.str))) (h1 : (ts.map (·.length)).sum ≤ 16000000) (hl : (TL.joinL [] ts).length ≤ 16000000) : mJoin (.str []) [.loc n] st = .ok (.str (TL.joinL [] ts)) st := by
  show M.look (fun st => ((seqM st (.loc n)).bind txts).bind fun ss => if (ss.map (·.length)).sum + ss.length * ([] : List Nat).length ≤ 16777216 ∧ (TL.joinL [] ss).length ≤ 16777216 then some (MV.str (TL.joinL [] ss)) else none) st = _
  rw [look_ap, seqM_loc h, Option.bind_some, txts_map, Option.bind_some, if_pos ⟨by simp; omega, by omega⟩]
theorem sum0 : ∀ ts : List (List Nat), (ts.map (·.length)).sum ≤ (TL.joinL [] ts).length
  | [] => by simp
  | [t] => by
    show _ ≤ t.length
    simp
  | t :: u :: r => by
    have ih := sum0 (u :: r)
    have e : TL.joinL [] (t :: u :: r) = t ++ ([] ++ TL.joinL [] (u :: r)) := rfl
    rw [e]
    simp only [List.map_cons, List.sum_cons, List.length_append, List.nil_append] at ih ⊢
    omega
theorem sign_sep : ∀ c ∈ c11, sep c = false := by decide
theorem word_ok {st : Sto} {n : Nat} (hd : DOk st n) : ∃ w st', D__law_word [.loc n] st = .ok (.str w) st' ∧ WOk 24 w ∧ G st st' n := by
  obtain ⟨k, s0, e0, hk, g0⟩ := draw_at (σ := init0 4 [.loc n]) (fo := mVar 0) (fm := mC (.int 9)) (s1 := st) (st := st) (var_of rfl) (mC_ap _ _ _) hd (by decide)
  have hn := g0.ok.lt
  have v0 : ∀ (x y z : Option MV) (s : Sto), mVar 0 [some (.loc n), x, y, z] s = .ok (.loc n) s := fun _ _ _ _ => rfl
  have key : ∀ {w : List Nat} {s' : Sto} {bd : Stm}, bd [some (.loc n), some (.int k), none, none] s0 = .ok (.ret (.str w)) s' → mRun 4 (sSeq (sSet 1 (mCall D__law_draw [mVar 0, mC (.int 9)])) bd) [.loc n] st = .ok (.str w) s' := fun hb => run_ret (seq_nx (set_of e0) hb)
  unfold D__law_word
  have pick2 : ∀ (k' : Int) (s : Sto) (fi : Exp), (k' = 0 ∨ k' = 1) → fi [some (.loc n), some (.int k), none, none] (s ++ [.lst [.str c0, .str c7]]) = .ok (.int k') (s ++ [.lst [.str c0, .str c7]]) → ∃ x : List Nat, mIx (mLst [mC (.str c0), mC (.str c7)]) fi [some (.loc n), some (.int k), none, none] s = .ok (.str x) (s ++ [.lst [.str c0, .str c7]]) ∧ x.length ≤ 1 ∧ ∀ c ∈ x, sep c = false := by
    intro k' s fi hk' hf
    have e1 : mLst [mC (.str c0), mC (.str c7)] [some (.loc n), some (.int k), none, none] s = .ok (.loc s.length) (s ++ [.lst [.str c0, .str c7]]) := rfl
    rcases hk' with z | z
    · subst z
      exact ⟨c0, ix_of e1 hf (by rw [ixM_loc get_new]; rfl), by decide, by decide⟩
    · subst z
      exact ⟨c7, ix_of e1 hf (by rw [ixM_loc get_new]; rfl), by decide, by decide⟩
  by_cases h1 : k ≤ 1
  · obtain ⟨x, e1, hx1, hx2⟩ := pick2 k s0 (mVar 1) (by omega) rfl
    obtain ⟨k2, s2, e2, hk2, g2⟩ := draw_at (σ := [some (.loc n), some (.int k), none, none]) (fo := mVar 0) (fm := mC (.int 12)) (s1 := s0 ++ [.lst [.str c0, .str c7]]) (v0 _ _ _ _) (mC_ap _ _ _) (g0.ok.app _) (by decide)
    have hw := num_ok (k := k2) (by omega) (by omega)
    refine ⟨x ++ strI k2, s2, key (seq_ret (if_t (cmp_of (var_of rfl) (mC_ap _ _ _) (by simp [h1])) (ret_of (op_of e1 (callG1 e2 (strN_ok (by omega) (by omega) _)) (mAdd_ss _ (by have := hw.2.1; omega)))))), ⟨by simp [hw.1], by have := hw.2.1; simp; omega, fun c hc => (List.mem_append.mp hc).elim (hx2 c) (hw.2.2 c)⟩, (g0.trans (G.app g0.ok _)).trans g2⟩
  · have f1 : sIf (mCmp (gI fun i j => decide (i ≤ j)) (mVar 1) (mC (.int 1))) (sRet (mOp mAdd (mIx (mLst [mC (.str c0), mC (.str c7)]) (mVar 1)) (mCallG mStr [mCall D__law_draw [mVar 0, mC (.int 12)]]))) (sNop) [some (.loc n), some (.int k), none, none] s0 = .ok (.nx [some (.loc n), some (.int k), none, none]) s0 := if_f (cmp_of (var_of rfl) (mC_ap _ _ _) (by simp; omega)) (sNop_ap _ _)
    by_cases h3 : k ≤ 3
    · obtain ⟨x, e1, hx1, hx2⟩ := pick2 (k - 2) s0 (mOp mSub (mVar 1) (mC (.int 2))) (by omega) rfl
      obtain ⟨k2, s2, e2, hk2, g2⟩ := draw_at (σ := [some (.loc n), some (.int k), none, none]) (fo := mVar 0) (fm := mC (.int 3)) (s1 := s0 ++ [.lst [.str c0, .str c7]]) (v0 _ _ _ _) (mC_ap _ _ _) (g0.ok.app _) (by decide)
      obtain ⟨w, s3, e3, hw, g3⟩ := figures_ok (many := 8 + k2) g2.ok (by omega)
      have e4 : mCall D__law_figures [mVar 0, mOp mAdd (mC (.int 8)) (mCall D__law_draw [mVar 0, mC (.int 3)])] [some (.loc n), some (.int k), none, none] (s0 ++ [.lst [.str c0, .str c7]]) = .ok (.str w) s3 := call2 (v0 _ _ _ _) (op_of (mC_ap _ _ _) e2 (mAdd_ii _ _ _)) e3
      refine ⟨x ++ w, s3, key (seq_nx f1 (seq_ret (if_t (cmp_of (var_of rfl) (mC_ap _ _ _) (by simp [h3])) (ret_of (op_of e1 e4 (mAdd_ss _ (by have := hw.2.1; omega))))))), ⟨by simp [hw.1], by have := hw.2.1; simp; omega, fun c hc => (List.mem_append.mp hc).elim (hx2 c) (hw.2.2 c)⟩, ((g0.trans (G.app g0.ok _)).trans g2).trans g3⟩
    · have f3 : sIf (mCmp (gI fun i j => decide (i ≤ j)) (mVar 1) (mC (.int 3))) (sRet (mOp mAdd (mIx (mLst [mC (.str c0), mC (.str c7)]) (mOp mSub (mVar 1) (mC (.int 2)))) (mCall D__law_figures [mVar 0, mOp mAdd (mC (.int 8)) (mCall D__law_draw [mVar 0, mC (.int 3)])]))) (sNop) [some (.loc n), some (.int k), none, none] s0 = .ok (.nx [some (.loc n), some (.int k), none, none]) s0 := if_f (cmp_of (var_of rfl) (mC_ap _ _ _) (by simp; omega)) (sNop_ap _ _)
      by_cases h4 : k = 4
      · have e1 : mLst [mC (.str c5), mC (.str c24), mC (.str c23), mC (.str c22)] [some (.loc n), some (.int k), none, none] s0 = .ok (.loc s0.length) (s0 ++ [.lst [.str c5, .str c24, .str c23, .str c22]]) := rfl
        obtain ⟨k1, s1, e2, hk1, g1⟩ := draw_at (σ := [some (.loc n), some (.int k), none, none]) (fo := mVar 0) (fm := mC (.int 4)) (s1 := s0 ++ [.lst [.str c5, .str c24, .str c23, .str c22]]) (v0 _ _ _ _) (mC_ap _ _ _) (g0.ok.app _) (by decide)
        have hl1 : s1[s0.length]? = some (.lst [.str c5, .str c24, .str c23, .str c22]) := g1.look get_new (by omega)
        obtain ⟨x, e3, hx⟩ : ∃ x : List Nat, ixM s1 (.loc s0.length) (.int k1) = some (.str x) ∧ WOk 3 x := by
          rw [ixM_loc hl1]
          have : k1 = 0 ∨ k1 = 1 ∨ k1 = 2 ∨ k1 = 3 := by omega
          rcases this with z | z | z | z <;> subst z
          · exact ⟨c5, rfl, wk c5⟩
          · exact ⟨c24, rfl, wk c24⟩
          · exact ⟨c23, rfl, wk c23⟩
          · exact ⟨c22, rfl, wk c22⟩
        obtain ⟨k2, s2, e4, hk2, g2⟩ := draw_at (σ := [some (.loc n), some (.int k), none, none]) (fo := mVar 0) (fm := mC (.int 100)) (s1 := s1) (v0 _ _ _ _) (mC_ap _ _ _) g1.ok (by decide)
        have hw := num_ok (k := k2) (by omega) (by omega)
        refine ⟨x ++ strI k2, s2, key (seq_nx f1 (seq_nx f3 (seq_ret (if_t (cmp_of (var_of rfl) (mC_ap _ _ _) (by simp [h4])) (ret_of (op_of (ix_of e1 e2 e3) (callG1 e4 (strN_ok (by omega) (by omega) _)) (mAdd_ss _ (by have := hw.2.1; have := hx.2.1; omega)))))))), (hx.app hw).mono (by omega), ((g0.trans (G.app g0.ok _)).trans g1).trans g2⟩
      · have f4 : sIf (mCmp gEq (mVar 1) (mC (.int 4))) (sRet (mOp mAdd (mIx (mLst [mC (.str c5), mC (.str c24), mC (.str c23), mC (.str c22)]) (mCall D__law_draw [mVar 0, mC (.int 4)])) (mCallG mStr [mCall D__law_draw [mVar 0, mC (.int 100)]]))) (sNop) [some (.loc n), some (.int k), none, none] s0 = .ok (.nx [some (.loc n), some (.int k), none, none]) s0 := if_f (cmp_of (var_of rfl) (mC_ap _ _ _) (by simp [h4])) (sNop_ap _ _)
        by_cases h5 : k = 5
        · have e1 : mLst [mC (.str c1), mC (.str c7), mC (.str c21), mC (.str c20), mC (.str c19), mC (.str c18), mC (.str c17), mC (.str c16), mC (.str c15), mC (.str c14), mC (.str c13), mC (.str c12)] [some (.loc n), some (.int k), none, none] s0 = .ok (.loc s0.length) (s0 ++ [.lst [.str c1, .str c7, .str c21, .str c20, .str c19, .str c18, .str c17, .str c16, .str c15, .str c14, .str c13, .str c12]]) := rfl
          obtain ⟨x, s1, e2, hx, g1⟩ := pick_loc (g0.ok.app [.lst [.str c1, .str c7, .str c21, .str c20, .str c19, .str c18, .str c17, .str c16, .str c15, .str c14, .str c13, .str c12]]) get_new (by omega) (by simp) (by simp)
          obtain ⟨w, rfl, hw⟩ : ∃ w, x = .str w ∧ WOk 4 w := by
            simp only [List.mem_cons, List.not_mem_nil, or_false] at hx
            rcases hx with z | z | z | z | z | z | z | z | z | z | z | z
            · exact ⟨c1, z, wk c1⟩
            · exact ⟨c7, z, wk c7⟩
            · exact ⟨c21, z, wk c21⟩
            · exact ⟨c20, z, wk c20⟩
            · exact ⟨c19, z, wk c19⟩
            · exact ⟨c18, z, wk c18⟩
            · exact ⟨c17, z, wk c17⟩
            · exact ⟨c16, z, wk c16⟩
            · exact ⟨c15, z, wk c15⟩
            · exact ⟨c14, z, wk c14⟩
            · exact ⟨c13, z, wk c13⟩
            · exact ⟨c12, z, wk c12⟩
          exact ⟨w, s1, key (seq_nx f1 (seq_nx f3 (seq_nx f4 (seq_ret (if_t (cmp_of (var_of rfl) (mC_ap _ _ _) (by simp [h5])) (ret_of (call2 (v0 _ _ _ _) e1 e2))))))), hw.mono (by omega), (g0.trans (G.app g0.ok _)).trans g1⟩
        · have f5 : sIf (mCmp gEq (mVar 1) (mC (.int 5))) (sRet (mCall D__law_pick [mVar 0, mLst [mC (.str c1), mC (.str c7), mC (.str c21), mC (.str c20), mC (.str c19), mC (.str c18), mC (.str c17), mC (.str c16), mC (.str c15), mC (.str c14), mC (.str c13), mC (.str c12)]])) (sNop) [some (.loc n), some (.int k), none, none] s0 = .ok (.nx [some (.loc n), some (.int k), none, none]) s0 := if_f (cmp_of (var_of rfl) (mC_ap _ _ _) (by simp [h5])) (sNop_ap _ _)
          obtain ⟨k1, s1, e1, hk1, g1⟩ := draw_at (σ := [some (.loc n), some (.int k), some (.str c11), none]) (fo := mVar 0) (fm := mC (.int 14)) (s1 := s0) (v0 _ _ _ _) (mC_ap _ _ _) g0.ok (by decide)
          obtain ⟨r, ys, s2, e2, hr, hlen, hP, g2, hrn⟩ := mLc_draw (n := n) (it := iRange [mOp mAdd (mC (.int 1)) (mCall D__law_draw [mVar 0, mC (.int 14)])]) (g := tgName 3) (f := mCall D__law_pick [mVar 0, mVar 2]) (vs := [3]) (σ := [some (.loc n), some (.int k), some (.str c11), none]) (P := fun y => ∃ c, y = .str [c] ∧ sep c = false) (iRange1 (op_of (mC_ap _ _ _) e1 (mAdd_ii _ _ _)) (by omega) (by omega)) g1.ok (fun x hx s hs => by
            obtain ⟨c, s', e, hc, g⟩ := pick_str (s := c11) hs (by decide) (by decide)
            exact ⟨[some (.loc n), some (.int k), some (.str c11), some x], .str [c], s', rfl, call2 (v0 _ _ _ _) (var_of rfl) e, ⟨c, rfl, sign_sep c hc⟩, g⟩) (by rw [ints_len]; omega)
          rw [ints_len] at hlen
          obtain ⟨ts, rfl, j1, j2⟩ := joined ys hP
          have hj := mJoin0 hr (by have := sum0 ts; omega) (by omega)
          refine ⟨TL.joinL [] ts, s2, key (seq_nx f1 (seq_nx f3 (seq_nx f4 (seq_nx f5 (seq_nx (σ' := [some (.loc n), some (.int k), some (.str c11), none]) (s1 := s0) rfl (ret_of ?_)))))), ⟨?_, by omega, j2⟩, (g0.trans g1).trans g2⟩
          · rw [mMt_ap, mC_ap, bnd_ok]
            show (if true = true then _ else _) = _
            rw [if_pos rfl, mArgs_cons, e2, bnd_ok, mArgs_nil, bnd_ok, bnd_ok]
            exact hj
          · intro z
            have hz := congrArg List.length z
            rw [j1, List.length_nil] at hz
            omega
end K76
end
section
set_option Elab.async false
set_option linter.all false
set_option maxRecDepth 100000
set_option maxHeartbeats 2000000
set_option autoImplicit false
/-! P76m: spoilt texts, built texts. -/
namespace K76
open PySem PySem.Spec L2 Mi PySem.NumText
theorem cut_to {α : Type} (xs : List α) (j : Nat) : cutL xs none (some (j : Int)) = xs.take j := by
  unfold cutL
  rw [HT.sIx_none, HT.sIx_nat]
  by_cases h : j ≤ xs.length
  · rw [Nat.min_eq_left h]; simp
  · rw [Nat.min_eq_right (by omega)]; simp [List.take_of_length_le (show xs.length ≤ j by omega)]
theorem cut_fr {α : Type} (xs : List α) (j : Nat) : cutL xs (some (j : Int)) none = xs.drop j := by
  unfold cutL
  rw [HT.sIx_none, HT.sIx_nat]
  by_cases h : j ≤ xs.length
  · rw [Nat.min_eq_left h, List.take_of_length_le (by simp)]
  · rw [Nat.min_eq_right (by omega)]; simp [List.drop_of_length_le (show xs.length ≤ j by omega)]
theorem sl_to {σ : Sl} {st : Sto} {i k : Nat} {s : List Nat} {j : Nat} (h1 : (σ[i]?).bind id = some (.str s)) (h2 : (σ[k]?).bind id = some (.int (j : Int))) : mSlice (mVar i) mNoPart (mPart (mVar k)) σ st = .ok (.str (s.take j)) st := by
  rw [mSlice_ap, var_of h1, bnd_ok, mNoPart_ap, bnd_ok, mPart_ap, var_of h2, bnd_ok]
  show slM (.str s) none (some (j : Int)) st = _
  rw [slM_str, cut_to]
theorem sl_fr {σ : Sl} {st : Sto} {i : Nat} {f : Exp} {s : List Nat} {j : Nat} (h1 : (σ[i]?).bind id = some (.str s)) (h2 : f σ st = .ok (.int (j : Int)) st) : mSlice (mVar i) (mPart f) mNoPart σ st = .ok (.str (s.drop j)) st := by
  rw [mSlice_ap, var_of h1, bnd_ok, mPart_ap, h2, bnd_ok]
  show slM (.str s) (some (j : Int)) none st = _
  rw [slM_str, cut_fr]
theorem spoilt_ok {st : Sto} {n : Nat} {text : List Nat} (hd : DOk st n) (ht : text.length ≤ 99000) : ∃ t st', D__law_spoilt [.loc n, .str text] st = .ok (.str t) st' ∧ t.length ≤ 100000 ∧ G st st' n := by
  obtain ⟨k0, s0, e0, hk0, g0⟩ := draw_at (σ := init0 6 [.loc n, .str text]) (fo := mVar 0) (fm := mC (.int 3)) (s1 := st) (st := st) (var_of rfl) (mC_ap _ _ _) hd (by decide)
  obtain ⟨j, σ', s1, e2, hj, t, x2, x3, x4, x5, hσ, hw, hG⟩ := for_inv (Inv := fun i σ s => ∃ (t : List Nat) (x2 x3 x4 x5 : Option MV), σ = [some (.loc n), some (.str t), x2, x3, x4, x5] ∧ t.length ≤ 99000 + i ∧ G st s n) (N := 3) (k := 2) (b := (sSeq (sSet 3 (mCall D__law_draw [mVar 0, mOp mAdd (mCallG mLen [mVar 1]) (mC (.int 1))])) (sSeq (sSet 4 (mCall D__law_pick [mVar 0, mC (.str c35)])) (sSeq (sSet 5 (mCall D__law_draw [mVar 0, mC (.int 6)])) (sIf (mCmp gEq (mVar 5) (mC (.int 0))) (sSet 1 (mOp mAdd (mOp mAdd (mSlice (mVar 1) mNoPart (mPart (mVar 3))) (mVar 4)) (mSlice (mVar 1) (mPart (mVar 3)) mNoPart))) (sIf (mCmp (gI fun i j => decide (i ≤ j)) (mVar 5) (mC (.int 2))) (sSet 1 (mOp mAdd (mSlice (mVar 1) mNoPart (mPart (mVar 3))) (mSlice (mVar 1) (mPart (mOp mAdd (mVar 3) (mC (.int 1)))) mNoPart))) (sIf (mCmp gEq (mVar 5) (mC (.int 3))) (sSet 1 (mOp mAdd (mOp mAdd (mSlice (mVar 1) mNoPart (mPart (mVar 3))) (mVar 4)) (mSlice (mVar 1) (mPart (mOp mAdd (mVar 3) (mC (.int 1)))) mNoPart))) (sIf (mCmp gEq (mVar 5) (mC (.int 4))) (sSet 1 (mSlice (mVar 1) mNoPart (mPart (mVar 3)))) (sSet 1 (mOp mAdd (mVar 1) (mVar 4))))))))))) (Mi.intsFrom 0 (1 + k0).toNat) 0 (init0 6 [.loc n, .str text]) s0 (by rw [ints_len]; omega) ⟨text, none, none, none, none, rfl, by omega, g0⟩ (by
    rintro x hx i σ s hi ⟨t, x2, x3, x4, x5, rfl, hw, hG⟩
    obtain ⟨k1, s1, e1, hk1, g1⟩ := draw_at (σ := [some (.loc n), some (.str t), some x, x3, x4, x5]) (fo := mVar 0) (fm := mOp mAdd (mCallG mLen [mVar 1]) (mC (.int 1))) (s1 := s) (st := s) (var_of rfl) (op_of (callG1 (var_of rfl) (mLen_str _ _)) (mC_ap _ _ _) (mAdd_ii _ _ _)) hG.ok ⟨by omega, by omega⟩
    obtain ⟨j, rfl⟩ := Int.eq_ofNat_of_zero_le hk1.1
    obtain ⟨c, s2, e2, hc, g2⟩ := pick_str (s := c35) g1.ok (by decide) (by decide)
    obtain ⟨k3, s3, e3, hk3, g3⟩ := draw_at (σ := [some (.loc n), some (.str t), some x, some (.int (j : Int)), some (.str [c]), x5]) (fo := mVar 0) (fm := mC (.int 6)) (s1 := s2) (st := s2) (var_of rfl) (mC_ap _ _ _) g2.ok (by decide)
    have gg := ((hG.trans g1).trans g2).trans g3
    have c2' : mCall D__law_pick [mVar 0, mC (.str c35)] [some (.loc n), some (.str t), some x, some (.int (j : Int)), x4, x5] s1 = .ok (.str [c]) s2 := call2 (var_of rfl) (mC_ap _ _ _) e2
    have st5 : ∀ {bd : Stm} {w : Res Fl}, bd [some (.loc n), some (.str t), some x, some (.int (j : Int)), some (.str [c]), some (.int k3)] s3 = w → (sSeq (sSet 3 (mCall D__law_draw [mVar 0, mOp mAdd (mCallG mLen [mVar 1]) (mC (.int 1))])) (sSeq (sSet 4 (mCall D__law_pick [mVar 0, mC (.str c35)])) (sSeq (sSet 5 (mCall D__law_draw [mVar 0, mC (.int 6)])) bd))) [some (.loc n), some (.str t), some x, x3, x4, x5] s = w := by
      intro bd w hb
      exact seq_nx (set_of e1) (seq_nx (set_of c2') (seq_nx (set_of e3) hb))
    have hset : ∀ (t' : List Nat) (f : Exp), f [some (.loc n), some (.str t), some x, some (.int (j : Int)), some (.str [c]), some (.int k3)] s3 = .ok (.str t') s3 → sSet 1 f [some (.loc n), some (.str t), some x, some (.int (j : Int)), some (.str [c]), some (.int k3)] s3 = .ok (.nx [some (.loc n), some (.str t'), some x, some (.int (j : Int)), some (.str [c]), some (.int k3)]) s3 := fun t' f h => set_of h
    have a1 : ∀ a b : List Nat, a.length ≤ 200000 → b.length ≤ 200000 → ∀ s : Sto, mAdd (.str a) (.str b) s = .ok (.str (a ++ b)) s := fun a b h1 h2 s => mAdd_ss s (by omega)
    have to : mSlice (mVar 1) mNoPart (mPart (mVar 3)) [some (.loc n), some (.str t), some x, some (.int (j : Int)), some (.str [c]), some (.int k3)] s3 = .ok (.str (t.take j)) s3 := sl_to rfl rfl
    have fr0 : mSlice (mVar 1) (mPart (mVar 3)) mNoPart [some (.loc n), some (.str t), some x, some (.int (j : Int)), some (.str [c]), some (.int k3)] s3 = .ok (.str (t.drop j)) s3 := sl_fr rfl (var_of rfl)
    have fr1 : mSlice (mVar 1) (mPart (mOp mAdd (mVar 3) (mC (.int 1)))) mNoPart [some (.loc n), some (.str t), some x, some (.int (j : Int)), some (.str [c]), some (.int k3)] s3 = .ok (.str (t.drop (j + 1))) s3 := sl_fr rfl (op_of (var_of rfl) (mC_ap _ _ _) (mAdd_ii _ _ _))
    have l1 : (t.take j).length ≤ 200000 := by simp; omega
    have l2 : (t.drop j).length ≤ 200000 := by simp; omega
    have l3 : (t.drop (j + 1)).length ≤ 200000 := by simp; omega
    have fin : ∀ t' : List Nat, t'.length ≤ t.length + 1 → ∀ {w : Res Fl}, w = .ok (.nx [some (.loc n), some (.str t'), some x, some (.int (j : Int)), some (.str [c]), some (.int k3)]) s3 → ∃ (σ' : Sl) (st' : Sto), (w = .ok (.nx σ') st' ∨ w = .ok (.bk σ') st') ∧ ∃ (t : List Nat) (x2 x3 x4 x5 : Option MV), σ' = [some (.loc n), some (.str t), x2, x3, x4, x5] ∧ t.length ≤ 99000 + (i + 1) ∧ G st st' n :=
      fun t' h w e => ⟨_, _, .inl e, t', _, _, _, _, rfl, by omega, gg⟩
    by_cases h0 : k3 = 0
    · exact fin ((t.take j ++ [c]) ++ t.drop j) (by simp; omega) (st5 (if_t (cmp_of (var_of rfl) (mC_ap _ _ _) (by simp [h0])) (hset _ _ (op_of (op_of to (var_of rfl) (a1 _ _ l1 (by simp) _)) fr0 (a1 _ _ (by simp; omega) l2 _)))))
    · by_cases h2 : k3 ≤ 2
      · exact fin (t.take j ++ t.drop (j + 1)) (by simp; omega) (st5 (if_f (cmp_of (var_of rfl) (mC_ap _ _ _) (by simp [h0])) (if_t (cmp_of (var_of rfl) (mC_ap _ _ _) (by simp [h2])) (hset _ _ (op_of to fr1 (a1 _ _ l1 l3 _))))))
      · by_cases h3 : k3 = 3
        · exact fin ((t.take j ++ [c]) ++ t.drop (j + 1)) (by simp; omega) (st5 (if_f (cmp_of (var_of rfl) (mC_ap _ _ _) (by simp [h0])) (if_f (cmp_of (var_of rfl) (mC_ap _ _ _) (by simp; omega)) (if_t (cmp_of (var_of rfl) (mC_ap _ _ _) (by simp [h3])) (hset _ _ (op_of (op_of to (var_of rfl) (a1 _ _ l1 (by simp) _)) fr1 (a1 _ _ (by simp; omega) l3 _)))))))
        · by_cases h4 : k3 = 4
          · exact fin (t.take j) (by simp; omega) (st5 (if_f (cmp_of (var_of rfl) (mC_ap _ _ _) (by simp [h0])) (if_f (cmp_of (var_of rfl) (mC_ap _ _ _) (by simp; omega)) (if_f (cmp_of (var_of rfl) (mC_ap _ _ _) (by simp [h3])) (if_t (cmp_of (var_of rfl) (mC_ap _ _ _) (by simp [h4])) (hset _ _ to))))))
          · exact fin (t ++ [c]) (by simp) (st5 (if_f (cmp_of (var_of rfl) (mC_ap _ _ _) (by simp [h0])) (if_f (cmp_of (var_of rfl) (mC_ap _ _ _) (by simp; omega)) (if_f (cmp_of (var_of rfl) (mC_ap _ _ _) (by simp [h3])) (if_f (cmp_of (var_of rfl) (mC_ap _ _ _) (by simp [h4])) (hset _ _ (op_of (var_of rfl) (var_of rfl) (a1 _ _ (by omega) (by simp) _)))))))))
  have hjl : j ≤ 3 := by
    rw [ints_len] at hj
    omega
  refine ⟨t, s1, ?_, by omega, hG⟩
  subst hσ
  unfold D__law_spoilt
  exact run_ret (seq_nx (sFor_of (iRange1 (op_of (mC_ap _ _ _) e0 (mAdd_ii _ _ _)) (by omega) (by omega)) e2) (ret_of (var_of rfl)))
end K76
end
section
set_option Elab.async false
set_option linter.all false
set_option maxRecDepth 100000
set_option maxHeartbeats 2000000
set_option autoImplicit false
/-! P76n: built texts. -/
namespace K76
open PySem PySem.Spec L2 Mi PySem.NumText
theorem tup2_of {σ : Sl} {st s : Sto} {f : Exp} {i j : Nat} {a b : MV} (h : f σ st = .ok (.tup [a, b]) s) : sAsg (tgTup [tgName i, tgName j]) f σ st = .ok (.nx ((σ.set i (some a)).set j (some b))) s := by
  rw [sAsg_ap, h, cat_ok]
  rfl
theorem mTuple_loc {st : Sto} {n : Nat} {xs : List MV} (h : st[n]? = some (.lst xs)) : mTuple [.loc n] st = .ok (.tup xs) st := by
  show M.look (fun st => (seqM st (.loc n)).map MV.tup) st = _
  rw [look_ap, seqM_loc h]
  rfl
/-- all but the drawer and one place stays -/
structure G2 (st st' : Sto) (n b : Nat) : Prop where
  ok : DOk st' n
  len : st.length ≤ st'.length
  at_ : ∀ q, q < st.length → q ≠ n → q ≠ b → st'[q]? = st[q]?
theorem G2.trans {a b c : Sto} {n p : Nat} (h : G2 a b n p) (k : G2 b c n p) : G2 a c n p := ⟨k.ok, Nat.le_trans h.len k.len, fun q hq hn hp => (k.at_ q (Nat.lt_of_lt_of_le hq h.len) hn hp).trans (h.at_ q hq hn hp)⟩
theorem G.to2 {a b : Sto} {n p : Nat} (h : G a b n) : G2 a b n p := ⟨h.ok, h.len, fun q hq hn _ => h.at_ q hq hn⟩
theorem DOk.set {st : Sto} {n p : Nat} {o : MO} (h : DOk st n) (hp : n < p) : DOk (st.set p o) n := by
  obtain ⟨m, cells, a, f, x, y, h1, h2, h3⟩ := h
  exact ⟨m, cells, a, f, x, y, by rw [set_ne (by omega)]; exact h1, by rw [set_ne (by omega)]; exact h2, h3⟩
theorem G2.set {a b : Sto} {n p : Nat} {o : MO} (h : G2 a b n p) (hp : n < p) : G2 a (b.set p o) n p := ⟨h.ok.set hp, by have := h.len; simp; omega, fun q hq hn hpq => by rw [set_ne hpq]; exact h.at_ q hq hn hpq⟩
theorem G2.set' {a b : Sto} {n p r : Nat} {o : MO} (h : G2 a b n p) (hr : a.length ≤ r) (hd : DOk a n) : G2 a (b.set r o) n p := ⟨h.ok.set (by have := hd.lt; omega), by have := h.len; simp; omega, fun q hq hn hpq => by rw [set_ne (by omega)]; exact h.at_ q hq hn hpq⟩
def tot (xs : List MV) : Nat := (xs.map fun x => (W x).length + 1).sum
theorem tot_snoc (xs : List MV) (x : MV) : tot (xs ++ [x]) = tot xs + ((W x).length + 1) := by simp [tot]
theorem join_tot : ∀ xs : List MV, (TL.joinL [32] (xs.map W)).length ≤ tot xs
  | [] => by simp [TL.joinL, tot]
  | [x] => by
    show (W x).length ≤ _
    simp [tot]
  | x :: y :: r => by
    have ih := join_tot (y :: r)
    have e : TL.joinL [32] ((x :: y :: r).map W) = W x ++ ([32] ++ TL.joinL [32] ((y :: r).map W)) := rfl
    have e2 : tot (x :: y :: r) = ((W x).length + 1) + tot (y :: r) := by simp [tot]
    rw [e, e2]
    simp only [List.length_append, List.length_cons, List.length_nil]
    omega
theorem W_len (xs : List MV) : (W (.tup xs)).length ≤ tot xs + 2 := by
  rw [W_tup]
  have := join_tot xs
  unfold body
  simp only [List.length_append, List.length_cons, List.length_nil]
  omega
theorem depMs_le : ∀ {xs : List MV} {k : Nat}, (∀ x ∈ xs, depM x ≤ k) → depMs xs ≤ k
  | [], k, _ => Nat.zero_le _
  | x :: xs, k, h => by
    show max (depM x) (depMs xs) ≤ k
    have h1 := h x (by simp)
    have h2 := depMs_le (xs := xs) fun y hy => h y (by simp [hy])
    omega
noncomputable abbrev bloop (k : Nat) : Stm := (sSeq (sIf (mCmp (gI fun i j => decide (i ≤ j)) (mIx (mVar 2) (mC (.int 0))) (mC (.int 0))) (sBreak) (sNop)) (sSeq (sAugIx (fun i j => i - j) (mVar 2) (mC (.int 0)) (mC (.int 1))) (sSeq (sIf (tAnd2 (mCmp (gI fun i j => decide (j < i)) (mVar 1) (mC (.int 1))) (mCmp gEq (mCall D__law_draw [mVar 0, mC (.int 3)]) (mC (.int 0)))) (sAsg (tgTup [tgName 6, tgName 7]) (mCall (D__law_built k) [mVar 0, mOp mSub (mVar 1) (mC (.int 1)), mVar 2])) (sSeq (sSet 6 (mCall D__law_word [mVar 0])) (sSet 7 (mCall D__law_meant [mVar 6])))) (sSeq (sExpr (mMt isL mAppend (mVar 3) [mVar 6])) (sExpr (mMt isL mAppend (mVar 4) [mVar 7]))))))
structure Bu (st s : Sto) (n b t u dp left i : Nat) (σ : Sl) : Prop where
  ex : ∃ (xs : List MV) (l' : Nat) (x5 x6 x7 : Option MV), σ = [some (.loc n), some (.int dp), some (.loc b), some (.loc t), some (.loc u), x5, x6, x7] ∧ s[t]? = some (.lst ((xs.map W).map MV.str)) ∧ s[u]? = some (.lst xs) ∧ (∀ x ∈ xs, plain x = true ∧ depM x ≤ dp - 1) ∧ l' ≤ left ∧ tot xs ≤ 28 * (left - l') ∧ xs.length ≤ i ∧ s[b]? = some (.lst [.int l']) ∧ G2 st s n b
theorem aug_b {σ : Sl} {s : Sto} {b l : Nat} (h2 : (σ[2]?).bind id = some (.loc b)) (h : s[b]? = some (.lst [.int (l + 1 : Nat)])) : sAugIx (fun i j => i - j) (mVar 2) (mC (.int 0)) (mC (.int 1)) σ s = .ok (.nx σ) (s.set b (.lst [.int l])) := by
  have e : setIx (.loc b) (.int 0) (.int (((l + 1 : Nat) : Int) - 1)) s = .ok () (s.set b (.lst [.int (((l + 1 : Nat) : Int) - 1)])) := setIx_ok (k := 0) h (by simp)
  have : ((l + 1 : Nat) : Int) - 1 = l := by omega
  rw [this] at e
  have hl : (lstAt s b) = some [.int (l + 1 : Nat)] := lstAt_iff h
  have hv : mVar 2 σ s = .ok (.loc b) s := var_of h2
  unfold sAugIx
  simp only [catchX_ap, bind_ap, hv, mC_ap]
  simp [look_ap, hl, e]
theorem app_ex {σ : Sl} {s : Sto} {i j r : Nat} {y : MV} {xs : List MV} (h1 : (σ[i]?).bind id = some (.loc r)) (h2 : (σ[j]?).bind id = some y) (h : s[r]? = some (.lst xs)) (hl : xs.length < 16777216) : sExpr (mMt isL mAppend (mVar i) [mVar j]) σ s = .ok (.nx σ) (s.set r (.lst (xs ++ [y]))) := by
  refine expr_of (v := .non) ?_
  rw [mMt_ap, var_of h1, bnd_ok, if_pos (isL_ok h), mArgs_cons, var_of h2, bnd_ok, mArgs_nil, bnd_ok, bnd_ok]
  exact mAppend_ok h hl
theorem built_ok : ∀ (dp : Nat) (st : Sto) (n b left : Nat), 1 ≤ dp → dp ≤ 12 → left ≤ 40 → DOk st n → st[b]? = some (.lst [.int left]) → n < b →
    ∃ (xs : List MV) (l' : Nat) (st' : Sto), D__law_built (dp + 1) [.loc n, .int dp, .loc b] st = .ok (.tup [.str (W (.tup xs)), .tup xs]) st' ∧ plain (.tup xs) = true ∧ depM (.tup xs) ≤ dp ∧ l' ≤ left ∧ (W (.tup xs)).length ≤ 2 + 28 * (left - l') ∧ st'[b]? = some (.lst [.int l']) ∧ G2 st st' n b
  | 0, _, _, _, _, h, _, _, _, _, _ => absurd h (by omega)
  | dp + 1, st, n, b, left, _, hdp, hleft, hd, hb, hnb => by
    have ih := built_ok dp
    have hblt : b < st.length := (List.getElem?_eq_some_iff.mp hb).1
    have hd1 : DOk (st ++ [MO.lst []] ++ [MO.lst []]) n := (hd.app _).app _
    obtain ⟨k0, s0, e0, hk0, g0⟩ := draw_at (σ := [some (.loc n), some (.int (dp + 1 : Nat)), some (.loc b), some (.loc st.length), some (.loc (st.length + 1)), none, none, none]) (fo := mVar 0) (fm := mC (.int 6)) (s1 := st ++ [.lst []] ++ [.lst []]) (st := st ++ [.lst []] ++ [.lst []]) (var_of rfl) (mC_ap _ _ _) hd1 (by decide)
    have ht0 : (st ++ [MO.lst []] ++ [MO.lst []])[st.length]? = some (.lst []) := get_app get_new
    have hu0 : (st ++ [MO.lst []] ++ [MO.lst []])[st.length + 1]? = some (.lst []) := by simpa using get_new (st := st ++ [MO.lst []]) (o := MO.lst [])
    have hn := hd.lt
    
    have G0 : G2 st s0 n b := ⟨g0.ok, by have := g0.len; simp at this; omega, fun q hq h1 h2 => by rw [g0.at_ q (by simp; omega) h1, List.append_assoc, List.getElem?_append_left hq]⟩
    obtain ⟨j, σ', s1, e2, hj, hI⟩ := for_inv (Inv := fun i σ s => Bu st s n b st.length (st.length + 1) (dp + 1) left i σ) (N := 5) (k := 5) (b := bloop (dp + 1)) (Mi.intsFrom 0 k0.toNat) 0 [some (.loc n), some (.int (dp + 1 : Nat)), some (.loc b), some (.loc st.length), some (.loc (st.length + 1)), none, none, none] s0 (by rw [ints_len]; omega)
      ⟨[], left, none, none, none, rfl, g0.look ht0 (by omega), g0.look hu0 (by omega), by simp, Nat.le_refl _, by simp [tot], by simp, by rw [g0.at_ b (by simp; omega) (by omega), List.append_assoc, List.getElem?_append_left hblt]; exact hb, G0⟩ (by
      rintro x hx i σ s hi ⟨xs, l', x5, x6, x7, rfl, ht, hu, hxs, hl', htot, hlen, hbb, hG⟩
      have vb : mIx (mVar 2) (mC (.int 0)) [some (.loc n), some (.int (dp + 1 : Nat)), some (.loc b), some (.loc st.length), some (.loc (st.length + 1)), some x, x6, x7] s = .ok (.int (l' : Nat)) s := ix_of (var_of rfl) (mC_ap _ _ _) (by rw [ixM_loc hbb]; rfl)
      cases l' with
      | zero => exact ⟨_, s, .inr (seq_bk (if_t (cmp_of vb (mC_ap _ _ _) (by simp)) (sBreak_ap _ _))), ⟨xs, 0, _, _, _, rfl, ht, hu, hxs, hl', htot, by omega, hbb, hG⟩⟩
      | succ l =>
        have hslt : b < s.length := (List.getElem?_eq_some_iff.mp hbb).1
        have hG1 : G2 st (s.set b (.lst [.int l])) n b := hG.set hnb
        have hb1 : (s.set b (.lst [.int l]))[b]? = some (.lst [.int l]) := set_eq hslt
        have ht1 : (s.set b (.lst [.int l]))[st.length]? = some (.lst ((xs.map W).map MV.str)) := by rw [set_ne (by omega)]; exact ht
        have hu1 : (s.set b (.lst [.int l]))[st.length + 1]? = some (.lst xs) := by rw [set_ne (by omega)]; exact hu
        -- the part
        have part : ∃ (y : MV) (l2 : Nat) (s2 : Sto), (sIf (tAnd2 (mCmp (gI fun i j => decide (j < i)) (mVar 1) (mC (.int 1))) (mCmp gEq (mCall D__law_draw [mVar 0, mC (.int 3)]) (mC (.int 0)))) (sAsg (tgTup [tgName 6, tgName 7]) (mCall (D__law_built (dp + 1)) [mVar 0, mOp mSub (mVar 1) (mC (.int 1)), mVar 2])) (sSeq (sSet 6 (mCall D__law_word [mVar 0])) (sSet 7 (mCall D__law_meant [mVar 6])))) [some (.loc n), some (.int (dp + 1 : Nat)), some (.loc b), some (.loc st.length), some (.loc (st.length + 1)), some x, x6, x7] (s.set b (.lst [.int l])) = .ok (.nx [some (.loc n), some (.int (dp + 1 : Nat)), some (.loc b), some (.loc st.length), some (.loc (st.length + 1)), some x, some (.str (W y)), some y]) s2 ∧ plain y = true ∧ depM y ≤ dp ∧ l2 ≤ l ∧ (W y).length + 1 ≤ 28 * (l + 1 - l2) ∧ s2[b]? = some (.lst [.int l2]) ∧ G2 (s.set b (.lst [.int l])) s2 n b := by
          have wordly : ∀ (x6 x7 : Option MV) (s3 : Sto), G (s.set b (.lst [.int l])) s3 n → ∃ (y : MV) (s2 : Sto), (sSeq (sSet 6 (mCall D__law_word [mVar 0])) (sSet 7 (mCall D__law_meant [mVar 6]))) [some (.loc n), some (.int (dp + 1 : Nat)), some (.loc b), some (.loc st.length), some (.loc (st.length + 1)), some x, x6, x7] s3 = .ok (.nx [some (.loc n), some (.int (dp + 1 : Nat)), some (.loc b), some (.loc st.length), some (.loc (st.length + 1)), some x, some (.str (W y)), some y]) s2 ∧ plain y = true ∧ depM y ≤ dp ∧ (W y).length ≤ 24 ∧ G (s.set b (.lst [.int l])) s2 n := by
            intro x6 x7 s3 g3
            obtain ⟨w, s4, e4, hw, g4⟩ := word_ok g3.ok
            obtain ⟨g, e5⟩ := meant_ok hw.1 (by have := hw.2.1; omega) s4
            refine ⟨wv w, s4 ++ g, ?_, (plain_wv w).1, by rw [(plain_wv w).2]; omega, by rw [W_wv hw.1]; exact hw.2.1, (g3.trans g4).trans (G.app g4.ok g)⟩
            rw [W_wv hw.1]
            exact seq_nx (set_of (call1 (var_of rfl) e4)) (set_of (call1 (var_of rfl) e5))
          by_cases h1 : dp = 0
          · obtain ⟨y, s2, e, p1, p2, p3, p4⟩ := wordly x6 x7 _ (G.refl hG1.ok)
            exact ⟨y, l, s2, if_f (and_f (cmp_of (var_of rfl) (mC_ap _ _ _) (by simp [h1]))) e, p1, p2, Nat.le_refl _, by omega, p4.look hb1 (by omega), p4.to2⟩
          · obtain ⟨k1, s3, e3, hk1, g3⟩ := draw_at (σ := [some (.loc n), some (.int (dp + 1 : Nat)), some (.loc b), some (.loc st.length), some (.loc (st.length + 1)), some x, x6, x7]) (fo := mVar 0) (fm := mC (.int 3)) (s1 := s.set b (.lst [.int l])) (st := s.set b (.lst [.int l])) (var_of rfl) (mC_ap _ _ _) hG1.ok (by decide)
            by_cases h2 : k1 = 0
            · obtain ⟨ys, l2, s4, e4, p1, p2, p3, p4, p5, p6⟩ := ih s3 n b l (by omega) (by omega) (by omega) g3.ok (g3.look hb1 (by omega)) hnb
              refine ⟨.tup ys, l2, s4, if_t (and_t (cmp_of (var_of rfl) (mC_ap _ _ _) (by simp; omega)) (cmp_of e3 (mC_ap _ _ _) (by simp [h2]))) (tup2_of (call3 (var_of rfl) (op_of (var_of rfl) (mC_ap _ _ _) (mSub_ii _ _ _)) (var_of rfl) ?_)), p1, p2, p3, by omega, p5, g3.to2.trans p6⟩
              rw [show (((dp + 1 : Nat) : Int) - 1) = (dp : Int) by omega]
              exact e4
            · obtain ⟨y, s2, e, p1, p2, p3, p4⟩ := wordly x6 x7 s3 g3
              exact ⟨y, l, s2, if_f (and_t (cmp_of (var_of rfl) (mC_ap _ _ _) (by simp; omega)) (cmp_of e3 (mC_ap _ _ _) (by simp [h2]))) e, p1, p2, Nat.le_refl _, by omega, p4.look hb1 (by omega), p4.to2⟩
        obtain ⟨y, l2, s2, ep, q1, q2, q3, q4, q5, q6⟩ := part
        have hsl := hG1.len
        have htlt : st.length < (s.set b (.lst [.int l])).length := (List.getElem?_eq_some_iff.mp ht1).1
        have hult : (st.length + 1) < (s.set b (.lst [.int l])).length := (List.getElem?_eq_some_iff.mp hu1).1
        have ht2 : s2[st.length]? = some (.lst ((xs.map W).map MV.str)) := by rw [q6.at_ _ htlt (by omega) (by omega)]; exact ht1
        have hu2 : s2[st.length + 1]? = some (.lst xs) := by rw [q6.at_ _ hult (by omega) (by omega)]; exact hu1
        have ht2lt : st.length < s2.length := (List.getElem?_eq_some_iff.mp ht2).1
        have hu2lt : (st.length + 1) < s2.length := (List.getElem?_eq_some_iff.mp hu2).1
        have hu3 : (s2.set st.length (.lst ((xs.map W).map MV.str ++ [.str (W y)])))[st.length + 1]? = some (.lst xs) := by rw [set_ne (by omega)]; exact hu2
        refine ⟨_, _, .inl (seq_nx (if_f (cmp_of vb (mC_ap _ _ _) (by simp <;> omega)) (sNop_ap _ _)) (seq_nx (aug_b rfl hbb) (seq_nx ep (seq_nx (app_ex (i := 3) (j := 6) rfl rfl ht2 (by simp; omega)) (app_ex (i := 4) (j := 7) rfl rfl hu3 (by omega)))))), ⟨xs ++ [y], l2, some x, some (.str (W y)), some y, rfl, ?_, ?_, ?_, by omega, by rw [tot_snoc]; omega, by simp; omega, ?_, ((hG1.trans q6).set' (r := st.length) (by omega) hd).set' (r := st.length + 1) (by omega) hd⟩⟩
        · rw [set_ne (by omega), set_eq ht2lt]
          simp
        · rw [set_eq (by simp; omega)]
        · intro z hz
          rcases List.mem_append.mp hz with hz | hz
          · exact hxs z hz
          · simp at hz
            subst hz
            exact ⟨q1, by omega⟩
        · rw [set_ne (by omega), set_ne (by omega)]
          exact q5)
    obtain ⟨xs, l', x5, x6, x7, rfl, ht, hu, hxs, hl', htot, hlen, hbb, hG⟩ := hI
    have hW := W_len xs
    refine ⟨xs, l', s1, ?_, plains_of fun x hx => (hxs x hx).1, dep_tup fun x hx => (hxs x hx).2, hl', by omega, hbb, hG⟩
    have hjn := mJoin_ok (s := [32]) rfl ht (by have := join_tot xs; omega)
    have hJ : (TL.joinL [32] (xs.map W)).length ≤ 2000 := by have := join_tot xs; omega
    refine run_ret (seq_nx (σ' := [some (.loc n), some (.int (dp + 1 : Nat)), some (.loc b), some (.loc st.length), none, none, none, none]) (s1 := st ++ [.lst []]) rfl (seq_nx (σ' := [some (.loc n), some (.int (dp + 1 : Nat)), some (.loc b), some (.loc st.length), some (.loc (st.length + 1)), none, none, none]) (s1 := st ++ [.lst []] ++ [.lst []]) (set_of (v := .loc (st.length + 1)) (by rw [mLst_ap, mArgs_nil, bnd_ok]; simp)) (seq_nx (sFor_of (iRange1 e0 (by omega) (by omega)) e2) (ret_of ?_))))
    have ej : mMt isS mJoin (mC (.str c3)) [mVar 3] [some (.loc n), some (.int (dp + 1 : Nat)), some (.loc b), some (.loc st.length), some (.loc (st.length + 1)), x5, x6, x7] s1 = .ok (.str (TL.joinL [32] (xs.map W))) s1 := by
      rw [mMt_ap, mC_ap, bnd_ok]
      show (if true = true then _ else _) = _
      rw [if_pos rfl, mArgs_cons, var_of rfl, bnd_ok, mArgs_nil, bnd_ok, bnd_ok]
      exact hjn
    rw [mTup_ap, mArgs_cons, op_of (op_of (mC_ap _ _ _) ej (mAdd_ss _ (by rw [show c2.length = 1 from rfl]; omega))) (mC_ap _ _ _) (mAdd_ss _ (by rw [List.length_append, show c2.length = 1 from rfl, show c4.length = 1 from rfl]; omega)), bnd_ok, mArgs_cons, callG1 (var_of rfl) (mTuple_loc hu), bnd_ok, mArgs_nil, bnd_ok, bnd_ok, bnd_ok]
    rw [W_tup]
    rfl
end K76
end
section
set_option Elab.async false
set_option linter.all false
set_option maxRecDepth 100000
set_option maxHeartbeats 2000000
set_option autoImplicit false
/-! P76o: the drawer, deep texts. -/
namespace K76
open PySem PySem.Spec L2 Mi PySem.NumText
theorem begin_ok (ns : List Int) (h : ns.length ≤ 63) : ∃ (n : Nat) (st : Sto), D__law_begin [.rol (ns.map MV.int)] [] = .ok (.loc n) st ∧ DOk st n := by
  obtain ⟨r, e⟩ := mLc_any (it := iSeq (mVar 0)) (g := tgName 1) (f := mCallG mInt [mVar 1]) (vs := [1]) (σ := init0 2 [.rol (ns.map MV.int)]) (st := []) (xs := ns.map MV.int) (h := id) rfl (fun x hx s => by
    obtain ⟨i, _, rfl⟩ := List.mem_map.mp hx
    exact ⟨[some (.rol (ns.map MV.int)), some (.int i)], [], rfl, by
      rw [List.append_nil]
      exact callG1 (var_of rfl) (mInt_int _ _)⟩) (by simp; omega)
  refine ⟨(.lst ((ns.map MV.int).map id) :: r).length, (.lst ((ns.map MV.int).map id) :: r) ++ [.lst [.loc 0, .int 0, .int 0, .int 7, .int 3]], run_ret (ret_of ?_), ⟨0, ns, 0, 0, 7, 3, get_new, by simp, by simp⟩⟩
  rw [mLst_ap, mArgs_cons, e, bnd_ok]
  rfl
theorem W1 (x : MV) : W (.tup [x]) = (c2 ++ W x) ++ c4 := by
  rw [W_tup]
  rfl
theorem W2 (x y : MV) : W (.tup [x, y]) = (((c2 ++ W x) ++ c3) ++ W y) ++ c4 := by
  rw [W_tup]
  show 40 :: (W x ++ ([32] ++ W y)) ++ [41] = ((([40] ++ W x) ++ [32]) ++ W y) ++ [41]
  simp
theorem deep_ok {st : Sto} {n : Nat} {many : Int} (hd : DOk st n) (hm : 1 ≤ many ∧ many ≤ 14) : ∃ x st', D__law_deep [.loc n, .int many] st = .ok (.tup [.str (W x), x]) st' ∧ plain x = true ∧ depM x ≤ many.toNat ∧ (W x).length ≤ 1000 ∧ G st st' n := by
  obtain ⟨j, σ', s1, e2, hj, x, x4, x5, x6, hσ, h1, h2, h3, hG⟩ := for_inv (Inv := fun i σ s => ∃ (x : MV) (x4 x5 x6 : Option MV), σ = [some (.loc n), some (.int many), some (.str (W x)), some x, x4, x5, x6] ∧ plain x = true ∧ depM x ≤ i + 1 ∧ (W x).length ≤ 2 + 27 * i ∧ G st s n) (N := 13) (k := 4) (b := (sSeq (sSet 5 (mCall D__law_draw [mVar 0, mC (.int 3)])) (sSeq (sSet 6 (mCall D__law_word [mVar 0])) (sIf (mCmp gEq (mVar 5) (mC (.int 0))) (sPar 2 3 [mOp mAdd (mOp mAdd (mC (.str c2)) (mVar 2)) (mC (.str c4)), mTup [mVar 3]]) (sIf (mCmp gEq (mVar 5) (mC (.int 1))) (sPar 2 3 [mOp mAdd (mOp mAdd (mOp mAdd (mOp mAdd (mC (.str c2)) (mVar 6)) (mC (.str c3))) (mVar 2)) (mC (.str c4)), mTup [mCall D__law_meant [mVar 6], mVar 3]]) (sPar 2 3 [mOp mAdd (mOp mAdd (mOp mAdd (mOp mAdd (mC (.str c2)) (mVar 2)) (mC (.str c3))) (mVar 6)) (mC (.str c4)), mTup [mVar 3, mCall D__law_meant [mVar 6]]])))))) (Mi.intsFrom 0 (many - 1).toNat) 0 [some (.loc n), some (.int many), some (.str c25), some (.tup []), none, none, none] st (by rw [ints_len]; omega) ⟨.tup [], none, none, none, rfl, rfl, Nat.le_refl _, by decide, G.refl hd⟩ (by
    rintro z hz i σ s hi ⟨x, x4, x5, x6, rfl, h1, h2, h3, hG⟩
    obtain ⟨k, s1, e1, hk, g1⟩ := draw_at (σ := [some (.loc n), some (.int many), some (.str (W x)), some x, some z, x5, x6]) (fo := mVar 0) (fm := mC (.int 3)) (s1 := s) (st := s) (var_of rfl) (mC_ap _ _ _) hG.ok (by decide)
    obtain ⟨w, s2, e3, hw, g2⟩ := word_ok g1.ok
    obtain ⟨g, e4⟩ := meant_ok hw.1 (by have := hw.2.1; omega) s2
    have hw1 := hw.2.1
    have hp := plain_wv w
    have hW := W_wv hw.1
    have e3' : mCall D__law_word [mVar 0] [some (.loc n), some (.int many), some (.str (W x)), some x, some z, some (.int k), x6] s1 = .ok (.str w) s2 := call1 (var_of rfl) e3
    have st7 : ∀ {bd : Stm} {r : Res Fl}, bd [some (.loc n), some (.int many), some (.str (W x)), some x, some z, some (.int k), some (.str w)] s2 = r → (sSeq (sSet 5 (mCall D__law_draw [mVar 0, mC (.int 3)])) (sSeq (sSet 6 (mCall D__law_word [mVar 0])) bd)) [some (.loc n), some (.int many), some (.str (W x)), some x, some z, x5, x6] s = r := fun hb => seq_nx (set_of e1) (seq_nx (set_of e3') hb)
    have gg : G st s2 n := (hG.trans g1).trans g2
    have gg2 : G st (s2 ++ g) n := gg.trans (G.app gg.ok g)
    have par : ∀ {fs gs : Exp} {y : MV} {s' : Sto}, fs [some (.loc n), some (.int many), some (.str (W x)), some x, some z, some (.int k), some (.str w)] s2 = .ok (.str (W y)) s2 → gs [some (.loc n), some (.int many), some (.str (W x)), some x, some z, some (.int k), some (.str w)] s2 = .ok y s' → sPar 2 3 [fs, gs] [some (.loc n), some (.int many), some (.str (W x)), some x, some z, some (.int k), some (.str w)] s2 = .ok (.nx [some (.loc n), some (.int many), some (.str (W y)), some y, some z, some (.int k), some (.str w)]) s' := by
      intro fs gs y s' hf hg
      rw [sPar_ap, hf, cat_ok, hg, cat_ok]
      rfl
    have em : mCall D__law_meant [mVar 6] [some (.loc n), some (.int many), some (.str (W x)), some x, some z, some (.int k), some (.str w)] s2 = .ok (wv w) (s2 ++ g) := call1 (var_of rfl) e4
    have lc2 : c2.length = 1 := rfl
    have lc3 : c3.length = 1 := rfl
    have lc4 : c4.length = 1 := rfl
    have d2 : ∀ a b : MV, depM a ≤ i + 1 → depM b ≤ i + 1 → depM (.tup [a, b]) ≤ i + 1 + 1 := fun a b ha hb => by
      show max (depM a) (max (depM b) 0) + 1 ≤ _
      omega
    have p2 : ∀ a b : MV, plain a = true → plain b = true → plain (.tup [a, b]) = true := fun a b ha hb => by
      show (plain a && (plain b && true)) = true
      rw [ha, hb]
      rfl
    by_cases h0 : k = 0
    · have hWl : (W (.tup [x])).length ≤ 2 + 27 * (i + 1) := by rw [W1]; simp only [List.length_append]; omega
      exact ⟨_, _, .inl (st7 (if_t (cmp_of (var_of rfl) (mC_ap _ _ _) (by simp [h0])) (par (y := .tup [x]) (by rw [W1]; exact op_of (op_of (mC_ap _ _ _) (var_of rfl) (mAdd_ss _ (by omega))) (mC_ap _ _ _) (mAdd_ss _ (by simp only [List.length_append]; omega))) rfl))), .tup [x], _, _, _, rfl, by show (plain x && true) = true; rw [h1]; rfl, by show max (depM x) 0 + 1 ≤ _; omega, hWl, gg⟩
    · by_cases h10 : k = 1
      · have hWl : (W (.tup [wv w, x])).length ≤ 2 + 27 * (i + 1) := by rw [W2, hW]; simp only [List.length_append]; omega
        exact ⟨_, _, .inl (st7 (if_f (cmp_of (var_of rfl) (mC_ap _ _ _) (by simp [h0])) (if_t (cmp_of (var_of rfl) (mC_ap _ _ _) (by simp [h10])) (par (y := .tup [wv w, x]) (by rw [W2, hW]; exact op_of (op_of (op_of (op_of (mC_ap _ _ _) (var_of rfl) (mAdd_ss _ (by omega))) (mC_ap _ _ _) (mAdd_ss _ (by simp only [List.length_append]; omega))) (var_of rfl) (mAdd_ss _ (by simp only [List.length_append]; omega))) (mC_ap _ _ _) (mAdd_ss _ (by simp only [List.length_append]; omega))) (by rw [mTup_ap, mArgs_cons, em, bnd_ok]; rfl))))), .tup [wv w, x], _, _, _, rfl, p2 _ _ hp.1 h1, d2 _ _ (by rw [hp.2]; omega) h2, hWl, gg2⟩
      · have hWl : (W (.tup [x, wv w])).length ≤ 2 + 27 * (i + 1) := by rw [W2, hW]; simp only [List.length_append]; omega
        exact ⟨_, _, .inl (st7 (if_f (cmp_of (var_of rfl) (mC_ap _ _ _) (by simp [h0])) (if_f (cmp_of (var_of rfl) (mC_ap _ _ _) (by simp [h10])) (par (y := .tup [x, wv w]) (by rw [W2, hW]; exact op_of (op_of (op_of (op_of (mC_ap _ _ _) (var_of rfl) (mAdd_ss _ (by omega))) (mC_ap _ _ _) (mAdd_ss _ (by simp only [List.length_append]; omega))) (var_of rfl) (mAdd_ss _ (by simp only [List.length_append]; omega))) (mC_ap _ _ _) (mAdd_ss _ (by simp only [List.length_append]; omega))) (by rw [mTup_ap, mArgs_cons, var_of rfl, bnd_ok, mArgs_cons, em, bnd_ok]; rfl))))), .tup [x, wv w], _, _, _, rfl, p2 _ _ h1 hp.1, d2 _ _ h2 (by rw [hp.2]; omega), hWl, gg2⟩)
  rw [ints_len] at hj
  refine ⟨x, s1, ?_, h1, by omega, by omega, hG⟩
  subst hσ
  unfold D__law_deep
  exact run_ret (seq_nx (σ' := [some (.loc n), some (.int many), some (.str c25), none, none, none, none]) (s1 := st) rfl (seq_nx (σ' := [some (.loc n), some (.int many), some (.str c25), some (.tup []), none, none, none]) (s1 := st) rfl (seq_nx (sFor_of (iRange1 (op_of (var_of rfl) (mC_ap _ _ _) (mSub_ii _ _ _)) (by omega) (by omega)) e2) (ret_of (by rw [mTup_ap, mArgs_cons, var_of rfl, bnd_ok, mArgs_cons, var_of rfl, bnd_ok]; rfl)))))
end K76
end
section
set_option Elab.async false
set_option linter.all false
set_option maxRecDepth 100000
set_option maxHeartbeats 2000000
set_option autoImplicit false
/-! P76p: long texts. -/
namespace K76
open PySem PySem.Spec L2 Mi PySem.NumText
theorem chkL_ok {st : Sto} {n : Nat} {xs : List MV} (h : st[n]? = some (.lst xs)) : chkL n xs st = .ok () st := by
  unfold chkL
  rw [if_pos h]
theorem lc_chk {chk : M Unit} {g : Tg} {f : Exp} {σ : Sl} {h : MV → MV} {st : Sto} (hchk : ∀ rest : Sto, chk (st ++ rest) = .ok () (st ++ rest)) : ∀ (xs acc : List MV) (rest : Sto), (∀ x ∈ xs, ∀ s : Sto, ∃ (σ' : Sl) (r : Sto), g x σ s = .ok σ' s ∧ f σ' s = .ok (h x) (s ++ r)) → acc.length + xs.length ≤ 16777216 →
    ∃ r, lcGo chk g tYes1 f st.length xs σ (st ++ .lst acc :: rest) = .ok () (st ++ .lst (acc ++ xs.map h) :: r)
  | [], acc, rest, _, _ => ⟨rest, by simpa [lcGo] using hchk _⟩
  | x :: xs, acc, rest, hx, hl => by
    obtain ⟨σ', r, e1, e2⟩ := hx x (by simp) (st ++ .lst acc :: rest)
    have hget : (st ++ .lst acc :: (rest ++ r))[st.length]? = some (.lst acc) := by
      rw [List.getElem?_append_right (Nat.le_refl _)]
      simp
    have e3 : mAppend (.loc st.length) [h x] (st ++ .lst acc :: (rest ++ r)) = .ok .non (st ++ .lst (acc ++ [h x]) :: (rest ++ r)) := by
      rw [mAppend_ok hget (by simp only [List.length_cons] at hl; omega)]
      congr 1
      rw [List.set_append_right _ _ (Nat.le_refl _)]
      simp
    obtain ⟨r', ih⟩ := lc_chk hchk xs (acc ++ [h x]) (rest ++ r) (fun y hy => hx y (by simp [hy])) (by simp at hl ⊢; omega)
    refine ⟨r', ?_⟩
    show (chk >>= fun _ => g x σ >>= fun σ1 => tYes1 σ1 >>= fun c => if c = true then f σ1 >>= fun y => mAppend (.loc st.length) [y] >>= fun _ => lcGo chk g tYes1 f st.length xs σ else lcGo chk g tYes1 f st.length xs σ) (st ++ .lst acc :: rest) = _
    rw [bind_ap, hchk, bnd_ok, bind_ap, e1, bnd_ok]
    show ((f σ' >>= fun y => mAppend (.loc st.length) [y] >>= fun _ => lcGo chk g tYes1 f st.length xs σ) (st ++ .lst acc :: rest)) = _
    rw [bind_ap, e2, bnd_ok, bind_ap]
    rw [show (st ++ MO.lst acc :: rest ++ r) = st ++ MO.lst acc :: (rest ++ r) by simp]
    rw [e3, bnd_ok, ih]
    simp
theorem mLc_loc {fi : Exp} {g : Tg} {f : Exp} {vs : List Nat} {σ : Sl} {st : Sto} {n : Nat} {xs : List MV} {h : MV → MV} (hi : fi σ st = .ok (.loc n) st) (hn : st[n]? = some (.lst xs)) (hx : ∀ x ∈ xs, ∀ s : Sto, ∃ (σ' : Sl) (r : Sto), g x (wipeM σ vs) s = .ok σ' s ∧ f σ' s = .ok (h x) (s ++ r)) (hl : xs.length ≤ 16777216) :
    ∃ r, mLc (iSeq fi) g tYes1 f vs σ st = .ok (.loc st.length) (st ++ .lst (xs.map h) :: r) := by
  obtain ⟨r, e⟩ := lc_chk (chk := chkL n xs) (st := st) (fun rest => chkL_ok (get_app hn)) xs [] [] hx (by simpa using hl)
  refine ⟨r, ?_⟩
  have hit : iSeq fi σ st = .ok (xs, chkL n xs) st := by
    show ((fi σ st).bnd _) = _
    rw [hi]
    show (match st[n]? with | some (.lst xs) => .ok (xs, chkL n xs) st | _ => .fail : Res (List MV × M Unit)) = _
    rw [hn]
  show ((iSeq fi σ st).bnd fun q st => finL st.length (lcGo q.2 g tYes1 f st.length q.1 (wipeM σ vs) (st ++ [.lst []]))) = _
  rw [hit, bnd_ok]
  show finL st.length (lcGo (chkL n xs) g tYes1 f st.length xs (wipeM σ vs) (st ++ [.lst []])) = _
  rw [e]
  rfl
/-- reading on -/
theorem fwd : ∀ (ws : List (List Nat)) (i : Nat) (xs : List MV) (due : Due), ws ≠ [] → (∀ w ∈ ws, w ≠ [] ∧ ∀ c ∈ w, sep c = false) → (due = .first ∨ due = .part) → ∃ j, Rd (TL.joinL [32] ws ++ [41]) i [xs] due (.fin (.tup (xs ++ ws.map wv)) [] j)
  | [], _, _, _, h, _, _ => (h rfl).elim
  | [w], i, xs, due, _, hw, hd => by
    have h := hw w (by simp)
    exact ⟨i + w.length + 1, .word hd h.1 h.2 (fun c hc => by simp at hc; subst hc; rfl) (.top (.inr rfl))⟩
  | w :: v :: r, i, xs, due, _, hw, hd => by
    have h := hw w (by simp)
    obtain ⟨j, ih⟩ := fwd (v :: r) (i + w.length + 1) (xs ++ [wv w]) .part (by simp) (fun u hu => hw u (by simp [hu])) (.inr rfl)
    refine ⟨j, ?_⟩
    have e : TL.joinL [32] (w :: v :: r) ++ [41] = w ++ (32 :: (TL.joinL [32] (v :: r) ++ [41])) := by
      show (w ++ ([32] ++ TL.joinL [32] (v :: r))) ++ [41] = _
      simp
    rw [e]
    have e2 : xs ++ (w :: v :: r).map wv = (xs ++ [wv w]) ++ (v :: r).map wv := by simp
    rw [e2]
    exact .word hd h.1 h.2 (fun c hc => by simp at hc; subst hc; rfl) (.space ih)
def tw (ws : List (List Nat)) : Nat := (ws.map fun w => w.length + 1).sum
theorem tw_snoc (ws : List (List Nat)) (w : List Nat) : tw (ws ++ [w]) = tw ws + (w.length + 1) := by simp [tw]
theorem join_tw : ∀ ws : List (List Nat), ws ≠ [] → (TL.joinL [32] ws).length + 1 = tw ws
  | [], h => (h rfl).elim
  | [w], _ => by
    show w.length + 1 = _
    simp [tw]
  | w :: v :: r, _ => by
    have ih := join_tw (v :: r) (by simp)
    have e : TL.joinL [32] (w :: v :: r) = w ++ ([32] ++ TL.joinL [32] (v :: r)) := rfl
    have e2 : tw (w :: v :: r) = (w.length + 1) + tw (v :: r) := by simp [tw]
    rw [e, e2]
    simp only [List.length_append, List.length_cons, List.length_nil]
    omega
theorem repS_len (s : List Nat) (n : Nat) : (repS s n).length = n * s.length := by
  unfold repS
  simp
theorem repS_mem {s : List Nat} {n c : Nat} (h : c ∈ repS s n) : c ∈ s := by
  unfold repS at h
  obtain ⟨l, hl, hc⟩ := List.mem_flatten.mp h
  rw [(List.mem_replicate.mp hl).2] at hc
  exact hc
theorem mMul_sI {s : List Nat} (n : Int) (st : Sto) (h : -(2 ^ 31) ≤ n ∧ n < 2 ^ 31 ∧ s.length * n.toNat ≤ 16777216) : mMul (.str s) (.int n) st = .ok (.str (repS s n.toNat)) st := by
  unfold mMul
  simp only [if_pos h]
  rfl
theorem mMul_s {s : List Nat} {n : Nat} (st : Sto) (h : s.length * n ≤ 16777216) (hn : n < 1000000) : mMul (.str s) (.int (n : Int)) st = .ok (.str (repS s n)) st := by
  have := mMul_sI (s := s) (n : Int) st ⟨by omega, by omega, by rw [Int.toNat_natCast]; exact h⟩
  rwa [Int.toNat_natCast] at this
end K76
end
section
set_option Elab.async false
set_option linter.all false
set_option maxRecDepth 100000
set_option maxHeartbeats 600000
set_option autoImplicit false
/-! P76q: a turn of the long loop. -/
namespace K76
open PySem PySem.Spec L2 Mi PySem.NumText
noncomputable abbrev lbody : Stm := (sSeq (sSet 5 (mOp mAdd (mC (.int 200)) (mCall D__law_draw [mVar 0, mC (.int 1300)]))) (sSeq (sExpr (mMt isL mAppend (mVar 2) [mSlice (mOp mMul (mCall D__law_word [mVar 0]) (mVar 5)) mNoPart (mPart (mVar 5))])) (sAug (fun i j => i - j) 3 (mOp mAdd (mVar 5) (mC (.int 1))))))
structure Lo (st : Sto) (n many t : Nat) (i : Nat) (σ : Sl) (s : Sto) : Prop where
  ex : ∃ (ws : List (List Nat)) (left : Nat) (x4 x5 x6 : Option MV), σ = [some (.loc n), some (.int (many : Nat)), some (.loc t), some (.int (left : Nat)), x4, x5, x6] ∧ s[t]? = some (.lst (ws.map MV.str)) ∧ (∀ w ∈ ws, w ≠ [] ∧ ∀ c ∈ w, sep c = false) ∧ tw ws ≤ 1500 * i ∧ ws.length ≤ i ∧ left + tw ws + 2 = many ∧ G st s n
theorem long_step {st : Sto} {n many t : Nat} (hnt : n < t) (htst : st.length ≤ t) (hmany : 99000 < many) (z : MV) (i : Nat) (σ : Sl) (s : Sto) (hi : i < 60) (hI : Lo st n many t i σ s) : ∃ (σ' : Sl) (st' : Sto), (lbody (σ.set 4 (some z)) s = .ok (.nx σ') st' ∨ lbody (σ.set 4 (some z)) s = .ok (.bk σ') st') ∧ Lo st n many t (i + 1) σ' st' := by
    obtain ⟨ws, left, x4, x5, x6, rfl, h1, h2, h3, h4, hleft, hG⟩ := hI
    obtain ⟨k, s1, e1, hk, g1⟩ := draw_at (σ := [some (.loc n), some (.int many), some (.loc t), some (.int (left : Int)), some z, x5, x6]) (fo := mVar 0) (fm := mC (.int 1300)) (s1 := s) (st := s) (var_of rfl) (mC_ap _ _ _) hG.ok (by decide)
    obtain ⟨m, rfl⟩ := Int.eq_ofNat_of_zero_le hk.1
    have hm' : m < 1300 := by omega
    obtain ⟨w, s2, e3, hw, g2⟩ := word_ok g1.ok
    have hw1 := hw.2.1
    have hwp : 0 < w.length := List.length_pos_iff.mpr hw.1
    have ht1 : s1[t]? = some (.lst (ws.map MV.str)) := g1.look h1 (by omega)
    have ht2 : s2[t]? = some (.lst (ws.map MV.str)) := g2.look ht1 (by omega)
    have ht2lt : t < s2.length := (List.getElem?_eq_some_iff.mp ht2).1
    have e5 : mCall D__law_word [mVar 0] [some (.loc n), some (.int many), some (.loc t), some (.int (left : Int)), some z, some (.int ((200 + m : Nat) : Int)), x6] s1 = .ok (.str w) s2 := call1 (var_of rfl) e3
    have hlw : w.length * (200 + m) ≤ 24 * 1499 := Nat.mul_le_mul hw1 (by omega)
    have hrl : 200 + m ≤ (repS w (200 + m)).length := by
      rw [repS_len]
      exact Nat.le_mul_of_pos_right _ hwp
    have e6 : mSlice (mOp mMul (mCall D__law_word [mVar 0]) (mVar 5)) mNoPart (mPart (mVar 5)) [some (.loc n), some (.int many), some (.loc t), some (.int (left : Int)), some z, some (.int ((200 + m : Nat) : Int)), x6] s1 = .ok (.str ((repS w (200 + m)).take (200 + m))) s2 := by
      rw [mSlice_ap, op_of e5 (var_of rfl) (mMul_s _ (by omega) (by omega)), bnd_ok, mNoPart_ap, bnd_ok, mPart_ap, var_of rfl, bnd_ok]
      show slM (.str (repS w (200 + m))) none (some ((200 + m : Nat) : Int)) s2 = _
      rw [slM_str, cut_to]
    have htl : ((repS w (200 + m)).take (200 + m)).length = 200 + m := by
      rw [List.length_take]
      omega
    have e7 : sExpr (mMt isL mAppend (mVar 2) [mSlice (mOp mMul (mCall D__law_word [mVar 0]) (mVar 5)) mNoPart (mPart (mVar 5))]) [some (.loc n), some (.int many), some (.loc t), some (.int (left : Int)), some z, some (.int ((200 + m : Nat) : Int)), x6] s1 = .ok (.nx [some (.loc n), some (.int many), some (.loc t), some (.int (left : Int)), some z, some (.int ((200 + m : Nat) : Int)), x6]) (s2.set t (.lst (ws.map MV.str ++ [.str ((repS w (200 + m)).take (200 + m))]))) := by
      refine expr_of (v := .non) ?_
      rw [mMt_ap, var_of rfl, bnd_ok, if_pos (isL_ok ht1), mArgs_cons, e6, bnd_ok, mArgs_nil, bnd_ok, bnd_ok]
      exact mAppend_ok ht2 (by simp; omega)
    have hsz : ((200 : Int) + (m : Int)) = ((200 + m : Nat) : Int) := by omega
    have hset : sSet 5 (mOp mAdd (mC (.int 200)) (mCall D__law_draw [mVar 0, mC (.int 1300)])) [some (.loc n), some (.int many), some (.loc t), some (.int (left : Int)), some z, x5, x6] s = .ok (.nx [some (.loc n), some (.int many), some (.loc t), some (.int (left : Int)), some z, some (.int ((200 + m : Nat) : Int)), x6]) s1 := set_of (op_of (mC_ap _ _ _) e1 (by rw [mAdd_ii, hsz]))
    have haug : sAug (fun i j => i - j) 3 (mOp mAdd (mVar 5) (mC (.int 1))) [some (.loc n), some (.int many), some (.loc t), some (.int (left : Int)), some z, some (.int ((200 + m : Nat) : Int)), x6] (s2.set t (.lst (ws.map MV.str ++ [.str ((repS w (200 + m)).take (200 + m))]))) = .ok (.nx [some (.loc n), some (.int many), some (.loc t), some (.int ((left - (200 + m + 1) : Nat) : Int)), some z, some (.int ((200 + m : Nat) : Int)), x6]) (s2.set t (.lst (ws.map MV.str ++ [.str ((repS w (200 + m)).take (200 + m))]))) := by
      rw [aug_of (k := (left : Int)) (j := ((200 + m : Nat) : Int) + 1) rfl (op_of (var_of rfl) (mC_ap _ _ _) (mAdd_ii _ _ _))]
      rw [show (left : Int) - (((200 + m : Nat) : Int) + 1) = ((left - (200 + m + 1) : Nat) : Int) by omega]
      rfl
    have gg := (hG.trans g1).trans g2
    refine ⟨_, _, .inl (seq_nx hset (seq_nx e7 haug)), ⟨ws ++ [(repS w (200 + m)).take (200 + m)], left - (200 + m + 1), some z, some (.int ((200 + m : Nat) : Int)), x6, rfl, ?_, ?_, by rw [tw_snoc, htl]; omega, by simp; omega, by rw [tw_snoc, htl]; omega, ?_⟩⟩
    · rw [set_eq ht2lt]
      simp
    · intro u hu
      rcases List.mem_append.mp hu with hu | hu
      · exact h2 u hu
      · simp only [List.mem_singleton] at hu
        subst hu
        refine ⟨fun z => ?_, fun c hc => hw.2.2 c (repS_mem (List.mem_of_mem_take hc))⟩
        have := congrArg List.length z
        rw [htl, List.length_nil] at this
        omega
    · exact ⟨gg.ok.set hnt, by have := gg.len; simp; omega, fun q hq hq2 => by rw [set_ne (by omega)]; exact gg.at_ q hq hq2⟩
end K76
end
section
set_option Elab.async false
set_option linter.all false
set_option maxRecDepth 100000
set_option maxHeartbeats 600000
set_option autoImplicit false
/-! P76r: long texts. -/
namespace K76
open PySem PySem.Spec L2 Mi PySem.NumText
theorem w_sep {l : Nat} (hl : 0 < l) : repS c36 l ≠ [] ∧ ∀ c ∈ repS c36 l, sep c = false := by
  refine ⟨fun z => ?_, fun c hc => ?_⟩
  · have := repS_len c36 l
    rw [z, show c36.length = 1 from rfl, List.length_nil] at this
    omega
  · have := repS_mem hc
    rw [show c36 = [119] from rfl] at this
    simp only [List.mem_singleton] at this
    subst this
    rfl
theorem W_words {vs : List (List Nat)} (h : ∀ w ∈ vs, w ≠ [] ∧ ∀ c ∈ w, sep c = false) : W (.tup (vs.map wv)) = 40 :: (TL.joinL [32] vs ++ [41]) := by
  have hWv : (vs.map wv).map W = vs := by
    rw [List.map_map]
    conv => rhs; rw [← List.map_id vs]
    exact List.map_congr_left fun w hw => W_wv (h w hw).1
  rw [W_tup]
  unfold body
  rw [hWv]
  rfl
noncomputable abbrev ltail : Stm := sSeq (sExpr (mMt isL mAppend (mVar 2) [mOp mMul (mC (.str c36)) (mVar 3)])) (sRet (mTup [mOp mAdd (mOp mAdd (mC (.str c2)) (mMt isS mJoin (mC (.str c3)) [mVar 2])) (mC (.str c4)), mCallG mTuple [mLc (iSeq (mVar 2)) (tgName 6) (tYes1) (mCall D__law_meant [mVar 6]) [6]]]))
theorem tail_ok {st s : Sto} {n many t : Nat} {i : Nat} {σ : Sl} (hnt : n < t) (htst : st.length ≤ t) (hmany : 99000 < many ∧ many < 200000) (hi : i ≤ 60) (hI : Lo st n many t i σ s) : ∃ (ws : List (List Nat)) (st' : Sto), ltail σ s = .ok (.ret (.tup [.str (W (.tup (ws.map wv))), .tup (ws.map wv)])) st' ∧ (∀ w ∈ ws, w ≠ [] ∧ ∀ c ∈ w, sep c = false) ∧ ws ≠ [] ∧ (TL.joinL [32] ws).length + 2 = many ∧ G st st' n := by
  obtain ⟨ws, l, x4, x5, x6, rfl, h1, h2, h3, h4, hleft, hG⟩ := hI
  have hl2 : 0 < l ∧ l ≤ 200000 := by omega
  have hs1 : t < s.length := (List.getElem?_eq_some_iff.mp h1).1
  have hw9 := w_sep hl2.1
  have e7 : sExpr (mMt isL mAppend (mVar 2) [mOp mMul (mC (.str c36)) (mVar 3)]) [some (.loc n), some (.int many), some (.loc t), some (.int (l : Int)), x4, x5, x6] s = .ok (.nx [some (.loc n), some (.int many), some (.loc t), some (.int (l : Int)), x4, x5, x6]) (s.set t (.lst (ws.map MV.str ++ [.str (repS c36 l)]))) := by
    refine expr_of (v := .non) ?_
    rw [mMt_ap, var_of rfl, bnd_ok, if_pos (isL_ok h1), mArgs_cons, op_of (mC_ap _ _ _) (var_of rfl) (mMul_s _ (by rw [show c36.length = 1 from rfl]; omega) (by omega)), bnd_ok, mArgs_nil, bnd_ok, bnd_ok]
    exact mAppend_ok h1 (by rw [List.length_map]; omega)
  obtain ⟨vs, hvs⟩ : ∃ vs, vs = ws ++ [repS c36 l] := ⟨_, rfl⟩
  have hall : ∀ w ∈ vs, w ≠ [] ∧ ∀ c ∈ w, sep c = false := by
    intro u hu
    rw [hvs] at hu
    rcases List.mem_append.mp hu with hu | hu
    · exact h2 u hu
    · simp only [List.mem_singleton] at hu
      subst hu
      exact hw9
  have hvn : vs ≠ [] := by rw [hvs]; simp
  have hvl : vs.length ≤ 61 := by rw [hvs]; simp; omega
  have hjl : (TL.joinL [32] vs).length + 2 = many := by
    have := join_tw vs hvn
    rw [show tw vs = tw ws + (l + 1) by rw [hvs, tw_snoc, repS_len, show c36.length = 1 from rfl, Nat.mul_one]] at this
    omega
  have hW := W_words hall
  obtain ⟨s2, hs2⟩ : ∃ s2, s2 = s.set t (.lst (ws.map MV.str ++ [.str (repS c36 l)])) := ⟨_, rfl⟩
  rw [← hs2] at e7
  have hq : s2[t]? = some (.lst (vs.map MV.str)) := by
    rw [hs2, set_eq hs1, hvs, List.map_append]
    rfl
  obtain ⟨r, e9⟩ := mLc_loc (fi := mVar 2) (g := tgName 6) (f := mCall D__law_meant [mVar 6]) (vs := [6]) (σ := [some (.loc n), some (.int many), some (.loc t), some (.int (l : Int)), x4, x5, x6]) (h := fun x => match x with | .str w => wv w | y => y) (var_of rfl) hq (fun x hx s => by
    obtain ⟨w, hw, rfl⟩ := List.mem_map.mp hx
    have hwl : w.length ≤ 16777216 := by have := joinL_le (s := [32]) hw; omega
    obtain ⟨g, e⟩ := meant_ok (hall w hw).1 hwl s
    exact ⟨[some (.loc n), some (.int many), some (.loc t), some (.int (l : Int)), x4, x5, some (.str w)], g, rfl, call1 (var_of rfl) e⟩) (by rw [List.length_map]; omega)
  have hmm : ((vs.map MV.str).map fun x => match x with | .str w => wv w | y => y) = vs.map wv := by
    rw [List.map_map]
    exact List.map_congr_left fun w _ => rfl
  rw [hmm] at e9
  have hjn := mJoin_ok (s := [32]) rfl hq (by omega)
  have ej : mMt isS mJoin (mC (.str c3)) [mVar 2] [some (.loc n), some (.int many), some (.loc t), some (.int (l : Int)), x4, x5, x6] s2 = .ok (.str (TL.joinL [32] vs)) s2 := by
    rw [mMt_ap, mC_ap, bnd_ok]
    show (if true = true then _ else _) = _
    rw [if_pos rfl, mArgs_cons, var_of rfl, bnd_ok, mArgs_nil, bnd_ok, bnd_ok]
    exact hjn
  have hnew : (s2 ++ .lst (vs.map wv) :: r)[s2.length]? = some (.lst (vs.map wv)) := by
    rw [List.getElem?_append_right (Nat.le_refl _)]
    simp
  have et : mOp mAdd (mOp mAdd (mC (.str c2)) (mMt isS mJoin (mC (.str c3)) [mVar 2])) (mC (.str c4)) [some (.loc n), some (.int many), some (.loc t), some (.int (l : Int)), x4, x5, x6] s2 = .ok (.str (W (.tup (vs.map wv)))) s2 := by
    rw [op_of (op_of (mC_ap _ _ _) ej (mAdd_ss _ (by rw [show c2.length = 1 from rfl]; omega))) (mC_ap _ _ _) (mAdd_ss _ (by rw [List.length_append, show c2.length = 1 from rfl, show c4.length = 1 from rfl]; omega)), hW]
    rfl
  have gk : G st s2 n := by
    rw [hs2]
    exact ⟨hG.ok.set hnt, by have := hG.len; simp; omega, fun q hq hq2 => by rw [set_ne (by omega)]; exact hG.at_ q hq hq2⟩
  refine ⟨vs, s2 ++ .lst (vs.map wv) :: r, seq_nx e7 (ret_of ?_), hall, hvn, hjl, gk.trans (G.app gk.ok _)⟩
  rw [mTup_ap, mArgs_cons, et, bnd_ok, mArgs_cons, callG1 e9 (mTuple_loc hnew), bnd_ok, mArgs_nil, bnd_ok, bnd_ok, bnd_ok]
theorem long_ok {st : Sto} {n many : Nat} (hd : DOk st n) (hm : 99000 < many ∧ many < 200000) : ∃ (ws : List (List Nat)) (st' : Sto), D__law_long [.loc n, .int many] st = .ok (.tup [.str (W (.tup (ws.map wv))), .tup (ws.map wv)]) st' ∧ (∀ w ∈ ws, w ≠ [] ∧ ∀ c ∈ w, sep c = false) ∧ ws ≠ [] ∧ (TL.joinL [32] ws).length + 2 = many ∧ G st st' n := by
  have hn := hd.lt
  obtain ⟨j, σ', s1, e2, hj, hI⟩ := for_inv (Inv := fun i σ s => Lo st n many st.length i σ s) (N := 60) (k := 4) (b := lbody) (Mi.intsFrom 0 (60 : Int).toNat) 0 [some (.loc n), some (.int many), some (.loc st.length), some (.int ((many - 2 : Nat) : Int)), none, none, none] (st ++ [.lst []]) (by rw [ints_len]; decide) ⟨[], many - 2, none, none, none, rfl, get_new, by simp, by simp [tw], by simp, by simp [tw]; omega, G.app hd _⟩ (fun z _ i σ s hi hI => long_step hn (Nat.le_refl _) hm.1 z i σ s hi hI)
  rw [ints_len] at hj
  have hj' : j ≤ 60 := by simpa using hj
  obtain ⟨ws, st', e3, k1, k2, k3, k4⟩ := tail_ok hn (Nat.le_refl _) hm hj' hI
  have hsub : sSet 3 (mOp mSub (mVar 1) (mC (.int 2))) [some (.loc n), some (.int many), some (.loc st.length), none, none, none, none] (st ++ [.lst []]) = .ok (.nx [some (.loc n), some (.int many), some (.loc st.length), some (.int ((many - 2 : Nat) : Int)), none, none, none]) (st ++ [.lst []]) := by
    rw [show ((many - 2 : Nat) : Int) = (many : Int) - 2 by omega]
    exact set_of (op_of (var_of rfl) (mC_ap _ _ _) (mSub_ii _ _ _))
  have hls : sSet 2 (mLst []) (init0 7 [.loc n, .int many]) st = .ok (.nx [some (.loc n), some (.int many), some (.loc st.length), none, none, none, none]) (st ++ [.lst []]) := rfl
  refine ⟨ws, st', ?_, k1, k2, k3, k4⟩
  unfold D__law_long
  exact run_ret (seq_nx hls (seq_nx hsub (seq_nx (sFor_of (iRange1 (mC_ap _ _ _) (by decide) (by decide)) e2) e3)))
end K76
end
section
set_option Elab.async false
set_option linter.all false
set_option maxRecDepth 100000
set_option maxHeartbeats 600000
set_option autoImplicit false
/-! P76s: the law. -/
namespace K76
open PySem PySem.Spec L2 Mi PySem.NumText
theorem right_at {σ : Sl} {st s : Sto} {n : Nat} {fe : Exp} {text : List Nat} (h : fe σ st = .ok (.str text) s) (ht : text.length ≤ 100000) (hd : DOk s n) : ∃ st', tNot1 (mAsB (mCall D__law_right [fe])) σ st = .ok false st' ∧ G s st' n := by
  obtain ⟨st', e, h1, h2⟩ := right_ok ht s
  exact ⟨st', not_of (k := true) (asB_of (call1 h e)), G.keep hd h1 h2⟩
theorem wr_at {σ : Sl} {st : Sto} {i j : Nat} {x : MV} (h1 : (σ[i]?).bind id = some x) (h2 : (σ[j]?).bind id = some (.str (W x))) (hp : plain x = true) (hdp : depM x < 15) (hl : (W x).length ≤ 1000000) : ∃ g, mCmp gNe (mCall (D_write_state 15) [mVar i]) (mVar j) σ st = .ok false (st ++ g) := by
  obtain ⟨g, e⟩ := write_ok 15 x st hp hdp hl
  exact ⟨g, cmp_of (call1 (var_of h1) e) (var_of h2) (by simp)⟩
theorem neg_slice {σ : Sl} {st : Sto} {i : Nat} {s : List Nat} (h : (σ[i]?).bind id = some (.str s)) (hs : 0 < s.length) : ∃ t, mSlice (mVar i) mNoPart (mPart (mNeg (mC (.int 1)))) σ st = .ok (.str t) st ∧ t.length + 1 = s.length := by
  refine ⟨cutL s none (some (-1)), ?_, ?_⟩
  · rw [mSlice_ap, var_of h, bnd_ok, mNoPart_ap, bnd_ok]
    rfl
  · unfold cutL
    rw [HT.sIx_none]
    have : HT.sIx s.length s.length (some (-1)) = s.length - 1 := by
      show (if (-1 : Int) < 0 then ((-1 : Int) + (s.length : Int)).toNat else min (-1 : Int).toNat s.length) = _
      rw [if_pos (by decide)]
      omega
    rw [this, List.drop_zero, List.length_take]
    omega
theorem plain_words (ws : List (List Nat)) : plain (.tup (ws.map wv)) = true ∧ depM (.tup (ws.map wv)) ≤ 1 := by
  refine ⟨plains_of fun x hx => ?_, dep_tup fun x hx => ?_⟩
  · obtain ⟨w, _, rfl⟩ := List.mem_map.mp hx
    exact (plain_wv w).1
  · obtain ⟨w, _, rfl⟩ := List.mem_map.mp hx
    rw [(plain_wv w).2]
    omega
theorem long_right_ok {st : Sto} {n : Nat} (hd : DOk st n) : ∃ st', D__law_long_right [.loc n] st = .ok (.bl true) st' := by
  obtain ⟨ws, s1, e1, k1, k2, k3, g1⟩ := long_ok (many := 100000) hd (by decide)
  have hW := W_words k1
  have hl : (W (.tup (ws.map wv))).length = 100000 := by rw [hW]; simp only [List.length_append, List.length_cons, List.length_nil]; omega
  have hp := plain_words ws
  obtain ⟨x, hx⟩ : ∃ x, x = MV.tup (ws.map wv) := ⟨_, rfl⟩
  rw [← hx] at hp hl e1
  have a1 : sAsg (tgTup [tgName 1, tgName 2]) (mCall D__law_long [mVar 0, mC (.int 100000)]) (init0 4 [.loc n]) st = .ok (.nx [some (.loc n), some (.str (W x)), some x, none]) s1 := tup2_of (call2 (var_of rfl) (mC_ap _ _ _) e1)
  obtain ⟨g, a2⟩ := wr_at (σ := [some (.loc n), some (.str (W x)), some x, none]) (st := s1) (i := 2) (j := 1) (x := x) rfl rfl hp.1 (by omega) (by omega)
  obtain ⟨j, hrd⟩ := fwd ws 1 [] .first k2 k1 (.inl rfl)
  have hrd2 : Rd (W x) 0 [] .begin (.fin x [] j) := by
    rw [hx, hW]
    exact .opn (by simp) (by simp) hrd
  obtain ⟨s2, e3, l3, kk3⟩ := asked_ok hrd2 (by omega) (s1 ++ g)
  have g2 : G (s1 ++ g) s2 n := G.keep (g1.ok.app g) l3 kk3
  obtain ⟨g', e4⟩ := same_ok 15 x s2 hp.1 (by omega) (by omega) (by omega)
  have x3 : ∀ s : Sto, mIx (mVar 3) (mC (.int 1)) [some (.loc n), some (.str (W x)), some x, some (oval (.fin x [] j))] s = .ok x s := fun s => ix_of (var_of rfl) (mC_ap _ _ _) rfl
  have x30 : ∀ s : Sto, mIx (mVar 3) (mC (.int 0)) [some (.loc n), some (.str (W x)), some x, some (oval (.fin x [] j))] s = .ok (.str c26) s := fun s => ix_of (var_of rfl) (mC_ap _ _ _) rfl
  have a4 : tOr2 (mCmp gNe (mIx (mVar 3) (mC (.int 0))) (mC (.str c26))) (tNot1 (mAsB (mCall (D__law_same 15) [mVar 2, mIx (mVar 3) (mC (.int 1))]))) [some (.loc n), some (.str (W x)), some x, some (oval (.fin x [] j))] s2 = .ok false (s2 ++ g') := or_f (cmp_of (x30 _) (mC_ap _ _ _) (by simp)) (not_of (k := true) (asB_of (call2 (var_of rfl) (x3 _) e4)))
  obtain ⟨ws2, s3, e5, q1, q2, q3, g3⟩ := long_ok (many := 100001) (st := s2 ++ g') (g2.ok.app g') (by decide)
  have hl2 : (W (.tup (ws2.map wv))).length = 100001 := by rw [W_words q1]; simp only [List.length_append, List.length_cons, List.length_nil]; omega
  obtain ⟨y, hy⟩ : ∃ y, y = MV.tup (ws2.map wv) := ⟨_, rfl⟩
  rw [← hy] at hl2 e5
  have a5 : sAsg (tgTup [tgName 1, tgName 2]) (mCall D__law_long [mVar 0, mC (.int 100001)]) [some (.loc n), some (.str (W x)), some x, some (oval (.fin x [] j))] (s2 ++ g') = .ok (.nx [some (.loc n), some (.str (W y)), some y, some (oval (.fin x [] j))]) s3 := tup2_of (call2 (var_of rfl) (mC_ap _ _ _) e5)
  obtain ⟨k, s4, e6, hk, g4⟩ := draw_at (σ := [some (.loc n), some (.str (W y)), some y, some (oval (.fin x [] j))]) (fo := mVar 0) (fm := mC (.int 2)) (s1 := s3) (st := s3) (var_of rfl) (mC_ap _ _ _) g3.ok (by decide)
  have a6 : ∃ t : List Nat, sIf (mCmp gEq (mCall D__law_draw [mVar 0, mC (.int 2)]) (mC (.int 0))) (sSet 1 (mOp mAdd (mSlice (mVar 1) mNoPart (mPart (mNeg (mC (.int 1))))) (mC (.str c3)))) (sNop) [some (.loc n), some (.str (W y)), some y, some (oval (.fin x [] j))] s3 = .ok (.nx [some (.loc n), some (.str t), some y, some (oval (.fin x [] j))]) s4 ∧ 100000 < t.length := by
    by_cases h0 : k = 0
    · obtain ⟨t, et, ht⟩ := neg_slice (σ := [some (.loc n), some (.str (W y)), some y, some (oval (.fin x [] j))]) (st := s4) (i := 1) (s := W y) rfl (by omega)
      exact ⟨t ++ c3, if_t (cmp_of e6 (mC_ap _ _ _) (by simp [h0])) (set_of (op_of et (mC_ap _ _ _) (mAdd_ss _ (by rw [show c3.length = 1 from rfl]; omega)))), by rw [List.length_append, show c3.length = 1 from rfl]; omega⟩
    · exact ⟨W y, if_f (cmp_of e6 (mC_ap _ _ _) (by simp [h0])) (sNop_ap _ _), by omega⟩
  obtain ⟨t, a6, ht⟩ := a6
  refine ⟨s4, ?_⟩
  unfold D__law_long_right
  exact run_ret (seq_nx a1 (seq_nx (if_f a2 (sNop_ap _ _)) (seq_nx (set_of (call1 (var_of rfl) e3)) (seq_nx (if_f a4 (sNop_ap _ _)) (seq_nx a5 (seq_nx a6 (ret_of (mB_of (cmp_of (call1 (var_of rfl) (asked_long ht _)) (y := .tup [.str c37, .int 0]) rfl (gEq_same _ (lay2 c37_good 0) (by show _ ≤ 60; simp [depM, depMs])))))))))))
noncomputable abbrev obody : Stm := (sSeq (sAsg (tgTup [tgName 3, tgName 4]) (mCall (D__law_built 13) [mVar 1, mC (.int 12), mLst [mC (.int 40)]])) (sSeq (sIf (tOr2 (mCmp gNe (mCall (D_write_state 15) [mVar 4]) (mVar 3)) (tNot1 (mAsB (mCall D__law_right [mVar 3])))) (sRet (mC (.bl false))) (sNop)) (sFor (iRange [mC (.int 3)]) (tgName 5) (sIf (tNot1 (mAsB (mCall D__law_right [mCall D__law_spoilt [mVar 1, mVar 3]]))) (sRet (mC (.bl false))) (sNop)))))
theorem built_12 {st : Sto} {n b : Nat} (hd : DOk st n) (hb : st[b]? = some (.lst [.int 40])) (hn : n < b) : ∃ (xs : List MV) (l' : Nat) (st' : Sto), D__law_built 13 [.loc n, .int 12, .loc b] st = .ok (.tup [.str (W (.tup xs)), .tup xs]) st' ∧ plain (.tup xs) = true ∧ depM (.tup xs) ≤ 12 ∧ l' ≤ 40 ∧ (W (.tup xs)).length ≤ 2 + 28 * (40 - l') ∧ st'[b]? = some (.lst [.int l']) ∧ G2 st st' n b := by
  obtain ⟨dp, hdp⟩ : ∃ dp : Nat, dp = 12 := ⟨_, rfl⟩
  obtain ⟨left, hleft⟩ : ∃ left : Nat, left = 40 := ⟨_, rfl⟩
  have h := built_ok dp st n b left (by omega) (by omega) (by omega) hd (by rw [show ((left : Nat) : Int) = 40 by omega]; exact hb) hn
  rw [show ((dp : Nat) : Int) = 12 by omega, show dp + 1 = 13 by omega, hdp, hleft] at h
  exact h
end K76
end
section
set_option Elab.async false
set_option linter.all false
set_option maxRecDepth 100000
set_option maxHeartbeats 400000
set_option autoImplicit false
/-! P76t: the law. -/
namespace K76
open PySem PySem.Spec L2 Mi PySem.NumText
noncomputable abbrev ibody : Stm := (sIf (tNot1 (mAsB (mCall D__law_right [mCall D__law_spoilt [mVar 1, mVar 3]]))) (sRet (mC (.bl false))) (sNop))
structure In (n : Nat) (r z x : MV) (w : List Nat) (σ : Sl) (s : Sto) : Prop where
  ex : ∃ y5 : Option MV, σ = [some r, some (.loc n), some z, some (.str w), some x, y5, none, none, none]
  ok : DOk s n
theorem inner_step {n : Nat} {r z x v : MV} {w : List Nat} (hw : w.length ≤ 2000) {σ : Sl} {s : Sto} (hI : In n r z x w σ s) : ∃ (σ' : Sl) (st' : Sto), (ibody (σ.set 5 (some v)) s = .ok (.nx σ') st' ∨ ibody (σ.set 5 (some v)) s = .ok (.bk σ') st') ∧ In n r z x w σ' st' := by
  obtain ⟨⟨y5, rfl⟩, hd⟩ := hI
  obtain ⟨t, s4, e5, ht, g5⟩ := spoilt_ok (text := w) hd (by omega)
  obtain ⟨s5, e6, g6⟩ := right_at (σ := [some r, some (.loc n), some z, some (.str w), some x, some v, none, none, none]) (st := s) (fe := mCall D__law_spoilt [mVar 1, mVar 3]) (text := t) (call2 (var_of rfl) (var_of rfl) e5) ht g5.ok
  exact ⟨_, s5, .inl (if_f e6 (sNop_ap _ _)), ⟨some v, rfl⟩, g6.ok⟩
theorem inner_ok {n : Nat} {r z x : MV} {w : List Nat} (hw : w.length ≤ 2000) {y : Option MV} {s : Sto} (hd : DOk s n) : ∃ (y5 : Option MV) (s' : Sto), sFor (iRange [mC (.int 3)]) (tgName 5) ibody [some r, some (.loc n), some z, some (.str w), some x, y, none, none, none] s = .ok (.nx [some r, some (.loc n), some z, some (.str w), some x, y5, none, none, none]) s' ∧ DOk s' n := by
  obtain ⟨j, σ', s3, e4, _, ⟨y5, rfl⟩, hd3⟩ := for_inv (Inv := fun _ σ s => In n r z x w σ s) (N := 3) (k := 5) (b := ibody) (Mi.intsFrom 0 (3 : Int).toNat) 0 [some r, some (.loc n), some z, some (.str w), some x, y, none, none, none] s (by rw [ints_len]; decide) ⟨⟨y, rfl⟩, hd⟩ (fun v _ i σ s _ hI => inner_step hw hI)
  exact ⟨y5, s3, sFor_of (iRange1 (mC_ap _ _ _) (by decide) (by decide)) e4, hd3⟩
theorem a1_ok {n : Nat} {r z x : MV} {t : List Nat} {x3 x4 x5 : Option MV} {s s1 : Sto} (e1 : D__law_built 13 [.loc n, .int 12, .loc s.length] (s ++ [.lst [.int 40]]) = .ok (.tup [.str t, x]) s1) : sAsg (tgTup [tgName 3, tgName 4]) (mCall (D__law_built 13) [mVar 1, mC (.int 12), mLst [mC (.int 40)]]) [some r, some (.loc n), some z, x3, x4, x5, none, none, none] s = .ok (.nx [some r, some (.loc n), some z, some (.str t), some x, x5, none, none, none]) s1 := by
  have hl : mLst [mC (.int 40)] [some r, some (.loc n), some z, x3, x4, x5, none, none, none] s = .ok (.loc s.length) (s ++ [.lst [.int 40]]) := by
    rw [mLst_ap, mArgs_cons, mC_ap, bnd_ok, mArgs_nil, bnd_ok, bnd_ok]
  have hv : mVar 1 [some r, some (.loc n), some z, x3, x4, x5, none, none, none] s = .ok (.loc n) s := var_of rfl
  generalize D__law_built 13 = D at e1 ⊢
  exact tup2_of (call3 hv (mC_ap _ _ _) hl e1)
theorem turn_ok {n : Nat} {σ : Sl} {s : Sto} {z r : MV} (hI : (∃ x2 x3 x4 x5 : Option MV, σ = [some r, some (.loc n), x2, x3, x4, x5, none, none, none]) ∧ DOk s n) : ∃ (σ' : Sl) (st' : Sto), (obody (σ.set 2 (some z)) s = .ok (.nx σ') st' ∨ obody (σ.set 2 (some z)) s = .ok (.bk σ') st') ∧ (∃ x2 x3 x4 x5 : Option MV, σ' = [some r, some (.loc n), x2, x3, x4, x5, none, none, none]) ∧ DOk st' n := by
  obtain ⟨⟨x2, x3, x4, x5, rfl⟩, hd⟩ := hI
  have hn := hd.lt
  obtain ⟨xs, l', s1, e1, h1, h2, h3, h4, h5, h6⟩ := built_12 (st := s ++ [.lst [.int 40]]) (b := s.length) (hd.app _) get_new hn
  obtain ⟨x, hx⟩ : ∃ x, x = MV.tup xs := ⟨_, rfl⟩
  rw [← hx] at e1 h1 h2 h4
  have hl : (W x).length ≤ 2000 := by omega
  have a1 : sAsg (tgTup [tgName 3, tgName 4]) (mCall (D__law_built 13) [mVar 1, mC (.int 12), mLst [mC (.int 40)]]) [some r, some (.loc n), some z, x3, x4, x5, none, none, none] s = .ok (.nx [some r, some (.loc n), some z, some (.str (W x)), some x, x5, none, none, none]) s1 := a1_ok e1
  obtain ⟨g, a2⟩ := wr_at (σ := [some r, some (.loc n), some z, some (.str (W x)), some x, x5, none, none, none]) (st := s1) (i := 4) (j := 3) (x := x) rfl rfl h1 (by omega) (by omega)
  obtain ⟨s2, a3, g3⟩ := right_at (σ := [some r, some (.loc n), some z, some (.str (W x)), some x, x5, none, none, none]) (st := s1 ++ g) (fe := mVar 3) (text := W x) (var_of rfl) (by omega) (h6.ok.app g)
  obtain ⟨y5, s3, e4, hd3⟩ := inner_ok (n := n) (r := r) (z := z) (x := x) (w := W x) (y := x5) hl g3.ok
  have hb : obody [some r, some (.loc n), some z, x3, x4, x5, none, none, none] s = .ok (.nx [some r, some (.loc n), some z, some (.str (W x)), some x, y5, none, none, none]) s3 := seq_nx a1 (seq_nx (if_f (or_f a2 a3) (sNop_ap _ _)) e4)
  exact ⟨_, s3, .inl hb, ⟨some z, some (.str (W x)), some x, y5, rfl⟩, hd3⟩
theorem big_num {m : Nat} (h : m < 10 ^ 12) : (TL.numL m).length ≤ 12 := by
  unfold TL.numL
  rw [List.length_map]
  exact (Nat.length_toDigits_le_iff (by decide) (by decide)).mpr h
theorem law_true (ns : List Int) (h : ns.length ≤ 63) : ∃ st', D_law [.rol (ns.map MV.int)] [] = .ok (.bl true) st' := by
  obtain ⟨n, s0, e0, hd0⟩ := begin_ok ns h
  obtain ⟨r, hr⟩ : ∃ r, r = MV.rol (ns.map MV.int) := ⟨_, rfl⟩
  rw [← hr] at e0 ⊢
  obtain ⟨j, σ', s1, e1, _, ⟨x2, x3, x4, x5, rfl⟩, hd1⟩ := for_inv (Inv := fun _ σ s => (∃ x2 x3 x4 x5 : Option MV, σ = [some r, some (.loc n), x2, x3, x4, x5, none, none, none]) ∧ DOk s n) (N := 3) (k := 2) (b := obody) (Mi.intsFrom 0 (3 : Int).toNat) 0 [some r, some (.loc n), none, none, none, none, none, none, none] s0 (by rw [ints_len]; decide) ⟨⟨none, none, none, none, rfl⟩, hd0⟩ (fun z _ i σ s _ hI => turn_ok hI)
  obtain ⟨k, s2, e2, hk, g2⟩ := draw_at (σ := [some r, some (.loc n), x2, x3, x4, x5, none, none, none]) (fo := mVar 1) (fm := mC (.int 5)) (s1 := s1) (st := s1) (var_of rfl) (mC_ap _ _ _) hd1 (by decide)
  obtain ⟨x, s3, e3, h1, h2, h3, g3⟩ := deep_ok (many := 10 + k) g2.ok (by omega)
  have a3 : sAsg (tgTup [tgName 3, tgName 4]) (mCall D__law_deep [mVar 1, mVar 6]) [some r, some (.loc n), x2, x3, x4, x5, some (.int (10 + k)), none, none] s2 = .ok (.nx [some r, some (.loc n), x2, some (.str (W x)), some x, x5, some (.int (10 + k)), none, none]) s3 := tup2_of (call2 (var_of rfl) (var_of rfl) e3)
  obtain ⟨s4, a4, g4⟩ := right_at (σ := [some r, some (.loc n), x2, some (.str (W x)), some x, x5, some (.int (10 + k)), none, none]) (st := s3) (fe := mVar 3) (text := W x) (var_of rfl) (by omega) g3.ok
  obtain ⟨t, s5, e5, ht, g5⟩ := spoilt_ok (text := W x) g4.ok (by omega)
  obtain ⟨s6, a6, g6⟩ := right_at (σ := [some r, some (.loc n), x2, some (.str (W x)), some x, x5, some (.int (10 + k)), none, none]) (st := s4) (fe := mCall D__law_spoilt [mVar 1, mVar 3]) (text := t) (call2 (var_of rfl) (var_of rfl) e5) ht g5.ok
  have a7 : ∃ s7, tAnd2 (mCmp (gI fun i j => decide (i ≤ j)) (mVar 6) (mC (.int 12))) (mCmp gNe (mCall (D_write_state 15) [mVar 4]) (mVar 3)) [some r, some (.loc n), x2, some (.str (W x)), some x, x5, some (.int (10 + k)), none, none] s6 = .ok false s7 ∧ DOk s7 n := by
    by_cases hc : 10 + k ≤ 12
    · obtain ⟨g, e⟩ := wr_at (σ := [some r, some (.loc n), x2, some (.str (W x)), some x, x5, some (.int (10 + k)), none, none]) (st := s6) (i := 4) (j := 3) (x := x) rfl rfl h1 (by omega) (by omega)
      exact ⟨s6 ++ g, and_t (cmp_of (var_of rfl) (mC_ap _ _ _) (by simp [hc])) e, g6.ok.app g⟩
    · exact ⟨s6, and_f (cmp_of (var_of rfl) (mC_ap _ _ _) (by simp [hc])), g6.ok⟩
  obtain ⟨s7, a7, hd7⟩ := a7
  obtain ⟨k2, s8, e8, hk2, g8⟩ := draw_at (σ := [some r, some (.loc n), x2, some (.str (W x)), some x, x5, some (.int (10 + k)), none, none]) (fo := mVar 1) (fm := mOp mPow (mC (.int 10)) (mC (.int 9))) (many := 1000000000) (s1 := s7) (st := s7) (var_of rfl) rfl hd7 (by decide)
  obtain ⟨m, rfl⟩ := Int.eq_ofNat_of_zero_le hk2.1
  obtain ⟨N, hN⟩ : ∃ N : Nat, N = 1000000000 + m := ⟨_, rfl⟩
  have hN2 : 0 < N ∧ N < 10 ^ 12 := by omega
  have hlen := big_num hN2.2
  have a8 : sSet 7 (mOp mAdd (mOp mPow (mC (.int 10)) (mC (.int 9))) (mCall D__law_draw [mVar 1, mOp mPow (mC (.int 10)) (mC (.int 9))])) [some r, some (.loc n), x2, some (.str (W x)), some x, x5, some (.int (10 + k)), none, none] s7 = .ok (.nx [some r, some (.loc n), x2, some (.str (W x)), some x, x5, some (.int (10 + k)), some (.int (N : Int)), none]) s8 := by
    have := set_of (i := 7) (op_of (q := mAdd) (show mOp mPow (mC (.int 10)) (mC (.int 9)) [some r, some (.loc n), x2, some (.str (W x)), some x, x5, some (.int (10 + k)), none, none] s7 = .ok (.int 1000000000) s7 from rfl) e8 (mAdd_ii _ _ _))
    rw [show (1000000000 : Int) + (m : Int) = (N : Int) by omega] at this
    exact this
  have a9 : sSet 8 (mCallG mStr [mVar 7]) [some r, some (.loc n), x2, some (.str (W x)), some x, x5, some (.int (10 + k)), some (.int (N : Int)), none] s8 = .ok (.nx [some r, some (.loc n), x2, some (.str (W x)), some x, x5, some (.int (10 + k)), some (.int (N : Int)), some (.str (TL.numL N))]) s8 := by
    rw [← strI_nat]
    exact set_of (callG1 (var_of rfl) (mStr_int (by simpa using hN2.2) (by rw [strI_nat]; omega) _))
  have y8 : ∀ s : Sto, mVar 8 [some r, some (.loc n), x2, some (.str (W x)), some x, x5, some (.int (10 + k)), some (.int (N : Int)), some (.str (TL.numL N))] s = .ok (.str (TL.numL N)) s := fun _ => rfl
  have hWN : W (.tup [.int (N : Int), .int (0 - (N : Int))]) = (((c2 ++ TL.numL N) ++ c38) ++ TL.numL N) ++ c4 := by
    rw [W2]
    show (((c2 ++ strI (N : Int)) ++ c3) ++ strI (0 - (N : Int))) ++ c4 = _
    rw [Int.zero_sub, strI_neg hN2.1, strI_nat]
    show ((([40] ++ TL.numL N) ++ [32]) ++ (45 :: TL.numL N)) ++ [41] = ((([40] ++ TL.numL N) ++ [32, 45]) ++ TL.numL N) ++ [41]
    simp
  have lc2 : c2.length = 1 := rfl
  have lc3 : c3.length = 1 := rfl
  have lc4 : c4.length = 1 := rfl
  have lc38 : c38.length = 2 := rfl
  have hpN : plain (.tup [.int (N : Int), .int (0 - (N : Int))]) = true := by
    show (decide ((N : Int).natAbs < 10 ^ 12) && (decide ((0 - (N : Int)).natAbs < 10 ^ 12) && true)) = true
    rw [decide_eq_true (by omega), decide_eq_true (by omega)]
    rfl
  obtain ⟨g9, e10⟩ := write_ok 15 (.tup [.int (N : Int), .int (0 - (N : Int))]) s8 hpN (by simp [depM, depMs]) (by rw [hWN]; simp only [List.length_append]; omega)
  have a10 : mCmp gNe (mCall (D_write_state 15) [mTup [mVar 7, mOp mSub (mC (.int 0)) (mVar 7)]]) (mOp mAdd (mOp mAdd (mOp mAdd (mOp mAdd (mC (.str c2)) (mVar 8)) (mC (.str c38))) (mVar 8)) (mC (.str c4))) [some r, some (.loc n), x2, some (.str (W x)), some x, x5, some (.int (10 + k)), some (.int (N : Int)), some (.str (TL.numL N))] s8 = .ok false (s8 ++ g9) := by
    refine cmp_of (call1 (x := .tup [.int (N : Int), .int (0 - (N : Int))]) (s1 := s8) rfl e10) (op_of (op_of (op_of (op_of (mC_ap _ _ _) (y8 _) (mAdd_ss _ (by omega))) (mC_ap _ _ _) (mAdd_ss _ (by simp only [List.length_append]; omega))) (y8 _) (mAdd_ss _ (by simp only [List.length_append]; omega))) (mC_ap _ _ _) (mAdd_ss _ (by simp only [List.length_append]; omega))) ?_
    rw [hWN, gNe_ss, decide_eq_true rfl]
    rfl
  have hdr : (TL.numL N).drop 1 = (TL.numL N).drop 1 := rfl
  have e11 : mSlice (mVar 8) (mPart (mC (.int 1))) mNoPart [some r, some (.loc n), x2, some (.str (W x)), some x, x5, some (.int (10 + k)), some (.int (N : Int)), some (.str (TL.numL N))] (s8 ++ g9) = .ok (.str ((TL.numL N).drop 1)) (s8 ++ g9) := sl_fr (j := 1) rfl (mC_ap _ _ _)
  have hdl : ((TL.numL N).drop 1).length ≤ 12 := by rw [List.length_drop]; omega
  obtain ⟨s12, a12, g12⟩ := right_at (n := n) (σ := [some r, some (.loc n), x2, some (.str (W x)), some x, x5, some (.int (10 + k)), some (.int (N : Int)), some (.str (TL.numL N))]) (st := s8 ++ g9) (fe := mOp mAdd (mOp mAdd (mOp mAdd (mOp mAdd (mC (.str c2)) (mSlice (mVar 8) (mPart (mC (.int 1))) mNoPart)) (mC (.str c3))) (mVar 8)) (mC (.str c4))) (op_of (op_of (op_of (op_of (mC_ap _ _ _) e11 (mAdd_ss _ (by omega))) (mC_ap _ _ _) (mAdd_ss _ (by simp only [List.length_append]; omega))) (y8 _) (mAdd_ss _ (by simp only [List.length_append]; omega))) (mC_ap _ _ _) (mAdd_ss _ (by simp only [List.length_append]; omega))) (by simp only [List.length_append]; omega) (g8.ok.app g9)
  obtain ⟨k3, s13, e13, hk3, g13⟩ := draw_at (σ := [some r, some (.loc n), x2, some (.str (W x)), some x, x5, some (.int (10 + k)), some (.int (N : Int)), some (.str (TL.numL N))]) (fo := mVar 1) (fm := mC (.int 8)) (s1 := s12) (st := s12) (var_of rfl) (mC_ap _ _ _) g12.ok (by decide)
  obtain ⟨s14, e14⟩ := long_right_ok g13.ok
  have a14 : ∃ s15, mOrV (mCmp (gI fun i j => decide (j < i)) (mCall D__law_draw [mVar 1, mC (.int 8)]) (mC (.int 0))) (mCall D__law_long_right [mVar 1]) [some r, some (.loc n), x2, some (.str (W x)), some x, x5, some (.int (10 + k)), some (.int (N : Int)), some (.str (TL.numL N))] s12 = .ok (.bl true) s15 := by
    by_cases hc : 0 < k3
    · exact ⟨s13, by rw [mOrV_ap, cmp_of (k := true) e13 (mC_ap _ _ _) (by simp [hc]), bnd_ok, if_pos rfl]⟩
    · exact ⟨s14, by rw [mOrV_ap, cmp_of (k := false) e13 (mC_ap _ _ _) (by simp [hc]), bnd_ok, if_neg (by decide)]; exact call1 (var_of rfl) e14⟩
  obtain ⟨s15, a15⟩ := a14
  have a0 : sSet 1 (mCall D__law_begin [mVar 0]) (init0 9 [r]) [] = .ok (.nx [some r, some (.loc n), none, none, none, none, none, none, none]) s0 := set_of (call1 (var_of rfl) e0)
  have a2 : sSet 6 (mOp mAdd (mC (.int 10)) (mCall D__law_draw [mVar 1, mC (.int 5)])) [some r, some (.loc n), x2, x3, x4, x5, none, none, none] s1 = .ok (.nx [some r, some (.loc n), x2, x3, x4, x5, some (.int (10 + k)), none, none]) s2 := set_of (op_of (mC_ap _ _ _) e2 (mAdd_ii _ _ _))
  refine ⟨s15, ?_⟩
  unfold D_law
  exact run_ret (seq_nx a0 (seq_nx (sFor_of (iRange1 (mC_ap _ _ _) (by decide) (by decide)) e1) (seq_nx a2 (seq_nx a3 (seq_nx (if_f (or_f a4 a6) (sNop_ap _ _)) (seq_nx (if_f a7 (sNop_ap _ _)) (seq_nx a8 (seq_nx a9 (seq_nx (if_f a10 (sNop_ap _ _)) (seq_nx (if_f a12 (sNop_ap _ _)) (ret_of a15)))))))))))
end K76
end
section
set_option Elab.async false
set_option linter.all false
set_option maxRecDepth 100000
set_option maxHeartbeats 0
set_option autoImplicit false
namespace K76
open PySem PySem.Spec PyProof.Rows L2 Mi
theorem only_sqF {K : PySem.W.Frag} {H : Hp} {a : Addr} {xs : List V} (hO : Only H) (h : SqL K H a xs) : SqF K H a xs := by
  rcases h with (h | h) | h
  · rcases hO a with e | ⟨o, ys, e⟩
    · rw [h] at e
      cases e
    · rw [h] at e
      cases e
  · exact .inl h
  · exact .inr h
theorem funOf {K : PySem.W.Frag} {x qual : Str} {st : Stmt} {f : Addr} {fd : FuncData} {kws : List (Str × V)} (F : FunD K x qual (defArgs st) (defBody st) (defScope st) [] kws f fd) : Fun K x qual st f fd := by
  obtain ⟨oc, od, dV, kV, doc, pm, an, cdv, ct, osl, e, l, c, hd, _⟩ := F.ex
  rcases hd with ⟨_, e2⟩ | ⟨e2, _⟩
  · subst e2
    exact ⟨⟨oc, od, kV, doc, pm, an, cdv, ct, osl, e, l, c⟩, F.kp⟩
  · exact absurd rfl e2
theorem rep_nil (Z : Zc) (H : Hp) : Rep Z [] H [] := ⟨rfl, List.nodup_nil, fun n a o h => by simp at h⟩
theorem ints_rv {Z : Zc} {H : Hp} : ∀ ns : List Int, RVs Z [] H (ns.map MV.int) (ns.map V.int)
  | [] => rfl
  | n :: ns => ⟨_, _, rfl, rfl, ints_rv ns⟩
theorem walk_end {l : PySem.W.OpenLaw} {q : Program} {loose : List Str} {XP : (Str → Option Value) → Heap → Prop} {YP : World → Heap → Prop} {d : DefRec} (hdf : d.params.defaults = [])
    (F : ∀ (w : World) (mg : Str → Option Value) (fa : Addr) (h : Heap), YP w h → h.Ns mainGlobals mg → mg d.name = some (.ref fa) → ∃ (K : PySem.W.Frag) (T : Fx l.prog K mg), K.In h ∧ fa = T.f_law) (hn : l.most = some 63 := by rfl) :
    PySem.W.WalkO q loose XP YP l.row.toRowW d [] (fun f vs => PySem.call f vs) := by
  refine Att.attach_call hn hdf fun w s₀ s₁ mg mb fa o pm cd doc a vs ns G Y ho hd hcd hmg hobj hints hlen hg => ?_
  obtain ⟨K, T, KX, rfl⟩ := F w mg fa _ Y G.T.g hmg
  refine law_call (k := 18) (sp := spOf T.Z D_law 1) KX G.T.g G.T.b G.T.builtins G.T.nolimit hg hobj hints (Nat.le_trans hlen (by decide)) ⟨rfl, by decide, by decide⟩ (fun base _ _ => ok_law T) T.ba_law (fun H hO hS => ?_) fun H e s' z => ?_
  · obtain ⟨st', e⟩ := law_true ns hlen
    refine ⟨[], [], [.rol (ns.map MV.int)], rep_nil _ H, ⟨.ref a, [], rfl, ⟨a, ns.map V.int, rfl, only_sqF hO hS, ints_rv ns⟩, rfl⟩, rfl, ?_⟩
    rw [e]
    intro ρ' H' ex R v rv
    cases rv
    rfl
  · obtain ⟨_, _, _, _, _, _, _, _, _, _, _, _, z⟩ := z
    exact z.elim
end K76
namespace K76
open PySem PySem.Spec PyProof.Rows L2 Mi He
def d_write_state : DefD := ⟨("write_state", none), "write_state", "write_state", defArgs s_write_state, defBody s_write_state, defScope s_write_state, [], []⟩
def d_is_integer : DefD := ⟨("is_integer", none), "is_integer", "is_integer", defArgs s_is_integer, defBody s_is_integer, defScope s_is_integer, [], []⟩
def d_word_value : DefD := ⟨("word_value", none), "word_value", "word_value", defArgs s_word_value, defBody s_word_value, defScope s_word_value, [], []⟩
def d_word_stop : DefD := ⟨("word_stop", none), "word_stop", "word_stop", defArgs s_word_stop, defBody s_word_stop, defScope s_word_stop, [], []⟩
def d_Reading_init : DefD := ⟨("Reading", some "__init__"), "__init__", "Reading.__init__", defArgs s_Reading_init, defBody s_Reading_init, defScope s_Reading_init, [], []⟩
def d_Reading_fail : DefD := ⟨("Reading", some "fail"), "fail", "Reading.fail", defArgs s_Reading_fail, defBody s_Reading_fail, defScope s_Reading_fail, [], []⟩
def d_Reading_sign : DefD := ⟨("Reading", some "sign"), "sign", "Reading.sign", defArgs s_Reading_sign, defBody s_Reading_sign, defScope s_Reading_sign, [], []⟩
def d_Reading_enter : DefD := ⟨("Reading", some "enter"), "enter", "Reading.enter", defArgs s_Reading_enter, defBody s_Reading_enter, defScope s_Reading_enter, [], []⟩
def d_Reading_part : DefD := ⟨("Reading", some "part"), "part", "Reading.part", defArgs s_Reading_part, defBody s_Reading_part, defScope s_Reading_part, [], []⟩
def d_read_state : DefD := ⟨("read_state", none), "read_state", "read_state", defArgs s_read_state, defBody s_read_state, defScope s_read_state, [], []⟩
def d__law_begin : DefD := ⟨("_law_begin", none), "_law_begin", "_law_begin", defArgs s__law_begin, defBody s__law_begin, defScope s__law_begin, [], []⟩
def d__law_draw : DefD := ⟨("_law_draw", none), "_law_draw", "_law_draw", defArgs s__law_draw, defBody s__law_draw, defScope s__law_draw, [], []⟩
def d__law_pick : DefD := ⟨("_law_pick", none), "_law_pick", "_law_pick", defArgs s__law_pick, defBody s__law_pick, defScope s__law_pick, [], []⟩
def d__law_is_int : DefD := ⟨("_law_is_int", none), "_law_is_int", "_law_is_int", defArgs s__law_is_int, defBody s__law_is_int, defScope s__law_is_int, [], []⟩
def d__law_figures : DefD := ⟨("_law_figures", none), "_law_figures", "_law_figures", defArgs s__law_figures, defBody s__law_figures, defScope s__law_figures, [], []⟩
def d__law_word : DefD := ⟨("_law_word", none), "_law_word", "_law_word", defArgs s__law_word, defBody s__law_word, defScope s__law_word, [], []⟩
def d__law_meant : DefD := ⟨("_law_meant", none), "_law_meant", "_law_meant", defArgs s__law_meant, defBody s__law_meant, defScope s__law_meant, [], []⟩
def d__law_built : DefD := ⟨("_law_built", none), "_law_built", "_law_built", defArgs s__law_built, defBody s__law_built, defScope s__law_built, [], []⟩
def d__law_deep : DefD := ⟨("_law_deep", none), "_law_deep", "_law_deep", defArgs s__law_deep, defBody s__law_deep, defScope s__law_deep, [], []⟩
def d__law_read : DefD := ⟨("_law_read", none), "_law_read", "_law_read", defArgs s__law_read, defBody s__law_read, defScope s__law_read, [], []⟩
def d__law_same : DefD := ⟨("_law_same", none), "_law_same", "_law_same", defArgs s__law_same, defBody s__law_same, defScope s__law_same, [], []⟩
def d__law_asked : DefD := ⟨("_law_asked", none), "_law_asked", "_law_asked", defArgs s__law_asked, defBody s__law_asked, defScope s__law_asked, [], []⟩
def d__law_right : DefD := ⟨("_law_right", none), "_law_right", "_law_right", defArgs s__law_right, defBody s__law_right, defScope s__law_right, [], []⟩
def d__law_spoilt : DefD := ⟨("_law_spoilt", none), "_law_spoilt", "_law_spoilt", defArgs s__law_spoilt, defBody s__law_spoilt, defScope s__law_spoilt, [], []⟩
def d__law_long : DefD := ⟨("_law_long", none), "_law_long", "_law_long", defArgs s__law_long, defBody s__law_long, defScope s__law_long, [], []⟩
def d__law_long_right : DefD := ⟨("_law_long_right", none), "_law_long_right", "_law_long_right", defArgs s__law_long_right, defBody s__law_long_right, defScope s__law_long_right, [], []⟩
def d_law : DefD := ⟨("law", none), "law", "law", defArgs s_law, defBody s_law, defScope s_law, [], []⟩
def fnL : List DefD := [d_write_state, d_is_integer, d_word_value, d_word_stop, d_Reading_init, d_Reading_fail, d_Reading_sign, d_Reading_enter, d_Reading_part, d_read_state, d__law_begin, d__law_draw, d__law_pick, d__law_is_int, d__law_figures, d__law_word, d__law_meant, d__law_built, d__law_deep, d__law_read, d__law_same, d__law_asked, d__law_right, d__law_spoilt, d__law_long, d__law_long_right, d_law]
def x_NotRead_init : XDef := ⟨"NotRead", "NotRead.__init__", defArgs s_NotRead_init, defBody s_NotRead_init, defScope s_NotRead_init⟩
def x_TooLarge_init : XDef := ⟨"TooLarge", "TooLarge.__init__", defArgs s_TooLarge_init, defBody s_TooLarge_init, defScope s_TooLarge_init⟩
def xsL : List XDef := [x_NotRead_init, x_TooLarge_init]
def faL : List Fa := [.glo "write_state", .glo "is_integer", .glo "word_value", .glo "word_stop", .glo "read_state", .glo "_law_begin", .glo "_law_draw", .glo "_law_pick", .glo "_law_is_int", .glo "_law_figures", .glo "_law_word", .glo "_law_meant", .glo "_law_built", .glo "_law_deep", .glo "_law_read", .glo "_law_same", .glo "_law_asked", .glo "_law_right", .glo "_law_spoilt", .glo "_law_long", .glo "_law_long_right", .glo "law", .glo "Reading", .cls "Reading", .mkr "Reading", .noat "Reading" "text", .noat "Reading" "at", .noat "Reading" "opened", .noat "Reading" "fresh", .meth "Reading" "fail", .meth "Reading" "sign", .meth "Reading" "enter", .meth "Reading" "part", .glo "NotRead", .glo "TooLarge", .glo "AskError", .int "STATE_SIGNS" 100000, .int "STATE_DEPTH" 12, .str "DIGITS" "0123456789", .free "abs", .free "all", .free "bool", .free "int", .free "isinstance", .free "len", .free "range", .free "str", .free "super", .free "tuple"]
def exL (file : Str) (K : PySem.W.Frag) : List Bool := [supB file K "NotRead" "NotRead.__init__",
  supB file K "TooLarge" "TooLarge.__init__",
  oexAll K (ga K "NotRead"),
  eqO (PySem.W.findIn K (.ref (ga K "NotRead")) "__init__") (some (some (.ref (iAd K "NotRead")))),
  decide (PySem.W.typeIn K (.ref (iAd K "NotRead")) = some (.type "function")),
  eqO (PySem.W.findIn K (.ref (ga K "NotRead")) "line") (some none),
  eqO (PySem.W.findIn K (.ref (ga K "NotRead")) "column") (some none),
  oexAll K (ga K "TooLarge"),
  eqO (PySem.W.findIn K (.ref (ga K "TooLarge")) "__init__") (some (some (.ref (iAd K "TooLarge")))),
  decide (PySem.W.typeIn K (.ref (iAd K "TooLarge")) = some (.type "function")),
  eqO (PySem.W.findIn K (.ref (ga K "TooLarge")) "part") (some none),
  xcB K (ga K "NotRead"),
  xcB K (ga K "TooLarge"),
  xfB K (ga K "NotRead"),
  xfB K (ga K "TooLarge"),
  decide (PySem.W.exmOne K (.ref (ga K "NotRead")) (.ref (ga K "NotRead")) = some true),
  decide (PySem.W.exmOne K (.ref (ga K "TooLarge")) (.ref (ga K "NotRead")) = some false),
  decide (PySem.W.exmOne K (.ref (ga K "TooLarge")) (.ref (ga K "TooLarge")) = some true),
  decide (PySem.W.kitOne K (.ref (ga K "NotRead")) (.ref (ga K "TooLarge")) = some false),
  decide (PySem.W.kitOne K (.ref (ga K "TooLarge")) (.ref (ga K "AskError")) = some true)]
def exB (K : PySem.W.Frag) : Bool := allB (exL PySem.Challenge.pw_asknest_k76_state_texts.main.file K)
theorem fx {K : PySem.W.Frag} {h : Heap} {mg : Str → Option Value} (KX : K.In h) (G : h.Ns mainGlobals mg) (c : SaysM faL fnL xsL exB K) : ∃ T : Fx PySem.Challenge.pw_asknest_k76_state_texts K mg, True := by
  obtain ⟨fd0, F0⟩ := c.toD.def_ 0 (d := d_write_state) rfl
  obtain ⟨fd1, F1⟩ := c.toD.def_ 1 (d := d_is_integer) rfl
  obtain ⟨fd2, F2⟩ := c.toD.def_ 2 (d := d_word_value) rfl
  obtain ⟨fd3, F3⟩ := c.toD.def_ 3 (d := d_word_stop) rfl
  obtain ⟨fd4, F4⟩ := c.toD.def_ 4 (d := d_Reading_init) rfl
  obtain ⟨fd5, F5⟩ := c.toD.def_ 5 (d := d_Reading_fail) rfl
  obtain ⟨fd6, F6⟩ := c.toD.def_ 6 (d := d_Reading_sign) rfl
  obtain ⟨fd7, F7⟩ := c.toD.def_ 7 (d := d_Reading_enter) rfl
  obtain ⟨fd8, F8⟩ := c.toD.def_ 8 (d := d_Reading_part) rfl
  obtain ⟨fd9, F9⟩ := c.toD.def_ 9 (d := d_read_state) rfl
  obtain ⟨fd10, F10⟩ := c.toD.def_ 10 (d := d__law_begin) rfl
  obtain ⟨fd11, F11⟩ := c.toD.def_ 11 (d := d__law_draw) rfl
  obtain ⟨fd12, F12⟩ := c.toD.def_ 12 (d := d__law_pick) rfl
  obtain ⟨fd13, F13⟩ := c.toD.def_ 13 (d := d__law_is_int) rfl
  obtain ⟨fd14, F14⟩ := c.toD.def_ 14 (d := d__law_figures) rfl
  obtain ⟨fd15, F15⟩ := c.toD.def_ 15 (d := d__law_word) rfl
  obtain ⟨fd16, F16⟩ := c.toD.def_ 16 (d := d__law_meant) rfl
  obtain ⟨fd17, F17⟩ := c.toD.def_ 17 (d := d__law_built) rfl
  obtain ⟨fd18, F18⟩ := c.toD.def_ 18 (d := d__law_deep) rfl
  obtain ⟨fd19, F19⟩ := c.toD.def_ 19 (d := d__law_read) rfl
  obtain ⟨fd20, F20⟩ := c.toD.def_ 20 (d := d__law_same) rfl
  obtain ⟨fd21, F21⟩ := c.toD.def_ 21 (d := d__law_asked) rfl
  obtain ⟨fd22, F22⟩ := c.toD.def_ 22 (d := d__law_right) rfl
  obtain ⟨fd23, F23⟩ := c.toD.def_ 23 (d := d__law_spoilt) rfl
  obtain ⟨fd24, F24⟩ := c.toD.def_ 24 (d := d__law_long) rfl
  obtain ⟨fd25, F25⟩ := c.toD.def_ 25 (d := d__law_long_right) rfl
  obtain ⟨fd26, F26⟩ := c.toD.def_ 26 (d := d_law) rfl
  obtain ⟨xd0, cda0, cc0, oc0, od0, osl0, kV0, doc0, pm0, ct0, an0, X0⟩ := supB_ok (P := PySem.Challenge.pw_asknest_k76_state_texts) (d := x_NotRead_init) (by kernel_rfl) (allB_at c.more 0 rfl) (c.xd 0 rfl)
  have XD0 : ExD PySem.Challenge.pw_asknest_k76_state_texts K (ga K "NotRead") "__init__" "NotRead.__init__" s_NotRead_init (iAd K "NotRead") xd0 := ⟨cda0, cc0, oc0, od0, osl0, kV0, doc0, pm0, ct0, an0, X0⟩
  obtain ⟨xd1, cda1, cc1, oc1, od1, osl1, kV1, doc1, pm1, ct1, an1, X1⟩ := supB_ok (P := PySem.Challenge.pw_asknest_k76_state_texts) (d := x_TooLarge_init) (by kernel_rfl) (allB_at c.more 1 rfl) (c.xd 1 rfl)
  have XD1 : ExD PySem.Challenge.pw_asknest_k76_state_texts K (ga K "TooLarge") "__init__" "TooLarge.__init__" s_TooLarge_init (iAd K "TooLarge") xd1 := ⟨cda1, cc1, oc1, od1, osl1, kV1, doc1, pm1, ct1, an1, X1⟩
  obtain ⟨t_STATE_SIGNS, m_STATE_SIGNS⟩ := int_ok KX G (c.toD.fact 36 (f := .int "STATE_SIGNS" 100000) rfl)
  obtain ⟨t_STATE_DEPTH, m_STATE_DEPTH⟩ := int_ok KX G (c.toD.fact 37 (f := .int "STATE_DEPTH" 12) rfl)
  obtain ⟨t_DIGITS, m_DIGITS⟩ := str_ok KX G (c.toD.fact 38 (f := .str "DIGITS" "0123456789") rfl)
  exact ⟨{
    f_NotRead_init := iAd K "NotRead"
    fd_NotRead_init := xd0
    F_NotRead_init := XD0
    b_NotRead_init := XD0.binds fun _ _ _ _ _ _ _ us hl => match us, hl with | [_, _, _], _ => rfl
    f_TooLarge_init := iAd K "TooLarge"
    fd_TooLarge_init := xd1
    F_TooLarge_init := XD1
    b_TooLarge_init := XD1.binds fun _ _ _ _ _ _ _ us hl => match us, hl with | [_, _], _ => rfl
    f_write_state := fAd K d_write_state.at_
    fd_write_state := fd0
    F_write_state := funOf F0
    b_write_state := F0.bindsN fun _ _ _ _ _ _ us hl => match us, hl with | [_], _ => rfl
    g_write_state := glo_ok KX G (c.toD.fact 0 (f := .glo "write_state") rfl)
    f_is_integer := fAd K d_is_integer.at_
    fd_is_integer := fd1
    F_is_integer := funOf F1
    b_is_integer := F1.bindsN fun _ _ _ _ _ _ us hl => match us, hl with | [_], _ => rfl
    g_is_integer := glo_ok KX G (c.toD.fact 1 (f := .glo "is_integer") rfl)
    f_word_value := fAd K d_word_value.at_
    fd_word_value := fd2
    F_word_value := funOf F2
    b_word_value := F2.bindsN fun _ _ _ _ _ _ us hl => match us, hl with | [_], _ => rfl
    g_word_value := glo_ok KX G (c.toD.fact 2 (f := .glo "word_value") rfl)
    f_word_stop := fAd K d_word_stop.at_
    fd_word_stop := fd3
    F_word_stop := funOf F3
    b_word_stop := F3.bindsN fun _ _ _ _ _ _ us hl => match us, hl with | [_, _], _ => rfl
    g_word_stop := glo_ok KX G (c.toD.fact 3 (f := .glo "word_stop") rfl)
    f_Reading_init := fAd K d_Reading_init.at_
    fd_Reading_init := fd4
    F_Reading_init := funOf F4
    b_Reading_init := F4.bindsN fun _ _ _ _ _ _ us hl => match us, hl with | [_, _], _ => rfl
    f_Reading_fail := fAd K d_Reading_fail.at_
    fd_Reading_fail := fd5
    F_Reading_fail := funOf F5
    b_Reading_fail := F5.bindsN fun _ _ _ _ _ _ us hl => match us, hl with | [_], _ => rfl
    f_Reading_sign := fAd K d_Reading_sign.at_
    fd_Reading_sign := fd6
    F_Reading_sign := funOf F6
    b_Reading_sign := F6.bindsN fun _ _ _ _ _ _ us hl => match us, hl with | [_], _ => rfl
    f_Reading_enter := fAd K d_Reading_enter.at_
    fd_Reading_enter := fd7
    F_Reading_enter := funOf F7
    b_Reading_enter := F7.bindsN fun _ _ _ _ _ _ us hl => match us, hl with | [_], _ => rfl
    f_Reading_part := fAd K d_Reading_part.at_
    fd_Reading_part := fd8
    F_Reading_part := funOf F8
    b_Reading_part := F8.bindsN fun _ _ _ _ _ _ us hl => match us, hl with | [_], _ => rfl
    f_read_state := fAd K d_read_state.at_
    fd_read_state := fd9
    F_read_state := funOf F9
    b_read_state := F9.bindsN fun _ _ _ _ _ _ us hl => match us, hl with | [_], _ => rfl
    g_read_state := glo_ok KX G (c.toD.fact 4 (f := .glo "read_state") rfl)
    f__law_begin := fAd K d__law_begin.at_
    fd__law_begin := fd10
    F__law_begin := funOf F10
    b__law_begin := F10.bindsN fun _ _ _ _ _ _ us hl => match us, hl with | [_], _ => rfl
    g__law_begin := glo_ok KX G (c.toD.fact 5 (f := .glo "_law_begin") rfl)
    f__law_draw := fAd K d__law_draw.at_
    fd__law_draw := fd11
    F__law_draw := funOf F11
    b__law_draw := F11.bindsN fun _ _ _ _ _ _ us hl => match us, hl with | [_, _], _ => rfl
    g__law_draw := glo_ok KX G (c.toD.fact 6 (f := .glo "_law_draw") rfl)
    f__law_pick := fAd K d__law_pick.at_
    fd__law_pick := fd12
    F__law_pick := funOf F12
    b__law_pick := F12.bindsN fun _ _ _ _ _ _ us hl => match us, hl with | [_, _], _ => rfl
    g__law_pick := glo_ok KX G (c.toD.fact 7 (f := .glo "_law_pick") rfl)
    f__law_is_int := fAd K d__law_is_int.at_
    fd__law_is_int := fd13
    F__law_is_int := funOf F13
    b__law_is_int := F13.bindsN fun _ _ _ _ _ _ us hl => match us, hl with | [_], _ => rfl
    g__law_is_int := glo_ok KX G (c.toD.fact 8 (f := .glo "_law_is_int") rfl)
    f__law_figures := fAd K d__law_figures.at_
    fd__law_figures := fd14
    F__law_figures := funOf F14
    b__law_figures := F14.bindsN fun _ _ _ _ _ _ us hl => match us, hl with | [_, _], _ => rfl
    g__law_figures := glo_ok KX G (c.toD.fact 9 (f := .glo "_law_figures") rfl)
    f__law_word := fAd K d__law_word.at_
    fd__law_word := fd15
    F__law_word := funOf F15
    b__law_word := F15.bindsN fun _ _ _ _ _ _ us hl => match us, hl with | [_], _ => rfl
    g__law_word := glo_ok KX G (c.toD.fact 10 (f := .glo "_law_word") rfl)
    f__law_meant := fAd K d__law_meant.at_
    fd__law_meant := fd16
    F__law_meant := funOf F16
    b__law_meant := F16.bindsN fun _ _ _ _ _ _ us hl => match us, hl with | [_], _ => rfl
    g__law_meant := glo_ok KX G (c.toD.fact 11 (f := .glo "_law_meant") rfl)
    f__law_built := fAd K d__law_built.at_
    fd__law_built := fd17
    F__law_built := funOf F17
    b__law_built := F17.bindsN fun _ _ _ _ _ _ us hl => match us, hl with | [_, _, _], _ => rfl
    g__law_built := glo_ok KX G (c.toD.fact 12 (f := .glo "_law_built") rfl)
    f__law_deep := fAd K d__law_deep.at_
    fd__law_deep := fd18
    F__law_deep := funOf F18
    b__law_deep := F18.bindsN fun _ _ _ _ _ _ us hl => match us, hl with | [_, _], _ => rfl
    g__law_deep := glo_ok KX G (c.toD.fact 13 (f := .glo "_law_deep") rfl)
    f__law_read := fAd K d__law_read.at_
    fd__law_read := fd19
    F__law_read := funOf F19
    b__law_read := F19.bindsN fun _ _ _ _ _ _ us hl => match us, hl with | [_], _ => rfl
    g__law_read := glo_ok KX G (c.toD.fact 14 (f := .glo "_law_read") rfl)
    f__law_same := fAd K d__law_same.at_
    fd__law_same := fd20
    F__law_same := funOf F20
    b__law_same := F20.bindsN fun _ _ _ _ _ _ us hl => match us, hl with | [_, _], _ => rfl
    g__law_same := glo_ok KX G (c.toD.fact 15 (f := .glo "_law_same") rfl)
    f__law_asked := fAd K d__law_asked.at_
    fd__law_asked := fd21
    F__law_asked := funOf F21
    b__law_asked := F21.bindsN fun _ _ _ _ _ _ us hl => match us, hl with | [_], _ => rfl
    g__law_asked := glo_ok KX G (c.toD.fact 16 (f := .glo "_law_asked") rfl)
    f__law_right := fAd K d__law_right.at_
    fd__law_right := fd22
    F__law_right := funOf F22
    b__law_right := F22.bindsN fun _ _ _ _ _ _ us hl => match us, hl with | [_], _ => rfl
    g__law_right := glo_ok KX G (c.toD.fact 17 (f := .glo "_law_right") rfl)
    f__law_spoilt := fAd K d__law_spoilt.at_
    fd__law_spoilt := fd23
    F__law_spoilt := funOf F23
    b__law_spoilt := F23.bindsN fun _ _ _ _ _ _ us hl => match us, hl with | [_, _], _ => rfl
    g__law_spoilt := glo_ok KX G (c.toD.fact 18 (f := .glo "_law_spoilt") rfl)
    f__law_long := fAd K d__law_long.at_
    fd__law_long := fd24
    F__law_long := funOf F24
    b__law_long := F24.bindsN fun _ _ _ _ _ _ us hl => match us, hl with | [_, _], _ => rfl
    g__law_long := glo_ok KX G (c.toD.fact 19 (f := .glo "_law_long") rfl)
    f__law_long_right := fAd K d__law_long_right.at_
    fd__law_long_right := fd25
    F__law_long_right := funOf F25
    b__law_long_right := F25.bindsN fun _ _ _ _ _ _ us hl => match us, hl with | [_], _ => rfl
    g__law_long_right := glo_ok KX G (c.toD.fact 20 (f := .glo "_law_long_right") rfl)
    f_law := fAd K d_law.at_
    fd_law := fd26
    F_law := funOf F26
    b_law := F26.bindsN fun _ _ _ _ _ _ us hl => match us, hl with | [_], _ => rfl
    g_law := glo_ok KX G (c.toD.fact 21 (f := .glo "law") rfl)
    a_Reading := ga K "Reading"
    g_Reading := glo_ok KX G (c.toD.fact 22 (f := .glo "Reading") rfl)
    cl_Reading := cls_ok (c.toD.fact 23 (f := .cls "Reading") rfl)
    mk_Reading := mkr_ok (c.toD.fact 24 (f := .mkr "Reading") rfl)
    no_Reading_text := noat_ok (c.toD.fact 25 (f := .noat "Reading" "text") rfl)
    no_Reading_at := noat_ok (c.toD.fact 26 (f := .noat "Reading" "at") rfl)
    no_Reading_opened := noat_ok (c.toD.fact 27 (f := .noat "Reading" "opened") rfl)
    no_Reading_fresh := noat_ok (c.toD.fact 28 (f := .noat "Reading" "fresh") rfl)
    me_Reading_fail := meth_ok (c.toD.fact 29 (f := .meth "Reading" "fail") rfl)
    me_Reading_sign := meth_ok (c.toD.fact 30 (f := .meth "Reading" "sign") rfl)
    me_Reading_enter := meth_ok (c.toD.fact 31 (f := .meth "Reading" "enter") rfl)
    me_Reading_part := meth_ok (c.toD.fact 32 (f := .meth "Reading" "part") rfl)
    a_NotRead := ga K "NotRead"
    g_NotRead := glo_ok KX G (c.toD.fact 33 (f := .glo "NotRead") rfl)
    oex_NotRead := oexAll_ok (allB_at c.more 2 rfl)
    ini_NotRead := eqO_ok (allB_at c.more 3 rfl)
    ity_NotRead := of_decide_eq_true (allB_at c.more 4 rfl)
    xno_NotRead_line := eqO_ok (allB_at c.more 5 rfl)
    xno_NotRead_column := eqO_ok (allB_at c.more 6 rfl)
    a_TooLarge := ga K "TooLarge"
    g_TooLarge := glo_ok KX G (c.toD.fact 34 (f := .glo "TooLarge") rfl)
    oex_TooLarge := oexAll_ok (allB_at c.more 7 rfl)
    ini_TooLarge := eqO_ok (allB_at c.more 8 rfl)
    ity_TooLarge := of_decide_eq_true (allB_at c.more 9 rfl)
    xno_TooLarge_part := eqO_ok (allB_at c.more 10 rfl)
    a_AskError := ga K "AskError"
    g_AskError := glo_ok KX G (c.toD.fact 35 (f := .glo "AskError") rfl)
    v_STATE_SIGNS := .int 100000 t_STATE_SIGNS
    r_STATE_SIGNS := ⟨_, rfl⟩
    g_STATE_SIGNS := ⟨trivial, m_STATE_SIGNS⟩
    v_STATE_DEPTH := .int 12 t_STATE_DEPTH
    r_STATE_DEPTH := ⟨_, rfl⟩
    g_STATE_DEPTH := ⟨trivial, m_STATE_DEPTH⟩
    v_DIGITS := .str (Str.ofString "0123456789") t_DIGITS
    r_DIGITS := ⟨_, rfl⟩
    g_DIGITS := ⟨trivial, m_DIGITS⟩
    n_abs := free_ok KX G (c.toD.fact 39 (f := .free "abs") rfl)
    n_all := free_ok KX G (c.toD.fact 40 (f := .free "all") rfl)
    n_bool := free_ok KX G (c.toD.fact 41 (f := .free "bool") rfl)
    n_int := free_ok KX G (c.toD.fact 42 (f := .free "int") rfl)
    n_isinstance := free_ok KX G (c.toD.fact 43 (f := .free "isinstance") rfl)
    n_len := free_ok KX G (c.toD.fact 44 (f := .free "len") rfl)
    n_range := free_ok KX G (c.toD.fact 45 (f := .free "range") rfl)
    n_str := free_ok KX G (c.toD.fact 46 (f := .free "str") rfl)
    n_super := free_ok KX G (c.toD.fact 47 (f := .free "super") rfl)
    n_tuple := free_ok KX G (c.toD.fact 48 (f := .free "tuple") rfl)
    ba_law := fun s v => FunD.bindsA (ps := ["script"]) F26 (fun _ _ _ _ _ _ us hl => match us, hl with | [_], _ => rfl) s [v] rfl
    xc_NotRead := xcB_ok (allB_at c.more 11 rfl)
    xc_TooLarge := xcB_ok (allB_at c.more 12 rfl)
    xf_NotRead := xfB_ok (allB_at c.more 13 rfl)
    xf_TooLarge := xfB_ok (allB_at c.more 14 rfl)
    ex00 := of_decide_eq_true (allB_at c.more 15 rfl)
    ex10 := of_decide_eq_true (allB_at c.more 16 rfl)
    ex11 := of_decide_eq_true (allB_at c.more 17 rfl)
    k01 := of_decide_eq_true (allB_at c.more 18 rfl)
    k12 := of_decide_eq_true (allB_at c.more 19 rfl)
  }, trivial⟩
def nm0 : List Str := ["STATE_SIGNS", "STATE_DEPTH", "__name__", "AskError", "ValueError", "NotRead", "TooLarge", "DIGITS", "write_state", "is_integer", "word_value", "word_stop", "Reading", "read_state", "_law_begin", "_law_draw", "_law_pick", "_law_is_int", "_law_figures", "_law_word", "_law_meant", "_law_built", "_law_deep", "_law_read", "_law_same", "_law_asked", "_law_right", "_law_spoilt", "_law_long", "_law_long_right"]
def names : List Str := nm0
abbrev R : PySem.W.OpenRow := PySem.W.OpenLaw.row PySem.Challenge.rw_asknest_k76_state_texts
abbrev hk : PySem.W.Hook := hookM 5 faL fnL xsL exB
def ob (s : PySem.W.SharedT) : AlM × Bool := obsMG 5 faL fnL xsL exB (HandSHeadRun.getT s)
theorem ob_eq (s : PySem.W.SharedT) : ob s = hk.obs s.abs := obsMG_eq (HandSHeadRun.getT_eq s)
theorem run (w : World) : HandSHeadRun.RunEq R (PySem.W.view R.prog [31]) hk ob 4000 names w := by
  intro os
  kernel_rfl
end K76
open PySem PySem.W PySem.Calls PyProof.Rows
theorem PySem.Challenge.cw_asknest_k76_state_texts_holds : PySem.Challenge.rw_asknest_k76_state_texts.Holds := by
  w_on; o_law
  refine HandSHeadRun.head_any (r := OpenLaw.row PySem.Challenge.rw_asknest_k76_state_texts) (q := view (OpenLaw.row PySem.Challenge.rw_asknest_k76_state_texts).prog [31]) (H := K76.hk) (ob := K76.ob) (M := 4000) (loose := K76.names) (d := HandSHeadRun.topDef (OpenLaw.row PySem.Challenge.rw_asknest_k76_state_texts).prog 31) (kwd := []) K76.ob_eq
    (by kernel_rfl) (fun s => by kernel_rfl) K76.run (by kernel_rfl) (by kernel_rfl) (by kernel_rfl) (by rfl) (by first | assumption | decide +kernel) (by decide +kernel) ⟨rfl, rfl, rfl, rfl, rfl, by decide +kernel⟩ ?hw ?hc
  case hw => w_witness2
  case hc =>
    refine K76.walk_end (l := PySem.Challenge.rw_asknest_k76_state_texts) (by kernel_rfl) ?F
    intro w mg fa h Y G hmg0
    obtain ⟨K, KX, c⟩ := Y
    have hmg : mg ("law" : PySem.Str) = some (.ref fa) := by
      have e : (HandSHeadRun.topDef (OpenLaw.row PySem.Challenge.rw_asknest_k76_state_texts).prog 31).name = ("law" : PySem.Str) := by kernel_rfl
      rw [← e]
      exact hmg0
    obtain ⟨T, _⟩ := K76.fx KX G c
    exact ⟨K, T, KX, Value.ref.inj (Option.some.inj (hmg.symm.trans T.g_law))⟩
end
