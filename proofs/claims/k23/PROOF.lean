import PyProof.Rows.All
import Wide.All
import OpenK.AllK
import Wide.FinOn
import HandS.ForMost
import HandS.ForExc
import HandS.IsInst
import HandS.TupAny
import HandS.TupLe
import HandS.Small
import HandS.Text
import HandS.Conv
import HandS.SortInts
import HandS.More
import HandS.ExcIs
import HandS.Strs
import HandS.SetFor
import PyProof.ReprRoads
import HandS.SortKw
import KE.DataMinMax
import HandS.HotCalls
import HandS.Zip
import HandS.Style
import PySem.Challenge.RW_waitloom_k23_things_kept
set_option Elab.async false
set_option linter.all false
set_option maxRecDepth 100000
set_option autoImplicit false
/-! ML: a layer of plain functions over HandS. A def of the text is mirrored by a function over plain data D and a store of cells; the canonical reading (tE, tB, ..) says that the code does what the function does. -/
namespace ML
open PySem PySem.Spec L2

/-! ### plain data -/
inductive D where
  | non | bl (b : Bool) | int (i : Int) | str (x : Str) | tup (xs : List D) | lis (xs : List D) | ref (n : Nat) | exn (a : Addr)
inductive Cell where
  | lst (xs : List D)
  | dct (kvs : List (Key × D))
  | dlk (kvs : List (Key × D))
  | ins (c : Nat) (fs : List (Str × D))
abbrev Store := List Cell
abbrev Loc := List (Option D)
structure Exn where
  c : Nat
  fs : List (Str × D)
inductive R (α : Type) where
  | ok (a : α) (S : Store)
  | ex (x : Exn) (S : Store)
  | bad
def R.bind {α β : Type} (r : R α) (f : α → Store → R β) : R β := match r with
  | .ok a S => f a S
  | .ex x S => .ex x S
  | .bad => .bad
@[simp] theorem R.bind_ok {α β : Type} (a : α) (S : Store) (f : α → Store → R β) : (R.ok a S).bind f = f a S := (rfl)
@[simp] theorem R.bind_ex {α β : Type} (x : Exn) (S : Store) (f : α → Store → R β) : (R.ex x S).bind f = .ex x S := (rfl)
@[simp] theorem R.bind_bad {α β : Type} (f : α → Store → R β) : (R.bad : R α).bind f = .bad := (rfl)
theorem R.bind_assoc {α β γ : Type} (r : R α) (f : α → Store → R β) (g : β → Store → R γ) : (r.bind f).bind g = r.bind fun a S => (f a S).bind g := by
  cases r <;> rfl

/-! ### how plain data lies in the abstract heap -/
/-- a list that is never written: the script -/
def FrL (K : PySem.W.Frag) (H : Hp) (a : Addr) (vs : List V) : Prop :=
  (∃ o, H a = some (.frz o (.lst vs))) ∨
    ∃ (o : Obj) (its : Array Value) (n : Nat), K.lookup a = some o ∧ o.cls = .type "list" ∧ o.dict = none ∧ o.data = .seq its n ∧ its.size ≤ sizeLine ∧ Vals vs its.toList
theorem FrL.sq {K : PySem.W.Frag} {H : Hp} {a : Addr} {vs : List V} (h : FrL K H a vs) : SqL K H a vs := by
  rcases h with ⟨o, h⟩ | h
  · exact .inl (.inr ⟨o, h⟩)
  · exact .inr h
mutual
def RepV (K : PySem.W.Frag) (ρ : List Addr) (H : Hp) : D → V → Prop
  | .non, v => v = .non
  | .bl b, v => v = .bl b
  | .int i, v => v = .int i
  | .str x, v => v = .str x
  | .tup xs, v => ∃ a vs, v = .ref a ∧ SqT K H a vs ∧ RepVs K ρ H xs vs
  | .lis xs, v => ∃ a vs, v = .ref a ∧ FrL K H a vs ∧ RepVs K ρ H xs vs
  | .ref n, v => ∃ a, ρ[n]? = some a ∧ v = .ref a
  | .exn a, v => v = .ref a
def RepVs (K : PySem.W.Frag) (ρ : List Addr) (H : Hp) : List D → List V → Prop
  | [], vs => vs = []
  | x :: xs, vs => ∃ v r, vs = v :: r ∧ RepV K ρ H x v ∧ RepVs K ρ H xs r
end
def RepP (K : PySem.W.Frag) (ρ : List Addr) (H : Hp) {κ : Type} : List (κ × D) → List (κ × V) → Prop
  | [], ps => ps = []
  | (k, x) :: r, ps => ∃ v q, ps = (k, v) :: q ∧ RepV K ρ H x v ∧ RepP K ρ H r q
def RepC (K : PySem.W.Frag) (cA : Nat → Addr) (ρ : List Addr) (H : Hp) (c : Cell) (a : Addr) : Prop := match c with
  | .lst xs => ∃ vs, H a = some (.lst vs) ∧ RepVs K ρ H xs vs
  | .dct kvs => ∃ ps, H a = some (.dK ps) ∧ RepP K ρ H kvs ps
  | .dlk kvs => ∃ o ps, H a = some (.frz o (.dK ps)) ∧ RepP K ρ H kvs ps
  | .ins c fs => ∃ dx ps, H a = some (.ins (cA c) dx ps) ∧ RepP K ρ H fs ps
structure Reps (K : PySem.W.Frag) (cA : Nat → Addr) (ρ : List Addr) (H : Hp) (S : Store) : Prop where
  len : ρ.length = S.length
  nd : ρ.Nodup
  at_ : ∀ (n : Nat) (c : Cell) (a : Addr), S[n]? = some c → ρ[n]? = some a → RepC K cA ρ H c a
def RepX (K : PySem.W.Frag) (cA : Nat → Addr) (ρ : List Addr) (H : Hp) (x : Exn) (c : Value) (d : Option Addr) : Prop :=
  c = .ref (cA x.c) ∧ ((x.fs = [] ∧ d = none) ∨ x.fs ≠ [] ∧ ∃ a ps, d = some a ∧ H a = some (.xd ps) ∧ RepP K ρ H x.fs ps)
structure RepL (K : PySem.W.Frag) (ρ : List Addr) (H : Hp) (l : Loc) (σ : St) : Prop where
  len : l.length = σ.length
  at_ : ∀ (i : Nat) (d : D), l[i]? = some (some d) → ∃ v, σ[i]? = some (some v) ∧ RepV K ρ H d v
/-- what may have happened -/
structure Ext (ρ : List Addr) (H : Hp) (ρ' : List Addr) (H' : Hp) : Prop where
  pre : ∃ r, ρ' = ρ ++ r ∧ ∀ a ∈ r, H a = none
  keep : ∀ a o, H a = some o → a ∉ ρ → H' a = some o
  tups : ∀ a xs, Rd H a (.tup xs) → Rd H' a (.tup xs)
  frzs : ∀ a o xs, H a = some (.frz o (.lst xs)) → H' a = some (.frz o (.lst xs))
  there : ∀ a, H a ≠ none → H' a ≠ none
theorem Ext.refl (ρ : List Addr) (H : Hp) : Ext ρ H ρ H := ⟨⟨[], by simp, fun _ h => nomatch h⟩, fun _ _ h _ => h, fun _ _ h => h, fun _ _ _ h => h, fun _ h => h⟩
theorem Ext.trans {ρ ρ1 ρ2 : List Addr} {H H1 H2 : Hp} (a : Ext ρ H ρ1 H1) (b : Ext ρ1 H1 ρ2 H2) : Ext ρ H ρ2 H2 := by
  obtain ⟨r1, e1, n1⟩ := a.pre
  obtain ⟨r2, e2, n2⟩ := b.pre
  refine ⟨⟨r1 ++ r2, by rw [e2, e1, List.append_assoc], fun x hx => ?_⟩, fun x o h nx => ?_, fun x xs h => b.tups x xs (a.tups x xs h), fun x o xs h => b.frzs x o xs (a.frzs x o xs h), fun x h => b.there x (a.there x h)⟩
  · rcases List.mem_append.mp hx with h | h
    · exact n1 x h
    · have q := n2 x h
      cases e : H x with
      | none => rfl
      | some o => exact absurd q (a.there x (by rw [e]; simp))
  · refine b.keep x o (a.keep x o h nx) fun hx => ?_
    rw [e1] at hx
    rcases List.mem_append.mp hx with q | q
    · exact nx q
    · have := n1 x q
      rw [h] at this
      cases this
theorem SqT.ext {K : PySem.W.Frag} {ρ ρ' : List Addr} {H H' : Hp} {a : Addr} {vs : List V} (e : Ext ρ H ρ' H') (h : SqT K H a vs) : SqT K H' a vs := by
  rcases h with h | h
  · exact .inl (e.tups a vs h)
  · exact .inr h
theorem FrL.ext {K : PySem.W.Frag} {ρ ρ' : List Addr} {H H' : Hp} {a : Addr} {vs : List V} (e : Ext ρ H ρ' H') (h : FrL K H a vs) : FrL K H' a vs := by
  rcases h with ⟨o, h⟩ | h
  · exact .inl ⟨o, e.frzs a o vs h⟩
  · exact .inr h
mutual
theorem RepV.ext {K : PySem.W.Frag} {ρ ρ' : List Addr} {H H' : Hp} (e : Ext ρ H ρ' H') : ∀ {d : D} {v : V}, RepV K ρ H d v → RepV K ρ' H' d v
  | .non, _, h => h
  | .bl _, _, h => h
  | .int _, _, h => h
  | .str _, _, h => h
  | .tup xs, v, h => by
    unfold RepV at h ⊢
    obtain ⟨a, vs, ev, hs, hr⟩ := h
    exact ⟨a, vs, ev, SqT.ext e hs, RepVs.ext e hr⟩
  | .lis xs, v, h => by
    unfold RepV at h ⊢
    obtain ⟨a, vs, ev, hs, hr⟩ := h
    exact ⟨a, vs, ev, hs.ext e, RepVs.ext e hr⟩
  | .ref n, v, h => by
    unfold RepV at h ⊢
    obtain ⟨a, ha, ev⟩ := h
    obtain ⟨r, er, _⟩ := e.pre
    refine ⟨a, ?_, ev⟩
    rw [er]
    have hn : n < ρ.length := (List.getElem?_eq_some_iff.mp ha).1
    rw [List.getElem?_append_left hn]
    exact ha
  | .exn _, _, h => h
theorem RepVs.ext {K : PySem.W.Frag} {ρ ρ' : List Addr} {H H' : Hp} (e : Ext ρ H ρ' H') : ∀ {ds : List D} {vs : List V}, RepVs K ρ H ds vs → RepVs K ρ' H' ds vs
  | [], _, h => h
  | x :: xs, vs, h => by
    unfold RepVs at h ⊢
    obtain ⟨v, r, ev, h1, h2⟩ := h
    exact ⟨v, r, ev, RepV.ext e h1, RepVs.ext e h2⟩
end
theorem RepP.ext {K : PySem.W.Frag} {ρ ρ' : List Addr} {H H' : Hp} (e : Ext ρ H ρ' H') {κ : Type} : ∀ {kvs : List (κ × D)} {ps : List (κ × V)}, RepP K ρ H kvs ps → RepP K ρ' H' kvs ps
  | [], _, h => h
  | (k, x) :: r, ps, h => by
    unfold RepP at h ⊢
    obtain ⟨v, q, ev, h1, h2⟩ := h
    exact ⟨v, q, ev, h1.ext e, RepP.ext e h2⟩
theorem RepL.ext {K : PySem.W.Frag} {ρ ρ' : List Addr} {H H' : Hp} {l : Loc} {σ : St} (e : Ext ρ H ρ' H') (h : RepL K ρ H l σ) : RepL K ρ' H' l σ :=
  ⟨h.len, fun i d hd => let ⟨v, hv, r⟩ := h.at_ i d hd; ⟨v, hv, r.ext e⟩⟩
/-- a cell that is untouched -/
theorem RepC.ext {K : PySem.W.Frag} {cA : Nat → Addr} {ρ ρ' : List Addr} {H H' : Hp} {c : Cell} {a : Addr} (e : Ext ρ H ρ' H') (same : H' a = H a) (h : RepC K cA ρ H c a) : RepC K cA ρ' H' c a := by
  cases c with
  | lst xs => obtain ⟨vs, h1, h2⟩ := h; exact ⟨vs, same.trans h1, h2.ext e⟩
  | dct kvs => obtain ⟨ps, h1, h2⟩ := h; exact ⟨ps, same.trans h1, h2.ext e⟩
  | dlk kvs => obtain ⟨o, ps, h1, h2⟩ := h; exact ⟨o, ps, same.trans h1, h2.ext e⟩
  | ins c fs => obtain ⟨dx, ps, h1, h2⟩ := h; exact ⟨dx, ps, same.trans h1, h2.ext e⟩
theorem RepC.there {K : PySem.W.Frag} {cA : Nat → Addr} {ρ : List Addr} {H : Hp} {c : Cell} {a : Addr} (h : RepC K cA ρ H c a) : ∃ o, H a = some o ∧ ∀ xs, o ≠ .tup xs ∧ ∀ u, o ≠ .frz u (.tup xs) ∧ o ≠ .frz u (.lst xs) := by
  cases c with
  | lst xs => obtain ⟨vs, h1, h2⟩ := h; exact ⟨_, h1, fun _ => ⟨(nomatch ·), fun _ => ⟨(nomatch ·), (nomatch ·)⟩⟩⟩
  | dct kvs => obtain ⟨ps, h1, h2⟩ := h; exact ⟨_, h1, fun _ => ⟨(nomatch ·), fun _ => ⟨(nomatch ·), (nomatch ·)⟩⟩⟩
  | dlk kvs => obtain ⟨o, ps, h1, h2⟩ := h; exact ⟨_, h1, fun _ => ⟨(nomatch ·), fun _ => ⟨(nomatch ·), (nomatch ·)⟩⟩⟩
  | ins c fs => obtain ⟨dx, ps, h1, h2⟩ := h; exact ⟨_, h1, fun _ => ⟨(nomatch ·), fun _ => ⟨(nomatch ·), (nomatch ·)⟩⟩⟩
section
variable {K : PySem.W.Frag} {cA : Nat → Addr} {ρ : List Addr} {H : Hp} {S : Store}
theorem Reps.get (h : Reps K cA ρ H S) {n : Nat} {c : Cell} (e : S[n]? = some c) : ∃ a, ρ[n]? = some a ∧ RepC K cA ρ H c a := by
  have hn : n < S.length := (List.getElem?_eq_some_iff.mp e).1
  have hr : n < ρ.length := by rw [h.len]; exact hn
  exact ⟨ρ[n], List.getElem?_eq_getElem hr, h.at_ n c _ e (List.getElem?_eq_getElem hr)⟩
theorem Reps.mem (h : Reps K cA ρ H S) {a : Addr} (ha : a ∈ ρ) : ∃ o, H a = some o ∧ ∀ xs, o ≠ .tup xs ∧ ∀ u, o ≠ .frz u (.tup xs) ∧ o ≠ .frz u (.lst xs) := by
  obtain ⟨n, hn⟩ := List.getElem?_of_mem ha
  have hl : n < S.length := by rw [← h.len]; exact (List.getElem?_eq_some_iff.mp hn).1
  exact (h.at_ n _ a (List.getElem?_eq_getElem hl) hn).there
/-- a new tracked thing outside of the store -/
theorem Ext.new {p : Addr} {o : HO} (hp : H p = none) : Ext ρ H ρ (upd H p o) := by
  have ne : ∀ {a u}, H a = some u → a ≠ p := fun h => ne_of_none h hp
  refine ⟨⟨[], by simp, fun _ h => nomatch h⟩, fun a u h _ => by rw [upd_ne (ne h)]; exact h, fun a xs h => ?_, fun a u xs h => by rw [upd_ne (ne h)]; exact h, fun a h => ?_⟩
  · rcases h with h | ⟨u, h⟩
    · exact .inl (by rw [upd_ne (ne h)]; exact h)
    · exact .inr ⟨u, by rw [upd_ne (ne h)]; exact h⟩
  · by_cases e : a = p
    · subst e; exact absurd hp h
    · rw [upd_ne e]; exact h
theorem Reps.new (h : Reps K cA ρ H S) {p : Addr} {o : HO} (hp : H p = none) : Reps K cA ρ (upd H p o) S :=
  ⟨h.len, h.nd, fun n c a hc ha => (h.at_ n c a hc ha).ext (Ext.new hp) (by
    obtain ⟨u, hu, _⟩ := (h.at_ n c a hc ha).there
    rw [upd_ne (ne_of_none hu hp)])⟩
/-- a tracked thing outside of the store is changed (a list that is being built) -/
theorem Reps.other (h : Reps K cA ρ H S) {H' : Hp} (e : Ext ρ H ρ H') (same : ∀ a ∈ ρ, H' a = H a) : Reps K cA ρ H' S :=
  ⟨h.len, h.nd, fun n c a hc ha => (h.at_ n c a hc ha).ext e (same a (List.mem_of_getElem? ha))⟩
/-- a thing is taken into the store -/
theorem Ext.alloc {p : Addr} {o : HO} (hp : H p = none) : Ext ρ H (ρ ++ [p]) (upd H p o) := by
  have x := Ext.new (ρ := ρ) (o := o) hp
  exact ⟨⟨[p], rfl, fun a h => by have e : a = p := by simpa using h
                                  rw [e]; exact hp⟩, x.keep, x.tups, x.frzs, x.there⟩
theorem Ext.take {H' : Hp} {ρ' : List Addr} {p : Addr} (e : Ext ρ H ρ' H') (hp : H p = none) : Ext ρ H (ρ' ++ [p]) H' := by
  obtain ⟨r, er, nr⟩ := e.pre
  refine ⟨⟨r ++ [p], by rw [er, List.append_assoc], fun a h => ?_⟩, e.keep, e.tups, e.frzs, e.there⟩
  rcases List.mem_append.mp h with h | h
  · exact nr a h
  · have q : a = p := by simpa using h
    rw [q]; exact hp
theorem Ext.grow {p : Addr} : (∀ a, H a ≠ none → H a ≠ none) → H p = none → Ext ρ H (ρ ++ [p]) H := fun _ hp => (Ext.refl ρ H).take hp
end
mutual
/-- data over a store that has grown -/
theorem RepV.grow {K : PySem.W.Frag} {ρ r : List Addr} {H : Hp} : ∀ {d : D} {v : V}, RepV K ρ H d v → RepV K (ρ ++ r) H d v
  | .non, _, h => h
  | .bl _, _, h => h
  | .int _, _, h => h
  | .str _, _, h => h
  | .tup xs, v, h => by
    unfold RepV at h ⊢
    obtain ⟨a, vs, ev, hs, hr⟩ := h
    exact ⟨a, vs, ev, hs, RepVs.grow hr⟩
  | .lis xs, v, h => by
    unfold RepV at h ⊢
    obtain ⟨a, vs, ev, hs, hr⟩ := h
    exact ⟨a, vs, ev, hs, RepVs.grow hr⟩
  | .ref n, v, h => by
    unfold RepV at h ⊢
    obtain ⟨a, ha, ev⟩ := h
    refine ⟨a, ?_, ev⟩
    rw [List.getElem?_append_left (List.getElem?_eq_some_iff.mp ha).1]
    exact ha
  | .exn _, _, h => h
theorem RepVs.grow {K : PySem.W.Frag} {ρ r : List Addr} {H : Hp} : ∀ {ds : List D} {vs : List V}, RepVs K ρ H ds vs → RepVs K (ρ ++ r) H ds vs
  | [], _, h => h
  | x :: xs, vs, h => by
    unfold RepVs at h ⊢
    obtain ⟨v, q, ev, h1, h2⟩ := h
    exact ⟨v, q, ev, RepV.grow h1, RepVs.grow h2⟩
end
theorem RepP.grow {K : PySem.W.Frag} {ρ r : List Addr} {H : Hp} {κ : Type} : ∀ {kvs : List (κ × D)} {ps : List (κ × V)}, RepP K ρ H kvs ps → RepP K (ρ ++ r) H kvs ps
  | [], _, h => h
  | (k, x) :: q, ps, h => by
    unfold RepP at h ⊢
    obtain ⟨v, q, ev, h1, h2⟩ := h
    exact ⟨v, q, ev, h1.grow, RepP.grow h2⟩
section
variable {K : PySem.W.Frag} {cA : Nat → Addr} {ρ : List Addr} {H : Hp} {S : Store}
theorem RepC.grow {r : List Addr} {c : Cell} {a : Addr} (h : RepC K cA ρ H c a) : RepC K cA (ρ ++ r) H c a := by
  cases c with
  | lst xs => obtain ⟨vs, h1, h2⟩ := h; exact ⟨vs, h1, h2.grow⟩
  | dct kvs => obtain ⟨ps, h1, h2⟩ := h; exact ⟨ps, h1, h2.grow⟩
  | dlk kvs => obtain ⟨o, ps, h1, h2⟩ := h; exact ⟨o, ps, h1, h2.grow⟩
  | ins c fs => obtain ⟨dx, ps, h1, h2⟩ := h; exact ⟨dx, ps, h1, h2.grow⟩
/-- a cell is laid behind the store -/
theorem Reps.push (h : Reps K cA ρ H S) {p : Addr} {c : Cell} (hn : p ∉ ρ) (hc : RepC K cA ρ H c p) : Reps K cA (ρ ++ [p]) H (S ++ [c]) := by
  refine ⟨by rw [List.length_append, List.length_append, h.len]; rfl, List.nodup_append.mpr ⟨h.nd, by simp, fun a ha b hb => ?_⟩, fun n c' a hc' ha => ?_⟩
  · have e : b = p := by simpa using hb
    rintro rfl
    rw [← e] at hn
    exact hn ha
  · by_cases q : n < S.length
    · rw [List.getElem?_append_left q] at hc'
      rw [List.getElem?_append_left (by rw [h.len]; exact q)] at ha
      exact (h.at_ n c' a hc' ha).grow
    · have hq : n = S.length := by
        have := (List.getElem?_eq_some_iff.mp hc').1
        rw [List.length_append] at this
        simp only [List.length_cons, List.length_nil] at this
        omega
      rw [hq, List.getElem?_append_right (Nat.le_refl _)] at hc'
      rw [hq, List.getElem?_append_right (by rw [h.len]; exact Nat.le_refl _), h.len] at ha
      simp at hc' ha
      subst hc' ha
      exact hc.grow
/-- a cell is written -/
theorem Ext.write {n : Nat} {a : Addr} {o u : HO} (ha : ρ[n]? = some a) (hu : H a = some u) (mu : Mut (some u)) : Ext ρ H ρ (upd H a o) := by
  refine ⟨⟨[], by simp, fun _ h => nomatch h⟩, fun b q h nb => ?_, fun b xs h => ?_, fun b q xs h => ?_, fun b h => ?_⟩
  · have ne : b ≠ a := fun e => nb (by rw [e]; exact List.mem_of_getElem? ha)
    rw [upd_ne ne]; exact h
  · have ne : b ≠ a := by
      rintro rfl
      rcases h with h | ⟨v, h⟩ <;> (rw [h] at hu; cases hu; exact mu)
    rcases h with h | ⟨v, h⟩
    · exact .inl (by rw [upd_ne ne]; exact h)
    · exact .inr ⟨v, by rw [upd_ne ne]; exact h⟩
  · have ne : b ≠ a := by
      rintro rfl
      rw [h] at hu; cases hu; exact mu
    rw [upd_ne ne]; exact h
  · by_cases e : b = a
    · rw [e, upd_same]; simp
    · rw [upd_ne e]; exact h
theorem Reps.write (h : Reps K cA ρ H S) {n : Nat} {a : Addr} {o u : HO} {c : Cell} (ha : ρ[n]? = some a) (hu : H a = some u) (mu : Mut (some u)) (hc : RepC K cA ρ (upd H a o) c a) : Reps K cA ρ (upd H a o) (S.set n c) := by
  have e : Ext ρ H ρ (upd H a o) := Ext.write ha hu mu
  refine ⟨by rw [List.length_set]; exact h.len, h.nd, fun m c' b hc' hb => ?_⟩
  by_cases q : m = n
  · subst q
    rw [ha] at hb
    cases hb
    have hm : m < S.length := by
      have := (List.getElem?_eq_some_iff.mp hc').1
      rwa [List.length_set] at this
    rw [List.getElem?_set_self hm] at hc'
    cases hc'
    exact hc
  · rw [List.getElem?_set_ne (Ne.symm q)] at hc'
    have ne : b ≠ a := by
      rintro rfl
      exact q (nodup_ix' h.nd hb ha)
    exact (h.at_ m c' b hc' hb).ext e (upd_ne ne)
where
  nodup_ix' {N : List Addr} (hN : N.Nodup) {i j : Nat} {x : Addr} (a : N[i]? = some x) (b : N[j]? = some x) : i = j := by
    obtain ⟨h1, e1⟩ := List.getElem?_eq_some_iff.mp a
    obtain ⟨h2, e2⟩ := List.getElem?_eq_some_iff.mp b
    exact (List.getElem_inj hN).mp (e1.trans e2.symm)
end

/-! ### the canonical reading -/
section
variable {α β : Type}
abbrev Rel (α β : Type) := Hp → List Addr → Hp → α → β → Prop
def After (K : PySem.W.Frag) (cA : Nat → Addr) (W : XK) (ρ : List Addr) (H : Hp) (rep : Rel α β) (r : R α) (Q : β → Hp → Prop) : Prop := match r with
  | .ok a S => ∀ ρ' H' b, Ext ρ H ρ' H' → Reps K cA ρ' H' S → rep H ρ' H' a b → Q b H'
  | .ex x S => ∀ ρ' H' c d, Ext ρ H ρ' H' → Reps K cA ρ' H' S → RepX K cA ρ' H' x c d → W c d H'
  | .bad => False
variable {K : PySem.W.Frag} {cA : Nat → Addr} {W : XK} {ρ ρ0 : List Addr} {H H0 : Hp}
theorem After.imp {rep : Rel α β} {r : R α} {Q Q' : β → Hp → Prop} (h : After K cA W ρ H rep r Q) (q : ∀ b H', Q b H' → Q' b H') : After K cA W ρ H rep r Q' := by
  cases r with
  | ok a S => exact fun ρ' H' b e hs hr => q b H' (h ρ' H' b e hs hr)
  | ex x S => exact h
  | bad => exact h
/-- what a relation must bear: it may be told of an earlier heap -/
def Stable (rep : Rel α β) : Prop := ∀ (ρ : List Addr) (H : Hp) (ρ1 : List Addr) (H1 : Hp) (ρ' : List Addr) (H' : Hp) (a : α) (b : β), Ext ρ H ρ1 H1 → rep H1 ρ' H' a b → rep H ρ' H' a b
theorem After.back {rep : Rel α β} (st : Stable rep) {r : R α} {Q : β → Hp → Prop} (e : Ext ρ0 H0 ρ H) (h : After K cA W ρ0 H0 rep r Q) : After K cA W ρ H rep r Q := by
  cases r with
  | ok a S => exact fun ρ' H' b e' hs hr => h ρ' H' b (e.trans e') hs (st _ _ _ _ _ _ _ _ e hr)
  | ex x S => exact fun ρ' H' c d e' hs hr => h ρ' H' c d (e.trans e') hs hr
  | bad => exact h
/-- one thing, then another -/
theorem After.bind {γ δ : Type} {rep : Rel α β} {rep' : Rel γ δ} (st : Stable rep') {r : R α} {f : α → Store → R γ} {Q : δ → Hp → Prop} (h : After K cA W ρ H rep' (r.bind f) Q) :
    After K cA W ρ H rep r fun b H1 => ∃ ρ1 S1 a, Ext ρ H ρ1 H1 ∧ Reps K cA ρ1 H1 S1 ∧ rep H ρ1 H1 a b ∧ After K cA W ρ1 H1 rep' (f a S1) Q := by
  cases r with
  | ok a S => exact fun ρ' H' b e hs hr => ⟨ρ', S, a, e, hs, hr, h.back st e⟩
  | ex x S => exact h
  | bad => exact h
end
/-- the relations -/
abbrev rV (K : PySem.W.Frag) : Rel D V := fun _ ρ H d v => RepV K ρ H d v
abbrev rVs (K : PySem.W.Frag) : Rel (List D) (List V) := fun _ ρ H d v => RepVs K ρ H d v
abbrev rId {α : Type} : Rel α α := fun _ _ _ a b => a = b
/-- a new list that nobody else has -/
def rNew (K : PySem.W.Frag) : Rel (List D) V := fun H0 ρ H ds v => ∃ p vs, v = .ref p ∧ H0 p = none ∧ p ∉ ρ ∧ H p = some (.lst vs) ∧ RepVs K ρ H ds vs
theorem st_V {K : PySem.W.Frag} : Stable (rV K) := fun _ _ _ _ _ _ _ _ _ h => h
theorem st_Vs {K : PySem.W.Frag} : Stable (rVs K) := fun _ _ _ _ _ _ _ _ _ h => h
theorem st_Id {α : Type} : Stable (rId (α := α)) := fun _ _ _ _ _ _ _ _ _ h => h
theorem st_New {K : PySem.W.Frag} : Stable (rNew K) := fun ρ H ρ1 H1 ρ' H' a b e h => by
  obtain ⟨p, vs, ev, h0, h1, h2, h3⟩ := h
  refine ⟨p, vs, ev, ?_, h1, h2, h3⟩
  cases q : H p with
  | none => rfl
  | some o => exact absurd h0 (e.there p (by rw [q]; simp))
section
variable {α β : Type}
def tG (K : PySem.W.Frag) (cA : Nat → Addr) (W : XK) (rep : Rel α β) (m : Loc → Store → R α) : St → Hp → (β → Hp → Prop) → Prop := fun σ H Q =>
  ∃ ρ S l, Reps K cA ρ H S ∧ RepL K ρ H l σ ∧ After K cA W ρ H rep (m l S) Q
end
abbrev ME := Loc → Store → R D
abbrev MB := Loc → Store → R Bool
abbrev MA := Loc → Store → R (List D)
abbrev tE (K : PySem.W.Frag) (cA : Nat → Addr) (W : XK) (m : ME) : TE := tG K cA W (rV K) m
abbrev tT (K : PySem.W.Frag) (cA : Nat → Addr) (W : XK) (m : MB) : TT := tG K cA W rId m
abbrev tAs (K : PySem.W.Frag) (cA : Nat → Addr) (W : XK) (m : MA) : TA := tG K cA W (rVs K) m
abbrev tNw (K : PySem.W.Frag) (cA : Nat → Addr) (W : XK) (m : MA) : TE := tG K cA W (rNew K) m
/-- operations on values -/
def t2 (K : PySem.W.Frag) (cA : Nat → Addr) (W : XK) {β : Type} {α : Type} (rep : Rel α β) (f : D → D → Store → R α) : V → V → Hp → (β → Hp → Prop) → Prop := fun x y H Q =>
  ∃ ρ S d e, Reps K cA ρ H S ∧ RepV K ρ H d x ∧ RepV K ρ H e y ∧ After K cA W ρ H rep (f d e S) Q
def t1 (K : PySem.W.Frag) (cA : Nat → Addr) (W : XK) {β : Type} {α : Type} (rep : Rel α β) (f : D → Store → R α) : V → Hp → (β → Hp → Prop) → Prop := fun x H Q =>
  ∃ ρ S d, Reps K cA ρ H S ∧ RepV K ρ H d x ∧ After K cA W ρ H rep (f d S) Q
def tN (K : PySem.W.Frag) (cA : Nat → Addr) (W : XK) {β : Type} {α : Type} (rep : Rel α β) (f : List D → Store → R α) : List V → Hp → (β → Hp → Prop) → Prop := fun xs H Q =>
  ∃ ρ S ds, Reps K cA ρ H S ∧ RepVs K ρ H ds xs ∧ After K cA W ρ H rep (f ds S) Q

/-! ### weaker readings -/
theorem _root_.L2.PE.imp {X : Cx} {e : Expr} {t t' : TE} (h : PE X e t) (i : ∀ σ H Q, t' σ H Q → t σ H Q) : PE X e t' := ⟨fun pins s σ H Q I q => h.run pins s σ H Q I (i σ H Q q)⟩
theorem _root_.L2.PT.imp {X : Cx} {e : Expr} {t t' : TT} (h : PT X e t) (i : ∀ σ H Q, t' σ H Q → t σ H Q) : PT X e t' := ⟨fun pins s σ H Q I q => h.run pins s σ H Q I (i σ H Q q)⟩
theorem _root_.L2.PW.imp {X : Cx} {e : Expr} {t t' : TT} (h : PW X e t) (i : ∀ σ H Q, t' σ H Q → t σ H Q) : PW X e t' := ⟨fun wh pins s σ H Q I q => h.run wh pins s σ H Q I (i σ H Q q)⟩
theorem _root_.L2.PA.imp {X : Cx} {es : List Expr} {t t' : TA} (h : PA X es t) (i : ∀ σ H Q, t' σ H Q → t σ H Q) : PA X es t' := ⟨fun pos pins s σ H Q I q => h.run pos pins s σ H Q I (i σ H Q q)⟩
theorem _root_.L2.PS.imp {X : Cx} {st : Stmt} {t t' : TS} (h : PS X st t) (i : ∀ E σ H, t' E σ H → t E σ H) : PS X st t' := ⟨fun pins s σ H E I q => h.run pins s σ H E I (i E σ H q)⟩
theorem _root_.L2.PSs.imp {X : Cx} {st : List Stmt} {t t' : TS} (h : PSs X st t) (i : ∀ E σ H, t' E σ H → t E σ H) : PSs X st t' := ⟨fun pins s σ H E I q => h.run pins s σ H E I (i E σ H q)⟩
theorem OpR.imp {X : Cx} {f : Value → Value → Sem Value} {r r' : R2} (h : OpR X f r) (i : ∀ x y H Q, r' x y H Q → r x y H Q) : OpR X f r' := fun pins s σ H x y v u Q I rx ry q => h pins s σ H x y v u Q I rx ry (i _ _ _ _ q)
theorem CallR.imp {X : Cx} {f : Value} {r r' : List V → Hp → VK → Prop} (h : CallR X f r) (i : ∀ xs H Q, r' xs H Q → r xs H Q) : CallR X f r' := fun pins s σ H xs us Q I rx q => h pins s σ H xs us Q I rx (i _ _ _ q)
end ML

set_option Elab.async false
set_option linter.all false
set_option maxRecDepth 100000
set_option autoImplicit false
/-! ML2: what is done with values, and its rules. -/
namespace ML
open PySem PySem.Spec L2

/-! ### lists of data -/
section
variable {K : PySem.W.Frag} {ρ : List Addr} {H : Hp}
theorem RepVs.length : ∀ {ds : List D} {vs : List V}, RepVs K ρ H ds vs → vs.length = ds.length
  | [], vs, h => by unfold RepVs at h; rw [h]; rfl
  | x :: xs, vs, h => by
    unfold RepVs at h
    obtain ⟨v, r, e, _, h2⟩ := h
    rw [e, List.length_cons, List.length_cons, RepVs.length h2]
theorem RepVs.nil : RepVs K ρ H [] [] := by unfold RepVs; rfl
theorem RepVs.cons {d : D} {v : V} {ds : List D} {vs : List V} (h : RepV K ρ H d v) (h2 : RepVs K ρ H ds vs) : RepVs K ρ H (d :: ds) (v :: vs) := by unfold RepVs; exact ⟨v, vs, rfl, h, h2⟩
theorem RepVs.append : ∀ {ds es : List D} {vs ws : List V}, RepVs K ρ H ds vs → RepVs K ρ H es ws → RepVs K ρ H (ds ++ es) (vs ++ ws)
  | [], _, vs, ws, h, h2 => by unfold RepVs at h; rw [h]; exact h2
  | x :: xs, _, vs, ws, h, h2 => by
    unfold RepVs at h
    obtain ⟨v, r, e, h1, hr⟩ := h
    rw [e]
    exact RepVs.cons h1 (RepVs.append hr h2)
theorem RepVs.get : ∀ {ds : List D} {vs : List V}, RepVs K ρ H ds vs → ∀ (i : Nat) (d : D), ds[i]? = some d → ∃ v, vs[i]? = some v ∧ RepV K ρ H d v
  | [], _, _, i, d, e => by simp at e
  | x :: xs, vs, h, i, d, e => by
    unfold RepVs at h
    obtain ⟨v, r, ev, h1, h2⟩ := h
    rw [ev]
    cases i with
    | zero => simp at e; subst e; exact ⟨v, rfl, h1⟩
    | succ i => simpa using RepVs.get h2 i d (by simpa using e)
theorem RepVs.get' : ∀ {ds : List D} {vs : List V}, RepVs K ρ H ds vs → ∀ (i : Nat) (v : V), vs[i]? = some v → ∃ d, ds[i]? = some d ∧ RepV K ρ H d v
  | [], vs, h, i, v, e => by unfold RepVs at h; rw [h] at e; simp at e
  | x :: xs, vs, h, i, v, e => by
    unfold RepVs at h
    obtain ⟨w, r, ev, h1, h2⟩ := h
    rw [ev] at e
    cases i with
    | zero => simp at e; subst e; exact ⟨x, rfl, h1⟩
    | succ i => simpa using RepVs.get' h2 i v (by simpa using e)
theorem RepVs.take : ∀ {ds : List D} {vs : List V} (n : Nat), RepVs K ρ H ds vs → RepVs K ρ H (ds.take n) (vs.take n)
  | _, _, 0, _ => by rw [List.take_zero, List.take_zero]; exact .nil
  | [], vs, n + 1, h => by unfold RepVs at h; rw [h]; exact .nil
  | x :: xs, vs, n + 1, h => by
    unfold RepVs at h
    obtain ⟨v, r, e, h1, h2⟩ := h
    rw [e, List.take_succ_cons, List.take_succ_cons]
    exact .cons h1 (RepVs.take n h2)
theorem RepVs.drop : ∀ {ds : List D} {vs : List V} (n : Nat), RepVs K ρ H ds vs → RepVs K ρ H (ds.drop n) (vs.drop n)
  | _, _, 0, h => h
  | [], vs, n + 1, h => by unfold RepVs at h; rw [h]; exact .nil
  | x :: xs, vs, n + 1, h => by
    unfold RepVs at h
    obtain ⟨v, r, e, h1, h2⟩ := h
    rw [e, List.drop_succ_cons, List.drop_succ_cons]
    exact RepVs.drop n h2
theorem RepVs.set {d : D} {v : V} (hv : RepV K ρ H d v) : ∀ {ds : List D} {vs : List V} (n : Nat), RepVs K ρ H ds vs → RepVs K ρ H (ds.set n d) (vs.set n v)
  | [], vs, _, h => by unfold RepVs at h; rw [h]; exact .nil
  | x :: xs, vs, n, h => by
    unfold RepVs at h
    obtain ⟨w, r, e, h1, h2⟩ := h
    rw [e]
    cases n with
    | zero => exact .cons hv h2
    | succ n => exact .cons h1 (RepVs.set hv n h2)
theorem RepVs.ints : ∀ {ns : List Int} {vs : List V}, RepVs K ρ H (ns.map D.int) vs → vs = ns.map V.int
  | [], vs, h => by unfold RepVs at h; exact h
  | n :: ns, vs, h => by
    rw [List.map_cons] at h
    unfold RepVs at h
    obtain ⟨w, r, e, h1, h2⟩ := h
    unfold RepV at h1
    rw [e, h1, List.map_cons, RepVs.ints h2]
theorem RepVs.of_ints : ∀ {ns : List Int}, RepVs K ρ H (ns.map D.int) (ns.map V.int)
  | [] => by exact .nil
  | n :: ns => by
    rw [List.map_cons, List.map_cons]
    exact .cons (by unfold RepV; rfl) RepVs.of_ints
end

/-! ### cells -/
def lstAt (S : Store) (n : Nat) : Option (List D) := match S[n]? with
  | some (.lst xs) => some xs
  | _ => none
def dctAt (S : Store) (n : Nat) : Option (List (Key × D)) := match S[n]? with
  | some (.dct kvs) => some kvs
  | _ => none
def insAt (S : Store) (n : Nat) : Option (Nat × List (Str × D)) := match S[n]? with
  | some (.ins c fs) => some (c, fs)
  | _ => none
theorem lstAt_of {S : Store} {n : Nat} {xs : List D} (h : S[n]? = some (.lst xs)) : lstAt S n = some xs := by unfold lstAt; rw [h]
theorem dctAt_of {S : Store} {n : Nat} {xs : List (Key × D)} (h : S[n]? = some (.dct xs)) : dctAt S n = some xs := by unfold dctAt; rw [h]
theorem insAt_of {S : Store} {n c : Nat} {fs : List (Str × D)} (h : S[n]? = some (.ins c fs)) : insAt S n = some (c, fs) := by unfold insAt; rw [h]
theorem lstAt_some {S : Store} {n : Nat} {xs : List D} (h : lstAt S n = some xs) : S[n]? = some (.lst xs) := by
  unfold lstAt at h
  split at h
  · rename_i ys e; cases h; exact e
  · cases h
theorem dctAt_some {S : Store} {n : Nat} {xs : List (Key × D)} (h : dctAt S n = some xs) : S[n]? = some (.dct xs) := by
  unfold dctAt at h
  split at h
  · rename_i ys e; cases h; exact e
  · cases h
theorem insAt_some {S : Store} {n c : Nat} {fs : List (Str × D)} (h : insAt S n = some (c, fs)) : S[n]? = some (.ins c fs) := by
  unfold insAt at h
  split at h
  · rename_i c' fs' e; cases h; exact e
  · cases h
/-- a dict that is read, locked or not -/
def kvAt (S : Store) (n : Nat) : Option (List (Key × D)) := match S[n]? with
  | some (.dct kvs) => some kvs
  | some (.dlk kvs) => some kvs
  | _ => none
theorem kvAt_of {S : Store} {n : Nat} {xs : List (Key × D)} (h : S[n]? = some (.dct xs)) : kvAt S n = some xs := by unfold kvAt; rw [h]
theorem kvAt_some {S : Store} {n : Nat} {xs : List (Key × D)} (h : kvAt S n = some xs) : S[n]? = some (.dct xs) ∨ S[n]? = some (.dlk xs) := by
  unfold kvAt at h
  split at h
  · rename_i ys e; cases h; exact .inl e
  · rename_i ys e; cases h; exact .inr e
  · cases h
/-- the items of what is a list -/
def lstOf (S : Store) : D → Option (List D)
  | .lis xs => some xs
  | .ref n => lstAt S n
  | _ => none
/-- .. a list or a tuple -/
def seqOf (S : Store) : D → Option (List D)
  | .tup xs => some xs
  | .lis xs => some xs
  | .ref n => lstAt S n
  | _ => none
def newC (c : Cell) (S : Store) : R D := .ok (.ref S.length) (S ++ [c])
section
variable {K : PySem.W.Frag} {cA : Nat → Addr} {ρ : List Addr} {H : Hp} {S : Store}
/-- the cell at a reference -/
theorem ref_rep (hS : Reps K cA ρ H S) {n : Nat} {v : V} {c : Cell} (hv : RepV K ρ H (.ref n) v) (h : S[n]? = some c) : ∃ a, v = .ref a ∧ ρ[n]? = some a ∧ RepC K cA ρ H c a := by
  unfold RepV at hv
  obtain ⟨a, ha, ev⟩ := hv
  exact ⟨a, ev, ha, hS.at_ n c a h ha⟩
theorem rlst_rep (hS : Reps K cA ρ H S) {n : Nat} {v : V} {xs : List D} (hv : RepV K ρ H (.ref n) v) (h : lstAt S n = some xs) : ∃ a vs, v = .ref a ∧ ρ[n]? = some a ∧ H a = some (.lst vs) ∧ RepVs K ρ H xs vs := by
  obtain ⟨a, e, ha, vs, h1, h2⟩ := ref_rep hS hv (lstAt_some h)
  exact ⟨a, vs, e, ha, h1, h2⟩
theorem rdct_rep (hS : Reps K cA ρ H S) {n : Nat} {v : V} {xs : List (Key × D)} (hv : RepV K ρ H (.ref n) v) (h : dctAt S n = some xs) : ∃ a vs, v = .ref a ∧ ρ[n]? = some a ∧ H a = some (.dK vs) ∧ RepP K ρ H xs vs := by
  obtain ⟨a, e, ha, vs, h1, h2⟩ := ref_rep hS hv (dctAt_some h)
  exact ⟨a, vs, e, ha, h1, h2⟩
theorem rkv_rep (hS : Reps K cA ρ H S) {n : Nat} {v : V} {xs : List (Key × D)} (hv : RepV K ρ H (.ref n) v) (h : kvAt S n = some xs) : ∃ a vs, v = .ref a ∧ ρ[n]? = some a ∧ Rd H a (.dK vs) ∧ RepP K ρ H xs vs := by
  rcases kvAt_some h with h | h
  · obtain ⟨a, e, ha, vs, h1, h2⟩ := ref_rep hS hv h
    exact ⟨a, vs, e, ha, .inl h1, h2⟩
  · obtain ⟨a, e, ha, o, vs, h1, h2⟩ := ref_rep hS hv h
    exact ⟨a, vs, e, ha, .inr ⟨o, h1⟩, h2⟩
theorem rins_rep (hS : Reps K cA ρ H S) {n c : Nat} {v : V} {fs : List (Str × D)} (hv : RepV K ρ H (.ref n) v) (h : insAt S n = some (c, fs)) : ∃ a dx vs, v = .ref a ∧ ρ[n]? = some a ∧ H a = some (.ins (cA c) dx vs) ∧ RepP K ρ H fs vs := by
  obtain ⟨a, e, ha, dx, vs, h1, h2⟩ := ref_rep hS hv (insAt_some h)
  exact ⟨a, dx, vs, e, ha, h1, h2⟩
theorem lst_rep (hS : Reps K cA ρ H S) {d : D} {v : V} {xs : List D} (hv : RepV K ρ H d v) (h : lstOf S d = some xs) : ∃ a vs, v = .ref a ∧ SqL K H a vs ∧ RepVs K ρ H xs vs := by
  cases d with
  | lis ys =>
    have e : ys = xs := Option.some.inj h
    subst e
    unfold RepV at hv
    obtain ⟨a, vs, ev, hf, hr⟩ := hv
    exact ⟨a, vs, ev, hf.sq, hr⟩
  | ref n =>
    obtain ⟨a, vs, e, _, h1, h2⟩ := rlst_rep hS hv h
    exact ⟨a, vs, e, SqL.of h1, h2⟩
  | _ => cases h
theorem seq_rep (hS : Reps K cA ρ H S) {d : D} {v : V} {xs : List D} (hv : RepV K ρ H d v) (h : seqOf S d = some xs) : ∃ a vs, v = .ref a ∧ (SqL K H a vs ∨ SqT K H a vs) ∧ RepVs K ρ H xs vs := by
  cases d with
  | tup ys =>
    have e : ys = xs := Option.some.inj h
    subst e
    unfold RepV at hv
    obtain ⟨a, vs, ev, hf, hr⟩ := hv
    exact ⟨a, vs, ev, .inr hf, hr⟩
  | lis ys => obtain ⟨a, vs, ev, h1, h2⟩ := lst_rep hS hv h; exact ⟨a, vs, ev, .inl h1, h2⟩
  | ref n => obtain ⟨a, vs, ev, h1, h2⟩ := lst_rep hS hv h; exact ⟨a, vs, ev, .inl h1, h2⟩
  | _ => cases h
theorem Reps.free (hS : Reps K cA ρ H S) {p : Addr} (hp : H p = none) : p ∉ ρ := fun hm => by
  obtain ⟨o, ho, _⟩ := hS.mem hm
  rw [hp] at ho; cases ho
/-- a new cell -/
theorem After.new {W : XK} {c : Cell} {p : Addr} {o : HO} {Q : V → Hp → Prop} (h : After K cA W ρ H (rV K) (newC c S) Q) (hS : Reps K cA ρ H S) (hp : H p = none) (hc : RepC K cA ρ (upd H p o) c p) : Q (.ref p) (upd H p o) := by
  refine h (ρ ++ [p]) _ _ (Ext.alloc hp) ((hS.new hp).push (hS.free hp) hc) ?_
  show RepV K (ρ ++ [p]) _ (.ref S.length) (.ref p)
  unfold RepV
  exact ⟨p, by rw [← hS.len, List.getElem?_append_right (Nat.le_refl _)]; simp, rfl⟩
/-- a new tuple -/
theorem After.tup {W : XK} {xs : List D} {vs : List V} {p : Addr} {Q : V → Hp → Prop} (h : After K cA W ρ H (rV K) (.ok (.tup xs) S) Q) (hS : Reps K cA ρ H S) (hp : H p = none) (hr : RepVs K ρ H xs vs) : Q (.ref p) (upd H p (.tup vs)) := by
  refine h ρ _ _ (Ext.new hp) (hS.new hp) ?_
  show RepV K ρ _ (.tup xs) (.ref p)
  unfold RepV
  exact ⟨p, vs, rfl, SqT.of upd_same, hr.ext (Ext.new hp)⟩
/-- the end where nothing has changed -/
theorem After.same {α β : Type} {W : XK} {rep : Rel α β} {a : α} {b : β} {Q : β → Hp → Prop} (h : After K cA W ρ H rep (.ok a S) Q) (hS : Reps K cA ρ H S) (hr : rep H ρ H a b) : Q b H := h ρ H b (Ext.refl ρ H) hS hr
end

/-! ### numbers, texts -/
def mulOk (i j : Int) : Bool := decide (-(2 ^ 64) < i) && decide (i < 2 ^ 64) || decide (-(2 ^ 64) < j) && decide (j < 2 ^ 64)
def addD : D → D → Store → R D
  | .int i, .int j, S => .ok (.int (i + j)) S
  | .str x, .str y, S => if x.length + y.length ≤ sizeLine then .ok (.str (x ++ y)) S else .bad
  | .tup xs, .tup ys, S => if xs.length + ys.length ≤ sizeLine then .ok (.tup (xs ++ ys)) S else .bad
  | .ref n, .ref m, S => match lstAt S n, lstAt S m with
    | some xs, some ys => if xs.length + ys.length ≤ sizeLine then newC (.lst (xs ++ ys)) S else .bad
    | _, _ => .bad
  | _, _, _ => .bad
def subD : D → D → Store → R D
  | .int i, .int j, S => .ok (.int (i - j)) S
  | _, _, _ => .bad
/-- a text n times -/
def repS (x : Str) (n : Nat) : Str := ⟨(List.replicate n x.cps).foldl (· ++ ·) #[]⟩
def mulD : D → D → Store → R D
  | .int i, .int j, S => if mulOk i j then .ok (.int (i * j)) S else .bad
  | .str x, .int n, S => if n ≤ 0 ∧ -(2 ^ 63) ≤ n then .ok (.str Str.empty) S else if n = 1 then .ok (.str x) S else if 2 ≤ n ∧ 0 < x.length ∧ n < 2 ^ 32 ∧ x.length * n.toNat ≤ 16777216 then .ok (.str (repS x n.toNat)) S else .bad
  | _, _, _ => .bad
def fdivD : D → D → Store → R D
  | .int i, .int j, S => if 0 < j ∧ j < 1073741824 then .ok (.int (i / j)) S else .bad
  | _, _, _ => .bad
def modD : D → D → Store → R D
  | .int i, .int j, S => if 0 < j then .ok (.int (i % j)) S else .bad
  | _, _, _ => .bad
def powD : D → D → Store → R D
  | .int i, .int j, S => if 0 ≤ j ∧ j ≤ 1000000 ∧ i.natAbs < 2 ^ 64 then .ok (.int (i ^ j.toNat)) S else .bad
  | _, _, _ => .bad
def negD : D → Store → R D
  | .int i, S => .ok (.int (-i)) S
  | _, _ => .bad
def ltD : D → D → Store → R Bool
  | .int i, .int j, S => .ok (decide (i < j)) S
  | .str x, .str y, S => .ok (decide (x.cps.toList < y.cps.toList)) S
  | _, _, _ => .bad
def leD : D → D → Store → R Bool
  | .int i, .int j, S => .ok (decide (i ≤ j)) S
  | .str x, .str y, S => .ok (!decide (y.cps.toList < x.cps.toList)) S
  | _, _, _ => .bad
def gtD : D → D → Store → R Bool
  | .int i, .int j, S => .ok (decide (j < i)) S
  | _, _, _ => .bad
def geD : D → D → Store → R Bool
  | .int i, .int j, S => .ok (decide (j ≤ i)) S
  | _, _, _ => .bad
section
variable {X : Cx} {cA : Nat → Addr} {W : XK}
theorem op_addM : OpR X (binaryOp .Add) (t2 X.K cA W (rV X.K) addD) := by
  refine OpR.imp ((op_add (X := X)).or ((op_add_str (X := X)).or ((op_catA (X := X)).or (op_cat (X := X))))) fun x y H Q h => ?_
  obtain ⟨ρ, S, d, e, hS, hd, he, h⟩ := h
  unfold addD at h
  split at h
  · unfold RepV at hd he
    exact .inl ⟨_, _, hd, he, h.same hS (by unfold rV RepV; rfl)⟩
  · split at h
    · rename_i hl
      unfold RepV at hd he
      exact .inr (.inl ⟨_, _, hd, he, hl, h.same hS (by unfold rV RepV; rfl)⟩)
    · exact h.elim
  · split at h
    · rename_i xs ys hl
      have hd' := hd
      have he' := he
      unfold RepV at hd he
      obtain ⟨a, vs, ex, h1, r1⟩ := hd
      obtain ⟨b, ws, ey, h2, r2⟩ := he
      have nl1 : vs = [] → xs = [] := fun z => List.eq_nil_of_length_eq_zero (by rw [← r1.length, z]; rfl)
      have nl2 : ws = [] → ys = [] := fun z => List.eq_nil_of_length_eq_zero (by rw [← r2.length, z]; rfl)
      refine .inr (.inr (.inl ⟨a, b, vs, ws, ex, ey, h1, h2, by rw [r1.length, r2.length]; exact hl, fun z => ?_, fun _ z => ?_, fun _ _ p hp => h.tup hS hp (r1.append r2)⟩))
      · rw [nl1 z, List.nil_append] at h
        rw [ey] at he'
        exact h.same hS he'
      · rw [nl2 z, List.append_nil] at h
        rw [ex] at hd'
        exact h.same hS hd'
    · exact h.elim
  · split at h
    · rename_i xs ys e1 e2
      split at h
      · rename_i hl
        obtain ⟨a, vs, ex, ha, h1, r1⟩ := rlst_rep hS hd e1
        obtain ⟨b, ws, ey, hb, h2, r2⟩ := rlst_rep hS he e2
        exact .inr (.inr (.inr ⟨a, b, vs, ws, ex, ey, h1, h2, by rw [r1.length, r2.length]; exact hl, fun p hp => h.new hS hp ⟨_, upd_same, (r1.append r2).ext (Ext.new hp)⟩⟩))
      · exact h.elim
    · exact h.elim
  · exact h.elim
theorem op_subM : OpR X (binaryOp .Sub) (t2 X.K cA W (rV X.K) subD) := by
  refine OpR.imp (op_sub (X := X)) fun x y H Q h => ?_
  obtain ⟨ρ, S, d, e, hS, hd, he, h⟩ := h
  unfold subD at h
  split at h
  · unfold RepV at hd he
    exact ⟨_, _, hd, he, h.same hS (by unfold rV RepV; rfl)⟩
  · exact h.elim
theorem mulOk_of {i j : Int} (h : mulOk i j = true) : CMul i j := by
  unfold mulOk at h
  simp only [Bool.or_eq_true, Bool.and_eq_true, decide_eq_true_eq] at h
  exact h
theorem rep_list (z : Str) : ∀ (n : Nat) (acc : Array Nat), ((List.replicate n z.cps).foldl (· ++ ·) acc).toList = acc.toList ++ (List.replicate n z.cps.toList).flatten
  | 0, acc => by simp
  | n + 1, acc => by
    rw [List.replicate_succ, List.foldl_cons, rep_list z n, List.replicate_succ, List.flatten_cons, Array.toList_append, List.append_assoc]
theorem rep_cs (z : Str) (n : Nat) : (repS z n).cps.toList = (List.replicate n z.cps.toList).flatten := by
  exact (rep_list z n #[]).trans (List.nil_append _)
theorem rep_len (z : Str) (n : Nat) : (repS z n).length = z.length * n := by
  show (repS z n).cps.size = z.cps.size * n
  rw [← Array.length_toList, rep_cs]
  induction n with
  | zero => rfl
  | succ n ih =>
    rw [List.replicate_succ, List.flatten_cons, List.length_append, ih, Array.length_toList, Nat.mul_succ, Nat.add_comm]
theorem op_mulStr : OpR X (binaryOp .Mult) (fun x y H Q => ∃ (z : Str) (n : Int), x = .str z ∧ y = .int n ∧
    ((n ≤ 0 ∧ -(2 ^ 63) ≤ n ∧ Q (.str Str.empty) H) ∨ (n = 1 ∧ Q (.str z) H) ∨ (2 ≤ n ∧ 0 < z.length ∧ n < 2 ^ 32 ∧ z.length * n.toNat ≤ 16777216 ∧ Q (.str (repS z n.toNat)) H))) := by
  intro pins s σ H x y v u Q I rx ry h
  obtain ⟨z, n, rfl, rfl, h⟩ := h
  obtain ⟨t, rfl⟩ := rx
  obtain ⟨t2, rfl⟩ := ry
  have fin : ∀ (r : Str) (tk : Tok), Q (.str r) H → EP X pins σ Q (.str r tk) { s with toks := s.toks + 1 } := fun r tk q => ⟨.str r, H, I.tok _, ⟨_, rfl⟩, q⟩
  rcases h with ⟨h0, h1, q⟩ | ⟨rfl, q⟩ | ⟨h2, h3, h4, h5, q⟩
  · exact PySem.P.mul_str_none (by omega) (by omega) (fin _ _ q)
  · refine PySem.P.mul_str (by decide) (fun _ z => nomatch z) (fun _ z => nomatch z) ?_
    rw [if_neg (by omega), if_pos (by simp)]
    exact ⟨.str z, H, I, ⟨_, rfl⟩, q⟩
  · have c1 : (decide (n < -(2 ^ 63 : Int)) || decide (n ≥ 2 ^ 63)) = false := by
      rw [decide_eq_false (by omega), decide_eq_false (by omega)]; rfl
    have hn : n = ((n.toNat : Nat) : Int) := by omega
    refine PySem.P.mul_str c1 (fun _ _ hz => ?_) (fun _ _ => ?_) ?_
    · have e : (z.length : Int) ≤ (2 ^ 63 - 1) / n := by
        refine (Int.le_ediv_iff_mul_le (by omega)).mpr ?_
        have : ((z.length * n.toNat : Nat) : Int) ≤ ((16777216 : Nat) : Int) := Int.ofNat_le.mpr h5
        rw [Int.natCast_mul, ← hn] at this
        have q : (9223372036854775807 : Int) = 2 ^ 63 - 1 := by decide
        omega
      omega
    · unfold PySem.Builtin.Str.tooLong
      rw [decide_eq_false]
      show ¬ sizeLine < _
      rw [sizeLine_eq]
      omega
    · rw [if_neg (by omega), if_neg]
      · refine ⟨?_, fin _ _ q⟩
        rw [sizeLine_eq]
        exact Nat.le_trans (Nat.le_of_eq (rep_len z n.toNat)) h5
      · simp
        omega
theorem op_mulM : OpR X (binaryOp .Mult) (t2 X.K cA W (rV X.K) mulD) := by
  refine OpR.imp ((op_mul (X := X)).or (op_mulStr (X := X))) fun x y H Q h => ?_
  obtain ⟨ρ, S, d, e, hS, hd, he, h⟩ := h
  unfold mulD at h
  split at h
  · split at h
    · rename_i hm
      unfold RepV at hd he
      exact .inl ⟨_, _, hd, he, mulOk_of hm, h.same hS (by unfold rV RepV; rfl)⟩
    · exact h.elim
  · rename_i z n _
    unfold RepV at hd he
    refine .inr ⟨_, _, hd, he, ?_⟩
    split at h
    · rename_i c
      exact .inl ⟨c.1, c.2, h.same hS (by unfold rV RepV; rfl)⟩
    · split at h
      · rename_i c
        exact .inr (.inl ⟨c, h.same hS (by unfold rV RepV; rfl)⟩)
      · split at h
        · rename_i c1 c2 c3
          exact .inr (.inr ⟨c3.1, c3.2.1, c3.2.2.1, c3.2.2.2, h.same hS (by unfold rV RepV; rfl)⟩)
        · exact h.elim
  · exact h.elim
theorem op_fdivM : OpR X (binaryOp .FloorDiv) (t2 X.K cA W (rV X.K) fdivD) := by
  refine OpR.imp (op_fdiv (X := X)) fun x y H Q h => ?_
  obtain ⟨ρ, S, d, e, hS, hd, he, h⟩ := h
  unfold fdivD at h
  split at h
  · split at h
    · rename_i hm
      unfold RepV at hd he
      exact ⟨_, _, hd, he, hm, h.same hS (by unfold rV RepV; rfl)⟩
    · exact h.elim
  · exact h.elim
theorem op_modM : OpR X (binaryOp .Mod) (t2 X.K cA W (rV X.K) modD) := by
  refine OpR.imp (op_mod (X := X)) fun x y H Q h => ?_
  obtain ⟨ρ, S, d, e, hS, hd, he, h⟩ := h
  unfold modD at h
  split at h
  · split at h
    · rename_i hm
      unfold RepV at hd he
      exact ⟨_, _, hd, he, hm, h.same hS (by unfold rV RepV; rfl)⟩
    · exact h.elim
  · exact h.elim
theorem op_powM : OpR X (binaryOp .Pow) (t2 X.K cA W (rV X.K) powD) := by
  refine OpR.imp (op_pow (X := X)) fun x y H Q h => ?_
  obtain ⟨ρ, S, d, e, hS, hd, he, h⟩ := h
  unfold powD at h
  split at h
  · split at h
    · rename_i hm
      unfold RepV at hd he
      exact ⟨_, _, hd, he, hm, h.same hS (by unfold rV RepV; rfl)⟩
    · exact h.elim
  · exact h.elim
theorem un_negM : UnR X (unaryOp .USub) (t1 X.K cA W (rV X.K) negD) := by
  refine fun pins s σ H x v Q I rx h => un_neg pins s σ H x v Q I rx ?_
  obtain ⟨ρ, S, d, hS, hd, h⟩ := h
  unfold negD at h
  split at h
  · unfold RepV at hd
    exact ⟨_, hd, h.same hS (by unfold rV RepV; rfl)⟩
  · exact h.elim
/-- a comparison's reading -/
abbrev tC2 (K : PySem.W.Frag) (cA : Nat → Addr) (W : XK) (f : D → D → Store → R Bool) : R2 := fun x y H Q => t2 K cA W rId f x y H fun b H' => Q (.bl b) H'
theorem op_ltM : OpR X (compareOp .Lt) (tC2 X.K cA W ltD) := by
  refine OpR.imp ((op_lt (X := X)).or (op_lt_str (X := X))) fun x y H Q h => ?_
  obtain ⟨ρ, S, d, e, hS, hd, he, h⟩ := h
  unfold ltD at h
  split at h
  · unfold RepV at hd he
    exact .inl ⟨_, _, hd, he, h.same hS rfl⟩
  · unfold RepV at hd he
    exact .inr ⟨_, _, hd, he, h.same hS rfl⟩
  · exact h.elim
theorem op_leM : OpR X (compareOp .LtE) (tC2 X.K cA W leD) := by
  refine OpR.imp ((op_le (X := X)).or (op_le_str (X := X))) fun x y H Q h => ?_
  obtain ⟨ρ, S, d, e, hS, hd, he, h⟩ := h
  unfold leD at h
  split at h
  · unfold RepV at hd he
    exact .inl ⟨_, _, hd, he, h.same hS rfl⟩
  · unfold RepV at hd he
    exact .inr ⟨_, _, hd, he, h.same hS rfl⟩
  · exact h.elim
theorem op_gtM : OpR X (compareOp .Gt) (tC2 X.K cA W gtD) := by
  refine OpR.imp (op_gt (X := X)) fun x y H Q h => ?_
  obtain ⟨ρ, S, d, e, hS, hd, he, h⟩ := h
  unfold gtD at h
  split at h
  · unfold RepV at hd he
    exact ⟨_, _, hd, he, h.same hS rfl⟩
  · exact h.elim
theorem op_geM : OpR X (compareOp .GtE) (tC2 X.K cA W geD) := by
  refine OpR.imp (op_ge (X := X)) fun x y H Q h => ?_
  obtain ⟨ρ, S, d, e, hS, hd, he, h⟩ := h
  unfold geD at h
  split at h
  · unfold RepV at hd he
    exact ⟨_, _, hd, he, h.same hS rfl⟩
  · exact h.elim
end
end ML

set_option Elab.async false
set_option linter.all false
set_option maxRecDepth 100000
set_option autoImplicit false
/-! ML3: equality, membership, length, truth, kinds, items, slices. -/
namespace ML
open PySem PySem.Spec L2

/-! ### equality -/
def mapO {α β : Type} (f : α → Option β) : List α → Option (List β)
  | [] => some []
  | x :: xs => match f x, mapO f xs with
    | some y, some ys => some (y :: ys)
    | _, _ => none
def toPy (S : Store) : Nat → D → Option PyData
  | _, .non => some .none
  | _, .bl b => some (.bool b)
  | _, .int i => some (.int i)
  | _, .str x => some (.str x)
  | _, .exn _ => none
  | 0, _ => none
  | k + 1, .tup xs => (mapO (toPy S k) xs).map .tuple
  | k + 1, .lis xs => (mapO (toPy S k) xs).map .list
  | k + 1, .ref n => match lstAt S n with
    | some xs => (mapO (toPy S k) xs).map .list
    | none => none
def eqPy (S : Store) (d e : D) : Option Bool := match toPy S 64 d, toPy S 64 e with
  | some a, some b => if SeqAt.shaped a = true ∧ SeqAt.shaped b = true then some (PyData.eqv a b) else none
  | _, _ => none
def eqO (S : Store) : D → D → Option Bool
  | .str x, .str y => some (decide (x = y))
  | .str _, .non => some false
  | .str _, .int _ => some false
  | .str _, .bl _ => some false
  | .non, .str _ => some false
  | .int _, .str _ => some false
  | .bl _, .str _ => some false
  | d, e => eqPy S d e
def eqD (d e : D) (S : Store) : R Bool := match eqO S d e with
  | some b => .ok b S
  | none => .bad
def neD (d e : D) (S : Store) : R Bool := match eqO S d e with
  | some b => .ok (!b) S
  | none => .bad
section
variable {K : PySem.W.Frag} {cA : Nat → Addr} {ρ : List Addr} {H : Hp} {S : Store}
theorem toPy_rep (hS : Reps K cA ρ H S) : ∀ (k : Nat) (d : D) (v : V) (p : PyData), toPy S k d = some p → RepV K ρ H d v → Dp K H v p
  | k, .non, v, p, h, r => by unfold RepV at r; subst r; cases k <;> (cases h; exact .non)
  | k, .bl b, v, p, h, r => by unfold RepV at r; subst r; cases k <;> (cases h; exact .bl b)
  | k, .int i, v, p, h, r => by unfold RepV at r; subst r; cases k <;> (cases h; exact .int i)
  | k, .str x, v, p, h, r => by unfold RepV at r; subst r; cases k <;> (cases h; exact .str x)
  | 0, .tup xs, v, p, h, r => nomatch h
  | 0, .lis xs, v, p, h, r => nomatch h
  | 0, .ref n, v, p, h, r => nomatch h
  | _, .exn a, v, p, h, r => by
    unfold toPy at h
    cases h
  | k + 1, .tup xs, v, p, h, r => by
    unfold RepV at r
    obtain ⟨a, vs, rfl, hs, hr⟩ := r
    have h : (mapO (toPy S k) xs).map PyData.tuple = some p := h
    obtain ⟨ps, e, rfl⟩ := Option.map_eq_some_iff.mp h
    exact .tup hs (all k xs vs ps e hr)
  | k + 1, .lis xs, v, p, h, r => by
    unfold RepV at r
    obtain ⟨a, vs, rfl, hs, hr⟩ := r
    have h : (mapO (toPy S k) xs).map PyData.list = some p := h
    obtain ⟨ps, e, rfl⟩ := Option.map_eq_some_iff.mp h
    exact .lst hs.sq (all k xs vs ps e hr)
  | k + 1, .ref n, v, p, h, r => by
    unfold toPy at h
    cases e : lstAt S n with
    | none => rw [e] at h; cases h
    | some xs =>
      rw [e] at h
      obtain ⟨a, vs, rfl, _, hs, hr⟩ := rlst_rep hS r e
      obtain ⟨ps, e, rfl⟩ := Option.map_eq_some_iff.mp h
      exact .lst (SqL.of hs) (all k xs vs ps e hr)
where
  all (k : Nat) : ∀ (xs : List D) (vs : List V) (ps : List PyData), mapO (toPy S k) xs = some ps → RepVs K ρ H xs vs → DpAll K H vs ps
  | [], vs, ps, h, r => by unfold RepVs at r; subst r; cases h; exact .nil
  | x :: xs, vs, ps, h, r => by
    unfold RepVs at r
    obtain ⟨v, q, rfl, h1, h2⟩ := r
    unfold mapO at h
    split at h
    · rename_i y ys e1 e2
      cases h
      exact .cons (toPy_rep hS k x v y e1 h1) (all k xs q ys e2 h2)
    · cases h
end
section
variable {X : Cx} {cA : Nat → Addr} {W : XK}
theorem eqO_rep {K : PySem.W.Frag} {ρ : List Addr} {H : Hp} {S : Store} (hS : Reps K cA ρ H S) {d e : D} {x y : V} {b : Bool} (hd : RepV K ρ H d x) (he : RepV K ρ H e y) (h : eqO S d e = some b) :
    (scal x y = true ∧ b = decide (x = y)) ∨ ∃ p q, Dp K H x p ∧ Dp K H y q ∧ SeqAt.shaped p = true ∧ SeqAt.shaped q = true ∧ b = PyData.eqv p q := by
  unfold eqO at h
  split at h
  all_goals first
    | (unfold RepV at hd he; subst hd he; cases h; exact .inl ⟨rfl, by simp⟩)
    | skip
  unfold eqPy at h
  split at h
  · rename_i p q e1 e2
    split at h
    · rename_i hz
      cases h
      exact .inr ⟨p, q, toPy_rep hS _ _ _ _ e1 hd, toPy_rep hS _ _ _ _ e2 he, hz.1, hz.2, rfl⟩
    · cases h
  · cases h
theorem op_eqM (hu : X.A.units + 64 < cLine) : OpR X (compareOp .Eq) (tC2 X.K cA W eqD) := by
  refine OpR.imp ((op_eq (X := X)).or (op_eqD (X := X) hu)) fun x y H Q h => ?_
  obtain ⟨ρ, S, d, e, hS, hd, he, h⟩ := h
  unfold eqD at h
  split at h
  · rename_i b hb
    have q := h.same hS rfl
    rcases eqO_rep hS hd he hb with ⟨h1, h2⟩ | ⟨p, r, h1, h2, h3, h4, h5⟩
    · subst h2; exact .inl ⟨h1, q⟩
    · subst h5; exact .inr ⟨p, r, h1, h2, h3, h4, q⟩
  · exact h.elim
theorem op_neM (hu : X.A.units + 64 < cLine) : OpR X (compareOp .NotEq) (tC2 X.K cA W neD) := by
  refine OpR.imp ((op_ne (X := X)).or (op_neD (X := X) hu)) fun x y H Q h => ?_
  obtain ⟨ρ, S, d, e, hS, hd, he, h⟩ := h
  unfold neD at h
  split at h
  · rename_i b hb
    have q := h.same hS rfl
    rcases eqO_rep hS hd he hb with ⟨h1, h2⟩ | ⟨p, r, h1, h2, h3, h4, h5⟩
    · subst h2; exact .inl ⟨h1, q⟩
    · subst h5; exact .inr ⟨p, r, h1, h2, h3, h4, q⟩
  · exact h.elim
end

/-! ### is -/
def isD : D → D → Store → R Bool
  | .non, .non, S => .ok true S
  | _, .non, S => .ok false S
  | .bl a, .bl b, S => .ok (decide (a = b)) S
  | _, _, _ => .bad
def isNotD : D → D → Store → R Bool
  | .non, .non, S => .ok false S
  | _, .non, S => .ok true S
  | .bl a, .bl b, S => .ok (!decide (a = b)) S
  | _, _, _ => .bad
theorem rep_non {K : PySem.W.Frag} {ρ : List Addr} {H : Hp} {d : D} {v : V} (h : RepV K ρ H d v) : v = .non ↔ d = .non := by
  cases d with
  | non => unfold RepV at h; simp [h]
  | bl b => unfold RepV at h; simp [h]
  | int b => unfold RepV at h; simp [h]
  | str b => unfold RepV at h; simp [h]
  | tup b => unfold RepV at h; obtain ⟨a, vs, e, _⟩ := h; simp [e]
  | lis b => unfold RepV at h; obtain ⟨a, vs, e, _⟩ := h; simp [e]
  | ref b => unfold RepV at h; obtain ⟨a, _, e⟩ := h; simp [e]
  | exn b => unfold RepV at h; simp [h]
section
variable {X : Cx} {cA : Nat → Addr} {W : XK}
theorem op_isM : OpR X (compareOp .Is) (tC2 X.K cA W isD) := by
  refine OpR.imp ((op_isN (X := X)).or (op_is_bl (X := X))) fun x y H Q h => ?_
  obtain ⟨ρ, S, d, e, hS, hd, he, h⟩ := h
  unfold isD at h
  split at h
  · unfold RepV at hd he
    exact .inl ⟨he, by rw [hd]; exact h.same hS rfl⟩
  · rename_i hn
    have q := h.same hS rfl
    unfold RepV at he
    refine .inl ⟨he, ?_⟩
    have : ¬ x = .non := fun z => hn ((rep_non hd).mp z)
    rw [decide_eq_false this]
    exact q
  · unfold RepV at hd he
    exact .inr ⟨_, _, hd, he, h.same hS rfl⟩
  · exact h.elim
theorem op_isNotM : OpR X (compareOp .IsNot) (tC2 X.K cA W isNotD) := by
  refine OpR.imp ((op_notN (X := X)).or (op_isnot_bl (X := X))) fun x y H Q h => ?_
  obtain ⟨ρ, S, d, e, hS, hd, he, h⟩ := h
  unfold isNotD at h
  split at h
  · unfold RepV at hd he
    exact .inl ⟨he, by rw [hd]; exact h.same hS rfl⟩
  · rename_i hn
    have q := h.same hS rfl
    unfold RepV at he
    refine .inl ⟨he, ?_⟩
    have : ¬ x = .non := fun z => hn ((rep_non hd).mp z)
    rw [decide_eq_false this]
    exact q
  · unfold RepV at hd he
    exact .inr ⟨_, _, hd, he, h.same hS rfl⟩
  · exact h.elim
end

/-! ### in -/
def flatO : D → Option V
  | .non => some .non
  | .bl b => some (.bl b)
  | .int i => some (.int i)
  | .str x => some (.str x)
  | _ => none
def keyO : D → Option Key
  | .int i => some (.inl i)
  | .str x => some (.inr x)
  | _ => none
def dLook (kvs : List (Key × D)) (k : Key) : Option D := (kvs.find? fun kv => decide (kv.1 = k)).map (·.2)
def dPut (kvs : List (Key × D)) (k : Key) (v : D) : List (Key × D) :=
  if (kvs.any fun kv => decide (kv.1 = k)) = true then kvs.map (fun kv => if kv.1 = k then (kv.1, v) else kv) else kvs ++ [(k, v)]
def dDrop (kvs : List (Key × D)) (k : Key) : List (Key × D) := kvs.filter fun kv => decide (kv.1 ≠ k)
/-- one sign -/
def signO : D → Option Nat
  | .str x => match x.cps.toList with
    | [c] => some c
    | _ => none
  | _ => none
def inO (S : Store) (x y : D) : Option Bool := match y with
  | .str z => (signO x).map fun c => decide (c ∈ z.cps.toList)
  | _ => match seqOf S y with
    | some ys => match flatO x, mapO flatO ys with
      | some v, some vs => some (inV v vs)
      | _, _ => none
    | none => match y with
      | .ref n => match kvAt S n, keyO x with
        | some kvs, some k => some (dLook kvs k).isSome
        | _, _ => none
      | _ => none
def inD (x y : D) (S : Store) : R Bool := match inO S x y with
  | some b => .ok b S
  | none => .bad
def notInD (x y : D) (S : Store) : R Bool := match inO S x y with
  | some b => .ok (!b) S
  | none => .bad
section
variable {K : PySem.W.Frag} {cA : Nat → Addr} {ρ : List Addr} {H : Hp} {S : Store}
theorem flat_rep {d : D} {v w : V} (h : flatO d = some w) (r : RepV K ρ H d v) : v = w ∧ flatV w = true := by
  cases d with
  | non => unfold RepV at r; subst r; cases h; exact ⟨rfl, rfl⟩
  | bl b => unfold RepV at r; subst r; cases h; exact ⟨rfl, rfl⟩
  | int b => unfold RepV at r; subst r; cases h; exact ⟨rfl, rfl⟩
  | str b => unfold RepV at r; subst r; cases h; exact ⟨rfl, rfl⟩
  | _ => cases h
theorem flats_rep : ∀ {ds : List D} {vs ws : List V}, mapO flatO ds = some ws → RepVs K ρ H ds vs → vs = ws ∧ ws.all flatV = true
  | [], vs, ws, h, r => by unfold RepVs at r; subst r; cases h; exact ⟨rfl, rfl⟩
  | d :: ds, vs, ws, h, r => by
    unfold RepVs at r
    obtain ⟨v, q, rfl, h1, h2⟩ := r
    unfold mapO at h
    split at h
    · rename_i y ys e1 e2
      cases h
      obtain ⟨rfl, f1⟩ := flat_rep e1 h1
      obtain ⟨rfl, f2⟩ := flats_rep e2 h2
      exact ⟨rfl, by rw [List.all_cons, f1, f2]; rfl⟩
    · cases h
theorem key_rep {d : D} {v : V} {k : Key} (h : keyO d = some k) (r : RepV K ρ H d v) : v = kV k := by
  cases d with
  | int b => unfold RepV at r; subst r; cases h; rfl
  | str b => unfold RepV at r; subst r; cases h; rfl
  | _ => cases h
theorem sign_rep {d : D} {v : V} {c : Nat} (h : signO d = some c) (r : RepV K ρ H d v) : v = .str ⟨#[c]⟩ := by
  cases d with
  | str x =>
    unfold RepV at r
    unfold signO at h
    simp only at h
    split at h
    · rename_i c' e
      cases h
      rw [r]
      exact congrArg V.str (Str.ext' (Array.toList_inj.mp e))
    · cases h
  | _ => cases h
theorem look_rep : ∀ {kvs : List (Key × D)} {ps : List (Key × V)} (k : Key), RepP K ρ H kvs ps →
    match dLook kvs k with
    | some d => ∃ v, valV ps k = some v ∧ RepV K ρ H d v
    | none => valV ps k = none
  | [], ps, k, r => by unfold RepP at r; subst r; rfl
  | (j, x) :: kvs, ps, k, r => by
    unfold RepP at r
    obtain ⟨v, q, rfl, h1, h2⟩ := r
    by_cases e : j = k
    · have e1 : dLook ((j, x) :: kvs) k = some x := by simp [dLook, e]
      rw [e1]
      exact ⟨v, valV_pos e, h1⟩
    · have e1 : dLook ((j, x) :: kvs) k = dLook kvs k := by simp [dLook, List.find?_cons, e]
      rw [e1, valV_neg (p := (j, v)) e]
      exact look_rep k h2
theorem lookS_rep {kvs : List (Key × D)} {ps : List (Key × V)} (k : Key) (r : RepP K ρ H kvs ps) : (valV ps k).isSome = (dLook kvs k).isSome := by
  have h := look_rep k r
  split at h
  · rename_i d e; obtain ⟨v, h1, _⟩ := h; rw [h1, e]; rfl
  · rename_i e; rw [h, e]; rfl
theorem inO_rep (hS : Reps K cA ρ H S) {d e : D} {x y : V} {b : Bool} (hd : RepV K ρ H d x) (he : RepV K ρ H e y) (h : inO S d e = some b) :
    (∃ (c : Nat) (z : Str), x = .str ⟨#[c]⟩ ∧ y = .str z ∧ b = decide (c ∈ z.cps.toList)) ∨
    (∃ p xs, y = .ref p ∧ (SqL K H p xs ∨ SqT K H p xs) ∧ flatV x = true ∧ xs.all flatV = true ∧ b = inV x xs) ∨
    ∃ a o, y = .ref a ∧ DGet H a x o ∧ b = o.isSome := by
  unfold inO at h
  split at h
  · rename_i z
    unfold RepV at he
    cases es : signO d with
    | none => rw [es] at h; cases h
    | some c =>
      rw [es] at h
      cases h
      exact .inl ⟨c, z, sign_rep es hd, he, rfl⟩
  · split at h
    · rename_i ys ey
      obtain ⟨p, vs, rfl, hq, hr⟩ := seq_rep hS he ey
      split at h
      · rename_i v ws e1 e2
        cases h
        obtain ⟨rfl, f1⟩ := flat_rep e1 hd
        obtain ⟨rfl, f2⟩ := flats_rep e2 hr
        exact .inr (.inl ⟨p, vs, rfl, hq, f1, f2, rfl⟩)
      · cases h
    · split at h
      · split at h
        · rename_i kvs k e1 e2
          cases h
          obtain ⟨a, ps, rfl, ha, hp, hr⟩ := rkv_rep hS he e1
          have ek := key_rep e2 hd
          subst ek
          exact .inr (.inr ⟨a, _, rfl, (.inl ⟨ps, k, hp, rfl, rfl⟩ : DGet H a (kV k) (valV ps k)), (lookS_rep k hr).symm⟩)
        · cases h
      · cases h
end
section
variable {X : Cx} {cA : Nat → Addr} {W : XK}
theorem op_inDict (hu : X.A.units + 1 < cLine) : OpR X (compareOp .In) (fun x y H Q => ∃ a o, y = .ref a ∧ DGet H a x o ∧ Q (.bl o.isSome) H) := by
  intro pins s σ H x y v u Q I rx ry h
  obtain ⟨a, o, rfl, g, q⟩ := h
  obtain rfl : u = Value.ref a := ry
  exact d_in hu I g rx fun s3 I3 => ⟨.bl o.isSome, H, I3, rfl, q⟩
theorem op_notInDict (hu : X.A.units + 1 < cLine) : OpR X (compareOp .NotIn) (fun x y H Q => ∃ a o, y = .ref a ∧ DGet H a x o ∧ Q (.bl (!o.isSome)) H) := by
  intro pins s σ H x y v u Q I rx ry h
  obtain ⟨a, o, rfl, g, q⟩ := h
  obtain rfl : u = Value.ref a := ry
  exact d_notIn hu I g rx fun s3 I3 => ⟨.bl (!o.isSome), H, I3, rfl, q⟩
theorem op_inM (hu : X.A.units + 1 < cLine) : OpR X (compareOp .In) (tC2 X.K cA W inD) := by
  refine OpR.imp ((op_in_sign (X := X)).or ((op_in_seq (X := X)).or (op_inDict (X := X) hu))) fun x y H Q h => ?_
  obtain ⟨ρ, S, d, e, hS, hd, he, h⟩ := h
  unfold inD at h
  split at h
  · rename_i b hb
    have q := h.same hS rfl
    rcases inO_rep hS hd he hb with ⟨c, z, h1, h2, h3⟩ | ⟨p, xs, h1, h2, h3, h4, h5⟩ | ⟨a, o, h1, h2, h3⟩
    · subst h3; exact .inl ⟨c, z, h1, h2, q⟩
    · subst h5; exact .inr (.inl ⟨p, xs, h1, h2, h3, h4, q⟩)
    · subst h3; exact .inr (.inr ⟨a, o, h1, h2, q⟩)
  · exact h.elim
theorem op_notInM (hu : X.A.units + 1 < cLine) : OpR X (compareOp .NotIn) (tC2 X.K cA W notInD) := by
  refine OpR.imp ((op_notIn_sign (X := X)).or ((op_notIn_seq (X := X)).or (op_notInDict (X := X) hu))) fun x y H Q h => ?_
  obtain ⟨ρ, S, d, e, hS, hd, he, h⟩ := h
  unfold notInD at h
  split at h
  · rename_i b hb
    have q := h.same hS rfl
    rcases inO_rep hS hd he hb with ⟨c, z, h1, h2, h3⟩ | ⟨p, xs, h1, h2, h3, h4, h5⟩ | ⟨a, o, h1, h2, h3⟩
    · subst h3; exact .inl ⟨c, z, h1, h2, q⟩
    · subst h5; exact .inr (.inl ⟨p, xs, h1, h2, h3, h4, q⟩)
    · subst h3; exact .inr (.inr ⟨a, o, h1, h2, q⟩)
  · exact h.elim
end
end ML

set_option Elab.async false
set_option linter.all false
set_option maxRecDepth 100000
set_option autoImplicit false
/-! ML4: expressions. -/
namespace ML
open PySem PySem.Spec L2

/-! ### chaining -/
def Mono {α β : Type} (rep : Rel α β) : Prop := ∀ (H0 : Hp) (ρ : List Addr) (H : Hp) (ρ' : List Addr) (H' : Hp) (a : α) (b : β), Ext ρ H ρ' H' → rep H0 ρ H a b → rep H0 ρ' H' a b
theorem mo_V {K : PySem.W.Frag} : Mono (rV K) := fun _ _ _ _ _ _ _ e h => h.ext e
theorem mo_Vs {K : PySem.W.Frag} : Mono (rVs K) := fun _ _ _ _ _ _ _ e h => h.ext e
theorem mo_Id {α : Type} : Mono (rId (α := α)) := fun _ _ _ _ _ _ _ _ h => h
theorem mo_New {K : PySem.W.Frag} : Mono (rNew K) := fun H0 ρ H ρ' H' a b e h => by
  obtain ⟨p, vs, ev, h0, h1, h2, h3⟩ := h
  refine ⟨p, vs, ev, h0, fun hm => ?_, e.keep p _ h2 h1, h3.ext e⟩
  obtain ⟨r, er, nr⟩ := e.pre
  rw [er] at hm
  rcases List.mem_append.mp hm with z | z
  · exact h1 z
  · have := nr p z
    rw [h2] at this; cases this
section
variable {K : PySem.W.Frag} {cA : Nat → Addr} {W : XK} {α β γ δ ε ζ η θ : Type} {rep : Rel γ δ} {rep1 : Rel α β} {rep2 : Rel ε ζ} {rep3 : Rel η θ}
theorem bind1 (st : Stable rep) {m : Loc → Store → R α} {f : α → Store → R γ} {σ : L2.St} {H : Hp} {Q : δ → Hp → Prop}
    (h : tG K cA W rep (fun l S => (m l S).bind f) σ H Q) :
    tG K cA W rep1 m σ H fun x H1 => ∃ ρ S a, Reps K cA ρ H1 S ∧ rep1 H ρ H1 a x ∧ After K cA W ρ H1 rep (f a S) Q := by
  obtain ⟨ρ, S, l, hS, hl, h⟩ := h
  refine ⟨ρ, S, l, hS, hl, (After.bind (rep := rep1) st h).imp fun x H1 q => ?_⟩
  obtain ⟨ρ1, S1, a, _, h1, h2, h3⟩ := q
  exact ⟨ρ1, S1, a, h1, h2, h3⟩
theorem bind1L (st : Stable rep) {m : Loc → Store → R α} {f : Loc → α → Store → R γ} {σ : L2.St} {H : Hp} {Q : δ → Hp → Prop}
    (h : tG K cA W rep (fun l S => (m l S).bind (f l)) σ H Q) :
    tG K cA W rep1 m σ H fun x H1 => ∃ ρ S l a, Reps K cA ρ H1 S ∧ RepL K ρ H1 l σ ∧ rep1 H ρ H1 a x ∧ After K cA W ρ H1 rep (f l a S) Q := by
  obtain ⟨ρ, S, l, hS, hl, h⟩ := h
  refine ⟨ρ, S, l, hS, hl, (After.bind (rep := rep1) st h).imp fun x H1 q => ?_⟩
  obtain ⟨ρ1, S1, a, e, h1, h2, h3⟩ := q
  exact ⟨ρ1, S1, l, a, h1, hl.ext e, h2, h3⟩
theorem bind2 (st : Stable rep) (mo : Mono rep1) {m : Loc → Store → R α} {n : Loc → Store → R ε} {f : α → ε → Store → R γ} {σ : L2.St} {H : Hp} {Q : δ → Hp → Prop}
    (h : tG K cA W rep (fun l S => (m l S).bind fun a S1 => (n l S1).bind (f a)) σ H Q) :
    tG K cA W rep1 m σ H fun x H1 => tG K cA W rep2 n σ H1 fun y H2 => ∃ ρ S a b, Reps K cA ρ H2 S ∧ rep1 H ρ H2 a x ∧ rep2 H1 ρ H2 b y ∧ After K cA W ρ H2 rep (f a b S) Q := by
  obtain ⟨ρ, S, l, hS, hl, h⟩ := h
  refine ⟨ρ, S, l, hS, hl, (After.bind (rep := rep1) st h).imp fun x H1 q => ?_⟩
  obtain ⟨ρ1, S1, a, e1, h1, h2, h3⟩ := q
  refine ⟨ρ1, S1, l, h1, hl.ext e1, (After.bind (rep := rep2) st h3).imp fun y H2 q => ?_⟩
  obtain ⟨ρ2, S2, b, e2, h4, h5, h6⟩ := q
  exact ⟨ρ2, S2, a, b, h4, mo _ _ _ _ _ _ _ e2 h2, h5, h6⟩
theorem bind3 (st : Stable rep) (mo : Mono rep1) (mo2 : Mono rep2) {m : Loc → Store → R α} {n : Loc → Store → R ε} {o : Loc → Store → R η} {f : α → ε → η → Store → R γ} {σ : L2.St} {H : Hp} {Q : δ → Hp → Prop}
    (h : tG K cA W rep (fun l S => (m l S).bind fun a S1 => (n l S1).bind fun b S2 => (o l S2).bind (f a b)) σ H Q) :
    tG K cA W rep1 m σ H fun x H1 => tG K cA W rep2 n σ H1 fun y H2 => tG K cA W rep3 o σ H2 fun z H3 =>
      ∃ ρ S a b c, Reps K cA ρ H3 S ∧ rep1 H ρ H3 a x ∧ rep2 H1 ρ H3 b y ∧ rep3 H2 ρ H3 c z ∧ After K cA W ρ H3 rep (f a b c S) Q := by
  obtain ⟨ρ, S, l, hS, hl, h⟩ := h
  refine ⟨ρ, S, l, hS, hl, (After.bind (rep := rep1) st h).imp fun x H1 q => ?_⟩
  obtain ⟨ρ1, S1, a, e1, h1, h2, h3⟩ := q
  refine ⟨ρ1, S1, l, h1, hl.ext e1, (After.bind (rep := rep2) st h3).imp fun y H2 q => ?_⟩
  obtain ⟨ρ2, S2, b, e2, h4, h5, h6⟩ := q
  refine ⟨ρ2, S2, l, h4, (hl.ext e1).ext e2, (After.bind (rep := rep3) st h6).imp fun z H3 q => ?_⟩
  obtain ⟨ρ3, S3, c, e3, h7, h8, h9⟩ := q
  exact ⟨ρ3, S3, a, b, c, h7, mo _ _ _ _ _ _ _ e3 (mo _ _ _ _ _ _ _ e2 h2), mo2 _ _ _ _ _ _ _ e3 h5, h8, h9⟩
theorem tG.imp {m : Loc → Store → R γ} {σ : L2.St} {H : Hp} {Q Q' : δ → Hp → Prop} (h : tG K cA W rep m σ H Q) (q : ∀ b H', Q b H' → Q' b H') : tG K cA W rep m σ H Q' :=
  let ⟨ρ, S, l, hS, hl, h⟩ := h; ⟨ρ, S, l, hS, hl, h.imp q⟩
end

/-! ### names, constants -/
def varE (i : Nat) : ME := fun l S => match l[i]? with
  | some (some d) => .ok d S
  | _ => .bad
def conE (d : D) : ME := fun _ S => .ok d S
section
variable {X : Cx} {cA : Nat → Addr} {W : XK} {pos : Pos}
theorem mvar {i : Nat} {x : Str} (hN : X.N[i]? = some x) (hv : Vis X.env.scope x) (hd : (x == ("__debug__" : Str)) = false := by decide) (hcd : (x == ("__classdict__" : Str)) = false := by decide) : PE X (.Name x pos) (tE X.K cA W (varE i)) :=
  (pe_var hN hv hd hcd).imp fun σ H Q h => by
    obtain ⟨ρ, S, l, hS, hl, h⟩ := h
    unfold varE at h
    split at h
    · rename_i d e
      obtain ⟨v, hv, r⟩ := hl.at_ i d e
      exact ⟨v, hv, h.same hS r⟩
    · exact h.elim
theorem mcon {e : Expr} {d : D} {v : V} (h : PE X e (tC v)) (hr : ∀ (ρ : List Addr) (H : Hp), RepV X.K ρ H d v) : PE X e (tE X.K cA W (conE d)) :=
  h.imp fun σ H Q q => by
    obtain ⟨ρ, S, l, hS, hl, q⟩ := q
    exact After.same q hS (hr ρ H)
theorem mint {i : Int} {j : Nat} : PE X (.Constant (.int i) j pos) (tE X.K cA W (conE (.int i))) := mcon pe_int fun ρ H => by unfold RepV; rfl
theorem mstr {x : Str} {j : Nat} : PE X (.Constant (.str x) j pos) (tE X.K cA W (conE (.str x))) := mcon pe_str fun ρ H => by unfold RepV; rfl
theorem mbl {b : Bool} {j : Nat} : PE X (.Constant (.bool b) j pos) (tE X.K cA W (conE (.bl b))) := mcon pe_bl fun ρ H => by unfold RepV; rfl
theorem mnon {j : Nat} : PE X (.Constant .none j pos) (tE X.K cA W (conE .non)) := mcon pe_non fun ρ H => by unfold RepV; rfl
/-- a number that stands at the module -/
theorem mgint {x : Str} {i : Int} (hg : Gl X x) (hm : ∃ t, X.mg x = some (.int i t)) (hd : (x == ("__debug__" : Str)) = false := by decide) : PE X (.Name x pos) (tE X.K cA W (conE (.int i))) := by
  obtain ⟨t, hm⟩ := hm
  exact mcon (pe_glob (v := .int i) hg hm ⟨t, rfl⟩ hd) fun ρ H => by unfold RepV; rfl
/-- a tuple that stands at the module -/
theorem mgtup {x : Str} {ds : List D} {vs : List V} {a : Addr} (hg : Gl X x) (hm : X.mg x = some (.ref a)) (hs : ∀ H, SqT X.K H a vs) (hr : ∀ ρ H, RepVs X.K ρ H ds vs) (hd : (x == ("__debug__" : Str)) = false := by decide) : PE X (.Name x pos) (tE X.K cA W (conE (.tup ds))) :=
  mcon (pe_glob (v := .ref a) hg hm rfl hd) fun ρ H => by unfold RepV; exact ⟨a, vs, rfl, hs H, hr ρ H⟩
end

/-! ### operators -/
def binE (f : D → D → Store → R D) (m n : ME) : ME := fun l S => (m l S).bind fun a S1 => (n l S1).bind (f a)
def unE (f : D → Store → R D) (m : ME) : ME := fun l S => (m l S).bind f
def cmpM (f : D → D → Store → R Bool) (m n : ME) : MB := fun l S => (m l S).bind fun a S1 => (n l S1).bind (f a)
def toV (m : MB) : ME := fun l S => (m l S).bind fun b S1 => .ok (.bl b) S1
def chainM (f g : D → D → Store → R Bool) (m n o : ME) : MB := fun l S => (m l S).bind fun a S1 => (n l S1).bind fun b S2 => (f a b S2).bind fun t S3 => if t = true then (o l S3).bind (g b) else .ok false S3
def andM (m n : MB) : MB := fun l S => (m l S).bind fun b S1 => if b = true then n l S1 else .ok false S1
def orM (m n : MB) : MB := fun l S => (m l S).bind fun b S1 => if b = true then .ok true S1 else n l S1
def notM (m : MB) : MB := fun l S => (m l S).bind fun b S1 => .ok (!b) S1
def isBl : D → Option Bool
  | .bl b => some b
  | _ => none
def ofV (m : ME) : MB := fun l S => (m l S).bind fun d S1 => match isBl d with
  | some b => .ok b S1
  | none => .bad
def andV (m : MB) (n : ME) : ME := fun l S => (m l S).bind fun b S1 => if b = true then n l S1 else .ok (.bl false) S1
def orV (m : MB) (n : ME) : ME := fun l S => (m l S).bind fun b S1 => if b = true then .ok (.bl true) S1 else n l S1
def ifE (c : MB) (m n : ME) : ME := fun l S => (c l S).bind fun b S1 => if b = true then m l S1 else n l S1
section
variable {X : Cx} {cA : Nat → Addr} {W : XK} {pos : Pos} {a b c : Expr} {m n o : ME} {p q : MB} {f g : D → D → Store → R Bool}
theorem mbin {op : Operator} {f : D → D → Store → R D} (ho : OpR X (binaryOp op) (t2 X.K cA W (rV X.K) f)) (ha : PE X a (tE X.K cA W m)) (hb : PE X b (tE X.K cA W n)) : PE X (.BinOp a op b pos) (tE X.K cA W (binE f m n)) :=
  (pe_op ho ha hb).imp fun σ H Q h => bind2 st_V mo_V h
theorem mun {op : UnaryOp} {f : D → Store → R D} (ho : UnR X (unaryOp op) (t1 X.K cA W (rV X.K) f)) (ha : PE X a (tE X.K cA W m)) : PE X (.UnaryOp op a pos) (tE X.K cA W (unE f m)) :=
  (pe_un ho ha).imp fun σ H Q h => bind1 st_V h
theorem After.toV {K : PySem.W.Frag} {ρ : List Addr} {H : Hp} {Q : V → Hp → Prop} {r : R Bool} (h : After K cA W ρ H (rV K) (r.bind fun b S1 => .ok (.bl b) S1) Q) : After K cA W ρ H rId r fun b H' => Q (.bl b) H' := by
  cases r with
  | ok b S => exact fun ρ' H' b' e hs hb => by subst hb; exact h ρ' H' (.bl b) e hs (by unfold rV RepV; rfl)
  | ex x S => exact h
  | bad => exact h
theorem tE_toV {σ : L2.St} {H : Hp} {Q : VK} (h : tE X.K cA W (toV p) σ H Q) : tT X.K cA W p σ H fun b H' => Q (.bl b) H' :=
  let ⟨ρ, S, l, hS, hl, h⟩ := h; ⟨ρ, S, l, hS, hl, h.toV⟩
theorem mcmp {op : CmpOp} (ho : OpR X (compareOp op) (tC2 X.K cA W f)) (ha : PE X a (tE X.K cA W m)) (hb : PE X b (tE X.K cA W n)) (hm : behindInMarks op b = false) : PE X (.Compare a [op] [b] pos) (tE X.K cA W (toV (cmpM f m n))) :=
  (pe_cmpR ho ha hb hm).imp fun σ H Q h => bind2 st_Id mo_V (tE_toV h)
theorem mcmpT {op : CmpOp} (ho : OpR X (compareOp op) (tC2 X.K cA W f)) (ha : PE X a (tE X.K cA W m)) (hb : PE X b (tE X.K cA W n)) (hm : behindInMarks op b = false) : PT X (.Compare a [op] [b] pos) (tT X.K cA W (cmpM f m n)) :=
  (pt_cmpR ho ha hb hm).imp fun σ H Q h => (bind2 st_Id mo_V h).imp fun x H1 h => tG.imp h fun y H2 h => by
    obtain ⟨ρ, S, d, e, hS, hd, he, h⟩ := h
    exact ⟨ρ, S, d, e, hS, hd, he, h.imp fun t H3 q => ⟨t, rfl, q⟩⟩
/-- what a chain asks -/
theorem chain_of {σ : L2.St} {H : Hp} {Q : Bool → Hp → Prop} {Q' : VK} (hQ : ∀ t H', Q t H' → Q' (.bl t) H') (h : tT X.K cA W (chainM f g m n o) σ H Q) :
    tChain (tC2 X.K cA W f) (tC2 X.K cA W g) (tE X.K cA W m) (tE X.K cA W n) (tE X.K cA W o) σ H Q' := by
  obtain ⟨ρ, S, l, hS, hl, h⟩ := h
  refine ⟨ρ, S, l, hS, hl, (After.bind (rep := rV X.K) st_Id h).imp fun x H1 q => ?_⟩
  obtain ⟨ρ1, S1, d, e1, h1, h2, h3⟩ := q
  refine ⟨ρ1, S1, l, h1, hl.ext e1, (After.bind (rep := rV X.K) st_Id h3).imp fun y H2 q => ?_⟩
  obtain ⟨ρ2, S2, e, e2, h4, h5, h6⟩ := q
  refine ⟨ρ2, S2, d, e, h4, h2.ext e2, h5, (After.bind (rep := rId) st_Id h6).imp fun t H3 q => ?_⟩
  obtain ⟨ρ3, S3, t', e3, h7, h8, h9⟩ := q
  subst h8
  refine ⟨t', rfl, ?_⟩
  cases t' with
  | true =>
    simp only [if_true] at h9 ⊢
    refine ⟨ρ3, S3, l, h7, ((hl.ext e1).ext e2).ext e3, (After.bind (rep := rV X.K) st_Id h9).imp fun z H4 q => ?_⟩
    obtain ⟨ρ4, S4, d4, e4, h10, h11, h12⟩ := q
    exact ⟨ρ4, S4, e, d4, h10, (h5.ext e3).ext e4, h11, h12.imp hQ⟩
  | false =>
    exact hQ _ _ (After.same h9 h7 rfl)
theorem mchain {op op' : CmpOp} (ho : OpR X (compareOp op) (tC2 X.K cA W f)) (ho' : OpR X (compareOp op') (tC2 X.K cA W g)) (ha : PE X a (tE X.K cA W m)) (hb : PE X b (tE X.K cA W n)) (hc : PE X c (tE X.K cA W o))
    (hm : lastMarks [op, op'] [b, c] = false := by with_unfolding_all rfl) : PE X (.Compare a [op, op'] [b, c] pos) (tE X.K cA W (toV (chainM f g m n o))) :=
  (pe_chain ho ho' ha hb hc hm).imp fun σ H Q h => chain_of (fun _ _ q => q) (tE_toV h)
theorem mchainT {op op' : CmpOp} (ho : OpR X (compareOp op) (tC2 X.K cA W f)) (ho' : OpR X (compareOp op') (tC2 X.K cA W g)) (ha : PE X a (tE X.K cA W m)) (hb : PE X b (tE X.K cA W n)) (hc : PE X c (tE X.K cA W o))
    (hm : lastMarks [op, op'] [b, c] = false := by with_unfolding_all rfl) : PT X (.Compare a [op, op'] [b, c] pos) (tT X.K cA W (chainM f g m n o)) :=
  (pt_chain ho ho' ha hb hc hm).imp fun σ H Q h => chain_of (fun t _ q => ⟨t, rfl, q⟩) h
/-! tests -/
theorem mand1 (ha : PT X a (tT X.K cA W p)) : PW X (.BoolOp .And [a] pos) (tT X.K cA W p) := pw_and1 ha
theorem mor1 (ha : PT X a (tT X.K cA W p)) : PW X (.BoolOp .Or [a] pos) (tT X.K cA W p) := pw_or1 ha
theorem and_of {R' : Type} {δ : Type} {rep : Rel R' δ} (st : Stable rep) {k : Loc → Bool → Store → R R'} {σ : L2.St} {H : Hp} {Q : δ → Hp → Prop} (h : tG X.K cA W rep (fun l S => (p l S).bind (k l)) σ H Q) :
    tT X.K cA W p σ H fun t H1 => ∃ ρ S l, Reps X.K cA ρ H1 S ∧ RepL X.K ρ H1 l σ ∧ After X.K cA W ρ H1 rep (k l t S) Q := by
  refine (bind1L (rep1 := rId) st h).imp fun x H1 q => ?_
  obtain ⟨ρ, S, l, t, h1, h2, h3, h4⟩ := q
  subst h3
  exact ⟨ρ, S, l, h1, h2, h4⟩
theorem mandT {rest : List Expr} (ha : PT X a (tT X.K cA W p)) (hb : PW X (.BoolOp .And (b :: rest) pos) (tT X.K cA W q)) : PW X (.BoolOp .And (a :: b :: rest) pos) (tT X.K cA W (andM p q)) :=
  (pw_and ha hb).imp fun σ H Q h => (and_of st_Id h).imp fun t H1 q => by
    obtain ⟨ρ, S, l, h1, h2, h3⟩ := q
    cases t with
    | true => exact ⟨ρ, S, l, h1, h2, h3⟩
    | false => exact After.same h3 h1 rfl
theorem morT {rest : List Expr} (ha : PT X a (tT X.K cA W p)) (hb : PW X (.BoolOp .Or (b :: rest) pos) (tT X.K cA W q)) : PW X (.BoolOp .Or (a :: b :: rest) pos) (tT X.K cA W (orM p q)) :=
  (pw_or ha hb).imp fun σ H Q h => (and_of st_Id h).imp fun t H1 q => by
    obtain ⟨ρ, S, l, h1, h2, h3⟩ := q
    cases t with
    | true => exact After.same h3 h1 rfl
    | false => exact ⟨ρ, S, l, h1, h2, h3⟩
theorem mnotT (ha : PT X a (tT X.K cA W p)) : PT X (.UnaryOp .Not a pos) (tT X.K cA W (notM p)) :=
  (pt_not ha).imp fun σ H Q h => (and_of st_Id h).imp fun t H1 q => by
    obtain ⟨ρ, S, l, h1, h2, h3⟩ := q
    exact After.same h3 h1 rfl
/-! values -/
theorem After.ofV {K : PySem.W.Frag} {ρ : List Addr} {H : Hp} {Q : Bool → Hp → Prop} {r : R D} (h : After K cA W ρ H rId (r.bind fun d S1 => match isBl d with | some b => .ok b S1 | none => .bad) Q) :
    After K cA W ρ H (rV K) r fun v H' => ∃ t, v = .bl t ∧ Q t H' := by
  cases r with
  | ok d S =>
    intro ρ' H' v e hs hv
    cases d with
    | bl t => unfold rV RepV at hv; exact ⟨t, hv, h ρ' H' t e hs rfl⟩
    | _ => exact h.elim
  | ex x S => exact h
  | bad => exact h
/-- a value that is a truth, asked -/
theorem ofV_of {σ : L2.St} {H : Hp} {Q : Bool → Hp → Prop} (h : tT X.K cA W (ofV m) σ H Q) : tE X.K cA W m σ H fun v H' => ∃ t, v = .bl t ∧ Q t H' :=
  let ⟨ρ, S, l, hS, hl, h⟩ := h; ⟨ρ, S, l, hS, hl, h.ofV⟩
theorem mval (ha : PE X a (tE X.K cA W m)) (he : ∀ whole, isTrue a X.env whole = (do let v ← whole; standAt a.pos; holding [v] (truthy v)) := by intro _; rfl) : PT X a (tT X.K cA W (ofV m)) :=
  (pt_val ha he).imp fun σ H Q h => ofV_of h
theorem mand {rest : List Expr} (ha : PE X a (tE X.K cA W m)) (hb : PE X (.BoolOp .And (b :: rest) pos) (tE X.K cA W n)) : PE X (.BoolOp .And (a :: b :: rest) pos) (tE X.K cA W (andV (ofV m) n)) :=
  (pe_and ha hb).imp fun σ H Q h => ofV_of ((and_of (p := ofV m) st_V h).imp fun t H1 q => by
    obtain ⟨ρ, S, l, h1, h2, h3⟩ := q
    cases t with
    | true => exact ⟨ρ, S, l, h1, h2, h3⟩
    | false => exact After.same h3 h1 (by unfold rV RepV; rfl))
theorem mor {rest : List Expr} (ha : PE X a (tE X.K cA W m)) (hb : PE X (.BoolOp .Or (b :: rest) pos) (tE X.K cA W n)) : PE X (.BoolOp .Or (a :: b :: rest) pos) (tE X.K cA W (orV (ofV m) n)) :=
  (pe_or ha hb).imp fun σ H Q h => ofV_of ((and_of (p := ofV m) st_V h).imp fun t H1 q => by
    obtain ⟨ρ, S, l, h1, h2, h3⟩ := q
    cases t with
    | true => exact After.same h3 h1 (by unfold rV RepV; rfl)
    | false => exact ⟨ρ, S, l, h1, h2, h3⟩)
theorem mone {op : BoolOp} (h : PE X a (tE X.K cA W m)) : PE X (.BoolOp op [a] pos) (tE X.K cA W m) := pe_one h
theorem mnot (ha : PE X a (tE X.K cA W m)) : PE X (.UnaryOp .Not a pos) (tE X.K cA W (toV (notM (ofV m)))) :=
  (pe_not ha).imp fun σ H Q h => ofV_of ((and_of (p := ofV m) st_Id (tE_toV h)).imp fun t H1 q => by
    obtain ⟨ρ, S, l, h1, h2, h3⟩ := q
    exact After.same (Q := fun b H' => Q (.bl b) H') (rep := rId) (b := !t) h3 h1 rfl)
theorem mif (hc : PT X c (tT X.K cA W p)) (ha : PE X a (tE X.K cA W m)) (hb : PE X b (tE X.K cA W n)) : PE X (.IfExp c a b pos) (tE X.K cA W (ifE p m n)) :=
  (pe_ifExp hc ha hb).imp fun σ H Q h => (and_of (p := p) st_V h).imp fun t H1 q => by
    obtain ⟨ρ, S, l, h1, h2, h3⟩ := q
    cases t with
    | true => exact ⟨ρ, S, l, h1, h2, h3⟩
    | false => exact ⟨ρ, S, l, h1, h2, h3⟩
end
end ML

set_option Elab.async false
set_option linter.all false
set_option maxRecDepth 100000
set_option autoImplicit false
/-! ML5: displays, items, slices, calls of what is built in. -/
namespace ML
open PySem PySem.Spec L2

/-! ### arguments, displays -/
def nilA : MA := fun _ S => .ok [] S
def consA (m : ME) (n : MA) : MA := fun l S => (m l S).bind fun d S1 => (n l S1).bind fun ds S2 => .ok (d :: ds) S2
def tupE (m : MA) : ME := fun l S => (m l S).bind fun ds S1 => if ds.length ≤ sizeLine then .ok (.tup ds) S1 else .bad
def lstN (m : MA) : MA := fun l S => (m l S).bind fun ds S1 => if ds.length ≤ sizeLine then .ok ds S1 else .bad
def allocE (m : MA) : ME := fun l S => (m l S).bind fun ds S1 => newC (.lst ds) S1
section
variable {X : Cx} {cA : Nat → Addr} {W : XK} {pos : Pos} {e : Expr} {es : List Expr} {m : ME} {n : MA}
theorem anil : PA X [] (tAs X.K cA W nilA) := pa_nil.imp fun σ H Q h => by
  obtain ⟨ρ, S, l, hS, hl, h⟩ := h
  exact After.same h hS .nil
theorem acons (ha : PE X e (tE X.K cA W m)) (hr : PA X es (tAs X.K cA W n)) (hs : starEach (e :: es) X.env = (false, eval e X.env) :: starEach es X.env := by rfl) : PA X (e :: es) (tAs X.K cA W (consA m n)) :=
  (pa_cons ha hr hs).imp fun σ H Q h => (bind2 (rep1 := rV X.K) (rep2 := rVs X.K) st_Vs mo_V h).imp fun x H1 h => tG.imp h fun xs H2 h => by
    obtain ⟨ρ, S, a, b, hS, h1, h2, h⟩ := h
    exact After.same h hS (.cons h1 h2)
theorem mtup {k : Nat} (h : PA X es (tAs X.K cA W n)) : PE X (.Tuple es k pos) (tE X.K cA W (tupE n)) :=
  (pe_tup h).imp fun σ H Q h => (bind1 (rep1 := rVs X.K) st_V h).imp fun xs H1 h => by
    obtain ⟨ρ, S, ds, hS, hr, h⟩ := h
    split at h
    · rename_i hz
      exact ⟨by rw [RepVs.length hr]; exact hz, fun p hp => h.tup hS hp hr⟩
    · exact h.elim
/-- a new list, told as new -/
theorem After.fresh {K : PySem.W.Frag} {ρ : List Addr} {H : Hp} {S : Store} {ds : List D} {vs : List V} {p : Addr} {Q : V → Hp → Prop} (h : After K cA W ρ H (rNew K) (.ok ds S) Q) (hS : Reps K cA ρ H S) (hp : H p = none) (hr : RepVs K ρ H ds vs) : Q (.ref p) (upd H p (.lst vs)) :=
  h ρ _ _ (Ext.new hp) (hS.new hp) ⟨p, vs, rfl, hp, hS.free hp, upd_same, hr.ext (Ext.new hp)⟩
theorem mlst (h : PA X es (tAs X.K cA W n)) : PE X (.List es pos) (tNw X.K cA W (lstN n)) :=
  (pe_lst h).imp fun σ H Q h => (bind1 (rep1 := rVs X.K) st_New h).imp fun xs H1 h => by
    obtain ⟨ρ, S, ds, hS, hr, h⟩ := h
    split at h
    · rename_i hz
      exact ⟨by rw [RepVs.length hr]; exact hz, fun p hp => h.fresh hS hp hr⟩
    · exact h.elim
/-- a new list is taken into the store -/
theorem malloc {n : MA} (h : PE X e (tNw X.K cA W n)) : PE X e (tE X.K cA W (allocE n)) := h.imp fun σ H Q h => by
  obtain ⟨ρ, S, l, hS, hl, h⟩ := h
  refine ⟨ρ, S, l, hS, hl, ?_⟩
  unfold allocE at h
  generalize n l S = r at h
  cases r with
  | ok ds S1 =>
    intro ρ' H' v e1 hs hr
    obtain ⟨p, vs, rfl, h0, hn, h1, h2⟩ := hr
    refine h (ρ' ++ [p]) H' (.ref p) (e1.take h0) (hs.push hn ⟨vs, h1, h2⟩) ?_
    show RepV X.K (ρ' ++ [p]) H' (.ref S1.length) (.ref p)
    unfold RepV
    exact ⟨p, by rw [← hs.len, List.getElem?_append_right (Nat.le_refl _)]; simp, rfl⟩
  | ex x S1 => exact h
  | bad => exact h
/-- a tuple is met as a tuple that stands -/
theorem mnew_of {n : MA} {σ : L2.St} {H : Hp} {Q : VK} {β' : Type} {α' : Type} {rep : Rel α' β'} {f : List D → Store → R α'} {Q' : β' → Hp → Prop} (st : Stable rep) (h : tG X.K cA W rep (fun l S => (n l S).bind f) σ H Q') :
    tNw X.K cA W n σ H fun v H1 => ∃ ρ S ds p vs, Reps X.K cA ρ H1 S ∧ v = .ref p ∧ SqL X.K H1 p vs ∧ RepVs X.K ρ H1 ds vs ∧ After X.K cA W ρ H1 rep (f ds S) Q' :=
  (bind1 (rep1 := rNew X.K) st h).imp fun v H1 h => by
    obtain ⟨ρ, S, ds, hS, ⟨p, vs, ev, _, _, h1, h2⟩, h⟩ := h
    exact ⟨ρ, S, ds, p, vs, hS, ev, SqL.of h1, h2, h⟩
end

/-! ### built-in calls by values -/
/-- of one list: a new one, or one that stands -/
def tL1 (K : PySem.W.Frag) (cA : Nat → Addr) (W : XK) {α β : Type} (rep : Rel α β) (f : List D → Store → R α) : List V → Hp → (β → Hp → Prop) → Prop := fun xs H Q =>
  ∃ ρ S ds p vs, Reps K cA ρ H S ∧ xs = [.ref p] ∧ SqL K H p vs ∧ RepVs K ρ H ds vs ∧ After K cA W ρ H rep (f ds S) Q
def newL {α : Type} (f : List D → Store → R α) (n : MA) : Loc → Store → R α := fun l S => (n l S).bind f
def ofL {α : Type} (f : List D → Store → R α) (m : ME) : Loc → Store → R α := fun l S => (m l S).bind fun d S1 => match lstOf S1 d with
  | some ds => f ds S1
  | none => .bad
def callA (f : List D → Store → R D) (n : MA) : ME := fun l S => (n l S).bind f
section
variable {X : Cx} {cA : Nat → Addr} {W : XK} {pos p0 : Pos} {e : Expr} {es : List Expr} {m : ME} {n : MA} {x : Str} {id T : String} {f : List D → Store → R D}
theorem newL_of {α β : Type} {rep : Rel α β} {f : List D → Store → R α} (st : Stable rep) {σ : L2.St} {H : Hp} {Q : β → Hp → Prop} (h : tG X.K cA W rep (newL f n) σ H Q) : tCons (tNw X.K cA W n) tNil σ H fun xs H1 => tL1 X.K cA W rep f xs H1 Q :=
  (bind1 (rep1 := rNew X.K) st h).imp fun v H1 h => by
    obtain ⟨ρ, S, ds, hS, ⟨p, vs, rfl, _, _, h1, h2⟩, h⟩ := h
    exact ⟨ρ, S, ds, p, vs, hS, rfl, SqL.of h1, h2, h⟩
theorem ofL_of {α β : Type} {rep : Rel α β} {f : List D → Store → R α} (st : Stable rep) {σ : L2.St} {H : Hp} {Q : β → Hp → Prop} (h : tG X.K cA W rep (ofL f m) σ H Q) : tCons (tE X.K cA W m) tNil σ H fun xs H1 => tL1 X.K cA W rep f xs H1 Q :=
  (bind1 (rep1 := rV X.K) st h).imp fun v H1 h => by
    obtain ⟨ρ, S, d, hS, hr, h⟩ := h
    split at h
    · rename_i ds e1
      obtain ⟨p, vs, rfl, h1, h2⟩ := lst_rep hS hr e1
      exact ⟨ρ, S, ds, p, vs, hS, rfl, h1, h2, h⟩
    · exact h.elim
/-- f(new list), f built in -/
theorem mcallN {α : Type} {rep : Rel α V} {f : List D → Store → R α} (st : Stable rep) (hc : CallR X (.builtin id) (tL1 X.K cA W rep f)) (hg : Gl X x) (hm : X.mg x = none) (hv : bootBuiltins x = some (.builtin id)) (ha : PE X e (tNw X.K cA W n)) (hn : x ≠ "__name__" := by decide) (hdb : (x == ("__debug__" : Str)) = false := by decide)
    (he : starEach [e] X.env = (false, eval e X.env) :: starEach [] X.env := by rfl) (hpl : (backTo pos (starEach [] X.env)).any (·.1) = false := by rfl) : PE X (.Call (.Name x p0) [e] [] pos) (tG X.K cA W rep (newL f n)) :=
  (pe_callB hc hg hm hv (pa_cons ha pa_nil he) hn hdb he hpl).imp fun σ H Q h => newL_of st h
theorem mcallL {α : Type} {rep : Rel α V} {f : List D → Store → R α} (st : Stable rep) (hc : CallR X (.builtin id) (tL1 X.K cA W rep f)) (hg : Gl X x) (hm : X.mg x = none) (hv : bootBuiltins x = some (.builtin id)) (ha : PE X e (tE X.K cA W m)) (hn : x ≠ "__name__" := by decide) (hdb : (x == ("__debug__" : Str)) = false := by decide)
    (he : starEach [e] X.env = (false, eval e X.env) :: starEach [] X.env := by rfl) (hpl : (backTo pos (starEach [] X.env)).any (·.1) = false := by rfl) : PE X (.Call (.Name x p0) [e] [] pos) (tG X.K cA W rep (ofL f m)) :=
  (pe_callB hc hg hm hv (pa_cons ha pa_nil he) hn hdb he hpl).imp fun σ H Q h => ofL_of st h
/-- T(new list), T a built-in class -/
theorem mtyN {α : Type} {rep : Rel α V} {f : List D → Store → R α} (st : Stable rep) (hc : CallR X (.type T) (tL1 X.K cA W rep f)) (hg : Gl X x) (hm : X.mg x = none) (hv : bootBuiltins x = some (.type T)) (ha : PE X e (tNw X.K cA W n)) (hn : x ≠ "__name__" := by decide) (hdb : (x == ("__debug__" : Str)) = false := by decide)
    (he : starEach [e] X.env = (false, eval e X.env) :: starEach [] X.env := by rfl) (hpl : (backTo pos (starEach [] X.env)).any (·.1) = false := by rfl) : PE X (.Call (.Name x p0) [e] [] pos) (tG X.K cA W rep (newL f n)) :=
  (pe_callTy hc hg hm hv (pa_cons ha pa_nil he) hn hdb he hpl).imp fun σ H Q h => newL_of st h
/-- f(values) -/
theorem mcallV {α : Type} {rep : Rel α V} {f : List D → Store → R α} (st : Stable rep) (hc : CallR X (.builtin id) (tN X.K cA W rep f)) (hg : Gl X x) (hm : X.mg x = none) (hv : bootBuiltins x = some (.builtin id)) (ha : PA X (e :: es) (tAs X.K cA W n)) (hn : x ≠ "__name__" := by decide) (hdb : (x == ("__debug__" : Str)) = false := by decide)
    (he : starEach (e :: es) X.env = (false, eval e X.env) :: starEach es X.env := by rfl) (hpl : (backTo pos (starEach es X.env)).any (·.1) = false := by rfl) : PE X (.Call (.Name x p0) (e :: es) [] pos) (tG X.K cA W rep (newL f n)) :=
  (pe_callB hc hg hm hv ha hn hdb he hpl).imp fun σ H Q h => (bind1 (rep1 := rVs X.K) st h).imp fun vs H1 h => h
theorem mtyV {α : Type} {rep : Rel α V} {f : List D → Store → R α} (st : Stable rep) (hc : CallR X (.type T) (tN X.K cA W rep f)) (hg : Gl X x) (hm : X.mg x = none) (hv : bootBuiltins x = some (.type T)) (ha : PA X (e :: es) (tAs X.K cA W n)) (hn : x ≠ "__name__" := by decide) (hdb : (x == ("__debug__" : Str)) = false := by decide)
    (he : starEach (e :: es) X.env = (false, eval e X.env) :: starEach es X.env := by rfl) (hpl : (backTo pos (starEach es X.env)).any (·.1) = false := by rfl) : PE X (.Call (.Name x p0) (e :: es) [] pos) (tG X.K cA W rep (newL f n)) :=
  (pe_callTy hc hg hm hv ha hn hdb he hpl).imp fun σ H Q h => (bind1 (rep1 := rVs X.K) st h).imp fun vs H1 h => h
end

/-! #### of lists -/
def allL (ds : List D) (S : Store) : R D := match mapO isBl ds with
  | some bs => .ok (.bl (bs.all id)) S
  | none => .bad
def anyL (ds : List D) (S : Store) : R D := match mapO isBl ds with
  | some bs => .ok (.bl (bs.any id)) S
  | none => .bad
def intO : D → Option Int
  | .int i => some i
  | _ => none
def strO : D → Option Str
  | .str x => some x
  | _ => none
def sumL (ds : List D) (S : Store) : R D := match mapO intO ds with
  | some ns => .ok (.int ns.sum) S
  | none => .bad
def lenL (ds : List D) (S : Store) : R D := .ok (.int ds.length) S
def tupL (ds : List D) (S : Store) : R D := .ok (.tup ds) S
def sortI (ns : List Int) : List Int := ns.mergeSort (fun a b => decide (a ≤ b))
def sortL (ds : List D) (S : Store) : R (List D) := match mapO intO ds with
  | some ns => .ok ((sortI ns).map .int) S
  | none => .bad
section
variable {X : Cx} {cA : Nat → Addr} {W : XK} {K : PySem.W.Frag} {ρ : List Addr} {H : Hp}
theorem bls_rep : ∀ {ds : List D} {vs : List V} {bs : List Bool}, mapO isBl ds = some bs → RepVs K ρ H ds vs → vs = bs.map V.bl
  | [], vs, bs, h, r => by unfold RepVs at r; subst r; cases h; rfl
  | d :: ds, vs, bs, h, r => by
    unfold RepVs at r
    obtain ⟨v, q, rfl, h1, h2⟩ := r
    unfold mapO at h
    split at h
    · rename_i y ys e1 e2
      cases h
      cases d with
      | bl b => cases e1; unfold RepV at h1; rw [h1, bls_rep e2 h2]; rfl
      | _ => cases e1
    · cases h
theorem ints_rep : ∀ {ds : List D} {vs : List V} {bs : List Int}, mapO intO ds = some bs → RepVs K ρ H ds vs → vs = bs.map V.int
  | [], vs, bs, h, r => by unfold RepVs at r; subst r; cases h; rfl
  | d :: ds, vs, bs, h, r => by
    unfold RepVs at r
    obtain ⟨v, q, rfl, h1, h2⟩ := r
    unfold mapO at h
    split at h
    · rename_i y ys e1 e2
      cases h
      cases d with
      | int b => cases e1; unfold RepV at h1; rw [h1, ints_rep e2 h2]; rfl
      | _ => cases e1
    · cases h
theorem strs_rep : ∀ {ds : List D} {vs : List V} {bs : List Str}, mapO strO ds = some bs → RepVs K ρ H ds vs → vs = bs.map V.str
  | [], vs, bs, h, r => by unfold RepVs at r; subst r; cases h; rfl
  | d :: ds, vs, bs, h, r => by
    unfold RepVs at r
    obtain ⟨v, q, rfl, h1, h2⟩ := r
    unfold mapO at h
    split at h
    · rename_i y ys e1 e2
      cases h
      cases d with
      | str b => cases e1; unfold RepV at h1; rw [h1, strs_rep e2 h2]; rfl
      | _ => cases e1
    · cases h
theorem c_all (hc : X.calm = true) : CallR X (.builtin "all") (tL1 X.K cA W (rV X.K) allL) := CallR.imp (cr_all hc) fun xs H Q h => by
  obtain ⟨ρ, S, ds, p, vs, hS, rfl, h1, h2, h⟩ := h
  unfold allL at h
  split at h
  · rename_i bs e
    have := bls_rep e h2
    subst this
    exact ⟨p, bs, rfl, h1, h.same hS (by unfold rV RepV; rfl)⟩
  · exact h.elim
theorem c_any (hc : X.calm = true) : CallR X (.builtin "any") (tL1 X.K cA W (rV X.K) anyL) := CallR.imp (cr_any hc) fun xs H Q h => by
  obtain ⟨ρ, S, ds, p, vs, hS, rfl, h1, h2, h⟩ := h
  unfold anyL at h
  split at h
  · rename_i bs e
    have := bls_rep e h2
    subst this
    exact ⟨p, bs, rfl, h1, h.same hS (by unfold rV RepV; rfl)⟩
  · exact h.elim
theorem c_sum (hc : X.calm = true) : CallR X (.builtin "sum") (tL1 X.K cA W (rV X.K) sumL) := CallR.imp (cr_sum hc) fun xs H Q h => by
  obtain ⟨ρ, S, ds, p, vs, hS, rfl, h1, h2, h⟩ := h
  unfold sumL at h
  split at h
  · rename_i bs e
    have := ints_rep e h2
    subst this
    exact ⟨p, bs, rfl, h1, h.same hS (by unfold rV RepV; rfl)⟩
  · exact h.elim
theorem c_len : CallR X (.builtin "len") (tL1 X.K cA W (rV X.K) lenL) := CallR.imp call_len_seq fun xs H Q h => by
  obtain ⟨ρ, S, ds, p, vs, hS, rfl, h1, h2, h⟩ := h
  refine ⟨p, vs, rfl, .inl h1, h.same hS ?_⟩
  unfold rV RepV
  rw [RepVs.length h2]
theorem c_tup : CallR X (.type "tuple") (tL1 X.K cA W (rV X.K) tupL) := CallR.imp call_tuple_of fun xs H Q h => by
  obtain ⟨ρ, S, ds, p, vs, hS, rfl, h1, h2, h⟩ := h
  exact ⟨p, vs, rfl, .inl ⟨h1, fun q hq => After.tup h hS hq h2⟩⟩
theorem sortI_eq {ns ms : List Int} (hp : ms.Perm ns) (hs : ms.Pairwise (· ≤ ·)) : ms = sortI ns := by
  have h1 : (sortI ns).Pairwise (· ≤ ·) := by
    have := List.pairwise_mergeSort (le := fun (a b : Int) => decide (a ≤ b)) (fun a b c h1 h2 => by simp only [decide_eq_true_eq] at *; omega) (fun a b => by simp only [Bool.or_eq_true, decide_eq_true_eq]; omega) ns
    exact this.imp fun h => by simpa using h
  have h2 : (sortI ns).Perm ns := List.mergeSort_perm ns _
  exact (hp.trans h2.symm).eq_of_pairwise (fun a b _ _ h1 h2 => by omega) hs h1
theorem c_sort : CallR X (.builtin "sorted") (tL1 X.K cA W (rNew X.K) sortL) := CallR.imp cr_sortedI fun xs H Q h => by
  obtain ⟨ρ, S, ds, p, vs, hS, rfl, h1, h2, h⟩ := h
  unfold sortL at h
  split at h
  · rename_i bs e
    have := ints_rep e h2
    subst this
    refine ⟨p, bs, rfl, h1, fun ns' q hp hs hq => ?_⟩
    rw [← sortI_eq hp hs] at h
    exact After.fresh h hS hq RepVs.of_ints
  · exact h.elim
end

/-! #### of values -/
def lenV (ds : List D) (S : Store) : R D := match ds with
  | [.str x] => if x.length ≤ sizeLine then .ok (.int x.length) S else .bad
  | [d] => match seqOf S d with
    | some xs => .ok (.int xs.length) S
    | none => match d with
      | .ref n => match dctAt S n with
        | some kvs => .ok (.int kvs.length) S
        | none => .bad
      | _ => .bad
  | _ => .bad
def absV (ds : List D) (S : Store) : R D := match ds with
  | [.int i] => .ok (.int (if i < 0 then -i else i)) S
  | _ => .bad
def maxV (ds : List D) (S : Store) : R D := match ds with
  | [.int i, .int j] => .ok (.int (if j > i then j else i)) S
  | _ => .bad
def minV (ds : List D) (S : Store) : R D := match ds with
  | [.int i, .int j] => .ok (.int (if j < i then j else i)) S
  | _ => .bad
def intV (ds : List D) (S : Store) : R D := match ds with
  | [.int i] => .ok (.int i) S
  | [.bl b] => .ok (.int (if b = true then 1 else 0)) S
  | _ => .bad
def ordV (ds : List D) (S : Store) : R D := match ds with
  | [.str x] => if x.length = 1 then .ok (.int (x.cps.getD 0 0 : Nat)) S else .bad
  | _ => .bad
/-- str of a number -/
def strV (ds : List D) (S : Store) : R D := match ds with
  | [.int i] => if i.natAbs.log2 < 1920 then .ok (.str (toString i)) S else .bad
  | _ => .bad
def listV (ds : List D) (S : Store) : R (List D) := match ds with
  | [d] => match seqOf S d with
    | some xs => .ok xs S
    | none => match d with
      | .ref n => match dctAt S n with
        | some kvs => .ok (kvs.map fun kv => match kv.1 with | .inl i => .int i | .inr x => .str x) S
        | none => .bad
      | _ => .bad
  | _ => .bad
def tupV (ds : List D) (S : Store) : R D := match ds with
  | [.tup xs] => .ok (.tup xs) S
  | [d] => match lstOf S d with
    | some xs => .ok (.tup xs) S
    | none => .bad
  | _ => .bad
section
variable {X : Cx} {cA : Nat → Addr} {W : XK} {K : PySem.W.Frag} {ρ : List Addr} {H : Hp} {S : Store}
theorem one_rep {d : D} {xs : List V} (h : RepVs K ρ H [d] xs) : ∃ v, xs = [v] ∧ RepV K ρ H d v := by
  unfold RepVs at h
  obtain ⟨v, r, rfl, h1, h2⟩ := h
  unfold RepVs at h2
  exact ⟨v, by rw [h2], h1⟩
theorem two_rep {d e : D} {xs : List V} (h : RepVs K ρ H [d, e] xs) : ∃ v w, xs = [v, w] ∧ RepV K ρ H d v ∧ RepV K ρ H e w := by
  unfold RepVs at h
  obtain ⟨v, r, rfl, h1, h2⟩ := h
  obtain ⟨w, rfl, h3⟩ := one_rep h2
  exact ⟨v, w, rfl, h1, h3⟩
theorem seqOf_ref {S : Store} {d : D} : (∀ x, d ≠ .str x) ∨ True := .inr trivial
theorem c_lenV : CallR X (.builtin "len") (tN X.K cA W (rV X.K) lenV) := CallR.imp ((call_len (X := X)).or (call_lenD (X := X))) fun xs H Q h => by
  obtain ⟨ρ, S, ds, hS, hr, h⟩ := h
  unfold lenV at h
  split at h
  · rename_i x
    obtain ⟨v, rfl, h1⟩ := one_rep hr
    split at h
    · rename_i hz
      unfold RepV at h1
      subst h1
      exact .inl ⟨.str x, x.length, rfl, ⟨hz, rfl⟩, h.same hS (by unfold rV RepV; rfl)⟩
    · exact h.elim
  · rename_i d _
    obtain ⟨v, rfl, h1⟩ := one_rep hr
    split at h
    · rename_i ys e
      obtain ⟨a, vs, rfl, h2, h3⟩ := seq_rep hS h1 e
      refine .inl ⟨.ref a, ys.length, rfl, ?_, h.same hS (by unfold rV RepV; rfl)⟩
      rcases h2 with h2 | h2
      · exact .inl ⟨vs, h2, (RepVs.length h3).symm⟩
      · exact .inr ⟨vs, h2, (RepVs.length h3).symm⟩
    · split at h
      · split at h
        · rename_i kvs e
          obtain ⟨a, ps, rfl, _, h2, h3⟩ := rdct_rep hS h1 e
          refine .inr ⟨a, ps, rfl, h2, h.same hS ?_⟩
          unfold rV RepV
          rw [len_repP h3]
        · exact h.elim
      · exact h.elim
  · exact h.elim
where
  len_repP {K : PySem.W.Frag} {ρ : List Addr} {H : Hp} : ∀ {kvs : List (Key × D)} {ps : List (Key × V)}, RepP K ρ H kvs ps → ps.length = kvs.length
    | [], ps, h => by unfold RepP at h; rw [h]; rfl
    | (k, x) :: r, ps, h => by
      unfold RepP at h
      obtain ⟨v, q, rfl, _, h2⟩ := h
      rw [List.length_cons, List.length_cons, len_repP h2]
theorem c_abs : CallR X (.builtin "abs") (tN X.K cA W (rV X.K) absV) := CallR.imp call_abs fun xs H Q h => by
  obtain ⟨ρ, S, ds, hS, hr, h⟩ := h
  unfold absV at h
  split at h
  · obtain ⟨v, rfl, h1⟩ := one_rep hr
    unfold RepV at h1
    subst h1
    exact ⟨_, rfl, h.same hS (by unfold rV RepV; rfl)⟩
  · exact h.elim
theorem c_max (hc : X.calm = true) : CallR X (.builtin "max") (tN X.K cA W (rV X.K) maxV) := CallR.imp (call_max2 hc) fun xs H Q h => by
  obtain ⟨ρ, S, ds, hS, hr, h⟩ := h
  unfold maxV at h
  split at h
  · obtain ⟨v, w, rfl, h1, h2⟩ := two_rep hr
    unfold RepV at h1 h2
    subst h1 h2
    exact ⟨_, _, rfl, h.same hS (by unfold rV RepV; rfl)⟩
  · exact h.elim
theorem c_min (hc : X.calm = true) : CallR X (.builtin "min") (tN X.K cA W (rV X.K) minV) := CallR.imp (call_min2 hc) fun xs H Q h => by
  obtain ⟨ρ, S, ds, hS, hr, h⟩ := h
  unfold minV at h
  split at h
  · obtain ⟨v, w, rfl, h1, h2⟩ := two_rep hr
    unfold RepV at h1 h2
    subst h1 h2
    exact ⟨_, _, rfl, h.same hS (by unfold rV RepV; rfl)⟩
  · exact h.elim
theorem c_int : CallR X (.type "int") (tN X.K cA W (rV X.K) intV) := CallR.imp call_int1 fun xs H Q h => by
  obtain ⟨ρ, S, ds, hS, hr, h⟩ := h
  unfold intV at h
  split at h
  · obtain ⟨v, rfl, h1⟩ := one_rep hr
    unfold RepV at h1
    subst h1
    exact .inl ⟨_, rfl, h.same hS (by unfold rV RepV; rfl)⟩
  · obtain ⟨v, rfl, h1⟩ := one_rep hr
    unfold RepV at h1
    subst h1
    exact .inr ⟨_, rfl, h.same hS (by unfold rV RepV; rfl)⟩
  · exact h.elim
theorem c_ord : CallR X (.builtin "ord") (tN X.K cA W (rV X.K) ordV) := CallR.imp call_ord fun xs H Q h => by
  obtain ⟨ρ, S, ds, hS, hr, h⟩ := h
  unfold ordV at h
  split at h
  · split at h
    · rename_i hz
      obtain ⟨v, rfl, h1⟩ := one_rep hr
      unfold RepV at h1
      subst h1
      exact ⟨_, rfl, hz, h.same hS (by unfold rV RepV; rfl)⟩
    · exact h.elim
  · exact h.elim
theorem c_str : CallR X (.type "str") (tN X.K cA W (rV X.K) strV) := CallR.imp call_str_int fun xs H Q h => by
  obtain ⟨ρ, S, ds, hS, hr, h⟩ := h
  unfold strV at h
  split at h
  · split at h
    · rename_i hz
      obtain ⟨v, rfl, h1⟩ := one_rep hr
      unfold RepV at h1
      subst h1
      exact ⟨_, rfl, hz, h.same hS (by unfold rV RepV; rfl)⟩
    · exact h.elim
  · exact h.elim
theorem keys_rep : ∀ {kvs : List (Key × D)} {ps : List (Key × V)}, RepP K ρ H kvs ps → RepVs K ρ H (kvs.map fun kv => match kv.1 with | .inl i => .int i | .inr x => .str x) (ps.map fun kv => kV kv.1)
  | [], ps, h => by unfold RepP at h; rw [h]; exact .nil
  | (k, x) :: r, ps, h => by
    unfold RepP at h
    obtain ⟨v, q, rfl, _, h2⟩ := h
    rw [List.map_cons, List.map_cons]
    refine .cons ?_ (keys_rep h2)
    cases k <;> (unfold RepV; rfl)
theorem c_list (hc : X.calm = true) : CallR X (.type "list") (tN X.K cA W (rNew X.K) listV) := CallR.imp ((call_list_of (X := X)).or (call_list_dK hc)) fun xs H Q h => by
  obtain ⟨ρ, S, ds, hS, hr, h⟩ := h
  unfold listV at h
  split at h
  · obtain ⟨v, rfl, h1⟩ := one_rep hr
    split at h
    · rename_i ys e
      obtain ⟨a, vs, rfl, h2, h3⟩ := seq_rep hS h1 e
      exact .inl ⟨a, vs, rfl, h2, fun p hp => After.fresh h hS hp h3⟩
    · split at h
      · split at h
        · rename_i kvs e
          obtain ⟨a, ps, rfl, _, h2, h3⟩ := rdct_rep hS h1 e
          exact .inr ⟨a, ps, rfl, h2, fun p hp => After.fresh h hS hp (keys_rep h3)⟩
        · exact h.elim
      · exact h.elim
  · exact h.elim
theorem c_tupV : CallR X (.type "tuple") (tN X.K cA W (rV X.K) tupV) := CallR.imp call_tuple_of fun xs H Q h => by
  obtain ⟨ρ, S, ds, hS, hr, h⟩ := h
  unfold tupV at h
  split at h
  · obtain ⟨v, rfl, h1⟩ := one_rep hr
    have h1' := h1
    unfold RepV at h1
    obtain ⟨a, vs, rfl, h2, h3⟩ := h1
    exact ⟨a, vs, rfl, .inr ⟨h2, h.same hS h1'⟩⟩
  · obtain ⟨v, rfl, h1⟩ := one_rep hr
    split at h
    · rename_i ys e
      obtain ⟨a, vs, rfl, h2, h3⟩ := lst_rep hS h1 e
      exact ⟨a, vs, rfl, .inl ⟨h2, fun p hp => After.tup h hS hp h3⟩⟩
    · exact h.elim
  · exact h.elim
end
end ML

set_option Elab.async false
set_option linter.all false
set_option maxRecDepth 100000
set_option autoImplicit false
/-! ML6: kinds, items, slices, stores, fields, methods of what is built in. -/
namespace ML
open PySem PySem.Spec L2

/-! ### kinds -/
def kindO (S : Store) : D → Option String
  | .non => some "NoneType"
  | .bl _ => some "bool"
  | .int _ => some "int"
  | .str _ => some "str"
  | .tup _ => some "tuple"
  | .lis _ => some "list"
  | .ref n => match S[n]? with
    | some (.lst _) => some "list"
    | some (.dct _) => some "dict"
    | some (.dlk _) => some "dict"
    | _ => none
  | .exn _ => none
def isKind (T t : String) : Bool := t == T || (T == "int" && t == "bool")
def isE (T : String) (m : ME) : MB := fun l S => (m l S).bind fun d S1 => match kindO S1 d with
  | some t => .ok (isKind T t) S1
  | none => .bad
def kinds : List String := ["NoneType", "bool", "int", "str", "tuple", "list", "dict"]
/-- what the model says of two built-in classes -/
def KindOk (T : String) : Prop := ∀ t ∈ kinds, kitB t T = some (isKind T t)
theorem ok_str : KindOk "str" := by unfold KindOk kinds; decide +kernel
theorem ok_int : KindOk "int" := by unfold KindOk kinds; decide +kernel
theorem ok_bool : KindOk "bool" := by unfold KindOk kinds; decide +kernel
theorem ok_tuple : KindOk "tuple" := by unfold KindOk kinds; decide +kernel
theorem ok_list : KindOk "list" := by unfold KindOk kinds; decide +kernel
theorem ok_dict : KindOk "dict" := by unfold KindOk kinds; decide +kernel
section
variable {X : Cx} {cA : Nat → Addr} {W : XK} {K : PySem.W.Frag} {ρ : List Addr} {H : Hp} {S : Store}
theorem kind_rep (hS : Reps K cA ρ H S) {d : D} {v : V} {t : String} (hv : RepV K ρ H d v) (h : kindO S d = some t) : TyX K H v (.type t) ∧ t ∈ kinds := by
  unfold kindO at h
  cases d with
  | non => cases h; unfold RepV at hv; subst hv; exact ⟨.base .non, by decide⟩
  | bl b => cases h; unfold RepV at hv; subst hv; exact ⟨.base (.bl b), by decide⟩
  | int b => cases h; unfold RepV at hv; subst hv; exact ⟨.base (.int b), by decide⟩
  | str b => cases h; unfold RepV at hv; subst hv; exact ⟨.base (.str b), by decide⟩
  | tup xs =>
    cases h
    unfold RepV at hv
    obtain ⟨a, vs, rfl, h1, h2⟩ := hv
    refine ⟨?_, by decide⟩
    rcases h1 with (h1 | ⟨o, h1⟩) | ⟨o, its, n, h1, h3, _⟩
    · exact .base (.tup h1)
    · exact .fTuple h1
    · exact .kTuple h1 h3
  | lis xs =>
    cases h
    unfold RepV at hv
    obtain ⟨a, vs, rfl, h1, h2⟩ := hv
    refine ⟨?_, by decide⟩
    rcases h1 with ⟨o, h1⟩ | ⟨o, its, n, h1, h3, _⟩
    · exact .base (.frz h1)
    · exact .kList h1 h3
  | ref n =>
    simp only at h
    split at h
    · rename_i xs e
      cases h
      obtain ⟨a, rfl, _, vs, h1, _⟩ := ref_rep hS hv e
      exact ⟨.base (.lst h1), by decide⟩
    · rename_i xs e
      cases h
      obtain ⟨a, rfl, _, vs, h1, _⟩ := ref_rep hS hv e
      exact ⟨.base (.dK h1), by decide⟩
    · rename_i xs e
      cases h
      obtain ⟨a, rfl, _, o, vs, h1, _⟩ := ref_rep hS hv e
      exact ⟨.fDict h1, by decide⟩
    · cases h
  | exn a => cases h
variable {pos p0 p1 : Pos} {e : Expr} {m : ME} {x : Str} {T : String}
/-- isinstance(e, T) -/
theorem misi (hT : KindOk T) (ha : PE X e (tE X.K cA W m)) (hg : Gl X "isinstance") (hm : X.mg "isinstance" = none) (hg2 : Gl X x) (hm2 : X.mg x = none) (hv2 : bootBuiltins x = some (.type T)) (hv : bootBuiltins "isinstance" = some (.builtin "isinstance") := by decide +kernel) (hn2 : x ≠ "__name__" := by decide) (hdb2 : (x == ("__debug__" : Str)) = false := by decide)
    (hs2 : starEach [(.Name x p1 : Expr)] X.env = (false, eval (.Name x p1) X.env) :: starEach [] X.env := by rfl) (hs : starEach [e, .Name x p1] X.env = (false, eval e X.env) :: starEach [.Name x p1] X.env := by rfl)
    (hpl : (backTo pos (starEach [(.Name x p1 : Expr)] X.env)).any (·.1) = false := by rfl) : PE X (.Call (.Name "isinstance" p0) [e, .Name x p1] [] pos) (tE X.K cA W (toV (isE T m))) :=
  (pe_callB call_isi hg hm hv (pa_cons ha (pa_cons (pe_bltn (v := .ty T) hg2 hm2 hv2 rfl hn2 hdb2) pa_nil hs2) hs) (by decide) (by decide) hs hpl).imp fun σ H Q h => by
    have h' := bind1 (rep1 := rV X.K) st_Id (tE_toV h)
    refine tG.imp h' fun v H1 h => ?_
    obtain ⟨ρ, S, d, hS, hr, h⟩ := h
    split at h
    · rename_i t et
      obtain ⟨h1, h2⟩ := kind_rep hS hr et
      exact ⟨v, .ty T, .type t, .type T, isKind T t, rfl, .ty T, h1, kit_ty (hT t h2), After.same (Q := fun b H' => Q (.bl b) H') (rep := rId) h hS rfl⟩
    · exact h.elim
end

/-! ### items -/
def ixO (S : Store) (d e : D) : Option D := match e with
  | .int i => match d with
    | .str z => if z.length ≤ sizeLine then (atI z.cps.toList i).map fun c => .str ⟨#[c]⟩ else none
    | .tup xs => atI xs i
    | .lis xs => atI xs i
    | .ref n => match S[n]? with
      | some (.lst xs) => atI xs i
      | some (.dct kvs) => dLook kvs (.inl i)
      | some (.dlk kvs) => dLook kvs (.inl i)
      | _ => none
    | _ => none
  | .str x => match d with
    | .ref n => match kvAt S n with
      | some kvs => dLook kvs (.inr x)
      | none => none
    | _ => none
  | _ => none
def ixD (d e : D) (S : Store) : R D := match ixO S d e with
  | some x => .ok x S
  | none => .bad
section
variable {X : Cx} {cA : Nat → Addr} {W : XK} {K : PySem.W.Frag} {ρ : List Addr} {H : Hp} {S : Store}
theorem atI_rep {xs : List D} {vs : List V} (h : RepVs K ρ H xs vs) {i : Int} {d : D} (e : atI xs i = some d) : ∃ v, atI vs i = some v ∧ RepV K ρ H d v := by
  unfold atI at e ⊢
  rw [RepVs.length h]
  cases q : ixN xs.length i with
  | none => rw [q] at e; cases e
  | some j =>
    rw [q] at e
    exact RepVs.get h j d e
theorem ix_dict (hu : X.A.units + 1 < cLine) : IxR X (fun x y H Q => ∃ a v, x = .ref a ∧ DGet H a y (some v) ∧ Q v H) := by
  intro value slice pins s σ H x y v u Q I rx ry h hs
  obtain ⟨a, z, rfl, g, q⟩ := h
  obtain rfl : v = Value.ref a := rx
  exact PyProof.Rows.tail_any (dict_typeIs I g) PySem.F.slot_dict_getitem.lookup (d_getItem hu I g ry fun w' s3 I3 rw' => ⟨z, H, I3, rw', q⟩) hs
theorem IxR.imp {r r' : R2} (h : IxR X r) (i : ∀ x y H Q, r' x y H Q → r x y H Q) : IxR X r' := fun value slice pins s σ H x y v u Q I rx ry q hs => h value slice pins s σ H x y v u Q I rx ry (i _ _ _ _ q) hs
theorem ix_M (hu : X.A.units + 1 < cLine) : IxR X (t2 X.K cA W (rV X.K) ixD) := IxR.imp ((ix_seq (X := X)).or (ix_dict hu)) fun x y H Q h => by
  obtain ⟨ρ, S, d, e, hS, hd, he, h⟩ := h
  unfold ixD at h
  split at h
  · rename_i z hz
    unfold ixO at hz
    cases e with
    | int i =>
      unfold RepV at he
      subst he
      cases d with
      | str w =>
        simp only at hz
        split at hz
        · rename_i hl
          unfold RepV at hd
          subst hd
          obtain ⟨c, hc, rfl⟩ := Option.map_eq_some_iff.mp hz
          exact .inl (.inr (.inr ⟨w, i, c, rfl, rfl, hl, hc, h.same hS (by unfold rV RepV; rfl)⟩))
        · cases hz
      | tup xs =>
        unfold RepV at hd
        obtain ⟨a, vs, rfl, h1, h2⟩ := hd
        obtain ⟨v, hv, rv⟩ := atI_rep h2 hz
        exact .inl (.inr (.inl ⟨a, vs, i, v, rfl, rfl, h1, hv, h.same hS rv⟩))
      | lis xs =>
        unfold RepV at hd
        obtain ⟨a, vs, rfl, h1, h2⟩ := hd
        obtain ⟨v, hv, rv⟩ := atI_rep h2 hz
        exact .inl (.inl ⟨a, vs, i, v, rfl, rfl, h1.sq, hv, h.same hS rv⟩)
      | ref n =>
        simp only at hz
        have dic : ∀ {kvs : List (Key × D)}, kvAt S n = some kvs → dLook kvs (.inl i) = some z → ∃ a v, x = .ref a ∧ DGet H a (.int i) (some v) ∧ Q v H := fun {kvs} ek el => by
          obtain ⟨a, ps, rfl, _, h1, h2⟩ := rkv_rep hS hd ek
          have q := look_rep (.inl i) h2
          rw [el] at q
          obtain ⟨v, hv, rv⟩ := q
          exact ⟨a, v, rfl, .inl ⟨ps, .inl i, h1, rfl, hv.symm⟩, h.same hS rv⟩
        split at hz
        · rename_i xs e1
          obtain ⟨a, vs, rfl, _, h1, h2⟩ := rlst_rep hS hd (lstAt_of e1)
          obtain ⟨v, hv, rv⟩ := atI_rep h2 hz
          exact .inl (.inl ⟨a, vs, i, v, rfl, rfl, SqL.of h1, hv, h.same hS rv⟩)
        · rename_i kvs e1
          exact .inr (dic (by unfold kvAt; rw [e1]) hz)
        · rename_i kvs e1
          exact .inr (dic (by unfold kvAt; rw [e1]) hz)
        · cases hz
      | _ => cases hz
    | str w =>
      unfold RepV at he
      subst he
      cases d with
      | ref n =>
        simp only at hz
        split at hz
        · rename_i kvs ek
          obtain ⟨a, ps, rfl, _, h1, h2⟩ := rkv_rep hS hd ek
          have q := look_rep (.inr w) h2
          rw [hz] at q
          obtain ⟨v, hv, rv⟩ := q
          exact .inr ⟨a, v, rfl, .inl ⟨ps, .inr w, h1, rfl, hv.symm⟩, h.same hS rv⟩
        · cases hz
      | _ => cases hz
    | _ => cases hz
  · exact h.elim
variable {pos : Pos} {a b : Expr} {m n : ME}
theorem mix (hu : X.A.units + 1 < cLine) (ha : PE X a (tE X.K cA W m)) (hb : PE X b (tE X.K cA W n)) (hs : PlainIx b := by exact fun _ _ => rfl) : PE X (.Subscript a b pos) (tE X.K cA W (binE ixD m n)) :=
  (pe_ix (ix_M hu) ha hb hs).imp fun σ H Q h => bind2 st_V mo_V h
end

/-! ### slices -/
abbrev MO := Loc → Store → R (Option Int)
def noO : MO := fun _ S => .ok none S
def someO (m : ME) : MO := fun l S => (m l S).bind fun d S1 => match intO d with
  | some i => .ok (some i) S1
  | none => .bad
def cutD (xs : List D) (lo hi : Option Int) : List D := (xs.drop (HT.sIx xs.length 0 lo)).take (HT.sIx xs.length xs.length hi - HT.sIx xs.length 0 lo)
def sliceD (d : D) (lo hi : Option Int) (S : Store) : R D := match d with
  | .str z => if z.length ≤ sizeLine then .ok (.str (cutS z lo hi)) S else .bad
  | .tup xs => .ok (.tup (cutD xs lo hi)) S
  | _ => match lstOf S d with
    | some xs => newC (.lst (cutD xs lo hi)) S
    | none => .bad
def sliceE (m : ME) (lo hi : MO) : ME := fun l S => (m l S).bind fun d S1 => (lo l S1).bind fun i S2 => (hi l S2).bind (sliceD d i)
section
variable {X : Cx} {cA : Nat → Addr} {W : XK} {K : PySem.W.Frag} {ρ : List Addr} {H : Hp} {S : Store}
theorem SlR.imp {r r' : V → Option Int → Option Int → Hp → VK → Prop} (h : SlR X r) (i : ∀ x lo hi H Q, r' x lo hi H Q → r x lo hi H Q) : SlR X r' := fun pins s σ H x v vl vu lo hi sl Q I rx hs pl pu q => h pins s σ H x v vl vu lo hi sl Q I rx hs pl pu (i _ _ _ _ _ q)
theorem cut_rep {xs : List D} {vs : List V} (h : RepVs K ρ H xs vs) (lo hi : Option Int) : RepVs K ρ H (cutD xs lo hi) (cutV vs lo hi) := by
  unfold cutD cutV
  rw [RepVs.length h]
  exact (h.drop _).take _
theorem cut_all {xs : List D} {lo hi : Option Int} (h : HT.sIx xs.length 0 lo = 0 ∧ HT.sIx xs.length xs.length hi = xs.length) : cutD xs lo hi = xs := by
  unfold cutD
  rw [h.1, h.2, List.drop_zero, Nat.sub_zero, List.take_length]
theorem sl_M : SlR X (fun x lo hi H Q => ∃ ρ S d, Reps X.K cA ρ H S ∧ RepV X.K ρ H d x ∧ After X.K cA W ρ H (rV X.K) (sliceD d lo hi S) Q) := SlR.imp ((sl_str (X := X)).or ((sl_tupA (X := X)).or (sl_list (X := X)))) fun x lo hi H Q h => by
  obtain ⟨ρ, S, d, hS, hd, h⟩ := h
  unfold sliceD at h
  split at h
  · split at h
    · rename_i hz
      unfold RepV at hd
      exact .inl ⟨_, hd, hz, h.same hS (by unfold rV RepV; rfl)⟩
    · exact h.elim
  · have hd' := hd
    unfold RepV at hd
    obtain ⟨a, vs, rfl, h1, h2⟩ := hd
    refine .inr (.inl ⟨a, vs, rfl, h1, fun hw => ?_, fun _ p hp => h.tup hS hp (cut_rep h2 lo hi)⟩)
    rw [RepVs.length h2] at hw
    rw [cut_all hw] at h
    exact h.same hS hd'
  · split at h
    · rename_i xs e
      obtain ⟨a, vs, rfl, h1, h2⟩ := lst_rep hS hd e
      exact .inr (.inr ⟨a, vs, rfl, h1, fun p hp => h.new hS hp ⟨_, upd_same, (cut_rep h2 lo hi).ext (Ext.new hp)⟩⟩)
    · exact h.elim
theorem PO.imp {e : Option Expr} {t t' : TO} (h : PO X e t) (i : ∀ σ H Q, t' σ H Q → t σ H Q) : PO X e t' := ⟨fun pins s σ H Q I q => h.run pins s σ H Q I (i σ H Q q)⟩
abbrev tO (K : PySem.W.Frag) (cA : Nat → Addr) (W : XK) (m : MO) : TO := tG K cA W rId m
variable {pos p2 : Pos} {e : Expr} {lo hi : Option Expr} {m : ME} {n o : MO}
theorem ono : PO X none (tO X.K cA W noO) := PO.imp po_none fun σ H Q h => by
  obtain ⟨ρ, S, l, hS, hl, h⟩ := h
  exact After.same (rep := rId) h hS rfl
theorem osome (h : PE X e (tE X.K cA W m)) : PO X (some e) (tO X.K cA W (someO m)) := PO.imp (po_some h) fun σ H Q h => (bind1 (rep1 := rV X.K) st_Id h).imp fun v H1 h => by
  obtain ⟨ρ, S, d, hS, hr, h⟩ := h
  split at h
  · rename_i i e
    cases d with
    | int j => cases e; unfold rV RepV at hr; exact ⟨_, hr, After.same (rep := rId) h hS rfl⟩
    | _ => cases e
  · exact h.elim
theorem mslice (he : PE X e (tE X.K cA W m)) (hl : PO X lo (tO X.K cA W n)) (hh : PO X hi (tO X.K cA W o)) : PE X (.Subscript e (.Slice lo hi none p2) pos) (tE X.K cA W (sliceE m n o)) :=
  (pe_slice sl_M he hl hh).imp fun σ H Q h => by
    refine tG.imp (bind3 (rep1 := rV X.K) (rep2 := rId) (rep3 := rId) st_V mo_V mo_Id h) fun x H1 ha => tG.imp ha fun i H2 hb => tG.imp hb fun j H3 hc => ?_
    obtain ⟨ρ, S, d, i', j', hS, h1, h2, h3, hd⟩ := hc
    subst h2 h3
    exact ⟨ρ, S, d, hS, h1, hd⟩
end

/-! ### stores -/
def setO (S : Store) (o i v : D) : Option Store := match o with
  | .ref n => match S[n]? with
    | some (.lst xs) => match i with
      | .int k => (ixN xs.length k).map fun j => S.set n (.lst (xs.set j v))
      | _ => none
    | some (.dct kvs) => match keyO i with
      | some k => if kvs.length < sizeLine then some (S.set n (.dct (dPut kvs k v))) else none
      | none => none
    | _ => none
  | _ => none
section
variable {X : Cx} {cA : Nat → Addr} {W : XK} {K : PySem.W.Frag} {ρ : List Addr} {H : Hp} {S : Store}
theorem PSet.or {t t' : TSet} (h : PSet X t) (h' : PSet X t') : PSet X (fun o i v H Q => t o i v H Q ∨ t' o i v H Q) := fun pins s σ H o i v ov iv u Q I ro ri rv q => by
  rcases q with q | q
  · exact h pins s σ H o i v ov iv u Q I ro ri rv q
  · exact h' pins s σ H o i v ov iv u Q I ro ri rv q
theorem PSet.imp {t t' : TSet} (h : PSet X t) (i : ∀ o i v H Q, t' o i v H Q → t o i v H Q) : PSet X t' := fun pins s σ H o j v ov iv u Q I ro ri rv q => h pins s σ H o j v ov iv u Q I ro ri rv (i _ _ _ _ _ q)
theorem put_rep {k : Key} {d : D} {v : V} (hv : RepV K ρ H d v) {kvs : List (Key × D)} {ps : List (Key × V)} (h : RepP K ρ H kvs ps) : RepP K ρ H (dPut kvs k d) (putK ps k v) := by
  have any_eq : ∀ {kvs : List (Key × D)} {ps : List (Key × V)}, RepP K ρ H kvs ps → (kvs.any fun kv => decide (kv.1 = k)) = (ps.any fun kv => decide (kv.1 = k)) := by
    intro kvs
    induction kvs with
    | nil => intro ps h; unfold RepP at h; rw [h]; rfl
    | cons x r ih =>
      intro ps h
      obtain ⟨j, y⟩ := x
      unfold RepP at h
      obtain ⟨w, q, rfl, _, h2⟩ := h
      rw [List.any_cons, List.any_cons, ih h2]
  have map_rep : ∀ {kvs : List (Key × D)} {ps : List (Key × V)}, RepP K ρ H kvs ps → RepP K ρ H (kvs.map fun kv => if kv.1 = k then (kv.1, d) else kv) (ps.map fun kv => if kv.1 = k then (kv.1, v) else kv) := by
    intro kvs
    induction kvs with
    | nil => intro ps h; unfold RepP at h; rw [h]; unfold RepP; rfl
    | cons x r ih =>
      intro ps h
      obtain ⟨j, y⟩ := x
      unfold RepP at h
      obtain ⟨w, q, rfl, h1, h2⟩ := h
      rw [List.map_cons, List.map_cons]
      by_cases e : j = k
      · simp only [e, if_true]
        unfold RepP
        exact ⟨v, _, rfl, hv, ih h2⟩
      · simp only [e, if_false]
        unfold RepP
        exact ⟨w, _, rfl, h1, ih h2⟩
  have app_rep : ∀ {kvs : List (Key × D)} {ps : List (Key × V)}, RepP K ρ H kvs ps → RepP K ρ H (kvs ++ [(k, d)]) (ps ++ [(k, v)]) := by
    intro kvs
    induction kvs with
    | nil => intro ps h; unfold RepP at h; rw [h]; exact ⟨v, [], rfl, hv, by unfold RepP; rfl⟩
    | cons x r ih =>
      intro ps h
      obtain ⟨j, y⟩ := x
      unfold RepP at h
      obtain ⟨w, q, rfl, h1, h2⟩ := h
      exact ⟨w, _, rfl, h1, ih h2⟩
  unfold dPut putK
  rw [any_eq h]
  split
  · exact map_rep h
  · exact app_rep h
theorem set_M (hu : X.A.units + 1 < cLine) : PSet X (fun o i v H Q => ∃ ρ S d e f, Reps X.K cA ρ H S ∧ RepV X.K ρ H d o ∧ RepV X.K ρ H e i ∧ RepV X.K ρ H f v ∧ ∃ S', setO S d e f = some S' ∧ ∀ H', Ext ρ H ρ H' → Reps X.K cA ρ H' S' → Q H') :=
  PSet.imp (PSet.or (set_list (X := X)) (set_dict hu)) fun o i v H Q h => by
    obtain ⟨ρ, S, d, e, f, hS, hd, he, hf, S', hs, q⟩ := h
    unfold setO at hs
    cases d with
    | ref n =>
      simp only at hs
      split at hs
      · rename_i xs e1
        cases e with
        | int k =>
          simp only at hs
          obtain ⟨j, hj, rfl⟩ := Option.map_eq_some_iff.mp hs
          obtain ⟨a, vs, rfl, ha, h1, h2⟩ := rlst_rep hS hd (lstAt_of e1)
          unfold RepV at he
          subst he
          have E : Ext ρ H ρ (upd H a (.lst (vs.set j v))) := Ext.write ha h1 True.intro
          refine .inl ⟨a, vs, k, j, rfl, rfl, h1, by rw [RepVs.length h2]; exact hj, q _ E (hS.write ha h1 True.intro ⟨_, upd_same, ?_⟩)⟩
          exact (RepVs.set hf j h2).ext E
        | _ => cases hs
      · rename_i kvs e1
        split at hs
        · rename_i k ek
          split at hs
          · rename_i hl
            cases hs
            obtain ⟨a, ps, rfl, ha, h1, h2⟩ := rdct_rep hS hd (dctAt_of e1)
            have := key_rep ek he
            subst this
            have E : Ext ρ H ρ (upd H a (.dK (putK ps k v))) := Ext.write ha h1 True.intro
            refine .inr ⟨a, _, rfl, DPut.k (k := k) (v := v) h1 (by rw [c_lenV.len_repP h2]; exact hl), q _ E (hS.write ha h1 True.intro ⟨_, upd_same, ?_⟩)⟩
            exact (put_rep hf h2).ext E
          · cases hs
        · cases hs
      · cases hs
    | _ => cases hs
end

/-! ### fields -/
def fldE (cs : List Nat) (f : Str) (m : ME) : ME := fun l S => (m l S).bind fun d S1 => match d with
  | .ref n => match insAt S1 n with
    | some (c, fs) => if c ∈ cs then (match fs.lookup f with
      | some x => .ok x S1
      | none => .bad) else .bad
    | none => .bad
  | _ => .bad
section
variable {X : Cx} {cA : Nat → Addr} {W : XK} {K : PySem.W.Frag} {ρ : List Addr} {H : Hp} {S : Store}
theorem fld_rep {f : Str} : ∀ {fs : List (Str × D)} {ps : List (Str × V)} {d : D}, RepP K ρ H fs ps → fs.lookup f = some d → ∃ v, ps.lookup f = some v ∧ RepV K ρ H d v
  | [], ps, d, h, e => by cases e
  | (g, x) :: r, ps, d, h, e => by
    unfold RepP at h
    obtain ⟨w, q, rfl, h1, h2⟩ := h
    cases hg : (f == g) with
    | true => simp only [List.lookup, hg] at e ⊢; cases e; exact ⟨w, rfl, h1⟩
    | false => simp only [List.lookup, hg] at e ⊢; exact fld_rep h2 e
theorem fld_none {f : Str} : ∀ {fs : List (Str × D)} {ps : List (Str × V)}, RepP K ρ H fs ps → fs.lookup f = none → ps.lookup f = none
  | [], ps, h, e => by unfold RepP at h; rw [h]; rfl
  | (g, x) :: r, ps, h, e => by
    unfold RepP at h
    obtain ⟨w, q, rfl, h1, h2⟩ := h
    cases hg : (f == g) with
    | true => simp only [List.lookup, hg] at e; cases e
    | false => simp only [List.lookup, hg] at e ⊢; exact fld_none h2 e
variable {pos : Pos} {e : Expr} {m : ME} {f : Str} {cs : List Nat}
theorem mfld (hC : ∀ c ∈ cs, Cls X.K (cA c) ∧ NoAttr X.K (cA c) f) (he : PE X e (tE X.K cA W m)) (hb : attributeBase e f X.env (eval e X.env) = eval e X.env := by rfl) : PE X (.Attribute e f pos) (tE X.K cA W (fldE cs f m)) :=
  (pe_fld he hb).imp fun σ H Q h => (bind1 (rep1 := rV X.K) st_V h).imp fun v H1 h => by
    obtain ⟨ρ, S, d, hS, hr, h⟩ := h
    split at h
    · split at h
      · rename_i c fs e1
        split at h
        · rename_i hc
          split at h
          · rename_i y e2
            obtain ⟨a, dx, ps, rfl, _, h1, h2⟩ := rins_rep hS hr e1
            obtain ⟨w, hw, rw'⟩ := fld_rep h2 e2
            exact ⟨a, cA c, dx, ps, w, rfl, h1, (hC c hc).1, (hC c hc).2, hw, h.same hS rw'⟩
          · exact h.elim
        · exact h.elim
      · exact h.elim
    · exact h.elim
end

/-! ### methods of lists and texts -/
def tM2 (K : PySem.W.Frag) (cA : Nat → Addr) (W : XK) (f : D → List D → Store → R D) : V → List V → Hp → VK → Prop := fun x xs H Q =>
  ∃ ρ S d ds, Reps K cA ρ H S ∧ RepV K ρ H d x ∧ RepVs K ρ H ds xs ∧ After K cA W ρ H (rV K) (f d ds S) Q
def lmE (f : D → List D → Store → R D) (m : ME) (n : MA) : ME := fun l S => (m l S).bind fun d S1 => if (lstOf S1 d).isSome = true then (n l S1).bind (f d) else .bad
def appendM (d : D) (ds : List D) (S : Store) : R D := match d with
  | .ref n => match lstAt S n with
    | some xs => match ds with
      | [x] => if xs.length < sizeLine then .ok .non (S.set n (.lst (xs ++ [x]))) else .bad
      | _ => .bad
    | none => .bad
  | _ => .bad
def popM (d : D) (ds : List D) (S : Store) : R D := match d with
  | .ref n => match lstAt S n with
    | some xs => match ds with
      | [] => match xs[xs.length - 1]? with
        | some x => .ok x (S.set n (.lst xs.dropLast))
        | none => .bad
      | _ => .bad
    | none => .bad
  | _ => .bad
def popAtM (d : D) (ds : List D) (S : Store) : R D := match d with
  | .ref n => match lstAt S n with
    | some xs => match ds with
      | [.int i] => if 0 ≤ i ∧ i < 2 ^ 62 then (match xs[i.toNat]? with
        | some x => .ok x (S.set n (.lst (xs.eraseIdx i.toNat)))
        | none => .bad) else .bad
      | _ => .bad
    | none => .bad
  | _ => .bad
def extendM (d : D) (ds : List D) (S : Store) : R D := match d with
  | .ref n => match lstAt S n with
    | some xs => match ds with
      | [.ref k] => match lstAt S k with
        | some ys => if xs.length + ys.length ≤ sizeLine then .ok .non (S.set n (.lst (xs ++ ys))) else .bad
        | none => .bad
      | _ => .bad
    | none => .bad
  | _ => .bad
def reverseM (d : D) (ds : List D) (S : Store) : R D := match d with
  | .ref n => match lstAt S n with
    | some xs => match ds with
      | [] => .ok .non (S.set n (.lst xs.reverse))
      | _ => .bad
    | none => .bad
  | _ => .bad
def insertM (d : D) (ds : List D) (S : Store) : R D := match d with
  | .ref n => match lstAt S n with
    | some xs => match ds with
      | [.int i, x] => if 0 ≤ i ∧ i < 2 ^ 62 ∧ xs.length < sizeLine then .ok .non (S.set n (.lst (xs.take i.toNat ++ [x] ++ xs.drop i.toNat))) else .bad
      | _ => .bad
    | none => .bad
  | _ => .bad
section
variable {X : Cx} {cA : Nat → Addr} {W : XK} {K : PySem.W.Frag} {ρ : List Addr} {H : Hp} {S : Store}
theorem MtR.imp {id : String} {r r' : V → List V → Hp → VK → Prop} (h : MtR X id r) (i : ∀ x xs H Q, r' x xs H Q → r x xs H Q) : MtR X id r' := fun pins s σ H x xs v us Q I rx rs q => h pins s σ H x xs v us Q I rx rs (i _ _ _ _ q)
/-- a list is written, and something told -/
theorem After.put {n : Nat} {a : Addr} {vs ws : List V} {xs : List D} {d : D} {v : V} {Q : V → Hp → Prop} (h : After K cA W ρ H (rV K) (.ok d (S.set n (.lst xs))) Q) (hS : Reps K cA ρ H S) (ha : ρ[n]? = some a) (h1 : H a = some (.lst vs)) (hx : RepVs K ρ H xs ws) (hd : RepV K ρ H d v) : Q v (upd H a (.lst ws)) := by
  have E : Ext ρ H ρ (upd H a (.lst ws)) := Ext.write ha h1 True.intro
  exact h ρ _ _ E (hS.write ha h1 True.intro ⟨_, upd_same, hx.ext E⟩) (hd.ext E)
theorem rep_non' : RepV K ρ H .non .non := by unfold RepV; rfl
theorem nil_rep {xs : List V} (h : RepVs K ρ H [] xs) : xs = [] := by unfold RepVs at h; exact h
theorem mt_appendM : MtR X "list.append" (tM2 X.K cA W appendM) := MtR.imp mt_append fun x xs H Q h => by
  obtain ⟨ρ, S, d, ds, hS, hd, hds, h⟩ := h
  unfold appendM at h
  split at h
  · split at h
    · rename_i ys e1
      split at h
      · split at h
        · rename_i hz
          obtain ⟨a, vs, rfl, ha, h1, h2⟩ := rlst_rep hS hd e1
          obtain ⟨w, rfl, h3⟩ := one_rep hds
          exact ⟨a, vs, w, rfl, rfl, h1, by rw [RepVs.length h2]; exact hz, h.put hS ha h1 (h2.append (.cons h3 .nil)) rep_non'⟩
        · exact h.elim
      · exact h.elim
    · exact h.elim
  · exact h.elim
theorem RepVs.dropLast {xs : List D} {vs : List V} (h : RepVs K ρ H xs vs) : RepVs K ρ H xs.dropLast vs.dropLast := by
  rw [List.dropLast_eq_take, List.dropLast_eq_take, RepVs.length h]
  exact h.take _
theorem mt_popM : MtR X "list.pop" (tM2 X.K cA W popM) := MtR.imp mt_pop fun x xs H Q h => by
  obtain ⟨ρ, S, d, ds, hS, hd, hds, h⟩ := h
  unfold popM at h
  split at h
  · split at h
    · rename_i ys e1
      split at h
      · split at h
        · rename_i z hz
          obtain ⟨a, vs, rfl, ha, h1, h2⟩ := rlst_rep hS hd e1
          obtain ⟨w, hw, rw'⟩ := RepVs.get h2 _ _ hz
          exact ⟨a, vs, w, rfl, nil_rep hds, h1, by rw [RepVs.length h2]; exact hw, h.put hS ha h1 h2.dropLast rw'⟩
        · exact h.elim
      · exact h.elim
    · exact h.elim
  · exact h.elim
theorem RepVs.eraseIdx : ∀ {xs : List D} {vs : List V} (i : Nat), RepVs K ρ H xs vs → RepVs K ρ H (xs.eraseIdx i) (vs.eraseIdx i)
  | [], vs, i, h => by unfold RepVs at h; subst h; exact .nil
  | x :: xs, vs, i, h => by
    unfold RepVs at h
    obtain ⟨w, r, rfl, h1, h2⟩ := h
    cases i with
    | zero => exact h2
    | succ i => exact .cons h1 (RepVs.eraseIdx i h2)
theorem mt_popAtM : MtR X "list.pop" (tM2 X.K cA W popAtM) := MtR.imp mt_popAt fun x xs H Q h => by
  obtain ⟨ρ, S, d, ds, hS, hd, hds, h⟩ := h
  unfold popAtM at h
  split at h
  · split at h
    · rename_i ys e1
      split at h
      · split at h
        · rename_i hi
          split at h
          · rename_i i _ z hz
            obtain ⟨a, vs, rfl, ha, h1, h2⟩ := rlst_rep hS hd e1
            obtain ⟨w, hw, rw'⟩ := RepVs.get h2 _ _ hz
            obtain ⟨u, rfl, h3⟩ := one_rep hds
            unfold RepV at h3
            subst h3
            have hlt : i.toNat < vs.length := (List.getElem?_eq_some_iff.mp hw).1
            refine ⟨a, vs, i, i.toNat, w, rfl, rfl, h1, by omega, by omega, ?_, hw, h.put hS ha h1 (h2.eraseIdx _) rw'⟩
            exact PySem.StrLaws.seqIndex_nonneg hi.1 (by omega)
          · exact h.elim
        · exact h.elim
      · exact h.elim
    · exact h.elim
  · exact h.elim
theorem mt_extendM : MtR X "list.extend" (tM2 X.K cA W extendM) := MtR.imp mt_extend fun x xs H Q h => by
  obtain ⟨ρ, S, d, ds, hS, hd, hds, h⟩ := h
  unfold extendM at h
  split at h
  · split at h
    · rename_i ys e1
      split at h
      · split at h
        · rename_i zs e2
          split at h
          · rename_i hz
            obtain ⟨a, vs, rfl, ha, h1, h2⟩ := rlst_rep hS hd e1
            obtain ⟨w, rfl, h3⟩ := one_rep hds
            obtain ⟨b, ws, rfl, hb, h4, h5⟩ := rlst_rep hS h3 e2
            exact ⟨a, b, vs, ws, rfl, rfl, h1, h4, by rw [RepVs.length h2, RepVs.length h5]; exact hz, h.put hS ha h1 (h2.append h5) rep_non'⟩
          · exact h.elim
        · exact h.elim
      · exact h.elim
    · exact h.elim
  · exact h.elim
theorem RepVs.reverse {xs : List D} {vs : List V} (h : RepVs K ρ H xs vs) : RepVs K ρ H xs.reverse vs.reverse := by
  induction xs generalizing vs with
  | nil => unfold RepVs at h; subst h; exact .nil
  | cons x xs ih =>
    unfold RepVs at h
    obtain ⟨w, r, rfl, h1, h2⟩ := h
    rw [List.reverse_cons, List.reverse_cons]
    exact (ih h2).append (.cons h1 .nil)
theorem mt_reverseM : MtR X "list.reverse" (tM2 X.K cA W reverseM) := MtR.imp mt_reverse fun x xs H Q h => by
  obtain ⟨ρ, S, d, ds, hS, hd, hds, h⟩ := h
  unfold reverseM at h
  split at h
  · split at h
    · rename_i ys e1
      split at h
      · obtain ⟨a, vs, rfl, ha, h1, h2⟩ := rlst_rep hS hd e1
        exact ⟨a, vs, rfl, nil_rep hds, h1, h.put hS ha h1 h2.reverse rep_non'⟩
      · exact h.elim
    · exact h.elim
  · exact h.elim
theorem mt_insertM : MtR X "list.insert" (tM2 X.K cA W insertM) := MtR.imp mt_insert fun x xs H Q h => by
  obtain ⟨ρ, S, d, ds, hS, hd, hds, h⟩ := h
  unfold insertM at h
  split at h
  · split at h
    · rename_i ys e1
      split at h
      · split at h
        · rename_i i y hz
          obtain ⟨a, vs, rfl, ha, h1, h2⟩ := rlst_rep hS hd e1
          obtain ⟨u, w, rfl, h3, h4⟩ := two_rep hds
          unfold RepV at h3
          subst h3
          exact ⟨a, vs, i, w, rfl, rfl, h1, by rw [RepVs.length h2]; exact hz.2.2, hz.1, by omega, h.put hS ha h1 (((h2.take _).append (.cons h4 .nil)).append (h2.drop _)) rep_non'⟩
        · exact h.elim
      · exact h.elim
    · exact h.elim
  · exact h.elim
variable {o e : Expr} {es : List Expr} {m : ME} {n : MA} {name : Str} {apos cpos : Pos} {id : String} {f : D → List D → Store → R D}
/-- xs.m(e, ..) of a list -/
theorem mlm (slot : Slot "list" name id) (hty : typeOf (.builtin id) = pure (.type "method_descriptor")) (hm : MtR X id (tM2 X.K cA W f)) (ho : PE X o (tE X.K cA W m)) (ha : PA X (e :: es) (tAs X.K cA W n))
    (hbase : attributeBase o name X.env (eval o X.env) = eval o X.env := by rfl)
    (hfew : ((backTo cpos (starEach (e :: es) X.env)).all (fun x => !x.1) && (backToKw cpos (keywordEach [] X.env)).all (fun x => x.1.isSome)
      && decide ((e :: es).length + ([] : List Keyword).length + (if ([] : List Keyword).isEmpty then 0 else 1) < 30)) = true := by rfl)
    (hline : (apos.endLine == cpos.line) = true := by rfl) (hs : starEach (e :: es) X.env = (false, eval e X.env) :: starEach es X.env := by rfl) (hplain : (backTo cpos (starEach es X.env)).any (·.1) = false := by rfl) :
    PE X (.Call (.Attribute o name apos) (e :: es) [] cpos) (tE X.K cA W (lmE f m n)) :=
  (pe_bm PySem.F.plainAttrs_list slot hty hm ho ha hbase hfew hline hs hplain).imp fun σ H Q h => (bind1L (rep1 := rV X.K) st_V h).imp fun v H1 h => by
    obtain ⟨ρ, S, l, d, hS, hl, hr, h⟩ := h
    split at h
    · rename_i hz
      obtain ⟨xs, hx⟩ := Option.isSome_iff_exists.mp hz
      obtain ⟨a, vs, rfl, h1, _⟩ := lst_rep hS hr hx
      refine ⟨.inl ⟨rfl, vs, h1⟩, ρ, S, l, hS, hl, (After.bind (rep := rVs X.K) st_V h).imp fun us H2 h => ?_⟩
      obtain ⟨ρ2, S2, ds, e2, hS2, hr2, h⟩ := h
      exact ⟨ρ2, S2, d, ds, hS2, hr.ext e2, hr2, h⟩
    · exact h.elim
/-- xs.m() of a list -/
theorem mlm0 (slot : Slot "list" name id) (hty : typeOf (.builtin id) = pure (.type "method_descriptor")) (hm : MtR X id (tM2 X.K cA W f)) (ho : PE X o (tE X.K cA W m))
    (hbase : attributeBase o name X.env (eval o X.env) = eval o X.env := by rfl) (hline : (apos.endLine == cpos.line) = true := by rfl) :
    PE X (.Call (.Attribute o name apos) [] [] cpos) (tE X.K cA W (lmE f m nilA)) :=
  (pe_bm0 PySem.F.plainAttrs_list slot hty hm ho hbase hline).imp fun σ H Q h => (bind1L (rep1 := rV X.K) st_V h).imp fun v H1 h => by
    obtain ⟨ρ, S, l, d, hS, hl, hr, h⟩ := h
    split at h
    · rename_i hz
      obtain ⟨xs, hx⟩ := Option.isSome_iff_exists.mp hz
      obtain ⟨a, vs, rfl, h1, _⟩ := lst_rep hS hr hx
      exact ⟨.inl ⟨rfl, vs, h1⟩, ρ, S, d, [], hS, hr, .nil, h⟩
    · exact h.elim
/-- sep.join(a new list of texts) -/
def joinN (m : ME) (n : MA) : ME := fun l S => (m l S).bind fun d S1 => match strO d with
  | some a => (n l S1).bind fun ds S2 => match mapO strO ds with
    | some ys => if (ys.map (·.length)).sum + ys.length * a.length ≤ 16777216 then .ok (.str (Str.join a ys)) S2 else .bad
    | none => .bad
  | none => .bad
theorem mjoin (ho : PE X o (tE X.K cA W m)) (he : PE X e (tNw X.K cA W n)) (hs : starEach [e] X.env = [(false, eval e X.env)] := by rfl) (hbase : attributeBase o "join" X.env (eval o X.env) = eval o X.env := by rfl) (hline : (apos.endLine == cpos.line) = true := by rfl) :
    PE X (.Call (.Attribute o "join" apos) [e] [] cpos) (tE X.K cA W (joinN m n)) :=
  (pe_join ho he hs hbase hline).imp fun σ H Q h => (bind1L (rep1 := rV X.K) st_V h).imp fun v H1 h => by
    obtain ⟨ρ, S, l, d, hS, hl, hr, h⟩ := h
    split at h
    · rename_i a e1
      cases d with
      | str b =>
        cases e1
        unfold rV RepV at hr
        subst hr
        refine ⟨⟨a, rfl⟩, ρ, S, l, hS, hl, (After.bind (rep := rNew X.K) st_V h).imp fun us H2 h => ?_⟩
        obtain ⟨ρ2, S2, ds, e2, hS2, ⟨p, vs, rfl, _, _, h1, h2⟩, h⟩ := h
        split at h
        · rename_i ys e3
          split at h
          · rename_i hz
            have := strs_rep e3 h2
            subst this
            refine ⟨a, p, ys, rfl, rfl, .inl (SqL.of h1), hz, ?_⟩
            rw [show Txt.join a ys = Str.join a ys from PySem.StrLaws.glued_eq_join a ys]
            exact h.same hS2 (by unfold rV RepV; rfl)
          · exact h.elim
        · exact h.elim
      | _ => cases e1
    · exact h.elim
end
end ML

set_option Elab.async false
set_option linter.all false
set_option maxRecDepth 100000
set_option autoImplicit false
/-! ML7: statements, loops, comprehensions. -/
namespace ML
open PySem PySem.Spec L2

inductive Fl where
  | nx | rt (d : D) | bk | ct
inductive FlV where
  | nx | rt (v : V) | bk | ct
abbrev MS := Loc → Store → R (Fl × Loc)
def rS (K : PySem.W.Frag) : Rel (Fl × Loc) (FlV × L2.St) := fun _ ρ H a b => RepL K ρ H a.2 b.2 ∧ match a.1, b.1 with
  | .nx, .nx => True
  | .rt d, .rt v => RepV K ρ H d v
  | .bk, .bk => True
  | .ct, .ct => True
  | _, _ => False
theorem st_S {K : PySem.W.Frag} : Stable (rS K) := fun _ _ _ _ _ _ _ _ _ h => h
def endQ (E : Ends) : FlV × L2.St → Hp → Prop := fun b H => match b.1 with
  | .nx => E.nx b.2 H
  | .rt v => E.rt v H
  | .bk => E.bk b.2 H
  | .ct => E.ct b.2 H
def tS (K : PySem.W.Frag) (cA : Nat → Addr) (W : XK) (m : MS) : TS := fun E σ H => tG K cA W (rS K) m σ H (endQ E)
def rL (K : PySem.W.Frag) : Rel Loc L2.St := fun _ ρ H a b => RepL K ρ H a b
theorem st_L {K : PySem.W.Frag} : Stable (rL K) := fun _ _ _ _ _ _ _ _ _ h => h
/-- a target's reading -/
abbrev MT := D → Loc → Store → R Loc
def tTg (K : PySem.W.Frag) (cA : Nat → Addr) (W : XK) (m : MT) : TG := fun v σ H Q => ∃ ρ S l d, Reps K cA ρ H S ∧ RepL K ρ H l σ ∧ RepV K ρ H d v ∧ After K cA W ρ H (rL K) (m d l S) Q

/-! ### what is done -/
def nilS : MS := fun l S => .ok (.nx, l) S
def thenS (n : MS) (p : Fl × Loc) (S : Store) : R (Fl × Loc) := match p.1 with
  | .nx => n p.2 S
  | _ => .ok p S
def seqS (m n : MS) : MS := fun l S => (m l S).bind (thenS n)
def exprS (m : ME) : MS := fun l S => (m l S).bind fun _ S1 => .ok (.nx, l) S1
def retS (m : ME) : MS := fun l S => (m l S).bind fun d S1 => .ok (.rt d, l) S1
def retN : MS := fun l S => .ok (.rt .non, l) S
def ifS (c : MB) (m n : MS) : MS := fun l S => (c l S).bind fun b S1 => if b = true then m l S1 else n l S1
def breakS : MS := fun l S => .ok (.bk, l) S
def contS : MS := fun l S => .ok (.ct, l) S
def setS (i : Nat) (m : ME) : MS := fun l S => (m l S).bind fun d S1 => .ok (.nx, l.set i (some d)) S1
def asgS (t : MT) (m : ME) : MS := fun l S => (m l S).bind fun d S1 => (t d l S1).bind fun l1 S2 => .ok (.nx, l1) S2
def againS (n : MS) (p : Fl × Loc) (S : Store) : R (Fl × Loc) := match p.1 with
  | .nx => n p.2 S
  | .ct => n p.2 S
  | .bk => .ok (.nx, p.2) S
  | .rt d => .ok (.rt d, p.2) S
def whileS (c : MB) (b : MS) : Nat → MS
  | 0 => fun _ _ => .bad
  | k + 1 => fun l S => (c l S).bind fun t S1 => if t = true then (b l S1).bind (againS (whileS c b k)) else .ok (.nx, l) S1
/-- what is walked: the items, and what must stay -/
abbrev Sn := List D × (Store → Prop)
open Classical in
noncomputable def forL (chk : Store → Prop) (t : MT) (b : MS) : List D → MS
  | [] => fun l S => if chk S then .ok (.nx, l) S else .bad
  | d :: ds => fun l S => if chk S then (t d l S).bind fun l1 S1 => (b l1 S1).bind (againS (forL chk t b ds)) else .bad
noncomputable def forS (src : Loc → Store → R Sn) (t : MT) (b : MS) : MS := fun l S => (src l S).bind fun p S1 => forL p.2 t b p.1 l S1
def nameT (i : Nat) : MT := fun d l S => .ok (l.set i (some d)) S
def namesL : List Nat → List D → Loc → Option Loc
  | [], [], l => some l
  | i :: is, d :: ds, l => namesL is ds (l.set i (some d))
  | _, _, _ => none
def namesT (is : List Nat) : MT := fun d l S => match d with
  | .tup xs => match namesL is xs l with
    | some l1 => .ok l1 S
    | none => .bad
  | _ => .bad
def subT (m n : ME) : MT := fun d l S => (m l S).bind fun o S1 => (n l S1).bind fun i S2 => match setO S2 o i d with
  | some S3 => .ok l S3
  | none => .bad
def putD (f : Str) (v : D) : List (Str × D) → List (Str × D)
  | [] => [(f, v)]
  | (g, x) :: r => if g = f then (g, v) :: r else (g, x) :: putD f v r
def fldS (cs : List Nat) (f : Str) (m : ME) (v : ME) : MS := fun l S => (v l S).bind fun y S1 => (m l S1).bind fun d S2 => match d with
  | .ref n => match insAt S2 n with
    | some (c, fs) => if c ∈ cs ∧ fs.length < 1000 then .ok (.nx, l) (S2.set n (.ins c (putD f y fs))) else .bad
    | none => .bad
  | _ => .bad

section
variable {X : Cx} {cA : Nat → Addr} {W : XK} {pos : Pos} {K : PySem.W.Frag}
theorem RepL.set {ρ : List Addr} {H : Hp} {l : Loc} {σ : L2.St} {d : D} {v : V} (h : RepL K ρ H l σ) (hv : RepV K ρ H d v) (i : Nat) : RepL K ρ H (l.set i (some d)) (σ.set i (some v)) := by
  refine ⟨by rw [List.length_set, List.length_set]; exact h.len, fun j e hj => ?_⟩
  by_cases q : i = j
  · subst q
    have hi : i < l.length := by
      have := (List.getElem?_eq_some_iff.mp hj).1
      rwa [List.length_set] at this
    rw [List.getElem?_set_self hi] at hj
    cases hj
    exact ⟨v, List.getElem?_set_self (by rw [← h.len]; exact hi), hv⟩
  · rw [List.getElem?_set_ne q] at hj
    obtain ⟨w, hw, r⟩ := h.at_ j e hj
    exact ⟨w, by rw [List.getElem?_set_ne q]; exact hw, r⟩
variable {m n : MS} {e : Expr} {c : Expr} {me : ME} {p : MB} {st : Stmt} {rest : List Stmt}
theorem snil : PSs X [] (tS X.K cA W nilS) := pss_nil.imp fun E σ H h => by
  obtain ⟨ρ, S, l, hS, hl, h⟩ := h
  exact After.same (b := (FlV.nx, σ)) h hS ⟨hl, trivial⟩
theorem then_of {ρ : List Addr} {H : Hp} {r : R (Fl × Loc)} {E : Ends} (h : After K cA W ρ H (rS K) (r.bind (thenS n)) (endQ E)) : After K cA W ρ H (rS K) r (endQ { E with nx := tS K cA W n E }) := by
  refine (After.bind (rep := rS K) st_S h).imp fun b H1 h => ?_
  obtain ⟨ρ1, S1, a, e1, hS, ⟨hl, hf⟩, h⟩ := h
  obtain ⟨f, l⟩ := a
  obtain ⟨g, σ⟩ := b
  cases f with
  | nx => cases g with
    | nx => exact ⟨ρ1, S1, l, hS, hl, h⟩
    | _ => exact hf.elim
  | rt d => cases g with
    | rt v => exact After.same (rep := rS K) (a := (Fl.rt d, l)) (b := (FlV.rt v, σ)) (Q := endQ E) h hS ⟨hl, hf⟩
    | _ => exact hf.elim
  | bk => cases g with
    | bk => exact After.same (rep := rS K) (a := (Fl.bk, l)) (b := (FlV.bk, σ)) (Q := endQ E) h hS ⟨hl, trivial⟩
    | _ => exact hf.elim
  | ct => cases g with
    | ct => exact After.same (rep := rS K) (a := (Fl.ct, l)) (b := (FlV.ct, σ)) (Q := endQ E) h hS ⟨hl, trivial⟩
    | _ => exact hf.elim
theorem scons (h1 : PS X st (tS X.K cA W m)) (h2 : PSs X rest (tS X.K cA W n)) : PSs X (st :: rest) (tS X.K cA W (seqS m n)) :=
  (pss_cons h1 h2).imp fun E σ H h => by
    obtain ⟨ρ, S, l, hS, hl, h⟩ := h
    exact ⟨ρ, S, l, hS, hl, then_of h⟩
theorem sone (h1 : PS X st (tS X.K cA W m)) : PSs X [st] (tS X.K cA W m) := pss_one h1
theorem spass : PS X (.Pass pos) (tS X.K cA W nilS) := ps_pass.imp fun E σ H h => by
  obtain ⟨ρ, S, l, hS, hl, h⟩ := h
  exact After.same (b := (FlV.nx, σ)) h hS ⟨hl, trivial⟩
theorem sdoc {x : Str} {j : Nat} {pos' : Pos} : PS X (.Expr (.Constant (.str x) j pos) pos') (tS X.K cA W nilS) := ps_doc.imp fun E σ H h => by
  obtain ⟨ρ, S, l, hS, hl, h⟩ := h
  exact After.same (b := (FlV.nx, σ)) h hS ⟨hl, trivial⟩
theorem sbreak : PS X (.Break pos) (tS X.K cA W breakS) := ps_break.imp fun E σ H h => by
  obtain ⟨ρ, S, l, hS, hl, h⟩ := h
  exact After.same (b := (FlV.bk, σ)) h hS ⟨hl, trivial⟩
theorem scont : PS X (.Continue pos) (tS X.K cA W contS) := ps_continue.imp fun E σ H h => by
  obtain ⟨ρ, S, l, hS, hl, h⟩ := h
  exact After.same (b := (FlV.ct, σ)) h hS ⟨hl, trivial⟩
theorem after_L {α β : Type} {rep : Rel α β} {f : Loc → α → Store → R (Fl × Loc)} {mm : Loc → Store → R α} {σ : L2.St} {H : Hp} {E : Ends} (h : tS K cA W (fun l S => (mm l S).bind (f l)) E σ H) :
    tG K cA W rep mm σ H fun x H1 => ∃ ρ S l a, Reps K cA ρ H1 S ∧ RepL K ρ H1 l σ ∧ rep H ρ H1 a x ∧ After K cA W ρ H1 (rS K) (f l a S) (endQ E) := bind1L st_S h
theorem sexpr (he : PE X e (tE X.K cA W me)) (hs : swapsWith e none pos.line X.env = pure false := by rfl) : PS X (.Expr e pos) (tS X.K cA W (exprS me)) :=
  (ps_expr he hs).imp fun E σ H h => (after_L (rep := rV X.K) h).imp fun v H1 h => by
    obtain ⟨ρ, S, l, d, hS, hl, _, h⟩ := h
    exact After.same (b := (FlV.nx, σ)) h hS ⟨hl, trivial⟩
theorem sret (he : PE X e (tE X.K cA W me)) : PS X (.Return (some e) pos) (tS X.K cA W (retS me)) :=
  (ps_ret he).imp fun E σ H h => (after_L (rep := rV X.K) h).imp fun v H1 h => by
    obtain ⟨ρ, S, l, d, hS, hl, hr, h⟩ := h
    exact After.same (b := (FlV.rt v, σ)) h hS ⟨hl, hr⟩
theorem sretN : PS X (.Return none pos) (tS X.K cA W retN) := ps_retN.imp fun E σ H h => by
  obtain ⟨ρ, S, l, hS, hl, h⟩ := h
  exact After.same (b := (FlV.rt .non, σ)) h hS ⟨hl, rep_non'⟩
theorem sif {a b : List Stmt} (hc : PT X c (tT X.K cA W p)) (ha : PSs X a (tS X.K cA W m)) (hb : PSs X b (tS X.K cA W n)) : PS X (.If c a b pos) (tS X.K cA W (ifS p m n)) :=
  (ps_if hc ha hb).imp fun E σ H h => (after_L (rep := rId) h).imp fun t H1 h => by
    obtain ⟨ρ, S, l, d, hS, hl, hr, h⟩ := h
    subst hr
    cases d with
    | true => exact ⟨ρ, S, l, hS, hl, h⟩
    | false => exact ⟨ρ, S, l, hS, hl, h⟩
theorem sset {i : Nat} {x : Str} {pos' : Pos} (hN : X.N.Nodup) (hi : X.N[i]? = some x) (hx : L2.Loc X.env.scope x) (he : PE X e (tE X.K cA W me)) (hs : swapsWith e (some (.Name x pos')) pos.line X.env = pure false := by rfl) (hf : X.fn x = true ∨ X.env.scope.names.lookup x = some .local := by first | exact .inl rfl | exact .inr rfl | assumption) :
    PS X (.Assign [.Name x pos'] e pos) (tS X.K cA W (setS i me)) :=
  (ps_set hN hi hx he hs hf).imp fun E σ H h => (after_L (rep := rV X.K) h).imp fun v H1 h => by
    obtain ⟨ρ, S, l, d, hS, hl, hr, h⟩ := h
    exact After.same (b := (FlV.nx, σ.set i (some v))) h hS ⟨hl.set hr i, trivial⟩
theorem sasg {tg : Expr} {t : MT} (he : PE X e (tE X.K cA W me)) (hg : PG X tg (tTg X.K cA W t)) (hs : swapsWithSole [tg] e pos.line X.env = pure false := by rfl) (hw : swappedStores [tg] e X.env = pure none := by rfl)
    (h1 : (assignEach [tg] X.env).map (·.2) = [assign tg X.env] := by rfl) : PS X (.Assign [tg] e pos) (tS X.K cA W (asgS t me)) :=
  (ps_asg he hg hs hw h1).imp fun E σ H h => (after_L (rep := rV X.K) h).imp fun v H1 h => by
    obtain ⟨ρ, S, l, d, hS, hl, hr, h⟩ := h
    refine ⟨ρ, S, l, d, hS, hl, hr, (After.bind (rep := rL X.K) st_S h).imp fun σ1 H2 h => ?_⟩
    obtain ⟨ρ1, S1, l1, e1, hS1, hl1, h⟩ := h
    exact After.same (b := (FlV.nx, σ1)) h hS1 ⟨hl1, trivial⟩
/-! targets -/
theorem gname {i : Nat} {x : Str} (hN : X.N.Nodup) (hi : X.N[i]? = some x) (hx : L2.Loc X.env.scope x) (hf : X.fn x = true ∨ X.env.scope.names.lookup x = some .local := by first | exact .inl rfl | exact .inr rfl | assumption) : PG X (.Name x pos) (tTg X.K cA W (nameT i)) := by
  refine ⟨fun pins s σ H v u Q I r h => (pg_name hN hi hx hf).run pins s σ H v u Q I r ?_⟩
  obtain ⟨ρ, S, l, d, hS, hl, hr, h⟩ := h
  exact After.same (rep := rL X.K) h hS (hl.set hr i)
/-- the names' own reading -/
def gNms : List Nat → TGs
  | [] => gNil
  | i :: is => gCons (gName i) (gNms is)
theorem names_of {ρ : List Addr} {H : Hp} : ∀ {is : List Nat} {ds : List D} {vs : List V} {l l1 : Loc} {σ : L2.St} {Q : L2.St → Hp → Prop}, namesL is ds l = some l1 → RepVs K ρ H ds vs → RepL K ρ H l σ → (∀ σ1, RepL K ρ H l1 σ1 → Q σ1 H) → gNms is vs σ H Q
  | [], [], vs, l, l1, σ, Q, h, r, hl, q => by
    unfold RepVs at r
    cases h
    exact ⟨r, q σ hl⟩
  | i :: is, d :: ds, vs, l, l1, σ, Q, h, r, hl, q => by
    unfold RepVs at r
    obtain ⟨v, w, rfl, h1, h2⟩ := r
    exact ⟨v, w, rfl, names_of (is := is) h h2 (hl.set h1 i) q⟩
  | [], _ :: _, _, _, _, _, _, h, _, _, _ => nomatch h
  | _ :: _, [], _, _, _, _, _, h, _, _, _ => nomatch h
theorem namesL_len : ∀ {is : List Nat} {ds : List D} {l l1 : Loc}, namesL is ds l = some l1 → ds.length = is.length
  | [], [], _, _, _ => rfl
  | i :: is, d :: ds, l, l1, h => by rw [List.length_cons, List.length_cons, namesL_len (is := is) h]
  | [], _ :: _, _, _, h => nomatch h
  | _ :: _, [], _, _, h => nomatch h
theorem gnames {es : List Expr} {k : Nat} {is : List Nat} (hc : X.calm = true) (h : PGs X es (gNms is)) (hn : (assignEach es X.env).length = is.length := by rfl) (hst : (assignEach es X.env).findIdx? (·.1) = none := by rfl) : PG X (.Tuple es k pos) (tTg X.K cA W (namesT is)) := by
  refine ⟨fun pins s σ H v u Q I r hw => (pg_tup hc h hn hst).run pins s σ H v u Q I r ?_⟩
  obtain ⟨ρ, S, l, d, hS, hl, hr, hq⟩ := hw
  unfold namesT at hq
  cases d with
  | tup xs =>
    simp only at hq
    split at hq
    · rename_i l1 e1
      unfold RepV at hr
      obtain ⟨a, vs, rfl, h1, h2⟩ := hr
      refine ⟨a, vs, rfl, h1, by rw [RepVs.length h2]; exact namesL_len e1, names_of e1 h2 hl fun σ1 hl1 => After.same (rep := rL X.K) hq hS hl1⟩
    · exact hq.elim
  | _ => exact hq.elim
theorem gsub {o i : Expr} {mo mi : ME} (hu : X.A.units + 1 < cLine) (ho : PE X o (tE X.K cA W mo)) (hi : PE X i (tE X.K cA W mi))
    (ha : ∀ v, assign (.Subscript o i pos) X.env v = (do
      let ov ← holding [v] (eval o X.env)
      let iv ← holding [v, ov] (eval i X.env)
      standAt pos
      holding [v, ov, iv] (setItem ov iv v)
      release [v, ov, iv] []) := by intro _; rfl) : PG X (.Subscript o i pos) (tTg X.K cA W (subT mo mi)) := by
  refine ⟨fun pins s σ H v u Q I r hw => (pg_sub ho hi (set_M (cA := cA) hu) ha).run pins s σ H v u Q I r ?_⟩
  obtain ⟨ρ, S, l, d, hS, hl, hr, hq⟩ := hw
  refine ⟨ρ, S, l, hS, hl, (After.bind (rep := rV X.K) st_L hq).imp fun ov H1 h => ?_⟩
  obtain ⟨ρ1, S1, od, e1, hS1, r1, h⟩ := h
  refine ⟨ρ1, S1, l, hS1, hl.ext e1, (After.bind (rep := rV X.K) st_L h).imp fun iv H2 h => ?_⟩
  obtain ⟨ρ2, S2, id, e2, hS2, r2, h⟩ := h
  split at h
  · rename_i S3 e3
    refine ⟨ρ2, S2, od, id, d, hS2, r1.ext e2, r2, (hr.ext e1).ext e2, S3, e3, fun H' e' hS' => ?_⟩
    exact h ρ2 H' σ e' hS' (((hl.ext e1).ext e2).ext e')
  · exact h.elim
theorem putD_rep {ρ : List Addr} {H : Hp} {f : Str} {d : D} {v : V} (hv : RepV K ρ H d v) : ∀ {fs : List (Str × D)} {ps : List (Str × V)}, RepP K ρ H fs ps → RepP K ρ H (putD f d fs) (putF f v ps)
  | [], ps, h => by
    unfold RepP at h
    subst h
    exact ⟨v, [], rfl, hv, by unfold RepP; rfl⟩
  | (g, x) :: r, ps, h => by
    unfold RepP at h
    obtain ⟨w, q, rfl, h1, h2⟩ := h
    unfold putD putF
    by_cases e : g = f
    · rw [if_pos e, if_pos e]; exact ⟨v, q, rfl, hv, h2⟩
    · rw [if_neg e, if_neg e]; exact ⟨w, _, rfl, h1, putD_rep hv h2⟩
theorem len_fs {ρ : List Addr} {H : Hp} : ∀ {fs : List (Str × D)} {ps : List (Str × V)}, RepP K ρ H fs ps → ps.length = fs.length
  | [], ps, h => by unfold RepP at h; rw [h]; rfl
  | (k, x) :: r, ps, h => by
    unfold RepP at h
    obtain ⟨v, q, rfl, _, h2⟩ := h
    rw [List.length_cons, List.length_cons, len_fs h2]
theorem sfld {o value : Expr} {f : Str} {pos' : Pos} {cs : List Nat} {mo mv : ME} (hC : ∀ c ∈ cs, Cls X.K (cA c) ∧ NoAttr X.K (cA c) f) (ho : PE X o (tE X.K cA W mo)) (hv : PE X value (tE X.K cA W mv)) (hs : swapsWith value (some (.Attribute o f pos')) pos.line X.env = pure false := by rfl) :
    PS X (.Assign [.Attribute o f pos'] value pos) (tS X.K cA W (fldS cs f mo mv)) :=
  (ps_fld ho hv hs).imp fun E σ H h => (after_L (rep := rV X.K) h).imp fun y H1 h => by
    obtain ⟨ρ, S, l, d, hS, hl, hr, h⟩ := h
    refine ⟨ρ, S, l, hS, hl, (After.bind (rep := rV X.K) st_S h).imp fun x H2 h => ?_⟩
    obtain ⟨ρ1, S1, o, e1, hS1, r1, h⟩ := h
    split at h
    · split at h
      · rename_i n c fs ei
        split at h
        · rename_i hc
          obtain ⟨a, dx, ps, rfl, ha, h1, h2⟩ := rins_rep hS1 r1 ei
          have EE : Ext ρ1 H2 ρ1 (upd H2 a (.ins (cA c) dx (putF f y ps))) := Ext.write ha h1 True.intro
          refine ⟨a, cA c, dx, ps, rfl, h1, (hC c hc.1).1, (hC c hc.1).2, by rw [len_fs h2]; exact hc.2, ?_⟩
          exact h ρ1 _ (FlV.nx, σ) EE (hS1.write ha h1 True.intro ⟨dx, _, upd_same, (putD_rep (hr.ext e1) h2).ext EE⟩) ⟨((hl.ext e1).ext EE), trivial⟩
        · exact h.elim
      · exact h.elim
    · exact h.elim

/-! ### while -/
theorem again_of {ρ : List Addr} {H : Hp} {r : R (Fl × Loc)} {E : Ends} {N : L2.St → Hp → Prop} (hN : ∀ σ' H', tS K cA W n E σ' H' → N σ' H') (h : After K cA W ρ H (rS K) (r.bind (againS n)) (endQ E)) : After K cA W ρ H (rS K) r (endQ { E with nx := N, ct := N, bk := E.nx }) := by
  refine (After.bind (rep := rS K) st_S h).imp fun b H1 h => ?_
  obtain ⟨ρ1, S1, a, e1, hS, ⟨hl, hf⟩, h⟩ := h
  obtain ⟨f, l⟩ := a
  obtain ⟨g, σ⟩ := b
  cases f with
  | nx => cases g with
    | nx => exact hN σ H1 ⟨ρ1, S1, l, hS, hl, h⟩
    | _ => exact hf.elim
  | rt d => cases g with
    | rt v => exact After.same (rep := rS K) (a := (Fl.rt d, l)) (b := (FlV.rt v, σ)) (Q := endQ E) h hS ⟨hl, hf⟩
    | _ => exact hf.elim
  | bk => cases g with
    | bk => exact After.same (rep := rS K) (a := (Fl.nx, l)) (b := (FlV.nx, σ)) (Q := endQ E) h hS ⟨hl, trivial⟩
    | _ => exact hf.elim
  | ct => cases g with
    | ct => exact hN σ H1 ⟨ρ1, S1, l, hS, hl, h⟩
    | _ => exact hf.elim
theorem swhile {body : List Stmt} {b : MS} (k : Nat) (hp : PassesOwn (model X.prog X.w) X.A X.env X.xe) (hc : PT X c (tT X.K cA W p)) (hb : PSs X body (tS X.K cA W b)) : PS X (.While c body [] pos) (tS X.K cA W (whileS p b k)) :=
  (ps_while hp hc hb).imp fun E σ H h => by
    refine ⟨fun m σ H => tS X.K cA W (whileS p b m) E σ H, ⟨k, h⟩, fun m σ H h => ?_⟩
    cases m with
    | zero => obtain ⟨ρ, S, l, hS, hl, h⟩ := h; exact h.elim
    | succ m =>
      refine (after_L (rep := rId) h).imp fun t H1 h => ?_
      obtain ⟨ρ, S, l, d, hS, hl, hr, h⟩ := h
      subst hr
      cases d with
      | true => exact ⟨fun σ' H' => tS X.K cA W (whileS p b m) E σ' H', fun σ' H' h => ⟨m, Nat.lt_succ_self m, h⟩, ρ, S, l, hS, hl, again_of (fun _ _ h => h) h⟩
      | false => exact After.same (b := (FlV.nx, σ)) h hS ⟨hl, trivial⟩
end

/-! ### what is walked -/
structure SrcOk (K : PySem.W.Frag) (cA : Nat → Addr) (J : It) (ρ1 : List Addr) (H1 : Hp) (p : Sn) : Prop where
  go : ∀ (ρ : List Addr) (H : Hp) (S : Store), Ext ρ1 H1 ρ H → Reps K cA ρ H S → p.2 S → ∀ (i : Nat) (d : D), p.1[i]? = some d → J.go i H ∧ ∀ x H', J.yld i H x H' → Ext ρ H ρ H' ∧ (∀ a ∈ ρ, H' a = H a) ∧ RepV K ρ H' d x
  stop : ∀ (ρ : List Addr) (H : Hp) (S : Store), Ext ρ1 H1 ρ H → Reps K cA ρ H S → p.2 S → J.stop p.1.length H
def rSrc (K : PySem.W.Frag) (cA : Nat → Addr) : Rel Sn It := fun _ ρ H p J => SrcOk K cA J ρ H p
theorem st_Src {K : PySem.W.Frag} {cA : Nat → Addr} : Stable (rSrc K cA) := fun _ _ _ _ _ _ _ _ _ h => h
def tSrc (K : PySem.W.Frag) (cA : Nat → Addr) (W : XK) (m : Loc → Store → R Sn) : TI := tG K cA W (rSrc K cA) m
section
variable {X : Cx} {cA : Nat → Addr} {W : XK} {pos : Pos} {tg iter : Expr} {b : MS} {t : MT} {src : Loc → Store → R Sn}
theorem sfor {body : List Stmt} (hp : PassesOwn (model X.prog X.w) X.A X.env X.xe) (hc : X.calm = true) (hi : PI X tg iter (tSrc X.K cA W src)) (hg : PG X tg (tTg X.K cA W t)) (hb : PSs X body (tS X.K cA W b))
    (hs : ∀ x, foldedSetIterable iter X.env x = pure x := by intro _; rfl) : PS X (.For tg iter body [] pos) (tS X.K cA W (forS src t b)) :=
  (ps_for hp hc hi hg hb hs).imp fun E σ H h => (after_L (rep := rSrc X.K cA) h).imp fun J H1 h => by
    obtain ⟨ρ1, S1, l1, q, hS1, hl1, hJ, h⟩ := h
    obtain ⟨ds, chk⟩ := q
    refine ⟨fun i m σ H => ∃ ρ S l, Ext ρ1 H1 ρ H ∧ Reps X.K cA ρ H S ∧ RepL X.K ρ H l σ ∧ m + i = ds.length ∧ After X.K cA W ρ H (rS X.K) (forL chk t b (ds.drop i) l S) (endQ E), ⟨ds.length, ρ1, S1, l1, Ext.refl _ _, hS1, hl1, by omega, by rw [List.drop_zero]; exact h⟩, fun i m σ H h => ?_⟩
    obtain ⟨ρ, S, l, e1, hS, hl, hm, h⟩ := h
    by_cases hi : i < ds.length
    · have hd : ds.drop i = ds[i] :: ds.drop (i + 1) := List.drop_eq_getElem_cons hi
      rw [hd] at h
      unfold forL at h
      split at h
      · rename_i hk
        obtain ⟨hgo, hy⟩ := hJ.go ρ H S e1 hS hk i ds[i] (List.getElem?_eq_getElem hi)
        refine .inr ⟨hgo, fun σ' H' => ∃ ρ S l, Ext ρ1 H1 ρ H' ∧ Reps X.K cA ρ H' S ∧ RepL X.K ρ H' l σ' ∧ After X.K cA W ρ H' (rS X.K) (forL chk t b (ds.drop (i + 1)) l S) (endQ E), fun σ' H' ⟨ρ', S', l', a1, a2, a3, a4⟩ => ⟨m - 1, by omega, ρ', S', l', a1, a2, a3, by omega, a4⟩, fun x H' y => ?_⟩
        obtain ⟨e2, same, rx⟩ := hy x H' y
        have hS' := hS.other e2 same
        refine ⟨ρ, S, l, ds[i], hS', hl.ext e2, rx, ?_⟩
        have h' := After.back st_S e2 h
        refine (After.bind' (rep := rL X.K) st_S h').imp fun σ2 H2 h => ?_
        obtain ⟨ρ2, S2, l2, e3, hS2, hl2, h⟩ := h
        refine ⟨ρ2, S2, l2, hS2, hl2, ?_⟩
        have e13 := (e1.trans e2).trans e3
        refine (After.bind (rep := rS X.K) st_S h).imp fun bb H3 h => ?_
        obtain ⟨ρ3, S3, a, e4, hS3, ⟨hl3, hf⟩, h⟩ := h
        obtain ⟨f, l3⟩ := a
        obtain ⟨g, σ3⟩ := bb
        cases f with
        | nx => cases g with
          | nx => exact ⟨ρ3, S3, l3, e13.trans e4, hS3, hl3, h⟩
          | _ => exact hf.elim
        | rt d => cases g with
          | rt v => exact After.same (rep := rS X.K) (a := (Fl.rt d, l3)) (b := (FlV.rt v, σ3)) (Q := endQ E) h hS3 ⟨hl3, hf⟩
          | _ => exact hf.elim
        | bk => cases g with
          | bk => exact After.same (rep := rS X.K) (a := (Fl.nx, l3)) (b := (FlV.nx, σ3)) (Q := endQ E) h hS3 ⟨hl3, trivial⟩
          | _ => exact hf.elim
        | ct => cases g with
          | ct => exact ⟨ρ3, S3, l3, e13.trans e4, hS3, hl3, h⟩
          | _ => exact hf.elim
      · exact h.elim
    · have ei : i = ds.length := by omega
      subst ei
      rw [List.drop_length] at h
      unfold forL at h
      split at h
      · rename_i hk
        exact .inl ⟨hJ.stop ρ H S e1 hS hk, After.same (b := (FlV.nx, σ)) h hS ⟨hl, trivial⟩⟩
      · exact h.elim
where
  After.bind' {α β γ δ : Type} {K : PySem.W.Frag} {cA : Nat → Addr} {W : XK} {ρ : List Addr} {H : Hp} {rep : Rel α β} {rep' : Rel γ δ} (st : Stable rep') {r : R α} {f : α → Store → R γ} {Q : δ → Hp → Prop} (h : After K cA W ρ H rep' (r.bind f) Q) :
    After K cA W ρ H rep r fun b H1 => ∃ ρ1 S1 a, Ext ρ H ρ1 H1 ∧ Reps K cA ρ1 H1 S1 ∧ rep H ρ1 H1 a b ∧ After K cA W ρ1 H1 rep' (f a S1) Q := After.bind st h
end
end ML

set_option Elab.async false
set_option linter.all false
set_option maxRecDepth 100000
set_option autoImplicit false
/-! ML8: what is walked, comprehensions, calls, defs. -/
namespace ML
open PySem PySem.Spec L2

/-! ### what is walked -/
def still : Store → Prop := fun _ => True
def signsOf (z : Str) : List D := z.cps.toList.map fun c => .str ⟨#[c]⟩
/-- the items of a value -/
def srcD (d : D) (S : Store) : R Sn := match d with
  | .tup xs => .ok (xs, still) S
  | .lis xs => .ok (xs, still) S
  | .str z => .ok (signsOf z, still) S
  | .ref n => match lstAt S n with
    | some xs => .ok (xs, fun S' => lstAt S' n = some xs) S
    | none => .bad
  | _ => .bad
def srcV (m : ME) : Loc → Store → R Sn := fun l S => (m l S).bind srcD
def srcN (m : MA) : Loc → Store → R Sn := fun l S => (m l S).bind fun ds S1 => .ok (ds, still) S1
def intsFrom (lo : Int) (n : Nat) : List D := (List.range n).map fun i => .int (lo + (i : Nat))
def rng1 (ds : List D) (S : Store) : R Sn := match ds with
  | [.int j] => if -(2 ^ 62) ≤ j ∧ j < 2 ^ 62 then .ok (intsFrom 0 j.toNat, still) S else .bad
  | _ => .bad
def rng2 (ds : List D) (S : Store) : R Sn := match ds with
  | [.int i, .int j] => if -(2 ^ 62) ≤ i ∧ i < 2 ^ 62 ∧ -(2 ^ 62) ≤ j ∧ j < 2 ^ 62 then .ok (intsFrom i (j - i).toNat, still) S else .bad
  | _ => .bad
def srcR1 (m : MA) : Loc → Store → R Sn := fun l S => (m l S).bind rng1
def srcR2 (m : MA) : Loc → Store → R Sn := fun l S => (m l S).bind rng2
section
variable {X : Cx} {cA : Nat → Addr} {W : XK} {pos p0 : Pos} {tg e a b : Expr} {m : ME} {n : MA} {K : PySem.W.Frag}
theorem _root_.L2.PI.imp {X : Cx} {tg e : Expr} {w w' : TI} (h : PI X tg e w) (i : ∀ σ H R, w' σ H R → w σ H R) : PI X tg e w' := ⟨fun pins s σ H R I q => h.run pins s σ H R I (i σ H R q)⟩
theorem _root_.L2.PI.or {X : Cx} {tg e : Expr} {w w' : TI} (h : PI X tg e w) (h' : PI X tg e w') : PI X tg e (fun σ H R => w σ H R ∨ w' σ H R) := ⟨fun pins s σ H R I q => q.elim (h.run pins s σ H R I) (h'.run pins s σ H R I)⟩
theorem ext_self {ρ : List Addr} {H : Hp} : Ext ρ H ρ H ∧ ∀ a ∈ ρ, H a = H a := ⟨Ext.refl _ _, fun _ _ => rfl⟩
/-- a tuple that stands -/
theorem src_tup {ρ : List Addr} {H : Hp} {x : Addr} {vs : List V} {ds : List D} (hs : SqT K H x vs) (hr : RepVs K ρ H ds vs) : SrcOk K cA (Itt K x) ρ H (ds, still) := by
  have len := RepVs.length hr
  refine ⟨fun ρ' H' S e _ _ i d hd => ?_, fun ρ' H' S e _ _ => ⟨vs, SqT.ext e hs, Nat.le_of_eq len⟩⟩
  obtain ⟨v, hv, r⟩ := RepVs.get hr i d hd
  refine ⟨⟨vs, v, SqT.ext e hs, hv⟩, fun y H2 hy => ?_⟩
  obtain ⟨rfl, hy⟩ := hy
  have : vs[i]? = some y := hy vs (SqT.ext e hs)
  rw [hv] at this
  cases this
  exact ⟨ext_self.1, ext_self.2, r.ext e⟩
/-- a list that stands -/
theorem src_lst {ρ : List Addr} {H : Hp} {x : Addr} {ds : List D} {chk : Store → Prop} (hs : ∀ (ρ' : List Addr) (H' : Hp) (S : Store), Ext ρ H ρ' H' → Reps K cA ρ' H' S → chk S → ∃ vs, SqL K H' x vs ∧ RepVs K ρ' H' ds vs) : SrcOk K cA (Itl K x) ρ H (ds, chk) := by
  refine ⟨fun ρ' H' S e hS hk i d hd => ?_, fun ρ' H' S e hS hk => ?_⟩
  · obtain ⟨vs, hq, hr⟩ := hs ρ' H' S e hS hk
    obtain ⟨v, hv, r⟩ := RepVs.get hr i d hd
    refine ⟨⟨vs, v, hq, hv⟩, fun y H2 hy => ?_⟩
    obtain ⟨rfl, hy⟩ := hy
    have : vs[i]? = some y := hy vs hq
    rw [hv] at this
    cases this
    exact ⟨ext_self.1, ext_self.2, r⟩
  · obtain ⟨vs, hq, hr⟩ := hs ρ' H' S e hS hk
    exact ⟨vs, hq, Nat.le_of_eq (RepVs.length hr)⟩
theorem src_str {ρ : List Addr} {H : Hp} {z : Str} : SrcOk K cA (Its z) ρ H (signsOf z, still) := by
  have len : (signsOf z).length = z.cps.size := by simp [signsOf]
  refine ⟨fun ρ' H' S e _ _ i d hd => ?_, fun ρ' H' S e _ _ => Nat.le_of_eq len.symm⟩
  have hi : i < z.cps.size := by rw [← len]; exact (List.getElem?_eq_some_iff.mp hd).1
  refine ⟨hi, fun y H2 hy => ?_⟩
  obtain ⟨rfl, c, hc, rfl⟩ := hy
  refine ⟨ext_self.1, ext_self.2, ?_⟩
  have : d = .str ⟨#[c]⟩ := by
    unfold signsOf at hd
    rw [List.getElem?_map] at hd
    have hc' : z.cps.toList[i]? = some c := by simpa using hc
    rw [hc'] at hd
    exact (Option.some.inj hd).symm
  rw [this]
  unfold RepV
  rfl
theorem src_int {ρ : List Addr} {H : Hp} {lo : Int} {n : Nat} : SrcOk K cA (Itr lo n) ρ H (intsFrom lo n, still) := by
  have len : (intsFrom lo n).length = n := by simp [intsFrom]
  refine ⟨fun ρ' H' S e _ _ i d hd => ?_, fun ρ' H' S e _ _ => Nat.le_of_eq len.symm⟩
  have hi : i < n := by rw [← len]; exact (List.getElem?_eq_some_iff.mp hd).1
  refine ⟨hi, fun y H2 hy => ?_⟩
  obtain ⟨rfl, rfl⟩ := hy
  refine ⟨ext_self.1, ext_self.2, ?_⟩
  have : d = .int (lo + (i : Nat)) := by
    unfold intsFrom at hd
    rw [List.getElem?_map, List.getElem?_range hi] at hd
    exact (Option.some.inj hd).symm
  rw [this]
  unfold RepV
  rfl
/-- for .. in a value -/
theorem isrc (he : PE X e (tE X.K cA W m)) : PI X tg e (tSrc X.K cA W (srcV m)) :=
  ((pi_tup he).or ((pi_list he).or (pi_str he))).imp fun σ H R h => by
    obtain ⟨ρ, S, l, hS, hl, h⟩ := h
    unfold srcV at h
    generalize hm : m l S = r at h
    -- the kind is known at the outset: the value is
    cases r with
    | bad => exact h.elim
    | ex x S1 =>
      refine .inl ⟨ρ, S, l, hS, hl, ?_⟩
      rw [hm]
      exact h
    | ok d S1 =>
      have h : After X.K cA W ρ H (rSrc X.K cA) (srcD d S1) R := h
      unfold srcD at h
      have st : ∀ {k : It → Hp → Prop} {q : V → Hp → Prop}, (∀ ρ' H' v, Ext ρ H ρ' H' → Reps X.K cA ρ' H' S1 → RepV X.K ρ' H' d v → q v H') → tE X.K cA W m σ H q := fun {k q} hq => ⟨ρ, S, l, hS, hl, by rw [hm]; exact hq⟩
      split at h
      · refine .inl (st (k := R) fun ρ' H' v e1 hS1 hr => ?_)
        unfold RepV at hr
        obtain ⟨x, vs, rfl, h1, h2⟩ := hr
        exact ⟨x, rfl, ⟨vs, h1⟩, h ρ' H' _ e1 hS1 (src_tup h1 h2)⟩
      · refine .inr (.inl (st (k := R) fun ρ' H' v e1 hS1 hr => ?_))
        unfold RepV at hr
        obtain ⟨x, vs, rfl, h1, h2⟩ := hr
        exact ⟨x, rfl, ⟨vs, h1.sq⟩, h ρ' H' _ e1 hS1 (src_lst (chk := still) fun ρ2 H2 S2 e2 _ _ => ⟨vs, (h1.ext e2).sq, RepVs.ext e2 h2⟩)⟩
      · refine .inr (.inr (st (k := R) fun ρ' H' v e1 hS1 hr => ?_))
        unfold RepV at hr
        subst hr
        exact ⟨_, rfl, h ρ' H' _ e1 hS1 src_str⟩
      · split at h
        · rename_i n _ _ xs e0
          refine .inr (.inl (st (k := R) fun ρ' H' v e1 hS1 hr => ?_))
          obtain ⟨x, vs, rfl, ha, h1, h2⟩ := rlst_rep hS1 hr e0
          refine ⟨x, rfl, ⟨vs, SqL.of h1⟩, h ρ' H' _ e1 hS1 (src_lst fun ρ2 H2 S2 e2 hS2 hk => ?_)⟩
          have hr2 : RepV X.K ρ2 H2 (.ref n) (.ref x) := hr.ext e2
          obtain ⟨x', vs', ex, _, h3, h4⟩ := rlst_rep hS2 hr2 hk
          cases ex
          exact ⟨vs', SqL.of h3, h4⟩
        · exact h.elim
      · exact h.elim
/-- for .. in a new list -/
theorem isrcN (he : PE X e (tNw X.K cA W n)) : PI X tg e (tSrc X.K cA W (srcN n)) :=
  (pi_list he).imp fun σ H R h => by
    obtain ⟨ρ, S, l, hS, hl, h⟩ := h
    refine ⟨ρ, S, l, hS, hl, (After.bind (rep := rNew X.K) st_Src h).imp fun v H1 h => ?_⟩
    obtain ⟨ρ1, S1, ds, e1, hS1, ⟨p, vs, rfl, h0, hn, h1, h2⟩, h⟩ := h
    exact ⟨p, rfl, ⟨vs, SqL.of h1⟩, After.same (rep := rSrc X.K cA) h hS1 (src_lst (chk := still) fun ρ2 H2 S2 e2 _ _ => ⟨vs, SqL.of (e2.keep p _ h1 hn), RepVs.ext e2 h2⟩)⟩
theorem irng1 (hg : Gl X "range") (hm : X.mg "range" = none) (ha : PA X [a] (tAs X.K cA W n)) (hs : starEach [a] X.env = [(false, eval a X.env)] := by rfl) : PI X tg (.Call (.Name "range" p0) [a] [] pos) (tSrc X.K cA W (srcR1 n)) :=
  (pi_range1 hg hm ha hs).imp fun σ H R h => (bind1 (rep1 := rVs X.K) st_Src h).imp fun vs H1 h => by
    obtain ⟨ρ, S, ds, hS, hr, h⟩ := h
    unfold rng1 at h
    split at h
    · split at h
      · rename_i hz
        obtain ⟨v, rfl, h1⟩ := one_rep hr
        unfold RepV at h1
        subst h1
        exact ⟨_, rfl, hz.1, hz.2, After.same (rep := rSrc X.K cA) h hS src_int⟩
      · exact h.elim
    · exact h.elim
theorem irng2 (hg : Gl X "range") (hm : X.mg "range" = none) (ha : PA X [a, b] (tAs X.K cA W n)) (hs : starEach [a, b] X.env = [(false, eval a X.env), (false, eval b X.env)] := by rfl) (hs2 : starEach [b] X.env = [(false, eval b X.env)] := by rfl) : PI X tg (.Call (.Name "range" p0) [a, b] [] pos) (tSrc X.K cA W (srcR2 n)) :=
  (pi_range2 hg hm ha hs hs2).imp fun σ H R h => (bind1 (rep1 := rVs X.K) st_Src h).imp fun vs H1 h => by
    obtain ⟨ρ, S, ds, hS, hr, h⟩ := h
    unfold rng2 at h
    split at h
    · split at h
      · rename_i hz
        obtain ⟨v, w, rfl, h1, h2⟩ := two_rep hr
        unfold RepV at h1 h2
        subst h1 h2
        exact ⟨_, _, rfl, hz, After.same (rep := rSrc X.K cA) h hS src_int⟩
      · exact h.elim
    · exact h.elim
end

/-! ### comprehensions -/
def R.noex {α : Type} : R α → R α
  | .ok a S => .ok a S
  | _ => .bad
abbrev W0 : XK := fun _ _ _ => False
theorem After.noex {α β : Type} {K : PySem.W.Frag} {cA : Nat → Addr} {W W' : XK} {ρ : List Addr} {H : Hp} {rep : Rel α β} {r : R α} {Q : β → Hp → Prop} (h : After K cA W ρ H rep r.noex Q) : After K cA W' ρ H rep r Q := by
  cases r with
  | ok a S => exact h
  | ex x S => exact h.elim
  | bad => exact h.elim
theorem noex_bind {α β : Type} (r : R α) (f : α → Store → R β) : (r.bind f).noex = r.noex.bind fun a S => (f a S).noex := by cases r <;> rfl
/-- the slots of the block's own names -/
def wipeL (l : Loc) : List Nat → Loc
  | [] => l
  | v :: vs => (wipeL l vs).set v none
def yesM : MB := fun _ S => .ok true S
/-- how a block's target is set: one name, or several -/
inductive Tgt where
  | one (i : Nat) | many (is : List Nat)
def Tgt.own : Tgt → List Nat
  | .one i => [i]
  | .many is => is
def Tgt.put (t : Tgt) (d : D) (l : Loc) : Option Loc := match t with
  | .one i => some (l.set i (some d))
  | .many is => match d with
    | .tup xs => namesL is xs l
    | _ => none
open Classical in
noncomputable def compL (chk : Store → Prop) (t : Tgt) (c : MB) (m : ME) (l : Loc) : List D → List D → Store → R (List D)
  | [], acc, S => if chk S then .ok acc S else .bad
  | d :: ds, acc, S => if chk S then (match t.put d l with
    | some l1 => (c l1 S).bind fun b S1 => if b = true then (m l1 S1).bind fun y S2 => if acc.length < sizeLine then compL chk t c m l ds (acc ++ [y]) S2 else .bad else compL chk t c m l ds acc S1
    | none => .bad) else .bad
noncomputable def compN (src : Loc → Store → R Sn) (t : Tgt) (c : MB) (m : ME) : MA := fun l S => (src l S).bind fun p S1 => (compL p.2 t c m (wipeL l t.own) p.1 [] S1).noex
section
variable {X : Cx} {cA : Nat → Addr} {W : XK} {K : PySem.W.Frag}
theorem RepL.wipe {ρ : List Addr} {H : Hp} {l : Loc} {σ : L2.St} (h : RepL K ρ H l σ) : ∀ vs : List Nat, RepL K ρ H (wipeL l vs) (wipe σ vs)
  | [] => h
  | v :: vs => by
    have ih := RepL.wipe h vs
    refine ⟨by unfold wipeL L2.wipe; rw [List.length_set, List.length_set]; exact ih.len, fun j e hj => ?_⟩
    unfold wipeL at hj
    unfold L2.wipe
    by_cases q : v = j
    · subst q
      have hi : v < (wipeL l vs).length := by
        have := (List.getElem?_eq_some_iff.mp hj).1
        rwa [List.length_set] at this
      rw [List.getElem?_set_self hi] at hj
      cases hj
    · rw [List.getElem?_set_ne q] at hj
      obtain ⟨w, hw, r⟩ := ih.at_ j e hj
      exact ⟨w, by rw [List.getElem?_set_ne q]; exact hw, r⟩
theorem set_wipe {σ : L2.St} {i : Nat} {v : Option V} : ∀ {vs : List Nat}, i ∈ vs → wipe (σ.set i v) vs = wipe σ vs
  | [], h => nomatch h
  | j :: vs, h => by
    unfold L2.wipe
    by_cases q : j = i
    · subst q
      by_cases hm : j ∈ vs
      · rw [set_wipe hm]
      · rw [wipe_set_comm hm, List.set_set]
    · rcases List.mem_cons.mp h with e | hm
      · exact absurd e.symm q
      · rw [set_wipe hm]
where
  wipe_set_comm {σ : L2.St} {i : Nat} {v : Option V} : ∀ {vs : List Nat}, i ∉ vs → wipe (σ.set i v) vs = (wipe σ vs).set i v
    | [], _ => rfl
    | j :: vs, h => by
      unfold L2.wipe
      have h1 : j ≠ i := fun e => h (by simp [e])
      have h2 : i ∉ vs := fun e => h (by simp [e])
      rw [wipe_set_comm h2, List.set_comm _ _ (Ne.symm h1)]
/-- the raw reading of a target -/
def gT (K : PySem.W.Frag) : Tgt → TG
  | .one i => gName i
  | .many is => gTup K is.length (gNms is)
theorem gNms_of {ρ : List Addr} {H : Hp} : ∀ {is : List Nat} {ds : List D} {vs : List V} {l l1 : Loc} {σ : L2.St} {own : List Nat} {Q : L2.St → Hp → Prop}, (∀ i ∈ is, i ∈ own) → namesL is ds l = some l1 → RepVs K ρ H ds vs → RepL K ρ H l σ →
    (∀ σ1, RepL K ρ H l1 σ1 → wipe σ1 own = wipe σ own → Q σ1 H) → gNms is vs σ H Q
  | [], [], vs, l, l1, σ, own, Q, ho, h, r, hl, q => by
    unfold RepVs at r
    cases h
    exact ⟨r, q σ hl rfl⟩
  | i :: is, d :: ds, vs, l, l1, σ, own, Q, ho, h, r, hl, q => by
    unfold RepVs at r
    obtain ⟨v, w, rfl, h1, h2⟩ := r
    refine ⟨v, w, rfl, gNms_of (is := is) (own := own) (fun i hi => ho i (List.mem_cons_of_mem _ hi)) h h2 (hl.set h1 i) fun σ1 hl1 e => q σ1 hl1 ?_⟩
    rw [e, set_wipe (ho i List.mem_cons_self)]
  | [], _ :: _, _, _, _, _, _, _, _, h, _, _, _ => nomatch h
  | _ :: _, [], _, _, _, _, _, _, _, h, _, _, _ => nomatch h
theorem gT_of {ρ : List Addr} {H : Hp} {t : Tgt} {d : D} {v : V} {l l1 : Loc} {σ : L2.St} {Q : L2.St → Hp → Prop} (h : t.put d l = some l1) (r : RepV K ρ H d v) (hl : RepL K ρ H l σ) (q : ∀ σ1, RepL K ρ H l1 σ1 → wipe σ1 t.own = wipe σ t.own → Q σ1 H) : gT K t v σ H Q := by
  cases t with
  | one i =>
    cases h
    exact q _ (hl.set r i) (set_wipe (by simp [Tgt.own]))
  | many is =>
    unfold Tgt.put at h
    cases d with
    | tup xs =>
      unfold RepV at r
      obtain ⟨a, vs, rfl, h1, h2⟩ := r
      exact ⟨a, vs, rfl, h1, by rw [RepVs.length h2]; exact namesL_len h, gNms_of (own := is) (fun _ h => h) h h2 hl q⟩
    | _ => cases h
theorem wipe_wipe {σ : L2.St} : ∀ {vs : List Nat}, wipe (wipe σ vs) vs = wipe σ vs
  | [] => rfl
  | v :: vs => by
    rw [show wipe σ (v :: vs) = (wipe σ vs).set v none from rfl]
    exact (set_wipe List.mem_cons_self).trans (by show (wipe (wipe σ vs) vs).set v none = _; rw [wipe_wipe])
variable {elt tg iter : Expr} {ifs : List Expr} {scope : Scope} {own : List (Str × Nat)} {pos spos : Pos} {src : Loc → Store → R Sn} {t : Tgt} {c : MB} {m : ME}
mutual
theorem RepV.hp {ρ : List Addr} {H H' : Hp} (t1 : ∀ a xs, Rd H a (.tup xs) → Rd H' a (.tup xs)) (t2 : ∀ a o xs, H a = some (.frz o (.lst xs)) → H' a = some (.frz o (.lst xs))) : ∀ {d : D} {v : V}, RepV K ρ H d v → RepV K ρ H' d v
  | .non, _, h => h
  | .bl _, _, h => h
  | .int _, _, h => h
  | .str _, _, h => h
  | .tup xs, v, h => by
    unfold RepV at h ⊢
    obtain ⟨a, vs, ev, hs, hr⟩ := h
    refine ⟨a, vs, ev, ?_, RepVs.hp t1 t2 hr⟩
    rcases hs with hs | hs
    · exact .inl (t1 a vs hs)
    · exact .inr hs
  | .lis xs, v, h => by
    unfold RepV at h ⊢
    obtain ⟨a, vs, ev, hs, hr⟩ := h
    refine ⟨a, vs, ev, ?_, RepVs.hp t1 t2 hr⟩
    rcases hs with ⟨o, hs⟩ | hs
    · exact .inl ⟨o, t2 a o vs hs⟩
    · exact .inr hs
  | .ref n, v, h => h
  | .exn _, v, h => h
theorem RepVs.hp {ρ : List Addr} {H H' : Hp} (t1 : ∀ a xs, Rd H a (.tup xs) → Rd H' a (.tup xs)) (t2 : ∀ a o xs, H a = some (.frz o (.lst xs)) → H' a = some (.frz o (.lst xs))) : ∀ {ds : List D} {vs : List V}, RepVs K ρ H ds vs → RepVs K ρ H' ds vs
  | [], _, h => h
  | x :: xs, vs, h => by
    unfold RepVs at h ⊢
    obtain ⟨v, r, ev, h1, h2⟩ := h
    exact ⟨v, r, ev, RepV.hp t1 t2 h1, RepVs.hp t1 t2 h2⟩
end
theorem RepP.hp {ρ : List Addr} {H H' : Hp} (t1 : ∀ a xs, Rd H a (.tup xs) → Rd H' a (.tup xs)) (t2 : ∀ a o xs, H a = some (.frz o (.lst xs)) → H' a = some (.frz o (.lst xs))) {κ : Type} : ∀ {kvs : List (κ × D)} {ps : List (κ × V)}, RepP K ρ H kvs ps → RepP K ρ H' kvs ps
  | [], _, h => h
  | (k, x) :: r, ps, h => by
    unfold RepP at h ⊢
    obtain ⟨v, q, ev, h1, h2⟩ := h
    exact ⟨v, q, ev, h1.hp t1 t2, RepP.hp t1 t2 h2⟩
/-- an inner step, the wish kept of where it began -/
theorem After.step {α β γ δ : Type} {W : XK} {ρ1 ρ2 : List Addr} {H1 H2 : Hp} {rep : Rel α β} {rep' : Rel γ δ} {r : R α} {f : α → Store → R γ} {Q : δ → Hp → Prop} (h : After K cA W ρ1 H1 rep' (r.bind f) Q) (e : Ext ρ1 H1 ρ2 H2) :
    After K cA W ρ2 H2 rep r fun b H3 => ∃ ρ3 S3 a, Ext ρ2 H2 ρ3 H3 ∧ Reps K cA ρ3 H3 S3 ∧ rep H2 ρ3 H3 a b ∧ After K cA W ρ1 H1 rep' (f a S3) Q := by
  cases r with
  | ok a S => exact fun ρ' H' b e' hs hr => ⟨ρ', S, a, e', hs, hr, h⟩
  | ex x S => exact fun ρ' H' c d e' hs hr => h ρ' H' c d (e.trans e') hs hr
  | bad => exact h
/-- the list that is being built is written -/
structure Owned (D0 : Addr) (ρ1 : List Addr) (H1 : Hp) (ρ2 : List Addr) (H2 : Hp) (vs : List V) : Prop where
  no : H1 D0 = none
  ext : Ext ρ1 H1 ρ2 H2
  nin : D0 ∉ ρ2
  at_ : H2 D0 = some (.lst vs)
section
variable {D0 : Addr} {ρ1 ρ2 ρ3 : List Addr} {H1 H2 H3 : Hp} {vs ws : List V}
theorem Owned.go (o : Owned D0 ρ1 H1 ρ2 H2 vs) (e : Ext ρ2 H2 ρ3 H3) : Owned D0 ρ1 H1 ρ3 H3 vs := by
  refine ⟨o.no, o.ext.trans e, fun hm => ?_, e.keep D0 _ o.at_ o.nin⟩
  obtain ⟨r, er, nr⟩ := e.pre
  rw [er] at hm
  rcases List.mem_append.mp hm with z | z
  · exact o.nin z
  · have := nr D0 z
    rw [o.at_] at this; cases this
theorem Owned.t1 (o : Owned D0 ρ1 H1 ρ2 H2 vs) : ∀ a xs, Rd H2 a (.tup xs) → Rd (upd H2 D0 (.lst ws)) a (.tup xs) := fun a xs h => by
  have ne : a ≠ D0 := by
    rintro rfl
    rcases h with h | ⟨u, h⟩ <;> (rw [o.at_] at h; cases h)
  rcases h with h | ⟨u, h⟩
  · exact .inl (by rw [upd_ne ne]; exact h)
  · exact .inr ⟨u, by rw [upd_ne ne]; exact h⟩
theorem Owned.t2 (o : Owned D0 ρ1 H1 ρ2 H2 vs) : ∀ a u xs, H2 a = some (.frz u (.lst xs)) → (upd H2 D0 (.lst ws)) a = some (.frz u (.lst xs)) := fun a u xs h => by
  have ne : a ≠ D0 := by
    rintro rfl
    rw [o.at_] at h; cases h
  rw [upd_ne ne]; exact h
theorem Owned.put (o : Owned D0 ρ1 H1 ρ2 H2 vs) : Owned D0 ρ1 H1 ρ2 (upd H2 D0 (.lst ws)) ws := by
  have ne : ∀ {b : Addr}, H1 b ≠ none → b ≠ D0 := fun {b} hb e => hb (by rw [e]; exact o.no)
  obtain ⟨r, er, nr⟩ := o.ext.pre
  refine ⟨o.no, ⟨⟨r, er, nr⟩, fun b q hb nb => ?_, fun b xs hb => o.t1 b xs (o.ext.tups b xs hb), fun b q xs hb => o.t2 b q xs (o.ext.frzs b q xs hb), fun b hb => ?_⟩, o.nin, upd_same⟩
  · rw [upd_ne (ne (by rw [hb]; simp))]; exact o.ext.keep b q hb nb
  · rw [upd_ne (ne hb)]; exact o.ext.there b hb
theorem Owned.reps {S : Store} (o : Owned D0 ρ1 H1 ρ2 H2 vs) (h : Reps K cA ρ2 H2 S) : Reps K cA ρ2 (upd H2 D0 (.lst ws)) S := by
  refine ⟨h.len, h.nd, fun n c a hc ha => ?_⟩
  have na : a ≠ D0 := fun e => o.nin (by rw [← e]; exact List.mem_of_getElem? ha)
  have q := h.at_ n c a hc ha
  cases c with
  | lst xs => obtain ⟨vs, h1, h2⟩ := q; exact ⟨vs, by rw [upd_ne na]; exact h1, h2.hp o.t1 o.t2⟩
  | dct xs => obtain ⟨vs, h1, h2⟩ := q; exact ⟨vs, by rw [upd_ne na]; exact h1, h2.hp o.t1 o.t2⟩
  | dlk xs => obtain ⟨u, vs, h1, h2⟩ := q; exact ⟨u, vs, by rw [upd_ne na]; exact h1, h2.hp o.t1 o.t2⟩
  | ins c xs => obtain ⟨dx, vs, h1, h2⟩ := q; exact ⟨dx, vs, by rw [upd_ne na]; exact h1, h2.hp o.t1 o.t2⟩
end
/-- what a comprehension asks -/
theorem comp_of (ho : own.map (·.2) = t.own) {σ : L2.St} {H : Hp} {Q : VK} (h : tNw X.K cA W (compN src t c m) σ H Q) : tLc (tSrc X.K cA W src) (gT X.K t) (tT X.K cA W0 c) (tE X.K cA W0 m) (own.map (·.2)) σ H Q := by
  rw [ho]
  obtain ⟨ρ, S, l, hS, hl, h⟩ := h
  refine ⟨ρ, S, l, hS, hl, (After.bind (rep := rSrc X.K cA) st_New h).imp fun J H1 h => ?_⟩
  obtain ⟨ρ1, S1, p, e1, hS1, hJ, h⟩ := h
  intro D0 hD
  have hl1 : RepL X.K ρ1 H1 (wipeL l t.own) (wipe σ t.own) := (hl.ext e1).wipe t.own
  -- the invariant: behind i turns
  refine ⟨fun i k H2 => ∃ ρ2 S2 acc vs, Owned D0 ρ1 H1 ρ2 H2 vs ∧ Reps X.K cA ρ2 H2 S2 ∧ RepVs X.K ρ2 H2 acc vs ∧ k + i = p.1.length ∧
    After X.K cA W ρ1 H1 (rNew X.K) (compL p.2 t c m (wipeL l t.own) (p.1.drop i) acc S2).noex Q, ?_, ?_⟩
  · refine ⟨p.1.length, ρ1, S1, [], [], ⟨hD, Ext.new hD, hS1.free hD, upd_same⟩, hS1.new hD, .nil, by omega, ?_⟩
    rw [List.drop_zero]
    exact h
  · rintro i k H2 ⟨ρ2, S2, acc, vs, o, hS2, hr, hk, h⟩
    by_cases hi : i < p.1.length
    · have hd : p.1.drop i = p.1[i] :: p.1.drop (i + 1) := List.drop_eq_getElem_cons hi
      rw [hd] at h
      unfold compL at h
      split at h
      · rename_i hc
        obtain ⟨hgo, hy⟩ := hJ.go ρ2 H2 S2 o.ext hS2 hc i p.1[i] (List.getElem?_eq_getElem hi)
        refine .inr ⟨hgo, fun H' => ∃ ρ2 S2 acc vs, Owned D0 ρ1 H1 ρ2 H' vs ∧ Reps X.K cA ρ2 H' S2 ∧ RepVs X.K ρ2 H' acc vs ∧
          After X.K cA W ρ1 H1 (rNew X.K) (compL p.2 t c m (wipeL l t.own) (p.1.drop (i + 1)) acc S2).noex Q, fun H' ⟨ρ2, S2, acc, vs, a1, a2, a3, a4⟩ => ⟨k - 1, by omega, ρ2, S2, acc, vs, a1, a2, a3, by omega, a4⟩, fun x H3 hx => ?_⟩
        obtain ⟨e3, same, rx⟩ := hy x H3 hx
        have hS3 := hS2.other e3 same
        have o3 := o.go e3
        split at h
        · rename_i l1 el
          have hl3 : RepL X.K ρ2 H3 (wipeL l t.own) (wipe σ t.own) := hl1.ext o3.ext
          refine gT_of el rx hl3 fun σ1 hs1 hw => ⟨hw.trans wipe_wipe, ?_⟩
          rw [noex_bind] at h
          refine ⟨ρ2, S2, l1, hS3, hs1, After.noex (W := W) ((After.step (rep := rId) h o3.ext).imp fun tb H4 hq => ?_)⟩
          obtain ⟨ρ4, S4, tb', e4, hS4, ht, h⟩ := hq
          subst ht
          have o4 := o3.go e4
          have hr4 : RepVs X.K ρ4 H4 acc vs := RepVs.ext e4 (RepVs.ext e3 hr)
          cases tb' with
          | true =>
            simp only [if_true] at h ⊢
            rw [noex_bind] at h
            refine ⟨ρ4, S4, l1, hS4, hs1.ext e4, After.noex (W := W) ((After.step (rep := rV X.K) h o4.ext).imp fun y H5 hq => ?_)⟩
            obtain ⟨ρ5, S5, yd, e5, hS5, ry, h⟩ := hq
            have o5 := o4.go e5
            have hr5 := RepVs.ext e5 hr4
            split at h
            · rename_i hz
              refine ⟨vs, o5.at_, by rw [RepVs.length hr5]; exact hz, ρ5, S5, acc ++ [yd], vs ++ [y], o5.put, o5.reps hS5, ?_, h⟩
              exact RepVs.hp o5.t1 o5.t2 (hr5.append (.cons ry .nil))
            · exact h.elim
          | false =>
            exact ⟨ρ4, S4, acc, vs, o4, hS4, hr4, h⟩
        · exact h.elim
      · exact h.elim
    · have ei : i = p.1.length := by omega
      subst ei
      rw [List.drop_length] at h
      unfold compL at h
      split at h
      · rename_i hc
        exact .inl ⟨hJ.stop ρ2 H2 S2 o.ext hS2 hc, h ρ2 H2 _ o.ext hS2 ⟨D0, vs, rfl, hD, o.nin, o.at_, hr⟩⟩
      · exact h.elim
/-- [elt for .. in .. if ..] -/
theorem mcomp (ho : own.map (·.2) = t.own) (hc : X.calm = true) (hN : X.N.Nodup) (hi : PI X tg iter (tSrc X.K cA W src)) (ok : BlkOk X.N X.env.scope scope own)
    (hg : ∀ (s : Shared) (H : Hp) (C : Addr) (cl : List (Str × Addr)) (fp : List Addr), PG (X.blk s H scope (compEnvC scope cl C X.env) fp) tg (gT X.K t)) (ht : ∀ (s : Shared) (H : Hp) (C : Addr) (cl : List (Str × Addr)) (fp : List Addr), PTs (X.blk s H scope (compEnvC scope cl C X.env) fp) ifs (tT X.K cA W0 c))
    (he : ∀ (s : Shared) (H : Hp) (C : Addr) (cl : List (Str × Addr)) (fp : List Addr), PE (X.blk s H scope (compEnvC scope cl C X.env) fp) elt (tE X.K cA W0 m)) (hs : ∀ x, foldedSetIterable iter X.env x = pure x := by intro _; rfl) :
    PE X (.ListComp elt [⟨tg, iter, ifs, 0⟩] scope pos) (tNw X.K cA W (compN src t c m)) :=
  (pe_lc hc hN hi ok hg ht he hs).imp fun σ H Q h => comp_of ho h
/-- y = [elt for .. in .. if ..] -/
theorem ssetC {i : Nat} {y : Str} {py : Pos} (ho : own.map (·.2) = t.own) (hc : X.calm = true) (hN : X.N.Nodup) (hy : X.N[i]? = some y) (hyl : X.env.scope.names.lookup y = some .local)
    (hsw : swapsWith (.ListComp elt [⟨tg, iter, ifs, 0⟩] scope pos) (some (.Name y py)) spos.line X.env = pure true) (hi : PI X tg iter (tSrc X.K cA W src)) (ok : BlkOk X.N X.env.scope scope own)
    (hg : ∀ (s : Shared) (H : Hp) (C : Addr) (cl : List (Str × Addr)) (fp : List Addr), PG (X.blk s H scope (compEnvC scope cl C X.env) fp) tg (gT X.K t)) (ht : ∀ (s : Shared) (H : Hp) (C : Addr) (cl : List (Str × Addr)) (fp : List Addr), PTs (X.blk s H scope (compEnvC scope cl C X.env) fp) ifs (tT X.K cA W0 c))
    (he : ∀ (s : Shared) (H : Hp) (C : Addr) (cl : List (Str × Addr)) (fp : List Addr), PE (X.blk s H scope (compEnvC scope cl C X.env) fp) elt (tE X.K cA W0 m)) (hs : ∀ x, foldedSetIterable iter X.env x = pure x := by intro _; rfl) :
    PS X (.Assign [.Name y py] (.ListComp elt [⟨tg, iter, ifs, 0⟩] scope pos) spos) (tS X.K cA W (setS i (allocE (compN src t c m)))) :=
  (ps_setLc hc hN hy hyl hsw hi ok hg ht he hs).imp fun E σ H h => by
    have h1 : tE X.K cA W (allocE (compN src t c m)) σ H fun v H1 => E.nx (σ.set i (some v)) H1 := (after_L (rep := rV X.K) h).imp fun v H1 h => by
      obtain ⟨ρ, S, l, d, hS, hl, hr, h⟩ := h
      exact After.same (b := (FlV.nx, σ.set i (some v))) h hS ⟨hl.set hr i, trivial⟩
    exact comp_of ho (alloc_of h1)
where
  alloc_of {n : MA} {σ : L2.St} {H : Hp} {Q : VK} (h : tE X.K cA W (allocE n) σ H Q) : tNw X.K cA W n σ H Q := by
    obtain ⟨ρ, S, l, hS, hl, h⟩ := h
    refine ⟨ρ, S, l, hS, hl, ?_⟩
    unfold allocE at h
    generalize n l S = r at h
    cases r with
    | ok ds S1 =>
      intro ρ' H' v e1 hs hr
      obtain ⟨p, vs, rfl, h0, hn, h1, h2⟩ := hr
      refine h (ρ' ++ [p]) H' (.ref p) (e1.take h0) (hs.push hn ⟨vs, h1, h2⟩) ?_
      show RepV X.K (ρ' ++ [p]) H' (.ref S1.length) (.ref p)
      unfold RepV
      exact ⟨p, by rw [← hs.len, List.getElem?_append_right (Nat.le_refl _)]; simp, rfl⟩
    | ex x S1 => exact h
    | bad => exact h
theorem tyes : PTs X [] (tT X.K cA W yesM) := ⟨fun pins s σ H Q I h => pts_nil.run pins s σ H Q I (by
  obtain ⟨ρ, S, l, hS, hl, h⟩ := h
  exact After.same (rep := rId) h hS rfl)⟩
theorem tone {c : Expr} {p : MB} (h : PT X c (tT X.K cA W p)) : PTs X [c] (tT X.K cA W p) := pts_one h
end

/-! ### calls, defs -/
def spM (K : PySem.W.Frag) (cA : Nat → Addr) (G : List D → Store → R D) (n : Nat) : Sp := fun vs H Q E => vs.length = n ∧ tN K cA E (rV K) G vs H Q
structure FnM (P : Program) (w : World) (K : PySem.W.Frag) (mg : Str → Option Value) (base : Heap) (cA : Nat → Addr) (k : Nat) (x : Str) (n : Nat) (G : List D → Store → R D) : Prop where
  ex : ∃ f fd ps, mg x = some (.ref f) ∧ PySem.W.keepIn K (.ref f) = true ∧ Binds K fd ps [] ∧ FnOk P w K mg base (L2.CX P w) k f fd ps (spM K cA G n)
def callE (n : Nat) (G : List D → Store → R D) (m : MA) : ME := fun l S => (m l S).bind fun ds S1 => if ds.length = n then G ds S1 else .bad
def startL (n : Nat) (ds : List D) : Loc := ds.map some ++ List.replicate (n - ds.length) none
def bodyF (n : Nat) (m : MS) (ds : List D) (S : Store) : R D := (m (startL n ds) S).bind fun p S1 => match p.1 with
  | .nx => .ok .non S1
  | .rt d => .ok d S1
  | _ => .bad
section
variable {X : Cx} {cA : Nat → Addr} {W : XK} {p pos : Pos} {x : Str} {e : Expr} {es : List Expr} {m : MA} {k j n : Nat} {G : List D → Store → R D}
theorem call_of {σ : L2.St} {H : Hp} {Q : VK} (h : tE X.K cA W (callE n G m) σ H Q) : tAs X.K cA W m σ H fun vs H1 => spM X.K cA G n vs H1 Q W :=
  (bind1 (rep1 := rVs X.K) st_V h).imp fun vs H1 h => by
    obtain ⟨ρ, S, ds, hS, hr, h⟩ := h
    split at h
    · rename_i hn
      exact ⟨by rw [RepVs.length hr]; exact hn, ρ, S, ds, hS, hr, h⟩
    · exact h.elim
theorem mcall (F : FnM X.prog X.w X.K X.mg X.base cA k x n G) (hk : k ≤ j) (hr : Room j X.A) (hx : Passes (L2.CX X.prog X.w) X W) (hg : Gl X x) (ha : PA X (e :: es) (tAs X.K cA W m)) (hdb : (x == ("__debug__" : Str)) = false := by decide)
    (he : starEach (e :: es) X.env = (false, eval e X.env) :: starEach es X.env := by rfl) (hpl : (backTo pos (starEach es X.env)).any (·.1) = false := by rfl) : PE X (.Call (.Name x p) (e :: es) [] pos) (tE X.K cA W (callE n G m)) := by
  obtain ⟨f, fd, ps, hm, hkp, hb, FF⟩ := F.ex
  exact (pe_call FF (hr.mono hk) hg hm hkp hb .nil hx ha hdb he hpl).imp fun σ H Q h => by
    refine (call_of h).imp fun vs H1 h => ?_
    show spM X.K cA G n (vs ++ []) H1 Q W
    rw [List.append_nil]
    exact h
theorem mcall0 (F : FnM X.prog X.w X.K X.mg X.base cA k x n G) (hk : k ≤ j) (hr : Room j X.A) (hx : Passes (L2.CX X.prog X.w) X W) (hg : Gl X x) (hdb : (x == ("__debug__" : Str)) = false := by decide) : PE X (.Call (.Name x p) [] [] pos) (tE X.K cA W (callE n G nilA)) := by
  obtain ⟨f, fd, ps, hm, hkp, hb, FF⟩ := F.ex
  exact (pe_call0 FF (hr.mono hk) hg hm hkp hb .nil hx hdb).imp fun σ H Q h => by
    obtain ⟨ρ, S, l, hS, hl, h⟩ := h
    have h : After X.K cA W ρ H (rV X.K) (if ([] : List D).length = n then G [] S else .bad) Q := h
    split at h
    · rename_i hn
      exact ⟨hn, ρ, S, [], hS, .nil, h⟩
    · exact h.elim
end
section
variable {P : Program} {w : World} {K : PySem.W.Frag} {mg : Str → Option Value} {base : Heap} {cA : Nat → Addr}
theorem start_rep {ρ : List Addr} {H : Hp} {ds : List D} {vs : List V} {N : List Str} (h : RepVs K ρ H ds vs) : RepL K ρ H (startL N.length ds) (L2.start N vs) := by
  have hl := RepVs.length h
  refine ⟨by unfold startL L2.start; simp [hl], fun i d hd => ?_⟩
  unfold startL at hd
  unfold L2.start
  by_cases q : i < ds.length
  · rw [List.getElem?_append_left (by simpa using q), List.getElem?_map] at hd
    cases e : ds[i]? with
    | none => rw [e] at hd; cases hd
    | some x =>
      rw [e] at hd
      have : x = d := Option.some.inj (Option.some.inj hd)
      subst this
      obtain ⟨v, hv, r⟩ := RepVs.get h i x e
      exact ⟨v, by rw [List.getElem?_append_left (by simpa [hl] using q), List.getElem?_map, hv]; rfl, r⟩
  · rw [List.getElem?_append_right (by simpa using q), List.getElem?_replicate] at hd
    split at hd <;> cases hd
/-- a def keeps what its body's function says -/
theorem defM {x qual : Str} {st : Stmt} {f : Addr} {fd : FuncData} {N ps : List Str} {k : Nat} {m : MS} (F : Fun K x qual st f fd) (S : FnScope N ps (defScope st))
    (hbody : ∀ (cdv : Value) (A : Around) (outer : List Env) (s : Shared) (H : Hp) (E : XK), Room k (A.deeper (PyProof.Rows.envOfC qual (defScope st) s.heap.objs.size f cdv)) →
      PSs (cxOf (L2.CX P w) P w K mg base N qual (defScope st) f cdv A outer s H E) (defBody st) (tS K cA E m)) : FnOk P w K mg base (L2.CX P w) (k + 1) f fd ps (spM K cA (bodyF N.length m) ps.length) :=
  F.okX S (fun vs H Q E h => h.1) fun cdv A outer s H vs Q E hr h => by
    obtain ⟨hl, ρ, S0, ds, hS, hrep, h⟩ := h
    refine ⟨tS K cA E m, hbody cdv A outer s H E hr, ρ, S0, startL N.length ds, hS, start_rep hrep, (After.bind (rep := rS K) st_V h).imp fun b H1 h => ?_⟩
    obtain ⟨ρ1, S1, a, e1, hS1, ⟨hl1, hf⟩, h⟩ := h
    obtain ⟨fl, l1⟩ := a
    obtain ⟨g, σ1⟩ := b
    cases fl with
    | nx => cases g with
      | nx => exact After.same (rep := rV K) h hS1 rep_non'
      | _ => exact hf.elim
    | rt d => cases g with
      | rt v => exact After.same (rep := rV K) h hS1 hf
      | _ => exact hf.elim
    | bk => exact h.elim
    | ct => exact h.elim
/-- what a def's body may hand on -/
theorem pass_def {N : List Str} {qual : Str} {scope : Scope} {f : Addr} {cd : Value} {A : Around} {outer : List Env} {s : Shared} {H : Hp} {E : XK} : Passes (L2.CX P w) (cxOf (L2.CX P w) P w K mg base N qual scope f cd A outer s H E) E :=
  passes_call (takes_of rfl rfl rfl rfl) fun _ _ _ _ h => h
theorem own_def {N : List Str} {qual : Str} {scope : Scope} {f : Addr} {cd : Value} {A : Around} {outer : List Env} {s : Shared} {H : Hp} {E : XK} : PassesOwn (model P w) (cxOf (L2.CX P w) P w K mg base N qual scope f cd A outer s H E).A (cxOf (L2.CX P w) P w K mg base N qual scope f cd A outer s H E).env (cxOf (L2.CX P w) P w K mg base N qual scope f cd A outer s H E).xe := passes_of rfl
end
end ML

set_option Elab.async false
set_option linter.all false
set_option maxRecDepth 100000
set_option autoImplicit false
/-! ML9: what is built in by its name; dicts written out; new lists compared; list(range(..)). -/
namespace ML
open PySem PySem.Spec L2

theorem bt_len : bootBuiltins "len" = some (.builtin "len") := by decide +kernel
theorem bt_abs : bootBuiltins "abs" = some (.builtin "abs") := by decide +kernel
theorem bt_max : bootBuiltins "max" = some (.builtin "max") := by decide +kernel
theorem bt_min : bootBuiltins "min" = some (.builtin "min") := by decide +kernel
theorem bt_all : bootBuiltins "all" = some (.builtin "all") := by decide +kernel
theorem bt_any : bootBuiltins "any" = some (.builtin "any") := by decide +kernel
theorem bt_sum : bootBuiltins "sum" = some (.builtin "sum") := by decide +kernel
theorem bt_sorted : bootBuiltins "sorted" = some (.builtin "sorted") := by decide +kernel
theorem bt_ord : bootBuiltins "ord" = some (.builtin "ord") := by decide +kernel
theorem bt_isinstance : bootBuiltins "isinstance" = some (.builtin "isinstance") := by decide +kernel
theorem bt_int : bootBuiltins "int" = some (.type "int") := by decide +kernel
theorem bt_str : bootBuiltins "str" = some (.type "str") := by decide +kernel
theorem bt_bool : bootBuiltins "bool" = some (.type "bool") := by decide +kernel
theorem bt_list : bootBuiltins "list" = some (.type "list") := by decide +kernel
theorem bt_tuple : bootBuiltins "tuple" = some (.type "tuple") := by decide +kernel
theorem bt_dict : bootBuiltins "dict" = some (.type "dict") := by decide +kernel
theorem bt_set : bootBuiltins "set" = some (.type "set") := by decide +kernel

/-! ### dicts written out -/
abbrev MP := Loc → Store → R (List (D × D))
def nilP : MP := fun _ S => .ok [] S
def consP (k v : ME) (r : MP) : MP := fun l S => (k l S).bind fun a S1 => (v l S1).bind fun b S2 => (r l S2).bind fun ps S3 => .ok ((a, b) :: ps) S3
def keysO (ps : List (D × D)) : Option (List (Key × D)) := mapO (fun p => (keyO p.1).map fun k => (k, p.2)) ps
def mergeD (kvs more : List (Key × D)) : List (Key × D) := more.foldl (fun acc kv => dPut acc kv.1 kv.2) kvs
def dictE (r : MP) : ME := fun l S => (r l (S ++ [.dct []])).bind fun ps S1 => match keysO ps with
  | some kvs => if kvs.length ≤ 15 then (match dctAt S1 S.length with
    | some [] => .ok (.ref S.length) (S1.set S.length (.dct (mergeD [] kvs)))
    | _ => .bad) else .bad
  | none => .bad
def dict0 : ME := fun _ S => newC (.dct []) S
def RepPr (K : PySem.W.Frag) (ρ : List Addr) (H : Hp) : List (D × D) → List (V × V) → Prop
  | [], ps => ps = []
  | (a, b) :: r, ps => ∃ x y q, ps = (x, y) :: q ∧ RepV K ρ H a x ∧ RepV K ρ H b y ∧ RepPr K ρ H r q
theorem RepPr.ext {K : PySem.W.Frag} {ρ ρ' : List Addr} {H H' : Hp} (e : Ext ρ H ρ' H') : ∀ {ds : List (D × D)} {ps : List (V × V)}, RepPr K ρ H ds ps → RepPr K ρ' H' ds ps
  | [], _, h => h
  | (a, b) :: r, ps, h => by
    obtain ⟨x, y, q, ep, h1, h2, h3⟩ := h
    exact ⟨x, y, q, ep, h1.ext e, h2.ext e, RepPr.ext e h3⟩
def rPr (K : PySem.W.Frag) : Rel (List (D × D)) (List (V × V)) := fun _ ρ H a b => RepPr K ρ H a b
theorem st_Pr {K : PySem.W.Frag} : Stable (rPr K) := fun _ _ _ _ _ _ _ _ _ h => h
/-- a display's pairs keep their reading -/
def PairsOk (K : PySem.W.Frag) (cA : Nat → Addr) (W : XK) (trs : List (TE × TE)) (r : MP) : Prop := ∀ (σ : L2.St) (H : Hp) (Q : List (V × V) → Hp → Prop), tG K cA W (rPr K) r σ H Q → tPairs trs σ H Q
section
variable {X : Cx} {cA : Nat → Addr} {W : XK} {pos : Pos} {K : PySem.W.Frag} {ρ : List Addr} {H : Hp}
structure PD (X : Cx) (cA : Nat → Addr) (W : XK) (pos : Pos) (ks : List (Option Expr)) (vs : List Expr) (r : MP) : Prop where
  ex : ∃ trs, PPs X pos ks vs trs ∧ PairsOk X.K cA W trs r
theorem pnil : PD X cA W pos [] [] nilP := ⟨[], pps_nil, fun σ H Q h => by
  obtain ⟨ρ, S, l, hS, hl, h⟩ := h
  exact After.same (rep := rPr X.K) h hS rfl⟩
theorem pcons {k v : Expr} {ks : List (Option Expr)} {vs : List Expr} {mk mv : ME} {r : MP} (hk : PE X k (tE X.K cA W mk)) (hv : PE X v (tE X.K cA W mv)) (hr : PD X cA W pos ks vs r) : PD X cA W pos (some k :: ks) (v :: vs) (consP mk mv r) := by
  obtain ⟨trs, h1, h2⟩ := hr.ex
  refine ⟨_, pps_cons hk hv h1, fun σ H Q h => ?_⟩
  refine tG.imp (bind3 (rep1 := rV X.K) (rep2 := rV X.K) (rep3 := rPr X.K) st_Pr mo_V mo_V h) fun x H1 h => tG.imp h fun y H2 h => h2 _ _ _ (tG.imp h fun ps H3 h => ?_)
  obtain ⟨ρ, S, a, b, c, hS, r1, r2, r3, h⟩ := h
  exact After.same (rep := rPr X.K) h hS ⟨x, y, ps, rfl, r1, r2, r3⟩
theorem keys_of : ∀ {ds : List (D × D)} {ps : List (V × V)} {kvs : List (Key × D)}, keysO ds = some kvs → RepPr K ρ H ds ps → ∃ qs : List (Key × V), ps = qs.map (fun kv => (kV kv.1, kv.2)) ∧ RepP K ρ H kvs qs
  | [], ps, kvs, h, r => by cases h; exact ⟨[], r, by unfold RepP; rfl⟩
  | (a, b) :: ds, ps, kvs, h, r => by
    obtain ⟨x, y, q, ep, h1, h2, h3⟩ := r
    unfold keysO mapO at h
    split at h
    · rename_i kv rest e1 e2
      cases h
      obtain ⟨k, ek, rfl⟩ := Option.map_eq_some_iff.mp e1
      obtain ⟨qs, e3, h4⟩ := keys_of e2 h3
      have := key_rep ek h1
      subst this
      exact ⟨(k, y) :: qs, by rw [ep, e3]; rfl, y, qs, rfl, h2, h4⟩
    · cases h
theorem merge_rep : ∀ {more : List (Key × D)} {ms : List (Key × V)} {kvs : List (Key × D)} {ps : List (Key × V)}, RepP K ρ H more ms → RepP K ρ H kvs ps → RepP K ρ H (mergeD kvs more) (mergeK ps ms)
  | [], ms, kvs, ps, h, r => by unfold RepP at h; rw [h]; exact r
  | (k, d) :: more, ms, kvs, ps, h, r => by
    unfold RepP at h
    obtain ⟨v, q, rfl, h1, h2⟩ := h
    show RepP K ρ H (mergeD (dPut kvs k d) more) (mergeK (putK ps k v) q)
    exact merge_rep h2 (put_rep h1 r)
theorem mdict {ks : List (Option Expr)} {vs : List Expr} {r : MP} (h : PD X cA W pos ks vs r) (hall : ks.all (·.isSome) = true := by rfl) (hl : ks.length = vs.length := by rfl) (h0 : ks ≠ [] := by exact fun z => by cases z) (h15 : ks.length ≤ 15 := by decide) :
    PE X (.Dict ks vs pos) (tE X.K cA W (dictE r)) := by
  obtain ⟨trs, h1, h2⟩ := h.ex
  refine (pe_disp h1 hall hl h0 h15).imp fun σ H Q h => ?_
  intro p hp
  obtain ⟨ρ, S, l, hS, hl, h⟩ := h
  have E1 : Ext ρ H (ρ ++ [p]) (upd H p (.dK [])) := Ext.alloc hp
  have hS1 : Reps X.K cA (ρ ++ [p]) (upd H p (.dK [])) (S ++ [.dct []]) := (hS.new hp).push (hS.free hp) ⟨[], upd_same, by unfold RepP; rfl⟩
  refine h2 _ _ _ ⟨ρ ++ [p], S ++ [.dct []], l, hS1, hl.ext E1, (After.step (rep := rPr X.K) h E1).imp fun ps H2 hq => ?_⟩
  obtain ⟨ρ2, S2, ds, e2, hS2, hr, h⟩ := hq
  split at h
  · rename_i kvs ek
    split at h
    · rename_i h15'
      split at h
      · rename_i e3
        have hrp : ρ2[S.length]? = some p := by
          obtain ⟨r, er, _⟩ := e2.pre
          rw [er, List.getElem?_append_left (by rw [List.length_append, hS.len]; exact Nat.lt_succ_self _), ← hS.len, List.getElem?_append_right (Nat.le_refl _)]
          simp
        obtain ⟨ps0, h3, h4⟩ := hS2.at_ _ _ p (dctAt_some e3) hrp
        unfold RepP at h4
        subst h4
        obtain ⟨qs, eq, h5⟩ := keys_of ek hr
        refine ⟨h3, qs, eq, by rw [← c_lenV.len_repP h5] at h15'; exact h15', ?_⟩
        have EW : Ext ρ2 H2 ρ2 (upd H2 p (.dK (mergeK [] qs))) := Ext.write hrp h3 True.intro
        refine h ρ2 _ _ ((E1.trans e2).trans EW) (hS2.write hrp h3 True.intro ⟨_, upd_same, ?_⟩) ?_
        · exact (merge_rep h5 (by unfold RepP; rfl)).ext EW
        · show RepV X.K ρ2 _ (.ref S.length) (.ref p)
          unfold RepV
          exact ⟨p, hrp, rfl⟩
      · exact h.elim
    · exact h.elim
  · exact h.elim
theorem mdict0 : PE X (.Dict [] [] pos) (tE X.K cA W dict0) := pe_dnewK.imp fun σ H Q h => by
  obtain ⟨ρ, S, l, hS, hl, h⟩ := h
  exact fun p hp => After.new h hS hp ⟨[], upd_same, by unfold RepP; rfl⟩
end

/-! ### two new lists -/
def eqLs (S : Store) (xs ys : List D) : Option Bool := match mapO (toPy S 63) xs, mapO (toPy S 63) ys with
  | some ps, some qs => if SeqAt.shaped (.list ps) = true ∧ SeqAt.shaped (.list qs) = true then some (PyData.eqv (.list ps) (.list qs)) else none
  | _, _ => none
def eqN (m n : MA) : MB := fun l S => (m l S).bind fun xs S1 => (n l S1).bind fun ys S2 => match eqLs S2 xs ys with
  | some b => .ok b S2
  | none => .bad
def neN (m n : MA) : MB := fun l S => (m l S).bind fun xs S1 => (n l S1).bind fun ys S2 => match eqLs S2 xs ys with
  | some b => .ok (!b) S2
  | none => .bad
section
variable {X : Cx} {cA : Nat → Addr} {W : XK} {pos : Pos} {a b : Expr} {m n : MA}
theorem eqLs_rep {K : PySem.W.Frag} {ρ : List Addr} {H : Hp} {S : Store} {H0 H1 : Hp} (hS : Reps K cA ρ H S) {xs ys : List D} {x y : V} {t : Bool} (h1 : rNew K H0 ρ H xs x) (h2 : rNew K H1 ρ H ys y) (h : eqLs S xs ys = some t) :
    ∃ p q, Dp K H x p ∧ Dp K H y q ∧ SeqAt.shaped p = true ∧ SeqAt.shaped q = true ∧ t = PyData.eqv p q := by
  unfold eqLs at h
  split at h
  · rename_i ps qs e1 e2
    split at h
    · rename_i hz
      cases h
      obtain ⟨a, vs, rfl, _, _, h3, h4⟩ := h1
      obtain ⟨b, ws, rfl, _, _, h5, h6⟩ := h2
      exact ⟨.list ps, .list qs, .lst (SqL.of h3) (toPy_rep.all hS _ _ _ _ e1 h4), .lst (SqL.of h5) (toPy_rep.all hS _ _ _ _ e2 h6), hz.1, hz.2, rfl⟩
    · cases h
  · cases h
theorem eqN_of {f : Option Bool → Option Bool} {g : Bool → Bool} {σ : L2.St} {H : Hp} {Q : Bool → Hp → Prop} (h : tT X.K cA W (fun l S => (m l S).bind fun xs S1 => (n l S1).bind fun ys S2 => match eqLs S2 xs ys with
    | some b => .ok (g b) S2
    | none => .bad) σ H Q) : tNw X.K cA W m σ H fun x H1 => tNw X.K cA W n σ H1 fun y H2 => ∃ p q, Dp X.K H2 x p ∧ Dp X.K H2 y q ∧ SeqAt.shaped p = true ∧ SeqAt.shaped q = true ∧ Q (g (PyData.eqv p q)) H2 :=
  tG.imp (bind2 (rep1 := rNew X.K) (rep2 := rNew X.K) st_Id mo_New h) fun x H1 h => tG.imp h fun y H2 h => by
    obtain ⟨ρ, S, xs, ys, hS, h1, h2, h⟩ := h
    split at h
    · rename_i t et
      obtain ⟨p, q, k1, k2, k3, k4, rfl⟩ := eqLs_rep hS h1 h2 et
      exact ⟨p, q, k1, k2, k3, k4, After.same (rep := rId) h hS rfl⟩
    · exact h.elim
theorem meqN (hu : X.A.units + 64 < cLine) (ha : PE X a (tNw X.K cA W m)) (hb : PE X b (tNw X.K cA W n)) : PE X (.Compare a [.Eq] [b] pos) (tE X.K cA W (toV (eqN m n))) :=
  (pe_cmpR (op_eqD hu) ha hb (nomark _)).imp fun σ H Q h => eqN_of (f := id) (g := id) (tE_toV h)
theorem mneN (hu : X.A.units + 64 < cLine) (ha : PE X a (tNw X.K cA W m)) (hb : PE X b (tNw X.K cA W n)) : PE X (.Compare a [.NotEq] [b] pos) (tE X.K cA W (toV (neN m n))) :=
  (pe_cmpR (op_neD hu) ha hb (nomark _)).imp fun σ H Q h => eqN_of (f := id) (g := not) (tE_toV h)
theorem meqNT (hu : X.A.units + 64 < cLine) (ha : PE X a (tNw X.K cA W m)) (hb : PE X b (tNw X.K cA W n)) : PT X (.Compare a [.Eq] [b] pos) (tT X.K cA W (eqN m n)) :=
  (pt_cmpR (op_eqD hu) ha hb (nomark _)).imp fun σ H Q h => tG.imp (eqN_of (f := id) (g := id) h) fun x H1 h => tG.imp h fun y H2 ⟨p, q, k1, k2, k3, k4, k5⟩ => ⟨p, q, k1, k2, k3, k4, _, rfl, k5⟩
theorem mneNT (hu : X.A.units + 64 < cLine) (ha : PE X a (tNw X.K cA W m)) (hb : PE X b (tNw X.K cA W n)) : PT X (.Compare a [.NotEq] [b] pos) (tT X.K cA W (neN m n)) :=
  (pt_cmpR (op_neD hu) ha hb (nomark _)).imp fun σ H Q h => tG.imp (eqN_of (f := id) (g := not) h) fun x H1 h => tG.imp h fun y H2 ⟨p, q, k1, k2, k3, k4, k5⟩ => ⟨p, q, k1, k2, k3, k4, _, rfl, k5⟩
end

/-! ### list(range(..)) -/
def rngO (a b : Int) (S : Store) : R (List D) := if -(2 ^ 62) ≤ a ∧ a < 2 ^ 62 ∧ -(2 ^ 62) ≤ b ∧ b < 2 ^ 62 ∧ (b - a).toNat ≤ 2 ^ 24 then .ok (intsFrom a (b - a).toNat) S else .bad
def rngN1 (m : ME) : MA := fun l S => (m l S).bind fun d S1 => match intO d with
  | some b => rngO 0 b S1
  | none => .bad
def rngN2 (m n : ME) : MA := fun l S => (m l S).bind fun d S1 => (n l S1).bind fun e S2 => match intO d, intO e with
  | some a, some b => rngO a b S2
  | _, _ => .bad
section
variable {X : Cx} {cA : Nat → Addr} {W : XK} {pos p0 p1 p2 : Pos} {a b : Expr} {m n : ME}
theorem intO_rep {K : PySem.W.Frag} {ρ : List Addr} {H : Hp} {d : D} {v : V} {i : Int} (h : intO d = some i) (r : RepV K ρ H d v) : v = .int i := by
  cases d with
  | int j => cases h; unfold RepV at r; exact r
  | _ => cases h
theorem rg_rep {K : PySem.W.Frag} {ρ : List Addr} {H : Hp} {a b : Int} : RepVs K ρ H (intsFrom a (b - a).toNat) (rgV a b) := by
  have e1 : intsFrom a (b - a).toNat = ((List.range (b - a).toNat).map fun i => a + ((i : Nat) : Int)).map D.int := by unfold intsFrom; rw [List.map_map]; rfl
  have e2 : rgV a b = ((List.range (b - a).toNat).map fun i => a + ((i : Nat) : Int)).map V.int := by unfold rgV; rw [List.map_map]; rfl
  rw [e1, e2]
  exact RepVs.of_ints
theorem rng_of {ρ : List Addr} {H : Hp} {S : Store} {i j : Int} {Q : V → Hp → Prop} (hS : Reps X.K cA ρ H S) (h : After X.K cA W ρ H (rNew X.K) (rngO i j S) Q) : RgOk i j ∧ ∀ q, H q = none → Q (.ref q) (upd H q (.lst (rgV i j))) := by
  unfold rngO at h
  split at h
  · rename_i hz
    exact ⟨hz, fun q hq => After.fresh h hS hq rg_rep⟩
  · exact h.elim
theorem mrngN1 (hc : X.calm = true) (hg : Gl X "list") (hm : X.mg "list" = none) (hg2 : Gl X "range") (hm2 : X.mg "range" = none) (ha : PE X a (tE X.K cA W m)) (na : starEach [a] X.env = (false, eval a X.env) :: starEach [] X.env := by rfl)
    (nb : starEach [(.Call (.Name "range" p1) [a] [] p2 : Expr)] X.env = (false, eval (.Call (.Name "range" p1) [a] [] p2) X.env) :: starEach [] X.env := by rfl) : PE X (.Call (.Name "list" p0) [.Call (.Name "range" p1) [a] [] p2] [] pos) (tNw X.K cA W (rngN1 m)) :=
  (pe_listRg hc hg hm (prg_1 hg2 hm2 ha na) nb).imp fun σ H Q h => (bind1 (rep1 := rV X.K) st_New h).imp fun v H1 h => by
    obtain ⟨ρ, S, d, hS, hr, h⟩ := h
    split at h
    · rename_i i e
      exact ⟨i, intO_rep e hr, rng_of hS h⟩
    · exact h.elim
theorem mrngN2 (hc : X.calm = true) (hg : Gl X "list") (hm : X.mg "list" = none) (hg2 : Gl X "range") (hm2 : X.mg "range" = none) (ha : PE X a (tE X.K cA W m)) (hb : PE X b (tE X.K cA W n)) (na : starEach [a, b] X.env = (false, eval a X.env) :: starEach [b] X.env := by rfl) (nc : starEach [b] X.env = (false, eval b X.env) :: starEach [] X.env := by rfl)
    (nb : starEach [(.Call (.Name "range" p1) [a, b] [] p2 : Expr)] X.env = (false, eval (.Call (.Name "range" p1) [a, b] [] p2) X.env) :: starEach [] X.env := by rfl) (hp : (backTo p2 (starEach [b] X.env)).any (·.1) = false := by rfl) : PE X (.Call (.Name "list" p0) [.Call (.Name "range" p1) [a, b] [] p2] [] pos) (tNw X.K cA W (rngN2 m n)) :=
  (pe_listRg hc hg hm (prg_2 hg2 hm2 ha hb na nc hp) nb).imp fun σ H Q h => tG.imp (bind2 (rep1 := rV X.K) (rep2 := rV X.K) st_New mo_V h) fun v H1 h => tG.imp h fun u H2 h => by
    obtain ⟨ρ, S, d, e, hS, hr, hr2, h⟩ := h
    split at h
    · rename_i i j e1 e2
      exact ⟨i, j, intO_rep e1 hr, intO_rep e2 hr2, rng_of hS h⟩
    · exact h.elim
end
end ML

set_option Elab.async false
set_option linter.all false
set_option maxRecDepth 100000
set_option autoImplicit false
/-! ML12: raise, try .. except C as e, isinstance of what is caught. -/
namespace ML
open PySem PySem.Spec L2

/-! ### what is not covered (and not reached) -/
def badS : MS := fun _ _ => .bad
theorem sbad {X : Cx} {cA : Nat → Addr} {W : XK} {st : Stmt} : PS X st (tS X.K cA W badS) := ⟨fun pins s σ H E I h => by obtain ⟨ρ, S, l, _, _, h⟩ := h; exact h.elim⟩

/-! ### raise -/
def raiseS (k : Nat) : MS := fun _ S => .ex ⟨k, []⟩ S
/-- a class of the text that is an exception, made with a text -/
structure ExcK (K : PySem.W.Frag) (mg : Str → Option Value) (x : Str) (C : Addr) : Prop where
  g : mg x = some (.ref C)
  q : PySem.W.excIn K C [.type "ValueError", .type "Exception", .type "BaseException", .type "object"] "ValueError.__new__" = true
  k : PySem.W.keepIn K (.ref C) = true
  s : PySem.W.subIn K (.ref C) (.type "BaseException") = some true
  t : PySem.W.typeIn K (.ref C) = some (.type "type")
section
variable {X : Cx} {cA : Nat → Addr} {W : XK} {K : PySem.W.Frag}
theorem sraise {x m : Str} {j k : Nat} {p p2 pos pos2 : Pos} (E : ExcK X.K X.mg x (cA k)) (tk : Takes X (fun cls d _ H => W cls d H)) (hc : X.calm = true) (hg : Gl X x) (hdb : (x == ("__debug__" : Str)) = false := by decide) :
    PS X (.Raise (some (.Call (.Name x p) [.Constant (.str m) j p2] [] pos)) none pos2) (tS X.K cA W (raiseS k)) :=
  (ps_raise (W := fun cls d _ H => W cls d H) hc tk (pmk_own PySem.F.excBase_ValueError E.q E.g E.k (raises_own E.s E.t) hg hdb)).imp fun D σ H h => by
    obtain ⟨ρ, S, l, hS, hl, h⟩ := h
    exact h ρ H _ _ (Ext.refl _ _) hS ⟨rfl, .inl ⟨rfl, rfl⟩⟩
end

/-! ### in a try's body: the wish may look at the slots -/
def tX (K : PySem.W.Frag) (cA : Nat → Addr) (W : WX) (m : MS) : TS := fun D σ H => tS K cA (L2.WE W σ) m D σ H
def tEX (K : PySem.W.Frag) (cA : Nat → Addr) (W : WX) (m : ME) : TE := fun σ H Q => tE K cA (L2.WE W σ) m σ H Q
section
variable {X : Cx} {cA : Nat → Addr} {W : WX} {p pos : Pos} {x : Str} {e c : Expr} {es : List Expr} {m : MA} {me : ME} {k j n : Nat} {G : List D → Store → R D} {st : Stmt} {rest : List Stmt} {ma mb : MS} {q : MB}
theorem xof (h : ∀ W0 : XK, PE X e (tE X.K cA W0 me)) : PE X e (tEX X.K cA W me) := ⟨fun pins s σ H Q I q => (h (L2.WE W σ)).run pins s σ H Q I q⟩
theorem xcall (F : FnM X.prog X.w X.K X.mg X.base cA k x n G) (hk : k ≤ j) (hr : Room j X.A) (tk : Takes X W) (hg : Gl X x) (ha : ∀ W0 : XK, PA X (e :: es) (tAs X.K cA W0 m)) (hdb : (x == ("__debug__" : Str)) = false := by decide)
    (he : starEach (e :: es) X.env = (false, eval e X.env) :: starEach es X.env := by rfl) (hpl : (backTo pos (starEach es X.env)).any (·.1) = false := by rfl) : PE X (.Call (.Name x p) (e :: es) [] pos) (tEX X.K cA W (callE n G m)) := by
  obtain ⟨f, fd, ps, hm, hkp, hb, FF⟩ := F.ex
  have hA : PA X (e :: es) (fun σ H Q => tAs X.K cA (L2.WE W σ) m σ H Q) := ⟨fun pos pins s σ H Q I q => (ha (L2.WE W σ)).run pos pins s σ H Q I q⟩
  exact (pe_callS FF (hr.mono hk) hg hm hkp hb (fun σ => passAt tk σ) hA hdb he hpl).imp fun σ H Q h => call_of h
theorem xexpr (he : PE X e (tEX X.K cA W me)) (hs : swapsWith e none pos.line X.env = pure false := by rfl) : PS X (.Expr e pos) (tX X.K cA W (exprS me)) :=
  (ps_expr he hs).imp fun E σ H h => (after_L (W := L2.WE W σ) (rep := rV X.K) h).imp fun v H1 h => by
    obtain ⟨ρ, S, l, d, hS, hl, _, h⟩ := h
    exact After.same (b := (FlV.nx, σ)) h hS ⟨hl, trivial⟩
theorem xret (he : PE X e (tEX X.K cA W me)) : PS X (.Return (some e) pos) (tX X.K cA W (retS me)) :=
  (ps_ret he).imp fun E σ H h => (after_L (W := L2.WE W σ) (rep := rV X.K) h).imp fun v H1 h => by
    obtain ⟨ρ, S, l, d, hS, hl, hr, h⟩ := h
    exact After.same (b := (FlV.rt v, σ)) h hS ⟨hl, hr⟩
theorem xone (h1 : PS X st (tX X.K cA W ma)) : PSs X [st] (tX X.K cA W ma) := pss_one h1
theorem xif {a b : List Stmt} (hc : ∀ W0 : XK, PT X c (tT X.K cA W0 q)) (ha : PSs X a (tX X.K cA W ma)) (hb : PSs X b (tX X.K cA W mb)) : PS X (.If c a b pos) (tX X.K cA W (ifS q ma mb)) := by
  have hC : PT X c (fun σ H Q => tT X.K cA (L2.WE W σ) q σ H Q) := ⟨fun pins s σ H Q I q => (hc (L2.WE W σ)).run pins s σ H Q I q⟩
  exact (ps_if hC ha hb).imp fun E σ H h => (after_L (W := L2.WE W σ) (rep := rId) h).imp fun t H1 h => by
    obtain ⟨ρ, S, l, d, hS, hl, hr, h⟩ := h
    subst hr
    cases d with
    | true => exact ⟨ρ, S, l, hS, hl, h⟩
    | false => exact ⟨ρ, S, l, hS, hl, h⟩
end

/-! ### try .. except C as e -/
def goneS (i : Nat) (r : R (Fl × Loc)) : R (Fl × Loc) := r.bind fun p S => .ok (p.1, p.2.set i none) S
open Classical in
noncomputable def same {α : Type} (f : Addr → R α) : R α := if h : ∃ r, ∀ a, f a = r then h.choose else .bad
theorem same_of {α : Type} {f : Addr → R α} {r : R α} (h : ∀ a, f a = r) : same f = r := by
  unfold same
  have e : ∃ r, ∀ a, f a = r := ⟨r, h⟩
  rw [dif_pos e]
  exact (e.choose_spec 0).symm.trans (h 0)
theorem same_at {α : Type} {f : Addr → R α} (a : Addr) : same f = f a ∨ same f = .bad := by
  unfold same
  split
  · rename_i h
    exact .inl (h.choose_spec a).symm
  · exact .inr rfl
noncomputable def catchS (hit : Nat → Option Bool) (i : Nat) (mb : MS) (mh : Addr → Exn → MS) : MS := fun l S => match mb l S with
  | .ok p S1 => .ok p S1
  | .ex x S1 => match hit x.c with
    | some true => same fun a => (goneS i (mh a x (l.set i (some (.exn a))) S1)).noex
    | some false => .ex x S1
    | none => .bad
  | .bad => .bad
def NoX : XK := fun _ _ _ => False
section
variable {K : PySem.W.Frag} {cA : Nat → Addr} {W : XK} {ρ : List Addr} {H : Hp}
theorem RepL.gone {l : Loc} {σ : L2.St} (h : RepL K ρ H l σ) (i : Nat) : RepL K ρ H (l.set i none) (σ.set i none) := by
  refine ⟨by rw [List.length_set, List.length_set]; exact h.len, fun j e hj => ?_⟩
  by_cases q : i = j
  · subst q
    have hi : i < l.length := by
      have := (List.getElem?_eq_some_iff.mp hj).1
      rwa [List.length_set] at this
    rw [List.getElem?_set_self hi] at hj
    cases hj
  · rw [List.getElem?_set_ne q] at hj
    obtain ⟨w, hw, r⟩ := h.at_ j e hj
    exact ⟨w, by rw [List.getElem?_set_ne q]; exact hw, r⟩
theorem gone_of {i : Nat} {r : R (Fl × Loc)} {D : Ends} (h : After K cA W ρ H (rS K) (goneS i r).noex (endQ D)) :
    After K cA NoX ρ H (rS K) r (endQ { nx := fun σ' H' => D.nx (σ'.set i none) H', rt := D.rt, bk := fun σ' H' => D.bk (σ'.set i none) H', ct := fun σ' H' => D.ct (σ'.set i none) H' }) := by
  cases r with
  | ok p S =>
    intro ρ' H' b e hs hr
    obtain ⟨hl, hf⟩ := hr
    obtain ⟨f, l⟩ := p
    obtain ⟨g, σ⟩ := b
    cases f with
    | nx => cases g with
      | nx => exact h ρ' H' (FlV.nx, σ.set i none) e hs ⟨hl.gone i, trivial⟩
      | _ => exact hf.elim
    | rt d => cases g with
      | rt v => exact h ρ' H' (FlV.rt v, σ.set i none) e hs ⟨hl.gone i, hf⟩
      | _ => exact hf.elim
    | bk => cases g with
      | bk => exact h ρ' H' (FlV.bk, σ.set i none) e hs ⟨hl.gone i, trivial⟩
      | _ => exact hf.elim
    | ct => cases g with
      | ct => exact h ρ' H' (FlV.ct, σ.set i none) e hs ⟨hl.gone i, trivial⟩
      | _ => exact hf.elim
  | ex x S => exact h.elim
  | bad => exact h.elim
variable {X : Cx} {x n : Str} {c : Value} {i : Nat} {body suite : List Stmt} {b₀ : Stmt} {np pos pos' : Pos} {mb : MS} {mh : Addr → Exn → MS} {hit : Nat → Option Bool}
theorem stry (hh : ∀ k b, hit k = some b → PySem.W.exmOne X.K (.ref (cA k)) c = some b) (hN : X.N.Nodup) (hi : X.N[i]? = some n) (hc : Names X x c) (tk : Takes X (fun cls d _ H => W cls d H))
    (hb : ∀ (W' : WX) (pn : List (Addr × Obj)) (xe : Value → Shared → Prop), Takes (X.tr pn xe) W' → PassesOwn (model X.prog X.w) X.A X.env xe → PSs (X.tr pn xe) body (tX X.K cA W' mb))
    (hsu : ∀ (a : Addr) (oe : Obj) (pn : List (Addr × Obj)) (z : Exn) (d : Option Addr), Zc (.ref (cA z.c)) d oe → (z.fs = [] → d = none) → (∃ vs, oe.data = .fields vs) → PSs (X.suite a ((a, oe) :: pn)) (b₀ :: suite) (tS X.K cA NoX (mh a z)))
    (hs : X.stack = X.env :: X.outer := by rfl) (hf : X.env.frame = some X.env.locals := by rfl) (hln : X.env.kindOf n = some .local := by rfl) :
    PS X (.Try body [.ExceptHandler (some (.Name x np)) (some n) (b₀ :: suite) pos'] [] [] pos) (tS X.K cA W (catchS hit i mb mh)) := by
  refine (ps_try_as (Wout := fun cls d _ H => W cls d H) (tb := fun W' => tX X.K cA W' mb) (ts := fun a cls d D σ H => ∃ z : Exn, cls = .ref (cA z.c) ∧ (z.fs = [] → d = none) ∧ tS X.K cA NoX (mh a z) D σ H) hs hf hN hi hln hc tk hb
    (fun a oe cls d pn hz hv => ⟨fun pins s σ H D I h => ?_⟩)).imp fun D σ H h => ?_
  · obtain ⟨z, rfl, h1, h2⟩ := h
    exact (hsu a oe pn z d hz h1 hv).run pins s σ H D I h2
  · obtain ⟨ρ, S, l, hS, hl, h⟩ := h
    refine ⟨ρ, S, l, hS, hl, ?_⟩
    unfold catchS at h
    generalize mb l S = r at h
    cases r with
    | ok p S1 => exact h
    | bad => exact h.elim
    | ex z S1 =>
      intro ρ' H' cls d e hS' hx
      obtain ⟨rfl, hx⟩ := hx
      simp only at h
      cases eh : hit z.c with
      | none => rw [eh] at h; exact h.elim
      | some b =>
        rw [eh] at h
        cases b with
        | false =>
          refine ⟨false, hh _ _ eh, fun q => ?_, fun _ => h ρ' H' _ _ e hS' ⟨rfl, hx⟩⟩
          cases q
        | true =>
          refine ⟨true, hh _ _ eh, fun _ a ha => ⟨z, rfl, fun q => ?_, ?_⟩, fun q => nomatch q⟩
          · rcases hx with ⟨_, h2⟩ | ⟨h2, _⟩
            · exact h2
            · exact absurd q h2
          · refine ⟨ρ', S1, l.set i (some (.exn a)), hS', (hl.ext e).set (by unfold RepV; rfl) i, ?_⟩
            rcases same_at (f := fun a => (goneS i (mh a z (l.set i (some (.exn a))) S1)).noex) a with q | q
            · have h := After.back st_S e h
              simp only at h
              rw [q] at h
              exact gone_of h
            · simp only at h
              rw [q] at h
              exact h.elim
end
/-! ### isinstance of what is caught -/
inductive CN where
  | own (j : Nat) | ty (n : String)
def CN.val (cA : Nat → Addr) : CN → Value
  | .own j => .ref (cA j)
  | .ty n => .type n
def CN.v (cA : Nat → Addr) : CN → V
  | .own j => .ref (cA j)
  | .ty n => .ty n
theorem CN.clsv {cA : Nat → Addr} : ∀ n : CN, ClsV (n.v cA) (n.val cA)
  | .own j => .own _
  | .ty n => .ty _
theorem CN.all {cA : Nat → Addr} : ∀ ns : List CN, Paired ClsV (ns.map (CN.v cA)) (ns.map (CN.val cA))
  | [] => .nil
  | n :: ns => .cons n.clsv (CN.all ns)
def IsFacts (K : PySem.W.Frag) (cA : Nat → Addr) (kis : Nat → CN → Option Bool) : Prop := ∀ c n b, kis c n = some b → ExcC K (cA c) ∧ PySem.W.kitOne K (.ref (cA c)) (n.val cA) = some b
def kisX (kis : Nat → CN → Option Bool) (z : Exn) (n : CN) : Option Bool := match z.fs with
  | [] => kis z.c n
  | _ => none
def kisA (kis : Nat → CN → Option Bool) (z : Exn) : List CN → Option Bool
  | [] => some false
  | n :: r => match kisX kis z n with
    | some true => some true
    | some false => kisA kis z r
    | none => none
def isX (ans : Option Bool) (a : Addr) (m : ME) : MB := match ans with
  | none => fun _ _ => .bad
  | some t => fun l S => (m l S).bind fun d S1 => match d with
    | .exn b => if b = a then .ok t S1 else .bad
    | _ => .bad
theorem kit_own {K : PySem.W.Frag} {C D : Addr} {b : Bool} (h : PySem.W.subIn K (.ref D) (.ref C) = some b) (hd : PySem.W.hasDictIn K C = true) (ht : PySem.W.typeIn K (.ref C) = some (.type "type")) (hs : PySem.W.subIn K (.ref D) (.ref D) = some true) : PySem.W.kitOne K (.ref D) (.ref C) = some b := by
  unfold PySem.W.kitOne
  by_cases q : D = C
  · subst q
    rw [hs] at h
    rw [if_pos (beq_self_eq_true _)]
    exact h
  · rw [if_neg (fun z => q (Value.ref.inj (beq_iff_eq.mp z)))]
    obtain ⟨cd, hc, _⟩ := PySem.W.any_some hd
    show (if ((PySem.W.clsIn K C).isSome && PySem.W.typeIn K (.ref C) == some (.type "type")) = true then PySem.W.subIn K (.ref D) (.ref C) else none) = some b
    rw [hc, ht, if_pos (by rw [Option.isSome_some, Bool.true_and]; exact beq_self_eq_true _)]
    exact h
theorem kit_bt {K : PySem.W.Frag} {D : Addr} {T : String} {b : Bool} (h : PySem.W.subIn K (.ref D) (.type T) = some b) (hm : PySem.W.kitMeta T = true) : PySem.W.kitOne K (.ref D) (.type T) = some b := by
  unfold PySem.W.kitOne
  have ne : ¬ (Value.ref D == Value.type T) = true := fun z => by
    have := beq_iff_eq.mp z
    cases this
  rw [if_neg ne]
  show (if PySem.W.kitMeta T = true then PySem.W.subIn K (.ref D) (.type T) else none) = some b
  rw [if_pos hm]
  exact h
section
variable {X : Cx} {cA : Nat → Addr} {W : XK} {K : PySem.W.Frag} {kis : Nat → CN → Option Bool} {z : Exn}
theorem kisX_of {n : CN} {b : Bool} (F : IsFacts K cA kis) (h : kisX kis z n = some b) : z.fs = [] ∧ ExcC K (cA z.c) ∧ PySem.W.kitOne K (.ref (cA z.c)) (n.val cA) = some b := by
  unfold kisX at h
  split at h
  · rename_i e; exact ⟨e, F _ _ _ h⟩
  · cases h
theorem kisA_of (F : IsFacts K cA kis) : ∀ {ns : List CN} {b : Bool}, kisA kis z ns = some b → PySem.W.kitAny K (.ref (cA z.c)) (ns.map (CN.val cA)) = some b
  | [], b, h => h
  | n :: ns, b, h => by
    unfold kisA at h
    show (match PySem.W.kitOne K (.ref (cA z.c)) (n.val cA) with
      | some true => some true
      | some false => PySem.W.kitAny K (.ref (cA z.c)) (ns.map (CN.val cA))
      | none => none) = some b
    split at h
    · rename_i e
      rw [(kisX_of F e).2.2]
      exact h
    · rename_i e
      rw [(kisX_of F e).2.2]
      exact kisA_of F h
    · cases h
theorem kisA_ex (F : IsFacts K cA kis) {n : CN} {ns : List CN} {b : Bool} (h : kisA kis z (n :: ns) = some b) : z.fs = [] ∧ ExcC K (cA z.c) := by
  unfold kisA at h
  split at h
  · rename_i e; exact ⟨(kisX_of F e).1, (kisX_of F e).2.1⟩
  · rename_i e; exact ⟨(kisX_of F e).1, (kisX_of F e).2.1⟩
  · cases h
/-- the names of classes as they stand -/
theorem cown {x : Str} {j : Nat} {p : Pos} (hm : X.mg x = some (.ref (cA j))) (hg : Gl X x) (hd : (x == ("__debug__" : Str)) = false := by decide) : PE X (.Name x p) (tC ((CN.own j).v cA)) := pe_glob (v := .ref (cA j)) hg hm rfl hd
theorem cty {x : Str} {n : String} {p : Pos} (hm : X.mg x = none) (hv : bootBuiltins x = some (.type n)) (hg : Gl X x) (hn : x ≠ "__name__" := by decide) (hd : (x == ("__debug__" : Str)) = false := by decide) : PE X (.Name x p) (tC ((CN.ty n).v cA)) := pe_bltn (v := .ty n) hg hm hv rfl hn hd
def tVs (vs : List V) : TA := fun _ H Q => Q vs H
theorem vnil : PA X [] (tVs []) := pa_nil
theorem vcons {e : Expr} {es : List Expr} {v : V} {vs : List V} (h : PE X e (tC v)) (r : PA X es (tVs vs)) (hs : starEach (e :: es) X.env = (false, eval e X.env) :: starEach es X.env := by rfl) : PA X (e :: es) (tVs (v :: vs)) := pa_cons h r hs
variable {a : Addr} {oe : Obj} {pn : List (Addr × Obj)} {d : Option Addr} {pos p0 p1 : Pos} {e : Expr} {m : ME} {x : Str}
theorem misE {ec : Expr} {n : CN} (F : IsFacts X.K cA kis) (hz : Zc (.ref (cA z.c)) d oe) (hd : z.fs = [] → d = none) (hf : ∃ vs, oe.data = .fields vs) (ha : PE (X.suite a ((a, oe) :: pn)) e (tE X.K cA W m)) (hcn : PE (X.suite a ((a, oe) :: pn)) ec (tC (n.v cA)))
    (hg : Gl X "isinstance") (hm : X.mg "isinstance" = none) (hv : bootBuiltins "isinstance" = some (.builtin "isinstance") := by decide +kernel)
    (hs2 : starEach [ec] X.env = (false, eval ec X.env) :: starEach [] X.env := by rfl) (hs : starEach [e, ec] X.env = (false, eval e X.env) :: starEach [ec] X.env := by rfl)
    (hpl : (backTo pos (starEach [ec] X.env)).any (·.1) = false := by rfl) : PE (X.suite a ((a, oe) :: pn)) (.Call (.Name "isinstance" p0) [e, ec] [] pos) (tE X.K cA W (toV (isX (kisX kis z n) a m))) := by
  cases hk : kisX kis z n with
  | none => exact ⟨fun pins s σ H Q I h => by obtain ⟨ρ, S, l, _, _, h⟩ := h; exact h.elim⟩
  | some b =>
    obtain ⟨k1, k2, k3⟩ := kisX_of F hk
    have hz' : Zc (.ref (cA z.c)) none oe := by rw [← hd k1]; exact hz
    exact (pe_callB (call_isE k2 hz' hf) hg hm hv (pa_cons ha (pa_cons hcn pa_nil hs2) hs) (by decide) (by decide) hs hpl).imp fun σ H Q h0 => by
      refine tG.imp (bind1 (rep1 := rV X.K) st_Id (tE_toV h0)) fun v H1 h => ?_
      obtain ⟨ρ, S, dd, hS, hr, h⟩ := h
      split at h
      · rename_i b'
        split at h
        · rename_i e
          subst e
          unfold rV RepV at hr
          subst hr
          exact ⟨n.v cA, n.val cA, b, rfl, fun u r => n.clsv.eq r, k3, After.same (Q := fun b H' => Q (.bl b) H') (rep := rId) h hS rfl⟩
        · exact h.elim
      · exact h.elim
/-- isinstance(e, (c1, ..)), e the exception that the suite holds -/
def rIsET (K : PySem.W.Frag) (D a : Addr) : List V → Hp → VK → Prop := fun xs H Q => ∃ (tp : Addr) (cs : List V) (us : List Value) (b : Bool), xs = [.ref a, .ref tp] ∧ H tp = some (.tup cs) ∧ Paired ClsV cs us ∧ PySem.W.kitAny K (.ref D) us = some b ∧ Q (.bl b) H
theorem call_isET {D : Addr} (C : ExcC X.K D) (hz : Zc (.ref D) none oe) (hf : ∃ vs, oe.data = .fields vs) : CallR (X.suite a ((a, oe) :: pn)) (.builtin "isinstance") (rIsET X.K D a) := by
  intro pins s σ H xs us Q I r h
  obtain ⟨tp, cs, ws, b, rfl, hT, k, e, q⟩ := h
  obtain ⟨u1, u2, rfl, r1, r2⟩ := vals2 r
  cases (show u2 = Value.ref tp from r2)
  cases (show u1 = Value.ref a from r1)
  obtain ⟨hget, _⟩ := I.pin (a, oe) (List.mem_append.mpr (.inl List.mem_cons_self))
  obtain ⟨vs, hv⟩ := hf
  have J : PySem.W.InstAt s.heap a oe D none := by
    obtain ⟨oc, od, oda, osl⟩ := oe
    obtain ⟨h1, h2⟩ := hz
    dsimp only at h1 h2 hv
    subst h1 h2 hv
    exact ⟨hget, rfl, rfl, trivial⟩
  obtain ⟨_, its, rv, o, h1, h2, n, h3⟩ := (show ObjOk X.prog X.w H s.heap tp (.tup cs) from I.hok tp _ hT)
  have e3 := ClsV.all k rv
  subst e3
  obtain ⟨oc, od, dt, sl⟩ := o
  simp only at h2 h3
  subst h2 h3
  exact PySem.W.kia_tup (PySem.W.handS_kitx_exc C.hg C.hk C.hs C.hd C.ha C.hn C.ht C.hm) I.kIn J h1 e (fun z => nomatch z) fun tk => ⟨.bl b, H, I.kept (t' := tk) fun _ _ z => z, rfl, q⟩
theorem misEt {es : List Expr} {k : Nat} {n : CN} {ns : List CN} {p2 : Pos} (F : IsFacts X.K cA kis) (hz : Zc (.ref (cA z.c)) d oe) (hd : z.fs = [] → d = none) (hf : ∃ vs, oe.data = .fields vs) (ha : PE (X.suite a ((a, oe) :: pn)) e (tE X.K cA W m)) (hcn : PA (X.suite a ((a, oe) :: pn)) es (tVs ((n :: ns).map (CN.v cA))))
    (hlen : (n :: ns).length ≤ sizeLine) (hg : Gl X "isinstance") (hm : X.mg "isinstance" = none) (hv : bootBuiltins "isinstance" = some (.builtin "isinstance") := by decide +kernel)
    (hs2 : starEach [(.Tuple es k p2 : Expr)] X.env = (false, eval (.Tuple es k p2) X.env) :: starEach [] X.env := by rfl) (hs : starEach [e, .Tuple es k p2] X.env = (false, eval e X.env) :: starEach [.Tuple es k p2] X.env := by rfl)
    (hpl : (backTo pos (starEach [(.Tuple es k p2 : Expr)] X.env)).any (·.1) = false := by rfl) : PE (X.suite a ((a, oe) :: pn)) (.Call (.Name "isinstance" p0) [e, .Tuple es k p2] [] pos) (tE X.K cA W (toV (isX (kisA kis z (n :: ns)) a m))) := by
  cases hk : kisA kis z (n :: ns) with
  | none => exact ⟨fun pins s σ H Q I h => by obtain ⟨ρ, S, l, _, _, h⟩ := h; exact h.elim⟩
  | some b =>
    obtain ⟨k1, k2⟩ := kisA_ex F hk
    have hz' : Zc (.ref (cA z.c)) none oe := by rw [← hd k1]; exact hz
    exact (pe_callB (call_isET k2 hz' hf) hg hm hv (pa_cons ha (pa_cons (pe_tup hcn) pa_nil hs2) hs) (by decide) (by decide) hs hpl).imp fun σ H Q h0 => by
      refine tG.imp (bind1 (rep1 := rV X.K) st_Id (tE_toV h0)) fun v H1 h => ?_
      obtain ⟨ρ, S, dd, hS, hr, h⟩ := h
      split at h
      · rename_i b'
        split at h
        · rename_i e
          subst e
          unfold rV RepV at hr
          subst hr
          refine ⟨by rw [List.length_map]; exact hlen, fun tp htp => ⟨tp, _, _, b, rfl, upd_same, CN.all (n :: ns), kisA_of F hk, ?_⟩⟩
          exact h ρ _ b (Ext.new htp) (hS.new htp) rfl
        · exact h.elim
      · exact h.elim
end
end ML

set_option Elab.async false
set_option linter.all false
set_option maxRecDepth 100000
set_option autoImplicit false
/-! ML10: the end of a law's row. -/
namespace ML
open PySem PySem.Spec L2
theorem FnM.mk' {P : Program} {w : World} {K : PySem.W.Frag} {mg : Str → Option Value} {base : Heap} {cA : Nat → Addr} {k n : Nat} {x qual : Str} {st : Stmt} {f : Addr} {fd : FuncData} {ps : List Str} {G : List D → Store → R D} (F : Fun K x qual st f fd) (hm : mg x = some (.ref f)) (b : Binds K fd ps []) (ok : FnOk P w K mg base (L2.CX P w) k f fd ps (spM K cA G n)) : FnM P w K mg base cA k x n G := ⟨⟨f, fd, ps, hm, F.kp, b, ok⟩⟩
/-- a law's promise, from what its function tells -/
theorem law_sp {n : Nat} {F : List D → Store → R D} (h : ∀ ns : List Int, ns.length ≤ n → ∃ S', F [.lis (ns.map D.int)] [] = .ok (.bl true) S') {K : PySem.W.Frag} {cA : Nat → Addr} {H : Hp} {a : Addr} {ns : List Int} (hn : ns.length ≤ n) (hO : Only H) (hS : SqL K H a (ns.map V.int)) :
    spM K cA F 1 [.ref a] H (fun v _ => v = .bl true) (fun _ _ _ => False) := by
  obtain ⟨S', e⟩ := h ns hn
  refine ⟨rfl, [], [], [.lis (ns.map D.int)], ⟨rfl, List.nodup_nil, fun n c a h => by simp at h⟩, ?_, ?_⟩
  · refine .cons ?_ .nil
    unfold RepV
    refine ⟨a, ns.map V.int, rfl, ?_, RepVs.of_ints⟩
    rcases hS with (hS | ⟨o, hS⟩) | hS
    · rcases hO a with z | ⟨o, xs, z⟩ <;> (rw [hS] at z; cases z)
    · exact .inl ⟨o, hS⟩
    · exact .inr hS
  · rw [e]
    intro ρ' H' v _ _ hv
    unfold rV RepV at hv
    exact hv
/-- the classes' addresses by number -/
def tabA (l : List Addr) : Nat → Addr := fun n => l.getD n 0
/-- a promise that does not name the classes -/
def spA (K : PySem.W.Frag) (F : List D → Store → R D) (n : Nat) : Sp := fun vs H Q E => ∀ cA : Nat → Addr, spM K cA F n vs H Q E
theorem spA_of {P : Program} {w : World} {K : PySem.W.Frag} {mg : Str → Option Value} {base : Heap} {cA : Nat → Addr} {k n : Nat} {f : Addr} {fd : FuncData} {ps : List Str} {F : List D → Store → R D} {CX : CXT} (h : FnOk P w K mg base CX k f fd ps (spM K cA F n)) : FnOk P w K mg base CX k f fd ps (spA K F n) :=
  ⟨fun vs H Q E q => h.len vs H Q E (q cA), fun A st s H args us vs Q E hr e b r q => h.run A st s H args us vs Q E hr e b r (q cA)⟩
theorem law_spA {n : Nat} {F : List D → Store → R D} (h : ∀ ns : List Int, ns.length ≤ n → ∃ S', F [.lis (ns.map D.int)] [] = .ok (.bl true) S') {K : PySem.W.Frag} {H : Hp} {a : Addr} {ns : List Int} (hn : ns.length ≤ n) (hO : Only H) (hS : SqL K H a (ns.map V.int)) :
    spA K F 1 [.ref a] H (fun v _ => v = .bl true) (fun _ _ _ => False) := fun _ => law_sp h hn hO hS
theorem cx_end {P : Program} {w : World} {H : Hp} {s : Shared} {e : Value} {s' : Shared} (h : L2.CX P w [] H s (fun _ _ _ => False) e s') : False := by
  obtain ⟨_, _, _, _, _, _, _, _, _, _, _, _, z⟩ := h
  exact z
end ML

set_option Elab.async false
set_option linter.all false
set_option maxRecDepth 100000
set_option autoImplicit false
/-! ML11: reckoning with the functions. -/
namespace ML
open PySem PySem.Spec L2

/-- a text of one sign -/
def sgn (c : Nat) : D := .str ⟨#[c]⟩
/-- the signs of a text -/
def cs (x : Str) : List Nat := TL.tl x
@[simp] theorem cs_one (c : Nat) : cs ⟨#[c]⟩ = [c] := (rfl)
theorem cs_of (s : String) : cs (Str.ofString s) = s.toList.map Char.toNat := TL.tl_ofString s
@[simp] theorem cs_app (x y : Str) : cs (x ++ y) = cs x ++ cs y := TL.tl_append x y
@[simp] theorem cs_len (x : Str) : (cs x).length = x.length := (TL.len_tl x).symm
theorem cs_ext {x y : Str} (h : cs x = cs y) : x = y := TL.ext_tl h
theorem cs_join (y : Str) (parts : List Str) : cs (Str.join y parts) = TL.joinL (cs y) (parts.map cs) := TL.tl_join y parts
theorem signs_tl (z : Str) : signsOf z = (cs z).map sgn := rfl
section
variable {m n o : ME} {l : Loc} {S : Store}
@[simp] theorem x_con (d : D) : conE d l S = .ok d S := (rfl)
@[simp] theorem x_var0 (d : D) (r : Loc) : varE 0 (some d :: r) S = .ok d S := (rfl)
@[simp] theorem x_varS (i : Nat) (a : Option D) (r : Loc) : varE (i + 1) (a :: r) S = varE i r S := by simp [varE]
@[simp] theorem x_bin (f : D → D → Store → R D) : binE f m n l S = (m l S).bind fun a S1 => (n l S1).bind (f a) := (rfl)
@[simp] theorem x_un (f : D → Store → R D) : unE f m l S = (m l S).bind f := (rfl)
@[simp] theorem x_cmp (f : D → D → Store → R Bool) : cmpM f m n l S = (m l S).bind fun a S1 => (n l S1).bind (f a) := (rfl)
@[simp] theorem x_toV (m : MB) : toV m l S = (m l S).bind fun b S1 => .ok (.bl b) S1 := (rfl)
@[simp] theorem x_chain (f g : D → D → Store → R Bool) : chainM f g m n o l S = (m l S).bind fun a S1 => (n l S1).bind fun b S2 => (f a b S2).bind fun t S3 => if t = true then (o l S3).bind (g b) else .ok false S3 := (rfl)
@[simp] theorem x_andM (m n : MB) : andM m n l S = (m l S).bind fun b S1 => if b = true then n l S1 else .ok false S1 := (rfl)
@[simp] theorem x_orM (m n : MB) : orM m n l S = (m l S).bind fun b S1 => if b = true then .ok true S1 else n l S1 := (rfl)
@[simp] theorem x_notM (m : MB) : notM m l S = (m l S).bind fun b S1 => .ok (!b) S1 := (rfl)
@[simp] theorem x_isBl (b : Bool) : isBl (.bl b) = some b := (rfl)
@[simp] theorem x_ofV : ofV m l S = (m l S).bind fun d S1 => match isBl d with
  | some b => .ok b S1
  | none => .bad := (rfl)
@[simp] theorem x_andV (p : MB) : andV p n l S = (p l S).bind fun b S1 => if b = true then n l S1 else .ok (.bl false) S1 := (rfl)
@[simp] theorem x_orV (p : MB) : orV p n l S = (p l S).bind fun b S1 => if b = true then .ok (.bl true) S1 else n l S1 := (rfl)
@[simp] theorem x_ifE (c : MB) : ifE c m n l S = (c l S).bind fun b S1 => if b = true then m l S1 else n l S1 := (rfl)
@[simp] theorem x_nilA : nilA l S = .ok [] S := (rfl)
@[simp] theorem x_consA (r : MA) : consA m r l S = (m l S).bind fun d S1 => (r l S1).bind fun ds S2 => .ok (d :: ds) S2 := (rfl)
@[simp] theorem x_tupE (r : MA) : tupE r l S = (r l S).bind fun ds S1 => if ds.length ≤ sizeLine then .ok (.tup ds) S1 else .bad := (rfl)
@[simp] theorem x_lstN (r : MA) : lstN r l S = (r l S).bind fun ds S1 => if ds.length ≤ sizeLine then .ok ds S1 else .bad := (rfl)
@[simp] theorem x_allocE (r : MA) : allocE r l S = (r l S).bind fun ds S1 => newC (.lst ds) S1 := (rfl)
@[simp] theorem x_newL {α : Type} (f : List D → Store → R α) (r : MA) : newL f r l S = (r l S).bind f := (rfl)
@[simp] theorem x_ofL {α : Type} (f : List D → Store → R α) : ofL f m l S = (m l S).bind fun d S1 => match lstOf S1 d with
  | some ds => f ds S1
  | none => .bad := (rfl)
@[simp] theorem x_isE (T : String) : isE T m l S = (m l S).bind fun d S1 => match kindO S1 d with
  | some t => .ok (isKind T t) S1
  | none => .bad := (rfl)
@[simp] theorem x_call (k : Nat) (G : List D → Store → R D) (r : MA) : callE k G r l S = (r l S).bind fun ds S1 => if ds.length = k then G ds S1 else .bad := (rfl)
@[simp] theorem x_slice (lo hi : MO) : sliceE m lo hi l S = (m l S).bind fun d S1 => (lo l S1).bind fun i S2 => (hi l S2).bind (sliceD d i) := (rfl)
@[simp] theorem x_noO : noO l S = .ok none S := (rfl)
@[simp] theorem x_someO : someO m l S = (m l S).bind fun d S1 => match intO d with
  | some i => .ok (some i) S1
  | none => .bad := (rfl)
@[simp] theorem x_intO (i : Int) : intO (.int i) = some i := (rfl)
@[simp] theorem x_strO (i : Str) : strO (.str i) = some i := (rfl)
@[simp] theorem x_fld (cs : List Nat) (f : Str) : fldE cs f m l S = (m l S).bind fun d S1 => match d with
  | .ref n => match insAt S1 n with
    | some (c, fs) => if c ∈ cs then (match fs.lookup f with
      | some x => .ok x S1
      | none => .bad) else .bad
    | none => .bad
  | _ => .bad := (rfl)
@[simp] theorem x_lmE (f : D → List D → Store → R D) (r : MA) : lmE f m r l S = (m l S).bind fun d S1 => if (lstOf S1 d).isSome = true then (r l S1).bind (f d) else .bad := (rfl)
@[simp] theorem x_joinN (r : MA) : joinN m r l S = (m l S).bind fun d S1 => match strO d with
  | some a => (r l S1).bind fun ds S2 => match mapO strO ds with
    | some ys => if (ys.map (·.length)).sum + ys.length * a.length ≤ 16777216 then .ok (.str (Str.join a ys)) S2 else .bad
    | none => .bad
  | none => .bad := (rfl)
@[simp] theorem x_yes : yesM l S = .ok true S := (rfl)
/-! statements -/
@[simp] theorem x_nilS : nilS l S = .ok (.nx, l) S := (rfl)
@[simp] theorem x_seqS (a b : MS) : seqS a b l S = (a l S).bind (thenS b) := (rfl)
@[simp] theorem x_then_nx (b : MS) (l : Loc) : thenS b (.nx, l) S = b l S := (rfl)
@[simp] theorem x_then_rt (b : MS) (d : D) (l : Loc) : thenS b (.rt d, l) S = .ok (.rt d, l) S := (rfl)
@[simp] theorem x_then_bk (b : MS) (l : Loc) : thenS b (.bk, l) S = .ok (.bk, l) S := (rfl)
@[simp] theorem x_then_ct (b : MS) (l : Loc) : thenS b (.ct, l) S = .ok (.ct, l) S := (rfl)
@[simp] theorem x_exprS : exprS m l S = (m l S).bind fun _ S1 => .ok (.nx, l) S1 := (rfl)
@[simp] theorem x_retS : retS m l S = (m l S).bind fun d S1 => .ok (.rt d, l) S1 := (rfl)
@[simp] theorem x_retN : retN l S = .ok (.rt .non, l) S := (rfl)
@[simp] theorem x_ifS (c : MB) (a b : MS) : ifS c a b l S = (c l S).bind fun t S1 => if t = true then a l S1 else b l S1 := (rfl)
@[simp] theorem x_breakS : breakS l S = .ok (.bk, l) S := (rfl)
@[simp] theorem x_contS : contS l S = .ok (.ct, l) S := (rfl)
@[simp] theorem x_setS (i : Nat) : setS i m l S = (m l S).bind fun d S1 => .ok (.nx, l.set i (some d)) S1 := (rfl)
@[simp] theorem x_asgS (t : MT) : asgS t m l S = (m l S).bind fun d S1 => (t d l S1).bind fun l1 S2 => .ok (.nx, l1) S2 := (rfl)
@[simp] theorem x_nameT (i : Nat) (d : D) : nameT i d l S = .ok (l.set i (some d)) S := (rfl)
@[simp] theorem x_subT (d : D) : subT m n d l S = (m l S).bind fun o S1 => (n l S1).bind fun i S2 => match setO S2 o i d with
  | some S3 => .ok l S3
  | none => .bad := (rfl)
@[simp] theorem x_forS (src : Loc → Store → R Sn) (t : MT) (b : MS) : forS src t b l S = (src l S).bind fun p S1 => forL p.2 t b p.1 l S1 := (rfl)
@[simp] theorem x_srcN (r : MA) : srcN r l S = (r l S).bind fun ds S1 => .ok (ds, still) S1 := (rfl)
@[simp] theorem x_srcV : srcV m l S = (m l S).bind srcD := (rfl)
@[simp] theorem x_srcR1 (r : MA) : srcR1 r l S = (r l S).bind rng1 := (rfl)
@[simp] theorem x_srcR2 (r : MA) : srcR2 r l S = (r l S).bind rng2 := (rfl)
@[simp] theorem x_compN (src : Loc → Store → R Sn) (t : Tgt) (c : MB) : compN src t c m l S = (src l S).bind fun p S1 => (compL p.2 t c m (wipeL l t.own) p.1 [] S1).noex := (rfl)
@[simp] theorem x_noex_ok {α : Type} (a : α) (S : Store) : (R.ok a S).noex = .ok a S := (rfl)
@[simp] theorem x_again_nx (b : MS) (l : Loc) : againS b (.nx, l) S = b l S := (rfl)
@[simp] theorem x_again_ct (b : MS) (l : Loc) : againS b (.ct, l) S = b l S := (rfl)
@[simp] theorem x_again_bk (b : MS) (l : Loc) : againS b (.bk, l) S = .ok (.nx, l) S := (rfl)
@[simp] theorem x_again_rt (b : MS) (d : D) (l : Loc) : againS b (.rt d, l) S = .ok (.rt d, l) S := (rfl)
@[simp] theorem x_eqN (r s : MA) : eqN r s l S = (r l S).bind fun xs S1 => (s l S1).bind fun ys S2 => match eqLs S2 xs ys with
  | some b => .ok b S2
  | none => .bad := (rfl)
@[simp] theorem x_neN (r s : MA) : neN r s l S = (r l S).bind fun xs S1 => (s l S1).bind fun ys S2 => match eqLs S2 xs ys with
  | some b => .ok (!b) S2
  | none => .bad := (rfl)
@[simp] theorem x_nilP : nilP l S = .ok [] S := (rfl)
@[simp] theorem x_consP (k v : ME) (r : MP) : consP k v r l S = (k l S).bind fun a S1 => (v l S1).bind fun b S2 => (r l S2).bind fun ps S3 => .ok ((a, b) :: ps) S3 := (rfl)
@[simp] theorem x_dictE (r : MP) : dictE r l S = (r l (S ++ [.dct []])).bind fun ps S1 => match keysO ps with
  | some kvs => if kvs.length ≤ 15 then (match dctAt S1 S.length with
    | some [] => .ok (.ref S.length) (S1.set S.length (.dct (mergeD [] kvs)))
    | _ => .bad) else .bad
  | none => .bad := (rfl)
@[simp] theorem x_bodyF (k : Nat) (b : MS) (ds : List D) : bodyF k b ds S = (b (startL k ds) S).bind fun p S1 => match p.1 with
  | .nx => .ok .non S1
  | .rt d => .ok d S1
  | _ => .bad := (rfl)
/-! values -/
@[simp] theorem x_addI (i j : Int) : addD (.int i) (.int j) S = .ok (.int (i + j)) S := (rfl)
@[simp] theorem x_addT (x y : Str) : addD (.str x) (.str y) S = if x.length + y.length ≤ sizeLine then .ok (.str (x ++ y)) S else .bad := (rfl)
@[simp] theorem x_addU (x y : List D) : addD (.tup x) (.tup y) S = if x.length + y.length ≤ sizeLine then .ok (.tup (x ++ y)) S else .bad := (rfl)
@[simp] theorem x_subI (i j : Int) : subD (.int i) (.int j) S = .ok (.int (i - j)) S := (rfl)
theorem mulOk_r {i j : Int} (h : j.natAbs < 18446744073709551616) : mulOk i j = true := by
  have e : ((2 : Int) ^ 64) = 18446744073709551616 := by decide +kernel
  unfold mulOk
  rw [e]
  simp
  right
  omega
theorem mulOk_l {i j : Int} (h : i.natAbs < 18446744073709551616) : mulOk i j = true := by
  have e : ((2 : Int) ^ 64) = 18446744073709551616 := by decide +kernel
  unfold mulOk
  rw [e]
  simp
  left
  omega
@[simp] theorem x_mulR {i j : Int} (h : j.natAbs < 18446744073709551616) : mulD (.int i) (.int j) S = .ok (.int (i * j)) S := if_pos (mulOk_r h)
@[simp] theorem x_mulL {i j : Int} (h : i.natAbs < 18446744073709551616) : mulD (.int i) (.int j) S = .ok (.int (i * j)) S := if_pos (mulOk_l h)
@[simp] theorem x_fdivI (i j : Int) : fdivD (.int i) (.int j) S = if 0 < j ∧ j < 1073741824 then .ok (.int (i / j)) S else .bad := (rfl)
@[simp] theorem x_modI (i j : Int) : modD (.int i) (.int j) S = if 0 < j then .ok (.int (i % j)) S else .bad := (rfl)
@[simp] theorem x_powI (i j : Int) : powD (.int i) (.int j) S = if 0 ≤ j ∧ j ≤ 1000000 ∧ i.natAbs < 2 ^ 64 then .ok (.int (i ^ j.toNat)) S else .bad := (rfl)
@[simp] theorem x_negI (i : Int) : negD (.int i) S = .ok (.int (-i)) S := (rfl)
@[simp] theorem x_ltI (i j : Int) : ltD (.int i) (.int j) S = .ok (decide (i < j)) S := (rfl)
@[simp] theorem x_leI (i j : Int) : leD (.int i) (.int j) S = .ok (decide (i ≤ j)) S := (rfl)
@[simp] theorem x_gtI (i j : Int) : gtD (.int i) (.int j) S = .ok (decide (j < i)) S := (rfl)
@[simp] theorem x_geI (i j : Int) : geD (.int i) (.int j) S = .ok (decide (j ≤ i)) S := (rfl)
@[simp] theorem x_leS (x y : Str) : leD (.str x) (.str y) S = .ok (!decide (cs y < cs x)) S := (rfl)
@[simp] theorem x_ltS (x y : Str) : ltD (.str x) (.str y) S = .ok (decide (cs x < cs y)) S := (rfl)
@[simp] theorem x_lenT (x : Str) : lenV [.str x] S = if x.length ≤ sizeLine then .ok (.int x.length) S else .bad := (rfl)
@[simp] theorem x_lenU (x : List D) : lenV [.tup x] S = .ok (.int x.length) S := (rfl)
@[simp] theorem x_lenW (x : List D) : lenV [.lis x] S = .ok (.int x.length) S := (rfl)
theorem x_lenR {n : Nat} {xs : List D} (h : lstAt S n = some xs) : lenV [.ref n] S = .ok (.int xs.length) S := by
  unfold lenV
  simp only [seqOf, h]
@[simp] theorem x_abs (i : Int) : absV [.int i] S = .ok (.int i.natAbs) S := by
  show R.ok (D.int (if i < 0 then -i else i)) S = _
  congr 2
  split <;> omega
@[simp] theorem x_max (i j : Int) : maxV [.int i, .int j] S = .ok (.int (max i j)) S := by
  show R.ok (D.int (if j > i then j else i)) S = _
  congr 2
  split <;> omega
@[simp] theorem x_min (i j : Int) : minV [.int i, .int j] S = .ok (.int (min i j)) S := by
  show R.ok (D.int (if j < i then j else i)) S = _
  congr 2
  split <;> omega
@[simp] theorem x_int (i : Int) : intV [.int i] S = .ok (.int i) S := (rfl)
@[simp] theorem x_intB (b : Bool) : intV [.bl b] S = .ok (.int (if b = true then 1 else 0)) S := (rfl)
@[simp] theorem x_strI (i : Int) : strV [.int i] S = if i.natAbs.log2 < 1920 then .ok (.str (toString i)) S else .bad := (rfl)
@[simp] theorem x_ixU (x : List D) (i : Int) : ixO S (.tup x) (.int i) = atI x i := (rfl)
@[simp] theorem x_ixW (x : List D) (i : Int) : ixO S (.lis x) (.int i) = atI x i := (rfl)
@[simp] theorem x_ixT (z : Str) (i : Int) : ixO S (.str z) (.int i) = if z.length ≤ sizeLine then (atI (cs z) i).map sgn else none := (rfl)
theorem x_ixR {n : Nat} {xs : List D} (h : lstAt S n = some xs) (i : Int) : ixO S (.ref n) (.int i) = atI xs i := by
  unfold ixO
  simp only [lstAt_some h]
theorem x_ixK {n : Nat} {kvs : List (Key × D)} (h : kvAt S n = some kvs) (x : Str) : ixO S (.ref n) (.str x) = dLook kvs (.inr x) := by
  unfold ixO
  simp only [h]
@[simp] theorem x_srcU (x : List D) : srcD (.tup x) S = .ok (x, still) S := (rfl)
@[simp] theorem x_srcW (x : List D) : srcD (.lis x) S = .ok (x, still) S := (rfl)
@[simp] theorem x_srcT (z : Str) : srcD (.str z) S = .ok ((cs z).map sgn, still) S := (rfl)
@[simp] theorem x_inT (c : Nat) (z : Str) : inD (sgn c) (.str z) S = .ok (decide (c ∈ cs z)) S := (rfl)
@[simp] theorem x_ninT (c : Nat) (z : Str) : notInD (sgn c) (.str z) S = .ok (!decide (c ∈ cs z)) S := (rfl)
@[simp] theorem x_eqT (x y : Str) : eqD (.str x) (.str y) S = .ok (decide (x = y)) S := (rfl)
@[simp] theorem x_neT (x y : Str) : neD (.str x) (.str y) S = .ok (!decide (x = y)) S := (rfl)
@[simp] theorem x_leG (x : Str) (c : Nat) : leD (.str x) (sgn c) S = .ok (!decide ([c] < cs x)) S := (rfl)
@[simp] theorem x_leG' (x : Str) (c : Nat) : leD (sgn c) (.str x) S = .ok (!decide (cs x < [c])) S := (rfl)
@[simp] theorem x_kNon : kindO S .non = some "NoneType" := (rfl)
@[simp] theorem x_kBl (b : Bool) : kindO S (.bl b) = some "bool" := (rfl)
@[simp] theorem x_kInt (i : Int) : kindO S (.int i) = some "int" := (rfl)
@[simp] theorem x_kStr (i : Str) : kindO S (.str i) = some "str" := (rfl)
@[simp] theorem x_kTup (i : List D) : kindO S (.tup i) = some "tuple" := (rfl)
@[simp] theorem x_kLis (i : List D) : kindO S (.lis i) = some "list" := (rfl)
theorem x_kLst {n : Nat} {xs : List D} (h : S[n]? = some (.lst xs)) : kindO S (.ref n) = some "list" := by unfold kindO; simp only [h]
end
theorem still_true (S : Store) : still S := trivial
@[simp] theorem if_still {α : Type} {S : Store} (a b : R α) [Decidable (still S)] : (if still S then a else b) = a := if_pos trivial

/-! ### loops that change nothing -/
theorem forL_nil {chk : Store → Prop} {t : MT} {b : MS} {l : Loc} {S : Store} (hk : chk S) : forL chk t b [] l S = .ok (.nx, l) S := by unfold forL; exact if_pos hk
theorem forL_cons {chk : Store → Prop} {t : MT} {b : MS} {d : D} {ds : List D} {l : Loc} {S : Store} (hk : chk S) : forL chk t b (d :: ds) l S = (t d l S).bind fun l1 S1 => (b l1 S1).bind (againS (forL chk t b ds)) := by
  conv => lhs; unfold forL
  exact if_pos hk
theorem compL_nil {chk : Store → Prop} {t : Tgt} {c : MB} {m : ME} {l : Loc} {acc : List D} {S : Store} (hk : chk S) : compL chk t c m l [] acc S = .ok acc S := by unfold compL; exact if_pos hk
theorem compL_cons {chk : Store → Prop} {t : Tgt} {c : MB} {m : ME} {l : Loc} {d : D} {ds acc : List D} {S : Store} (hk : chk S) : compL chk t c m l (d :: ds) acc S = (match t.put d l with
    | some l1 => (c l1 S).bind fun b S1 => if b = true then (m l1 S1).bind fun y S2 => if acc.length < sizeLine then compL chk t c m l ds (acc ++ [y]) S2 else .bad else compL chk t c m l ds acc S1
    | none => .bad) := by
  conv => lhs; unfold compL
  exact if_pos hk
/-- a comprehension of one name whose elements change nothing -/
theorem compL_pure {chk : Store → Prop} {i : Nat} {c : MB} {m : ME} {l : Loc} {S : Store} (hk : chk S) (p : D → Bool) (f : D → D) : ∀ (ds acc : List D), (∀ d ∈ ds, c (l.set i (some d)) S = .ok (p d) S) → (∀ d ∈ ds, p d = true → m (l.set i (some d)) S = .ok (f d) S) → acc.length + ds.length ≤ sizeLine →
    compL chk (.one i) c m l ds acc S = .ok (acc ++ (ds.filter p).map f) S
  | [], acc, _, _, _ => by rw [compL_nil hk]; simp
  | d :: ds, acc, hc, hm, hz => by
    have h1 := hc d List.mem_cons_self
    have h2 := hm d List.mem_cons_self
    rw [List.length_cons] at hz
    rw [compL_cons hk]
    simp only [Tgt.put, h1, R.bind_ok]
    cases e : p d with
    | true =>
      simp only [if_true, h2 e, R.bind_ok]
      rw [if_pos (by omega), compL_pure hk p f ds (acc ++ [f d]) (fun x hx => hc x (List.mem_cons_of_mem _ hx)) (fun x hx => hm x (List.mem_cons_of_mem _ hx)) (by rw [List.length_append, List.length_singleton]; omega)]
      simp [e]
    | false =>
      simp only [if_false, Bool.false_eq_true]
      rw [compL_pure hk p f ds acc (fun x hx => hc x (List.mem_cons_of_mem _ hx)) (fun x hx => hm x (List.mem_cons_of_mem _ hx)) (by omega)]
      simp [e]
theorem compL_map {chk : Store → Prop} {i : Nat} {m : ME} {l : Loc} {S : Store} (f : D → D) (ds : List D) (hm : ∀ d ∈ ds, m (l.set i (some d)) S = .ok (f d) S) (hz : ds.length ≤ sizeLine) (hk : chk S := by trivial) : compL chk (.one i) yesM m l ds [] S = .ok (ds.map f) S := by
  rw [compL_pure hk (fun _ => true) f ds [] (fun _ _ => rfl) (fun d hd _ => hm d hd) (by simpa using hz), List.filter_eq_self.mpr (fun _ _ => rfl)]
  rfl
theorem mapO_some {α β γ : Type} {f : α → Option β} {g : γ → α} {h : γ → β} (e : ∀ x, f (g x) = some (h x)) : ∀ xs : List γ, mapO f (xs.map g) = some (xs.map h)
  | [] => rfl
  | x :: xs => by rw [List.map_cons]; unfold mapO; rw [e, mapO_some e xs]; rfl
theorem mapO_of {α β : Type} {f : α → Option β} {h : α → β} : ∀ {xs : List α}, (∀ x ∈ xs, f x = some (h x)) → mapO f xs = some (xs.map h)
  | [], _ => rfl
  | x :: xs, e => by unfold mapO; rw [e x List.mem_cons_self, mapO_of fun y hy => e y (List.mem_cons_of_mem _ hy)]; rfl
/-- .. over items g b -/
theorem compL_pureG {β : Type} {chk : Store → Prop} {i : Nat} {c : MB} {m : ME} {l : Loc} {S : Store} (hk : chk S) (g : β → D) (p : β → Bool) (f : β → D) : ∀ (bs : List β) (acc : List D), (∀ b ∈ bs, c (l.set i (some (g b))) S = .ok (p b) S) → (∀ b ∈ bs, p b = true → m (l.set i (some (g b))) S = .ok (f b) S) → acc.length + bs.length ≤ sizeLine →
    compL chk (.one i) c m l (bs.map g) acc S = .ok (acc ++ (bs.filter p).map f) S
  | [], acc, _, _, _ => by rw [List.map_nil, compL_nil hk]; simp
  | d :: ds, acc, hc, hm, hz => by
    have h1 := hc d List.mem_cons_self
    have h2 := hm d List.mem_cons_self
    rw [List.length_cons] at hz
    rw [List.map_cons, compL_cons hk]
    simp only [Tgt.put, h1, R.bind_ok]
    cases e : p d with
    | true =>
      simp only [if_true, h2 e, R.bind_ok]
      rw [if_pos (by omega), compL_pureG hk g p f ds (acc ++ [f d]) (fun x hx => hc x (List.mem_cons_of_mem _ hx)) (fun x hx => hm x (List.mem_cons_of_mem _ hx)) (by rw [List.length_append, List.length_singleton]; omega)]
      simp [e]
    | false =>
      simp only [if_false, Bool.false_eq_true]
      rw [compL_pureG hk g p f ds acc (fun x hx => hc x (List.mem_cons_of_mem _ hx)) (fun x hx => hm x (List.mem_cons_of_mem _ hx)) (by omega)]
      simp [e]
theorem compL_mapG {β : Type} {chk : Store → Prop} {i : Nat} {m : ME} {l : Loc} {S : Store} (g : β → D) (f : β → D) (bs : List β) (hm : ∀ b ∈ bs, m (l.set i (some (g b))) S = .ok (f b) S) (hz : bs.length ≤ sizeLine) (hk : chk S := by trivial) : compL chk (.one i) yesM m l (bs.map g) [] S = .ok (bs.map f) S := by
  rw [compL_pureG hk g (fun _ => true) f bs [] (fun _ _ => rfl) (fun d hd _ => hm d hd) (by simpa using hz), List.filter_eq_self.mpr (fun _ _ => rfl)]
  rfl
theorem compL_filG {β : Type} {chk : Store → Prop} {i : Nat} {c : MB} {m : ME} {l : Loc} {S : Store} (g : β → D) (p : β → Bool) (f : β → D) (bs : List β) (hc : ∀ b ∈ bs, c (l.set i (some (g b))) S = .ok (p b) S) (hm : ∀ b ∈ bs, p b = true → m (l.set i (some (g b))) S = .ok (f b) S) (hz : bs.length ≤ sizeLine) (hk : chk S := by trivial) :
    compL chk (.one i) c m l (bs.map g) [] S = .ok ((bs.filter p).map f) S := by
  rw [compL_pureG hk g p f bs [] hc hm (by simpa using hz)]
  rfl
theorem allL_map {β : Type} (p : β → Bool) (bs : List β) (S : Store) : allL (bs.map fun b => .bl (p b)) S = .ok (.bl (bs.all p)) S := by
  unfold allL
  rw [mapO_some (f := isBl) (g := fun b => .bl (p b)) (h := p) (fun _ => rfl)]
  simp
theorem anyL_map {β : Type} (p : β → Bool) (bs : List β) (S : Store) : anyL (bs.map fun b => .bl (p b)) S = .ok (.bl (bs.any p)) S := by
  unfold anyL
  rw [mapO_some (f := isBl) (g := fun b => .bl (p b)) (h := p) (fun _ => rfl)]
  simp
theorem sz : sizeLine = 16777216 := rfl
theorem lt1 (a b : Nat) : ([a] : List Nat) < [b] ↔ a < b := by simp [List.cons_lt_cons_iff]
/-- a run that ends well -/
def Ret {α : Type} (r : R α) (Q : α → Store → Prop) : Prop := match r with
  | .ok a S => Q a S
  | _ => False
@[simp] theorem Ret_ok {α : Type} (a : α) (S : Store) (Q : α → Store → Prop) : Ret (.ok a S) Q ↔ Q a S := Iff.rfl
theorem Ret_bind {α β : Type} (r : R α) (f : α → Store → R β) (Q : β → Store → Prop) : Ret (r.bind f) Q ↔ Ret r fun a S => Ret (f a S) Q := by cases r <;> exact Iff.rfl
theorem Ret.imp {α : Type} {r : R α} {Q Q' : α → Store → Prop} (h : Ret r Q) (i : ∀ a S, Q a S → Q' a S) : Ret r Q' := by
  cases r with
  | ok a S => exact i a S h
  | ex x S => exact h
  | bad => exact h
theorem Ret.of {α : Type} {r : R α} {Q : α → Store → Prop} (h : Ret r Q) : ∃ a S, r = .ok a S ∧ Q a S := by
  cases r with
  | ok a S => exact ⟨a, S, rfl, h⟩
  | ex x S => exact h.elim
  | bad => exact h.elim
theorem Ret.bind {α β : Type} {r : R α} {f : α → Store → R β} {Q : β → Store → Prop} (h : Ret r fun a S => Ret (f a S) Q) : Ret (r.bind f) Q := (Ret_bind r f Q).mpr h
/-- a for loop with an invariant over the number of turns -/
theorem forL_inv {chk : Store → Prop} {t : MT} {b : MS} {Q : Fl × Loc → Store → Prop} (I : Nat → Loc → Store → Prop) {ds : List D} (hc : ∀ k l S, I k l S → chk S)
    (hs : ∀ k d l S, I k l S → ds[k]? = some d → Ret (t d l S) fun l1 S1 => Ret (b l1 S1) fun p S2 => match p.1 with
      | .nx => I (k + 1) p.2 S2
      | .ct => I (k + 1) p.2 S2
      | .bk => Q (.nx, p.2) S2
      | .rt _ => Q p S2) (he : ∀ l S, I ds.length l S → Q (.nx, l) S) :
    ∀ (j k : Nat) (l : Loc) (S : Store), j = ds.length - k → k ≤ ds.length → I k l S → Ret (forL chk t b (ds.drop k) l S) Q
  | 0, k, l, S, e, hk, h => by
    have : k = ds.length := by omega
    subst this
    rw [List.drop_length]
    unfold forL
    rw [if_pos (hc _ _ _ h)]
    exact he l S h
  | j + 1, k, l, S, e, hk, h => by
    have hk : k < ds.length := by omega
    rw [List.drop_eq_getElem_cons hk]
    unfold forL
    rw [if_pos (hc _ _ _ h)]
    have h1 := hs k ds[k] l S h (List.getElem?_eq_getElem hk)
    refine (h1.imp fun l1 S1 h => ?_).bind
    refine (h.imp fun p S2 h => ?_).bind
    obtain ⟨fl, l2⟩ := p
    cases fl with
    | nx => exact forL_inv I hc hs he j (k + 1) l2 S2 (by omega) (by omega) h
    | ct => exact forL_inv I hc hs he j (k + 1) l2 S2 (by omega) (by omega) h
    | bk => exact h
    | rt d => exact h
/-! ### equality is equality of data -/
mutual
theorem toPy_dep {S : Store} : ∀ (k : Nat) (d : D) (p : PyData), toPy S k d = some p → p.depth ≤ k
  | k, .non, p, h => by
    unfold toPy at h
    cases h
    exact by simp [PyData.depth]
  | k, .bl b, p, h => by
    unfold toPy at h
    cases h
    exact by simp [PyData.depth]
  | k, .int b, p, h => by
    unfold toPy at h
    cases h
    exact by simp [PyData.depth]
  | k, .str b, p, h => by
    unfold toPy at h
    cases h
    exact by simp [PyData.depth]
  | k, .exn b, p, h => by
    unfold toPy at h
    cases h
  | 0, .tup xs, p, h => by simp [toPy] at h
  | 0, .lis xs, p, h => by simp [toPy] at h
  | 0, .ref n, p, h => by simp [toPy] at h
  | k + 1, .tup xs, p, h => by
    have h : (mapO (toPy S k) xs).map PyData.tuple = some p := h
    cases e : mapO (toPy S k) xs with
    | none => rw [e] at h; simp at h
    | some q =>
      rw [e] at h
      cases h
      have := toPys_dep k xs q e
      exact by simp [PyData.depth]; omega
  | k + 1, .lis xs, p, h => by
    have h : (mapO (toPy S k) xs).map PyData.list = some p := h
    cases e : mapO (toPy S k) xs with
    | none => rw [e] at h; simp at h
    | some q =>
      rw [e] at h
      cases h
      have := toPys_dep k xs q e
      exact by simp [PyData.depth]; omega
  | k + 1, .ref n, p, h => by
    unfold toPy at h
    cases e1 : lstAt S n with
    | none => simp [e1] at h
    | some xs =>
      simp only [e1] at h
      cases e : mapO (toPy S k) xs with
      | none => simp [e] at h
      | some q =>
        rw [e] at h
        cases h
        have := toPys_dep k xs q e
        exact by simp [PyData.depth]; omega
theorem toPys_dep {S : Store} (k : Nat) : ∀ (xs : List D) (ps : List PyData), mapO (toPy S k) xs = some ps → PyData.depthAll ps ≤ k
  | [], ps, h => by
    unfold mapO at h
    cases h
    exact by simp [PyData.depthAll]
  | x :: xs, ps, h => by
    unfold mapO at h
    cases e1 : toPy S k x with
    | none => simp [e1] at h
    | some p =>
      cases e2 : mapO (toPy S k) xs with
      | none => simp [e1, e2] at h
      | some q =>
        simp [e1, e2] at h
        cases h
        have h1 := toPy_dep k x p e1
        have h2 := toPys_dep k xs q e2
        exact by simp [PyData.depthAll]; omega
end
theorem toPy_shaped {S : Store} {d : D} {p : PyData} (h : toPy S 64 d = some p) (c : p.canLay0 = true) : SeqAt.shaped p = true := by
  have := toPy_dep 64 d p h
  show (p.canLay0 && decide (p.depth ≤ 64)) = true
  rw [c, decide_eq_true this]
  rfl
theorem eqPy_of {S : Store} {d e : D} {p q : PyData} (h1 : toPy S 64 d = some p) (h2 : toPy S 64 e = some q) (c1 : p.canLay0 = true) (c2 : q.canLay0 = true) : eqPy S d e = some (PyData.eqv p q) := by
  unfold eqPy
  simp only [h1, h2]
  rw [if_pos ⟨toPy_shaped h1 c1, toPy_shaped h2 c2⟩]
theorem eqO_of {S : Store} {d e : D} {p q : PyData} (h1 : toPy S 64 d = some p) (h2 : toPy S 64 e = some q) (c1 : p.canLay0 = true) (c2 : q.canLay0 = true) : eqO S d e = some (PyData.eqv p q) := by
  unfold eqO
  split
  · simp only [toPy] at h1 h2
    cases h1
    cases h2
    simp [PyData.eqv]
    rfl
  · simp only [toPy] at h1 h2; cases h1; cases h2; rfl
  · simp only [toPy] at h1 h2; cases h1; cases h2; rfl
  · simp only [toPy] at h1 h2; cases h1; cases h2; rfl
  · simp only [toPy] at h1 h2; cases h1; cases h2; rfl
  · simp only [toPy] at h1 h2; cases h1; cases h2; rfl
  · simp only [toPy] at h1 h2; cases h1; cases h2; rfl
  · exact eqPy_of h1 h2 c1 c2
theorem eqD_of {S : Store} {d e : D} {p q : PyData} (h1 : toPy S 64 d = some p) (h2 : toPy S 64 e = some q) (c1 : p.canLay0 = true) (c2 : q.canLay0 = true) : eqD d e S = .ok (PyData.eqv p q) S := by
  unfold eqD
  simp only [eqO_of h1 h2 c1 c2]
theorem neD_of {S : Store} {d e : D} {p q : PyData} (h1 : toPy S 64 d = some p) (h2 : toPy S 64 e = some q) (c1 : p.canLay0 = true) (c2 : q.canLay0 = true) : neD d e S = .ok (!PyData.eqv p q) S := by
  unfold neD
  simp only [eqO_of h1 h2 c1 c2]
theorem eqLs_of {S : Store} {xs ys : List D} {ps qs : List PyData} (h1 : mapO (toPy S 63) xs = some ps) (h2 : mapO (toPy S 63) ys = some qs) (c1 : PyData.canLayAll0 ps = true) (c2 : PyData.canLayAll0 qs = true) : eqLs S xs ys = some (PyData.eqvAll ps qs) := by
  have a1 := toPys_dep 63 xs ps h1
  have a2 := toPys_dep 63 ys qs h2
  unfold eqLs
  simp only [h1, h2]
  rw [if_pos]
  · rw [PyData.eqv]
  · constructor
    · show (PyData.canLay0 (.list ps) && decide (PyData.depth (.list ps) ≤ 64)) = true
      simp [PyData.canLay0, PyData.depth, c1]
      omega
    · show (PyData.canLay0 (.list qs) && decide (PyData.depth (.list qs) ≤ 64)) = true
      simp [PyData.canLay0, PyData.depth, c2]
      omega
@[simp] theorem toPy_non (S : Store) (k : Nat) : toPy S k .non = some .none := by unfold toPy; cases k <;> rfl
@[simp] theorem toPy_bl (S : Store) (k : Nat) (b : Bool) : toPy S k (.bl b) = some (.bool b) := by unfold toPy; cases k <;> rfl
@[simp] theorem toPy_int (S : Store) (k : Nat) (i : Int) : toPy S k (.int i) = some (.int i) := by unfold toPy; cases k <;> rfl
@[simp] theorem toPy_str (S : Store) (k : Nat) (x : Str) : toPy S k (.str x) = some (.str x) := by unfold toPy; cases k <;> rfl
@[simp] theorem toPy_exn (S : Store) (k : Nat) (a : Addr) : toPy S k (.exn a) = none := by unfold toPy; cases k <;> rfl
@[simp] theorem toPy_sgn (S : Store) (k : Nat) (c : Nat) : toPy S k (sgn c) = some (.str ⟨#[c]⟩) := toPy_str S k _
@[simp] theorem toPy_tup (S : Store) (k : Nat) (xs : List D) : toPy S (k + 1) (.tup xs) = (mapO (toPy S k) xs).map .tuple := (rfl)
@[simp] theorem toPy_lis (S : Store) (k : Nat) (xs : List D) : toPy S (k + 1) (.lis xs) = (mapO (toPy S k) xs).map .list := (rfl)
theorem toPy_ref {S : Store} {n : Nat} {xs : List D} (h : S[n]? = some (.lst xs)) (k : Nat) : toPy S (k + 1) (.ref n) = (mapO (toPy S k) xs).map .list := by
  conv => lhs; unfold toPy
  simp only [lstAt_of h]
@[simp] theorem mapO_nil {α β : Type} (f : α → Option β) : mapO f [] = some [] := (rfl)
@[simp] theorem mapO_cons {α β : Type} (f : α → Option β) (x : α) (xs : List α) : mapO f (x :: xs) = match f x, mapO f xs with
  | some y, some ys => some (y :: ys)
  | _, _ => none := (rfl)
theorem eqvAll_nil (ps : List PyData) : PyData.eqvAll ps [] = ps.isEmpty := by cases ps <;> simp [PyData.eqvAll]
/-- loops -/
theorem forS_inv {chk : Store → Prop} {t : MT} {b : MS} {Q : Fl × Loc → Store → Prop} (I : Nat → Loc → Store → Prop) {ds : List D} {l : Loc} {S : Store} (h0 : I 0 l S) (hc : ∀ k l S, I k l S → chk S)
    (hs : ∀ k d l S, I k l S → ds[k]? = some d → Ret (t d l S) fun l1 S1 => Ret (b l1 S1) fun p S2 => match p.1 with
      | .nx => I (k + 1) p.2 S2
      | .ct => I (k + 1) p.2 S2
      | .bk => Q (.nx, p.2) S2
      | .rt _ => Q p S2) (he : ∀ l S, I ds.length l S → Q (.nx, l) S) : Ret (forL chk t b ds l S) Q := by
  have := forL_inv I hc hs he ds.length 0 l S (by omega) (by omega) h0
  rwa [List.drop_zero] at this
@[simp] theorem ofString_inj (a b : String) : Str.ofString a = Str.ofString b ↔ a = b := by
  refine ⟨fun h => ?_, fun h => by rw [h]⟩
  have := congrArg cs h
  rw [cs_of, cs_of] at this
  have inj : ∀ l m : List Char, l.map Char.toNat = m.map Char.toNat → l = m := by
    intro l
    induction l with
    | nil => intro m h; cases m with
      | nil => rfl
      | cons c m => simp at h
    | cons a l ih => intro m h; cases m with
      | nil => simp at h
      | cons c m =>
        simp at h
        rw [Char.toNat_inj.mp h.1, ih m h.2]
  exact String.toList_inj.mp (inj _ _ this)
theorem x_ix (d e : D) (S : Store) : ixD d e S = match ixO S d e with
  | some x => .ok x S
  | none => .bad := (rfl)
theorem x_ixD {d e x : D} {S : Store} (h : ixO S d e = some x) : ixD d e S = .ok x S := by unfold ixD; rw [h]
@[simp] theorem x_eqI (i j : Int) (S : Store) : eqD (.int i) (.int j) S = .ok (decide (i = j)) S := by
  rw [eqD_of (p := .int i) (q := .int j) rfl rfl rfl rfl]
  simp [PyData.eqv]
  rfl
@[simp] theorem x_neI (i j : Int) (S : Store) : neD (.int i) (.int j) S = .ok (!decide (i = j)) S := by
  rw [neD_of (p := .int i) (q := .int j) rfl rfl rfl rfl]
  simp [PyData.eqv]
  rfl
@[simp] theorem x_slT (z : Str) (lo hi : Option Int) (S : Store) : sliceD (.str z) lo hi S = if z.length ≤ sizeLine then .ok (.str (cutS z lo hi)) S else .bad := (rfl)
theorem cs_cut {z : Str} {lo hi : Option Int} {c : Nat} (h : c ∈ cs (cutS z lo hi)) : c ∈ cs z := by
  have h : c ∈ ((cs z).drop (HT.sIx z.length 0 lo)).take (HT.sIx z.length z.length hi - HT.sIx z.length 0 lo) := h
  exact List.mem_of_mem_drop (List.mem_of_mem_take h)
theorem joinL_one : ∀ l : List Nat, TL.joinL [] (l.map fun c => [c]) = l
  | [] => rfl
  | [c] => rfl
  | c :: d :: l => by
    have := joinL_one (d :: l)
    simp only [List.map_cons] at this ⊢
    unfold TL.joinL
    rw [this]
    rfl
theorem cs_join1 (l : List Nat) : cs (Str.join (Str.ofString "") (l.map fun c => (⟨#[c]⟩ : Str))) = l := by
  rw [cs_join, cs_of, List.map_map]
  exact joinL_one l
theorem strO_sgns (l : List Nat) : mapO strO (l.map sgn) = some (l.map fun c => (⟨#[c]⟩ : Str)) := mapO_some (f := strO) (g := sgn) (h := fun c => (⟨#[c]⟩ : Str)) (fun _ => rfl) l
theorem sum_ones (l : List Nat) : ((l.map fun c => (⟨#[c]⟩ : Str)).map (·.length)).sum = l.length := by
  induction l with
  | nil => rfl
  | cons c l ih =>
    simp only [List.map_cons, List.sum_cons, ih, List.length_cons]
    have : (⟨#[c]⟩ : Str).length = 1 := rfl
    omega
/-- ''.join of signs -/
theorem joinN_signs {m : MA} {l : Loc} {S S1 : Store} {ks : List Nat} (h : m l S = .ok (ks.map sgn) S1) (hz : ks.length ≤ 16777216) : ∃ x, joinN (conE (.str (Str.ofString ""))) m l S = .ok (.str x) S1 ∧ cs x = ks := by
  refine ⟨Str.join (Str.ofString "") (ks.map fun c => (⟨#[c]⟩ : Str)), ?_, cs_join1 ks⟩
  have e : (Str.ofString "").length = 0 := rfl
  simp only [x_joinN, x_con, R.bind_ok, h, x_strO, strO_sgns, sum_ones, e, Nat.mul_zero, Nat.add_zero]
  rw [if_pos hz]
@[simp] theorem len_app (x y : Str) : (x ++ y).length = x.length + y.length := by rw [← cs_len, cs_app, List.length_append, cs_len, cs_len]
theorem len_of (s : String) : (Str.ofString s).length = s.toList.length := by rw [← cs_len, cs_of, List.length_map]
theorem atI_mem {α : Type} {xs : List α} {i : Int} (h0 : 0 ≤ i) (h1 : i < xs.length) : ∃ u ∈ xs, atI xs i = some u := by
  obtain ⟨k, rfl⟩ : ∃ k : Nat, i = k := ⟨i.toNat, by omega⟩
  have hk : k < xs.length := by omega
  exact ⟨xs[k], List.getElem_mem hk, L2.atI_nat (List.getElem?_eq_getElem hk)⟩
@[simp] theorem x_rng1 {j : Int} {S : Store} (h1 : -4611686018427387904 ≤ j) (h2 : j < 4611686018427387904) : rng1 [.int j] S = .ok (intsFrom 0 j.toNat, still) S := if_pos ⟨by omega, by omega⟩
@[simp] theorem x_rng2 {i j : Int} {S : Store} (h3 : -4611686018427387904 ≤ i) (h4 : i < 4611686018427387904) (h1 : -4611686018427387904 ≤ j) (h2 : j < 4611686018427387904) : rng2 [.int i, .int j] S = .ok (intsFrom i (j - i).toNat, still) S := if_pos ⟨by omega, by omega, by omega, by omega⟩
theorem ints_at {lo : Int} {n k : Nat} {d : D} (h : (intsFrom lo n)[k]? = some d) : k < n ∧ d = .int (lo + (k : Nat)) := by
  unfold intsFrom at h
  have hk := (List.getElem?_eq_some_iff.mp h).1
  rw [List.length_map, List.length_range] at hk
  rw [List.getElem?_map, List.getElem?_range hk] at h
  cases h
  exact ⟨hk, rfl⟩
@[simp] theorem x_newC (c : Cell) (S : Store) : newC c S = .ok (.ref S.length) (S ++ [c]) := (rfl)
theorem x_addR {S : Store} {n m : Nat} {xs ys : List D} (h1 : S[n]? = some (.lst xs)) (h2 : S[m]? = some (.lst ys)) (h : xs.length + ys.length ≤ 16777216) : addD (.ref n) (.ref m) S = .ok (.ref S.length) (S ++ [.lst (xs ++ ys)]) := by
  unfold addD
  simp only [lstAt_of h1, lstAt_of h2]
  rw [if_pos (show _ ≤ sizeLine from h)]
  rfl
theorem x_srcR {S : Store} {n : Nat} {xs : List D} (h : S[n]? = some (.lst xs)) : srcD (.ref n) S = .ok (xs, fun S' => lstAt S' n = some xs) S := by
  unfold srcD
  simp only [lstAt_of h]
theorem at_app {S T : Store} {n : Nat} {c : Cell} (h : S[n]? = some c) : (S ++ T)[n]? = some c := by
  rw [List.getElem?_append_left (List.getElem?_eq_some_iff.mp h).1]
  exact h
theorem at_end {S : Store} {c : Cell} : (S ++ [c])[S.length]? = some c := by simp
/-- the text of a number -/
theorem num_text (n : Int) (h0 : 0 ≤ n) (k : Nat) (hk : 0 < k) (h1 : n < 10 ^ k) : ∃ x : Str, Str.ofString (toString n) = x ∧ x.length ≤ k ∧ ∀ c ∈ cs x, 48 ≤ c ∧ c ≤ 57 := by
  obtain ⟨m, rfl⟩ : ∃ m : Nat, n = m := ⟨n.toNat, by omega⟩
  have hm : m < 10 ^ k := by exact_mod_cast h1
  refine ⟨_, rfl, ?_, ?_⟩
  · rw [← cs_len, cs, TL.tl_num]
    exact TL.numL_len hk hm
  · rw [cs, TL.tl_num]
    exact TL.numL_digits m
end ML

set_option Elab.async false
set_option linter.all false
set_option maxRecDepth 100000
set_option autoImplicit false
/-! ML13: more reckoning. -/
namespace ML
open PySem PySem.Spec L2

/-- a text of signs -/
def mkS (w : List Nat) : Str := ⟨w.toArray⟩
@[simp] theorem cs_mkS (w : List Nat) : cs (mkS w) = w := by
  show w.toArray.toList = w
  simp
theorem mkS_cs (x : Str) : mkS (cs x) = x := cs_ext (cs_mkS _)
@[simp] theorem mkS_len (w : List Nat) : (mkS w).length = w.length := by rw [← cs_len, cs_mkS]
theorem mkS_of (s : String) : Str.ofString s = mkS (s.toList.map Char.toNat) := cs_ext (by rw [cs_of, cs_mkS])
theorem mkS_inj {a b : List Nat} : mkS a = mkS b ↔ a = b := ⟨fun h => by have := congrArg cs h; rwa [cs_mkS, cs_mkS] at this, fun h => by rw [h]⟩
theorem mkS_app (a b : List Nat) : mkS a ++ mkS b = mkS (a ++ b) := cs_ext (by rw [cs_app, cs_mkS, cs_mkS, cs_mkS])
theorem sgn_mk (c : Nat) : sgn c = .str (mkS [c]) := rfl
theorem x_neG (c : Nat) (y : Str) (S : Store) : neD (sgn c) (.str y) S = .ok (!decide ([c] = cs y)) S := by
  rw [sgn_mk, x_neT]
  congr 2
  refine decide_eq_decide.mpr ⟨fun h => ?_, fun h => cs_ext ?_⟩
  · rw [← h, cs_mkS]
  · rw [cs_mkS]; exact h
@[simp] theorem x_ordG (c : Nat) (S : Store) : ordV [sgn c] S = .ok (.int c) S := (rfl)
@[simp] theorem lstAt_end (T : Store) (xs : List D) : lstAt (T ++ [.lst xs]) T.length = some xs := lstAt_of (by simp)
@[simp] theorem set_end (T : Store) (c d : Cell) : (T ++ [c]).set T.length d = T ++ [d] := by
  rw [List.set_append_right _ _ (Nat.le_refl _)]
  simp
theorem x_append {S : Store} {n : Nat} {xs : List D} {d : D} (h : lstAt S n = some xs) (hz : xs.length < 16777216) : appendM (.ref n) [d] S = .ok .non (S.set n (.lst (xs ++ [d]))) := by
  unfold appendM
  simp only [h]
  exact if_pos hz
@[simp] theorem x_lstOfR (S : Store) (n : Nat) : lstOf S (.ref n) = lstAt S n := (rfl)
theorem sIx_of {n d : Nat} {k : Nat} : HT.sIx n d (some (k : Int)) = min k n := HT.sIx_nat n d k
theorem cs_take (z : Str) (k : Nat) : cs (cutS z none (some (k : Int))) = (cs z).take k := by
  have h : cs (cutS z none (some (k : Int))) = ((cs z).drop (HT.sIx z.length 0 none)).take (HT.sIx z.length z.length (some (k : Int)) - HT.sIx z.length 0 none) := rfl
  rw [h, sIx_of, HT.sIx_none, List.drop_zero, Nat.sub_zero, ← cs_len, ← List.take_take, List.take_length]
theorem cs_drop (z : Str) (k : Nat) : cs (cutS z (some (k : Int)) none) = (cs z).drop k := by
  have h : cs (cutS z (some (k : Int)) none) = ((cs z).drop (HT.sIx z.length 0 (some (k : Int)))).take (HT.sIx z.length z.length none - HT.sIx z.length 0 (some (k : Int))) := rfl
  rw [h, sIx_of, HT.sIx_none, ← cs_len, List.take_of_length_le (by rw [List.length_drop]; exact Nat.le_refl _)]
  by_cases q : k ≤ (cs z).length
  · rw [Nat.min_eq_left q]
  · rw [Nat.min_eq_right (by omega), List.drop_length, List.drop_of_length_le (by omega)]
theorem cutD_take (xs : List D) (k : Nat) : cutD xs none (some (k : Int)) = xs.take k := by
  unfold cutD
  rw [sIx_of, HT.sIx_none, List.drop_zero, Nat.sub_zero, ← List.take_take, List.take_length]
theorem cutD_drop (xs : List D) (k : Nat) : cutD xs (some (k : Int)) none = xs.drop k := by
  unfold cutD
  rw [sIx_of, HT.sIx_none, List.take_of_length_le (by rw [List.length_drop]; exact Nat.le_refl _)]
  by_cases q : k ≤ xs.length
  · rw [Nat.min_eq_left q]
  · rw [Nat.min_eq_right (by omega), List.drop_length, List.drop_of_length_le (by omega)]
/-- texts as things -/
def strD (w : List Nat) : D := .str (mkS w)
def okT (w : List Nat) : Prop := ∀ c ∈ w, c < 1114112
theorem lay_str {w : List Nat} (h : okT w) : (PyData.str (mkS w)).canLay0 = true := by
  simp only [PyData.canLay0, PyData.strOk, mkS]
  simpa [okT] using h
theorem lay_strs : ∀ {ws : List (List Nat)}, (∀ w ∈ ws, okT w) → PyData.canLayAll0 (ws.map fun w => PyData.str (mkS w)) = true
  | [], _ => rfl
  | w :: ws, h => by
    rw [List.map_cons, PyData.canLayAll0, lay_str (h w List.mem_cons_self), lay_strs fun v hv => h v (List.mem_cons_of_mem _ hv)]
    rfl
theorem eqv_strs : ∀ (ws vs : List (List Nat)), PyData.eqvAll (ws.map fun w => PyData.str (mkS w)) (vs.map fun w => PyData.str (mkS w)) = decide (ws = vs)
  | [], [] => by simp [PyData.eqvAll]
  | [], v :: vs => by simp [PyData.eqvAll]
  | w :: ws, [] => by simp [PyData.eqvAll]
  | w :: ws, v :: vs => by
    have e : (mkS w == mkS v) = decide (w = v) := by
      by_cases q : w = v
      · subst q; simp
      · rw [decide_eq_false q]
        exact beq_eq_false_iff_ne.mpr fun z => q (mkS_inj.mp z)
    simp [PyData.eqvAll, PyData.eqv, eqv_strs ws vs, e]
theorem toPy_strs {S : Store} {n : Nat} {ws : List (List Nat)} (h : S[n]? = some (.lst (ws.map strD))) (k : Nat) : toPy S (k + 1) (.ref n) = some (.list (ws.map fun w => PyData.str (mkS w))) := by
  rw [toPy_ref h, mapO_some (f := toPy S k) (g := strD) (h := fun w => PyData.str (mkS w)) (fun w => toPy_str S k _)]
  rfl
theorem x_eqStrs {S : Store} {n m : Nat} {ws vs : List (List Nat)} (h1 : S[n]? = some (.lst (ws.map strD))) (h2 : S[m]? = some (.lst (vs.map strD))) (k1 : ∀ w ∈ ws, okT w) (k2 : ∀ w ∈ vs, okT w) : eqD (.ref n) (.ref m) S = .ok (decide (ws = vs)) S := by
  rw [eqD_of (toPy_strs h1 63) (toPy_strs h2 63) (by rw [PyData.canLay0]; exact lay_strs k1) (by rw [PyData.canLay0]; exact lay_strs k2), PyData.eqv, eqv_strs]
theorem x_neStrs {S : Store} {n m : Nat} {ws vs : List (List Nat)} (h1 : S[n]? = some (.lst (ws.map strD))) (h2 : S[m]? = some (.lst (vs.map strD))) (k1 : ∀ w ∈ ws, okT w) (k2 : ∀ w ∈ vs, okT w) : neD (.ref n) (.ref m) S = .ok (!decide (ws = vs)) S := by
  rw [neD_of (toPy_strs h1 63) (toPy_strs h2 63) (by rw [PyData.canLay0]; exact lay_strs k1) (by rw [PyData.canLay0]; exact lay_strs k2), PyData.eqv, eqv_strs]
theorem strD_one (c : Nat) : strD [c] = sgn c := rfl
theorem strD_nil : D.str (Str.ofString "") = strD [] := congrArg D.str (mkS_of "")
theorem x_neD (w : List Nat) (y : Str) (S : Store) : neD (strD w) (.str y) S = .ok (!decide (w = cs y)) S := by
  show neD (.str (mkS w)) (.str y) S = _
  rw [x_neT]
  congr 2
  exact decide_eq_decide.mpr ⟨fun h => by rw [← h, cs_mkS], fun h => cs_ext (by rw [cs_mkS]; exact h)⟩
theorem x_neDD (w v : List Nat) (S : Store) : neD (strD w) (strD v) S = .ok (!decide (w = v)) S := by
  have := x_neD w (mkS v) S
  rwa [cs_mkS] at this
theorem x_addDG (w : List Nat) (c : Nat) (S : Store) : addD (strD w) (sgn c) S = if w.length + 1 ≤ sizeLine then .ok (strD (w ++ [c])) S else .bad := by
  show addD (.str (mkS w)) (.str (mkS [c])) S = _
  rw [x_addT, mkS_app, mkS_len, mkS_len]
  rfl
theorem x_addDD (w v : List Nat) (S : Store) : addD (strD w) (strD v) S = if w.length + v.length ≤ sizeLine then .ok (strD (w ++ v)) S else .bad := by
  show addD (.str (mkS w)) (.str (mkS v)) S = _
  rw [x_addT, mkS_app, mkS_len, mkS_len]
  rfl
theorem x_lenD {w : List Nat} {S : Store} (h : w.length ≤ 16777216) : lenV [strD w] S = .ok (.int w.length) S := by
  show lenV [.str (mkS w)] S = _
  rw [x_lenT, mkS_len, if_pos (show _ ≤ sizeLine from h)]
theorem x_slTake {w : List Nat} {k : Nat} {S : Store} (h : w.length ≤ 16777216) : sliceD (strD w) none (some (k : Int)) S = .ok (strD (w.take k)) S := by
  show sliceD (.str (mkS w)) none (some (k : Int)) S = _
  rw [x_slT, mkS_len, if_pos (show _ ≤ sizeLine from h)]
  have e : cutS (mkS w) none (some (k : Int)) = mkS (w.take k) := cs_ext (by rw [cs_take, cs_mkS, cs_mkS])
  rw [e]
  rfl
theorem x_slDrop {w : List Nat} {k : Nat} {S : Store} (h : w.length ≤ 16777216) : sliceD (strD w) (some (k : Int)) none S = .ok (strD (w.drop k)) S := by
  show sliceD (.str (mkS w)) (some (k : Int)) none S = _
  rw [x_slT, mkS_len, if_pos (show _ ≤ sizeLine from h)]
  have e : cutS (mkS w) (some (k : Int)) none = mkS (w.drop k) := cs_ext (by rw [cs_drop, cs_mkS, cs_mkS])
  rw [e]
  rfl
theorem x_slR {S : Store} {n k : Nat} {xs : List D} (h : lstAt S n = some xs) : sliceD (.ref n) none (some (k : Int)) S = .ok (.ref S.length) (S ++ [.lst (xs.take k)]) := by
  unfold sliceD
  simp only [x_lstOfR, h, cutD_take]
  rfl
theorem x_slRD {S : Store} {n k : Nat} {xs : List D} (h : lstAt S n = some xs) : sliceD (.ref n) (some (k : Int)) none S = .ok (.ref S.length) (S ++ [.lst (xs.drop k)]) := by
  unfold sliceD
  simp only [x_lstOfR, h, cutD_drop]
  rfl
/-- a try that catches -/
theorem catch_ok {hit : Nat → Option Bool} {i : Nat} {mb : MS} {mh : Addr → Exn → MS} {l : Loc} {S S1 : Store} {p : Fl × Loc} (h : mb l S = .ok p S1) : catchS hit i mb mh l S = .ok p S1 := by
  unfold catchS
  rw [h]
theorem catch_ex {hit : Nat → Option Bool} {i : Nat} {mb : MS} {mh : Addr → Exn → MS} {l : Loc} {S S1 : Store} {x : Exn} {r : R (Fl × Loc)} (h : mb l S = .ex x S1) (hh : hit x.c = some true) (hr : ∀ a, (goneS i (mh a x (l.set i (some (.exn a))) S1)).noex = r) : catchS hit i mb mh l S = r := by
  unfold catchS
  rw [h]
  simp only [hh]
  exact same_of hr
@[simp] theorem x_raiseS (k : Nat) (l : Loc) (S : Store) : raiseS k l S = .ex ⟨k, []⟩ S := (rfl)
@[simp] theorem x_goneOk (i : Nat) (p : Fl × Loc) (S : Store) : goneS i (.ok p S) = .ok (p.1, p.2.set i none) S := (rfl)
@[simp] theorem x_isX (t : Bool) (a : Addr) (m : ME) (l : Loc) (S : Store) : isX (some t) a m l S = (m l S).bind fun d S1 => match d with
    | .exn b => if b = a then .ok t S1 else .bad
    | _ => .bad := (rfl)
theorem x_rep {x : Str} {n : Int} {S : Store} (h : 2 ≤ n) (h1 : 0 < x.length) (h2 : n < 4294967296) (h3 : x.length * n.toNat ≤ 16777216) : mulD (.str x) (.int n) S = .ok (.str (repS x n.toNat)) S := by
  show (if n ≤ 0 ∧ -(2 ^ 63) ≤ n then R.ok (D.str Str.empty) S else if n = 1 then R.ok (D.str x) S else if 2 ≤ n ∧ 0 < x.length ∧ n < 2 ^ 32 ∧ x.length * n.toNat ≤ 16777216 then R.ok (D.str (repS x n.toNat)) S else .bad) = _
  rw [if_neg (by omega), if_neg (by omega), if_pos ⟨h, h1, by omega, h3⟩]
theorem cs_rep (x : Str) (n : Nat) : cs (repS x n) = (List.replicate n (cs x)).flatten := rep_cs x n
theorem repS_D (x : Str) (n : Nat) : D.str (repS x n) = strD (List.replicate n (cs x)).flatten := by
  show _ = D.str (mkS _)
  rw [← cs_rep, mkS_cs]
end ML

set_option Elab.async false
set_option linter.all false
set_option maxRecDepth 100000
set_option autoImplicit false
/-! ML14: instances: made, asked, told. -/
namespace ML
open PySem PySem.Spec L2

/-- the turns that a while has -/
def FU : Nat := 1000000
structure MkM (P : Program) (w : World) (K : PySem.W.Frag) (mg : Str → Option Value) (base : Heap) (cA : Nat → Addr) (k : Nat) (x : Str) (c n : Nat) (G : List D → Store → R D) : Prop where
  ex : ∃ f fd ps, mg x = some (.ref (cA c)) ∧ Mk K (cA c) f ∧ Binds K fd ps [] ∧ FnOk P w K mg base (L2.CX P w) k f fd ps (spM K cA G n)
structure MtM (P : Program) (w : World) (K : PySem.W.Frag) (mg : Str → Option Value) (base : Heap) (cA : Nat → Addr) (k : Nat) (m : Str) (c n : Nat) (G : List D → Store → R D) : Prop where
  ex : ∃ f fd ps, Cls K (cA c) ∧ Meth K (cA c) m f ∧ Binds K fd ps [] ∧ FnOk P w K mg base (L2.CX P w) k f fd ps (spM K cA G n)
abbrev Tbl := List (Nat × (List D → Store → R D))
/-- the classes that have the method -/
def MtL (P : Program) (w : World) (K : PySem.W.Frag) (mg : Str → Option Value) (base : Heap) (cA : Nat → Addr) (j : Nat) (m : Str) (n : Nat) : Tbl → Prop
  | [] => True
  | p :: r => (∃ k, k ≤ j ∧ MtM P w K mg base cA k m p.1 n p.2) ∧ MtL P w K mg base cA j m n r
def ClsL (K : PySem.W.Frag) (cA : Nat → Addr) (f : Str) : List Nat → Prop
  | [] => True
  | c :: r => (Cls K (cA c) ∧ NoAttr K (cA c) f) ∧ ClsL K cA f r
theorem ClsL.all {K : PySem.W.Frag} {cA : Nat → Addr} {f : Str} : ∀ {cs : List Nat}, ClsL K cA f cs → ∀ c ∈ cs, Cls K (cA c) ∧ NoAttr K (cA c) f
  | d :: r, h, c, hc => by
    rcases List.mem_cons.mp hc with e | e
    · subst e; exact h.1
    · exact ClsL.all h.2 c e
def makeE (c n : Nat) (G : List D → Store → R D) (m : MA) : ME := fun l S => (m l S).bind fun ds S1 => if ds.length + 1 = n then (G (.ref S1.length :: ds) (S1 ++ [.ins c []])).bind fun d S2 => match d with
  | .non => .ok (.ref S1.length) S2
  | _ => .bad else .bad
def tblAt : Tbl → Nat → Option (List D → Store → R D)
  | [], _ => none
  | p :: r, c => if p.1 = c then some p.2 else tblAt r c
def methE (m : Str) (n : Nat) (tbl : Tbl) (o : ME) (a : MA) : ME := fun l S => (o l S).noex.bind fun d S1 => match d with
  | .ref i => match insAt S1 i with
    | some (c, fs) => if fs.lookup m = none then (match tblAt tbl c with
      | some G => (a l S1).bind fun ds S2 => if ds.length + 1 = n then G (d :: ds) S2 else .bad
      | none => .bad) else .bad
    | none => .bad
  | _ => .bad
section
variable {X : Cx} {cA : Nat → Addr} {W : XK} {p pos apos : Pos} {x m : Str} {e o : Expr} {es : List Expr} {mo : ME} {ma : MA} {k j n c : Nat} {G : List D → Store → R D} {tbl : Tbl}
theorem make_of {σ : L2.St} {H : Hp} {Q : VK} (h : tE X.K cA W (makeE c n G ma) σ H Q) : tMake (cA c) (spM X.K cA G n) [] W (tAs X.K cA W ma) σ H Q :=
  (bind1 (rep1 := rVs X.K) st_V h).imp fun vs H1 h => by
    obtain ⟨ρ, S, ds, hS, hr, h⟩ := h
    split at h
    · rename_i hn
      intro y dx hy hdx ne
      have E1 : Ext ρ H1 ρ (upd H1 dx (.own y)) := Ext.new hdx
      have hy2 : (upd H1 dx (.own y)) y = none := by rw [upd_ne (Ne.symm ne)]; exact hy
      have hS1 := hS.new (o := .own y) hdx
      have E2 : Ext ρ (upd H1 dx (.own y)) (ρ ++ [y]) (upd (upd H1 dx (.own y)) y (.ins (cA c) dx [])) := Ext.alloc hy2
      have hS2 : Reps X.K cA (ρ ++ [y]) (upd (upd H1 dx (.own y)) y (.ins (cA c) dx [])) (S ++ [.ins c []]) := (hS1.new hy2).push (hS1.free hy2) ⟨dx, [], upd_same, by unfold RepP; rfl⟩
      have hrp : (ρ ++ [y])[S.length]? = some y := by rw [← hS.len, List.getElem?_append_right (Nat.le_refl _)]; simp
      refine ⟨by rw [List.append_nil, List.length_cons, RepVs.length hr]; exact hn, ρ ++ [y], S ++ [.ins c []], .ref S.length :: ds, hS2, .cons ?_ ?_, (After.step (rep := rV X.K) h (E1.trans E2)).imp fun v H2 hq => ?_⟩
      · unfold RepV
        exact ⟨y, hrp, rfl⟩
      · rw [List.append_nil]
        exact (hr.ext E1).ext E2
      · obtain ⟨ρ3, S3, d, e3, hS3, hd, h⟩ := hq
        split at h
        · unfold rV RepV at hd
          refine ⟨hd, h ρ3 H2 _ ((E1.trans E2).trans e3) hS3 ?_⟩
          show RepV X.K ρ3 H2 (.ref S.length) (.ref y)
          unfold RepV
          obtain ⟨r, er, _⟩ := e3.pre
          refine ⟨y, ?_, rfl⟩
          rw [er, List.getElem?_append_left (List.getElem?_eq_some_iff.mp hrp).1]
          exact hrp
        · exact h.elim
    · exact h.elim
/-- C(e, ..) -/
theorem mmake (M : MkM X.prog X.w X.K X.mg X.base cA k x c n G) (hk : k + 1 ≤ j) (hr : Room j X.A) (hx : Passes (L2.CX X.prog X.w) X W) (hg : Gl X x) (ha : PA X (e :: es) (tAs X.K cA W ma)) (hdb : (x == ("__debug__" : Str)) = false := by decide)
    (he : starEach (e :: es) X.env = (false, eval e X.env) :: starEach es X.env := by rfl) (hpl : (backTo pos (starEach es X.env)).any (·.1) = false := by rfl) : PE X (.Call (.Name x p) (e :: es) [] pos) (tE X.K cA W (makeE c n G ma)) := by
  obtain ⟨f, fd, ps, hm, hM, hb, F⟩ := M.ex
  exact (pe_make hM F (hr.mono hk) hg hm hb .nil hx ha hdb he hpl).imp fun σ H Q h => make_of h
theorem mmake0 (M : MkM X.prog X.w X.K X.mg X.base cA k x c n G) (hk : k + 1 ≤ j) (hr : Room j X.A) (hx : Passes (L2.CX X.prog X.w) X W) (hg : Gl X x) (hdb : (x == ("__debug__" : Str)) = false := by decide) : PE X (.Call (.Name x p) [] [] pos) (tE X.K cA W (makeE c n G nilA)) := by
  obtain ⟨f, fd, ps, hm, hM, hb, F⟩ := M.ex
  refine (pe_make0 hM F (hr.mono hk) hg hm hb .nil hx hdb).imp fun σ H Q h => ?_
  have h' := make_of h
  obtain ⟨ρ, S, l, hS, hl, h2⟩ := h'
  exact After.same (rep := rVs X.K) (a := []) (b := []) h2 hS .nil
theorem tbl_of {P : Program} {w : World} {K : PySem.W.Frag} {mg : Str → Option Value} {base : Heap} : ∀ {tbl : Tbl} {c : Nat} {G : List D → Store → R D}, MtL P w K mg base cA j m n tbl → tblAt tbl c = some G → ∃ k, k ≤ j ∧ MtM P w K mg base cA k m c n G
  | [], c, G, _, e => nomatch e
  | q :: r, c, G, h, e => by
    unfold tblAt at e
    split at e
    · rename_i hc
      cases e
      subst hc
      exact h.1
    · exact tbl_of h.2 e
/-- o.m(e, ..) -/
theorem mmeth {pl : Sem Bool} (T : MtL X.prog X.w X.K X.mg X.base cA j m n tbl) (hr : Room j X.A) (hx : Passes (L2.CX X.prog X.w) X W) (ho : PE X o (tE X.K cA W mo)) (ha : PA X (e :: es) (tAs X.K cA W ma))
    (hst : starEach (e :: es) X.env = (false, eval e X.env) :: starEach es X.env := by rfl) (hpl : (backTo pos (starEach es X.env)).any (·.1) = false := by rfl)
    (ht : eval (.Call (.Attribute o m apos) (e :: es) [] pos) X.env = (do
      let ov ← eval o X.env
      standAt apos.atName
      let (f, first) ← holding [ov] (getMethod ov m pl)
      callWith pos f first (backTo pos (starEach (e :: es) X.env)) (backToKw pos (keywordEach [] X.env))) := by rfl) : PE X (.Call (.Attribute o m apos) (e :: es) [] pos) (tE X.K cA W (methE m n tbl mo ma)) := by
  refine ⟨fun pins s σ H Q I h => ?_⟩
  obtain ⟨ρ, S, l, hS, hl, h⟩ := h
  cases eo : mo l S with
  | ok d S1 =>
    unfold methE at h
    rw [eo] at h
    simp only [R.noex, R.bind_ok] at h
    split at h
    · rename_i i
      split at h
      · rename_i c fs ei
        split at h
        · rename_i hf
          split at h
          · rename_i G eG
            obtain ⟨k, hk, M⟩ := tbl_of T eG
            obtain ⟨f, fd, ps, hC, hM, hb, F⟩ := M.ex
            refine (pe_meth (pl := pl) ho hC hM F (hr.mono hk) hb .nil hx ha hst hpl ht).run pins s σ H Q I ⟨ρ, S, l, hS, hl, ?_⟩
            rw [eo]
            intro ρ1 H1 v e1 hS1 hv
            obtain ⟨a, dx, vs, rfl, _, h1, h2⟩ := rins_rep hS1 hv ei
            refine ⟨a, dx, vs, rfl, h1, fld_none h2 hf, ρ1, S1, l, hS1, hl.ext e1, (After.step (rep := rVs X.K) h e1).imp fun us H2 hq => ?_⟩
            obtain ⟨ρ2, S2, ds, e2, hS2, hr2, h⟩ := hq
            split at h
            · rename_i hn
              refine ⟨by rw [List.append_nil, List.length_cons, RepVs.length hr2]; exact hn, ρ2, S2, .ref i :: ds, hS2, .cons (hv.ext e2) (by rw [List.append_nil]; exact hr2), After.back st_V (e1.trans e2) h⟩
            · exact h.elim
          · exact h.elim
        · exact h.elim
      · exact h.elim
    · exact h.elim
  | ex z S1 =>
    unfold methE at h
    rw [eo] at h
    exact h.elim
  | bad =>
    unfold methE at h
    rw [eo] at h
    exact h.elim
/-- o.m() -/
theorem mmeth0 {pl : Sem Bool} (T : MtL X.prog X.w X.K X.mg X.base cA j m n tbl) (hr : Room j X.A) (hx : Passes (L2.CX X.prog X.w) X W) (ho : PE X o (tE X.K cA W mo))
    (ht : eval (.Call (.Attribute o m apos) [] [] pos) X.env = (do
      let ov ← eval o X.env
      standAt apos.atName
      let (f, first) ← holding [ov] (getMethod ov m pl)
      callWith pos f first (backTo pos (starEach [] X.env)) (backToKw pos (keywordEach [] X.env))) := by rfl) : PE X (.Call (.Attribute o m apos) [] [] pos) (tE X.K cA W (methE m n tbl mo nilA)) := by
  refine ⟨fun pins s σ H Q I h => ?_⟩
  obtain ⟨ρ, S, l, hS, hl, h⟩ := h
  cases eo : mo l S with
  | ok d S1 =>
    unfold methE at h
    rw [eo] at h
    simp only [R.noex, R.bind_ok] at h
    split at h
    · rename_i i
      split at h
      · rename_i c fs ei
        split at h
        · rename_i hf
          split at h
          · rename_i G eG
            obtain ⟨k, hk, M⟩ := tbl_of T eG
            obtain ⟨f, fd, ps, hC, hM, hb, F⟩ := M.ex
            refine (pe_meth0 (pl := pl) ho hC hM F (hr.mono hk) hb .nil hx ht).run pins s σ H Q I ⟨ρ, S, l, hS, hl, ?_⟩
            rw [eo]
            intro ρ1 H1 v e1 hS1 hv
            obtain ⟨a, dx, vs, rfl, _, h1, h2⟩ := rins_rep hS1 hv ei
            refine ⟨a, dx, vs, rfl, h1, fld_none h2 hf, ?_⟩
            have h : After X.K cA W ρ H (rV X.K) (if ([] : List D).length + 1 = n then G [.ref i] S1 else .bad) Q := h
            split at h
            · rename_i hn
              exact ⟨hn, ρ1, S1, [.ref i], hS1, .cons hv .nil, After.back st_V e1 h⟩
            · exact h.elim
          · exact h.elim
        · exact h.elim
      · exact h.elim
    · exact h.elim
  | ex z S1 =>
    unfold methE at h
    rw [eo] at h
    exact h.elim
  | bad =>
    unfold methE at h
    rw [eo] at h
    exact h.elim
end
end ML

set_option Elab.async false
set_option linter.all false
set_option maxRecDepth 100000
set_option autoImplicit false
/-! ML15: what is reached from numbers, by any order of walking; loops. -/
namespace ML
open PySem PySem.Spec L2

inductive Reach (succ : Nat → List Nat) (vs : List Nat) : Nat → Prop where
  | base {k : Nat} (h : k ∈ vs) : Reach succ vs k
  | step {j k : Nat} (h : Reach succ vs j) (e : k ∈ succ j) : Reach succ vs k
/-- the rising list of what is reached -/
def IsCl (succ : Nat → List Nat) (vs L : List Nat) : Prop := L.Pairwise (· < ·) ∧ ∀ k, k ∈ L ↔ Reach succ vs k
theorem rising_eq : ∀ {L M : List Nat}, L.Pairwise (· < ·) → M.Pairwise (· < ·) → (∀ k, k ∈ L ↔ k ∈ M) → L = M := by
  intro L M h1 h2 h
  have n1 : L.Nodup := h1.imp fun h => Nat.ne_of_lt h
  have n2 : M.Nodup := h2.imp fun h => Nat.ne_of_lt h
  have hp : L.Perm M := (List.perm_ext_iff_of_nodup n1 n2).mpr h
  exact hp.eq_of_pairwise (fun a b _ _ h1 h2 => absurd h1 (by omega)) h1 h2
theorem IsCl.uniq {succ : Nat → List Nat} {vs L M : List Nat} (h1 : IsCl succ vs L) (h2 : IsCl succ vs M) : L = M := rising_eq h1.1 h2.1 fun k => (h1.2 k).trans (h2.2 k).symm
/-- numbers as things -/
def intsD (l : List Nat) : List D := l.map fun k : Nat => .int (k : Int)
theorem sort_nat (l : List Nat) : sortI (l.map fun k : Nat => (k : Int)) = (l.mergeSort fun a b => decide (a ≤ b)).map fun k : Nat => (k : Int) := by
  have hp : (l.mergeSort fun a b => decide (a ≤ b)).Perm l := List.mergeSort_perm l _
  have hs : (l.mergeSort fun a b => decide (a ≤ b)).Pairwise (· ≤ ·) := by
    have := List.pairwise_mergeSort (le := fun (a b : Nat) => decide (a ≤ b)) (fun a b c h1 h2 => by simp only [decide_eq_true_eq] at *; omega) (fun a b => by simp only [Bool.or_eq_true, decide_eq_true_eq]; omega) l
    exact this.imp fun h => by simpa using h
  refine (sortI_eq (hp.map _) ?_).symm
  rw [List.pairwise_map]
  exact hs.imp fun h => by omega
theorem sort_nodup {l : List Nat} (h : l.Nodup) : (l.mergeSort fun a b => decide (a ≤ b)).Pairwise (· < ·) := by
  have hp : (l.mergeSort fun a b => decide (a ≤ b)).Perm l := List.mergeSort_perm l _
  have hs : (l.mergeSort fun a b => decide (a ≤ b)).Pairwise (· ≤ ·) := by
    have := List.pairwise_mergeSort (le := fun (a b : Nat) => decide (a ≤ b)) (fun a b c h1 h2 => by simp only [decide_eq_true_eq] at *; omega) (fun a b => by simp only [Bool.or_eq_true, decide_eq_true_eq]; omega) l
    exact this.imp fun h => by simpa using h
  have hn : (l.mergeSort fun a b => decide (a ≤ b)).Nodup := hp.symm.nodup h
  exact (hs.and hn).imp fun ⟨a, b⟩ => by omega
theorem mapO_ints (l : List Nat) : mapO intO (intsD l) = some (l.map fun k : Nat => (k : Int)) := mapO_some (f := intO) (g := fun k : Nat => D.int (k : Int)) (h := fun k : Nat => (k : Int)) (fun _ => rfl) l
theorem sortL_ints (l : List Nat) (S : Store) : sortL (intsD l) S = .ok (intsD (l.mergeSort fun a b => decide (a ≤ b))) S := by
  unfold sortL
  rw [mapO_ints]
  simp only [sort_nat, List.map_map]
  rfl
structure CI (succ : Nat → List Nat) (vs seen td : List Nat) : Prop where
  nd : seen.Nodup
  s1 : ∀ k ∈ seen, Reach succ vs k
  s2 : ∀ k ∈ td, Reach succ vs k
  c0 : ∀ k ∈ vs, k ∈ seen ∨ k ∈ td
  c1 : ∀ j ∈ seen, ∀ k ∈ succ j, k ∈ seen ∨ k ∈ td
section
variable {succ : Nat → List Nat} {vs seen td td' : List Nat} {k : Nat}
theorem CI.start : CI succ vs [] vs := ⟨List.nodup_nil, fun k h => by simp at h, fun k h => .base h, fun k h => .inr h, fun j h => by simp at h⟩
theorem CI.skip (h : CI succ vs seen td) (h1 : ∀ x ∈ td, x ∈ td' ∨ x ∈ seen) (h2 : ∀ x ∈ td', x ∈ td) : CI succ vs seen td' :=
  ⟨h.nd, h.s1, fun x hx => h.s2 x (h2 x hx), fun x hx => (h.c0 x hx).elim .inl fun q => (h1 x q).symm, fun j hj x hx => (h.c1 j hj x hx).elim .inl fun q => (h1 x q).symm⟩
theorem CI.take (h : CI succ vs seen td) (hk : k ∈ td) (hn : k ∉ seen) (h1 : ∀ x ∈ td, x = k ∨ x ∈ td') (h2 : ∀ x ∈ td', x ∈ td ∨ x ∈ succ k) (h3 : ∀ x ∈ succ k, x ∈ td') : CI succ vs (seen ++ [k]) td' := by
  have q : ∀ x, x ∈ td → x ∈ seen ++ [k] ∨ x ∈ td' := fun x hx => (h1 x hx).elim (fun e => .inl (by simp [e])) .inr
  refine ⟨?_, fun x hx => ?_, fun x hx => ?_, fun x hx => ?_, fun j hj x hx => ?_⟩
  · rw [List.nodup_append]
    exact ⟨h.nd, by simp, fun a ha b hb => by simp at hb; subst hb; rintro rfl; exact hn ha⟩
  · rcases List.mem_append.mp hx with hx | hx
    · exact h.s1 x hx
    · simp at hx; subst hx; exact h.s2 _ hk
  · rcases h2 x hx with e | e
    · exact h.s2 x e
    · exact .step (h.s2 k hk) e
  · rcases h.c0 x hx with e | e
    · exact .inl (by simp [e])
    · exact q x e
  · rcases List.mem_append.mp hj with hj | hj
    · rcases h.c1 j hj x hx with e | e
      · exact .inl (by simp [e])
      · exact q x e
    · simp at hj; subst hj
      exact .inr (h3 x hx)
theorem CI.done (h : CI succ vs seen []) : ∀ k, k ∈ seen ↔ Reach succ vs k := fun k => by
  refine ⟨h.s1 k, fun r => ?_⟩
  induction r with
  | base hk => rcases h.c0 _ hk with e | e
               · exact e
               · simp at e
  | step _ e ih => rcases h.c1 _ ih _ e with e | e
                   · exact e
                   · simp at e
theorem CI.cl (h : CI succ vs seen []) : IsCl succ vs (seen.mergeSort fun a b => decide (a ≤ b)) := by
  refine ⟨sort_nodup h.nd, fun k => ?_⟩
  rw [← h.done k]
  exact (List.mergeSort_perm seen _).mem_iff
end
/-- what is not yet seen -/
def un (dom seen : List Nat) : Nat := (dom.filter fun k => decide (k ∉ seen)).length
theorem un_le (dom seen : List Nat) : un dom seen ≤ dom.length := List.length_filter_le _ _
theorem un_mono (dom seen : List Nat) (k : Nat) : un dom (seen ++ [k]) ≤ un dom seen := by
  induction dom with
  | nil => exact Nat.le_refl _
  | cons x dom ih =>
    unfold un at ih ⊢
    simp only [List.filter_cons]
    by_cases h : x ∈ seen
    · simp [h] at ih ⊢
      exact ih
    · by_cases e : x = k
      · simp [h, e] at ih ⊢
        have : ¬ k ∈ seen := by rw [← e]; exact h
        simp [this]
        omega
      · simp [h, e] at ih ⊢
        exact ih
theorem un_take {dom seen : List Nat} {k : Nat} (h : k ∈ dom) (hn : k ∉ seen) : un dom (seen ++ [k]) + 1 ≤ un dom seen := by
  induction dom with
  | nil => simp at h
  | cons x dom ih =>
    have m := un_mono dom seen k
    unfold un at ih m ⊢
    simp only [List.filter_cons]
    by_cases e : x = k
    · subst e
      simp [hn] at m ⊢
      exact m
    · have hm : k ∈ dom := by
        rcases List.mem_cons.mp h with q | q
        · exact absurd q.symm e
        · exact q
      have ih := ih hm
      by_cases hx : x ∈ seen
      · simp [hx] at ih ⊢
        exact ih
      · simp [hx, e] at ih ⊢
        exact ih
/-! stores -/
@[simp] theorem get_mid (S : Store) (c : Cell) (Z : Store) : (S ++ c :: Z)[S.length]? = some c := by simp
theorem get_mid1 (S : Store) (c e : Cell) (Z : Store) : (S ++ c :: e :: Z)[S.length + 1]? = some e := by
  rw [List.getElem?_append_right (by omega)]
  simp
theorem set_mid (S : Store) (c d : Cell) (Z : Store) : (S ++ c :: Z).set S.length d = S ++ d :: Z := by
  rw [List.set_append_right _ _ (Nat.le_refl _)]
  simp
theorem set_mid1 (S : Store) (c e d : Cell) (Z : Store) : (S ++ c :: e :: Z).set (S.length + 1) d = S ++ c :: d :: Z := by
  rw [List.set_append_right _ _ (by omega)]
  simp
theorem x_while {c : MB} {b : MS} {k : Nat} {l : Loc} {S : Store} : whileS c b (k + 1) l S = (c l S).bind fun t S1 => if t = true then (b l S1).bind (againS (whileS c b k)) else .ok (.nx, l) S1 := (rfl)
theorem lookup_eq (f : String) (x : D) (r : List (Str × D)) : List.lookup (Str.ofString f) ((Str.ofString f, x) :: r) = some x := by simp [List.lookup]
theorem beq_of (a b : String) : (Str.ofString a == Str.ofString b) = (a == b) := by
  by_cases h : a = b
  · subst h; simp
  · have h2 : ¬ Str.ofString a = Str.ofString b := fun e => h ((ofString_inj a b).mp e)
    rw [beq_eq_false_iff_ne.mpr h2, beq_eq_false_iff_ne.mpr h]
/-! instances -/
@[simp] theorem x_makeE (c n : Nat) (G : List D → Store → R D) (m : MA) (l : Loc) (S : Store) : makeE c n G m l S = (m l S).bind fun ds S1 => if ds.length + 1 = n then (G (.ref S1.length :: ds) (S1 ++ [.ins c []])).bind fun d S2 => match d with
  | .non => .ok (.ref S1.length) S2
  | _ => .bad else .bad := (rfl)
@[simp] theorem x_methE (m : Str) (n : Nat) (tbl : Tbl) (o : ME) (a : MA) (l : Loc) (S : Store) : methE m n tbl o a l S = (o l S).noex.bind fun d S1 => match d with
  | .ref i => match insAt S1 i with
    | some (c, fs) => if fs.lookup m = none then (match tblAt tbl c with
      | some G => (a l S1).bind fun ds S2 => if ds.length + 1 = n then G (d :: ds) S2 else .bad
      | none => .bad) else .bad
    | none => .bad
  | _ => .bad := (rfl)
@[simp] theorem x_fldS (cs : List Nat) (f : Str) (m v : ME) (l : Loc) (S : Store) : fldS cs f m v l S = (v l S).bind fun y S1 => (m l S1).bind fun d S2 => match d with
  | .ref n => match insAt S2 n with
    | some (c, fs) => if c ∈ cs ∧ fs.length < 1000 then .ok (.nx, l) (S2.set n (.ins c (putD f y fs))) else .bad
    | none => .bad
  | _ => .bad := (rfl)
@[simp] theorem x_tblAt0 (c : Nat) : tblAt [] c = none := (rfl)
@[simp] theorem x_tblAtS (p : Nat × (List D → Store → R D)) (r : Tbl) (c : Nat) : tblAt (p :: r) c = if p.1 = c then some p.2 else tblAt r c := (rfl)
@[simp] theorem insAt_end (S : Store) (c : Nat) (fs : List (Str × D)) : insAt (S ++ [.ins c fs]) S.length = some (c, fs) := insAt_of (by simp)
theorem insAt_app {S T : Store} {n c : Nat} {fs : List (Str × D)} (h : S[n]? = some (.ins c fs)) : insAt (S ++ T) n = some (c, fs) := insAt_of (at_app h)
@[simp] theorem x_dict0 (l : Loc) (S : Store) : dict0 l S = .ok (.ref S.length) (S ++ [.dct []]) := (rfl)
@[simp] theorem x_isN0 (S : Store) : isD .non .non S = .ok true S := (rfl)
theorem x_isN {d : D} (h : d ≠ .non) (S : Store) : isD d .non S = .ok false S := by
  cases d with
  | non => exact absurd rfl h
  | _ => rfl
@[simp] theorem x_inN0 (S : Store) : isNotD .non .non S = .ok false S := (rfl)
theorem x_inN {d : D} (h : d ≠ .non) (S : Store) : isNotD d .non S = .ok true S := by
  cases d with
  | non => exact absurd rfl h
  | _ => rfl
@[simp] theorem x_slU (xs : List D) (lo hi : Option Int) (S : Store) : sliceD (.tup xs) lo hi S = .ok (.tup (cutD xs lo hi)) S := (rfl)
theorem x_pop {S : Store} {n : Nat} {xs : List D} {x : D} (h : lstAt S n = some (xs ++ [x])) : popM (.ref n) [] S = .ok x (S.set n (.lst xs)) := by
  unfold popM
  simp only [h]
  simp
theorem x_popAt0 {S : Store} {n : Nat} {xs : List D} {x : D} (h : lstAt S n = some (x :: xs)) : popAtM (.ref n) [.int 0] S = .ok x (S.set n (.lst xs)) := by
  unfold popAtM
  simp only [h]
  simp
theorem x_extend {S : Store} {n k : Nat} {xs ys : List D} (h : lstAt S n = some xs) (h2 : lstAt S k = some ys) (hz : xs.length + ys.length ≤ 16777216) : extendM (.ref n) [.ref k] S = .ok .non (S.set n (.lst (xs ++ ys))) := by
  unfold extendM
  simp only [h, h2]
  exact if_pos hz
/-- a dict of numbers that are seen -/
def seenD (l : List Nat) : List (Key × D) := l.map fun k : Nat => (.inl (k : Int), .bl true)
theorem seen_look (l : List Nat) (k : Nat) : (dLook (seenD l) (.inl (k : Int))).isSome = decide (k ∈ l) := by
  induction l with
  | nil => rfl
  | cons x l ih =>
    unfold seenD dLook at ih ⊢
    rw [List.map_cons, List.find?_cons]
    by_cases h : x = k
    · subst h; simp
    · have h2 : ¬ ((x : Int) = (k : Int)) := by omega
      have h3 : ¬ ((Sum.inl (x : Int) : Key) = Sum.inl (k : Int)) := fun z => h2 (Sum.inl.inj z)
      simp only [h3, decide_false]
      rw [ih]
      simp [Ne.symm h]
theorem seen_put {l : List Nat} {k : Nat} (h : k ∉ l) : dPut (seenD l) (.inl (k : Int)) (.bl true) = seenD (l ++ [k]) := by
  unfold dPut
  rw [if_neg]
  · simp [seenD]
  · intro q
    rw [List.any_eq_true] at q
    obtain ⟨p, hp, e⟩ := q
    unfold seenD at hp
    obtain ⟨x, hx, rfl⟩ := List.mem_map.mp hp
    have : (Sum.inl (x : Int) : Key) = Sum.inl (k : Int) := of_decide_eq_true e
    have := Sum.inl.inj this
    have : x = k := by omega
    subst this
    exact h hx
def keyD : Key → D
  | .inl i => .int i
  | .inr x => .str x
theorem seen_keys (l : List Nat) : ((seenD l).map fun kv => keyD kv.1) = intsD l := by
  unfold seenD intsD
  rw [List.map_map]
  rfl
theorem x_listDict {S : Store} {n : Nat} {kvs : List (Key × D)} (h : S[n]? = some (.dct kvs)) : listV [.ref n] S = .ok (kvs.map fun kv => keyD kv.1) S := by
  unfold listV
  have h1 : seqOf S (.ref n) = none := by
    show lstAt S n = none
    unfold lstAt
    rw [h]
  simp only [h1, dctAt_of h]
  congr 1
theorem x_listLst {S : Store} {n : Nat} {xs : List D} (h : lstAt S n = some xs) : listV [.ref n] S = .ok xs S := by
  unfold listV
  have h1 : seqOf S (.ref n) = some xs := h
  simp only [h1]
theorem x_ninDict {S : Store} {n k : Nat} {kvs : List (Key × D)} (h : S[n]? = some (.dct kvs)) : notInD (.int (k : Int)) (.ref n) S = .ok (!(dLook kvs (.inl (k : Int))).isSome) S := by
  unfold notInD inO
  have h1 : seqOf S (.ref n) = none := by
    show lstAt S n = none
    unfold lstAt
    rw [h]
  simp only [h1, kvAt_of h, keyO]
theorem x_setDict {S : Store} {n k : Nat} {kvs : List (Key × D)} {v : D} (h : S[n]? = some (.dct kvs)) (hz : kvs.length < 16777216) : setO S (.ref n) (.int (k : Int)) v = some (S.set n (.dct (dPut kvs (.inl (k : Int)) v))) := by
  unfold setO
  simp only [h, keyO]
  exact if_pos hz
theorem mapO_flat (l : List Nat) : mapO flatO (intsD l) = some (l.map fun k : Nat => V.int (k : Int)) := mapO_some (f := flatO) (g := fun k : Nat => D.int (k : Int)) (h := fun k : Nat => V.int (k : Int)) (fun _ => rfl) l
theorem x_ninInts {S : Store} {n k : Nat} {l : List Nat} (h : lstAt S n = some (intsD l)) : notInD (.int (k : Int)) (.ref n) S = .ok (!decide (k ∈ l)) S := by
  unfold notInD inO
  have h1 : seqOf S (.ref n) = some (intsD l) := h
  simp only [h1, mapO_flat, flatO]
  congr 2
  rw [Bool.eq_iff_iff]
  simp [inV, eqV]
  constructor
  · rintro ⟨a, h1, h2⟩
    have : a = k := by omega
    subst this; exact h1
  · intro h; exact ⟨k, h, rfl⟩
theorem x_ixDict {S : Store} {n : Nat} {k : Int} {kvs : List (Key × D)} (h : S[n]? = some (.dct kvs)) : ixO S (.ref n) (.int k) = dLook kvs (.inl k) := by
  unfold ixO
  simp only [h]
theorem toPy_ints {S : Store} {n : Nat} {l : List Nat} (h : S[n]? = some (.lst (intsD l))) (k : Nat) : toPy S (k + 1) (.ref n) = some (.list (l.map fun i : Nat => PyData.int (i : Int))) := by
  rw [toPy_ref h]
  unfold intsD
  rw [mapO_some (f := toPy S k) (g := fun i : Nat => D.int (i : Int)) (h := fun i : Nat => PyData.int (i : Int)) (fun i => toPy_int S k i)]
  rfl
theorem lay_ints : ∀ l : List Nat, PyData.canLayAll0 (l.map fun i : Nat => PyData.int (i : Int)) = true
  | [] => rfl
  | i :: l => by rw [List.map_cons, PyData.canLayAll0, PyData.canLay0, lay_ints l]; rfl
theorem eqv_ints : ∀ l m : List Nat, PyData.eqvAll (l.map fun i : Nat => PyData.int (i : Int)) (m.map fun i : Nat => PyData.int (i : Int)) = decide (l = m)
  | [], [] => by simp [PyData.eqvAll]
  | [], _ :: _ => by simp [PyData.eqvAll]
  | _ :: _, [] => by simp [PyData.eqvAll]
  | i :: l, j :: m => by
    have e : ((i : Int) == (j : Int)) = decide (i = j) := by
      by_cases q : i = j
      · subst q; simp
      · rw [decide_eq_false q]
        exact beq_eq_false_iff_ne.mpr (by omega)
    simp [PyData.eqvAll, PyData.eqv, eqv_ints l m, e]
theorem x_eqInts {S : Store} {n m : Nat} {l k : List Nat} (h1 : S[n]? = some (.lst (intsD l))) (h2 : S[m]? = some (.lst (intsD k))) : eqD (.ref n) (.ref m) S = .ok (decide (l = k)) S := by
  rw [eqD_of (toPy_ints h1 63) (toPy_ints h2 63) (by rw [PyData.canLay0]; exact lay_ints l) (by rw [PyData.canLay0]; exact lay_ints k), PyData.eqv, eqv_ints]
theorem x_neInts {S : Store} {n m : Nat} {l k : List Nat} (h1 : S[n]? = some (.lst (intsD l))) (h2 : S[m]? = some (.lst (intsD k))) : neD (.ref n) (.ref m) S = .ok (!decide (l = k)) S := by
  rw [neD_of (toPy_ints h1 63) (toPy_ints h2 63) (by rw [PyData.canLay0]; exact lay_ints l) (by rw [PyData.canLay0]; exact lay_ints k), PyData.eqv, eqv_ints]
theorem rng_ints (n : Nat) : intsFrom 0 n = intsD (List.range n) := by
  unfold intsFrom intsD
  refine List.map_congr_left fun k _ => ?_
  rw [Int.zero_add]
theorem x_rngO {n : Nat} {S : Store} (h : n ≤ 16777216) : rngO 0 (n : Int) S = .ok (intsD (List.range n)) S := by
  unfold rngO
  rw [if_pos ⟨by omega, by omega, by omega, by omega, by omega⟩, Int.sub_zero, Int.toNat_natCast, rng_ints]
@[simp] theorem x_rngN1 (m : ME) (l : Loc) (S : Store) : rngN1 m l S = (m l S).bind fun d S1 => match intO d with
  | some b => rngO 0 b S1
  | none => .bad := (rfl)
@[simp] theorem x_rngN2 (m n : ME) (l : Loc) (S : Store) : rngN2 m n l S = (m l S).bind fun d S1 => (n l S1).bind fun e S2 => match intO d, intO e with
  | some a, some b => rngO a b S2
  | _, _ => .bad := (rfl)
theorem get_set_ne {S : Store} {i j : Nat} {c : Cell} (h : i ≠ j) : (S.set i c)[j]? = S[j]? := List.getElem?_set_ne h
theorem get_set_at {S : Store} {i : Nat} {c d : Cell} (h : S[i]? = some d) : (S.set i c)[i]? = some c := List.getElem?_set_self (List.getElem?_eq_some_iff.mp h).1
theorem lt_of_at {S : Store} {i : Nat} {c : Cell} (h : S[i]? = some c) : i < S.length := (List.getElem?_eq_some_iff.mp h).1
theorem Reach.lt {succ : Nat → List Nat} {vs : List Nat} {n k : Nat} (h1 : ∀ j ∈ vs, j < n) (h2 : ∀ j < n, ∀ i ∈ succ j, i < n) (h : Reach succ vs k) : k < n := by
  induction h with
  | base h => exact h1 _ h
  | step _ e ih => exact h2 _ ih _ e
theorem IsCl.len {succ : Nat → List Nat} {vs L : List Nat} {n : Nat} (h : IsCl succ vs L) (h1 : ∀ j ∈ vs, j < n) (h2 : ∀ j < n, ∀ i ∈ succ j, i < n) : L.length ≤ n := by
  have e : L = (List.range n).filter fun k => decide (k ∈ L) := rising_eq h.1 (List.pairwise_lt_range.filter _) fun k => by
    rw [List.mem_filter, List.mem_range]
    simp
    exact fun hk => Reach.lt h1 h2 ((h.2 k).mp hk)
  rw [e]
  refine Nat.le_trans (List.length_filter_le _ _) ?_
  rw [List.length_range]
  exact Nat.le_refl _
theorem x_slW (xs : List D) (lo hi : Option Int) (S : Store) : sliceD (.lis xs) lo hi S = .ok (.ref S.length) (S ++ [.lst (cutD xs lo hi)]) := (rfl)
theorem cutD_mem {xs : List D} {lo hi : Option Int} {d : D} (h : d ∈ cutD xs lo hi) : d ∈ xs := by
  unfold cutD at h
  exact List.mem_of_mem_drop (List.mem_of_mem_take h)
theorem cutD_len (xs : List D) (lo hi : Option Int) : (cutD xs lo hi).length ≤ xs.length := by
  unfold cutD
  rw [List.length_take, List.length_drop]
  omega
theorem x_setLst {S : Store} {n k : Nat} {xs : List D} {v : D} (h : S[n]? = some (.lst xs)) (hk : k < xs.length) : setO S (.ref n) (.int (k : Int)) v = some (S.set n (.lst (xs.set k v))) := by
  unfold setO
  simp only [h]
  have e : ixN xs.length (k : Int) = some k := by
    unfold ixN
    simp
    omega
  rw [e]
  rfl
theorem x_reverse {S : Store} {n : Nat} {xs : List D} (h : lstAt S n = some xs) : reverseM (.ref n) [] S = .ok .non (S.set n (.lst xs.reverse)) := by
  unfold reverseM
  simp only [h]
/-- a comprehension over pairs -/
theorem comp_pairs {chk : Store → Prop} {i j : Nat} {m : ME} {l : Loc} {S : Store} (hk : chk S) (ps : List (D × D)) (hm : ∀ p ∈ ps, m ((l.set i (some p.1)).set j (some p.2)) S = .ok (.bl true) S) : ∀ (acc : List D), acc.length + ps.length ≤ 16777216 → compL chk (.many [i, j]) yesM m l (ps.map fun p => .tup [p.1, p.2]) acc S = .ok (acc ++ ps.map fun _ => .bl true) S := by
  induction ps with
  | nil => intro acc _; rw [List.map_nil, compL_nil hk]; simp
  | cons p ps ih =>
    intro acc hz
    rw [List.length_cons] at hz
    have h1 := hm p List.mem_cons_self
    rw [List.map_cons, compL_cons hk]
    simp only [Tgt.put, namesL, x_yes, R.bind_ok, if_true, h1]
    rw [if_pos (show _ < sizeLine by rw [sz]; omega), ih (fun q hq => hm q (List.mem_cons_of_mem _ hq)) _ (by simp; omega)]
    simp
end ML

set_option Elab.async false
set_option linter.all false
set_option maxRecDepth 100000
set_option autoImplicit false
/-! ML16: dicts: pop, dict([..]); methods within a try. -/
namespace ML
open PySem PySem.Spec L2

/-! ### d.pop(k) -/
def dpopE (m n : ME) : ME := fun l S => (m l S).bind fun d S1 => match d with
  | .ref i => match dctAt S1 i with
    | some _ => (n l S1).bind fun e S2 => match dctAt S2 i with
      | some kvs => match keyO e with
        | some k => match dLook kvs k with
          | some v => .ok v (S2.set i (.dct (dDrop kvs k)))
          | none => .bad
        | none => .bad
      | none => .bad
    | none => .bad
  | _ => .bad
section
variable {X : Cx} {cA : Nat → Addr} {W : XK} {K : PySem.W.Frag} {ρ : List Addr} {H : Hp}
theorem drop_rep {k : Key} : ∀ {kvs : List (Key × D)} {ps : List (Key × V)}, RepP K ρ H kvs ps → RepP K ρ H (dDrop kvs k) (dropK ps k)
  | [], ps, h => by unfold RepP at h; subst h; unfold RepP; rfl
  | (j, x) :: r, ps, h => by
    unfold RepP at h
    obtain ⟨v, q, rfl, h1, h2⟩ := h
    unfold dDrop dropK
    rw [List.filter_cons, List.filter_cons]
    by_cases e : j = k
    · simp only [e, ne_eq, not_true_eq_false, decide_false, Bool.false_eq_true, if_false]
      exact drop_rep h2
    · simp only [ne_eq, e, not_false_eq_true, decide_true, if_true]
      exact ⟨v, _, rfl, h1, drop_rep h2⟩
variable {o e : Expr} {m n : ME} {apos cpos : Pos}
theorem mdpop (ho : PE X o (tE X.K cA W m)) (he : PE X e (tE X.K cA W n)) (hM : M1 X o "pop" apos e cpos := by exact ⟨rfl, rfl, rfl, rfl⟩) : PE X (.Call (.Attribute o "pop" apos) [e] [] cpos) (tE X.K cA W (dpopE m n)) :=
  (pe_dpop1 ho he hM).imp fun σ H Q h => (bind1L (rep1 := rV X.K) st_V h).imp fun x H1 h => by
    obtain ⟨ρ, S, l, d, hS, hl, hr, h⟩ := h
    split at h
    · rename_i i
      split at h
      · rename_i kvs0 e0
        obtain ⟨a, ps, rfl, ha, h1, h2⟩ := rdct_rep hS hr e0
        refine ⟨a, rfl, .inl ⟨ps, .inl h1⟩, ρ, S, l, hS, hl, (After.bind (rep := rV X.K) st_V h).imp fun y H2 h => ?_⟩
        obtain ⟨ρ2, S2, ed, e2, hS2, hr2, h⟩ := h
        split at h
        · rename_i kvs e3
          obtain ⟨a', ps', ea, ha', h3, h4⟩ := rdct_rep hS2 (hr.ext e2) e3
          cases ea
          split at h
          · rename_i k ek
            split at h
            · rename_i v ev
              have := key_rep ek hr2
              subst this
              have hv := look_rep k h4
              rw [ev] at hv
              obtain ⟨w, hw, rw'⟩ := hv
              have E : Ext ρ2 H2 ρ2 (upd H2 a (.dK (dropK ps' k))) := Ext.write ha' h3 True.intro
              exact ⟨ps', k, w, h3, rfl, hw, h ρ2 _ _ E (hS2.write ha' h3 True.intro ⟨_, upd_same, (drop_rep h4).ext E⟩) (rw'.ext E)⟩
            · exact h.elim
          · exact h.elim
        · exact h.elim
      · exact h.elim
    · exact h.elim
end

/-! ### dict([..]) of pairs -/
def pairO : D → Option (Key × D)
  | .tup [k, v] => (keyO k).map fun k => (k, v)
  | _ => none
def pairsL (ds : List D) (S : Store) : R D := match mapO pairO ds with
  | some kvs => newC (.dct (mergeD [] kvs)) S
  | none => .bad
section
variable {X : Cx} {cA : Nat → Addr} {W : XK} {K : PySem.W.Frag} {ρ : List Addr} {H : Hp}
theorem pairs_rep : ∀ {ds : List D} {vs : List V} {kvs : List (Key × D)}, mapO pairO ds = some kvs → RepVs K ρ H ds vs → ∃ ps qs, vs = ps.map V.ref ∧ Paired (fun p (kv : Key × V) => SqT K H p [kV kv.1, kv.2]) ps qs ∧ RepP K ρ H kvs qs
  | [], vs, kvs, h, r => by unfold RepVs at r; subst r; cases h; exact ⟨[], [], rfl, .nil, by unfold RepP; rfl⟩
  | d :: ds, vs, kvs, h, r => by
    unfold RepVs at r
    obtain ⟨v, q, rfl, h1, h2⟩ := r
    unfold mapO at h
    split at h
    · rename_i kv kvs' e1 e2
      cases h
      obtain ⟨ps, qs, rfl, h3, h4⟩ := pairs_rep e2 h2
      unfold pairO at e1
      split at e1
      · rename_i k x
        obtain ⟨k', ek, rfl⟩ := Option.map_eq_some_iff.mp e1
        unfold RepV at h1
        obtain ⟨a, ws, rfl, h5, h6⟩ := h1
        obtain ⟨y, z, rfl, h7, h8⟩ := two_rep h6
        have := key_rep ek h7
        subst this
        exact ⟨a :: ps, (k', z) :: qs, rfl, .cons h5 h3, z, qs, rfl, h8, h4⟩
      · cases e1
    · cases h
theorem c_pairs (hc : X.calm = true) : CallR X (.type "dict") (tL1 X.K cA W (rV X.K) pairsL) := CallR.imp (call_dictP hc) fun xs H Q h => by
  obtain ⟨ρ, S, ds, p, vs, hS, rfl, h1, h2, h⟩ := h
  unfold pairsL at h
  split at h
  · rename_i kvs e
    obtain ⟨ps, qs, rfl, h3, h4⟩ := pairs_rep e h2
    exact ⟨p, ps, qs, rfl, h1, h3, fun q hq => After.new h hS hq ⟨_, upd_same, (merge_rep h4 (by unfold RepP; rfl)).ext (Ext.new hq)⟩⟩
  · exact h.elim
end

/-! ### o.m(e, ..) within a try -/
section
variable {X : Cx} {cA : Nat → Addr} {W : WX} {p pos apos : Pos} {x m : Str} {e o : Expr} {es : List Expr} {mo : ME} {ma : MA} {k j n c : Nat} {tbl : Tbl}
theorem meth_ok {pl : Sem Bool} {f C : Addr} {fd : FuncData} {ps : List Str} {sp : Sp} {ta : TE} {t : TA} (he : PE X o ta) (hC : Cls X.K C) (hm : Meth X.K C m f)
    (F : FnOk X.prog X.w X.K X.mg X.base (L2.CX X.prog X.w) k f fd ps sp) (hr : Room k X.A) (hb : Binds X.K fd ps []) (tk : Takes X W) (ha : PA X (e :: es) t)
    (hst : starEach (e :: es) X.env = (false, eval e X.env) :: starEach es X.env) (hpl : (backTo pos (starEach es X.env)).any (·.1) = false)
    (ht : eval (.Call (.Attribute o m apos) (e :: es) [] pos) X.env = (do
      let ov ← eval o X.env
      standAt apos.atName
      let (f, first) ← holding [ov] (getMethod ov m pl)
      callWith pos f first (backTo pos (starEach (e :: es) X.env)) (backToKw pos (keywordEach [] X.env)))) :
    PE X (.Call (.Attribute o m apos) (e :: es) [] pos) (fun σ H Q => ta σ H fun x H1 => ∃ a dx fs, x = .ref a ∧ H1 a = some (.ins C dx fs) ∧ fs.lookup m = none ∧ t σ H1 fun vs H2 => sp (x :: vs) H2 Q (L2.WE W σ)) := by
  refine ⟨fun pins s σ H Q I h => ?_⟩
  refine PySem.W.methodCall_KW (pl := pl) (thn (he.run pins s σ H _ I h) fun u s1 ⟨x, H1, I1, rx, a, dx, fs, ex, ea, l, q⟩ => ?_) ht
  subst ex
  obtain rfl : u = Value.ref a := rx
  refine getmeth_ok I1 ea hC hm l ?_
  refine PySem.W.callWith_K (first := [.ref a]) (h₀ := X.base) I.ok.mod.kin hm.kp (thn (ha.run pos pins s1 σ H1 _ I1 q) fun us s2 ⟨vs, H2, I2, r, q2⟩ => ⟨I2.kIn, ?_⟩) hst hpl
  exact run_fnS (us := .ref a :: us) (vs := .ref a :: vs) F hr hb (passAt tk σ) I2 (.cons rfl r) q2
theorem xmeth {pl : Sem Bool} (T : MtL X.prog X.w X.K X.mg X.base cA j m n tbl) (hr : Room j X.A) (tk : Takes X W) (ho : ∀ W0 : XK, PE X o (tE X.K cA W0 mo)) (ha : ∀ W0 : XK, PA X (e :: es) (tAs X.K cA W0 ma))
    (hst : starEach (e :: es) X.env = (false, eval e X.env) :: starEach es X.env := by rfl) (hpl : (backTo pos (starEach es X.env)).any (·.1) = false := by rfl)
    (ht : eval (.Call (.Attribute o m apos) (e :: es) [] pos) X.env = (do
      let ov ← eval o X.env
      standAt apos.atName
      let (f, first) ← holding [ov] (getMethod ov m pl)
      callWith pos f first (backTo pos (starEach (e :: es) X.env)) (backToKw pos (keywordEach [] X.env))) := by rfl) : PE X (.Call (.Attribute o m apos) (e :: es) [] pos) (tEX X.K cA W (methE m n tbl mo ma)) := by
  refine ⟨fun pins s σ H Q I h => ?_⟩
  obtain ⟨ρ, S, l, hS, hl, h⟩ := h
  have hA : PA X (e :: es) (fun σ H Q => tAs X.K cA (L2.WE W σ) ma σ H Q) := ⟨fun pos pins s σ H Q I q => (ha (L2.WE W σ)).run pos pins s σ H Q I q⟩
  have hO : PE X o (fun σ H Q => tE X.K cA (L2.WE W σ) mo σ H Q) := ⟨fun pins s σ H Q I q => (ho (L2.WE W σ)).run pins s σ H Q I q⟩
  cases eo : mo l S with
  | ok d S1 =>
    unfold methE at h
    rw [eo] at h
    simp only [R.noex, R.bind_ok] at h
    split at h
    · rename_i i
      split at h
      · rename_i c fs ei
        split at h
        · rename_i hf
          split at h
          · rename_i G eG
            obtain ⟨k, hk, M⟩ := tbl_of T eG
            obtain ⟨f, fd, ps, hC, hM, hb, F⟩ := M.ex
            refine (meth_ok (pl := pl) hO hC hM F (hr.mono hk) hb tk hA hst hpl ht).run pins s σ H Q I ⟨ρ, S, l, hS, hl, ?_⟩
            rw [eo]
            intro ρ1 H1 v e1 hS1 hv
            obtain ⟨a, dx, vs, rfl, _, h1, h2⟩ := rins_rep hS1 hv ei
            refine ⟨a, dx, vs, rfl, h1, fld_none h2 hf, ρ1, S1, l, hS1, hl.ext e1, (After.step (rep := rVs X.K) h e1).imp fun us H2 hq => ?_⟩
            obtain ⟨ρ2, S2, ds, e2, hS2, hr2, h⟩ := hq
            split at h
            · rename_i hn
              exact ⟨by rw [List.length_cons, RepVs.length hr2]; exact hn, ρ2, S2, .ref i :: ds, hS2, .cons (hv.ext e2) hr2, After.back st_V (e1.trans e2) h⟩
            · exact h.elim
          · exact h.elim
        · exact h.elim
      · exact h.elim
    · exact h.elim
  | ex z S1 =>
    unfold methE at h
    rw [eo] at h
    exact h.elim
  | bad =>
    unfold methE at h
    rw [eo] at h
    exact h.elim
end
end ML

set_option Elab.async false
set_option linter.all false
set_option maxRecDepth 100000
set_option autoImplicit false
/-! ML17: more reckoning: dicts by key, equality with itself, rows that leave something behind. -/
namespace ML
open PySem PySem.Spec L2
mutual
theorem eqv_self : ∀ p : PyData, p.canLay0 = true → PyData.eqv p p = true
  | .none, _ => by simp [PyData.eqv]
  | .bool b, _ => by simp [PyData.eqv]
  | .int i, _ => by simp [PyData.eqv]
  | .str x, _ => by simp [PyData.eqv]
  | .list xs, h => by
    rw [PyData.canLay0] at h
    rw [PyData.eqv]
    exact eqvs_self xs h
  | .tuple xs, h => by
    rw [PyData.canLay0] at h
    rw [PyData.eqv]
    exact eqvs_self xs h
  | .dict _, h => by rw [PyData.canLay0] at h; cases h
theorem eqvs_self : ∀ ps : List PyData, PyData.canLayAll0 ps = true → PyData.eqvAll ps ps = true
  | [], _ => by simp [PyData.eqvAll]
  | p :: ps, h => by
    rw [PyData.canLayAll0, Bool.and_eq_true] at h
    rw [PyData.eqvAll, eqv_self p h.1, eqvs_self ps h.2]
    rfl
end
theorem eqLs_self {S : Store} {xs : List D} {ps : List PyData} (h : mapO (toPy S 63) xs = some ps) (c : PyData.canLayAll0 ps = true) : eqLs S xs xs = some true := by
  rw [eqLs_of h h c c, eqvs_self ps c]
/-! ### dicts of things by number -/
section
variable {α : Type}
def dK (k : α → Nat) (f : α → D) (ps : List α) : List (Key × D) := ps.map fun p => (.inl (k p : Int), f p)
def atK (k : α → Nat) (ps : List α) (i : Nat) : Option α := ps.find? fun p => decide (k p = i)
theorem dK_look (k : α → Nat) (f : α → D) (i : Nat) : ∀ ps : List α, dLook (dK k f ps) (.inl (i : Int)) = (atK k ps i).map f
  | [] => rfl
  | p :: ps => by
    have ih := dK_look k f i ps
    unfold dK dLook atK at ih ⊢
    rw [List.map_cons, List.find?_cons, List.find?_cons]
    by_cases e : k p = i
    · simp [e]
    · have h2 : ¬ ((Sum.inl (k p : Int) : Key) = Sum.inl (i : Int)) := fun z => e (by have := Sum.inl.inj z; omega)
      simp only [h2, e, decide_false]
      exact ih
theorem atK_mem {k : α → Nat} {ps : List α} {i : Nat} (h : i ∈ ps.map k) : ∃ p, atK k ps i = some p ∧ p ∈ ps ∧ k p = i := by
  obtain ⟨q, hq, e⟩ := List.mem_map.mp h
  cases h2 : atK k ps i with
  | none =>
    unfold atK at h2
    rw [List.find?_eq_none] at h2
    exact absurd (by simpa using e) (h2 q hq)
  | some p =>
    unfold atK at h2
    exact ⟨p, rfl, List.mem_of_find?_eq_some h2, by simpa using List.find?_some h2⟩
theorem atK_none {k : α → Nat} {ps : List α} {i : Nat} (h : i ∉ ps.map k) : atK k ps i = none := by
  unfold atK
  rw [List.find?_eq_none]
  intro p hp
  simp
  intro e
  exact h (List.mem_map.mpr ⟨p, hp, e⟩)
theorem dK_keys (k : α → Nat) (f : α → D) (ps : List α) : ((dK k f ps).map fun kv => keyD kv.1) = intsD (ps.map k) := by
  unfold dK intsD
  rw [List.map_map, List.map_map]
  rfl
theorem dK_len (k : α → Nat) (f : α → D) (ps : List α) : (dK k f ps).length = ps.length := by simp [dK]
theorem dK_put {k : α → Nat} {f : α → D} {ps : List α} {q : α} (h : k q ∉ ps.map k) : dPut (dK k f ps) (.inl (k q : Int)) (f q) = dK k f (ps ++ [q]) := by
  unfold dPut
  rw [if_neg]
  · simp [dK]
  · intro z
    rw [List.any_eq_true] at z
    obtain ⟨p, hp, e⟩ := z
    unfold dK at hp
    obtain ⟨r, hr, rfl⟩ := List.mem_map.mp hp
    have := Sum.inl.inj (of_decide_eq_true e)
    exact h (List.mem_map.mpr ⟨r, hr, by omega⟩)
theorem dK_set {k : α → Nat} {f : α → D} {ps : List α} {q : α} (h : k q ∈ ps.map k) : dPut (dK k f ps) (.inl (k q : Int)) (f q) = dK k f (ps.map fun p => if k p = k q then q else p) := by
  unfold dPut
  rw [if_pos]
  · unfold dK
    rw [List.map_map, List.map_map]
    refine List.map_congr_left fun p _ => ?_
    simp only [Function.comp]
    by_cases e : k p = k q
    · simp [e]
    · have h2 : ¬ ((Sum.inl (k p : Int) : Key) = Sum.inl (k q : Int)) := fun z => e (by have := Sum.inl.inj z; omega)
      simp [h2, e]
  · rw [List.any_eq_true]
    obtain ⟨p, hp, e⟩ := List.mem_map.mp h
    exact ⟨(.inl (k p : Int), f p), List.mem_map.mpr ⟨p, hp, rfl⟩, by simp [e]⟩
theorem dK_drop (k : α → Nat) (f : α → D) (ps : List α) (i : Nat) : dDrop (dK k f ps) (.inl (i : Int)) = dK k f (ps.filter fun p => decide (k p ≠ i)) := by
  unfold dDrop dK
  rw [List.filter_map]
  congr 1
  refine List.filter_congr fun p _ => ?_
  simp only [Function.comp]
  by_cases e : k p = i
  · simp [e]
  · have h2 : ¬ ((Sum.inl (k p : Int) : Key) = Sum.inl (i : Int)) := fun z => e (by have := Sum.inl.inj z; omega)
    simp [h2, e]
end
theorem x_dpop {S : Store} {m n : ME} {l : Loc} {i : Nat} {kvs : List (Key × D)} {k : Nat} {v : D} (hm : m l S = .ok (.ref i) S) (hn : n l S = .ok (.int (k : Int)) S) (h : S[i]? = some (.dct kvs)) (hv : dLook kvs (.inl (k : Int)) = some v) : dpopE m n l S = .ok v (S.set i (.dct (dDrop kvs (.inl (k : Int))))) := by
  unfold dpopE
  simp only [hm, hn, R.bind_ok, dctAt_of h, keyO, hv]
/-- the kept numbers as a dict -/
theorem pairs_seen (l : List Nat) (h : l.Nodup) (S : Store) : pairsL (l.map fun k : Nat => D.tup [.int (k : Int), .bl true]) S = .ok (.ref S.length) (S ++ [.dct (seenD l)]) := by
  have e : mapO pairO (l.map fun k : Nat => D.tup [.int (k : Int), .bl true]) = some (l.map fun k : Nat => ((.inl (k : Int), .bl true) : Key × D)) := mapO_some (f := pairO) (g := fun k : Nat => D.tup [.int (k : Int), .bl true]) (h := fun k : Nat => ((.inl (k : Int), .bl true) : Key × D)) (fun _ => rfl) l
  unfold pairsL
  rw [e]
  have gen : ∀ (l a : List Nat), (a ++ l).Nodup → mergeD (seenD a) (l.map fun k : Nat => ((.inl (k : Int), .bl true) : Key × D)) = seenD (a ++ l) := by
    intro l
    induction l with
    | nil => intro a _; simp [mergeD]
    | cons x l ih =>
      intro a hn
      have hx : x ∉ a := by
        rw [List.nodup_append] at hn
        exact fun q => hn.2.2 x q x (by simp) rfl
      have := ih (a ++ [x]) (by simpa using hn)
      rw [List.map_cons]
      show mergeD (dPut (seenD a) (.inl (x : Int)) (.bl true)) _ = _
      rw [seen_put hx, this]
      simp
  have := gen l [] h
  simp only [List.nil_append] at this
  show newC (.dct (mergeD [] _)) S = _
  have e0 : seenD [] = [] := rfl
  rw [e0] at this
  rw [this]
  rfl
/-- a row of things, each of which may leave something behind -/
theorem rowX {α : Type} (g : α → D) (P : α → Prop) {i n : Nat} {m : ME} {l : Loc} {t : Nat} {c : Cell} (hz : n ≤ 1000) (h : ∀ k : Nat, k < n → ∃ v, P v ∧ ∀ S, S[t]? = some c → ∃ Y, m (l.set i (some (.int (k : Int)))) S = .ok (g v) (S ++ Y)) :
    ∃ vs : List α, vs.length = n ∧ (∀ v ∈ vs, P v) ∧ ∀ S, S[t]? = some c → ∃ Y, compL still (.one i) yesM m l (intsFrom 0 n) [] S = .ok (vs.map g) (S ++ Y) := by
  have gen : ∀ (ks : List Nat), (∀ k ∈ ks, k < n) → ∃ vs : List α, vs.length = ks.length ∧ (∀ v ∈ vs, P v) ∧ ∀ (acc : List D) S, acc.length + ks.length ≤ 16000000 → S[t]? = some c → ∃ Y, compL still (.one i) yesM m l (ks.map fun k : Nat => D.int (k : Int)) acc S = .ok (acc ++ vs.map g) (S ++ Y) := by
    intro ks
    induction ks with
    | nil => intro _; exact ⟨[], rfl, fun v hv => by simp at hv, fun acc S _ _ => ⟨[], by rw [List.map_nil, compL_nil trivial]; simp⟩⟩
    | cons k ks ih =>
      intro hk
      obtain ⟨v, hv, ev⟩ := h k (hk k List.mem_cons_self)
      obtain ⟨vs, h1, h2, h3⟩ := ih (fun x hx => hk x (List.mem_cons_of_mem _ hx))
      refine ⟨v :: vs, by simp [h1], fun w hw => ?_, fun acc S ha ht => ?_⟩
      · rcases List.mem_cons.mp hw with e | e
        · subst e; exact hv
        · exact h2 w e
      · rw [List.length_cons] at ha
        obtain ⟨Y, eY⟩ := ev S ht
        obtain ⟨Z, eZ⟩ := h3 (acc ++ [g v]) (S ++ Y) (by simp; omega) (at_app ht)
        refine ⟨Y ++ Z, ?_⟩
        rw [List.map_cons, compL_cons trivial]
        simp only [Tgt.put, x_yes, R.bind_ok, if_true, eY]
        rw [if_pos (show _ < sizeLine by rw [sz]; omega), eZ]
        simp
  obtain ⟨vs, h1, h2, h3⟩ := gen (List.range n) fun k hk => List.mem_range.mp hk
  refine ⟨vs, by simpa using h1, h2, fun S ht => ?_⟩
  obtain ⟨Y, e⟩ := h3 [] S (by simp; omega) ht
  refine ⟨Y, ?_⟩
  rw [rng_ints]
  exact e
end ML

set_option Elab.async false
set_option linter.all false
set_option maxRecDepth 100000
set_option autoImplicit false
/-! ML19: a law's own def where it is called from the top alone: the guards around it are known to be none, so that str(..) of a tuple tells the same text each time. -/
namespace ML
open PySem PySem.Spec L2 PyProof.Rows
structure TopOk (P : Program) (w : World) (K : PySem.W.Frag) (mg : Str → Option Value) (base : Heap) (CX : CXT) (k : Nat) (f : Addr) (fd : FuncData) (ps : List Str) (sp : Sp) : Prop where
  len : ∀ vs H Q E, sp vs H Q E → vs.length = ps.length
  run : ∀ (s : Shared) (H : Hp) (args : Args) (us : List Value) (vs : List V) (Q : VK) (E : XK), Room k callerA → Env0 P w K mg base callerA [] s H → BindsTo s fd args (ps.zip us) → Vals vs us → sp vs H Q E →
    codeAny (model P w) callerA (.call (.ref f) args) (CR CX [] P w H s Q E) s
section
variable {P : Program} {w : World} {K : PySem.W.Frag} {mg : Str → Option Value} {base : Heap} {cA : Nat → Addr}
theorem top_run {CX : CXT} {x qual : Str} {st : Stmt} {f : Addr} {fd : FuncData} {N ps : List Str} {k : Nat} {sp : Sp} (F : Fun K x qual st f fd) (S : FnScope N ps (defScope st)) (len : ∀ vs H Q E, sp vs H Q E → vs.length = ps.length)
    (hb0 : ∀ (cdv : Value) (s : Shared) (H : Hp) (vs : List V) (Q : VK) (E : XK), Room k (callerA.deeper (envOfC qual (defScope st) s.heap.objs.size f cdv)) → sp vs H Q E →
      ∃ t, PSs (cxOf CX P w K mg base N qual (defScope st) f cdv callerA [] s H E) (defBody st) t ∧ t { nx := fun _ H' => Q .non H', rt := Q } (start N vs) H) : TopOk P w K mg base CX (k + 1) f fd ps sp := by
  obtain ⟨oc, od, kV, doc, pm, an, cdv, ct, osl, rfl, lk, hcd⟩ := F.ex
  refine ⟨len, fun s H args us vs Q E room e0 binds vals q => ?_⟩
  have there : ∀ b o, base.get? b = some o → s.heap.get? b = some o := fun b o e => (e0.bs b o e).1
  have inK : K.In s.heap := e0.mod.kin.keeps there
  refine codeAny_call_function room.depth (inK _ _ lk) rfl S.co S.gen rfl (PySem.W.codeRec_of inK hcd) (binds _ _ _ _ ?_)
  have kinds : ∀ y ∈ ps.zip us, (defScope st).names.lookup y.1 = some .local ∨ ((defScope st).names.lookup y.1 = some .cell ∧ ((cellsFrom (s.heap.objs.size + 1) (defScope st).names []).lookup y.1).isSome = true) := by
    rintro ⟨n, v⟩ hy
    cases S.par n (List.of_mem_zip hy).1 with
    | inl z => exact .inl z
    | inr z => exact .inr ⟨z, PySem.W.cellsFrom_some _ _ _ (.inl z)⟩
  refine wpAny_newFunctionEnv_cells S.kind kinds fun env he s1 new => ?_
  subst he
  refine ⟨(e0.mod.nolimit.keeps there).keeps new.toInCall.keep, codeAny_func ?_⟩
  obtain ⟨t, body, wish⟩ := hb0 cdv s H vs Q E (room.deeper _) q
  have inv : Inv (cxOf CX P w K mg base N qual (defScope st) f cdv callerA [] s H E) [] (start N vs) H s1 := inv_start S room.hd e0 (len _ _ _ _ q) vals new
  refine wpAny_mono (body.run [] s1 (start N vs) H _ inv wish) ?_ fun _ _ z => z
  intro fl s2 z
  cases fl with
  | next => obtain ⟨_, H2, J, z⟩ := z; exact ⟨.non, H2, J.os, J.bare, J.base, J.hok, rfl, z⟩
  | ret u => obtain ⟨v, _, H2, J, rv, z⟩ := z; exact ⟨v, H2, J.os, J.bare, J.base, J.hok, rv, z⟩
  | brk => obtain ⟨_, _, _, z⟩ := z; exact z.elim
  | cont => obtain ⟨_, _, _, z⟩ := z; exact z.elim
/-- the law's def keeps what its body's function says -/
theorem defTop {x qual : Str} {st : Stmt} {f : Addr} {fd : FuncData} {N ps : List Str} {k : Nat} {m : MS} (F : Fun K x qual st f fd) (S : FnScope N ps (defScope st))
    (hbody : ∀ (cdv : Value) (A : Around) (outer : List Env) (s : Shared) (H : Hp) (E : XK), A.guards = some [] → Room k (A.deeper (envOfC qual (defScope st) s.heap.objs.size f cdv)) →
      PSs (cxOf (L2.CX P w) P w K mg base N qual (defScope st) f cdv A outer s H E) (defBody st) (tS K cA E m)) : TopOk P w K mg base (L2.CX P w) (k + 1) f fd ps (spM K cA (bodyF N.length m) ps.length) :=
  top_run F S (fun vs H Q E h => h.1) fun cdv s H vs Q E hr h => by
    obtain ⟨hl, ρ, S0, ds, hS, hrep, h⟩ := h
    refine ⟨tS K cA E m, hbody cdv callerA [] s H E rfl hr, ρ, S0, startL N.length ds, hS, start_rep hrep, (After.bind (rep := rS K) st_V h).imp fun b H1 h => ?_⟩
    obtain ⟨ρ1, S1, a, e1, hS1, ⟨hl1, hf⟩, h⟩ := h
    obtain ⟨fl, l1⟩ := a
    obtain ⟨g, σ1⟩ := b
    cases fl with
    | nx => cases g with
      | nx => exact After.same (rep := rV K) h hS1 rep_non'
      | _ => exact hf.elim
    | rt d => cases g with
      | rt v => exact After.same (rep := rV K) h hS1 hf
      | _ => exact hf.elim
    | bk => exact h.elim
    | ct => exact h.elim
theorem topA_of {k n : Nat} {f : Addr} {fd : FuncData} {ps : List Str} {F : List D → Store → R D} {CX : CXT} (h : TopOk P w K mg base CX k f fd ps (spM K cA F n)) : TopOk P w K mg base CX k f fd ps (spA K F n) :=
  ⟨fun vs H Q E q => h.len vs H Q E (q cA), fun s H args us vs Q E hr e b r q => h.run s H args us vs Q E hr e b r (q cA)⟩
end
/-- the law's call -/
theorem law_top {P : Program} {w : World} {K : PySem.W.Frag} {mg mb : Str → Option Value} {CX : CXT} {k : Nat} {fa a : Addr} {fd : FuncData} {x : Str} {sp : Sp} {s : Shared} {vs : List Value} {ns : List Int}
    (inK : K.In s.heap) (g1 : s.heap.Ns mainGlobals mg) (g2 : s.heap.Ns builtinsNs mb) (g3 : ∀ x : Str, x ≠ "__name__" → mb x = bootBuiltins x) (g4 : s.heap.NoLimit) (g5 : s.gens = #[])
    (la : s.heap.get? a = some { cls := .type "list", data := .seq vs.toArray }) (li : IntsAre vs ns) (ll : ns.length ≤ sizeLine) (room : Room k callerA)
    (F : ∀ base : Heap, K.In base → base.Ns mainGlobals mg → TopOk P w K mg base CX k fa fd [x] sp) (binds : ∀ (s : Shared) (u : Value), BindsTo s fd ⟨[u], []⟩ [(x, u)])
    (hsp : ∀ H : Hp, Only H → SqL K H a (ns.map V.int) → sp [.ref a] H (fun v _ => v = .bl true) fun _ _ _ => False)
    (hCX : ∀ H e s', CX [] H s (fun _ _ _ => False) e s' → False) :
    codeAny (model P w) callerA (.call (.ref fa) ⟨[.ref a], []⟩) (fun r s' => r = .ok (.ret (.bool true)) ∧ OldK s.heap s'.heap ∧ s'.os = s.os ∧ AllBare s'.gens) s := by
  -- what is tracked: at most the script
  have main : ∀ H : Hp, (∀ b, H b = none ∨ (b = a ∧ K.lookup a = none ∧ H b = some (.frz { cls := .type "list", data := .seq vs.toArray } (.lst (ns.map V.int))))) → SqL K H a (ns.map V.int) →
      codeAny (model P w) callerA (.call (.ref fa) ⟨[.ref a], []⟩) (fun r s' => r = .ok (.ret (.bool true)) ∧ OldK s.heap s'.heap ∧ s'.os = s.os ∧ AllBare s'.gens) s := by
    intro H sh sq
    have stays : ∀ {b : Addr} {o : Obj}, s.heap.get? b = some o → (b = a → K.lookup a = none → False) → (hidT s.heap H).get? b = some o := fun {b o} e ne => by
      rcases sh b with z | ⟨z, z2, _⟩
      · exact hidT_get e z
      · exact (ne z z2).elim
    have kb : K.In (hidT s.heap H) := fun b o e => stays (inK b o e) fun z z2 => by subst z; rw [e] at z2; cases z2
    have nb : ∀ {b : Addr} {m : Str → Option Value}, s.heap.Ns b m → (hidT s.heap H).Ns b m := fun {b m} ⟨o, es, ep, e, d, r⟩ => ⟨o, es, ep, stays e (fun z _ => by
      subst z
      have q := e.symm.trans la
      cases q
      cases (show Data.seq vs.toArray _ = Data.dict es ep from d)), d, r⟩
    have hok : HOk P w H s.heap := fun b u e => by
      rcases sh b with z | ⟨z, _, z3⟩
      · rw [z] at e; cases e
      · rw [z3] at e
        cases e
        subst z
        exact ⟨la, by rw [List.length_map]; exact ll, vs, _, vals_ints li, la⟩
    have e0 : Env0 P w K mg (hidT s.heap H) callerA [] s H :=
      { frames := rfl, mod := ⟨kb, nb g1, ⟨mb, nb g2, g3⟩, by obtain ⟨mc, c1, c2⟩ := g4; exact ⟨mc, nb c1, c2⟩⟩, bs := fun _ _ e => of_hidT e, bsz := by rw [hidT_size]; exact Nat.le_refl _, funs := trivial,
        frf := fun b hb => absurd (show b ∈ ([] : List Addr) from hb) List.not_mem_nil, hok := hok, bare := .of_eq g5 }
    have only : Only H := fun b => (sh b).imp id fun z => ⟨_, _, z.2.2⟩
    refine codeAny_mono ((F _ kb (nb g1)).run s H ⟨[.ref a], []⟩ [.ref a] [.ref a] _ _ room e0 (binds s (.ref a)) (.cons rfl .nil) (hsp H only sq)) ?_
    intro r s' z
    cases r with
    | error e => exact (hCX H e s' z).elim
    | ok fl => cases fl with
      | ret u =>
        obtain ⟨v, H', os, bare, un, hok', rv, q⟩ := z
        cases (show v = .bl true from q)
        cases (show u = Value.bool true from rv)
        refine ⟨rfl, OldK.of_keep fun b o e => ?_, os, bare⟩
        rcases sh b with n | ⟨_, _, n⟩
        · exact un.keep b o e n (fun z => absurd (show b ∈ ([] : List Addr) from z) List.not_mem_nil) (by simp)
        · obtain ⟨c1, _⟩ := hok b _ n
          obtain ⟨c2, _⟩ := hok' b _ (un.frzs b _ _ n)
          rw [c1] at e
          cases e
          exact c2
      | next => exact (show False from z).elim
      | brk => exact (show False from z).elim
      | cont => exact (show False from z).elim
  by_cases hk : K.lookup a = none
  · refine main (fun b => if b = a then some (.frz { cls := .type "list", data := .seq vs.toArray } (.lst (ns.map V.int))) else none) (fun b => ?_) (.inl (.inr ⟨_, if_pos rfl⟩))
    by_cases hb : b = a
    · exact .inr ⟨hb, hk, if_pos hb⟩
    · exact .inl (if_neg hb)
  · obtain ⟨o, ho⟩ := Option.ne_none_iff_exists'.mp hk
    have e := inK a o ho
    rw [la] at e
    cases e
    exact main (fun _ => none) (fun _ => .inl rfl) (.inr ⟨_, vs.toArray, _, ho, rfl, rfl, rfl, by rw [List.size_toArray, li.length]; exact ll, by simpa using vals_ints li⟩)
theorem walk_top {l : PySem.W.OpenLaw} {n k : Nat} {q : Program} {loose : List Str} {XP : (Str → Option Value) → Heap → Prop} {YP : World → Heap → Prop} {d : DefRec} {K : Params → PySem.W.Frag} {CX : World → CXT} {sp : World → Sp} {x : Str}
    (hn : l.most = some n) (hn2 : n ≤ sizeLine) (hdf : d.params.defaults = []) (hr : Room k callerA) (hY : ∀ (w : World) (h : Heap), YP w h → (K w.params).In h)
    (F : ∀ (w : World) (mg : Str → Option Value) (fa : Addr) (h : Heap), (K w.params).In h → h.Ns mainGlobals mg → mg d.name = some (.ref fa) →
      ∃ fd : FuncData, (∀ (s : Shared) (u : Value), BindsTo s fd ⟨[u], []⟩ [(x, u)]) ∧ ∀ base : Heap, (K w.params).In base → base.Ns mainGlobals mg → TopOk l.prog w (K w.params) mg base (CX w) k fa fd [x] (sp w))
    (hsp : ∀ (w : World) (H : Hp) (a : Addr) (ns : List Int), ns.length ≤ n → Only H → SqL (K w.params) H a (ns.map V.int) → sp w [.ref a] H (fun v _ => v = .bl true) fun _ _ _ => False)
    (hCX : ∀ (w : World) (H : Hp) (s : Shared) (e : Value) (s' : Shared), CX w [] H s (fun _ _ _ => False) e s' → False) : PySem.W.WalkO q loose XP YP l.row.toRowW d [] (fun f vs => PySem.call f vs) := by
  refine Att.attach_call hn hdf ?_
  intro w s₀ s₁ mg mb fa o pm cd doc a vs ns G Y _ _ _ hmg la li ll g5
  obtain ⟨fd, hb, hF⟩ := F w mg fa _ (hY w _ Y) G.T.g hmg
  exact law_top (hY w _ Y) G.T.g G.T.b G.T.builtins G.T.nolimit g5 la li (Nat.le_trans ll hn2) hr hF hb (fun H o s => hsp w H a ns ll o s) (fun H e s' => hCX w H s₁ e s')
end ML

set_option Elab.async false
set_option linter.all false
set_option maxRecDepth 100000
set_option autoImplicit false
/-! ML20: len(set(x)) of a tuple or list of texts: how many there are, each counted once. -/
namespace ML
open PySem PySem.Spec L2
/-- each one once, as they come -/
def uqs {α : Type} [DecidableEq α] (l : List α) : List α := l.foldl (fun acc x => if x ∈ acc then acc else acc ++ [x]) []
theorem uqs_snoc {α : Type} [DecidableEq α] (l : List α) (x : α) : uqs (l ++ [x]) = if x ∈ uqs l then uqs l else uqs l ++ [x] := by
  unfold uqs
  rw [List.foldl_append]
  rfl
theorem mem_uqs {α : Type} [DecidableEq α] (l : List α) (x : α) : x ∈ uqs l ↔ x ∈ l := by
  have gen : ∀ (n : Nat) (l : List α), l.length = n → ∀ x, x ∈ uqs l ↔ x ∈ l := by
    intro n
    induction n with
    | zero => intro l hl x; have := List.length_eq_zero_iff.mp hl; subst this; exact Iff.rfl
    | succ n ih =>
      intro l hl x
      obtain ⟨r, y, rfl⟩ : ∃ r y, l = r ++ [y] := ⟨l.dropLast, l.getLast (by rintro rfl; simp at hl), (List.dropLast_concat_getLast _).symm⟩
      have hr : r.length = n := by simpa using hl
      rw [uqs_snoc]
      split
      · rename_i q
        rw [ih r hr]
        have := (ih r hr y).mp q
        simp
        rintro rfl
        exact this
      · simp [ih r hr]
  exact gen _ l rfl x
theorem uqs_le {α : Type} [DecidableEq α] (l : List α) : (uqs l).length ≤ l.length := by
  have gen : ∀ (n : Nat) (l : List α), l.length = n → (uqs l).length ≤ n := by
    intro n
    induction n with
    | zero => intro l hl; have := List.length_eq_zero_iff.mp hl; subst this; exact Nat.le_refl _
    | succ n ih =>
      intro l hl
      obtain ⟨r, y, rfl⟩ : ∃ r y, l = r ++ [y] := ⟨l.dropLast, l.getLast (by rintro rfl; simp at hl), (List.dropLast_concat_getLast _).symm⟩
      have hr : r.length = n := by simpa using hl
      have := ih r hr
      rw [uqs_snoc]
      split
      · omega
      · simp; exact this
  exact gen _ l rfl
theorem uqs_nodup {α : Type} [DecidableEq α] {l : List α} (h : l.Nodup) : uqs l = l := by
  have gen : ∀ (n : Nat) (l : List α), l.length = n → l.Nodup → uqs l = l := by
    intro n
    induction n with
    | zero => intro l hl _; have := List.length_eq_zero_iff.mp hl; subst this; rfl
    | succ n ih =>
      intro l hl hd
      obtain ⟨r, y, rfl⟩ : ∃ r y, l = r ++ [y] := ⟨l.dropLast, l.getLast (by rintro rfl; simp at hl), (List.dropLast_concat_getLast _).symm⟩
      have hr : r.length = n := by simpa using hl
      rw [List.nodup_append] at hd
      have ny : y ∉ r := fun q => (hd.2.2 y q y (by simp)) rfl
      rw [uqs_snoc, ih r hr hd.1, if_neg ny]
  exact gen _ l rfl h
section
variable {prog : Program} {w : World} {A : Around} {R : Result → Shared → Prop} {I : Addr} {fp wr : List Addr} {G : Array GenState → Array GenState → Prop} {n : Nat} {P : Nat → Value → Prop} {St : Nat → Shared → Prop}
/-- the adding, one by one -/
theorem set_adds (W : WalksS prog w A.in1 I fp wr G n P St) (T : Addr) (off : T ∉ fp) (xs : List Str) (len : xs.length = n) (room : n + 1 < scanBound) (val : ∀ i v, P i v → ∃ t, v = .str (xs.getD i Str.empty) t) :
    ∀ (k i : Nat) (s : Shared), n - i = k → i ≤ n → St i s → s.heap.SetOf (PySem.strKind prog w) T (fun y => decide (y ∈ xs.take i)) (uqs (xs.take i)).length →
      (∀ s', Moved (T :: wr) G s s' → s'.heap.SetOf (PySem.strKind prog w) T (fun y => decide (y ∈ xs)) (uqs xs).length → R (.ok (.ret .none)) s') →
      codeAny (model prog w) A (.builtin "set.update.loop" ⟨[.ref T, .ref I], []⟩) R s := by
  have off2 : T ∉ wr := fun h => off (W.sub _ h)
  have more : ∀ b ∈ wr, b ∈ T :: wr := fun b hb => List.mem_cons_of_mem _ hb
  have keep : ∀ {s s' : Shared} {i : Nat}, Moved wr G s s' → s.heap.SetOf (PySem.strKind prog w) T (fun y => decide (y ∈ xs.take i)) (uqs (xs.take i)).length → s'.heap.SetOf (PySem.strKind prog w) T (fun y => decide (y ∈ xs.take i)) (uqs (xs.take i)).length := fun {s s' i} hm hS => by
    obtain ⟨o, es, ep, t, ho, rest⟩ := hS
    exact ⟨o, es, ep, t, hm.heap T _ off2 ho, rest⟩
  intro k
  induction k with
  | zero =>
    intro i s hk hi hst hS hR
    have : i = n := by omega
    subst this
    refine codeAny_builtin PyProof.Rows.F.entry_set_update_loop ?_
    rw [Around.under_plainId PyProof.Rows.F.plain_set_update_loop _]
    show wpAny _ A.in1 (pyNext (.ref I) >>= _) _ _ s
    refine wpAny_bind (W.done s _ _ hst fun s' hm => ?_)
    show wpAny _ A.in1 (ret Value.none) _ _ s'
    have e := keep hm hS
    rw [List.take_of_length_le (by omega)] at e
    exact wpAny_pure (hR s' (hm.mono more) e)
  | succ k ih =>
    intro i s hk hi hst hS hR
    have lt : i < n := by omega
    refine codeAny_builtin PyProof.Rows.F.entry_set_update_loop ?_
    rw [Around.under_plainId PyProof.Rows.F.plain_set_update_loop _]
    show wpAny _ A.in1 (pyNext (.ref I) >>= _) _ _ s
    refine wpAny_bind (W.item i s _ _ lt hst fun v s' hP hst' hm => ?_)
    obtain ⟨t, rfl⟩ := val i v hP
    show wpAny _ A.in1 (holding [Value.str (xs.getD i Str.empty) t] (setAdd T (.str (xs.getD i Str.empty) t)) >>= _) _ _ s'
    refine wpAny_bind (wpAny_holding ?_)
    unfold setAdd
    refine wpAny_holding ?_
    refine wpAny_bind ((PySem.strKind prog w).pyHash (k := xs.getD i Str.empty) (strKind_is _ _ _ _) ?_)
    have few : (uqs (xs.take i)).length ≤ n := Nat.le_trans (uqs_le _) (by rw [List.length_take]; omega)
    refine wpAny_setAddHashed_of (knd := PySem.strKind prog w) (s := { s' with toks := s'.toks + 1 }) (strKind_is _ _ _ _) rfl (show s'.heap.SetOf _ _ _ _ from keep hm hS) (by omega) fun h' same hS2 => ?_
    have hx : xs[i]? = some (xs.getD i Str.empty) := by
      rw [List.getD_eq_getElem?_getD]
      have : i < xs.length := by omega
      rw [List.getElem?_eq_getElem this]
      rfl
    have hS3 : h'.SetOf (PySem.strKind prog w) T (fun y => decide (y ∈ xs.take (i + 1))) (uqs (xs.take (i + 1))).length := by
      refine PyProof.Rows.SetOf_congr hS2 (fun y => ?_) ?_
      · rw [List.take_add_one, hx]
        simp [List.mem_append]
      · rw [List.take_add_one, hx]
        show _ = (uqs (xs.take i ++ [xs.getD i Str.empty])).length
        rw [uqs_snoc]
        by_cases q : xs.getD i Str.empty ∈ xs.take i
        · rw [if_pos (decide_eq_true q), if_pos ((mem_uqs _ _).mpr q)]
        · rw [if_neg (by simpa using q), if_neg (fun z => q ((mem_uqs _ _).mp z)), List.length_append]
          rfl
    refine wpAny_pure ⟨plainId_quiet PyProof.Rows.F.plain_set_update_loop _, ih (i + 1) _ (by omega) lt (W.frame _ s' _ _ hst' (Nat.le_succ _) fun b hb o e => ?_) hS3 fun s2 hm2 hS4 => ?_⟩
    · rw [same.2 b (fun h : b = T => off (by rw [← h]; exact hb))]; exact e
    · refine hR s2 (Moved.trans W.gtrans ((hm.mono more).then_heap (Nat.le_succ _) fun b o hb e => ?_) hm2) hS4
      rw [same.2 b (fun h : b = T => hb (by rw [h]; exact List.mem_cons_self))]; exact e
end
section
variable {prog : Program} {w : World} {A : Around} {E : Value → Shared → Prop} {s : Shared}
set_option maxHeartbeats 3200000 in
/-- set(t), t a tuple of texts -/
theorem set_of_tup {l : Addr} {items : Array Value} {xs : List Str} {Q : Value → Shared → Prop} (hh : A.handled = none) (hl : s.heap.IsTuple l items) (hi : PyProof.Rows.StrsAre items.toList xs) (room : xs.length + 1 < scanBound)
    (h : ∀ (h' : Heap) (tk : Nat), h'.SetOf (PySem.strKind prog w) s.heap.objs.size (fun y => decide (y ∈ xs)) (uqs xs).length → (∀ b o, b < s.heap.objs.size → s.heap.get? b = some o → h'.get? b = some o) → Q (.ref s.heap.objs.size) { s with heap := h', toks := tk }) :
    wpAny (model prog w) A (call (.type "set") [.ref l]) Q E s := by
  obtain ⟨c, tl, mro⟩ := PySem.F.called_set.mro
  have made := PySem.F.called_set.made
  have sub := PySem.F.called_set.sub
  refine wpAny_call (codeAny_of_tree ?_)
  show wpAny _ _ (callAny (.type "set") _) _ _ _
  refine wpAny_pure ⟨Code.quiet_builtin _ (by decide +kernel), codeAny_builtin PySem.F.entry_type_call ?_⟩
  rw [Around.under_plain (weight_type_call_type "set" [.ref l] []) rfl]
  have f1 := PySem.F.called_set.notType
  have f2 := PySem.F.called_set.canCreate
  have f3 := PySem.F.typeCall_set_1 (.ref l)
  repeat (any_goals (first | assumption | wp_step))
  refine codeAny_mono (code_set_new_1 (.ref l) (E := E) (Q₁ := fun obj s₁ => ∃ led : Bool, obj = .ref s.heap.objs.size ∧ s₁ = { s with heap := s.heap.push { cls := .type "set", dict := none, data := .set #[] 0 (.fresh 0 0 led) } }) fun led => ⟨led, rfl, rfl⟩) fun r s₁ hr => ?_
  cases r with
  | error e => exact hr
  | ok fl => cases fl with
    | ret obj =>
      obtain ⟨led, rfl, rfl⟩ := hr
      obtain ⟨h0, hh0⟩ : ∃ h0, s.heap.push { cls := .type "set", dict := none, data := .set #[] 0 (.fresh 0 0 led) } = h0 := ⟨_, rfl⟩
      have at0 : h0.get? s.heap.objs.size = some { cls := .type "set", dict := none, data := .set #[] 0 (.fresh 0 0 led) } := by rw [← hh0]; exact Heap.get?_push_size _ rfl
      have up0 : ∀ {b o}, s.heap.get? b = some o → h0.get? b = some o := fun e => by rw [← hh0]; exact Heap.get?_push_of_some _ e
      have z0 : h0.objs.size = s.heap.objs.size + 1 := by rw [← hh0]; exact Heap.size_push ..
      rw [hh0]
      have ty : Shared.TypeIs { s with heap := h0 } (.ref s.heap.objs.size) "set" := ⟨_, at0, rfl⟩
      have g1 := PySem.F.called_set.init.lookup
      have g2 := PySem.F.called_set.init.bind (.ref s.heap.objs.size)
      repeat (any_goals (first | assumption | wp_step))
      refine codeAny_mono (codeAny_call_builtin (R := wants (fun r s₂ => r = .none ∧ ∃ h' tk, s₂ = { s with heap := h', toks := tk } ∧ h'.SetOf (PySem.strKind prog w) s.heap.objs.size (fun y => decide (y ∈ xs)) (uqs xs).length ∧ (∀ b o, b < s.heap.objs.size → s.heap.get? b = some o → h'.get? b = some o)) E)
        PySem.F.called_set.init.plain PySem.F.entry_set_init (check_set_init_1 ty ?_)) fun r₂ s₂ hr₂ => ?_
      · obtain ⟨ol, hol, hcl, nl, hdl⟩ := hl
        obtain ⟨ocls, odict, odata, oslots⟩ := ol
        simp only at hcl hdl
        subst hcl hdl
        have hol2 := up0 hol
        have k1 := PySem.F.sub_tuple_set
        have k2 := PySem.F.sub_tuple_frozenset
        have k3 : (Value.type "tuple" == Value.type "dict") = false := by decide
        have tup0 : h0.IsTuple l items := ⟨_, hol2, rfl, nl, rfl⟩
        unfold Builtin.«set.__init__» noKeywords Builtin.Frozenset.updateFrom
        generalize hPI : pyIter = PI
        wp_walk
        subst hPI
        refine wpAny_pyIter_tuple tup0 ?_
        refine wpAny_bind (wpAny_runValue ?_)
        have ll : l < s.heap.objs.size := Heap.lt_size hol
        have len : xs.length = items.size := by rw [← PyProof.Rows.StrsAre.len_eq hi, Array.length_toList]
        refine set_adds (A := A.in1.in1) ((Walks.tuple (by simp [hh]) _ l (Nat.ne_of_lt (show l < h0.objs.size by rw [z0]; exact Nat.lt_succ_of_lt ll)) items).toS) s.heap.objs.size (show s.heap.objs.size ∉ [h0.objs.size, l] by rw [z0]; simp; exact Nat.ne_of_gt ll) xs len (by omega) (fun i v hv => SS.strs_at hi i v (by rw [Array.getElem?_toList]; exact hv)) (items.size - 0) 0 _ (by omega) (Nat.zero_le _)
          ⟨⟨_, Heap.get?_push_size _ rfl, rfl, rfl⟩, (tup0.push _)⟩ ?_ ?_
        · have at1 : (h0.push { cls := .type "tuple_iterator", data := .fields #[.ref l, .int 0 0] }).get? s.heap.objs.size = some { cls := .type "set", dict := none, data := .set #[] 0 (.fresh 0 0 led) } := Heap.get?_push_of_some _ at0
          exact PyProof.Rows.SetOf_congr ((PyProof.Rows.setObjOf_fresh (knd := PySem.strKind prog w) led).setOf at1 (by unfold scanBound; omega)) (fun _ => by simp) rfl
        · intro s' hm hS'
          obtain ⟨h', g', d', tk', os'⟩ := s'
          cases (show g' = s.gens from hm.gens)
          cases (show d' = s.drawn from hm.drawn)
          cases (show os' = s.os from hm.os)
          show wpAny _ _ _ _ _ _
          refine wpAny_pure ?_
          show wpAny _ _ (ret Value.none) _ _ _
          refine wpAny_pure ⟨rfl, h', tk', rfl, hS', fun b o hb e => hm.heap b o ?_ (Heap.get?_push_of_some _ (up0 e))⟩
          show b ∉ [s.heap.objs.size, h0.objs.size]
          rw [z0]
          simp
          exact ⟨Nat.ne_of_lt hb, Nat.ne_of_lt (Nat.lt_succ_of_lt hb)⟩
      · cases r₂ with
        | error e => exact hr₂
        | ok fl₂ => cases fl₂ with
          | ret r =>
            obtain ⟨rfl, h', tk, rfl, hS', hk'⟩ := hr₂
            repeat (any_goals (first | assumption | wp_step))
            exact h _ _ hS' hk'
          | _ => exact hr₂.elim
    | _ => exact hr.elim
end
/-- len(set(e)) -/
def lenSetD (d : D) (S : Store) : R D := match d with
  | .tup xs => match mapO strO xs with
    | some zs => if zs.length < 1000 then .ok (.int ((uqs zs).length : Nat)) S else .bad
    | none => .bad
  | _ => .bad
def lenSetE (m : ME) : ME := fun l S => (m l S).bind lenSetD
section
variable {X : Cx} {cA : Nat → Addr} {W : XK} {m : ME} {K : PySem.W.Frag} {ρ : List Addr} {H : Hp}
open PyProof.Rows in
theorem mlenset {a : Expr} {p p2 q pos : Pos} (hc : X.calm = true) (hg : Gl X "len") (hm : X.mg "len" = none) (hg2 : Gl X "set") (hm2 : X.mg "set" = none) (ha : PE X a (tE X.K cA W m))
    (na : starEach [a] X.env = (false, eval a X.env) :: starEach [] X.env := by rfl) : PE X (.Call (.Name "len" p) [.Call (.Name "set" p2) [a] [] q] [] pos) (tE X.K cA W (lenSetE m)) := by
  refine ⟨fun pins s σ H Q I h => ?_⟩
  refine Call_ (ld_blt I hg hm boot_len ?_)
  refine PyProof.Rows.callWith_builtin1 (PyProof.Rows.args_cons ?_ rfl) rfl rfl
  refine Call_ (ld_blt I hg2 hm2 boot_set ?_)
  refine PyProof.Rows.callWith_type1 (PyProof.Rows.args_cons (thn (ha.run pins s σ H _ I (bind1 (rep1 := rV X.K) st_V h)) fun v s1 ⟨x, H1, I1, r1, q1⟩ => PyProof.Rows.args_nil ?_) na) na rfl
  obtain ⟨ρ, S, d, hS, hr, q1⟩ := q1
  unfold lenSetD at q1
  split at q1
  · rename_i xs
    split at q1
    · rename_i zs ez
      split at q1
      · rename_i few
        have q2 : Q (.int ((uqs zs).length : Nat)) H1 := After.same (rep := rV X.K) q1 hS (by unfold rV RepV; rfl)
        unfold rV RepV at hr
        obtain ⟨l, vs, rfl, hq, hrs⟩ := hr
        have ev := strs_rep ez hrs
        subst ev
        cases r1
        obtain ⟨its, r, pl, hz⟩ := I1.tuple hq
        have le := uqs_le zs
        refine set_of_tup (I1.ok.hd hc) pl (by simpa using L2.strsAre_of r) (by unfold scanBound; omega) fun h' tk hS' hk => ?_
        refine PyProof.Rows.args_nil ?_
        obtain ⟨o, es, ep, t, ho, hex, hd, _, _, _, hf, hn⟩ := hS'
        have I2 : Inv X pins σ H1 { s1 with heap := h', toks := tk } := I1.kept fun b o e => hk b o (Heap.lt_size e) e
        exact call_len_set ho hex hd hf (by rw [hn]; omega) ⟨.int (uqs zs).length, H1, I2.tok _, ⟨_, by rw [hn]⟩, q2⟩
      · exact q1.elim
    · exact q1.elim
  · exact q1.elim
end
end ML

set_option Elab.async false
set_option linter.all false
set_option maxRecDepth 100000
set_option autoImplicit false
/-! ML18: str(..) of a tuple at the top, join of a list that stands, tuples of texts at the module, defs that call themselves. -/
namespace ML
open PySem PySem.Spec L2
/-! ### str(t) -/
def strT (ds : List D) (S : Store) : R D := match ds with
  | [.tup xs] => match toPy S 64 (.tup xs) with
    | some p => if p.canLay0 = true ∧ p.depth ≤ 64 ∧ PyData.showable p = true ∧ (PyData.shown p).length ≤ sizeLine then .ok (.str (PyData.shown p)) S else .bad
    | none => .bad
  | _ => .bad
section
variable {X : Cx} {cA : Nat → Addr} {W : XK} {K : PySem.W.Frag} {ρ : List Addr} {H : Hp}
theorem u100 {k : Nat} {A : Around} (r : Room k A) : A.units + 100 < cLine := by have := r.un; omega
theorem c_strT (hg : X.A.guards = some []) (hu : X.A.units + 100 < cLine) : CallR X (.type "str") (tN X.K cA W (rV X.K) strT) := by
  intro pins s σ H xs us Q I r h
  obtain ⟨ρ, S, ds, hS, hr, h⟩ := h
  unfold strT at h
  split at h
  · rename_i ys
    split at h
    · rename_i p ep
      split at h
      · rename_i hz
        obtain ⟨v, rfl, h1⟩ := one_rep hr
        have q : Q (.str (PyData.shown p)) H := After.same (rep := rV X.K) h hS (by unfold rV RepV; rfl)
        have dp := toPy_rep hS _ _ _ _ ep h1
        unfold RepV at h1
        obtain ⟨a, vs, rfl, _, _⟩ := h1
        cases r with
        | cons r rr =>
          cases rr
          cases r
          obtain ⟨as, rd⟩ := Dp.reads I p _ _ dp rfl
          exact _root_.PySem.str_of_reads rd hz.2.2.1 (_root_.PySem.PyData.noDict_hsm (PyData.hasDict_of_canLay p hz.1)) hg (by have := hz.2.1; omega) (fun _ _ e => e) (fun h' u tk hk => ⟨.str (PyData.shown p), H, I.kept (t' := tk) hk, ⟨_, rfl⟩, q⟩) hz.2.2.2
      · exact h.elim
    · exact h.elim
  · exact h.elim
/-! ### join of a list or tuple that stands -/
def joinV (m n : ME) : ME := fun l S => (m l S).bind fun d S1 => match strO d with
  | some a => (n l S1).bind fun d2 S2 => match seqOf S2 d2 with
    | some ds => match mapO strO ds with
      | some ys => if (ys.map (·.length)).sum + ys.length * a.length ≤ 16777216 then .ok (.str (Str.join a ys)) S2 else .bad
      | none => .bad
    | none => .bad
  | none => .bad
end
section
variable {X : Cx} {cA : Nat → Addr} {W : XK} {o e : Expr} {m n : ME} {apos cpos : Pos}
theorem mjoinV (ho : PE X o (tE X.K cA W m)) (he : PE X e (tE X.K cA W n)) (hs : starEach [e] X.env = [(false, eval e X.env)] := by rfl) (hbase : attributeBase o "join" X.env (eval o X.env) = eval o X.env := by rfl) (hline : (apos.endLine == cpos.line) = true := by rfl) :
    PE X (.Call (.Attribute o "join" apos) [e] [] cpos) (tE X.K cA W (joinV m n)) :=
  (pe_join ho he hs hbase hline).imp fun σ H Q h => (bind1L (rep1 := rV X.K) st_V h).imp fun v H1 h => by
    obtain ⟨ρ, S, l, d, hS, hl, hr, h⟩ := h
    split at h
    · rename_i a e1
      cases d with
      | str b =>
        cases e1
        unfold rV RepV at hr
        subst hr
        refine ⟨⟨a, rfl⟩, ρ, S, l, hS, hl, (After.bind (rep := rV X.K) st_V h).imp fun us H2 h => ?_⟩
        obtain ⟨ρ2, S2, d2, e2, hS2, hr2, h⟩ := h
        split at h
        · rename_i ds e3
          split at h
          · rename_i ys e4
            split at h
            · rename_i hz
              cases d2 with
              | tup xs =>
                cases e3
                unfold rV RepV at hr2
                obtain ⟨p, vs, rfl, h1, h2⟩ := hr2
                have := strs_rep e4 h2
                subst this
                refine ⟨a, p, ys, rfl, rfl, .inr h1, hz, ?_⟩
                rw [show Txt.join a ys = Str.join a ys from PySem.StrLaws.glued_eq_join a ys]
                exact h.same hS2 (by unfold rV RepV; rfl)
              | lis xs =>
                cases e3
                unfold rV RepV at hr2
                obtain ⟨p, vs, rfl, h1, h2⟩ := hr2
                have := strs_rep e4 h2
                subst this
                refine ⟨a, p, ys, rfl, rfl, .inl h1.sq, hz, ?_⟩
                rw [show Txt.join a ys = Str.join a ys from PySem.StrLaws.glued_eq_join a ys]
                exact h.same hS2 (by unfold rV RepV; rfl)
              | ref k =>
                obtain ⟨p, vs, rfl, _, h1, h2⟩ := rlst_rep hS2 hr2 e3
                have := strs_rep e4 h2
                subst this
                refine ⟨a, p, ys, rfl, rfl, .inl (SqL.of h1), hz, ?_⟩
                rw [show Txt.join a ys = Str.join a ys from PySem.StrLaws.glued_eq_join a ys]
                exact h.same hS2 (by unfold rV RepV; rfl)
              | _ => cases e3
            · exact h.elim
          · exact h.elim
        · exact h.elim
      | _ => cases e1
    · exact h.elim
/-! ### a tuple of texts at the module -/
theorem reps_strs {K : PySem.W.Frag} {ρ : List Addr} {H : Hp} : ∀ zs : List Str, RepVs K ρ H (zs.map D.str) (zs.map V.str)
  | [] => .nil
  | z :: zs => .cons (by unfold RepV; rfl) (reps_strs zs)
theorem mgstrs {x : Str} {pos : Pos} (zs : List Str) (hg : Gl X x) (hm : ∃ a, X.mg x = some (.ref a) ∧ ∀ H, SqT X.K H a (zs.map V.str)) (hd : (x == ("__debug__" : Str)) = false := by decide) : PE X (.Name x pos) (tE X.K cA W (conE (.tup (zs.map D.str)))) := by
  obtain ⟨a, hm, hs⟩ := hm
  exact mgtup hg hm hs (fun ρ H => reps_strs zs) hd
theorem sqt_strs {K : PySem.W.Frag} {a : Addr} {n : Nat} {d : Option Addr} {z : Array (Option Value)} {its : Array Value} (l : K.lookup a = some ⟨.type "tuple", d, .seq its n, z⟩) (zs : List Str) (hz : its.size ≤ sizeLine) (h : Vals (zs.map V.str) its.toList) (H : Hp) : SqT K H a (zs.map V.str) :=
  .inr ⟨_, its, n, l, rfl, rfl, hz, h⟩
/-! ### a def that calls itself: the lowest level promises nothing -/
def badF : List D → Store → R D := fun _ _ => .bad
theorem ok_bad {P : Program} {w : World} {K : PySem.W.Frag} {mg : Str → Option Value} {base : Heap} {CX : CXT} {k : Nat} {f : Addr} {fd : FuncData} {ps : List Str} {n : Nat} (h : n = ps.length) : FnOk P w K mg base CX k f fd ps (spM K cA badF n) :=
  ⟨fun vs H Q E q => q.1.trans h, fun A outer s H args us vs Q E hr e b r q => by
    obtain ⟨_, ρ, S, l, _, _, q⟩ := q
    exact q.elim⟩
end
end ML

set_option Elab.async false
set_option linter.all false
set_option maxRecDepth 100000
set_option autoImplicit false
/-! ML21: parts of written tuples, words, lists gone through while the store grows. -/
namespace ML
open PySem PySem.Spec L2
theorem ofS_eq (a b : String) : (Str.ofString a = Str.ofString b) ↔ a = b := by
  constructor
  · intro h
    have := beq_of a b
    rw [h] at this
    simp at this
    exact this
  · intro h; rw [h]
theorem at0 (a : D) (r : List D) : atI (a :: r) 0 = some a := L2.atI_nat (j := 0) rfl
theorem at1 (a b : D) (r : List D) : atI (a :: b :: r) 1 = some b := L2.atI_nat (j := 1) rfl
theorem at2 (a b c : D) (r : List D) : atI (a :: b :: c :: r) 2 = some c := L2.atI_nat (j := 2) rfl
theorem at3 (a b c d : D) (r : List D) : atI (a :: b :: c :: d :: r) 3 = some d := L2.atI_nat (j := 3) rfl
theorem at4 (a b c d e : D) (r : List D) : atI (a :: b :: c :: d :: e :: r) 4 = some e := L2.atI_nat (j := 4) rfl
theorem at5 (a b c d e f : D) (r : List D) : atI (a :: b :: c :: d :: e :: f :: r) 5 = some f := L2.atI_nat (j := 5) rfl
theorem x_inNilS (a : Str) (S : Store) : inD (.str a) (.tup []) S = .ok false S := rfl
theorem x_inNilI (a : Int) (S : Store) : inD (.int a) (.tup []) S = .ok false S := rfl
theorem x_inConsS (a b : Str) (ys : List D) (S : Store) : inD (.str a) (.tup (.str b :: ys)) S = (inD (.str a) (.tup ys) S).bind fun r S1 => .ok (decide (b = a) || r) S1 := by
  have e : eqV (.str b) (.str a) = decide (b = a) := by
    show (b == a) = _
    by_cases q : b = a <;> simp [q]
  unfold inD inO
  simp only [seqOf, mapO_cons, flatO]
  cases mapO flatO ys with
  | none => rfl
  | some vs =>
    simp only [inV, List.any_cons, e]
    rfl
theorem x_inConsI (a b : Int) (ys : List D) (S : Store) : inD (.int a) (.tup (.int b :: ys)) S = (inD (.int a) (.tup ys) S).bind fun r S1 => .ok (decide (b = a) || r) S1 := by
  have e : eqV (.int b) (.int a) = decide (b = a) := by
    show (b == a) = _
    by_cases q : b = a <;> simp [q]
  unfold inD inO
  simp only [seqOf, mapO_cons, flatO]
  cases mapO flatO ys with
  | none => rfl
  | some vs =>
    simp only [inV, List.any_cons, e]
    rfl
theorem x_ninD (x y : D) (S : Store) : notInD x y S = (inD x y S).bind fun r S1 => .ok (!r) S1 := by
  unfold notInD inD
  cases inO S x y <;> rfl
theorem compX {chk : Store → Prop} (mono : ∀ S X, chk S → chk (S ++ X)) {i : Nat} {m : ME} {l : Loc} (f : D → D) : ∀ (ds : List D), (∀ d ∈ ds, ∀ S, chk S → ∃ X, m (l.set i (some d)) S = .ok (f d) (S ++ X)) → ∀ acc S, chk S → acc.length + ds.length ≤ 16000000 → ∃ X, compL chk (.one i) yesM m l ds acc S = .ok (acc ++ ds.map f) (S ++ X)
  | [], _, acc, S, hk, _ => ⟨[], by rw [compL_nil hk]; simp⟩
  | d :: ds, h, acc, S, hk, hl => by
    obtain ⟨Y, eY⟩ := h d List.mem_cons_self S hk
    rw [List.length_cons] at hl
    obtain ⟨Z, eZ⟩ := compX mono f ds (fun x hx => h x (List.mem_cons_of_mem _ hx)) (acc ++ [f d]) (S ++ Y) (mono S Y hk) (by simp; omega)
    refine ⟨Y ++ Z, ?_⟩
    rw [compL_cons hk]
    simp only [Tgt.put, x_yes, R.bind_ok, if_true, eY]
    rw [if_pos (show _ < sizeLine by rw [sz]; omega), eZ]
    simp
/-- the same under what is known of the store -/
theorem compXI {chk Inv : Store → Prop} (mono : ∀ S X, chk S → chk (S ++ X)) (mono2 : ∀ S X, Inv S → Inv (S ++ X)) {i : Nat} {m : ME} {l : Loc} (f : D → D) : ∀ (ds : List D), (∀ d ∈ ds, ∀ S, Inv S → ∃ X, m (l.set i (some d)) S = .ok (f d) (S ++ X)) → ∀ acc S, chk S → Inv S → acc.length + ds.length ≤ 16000000 → ∃ X, compL chk (.one i) yesM m l ds acc S = .ok (acc ++ ds.map f) (S ++ X)
  | [], _, acc, S, hk, _, _ => ⟨[], by rw [compL_nil hk]; simp⟩
  | d :: ds, h, acc, S, hk, hi, hl => by
    obtain ⟨Y, eY⟩ := h d List.mem_cons_self S hi
    rw [List.length_cons] at hl
    obtain ⟨Z, eZ⟩ := compXI mono mono2 f ds (fun x hx => h x (List.mem_cons_of_mem _ hx)) (acc ++ [f d]) (S ++ Y) (mono S Y hk) (mono2 S Y hi) (by simp; omega)
    refine ⟨Y ++ Z, ?_⟩
    rw [compL_cons hk]
    simp only [Tgt.put, x_yes, R.bind_ok, if_true, eY]
    rw [if_pos (show _ < sizeLine by rw [sz]; omega), eZ]
    simp
theorem joinV_eq {m n : ME} {l : Loc} {S S1 : Store} {q : Nat} {ws : List Nat} (h1 : m l S = .ok (.str (Str.ofString "")) S) (h2 : n l S = .ok (.ref q) S1) (h3 : lstAt S1 q = some (ws.map sgn)) (h4 : ws.length ≤ 1000) : joinV m n l S = .ok (strD ws) S1 := by
  have e : (Str.ofString "").length = 0 := by rw [← cs_len, cs_of]; rfl
  unfold joinV
  simp only [h1, h2, R.bind_ok, x_strO, seqOf, h3, strO_sgns, sum_ones, e, Nat.mul_zero, Nat.add_zero]
  rw [if_pos (by omega)]
  have : Str.join (Str.ofString "") (ws.map fun c => (⟨#[c]⟩ : Str)) = mkS ws := cs_ext (by rw [cs_join1, cs_mkS])
  rw [this]
  rfl
theorem compT {chk : Store → Prop} (mono : ∀ S X, chk S → chk (S ++ X)) {i : Nat} {m : ME} {l : Loc} (ds : List D) (h : ∀ d ∈ ds, ∀ S, ∃ X, m (l.set i (some d)) S = .ok (.bl true) (S ++ X)) (S : Store) (hk : chk S) (hl : ds.length ≤ 16000000) : ∃ X, compL chk (.one i) yesM m l ds [] S = .ok (ds.map fun _ => .bl true) (S ++ X) := by
  obtain ⟨X, e⟩ := compX mono (fun _ => .bl true) ds (fun d hd S _ => h d hd S) [] S hk (by simpa using hl)
  exact ⟨X, by simpa using e⟩
theorem still_mono : ∀ S X : Store, still S → still (S ++ X) := fun _ _ _ => trivial
theorem lst_mono (n : Nat) (xs : List D) : ∀ S X : Store, lstAt S n = some xs → lstAt (S ++ X) n = some xs := fun S X h => lstAt_of (at_app (lstAt_some h))
end ML

set_option Elab.async false
set_option linter.all false
set_option maxRecDepth 100000
set_option autoImplicit false
/-! ML22: max(new list of numbers, default=number). -/
namespace ML
open PySem PySem.Spec L2 PyProof.Rows
def maxF (k : Int) : List Int → Int
  | [] => k
  | n :: ns => ns.foldl max n
def maxLD (k : Int) (ds : List D) (S : Store) : R D := match mapO intO ds with
  | some bs => .ok (.int (maxF k bs)) S
  | none => .bad
theorem depth_ints : ∀ ns : List Int, PyData.depthAll (ns.map .int) = 0
  | [] => rfl
  | n :: ns => by
    rw [List.map_cons, PyData.depthAll, depth_ints ns]
    rfl
section
variable {prog : Program} {w : World} {A : Around} {E : Value → Shared → Prop} {s : Shared} {l : Addr} {its : List Value} {ns : List Int} {Q : Value → Shared → Prop}
theorem max_raw_default {k : Int} {t0 : Tok} (hh : A.handled = none) (hl : s.heap.IsList l its.toArray) (hi : IntsAre its ns) (hu : A.units + 1 < cLine)
    (h : ∀ h' tk t', (∀ b o, s.heap.get? b = some o → h'.get? b = some o) → Q (.int (maxF k ns) t') { s with heap := h', toks := tk }) : wpAny (model prog w) A (call (.builtin "max") [.ref l] [(Str.ofString "default", .int k t0)]) Q E s := by
  refine PySem.W.max_list_default (xs := ns.map .int) hh hl (hi.reads _) ⟨?_, ?_⟩ (by rw [depth_ints]; exact hu) ?_ ?_
  · intro x hx y hy
    obtain ⟨a, _, rfl⟩ := List.mem_map.mp hx
    obtain ⟨b, _, rfl⟩ := List.mem_map.mp hy
    rfl
  · intro x hx
    obtain ⟨a, _, rfl⟩ := List.mem_map.mp hx
    intro e
    cases e
  · intro e h' tk hk
    have : ns = [] := by simpa using e
    subst this
    exact h h' tk t0 hk
  · intro y ys i v h' tk bs e hv hr hk
    cases ns with
    | nil => simp at e
    | cons n r =>
      rw [List.map_cons] at e
      cases e
      rw [PySem.W.maxD_ints] at hr
      cases hr with
      | int _ t => exact h h' tk t hk
end
section
variable {X : Cx} {cA : Nat → Addr} {W : XK} {pos p0 kpos cp : Pos} {e : Expr} {n : MA} {k : Int} {j : Nat}
def rMaxD (K : PySem.W.Frag) (cA : Nat → Addr) (W : XK) (k : Int) : List V → List V → Hp → VK → Prop := fun vs zs H Q =>
  ∃ ρ S ds p ws, Reps K cA ρ H S ∧ vs = [.ref p] ∧ SqL K H p ws ∧ RepVs K ρ H ds ws ∧ zs = [.int k] ∧ After K cA W ρ H (rV K) (maxLD k ds S) Q
theorem cr_maxD {kk : Nat} (hc : X.calm = true) (hr : Room kk X.A) : CallRK X (.builtin "max") [Str.ofString "default"] (rMaxD X.K cA W k) := by
  intro pins s σ H xs zs us ws Q I r1 r2 h
  obtain ⟨ρ, S, ds, p, vs, hS, rfl, h1, h2, rfl, h⟩ := h
  unfold maxLD at h
  split at h
  · rename_i bs e
    have := ints_rep e h2
    subst this
    obtain ⟨its, rv, hl, _⟩ := I.list h1
    rw [Vals.ref1 r1]
    cases r2 with
    | cons r rr =>
      cases rr
      obtain ⟨t, rfl⟩ := r
      have u := u100 hr
      exact max_raw_default (I.ok.hd hc) hl.isList rv.ints (by omega) fun h' tk t' hk => ⟨.int _, H, I.kept hk, ⟨_, rfl⟩, h.same hS (by unfold rV RepV; rfl)⟩
  · exact h.elim
theorem mmaxD {kk : Nat} (hc : X.calm = true) (hr : Room kk X.A) (hg : Gl X "max") (hm : X.mg "max" = none) (ha : PE X e (tNw X.K cA W n))
    (he : starEach [e] X.env = (false, eval e X.env) :: starEach [] X.env := by rfl) (hpl : (backTo pos (starEach [e] X.env)).any (·.1) = false := by rfl) (he2 : backTo pos (starEach [e] X.env) = (false, eval e X.env) :: backTo pos (starEach [] X.env) := by rfl) :
    PE X (.Call (.Name "max" p0) [e] [⟨some "default", .Constant (.int k) j cp, kpos⟩] pos) (tE X.K cA W (newL (maxLD k) n)) :=
  (pe_callBK (cr_maxD (cA := cA) (W := W) (k := k) hc hr) hg hm rfl (pa_cons ha pa_nil he) (pk_cons pe_int pk_nil) (by decide) (by decide) he2 hpl rfl rfl rfl).imp fun σ H Q h =>
    (bind1 (rep1 := rNew X.K) st_V h).imp fun v H1 h => by
      obtain ⟨ρ, S, ds, hS, ⟨p, vs, rfl, _, _, h1, h2⟩, h⟩ := h
      exact ⟨ρ, S, ds, p, vs, hS, rfl, SqL.of h1, h2, rfl, h⟩
end
@[simp] theorem x_maxLD (k : Int) (ds : List D) (S : Store) : maxLD k ds S = match mapO intO ds with
  | some bs => .ok (.int (maxF k bs)) S
  | none => .bad := (rfl)
end ML

set_option Elab.async false
set_option linter.all false
set_option maxRecDepth 100000
set_option autoImplicit false
/-! ML23: a def that an except suite hands its exception to. -/
namespace ML
open PySem PySem.Spec L2 PyProof.Rows
theorem mark_self {A : Around} {v : Option Value} (h : A.handled = v) : A.mark v = A := by
  obtain ⟨hd, dp, fr, gu, un⟩ := A
  subst h
  cases hd <;> rfl
structure HotOk (P : Program) (w : World) (K : PySem.W.Frag) (mg : Str → Option Value) (base : Heap) (cA : Nat → Addr) (k : Nat) (f : Addr) (fd : FuncData) (ps : List Str) (sp : Addr → Exn → Sp) : Prop where
  len : ∀ a z vs H Q E, sp a z vs H Q E → vs.length = ps.length
  run : ∀ (A : Around) (outer : List Env) (s : Shared) (H : Hp) (args : Args) (us : List Value) (vs : List V) (Q : VK) (a : Addr) (oe : Obj) (z : Exn) (d : Option Addr), L2H.RoomH k A → A.handled = some (.ref a) → Zc (.ref (cA z.c)) d oe → (z.fs = [] → d = none) → (∃ xs : Array Value, oe.data = .fields xs) →
    L2H.PinOk outer H s (a, oe) → Env0 P w K mg base A outer s H → BindsTo s fd args (ps.zip us) → Vals vs us → sp a z vs H Q NoX → codeAny (model P w) A (.call (.ref f) args) (CR (L2.CX P w) outer P w H s Q NoX) s
section
variable {P : Program} {w : World} {K : PySem.W.Frag} {mg : Str → Option Value} {base : Heap} {cA : Nat → Addr}
theorem hot_run {x qual : Str} {st : Stmt} {f : Addr} {fd : FuncData} {N ps : List Str} {k : Nat} {sp : Addr → Exn → Sp} (F : Fun K x qual st f fd) (S : FnScope N ps (defScope st)) (len : ∀ a z vs H Q E, sp a z vs H Q E → vs.length = ps.length)
    (hb0 : ∀ (cdv : Value) (A : Around) (outer : List Env) (s : Shared) (H : Hp) (vs : List V) (Q : VK) (a : Addr) (oe : Obj) (z : Exn) (d : Option Addr), L2H.RoomH k (A.deeper (envOfC qual (defScope st) s.heap.objs.size f cdv)) → Zc (.ref (cA z.c)) d oe → (z.fs = [] → d = none) → (∃ xs : Array Value, oe.data = .fields xs) → sp a z vs H Q NoX →
      ∃ t, PSs ((cxOf (L2.CX P w) P w K mg base N qual (defScope st) f cdv A outer s H NoX).suite a [(a, oe)]) (defBody st) t ∧ t { nx := fun _ H' => Q .non H', rt := Q } (start N vs) H) : HotOk P w K mg base cA (k + 1) f fd ps sp := by
  obtain ⟨oc, od, kV, doc, pm, an, cdv, ct, osl, rfl, lk, hcd⟩ := F.ex
  refine ⟨len, fun A outer s H args us vs Q a oe z d room hh hz hd hf pin e0 binds vals q => ?_⟩
  have there : ∀ b o, base.get? b = some o → s.heap.get? b = some o := fun b o e => (e0.bs b o e).1
  have inK : K.In s.heap := e0.mod.kin.keeps there
  refine codeAny_call_function room.depth (inK _ _ lk) rfl S.co S.gen rfl (PySem.W.codeRec_of inK hcd) (binds _ _ _ _ ?_)
  have kinds : ∀ y ∈ ps.zip us, (defScope st).names.lookup y.1 = some .local ∨ ((defScope st).names.lookup y.1 = some .cell ∧ ((cellsFrom (s.heap.objs.size + 1) (defScope st).names []).lookup y.1).isSome = true) := by
    rintro ⟨n, v⟩ hy
    cases S.par n (List.of_mem_zip hy).1 with
    | inl z => exact .inl z
    | inr z => exact .inr ⟨z, PySem.W.cellsFrom_some _ _ _ (.inl z)⟩
  refine wpAny_newFunctionEnv_cells S.kind kinds fun env he s1 new => ?_
  subst he
  refine ⟨(e0.mod.nolimit.keeps there).keeps new.toInCall.keep, codeAny_func ?_⟩
  obtain ⟨t, body, wish⟩ := hb0 cdv A outer s H vs Q a oe z d (room.deeper _) hz hd hf q
  have inv := L2H.inv_startH (CX := L2.CX P w) (cd := cdv) (qual := qual) (f := f) (E := NoX) S pin e0 (len _ _ _ _ _ _ q) vals new
  have hA : (A.deeper (envOfC qual (defScope st) s.heap.objs.size f cdv)).mark (some (.ref a)) = A.deeper (envOfC qual (defScope st) s.heap.objs.size f cdv) := mark_self hh
  have inv2 : Inv ((cxOf (L2.CX P w) P w K mg base N qual (defScope st) f cdv A outer s H NoX).suite a [(a, oe)]) [] (start N vs) H s1 := by
    have h := inv.toTry (fun _ _ => False)
    have e : (cxOf (L2.CX P w) P w K mg base N qual (defScope st) f cdv A outer s H NoX).suite a [(a, oe)] = (L2H.cxH (L2.CX P w) P w K mg base N qual (defScope st) f cdv A outer s H NoX (a, oe)).tr [(a, oe)] (fun _ _ => False) := by
      unfold L2H.cxH Cx.suite Cx.tr cxOf
      rw [hA]
    rw [e]
    exact h
  have r : wpAny (model P w) ((A.deeper (envOfC qual (defScope st) s.heap.objs.size f cdv)).mark (some (.ref a))) _ _ _ s1 := body.run [] s1 (start N vs) H _ inv2 wish
  rw [hA] at r
  refine wpAny_mono r ?_ fun _ _ z => z.elim
  intro fl s2 z
  cases fl with
  | next => obtain ⟨_, H2, J, z⟩ := z; exact ⟨.non, H2, J.os, J.bare, J.base, J.hok, rfl, z⟩
  | ret u => obtain ⟨v, _, H2, J, rv, z⟩ := z; exact ⟨v, H2, J.os, J.bare, J.base, J.hok, rv, z⟩
  | brk => obtain ⟨_, _, _, z⟩ := z; exact z.elim
  | cont => obtain ⟨_, _, _, z⟩ := z; exact z.elim
theorem defHot {x qual : Str} {st : Stmt} {f : Addr} {fd : FuncData} {N ps : List Str} {k : Nat} {m : Addr → Exn → MS} (F : Fun K x qual st f fd) (S : FnScope N ps (defScope st))
    (hbody : ∀ (cdv : Value) (A : Around) (outer : List Env) (s : Shared) (H : Hp) (a : Addr) (oe : Obj) (z : Exn) (d : Option Addr), L2H.RoomH k (A.deeper (envOfC qual (defScope st) s.heap.objs.size f cdv)) → Zc (.ref (cA z.c)) d oe → (z.fs = [] → d = none) → (∃ xs : Array Value, oe.data = .fields xs) →
      PSs ((cxOf (L2.CX P w) P w K mg base N qual (defScope st) f cdv A outer s H NoX).suite a [(a, oe)]) (defBody st) (tS K cA NoX (m a z))) : HotOk P w K mg base cA (k + 1) f fd ps (fun a z => spM K cA (bodyF N.length (m a z)) ps.length) :=
  hot_run F S (fun a z vs H Q E h => h.1) fun cdv A outer s H vs Q a oe z d hr hz hd hf h => by
    obtain ⟨hl, ρ, S0, ds, hS, hrep, h⟩ := h
    refine ⟨tS K cA NoX (m a z), hbody cdv A outer s H a oe z d hr hz hd hf, ρ, S0, startL N.length ds, hS, start_rep hrep, (After.bind (rep := rS K) st_V h).imp fun b H1 h => ?_⟩
    obtain ⟨ρ1, S1, a, e1, hS1, ⟨hl1, hf⟩, h⟩ := h
    obtain ⟨fl, l1⟩ := a
    obtain ⟨g, σ1⟩ := b
    cases fl with
    | nx => cases g with
      | nx => exact After.same (rep := rV K) h hS1 rep_non'
      | _ => exact hf.elim
    | rt d => cases g with
      | rt v => exact After.same (rep := rV K) h hS1 hf
      | _ => exact hf.elim
    | bk => exact h.elim
    | ct => exact h.elim
end
/-- such a def as its callers know it -/
structure HotM (P : Program) (w : World) (K : PySem.W.Frag) (mg : Str → Option Value) (base : Heap) (cA : Nat → Addr) (k : Nat) (x : Str) (n : Nat) (G : Addr → Exn → List D → Store → R D) : Prop where
  ex : ∃ f fd ps, mg x = some (.ref f) ∧ PySem.W.keepIn K (.ref f) = true ∧ Binds K fd ps [] ∧ HotOk P w K mg base cA k f fd ps (fun a z => spM K cA (G a z) n)
section
variable {X : Cx} {cA : Nat → Addr} {k j n : Nat} {x : Str} {p pos : Pos} {e : Expr} {es : List Expr} {m : MA} {G : Addr → Exn → List D → Store → R D} {a : Addr} {oe : Obj} {pn : List (Addr × Obj)} {z : Exn} {d : Option Addr}
theorem hotcall (F : HotM X.prog X.w X.K X.mg X.base cA k x n G) (hk : k ≤ j) (hr : Room j X.A) (hz : Zc (.ref (cA z.c)) d oe) (hd : z.fs = [] → d = none) (hf : ∃ xs : Array Value, oe.data = .fields xs) (hg : Gl X x) (ha : PA (X.suite a ((a, oe) :: pn)) (e :: es) (tAs X.K cA NoX m))
    (hdb : (x == ("__debug__" : Str)) = false := by decide) (he : starEach (e :: es) X.env = (false, eval e X.env) :: starEach es X.env := by rfl) (hpl : (backTo pos (starEach es X.env)).any (·.1) = false := by rfl) :
    PE (X.suite a ((a, oe) :: pn)) (.Call (.Name x p) (e :: es) [] pos) (tE X.K cA NoX (callE n (G a z) m)) := by
  obtain ⟨f, fd, ps, hm, hkp, hb, FF⟩ := F.ex
  refine ⟨fun pins s σ H Q I h => ?_⟩
  refine wpAny_Call_Name_kw (ld_glob (X := X.suite a ((a, oe) :: pn)) I hg hm ?_ hdb)
  refine PySem.W.callWith_K (h₀ := X.base) I.ok.mod.kin hkp (thn (ha.run pos pins s σ H _ I (call_of (X := X) h)) fun us s1 ⟨vs, H1, I1, r, q⟩ => ⟨I1.kIn, ?_⟩) he hpl
  have hl : us.length = ps.length := by rw [← r.length]; exact FF.len _ _ _ _ _ _ q
  have b := hb s1 us I1.kIn (by rw [List.append_nil]; exact hl)
  rw [List.append_nil] at b
  have P1 := I1.pin (a, oe) (List.mem_append_left _ List.mem_cons_self)
  have pin : L2H.PinOk X.stack H1 s1 (a, oe) := ⟨P1.1, P1.2.1, fun hm => (List.mem_cons.mp (I1.stkSub a hm)).elim P1.2.2.1 P1.2.2.2.1, P1.2.2.2.2⟩
  have rh : L2H.RoomH k (X.A.mark (some (.ref a))) := (⟨hr.dp, hr.un⟩ : L2H.RoomH j (X.A.mark (some (.ref a)))).mono hk
  refine wpAny_call (codeAny_mono (FF.run (X.A.mark (some (.ref a))) X.stack s1 H1 ⟨us, []⟩ us vs Q a oe z d rh rfl hz hd hf pin I1.env0 b r q) fun r s' hq => ?_)
  cases r with
  | error e =>
    obtain ⟨_, _, _, _, _, _, _, _, _, _, _, _, h⟩ := hq
    exact h.elim
  | ok fl =>
    cases fl with
    | ret u => exact I1.after hq
    | next => exact hq.elim
    | brk => exact hq.elim
    | cont => exact hq.elim
end
end ML
namespace ML
open PySem PySem.Spec L2
theorem HotM.mk' {P : Program} {w : World} {K : PySem.W.Frag} {mg : Str → Option Value} {base : Heap} {cA : Nat → Addr} {k n : Nat} {x qual : Str} {st : Stmt} {f : Addr} {fd : FuncData} {ps : List Str} {G : Addr → Exn → List D → Store → R D} (F : Fun K x qual st f fd) (hm : mg x = some (.ref f)) (b : Binds K fd ps []) (ok : HotOk P w K mg base cA k f fd ps (fun a z => spM K cA (G a z) n)) : HotM P w K mg base cA k x n G := ⟨⟨f, fd, ps, hm, F.kp, b, ok⟩⟩
end ML

set_option Elab.async false
set_option linter.all false
set_option maxRecDepth 100000
set_option autoImplicit false
/-! ML24: zip of two tuples or two lists, xs[::-1] of a list. -/
namespace ML
open PySem PySem.Spec L2
def pairsOf (xs ys : List D) : List D := (xs.zip ys).map fun p => .tup [p.1, p.2]
theorem pairs_len (xs ys : List D) : (pairsOf xs ys).length = min xs.length ys.length := by simp [pairsOf]
theorem pairs_at {xs ys : List D} {i : Nat} {d : D} (h : (pairsOf xs ys)[i]? = some d) : ∃ x y, xs[i]? = some x ∧ ys[i]? = some y ∧ d = .tup [x, y] := by
  unfold pairsOf at h
  rw [List.getElem?_map] at h
  cases e : (xs.zip ys)[i]? with
  | none => rw [e] at h; cases h
  | some p =>
    rw [e] at h
    cases h
    obtain ⟨h1, h2⟩ := List.getElem?_zip_eq_some.mp e
    exact ⟨p.1, p.2, h1, h2, rfl⟩
def zipD (ds : List D) (S : Store) : R Sn := match ds with
  | [.tup xs, .tup ys] => .ok (pairsOf xs ys, still) S
  | [.ref n, .ref m] => match lstAt S n, lstAt S m with
    | some xs, some ys => .ok (pairsOf xs ys, fun S' => lstAt S' n = some xs ∧ lstAt S' m = some ys) S
    | _, _ => .bad
  | _ => .bad
def srcZ (m : MA) : Loc → Store → R Sn := fun l S => (m l S).bind zipD
section
variable {X : Cx} {cA : Nat → Addr} {W : XK} {K : PySem.W.Frag}
theorem src_zipT {ρ : List Addr} {H : Hp} {a b : Addr} {vs ws : List V} {xs ys : List D} (h1 : SqT K H a vs) (r1 : RepVs K ρ H xs vs) (h2 : SqT K H b ws) (r2 : RepVs K ρ H ys ws) : SrcOk K cA (RZ.ItzT K a b) ρ H (pairsOf xs ys, still) := by
  have l1 := RepVs.length r1
  have l2 := RepVs.length r2
  refine ⟨fun ρ' H' S e hS _ i d hd => ?_, fun ρ' H' S e _ _ => ⟨vs, ws, SqT.ext e h1, SqT.ext e h2, by
    show vs.length ≤ (pairsOf xs ys).length ∨ ws.length ≤ (pairsOf xs ys).length
    rw [pairs_len]; omega⟩⟩
  obtain ⟨x, y, hx, hy, rfl⟩ := pairs_at hd
  obtain ⟨v, hv, rv⟩ := RepVs.get r1 i x hx
  obtain ⟨w, hw, rw'⟩ := RepVs.get r2 i y hy
  refine ⟨⟨vs, ws, v, w, SqT.ext e h1, SqT.ext e h2, hv, hw⟩, fun u H2 hu => ?_⟩
  obtain ⟨T, p, q, rfl, hT, rfl, hp, hq⟩ := hu
  have e1 := hp vs (SqT.ext e h1)
  have e2 := hq ws (SqT.ext e h2)
  rw [hv] at e1
  rw [hw] at e2
  cases e1
  cases e2
  have E : Ext ρ' H' ρ' (upd H' T (.tup [v, w])) := Ext.new hT
  refine ⟨E, fun c hc => upd_ne (fun z => by subst z; exact hS.free hT hc), ?_⟩
  unfold RepV
  exact ⟨T, [v, w], rfl, SqT.of upd_same, by unfold RepVs; exact ⟨v, [w], rfl, (rv.ext e).ext E, by unfold RepVs; exact ⟨w, [], rfl, (rw'.ext e).ext E, by unfold RepVs; rfl⟩⟩⟩
theorem src_zipL {ρ : List Addr} {H : Hp} {a b : Addr} {xs ys : List D} {chk : Store → Prop} (hs : ∀ (ρ' : List Addr) (H' : Hp) (S : Store), Ext ρ H ρ' H' → Reps K cA ρ' H' S → chk S → ∃ vs ws, SqL K H' a vs ∧ RepVs K ρ' H' xs vs ∧ SqL K H' b ws ∧ RepVs K ρ' H' ys ws) : SrcOk K cA (Itz K a b) ρ H (pairsOf xs ys, chk) := by
  refine ⟨fun ρ' H' S e hS hk i d hd => ?_, fun ρ' H' S e hS hk => ?_⟩
  · obtain ⟨vs, ws, h1, r1, h2, r2⟩ := hs ρ' H' S e hS hk
    obtain ⟨x, y, hx, hy, rfl⟩ := pairs_at hd
    obtain ⟨v, hv, rv⟩ := RepVs.get r1 i x hx
    obtain ⟨w, hw, rw'⟩ := RepVs.get r2 i y hy
    refine ⟨⟨vs, ws, v, w, h1, h2, hv, hw⟩, fun u H2 hu => ?_⟩
    obtain ⟨T, p, q, rfl, hT, rfl, hp, hq⟩ := hu
    have e1 := hp vs h1
    have e2 := hq ws h2
    rw [hv] at e1
    rw [hw] at e2
    cases e1
    cases e2
    have E : Ext ρ' H' ρ' (upd H' T (.tup [v, w])) := Ext.new hT
    refine ⟨E, fun c hc => upd_ne (fun z => by subst z; exact hS.free hT hc), ?_⟩
    unfold RepV
    exact ⟨T, [v, w], rfl, SqT.of upd_same, by unfold RepVs; exact ⟨v, [w], rfl, rv.ext E, by unfold RepVs; exact ⟨w, [], rfl, rw'.ext E, by unfold RepVs; rfl⟩⟩⟩
  · obtain ⟨vs, ws, h1, r1, h2, r2⟩ := hs ρ' H' S e hS hk
    have l1 := RepVs.length r1
    have l2 := RepVs.length r2
    exact ⟨vs, ws, h1, h2, by
      show vs.length ≤ (pairsOf xs ys).length ∨ ws.length ≤ (pairsOf xs ys).length
      rw [pairs_len]; omega⟩
theorem isrcZ {e e2 : Expr} {n : MA} {p pos tpos : Pos} {elts : List Expr} {kk : Nat} (hg : Gl X "zip") (hm : X.mg "zip" = none) (ha : PA X [e, e2] (tAs X.K cA W n))
    (hs : starEach [e, e2] X.env = (false, eval e X.env) :: starEach [e2] X.env := by rfl) (hpl : (backTo pos (starEach [e2] X.env)).any (·.1) = false := by rfl) : PI X (.Tuple elts kk tpos) (.Call (.Name "zip" p) [e, e2] [] pos) (tSrc X.K cA W (srcZ n)) :=
  (RZ.pi_zipA hg hm ha hs hpl).imp fun σ H R h => (bind1 (rep1 := rVs X.K) st_Src h).imp fun vs H1 h => by
    obtain ⟨ρ, S, ds, hS, hr, h⟩ := h
    unfold zipD at h
    split at h
    · obtain ⟨v1, q1, rfl, g1, hr⟩ := (by unfold RepVs at hr; exact hr)
      obtain ⟨v2, rfl, g2⟩ := one_rep hr
      unfold RepV at g1 g2
      obtain ⟨a, us, rfl, h1, r1⟩ := g1
      obtain ⟨b, ws, rfl, h2, r2⟩ := g2
      exact ⟨a, b, us, ws, rfl, .inr ⟨h1, h2, After.same (rep := rSrc X.K cA) h hS (src_zipT h1 r1 h2 r2)⟩⟩
    · rename_i n m
      split at h
      · rename_i xs ys e1 e2
        obtain ⟨v1, q1, rfl, g1, hr⟩ := (by unfold RepVs at hr; exact hr)
        obtain ⟨v2, rfl, g2⟩ := one_rep hr
        obtain ⟨a, us, rfl, _, h1, r1⟩ := rlst_rep hS g1 e1
        obtain ⟨b, ws, rfl, _, h2, r2⟩ := rlst_rep hS g2 e2
        refine ⟨a, b, us, ws, rfl, .inl ⟨SqL.of h1, SqL.of h2, After.same (rep := rSrc X.K cA) h hS (src_zipL fun ρ2 H2 S2 e0 hS2 hk => ?_)⟩⟩
        obtain ⟨a', us', ea, _, h3, r3⟩ := rlst_rep hS2 (g1.ext e0) hk.1
        obtain ⟨b', ws', eb, _, h4, r4⟩ := rlst_rep hS2 (g2.ext e0) hk.2
        cases ea
        cases eb
        exact ⟨us', ws', SqL.of h3, r3, SqL.of h4, r4⟩
      · exact h.elim
    · exact h.elim
/-! ### backwards -/
def revN (m : ME) : MA := fun l S => (m l S).bind fun d S1 => match lstOf S1 d with
  | some xs => .ok xs.reverse S1
  | none => .bad
theorem mrev {e : Expr} {m : ME} {k : Nat} {p1 p2 p3 pos : Pos} (he : PE X e (tE X.K cA W m)) : PE X (.Subscript e (.Slice none none (some (.UnaryOp .USub (.Constant (.int 1) k p1) p2)) p3) pos) (tNw X.K cA W (revN m)) :=
  (pe_revL he).imp fun σ H Q h => (bind1 (rep1 := rV X.K) st_New h).imp fun x H1 h => by
    obtain ⟨ρ, S, d, hS, hr, h⟩ := h
    split at h
    · rename_i xs e1
      obtain ⟨a, vs, rfl, h1, h2⟩ := lst_rep hS hr e1
      exact ⟨a, vs, rfl, h1, fun p hp => h.fresh hS hp h2.reverse⟩
    · exact h.elim
end
@[simp] theorem x_srcZ (r : MA) (l : Loc) (S : Store) : srcZ r l S = (r l S).bind zipD := (rfl)
@[simp] theorem x_revN (m : ME) (l : Loc) (S : Store) : revN m l S = (m l S).bind fun d S1 => match lstOf S1 d with
  | some xs => .ok xs.reverse S1
  | none => .bad := (rfl)
@[simp] theorem x_zipT (xs ys : List D) (S : Store) : zipD [.tup xs, .tup ys] S = .ok (pairsOf xs ys, still) S := (rfl)
theorem x_zipL {S : Store} {n m : Nat} {xs ys : List D} (h1 : lstAt S n = some xs) (h2 : lstAt S m = some ys) : zipD [.ref n, .ref m] S = .ok (pairsOf xs ys, fun S' => lstAt S' n = some xs ∧ lstAt S' m = some ys) S := by
  unfold zipD
  simp only [h1, h2]
end ML

set_option Elab.async false
set_option linter.all false
set_option maxRecDepth 100000
set_option autoImplicit false
set_option maxHeartbeats 4000000
namespace K23
open PySem PySem.Spec L2 ML
def topS (i : Nat) : Stmt := PySem.Challenge.pw_waitloom_k23_things_kept.main.body.getD i (.Pass ⟨0, 0, 0, 0⟩)
abbrev s_HeapXX_initXX : Stmt := inClass (topS 17) 0
abbrev N_HeapXX_initXX : List Str := ["self"]
theorem sc_HeapXX_initXX : FnScope N_HeapXX_initXX ["self"] (defScope s_HeapXX_initXX) := ⟨rfl, rfl, rfl, by decide +kernel, rfl, by decide +kernel, by decide +kernel⟩
abbrev s_Heap_need : Stmt := inClass (topS 17) 2
abbrev N_Heap_need : List Str := ["self", "k"]
theorem sc_Heap_need : FnScope N_Heap_need ["self", "k"] (defScope s_Heap_need) := ⟨rfl, rfl, rfl, by decide +kernel, rfl, by decide +kernel, by decide +kernel⟩
abbrev s_BoxXX_initXX : Stmt := inClass (topS 11) 0
abbrev N_BoxXX_initXX : List Str := ["self", "value"]
theorem sc_BoxXX_initXX : FnScope N_BoxXX_initXX ["self", "value"] (defScope s_BoxXX_initXX) := ⟨rfl, rfl, rfl, by decide +kernel, rfl, by decide +kernel, by decide +kernel⟩
abbrev s_MakerXX_initXX : Stmt := inClass (topS 12) 0
abbrev N_MakerXX_initXX : List Str := ["self", "own", "taken"]
theorem sc_MakerXX_initXX : FnScope N_MakerXX_initXX ["self", "own", "taken"] (defScope s_MakerXX_initXX) := ⟨rfl, rfl, rfl, by decide +kernel, rfl, by decide +kernel, by decide +kernel⟩
abbrev s_WaitingXX_initXX : Stmt := inClass (topS 14) 0
abbrev N_WaitingXX_initXX : List Str := ["self", "own", "at", "slots", "boxes", "taken"]
theorem sc_WaitingXX_initXX : FnScope N_WaitingXX_initXX ["self", "own", "at", "slots", "boxes", "taken"] (defScope s_WaitingXX_initXX) := ⟨rfl, rfl, rfl, by decide +kernel, rfl, by decide +kernel, by decide +kernel⟩
abbrev s_thing_of : Stmt := topS 15
abbrev N_thing_of : List Str := ["told"]
theorem sc_thing_of : FnScope N_thing_of ["told"] (defScope s_thing_of) := ⟨rfl, rfl, rfl, by decide +kernel, rfl, by decide +kernel, by decide +kernel⟩
abbrev s_Heap_change : Stmt := inClass (topS 17) 3
abbrev N_Heap_change : List Str := ["self", "k", "thing"]
theorem sc_Heap_change : FnScope N_Heap_change ["self", "k", "thing"] (defScope s_Heap_change) := ⟨rfl, rfl, rfl, by decide +kernel, rfl, by decide +kernel, by decide +kernel⟩
abbrev s_Heap_put : Stmt := inClass (topS 17) 1
abbrev N_Heap_put : List Str := ["self", "thing"]
theorem sc_Heap_put : FnScope N_Heap_put ["self", "thing"] (defScope s_Heap_put) := ⟨rfl, rfl, rfl, by decide +kernel, rfl, by decide +kernel, by decide +kernel⟩
abbrev s__law_draw : Stmt := topS 19
abbrev N__law_draw : List Str := ["_law_script", "_law_k"]
theorem sc__law_draw : FnScope N__law_draw ["_law_script", "_law_k"] (defScope s__law_draw) := ⟨rfl, rfl, rfl, by decide +kernel, rfl, by decide +kernel, by decide +kernel⟩
abbrev s_Heap_numbers : Stmt := inClass (topS 17) 5
abbrev N_Heap_numbers : List Str := ["self"]
theorem sc_Heap_numbers : FnScope N_Heap_numbers ["self"] (defScope s_Heap_numbers) := ⟨rfl, rfl, rfl, by decide +kernel, rfl, by decide +kernel, by decide +kernel⟩
abbrev s_Box_shape : Stmt := inClass (topS 11) 1
abbrev N_Box_shape : List Str := ["self"]
theorem sc_Box_shape : FnScope N_Box_shape ["self"] (defScope s_Box_shape) := ⟨rfl, rfl, rfl, by decide +kernel, rfl, by decide +kernel, by decide +kernel⟩
abbrev s_Looper_kind_word : Stmt := inClass (topS 13) 0
abbrev N_Looper_kind_word : List Str := ["self"]
theorem sc_Looper_kind_word : FnScope N_Looper_kind_word ["self"] (defScope s_Looper_kind_word) := ⟨rfl, rfl, rfl, by decide +kernel, rfl, by decide +kernel, by decide +kernel⟩
abbrev s_Maker_kind_word : Stmt := inClass (topS 12) 1
abbrev N_Maker_kind_word : List Str := ["self"]
theorem sc_Maker_kind_word : FnScope N_Maker_kind_word ["self"] (defScope s_Maker_kind_word) := ⟨rfl, rfl, rfl, by decide +kernel, rfl, by decide +kernel, by decide +kernel⟩
abbrev s_Waiting_kind_word : Stmt := inClass (topS 14) 1
abbrev N_Waiting_kind_word : List Str := ["self"]
theorem sc_Waiting_kind_word : FnScope N_Waiting_kind_word ["self"] (defScope s_Waiting_kind_word) := ⟨rfl, rfl, rfl, by decide +kernel, rfl, by decide +kernel, by decide +kernel⟩
abbrev s_Maker_shape : Stmt := inClass (topS 12) 2
abbrev N_Maker_shape : List Str := ["self"]
theorem sc_Maker_shape : FnScope N_Maker_shape ["self"] (defScope s_Maker_shape) := ⟨rfl, rfl, rfl, by decide +kernel, rfl, by decide +kernel, by decide +kernel⟩
abbrev s_Waiting_shape : Stmt := inClass (topS 14) 2
abbrev N_Waiting_shape : List Str := ["self"]
theorem sc_Waiting_shape : FnScope N_Waiting_shape ["self"] (defScope s_Waiting_shape) := ⟨rfl, rfl, rfl, by decide +kernel, rfl, by decide +kernel, by decide +kernel⟩
abbrev s_Heap_thing : Stmt := inClass (topS 17) 4
abbrev N_Heap_thing : List Str := ["self", "k"]
theorem sc_Heap_thing : FnScope N_Heap_thing ["self", "k"] (defScope s_Heap_thing) := ⟨rfl, rfl, rfl, by decide +kernel, rfl, by decide +kernel, by decide +kernel⟩
abbrev s__law_alone : Stmt := topS 25
abbrev N__law_alone : List Str := ["_law_e"]
theorem sc__law_alone : FnScope N__law_alone ["_law_e"] (defScope s__law_alone) := ⟨rfl, rfl, rfl, by decide +kernel, rfl, by decide +kernel, by decide +kernel⟩
abbrev s__law_refused : Stmt := topS 26
abbrev N__law_refused : List Str := ["_law_heap", "_law_k", "_law_change", "_law_e"]
theorem sc__law_refused : FnScope N__law_refused ["_law_heap", "_law_k", "_law_change"] (defScope s__law_refused) := ⟨rfl, rfl, rfl, by decide +kernel, rfl, by decide +kernel, by decide +kernel⟩
abbrev s__law_same : Stmt := topS 21
abbrev N__law_same : List Str := ["_law_found", "_law_due", "_law_one", "_law_other"]
theorem sc__law_same : FnScope N__law_same ["_law_found", "_law_due"] (defScope s__law_same) := ⟨rfl, rfl, rfl, by decide +kernel, rfl, by decide +kernel, by decide +kernel⟩
abbrev s__law_right : Stmt := topS 27
abbrev N__law_right : List Str := ["_law_heap", "_law_there", "_law_held", "_law_cell", "_law_numbers", "_law_k", "_law_found", "_law_odd", "_law_one", "_law_other"]
theorem sc__law_right : FnScope N__law_right ["_law_heap", "_law_there", "_law_held", "_law_cell"] (defScope s__law_right) := ⟨rfl, rfl, rfl, by decide +kernel, rfl, by decide +kernel, by decide +kernel⟩
abbrev s__law_spread : Stmt := topS 20
abbrev N__law_spread : List Str := ["_law_cell", "_law_k"]
theorem sc__law_spread : FnScope N__law_spread ["_law_cell", "_law_k"] (defScope s__law_spread) := ⟨rfl, rfl, rfl, by decide +kernel, rfl, by decide +kernel, by decide +kernel⟩
abbrev s__law_boxes : Stmt := topS 23
abbrev N__law_boxes : List Str := ["_law_cell", "_law_many", "_law_k"]
theorem sc__law_boxes : FnScope N__law_boxes ["_law_cell", "_law_many"] (defScope s__law_boxes) := ⟨rfl, rfl, rfl, by decide +kernel, rfl, by decide +kernel, by decide +kernel⟩
abbrev s__law_value : Stmt := topS 22
abbrev N__law_value : List Str := ["_law_cell", "_law_many"]
theorem sc__law_value : FnScope N__law_value ["_law_cell", "_law_many"] (defScope s__law_value) := ⟨rfl, rfl, rfl, by decide +kernel, rfl, by decide +kernel, by decide +kernel⟩
abbrev s__law_thing : Stmt := topS 24
abbrev N__law_thing : List Str := ["_law_cell", "_law_many", "_law_more", "_law_slots", "_law_boxes_here", "_law_at", "_law_k"]
theorem sc__law_thing : FnScope N__law_thing ["_law_cell", "_law_many"] (defScope s__law_thing) := ⟨rfl, rfl, rfl, by decide +kernel, rfl, by decide +kernel, by decide +kernel⟩
abbrev s_law : Stmt := topS 28
abbrev N_law : List Str := ["_law_script", "_law_heaps", "_law_there", "_law_held", "_law_cell", "_law_side", "_law_heap", "_law_many", "_law_thing_here", "_law_at", "_law_due", "_law_found"]
theorem sc_law : FnScope N_law ["_law_script"] (defScope s_law) := ⟨rfl, rfl, rfl, by decide +kernel, rfl, by decide +kernel, by decide +kernel⟩
def hit_LoomError (c : Nat) : Option Bool := match c with
  | 6 => some true
  | _ => none
def kis (c : Nat) (n : CN) : Option Bool := match c, n with
  | 6, .own 1 => some false
  | 6, .own 2 => some false
  | 6, .own 3 => some false
  | 6, .own 4 => some false
  | 6, .own 5 => some false
  | 6, .own 6 => some true
  | 6, .ty "ValueError" => some true
  | _, _ => none
noncomputable def m_HeapXX_initXX : MS := seqS (fldS [12] "there" (varE 0) (dict0)) (fldS [12] "count" (varE 0) (conE (.int 0)))
noncomputable def F_HeapXX_initXX : List D → Store → R D := bodyF N_HeapXX_initXX.length m_HeapXX_initXX
noncomputable def m_Heap_need : MS := ifS (orM (notM (ofV (toV (isE "int" (varE 1))))) (orM (ofV (toV (isE "bool" (varE 1)))) (cmpM notInD (varE 1) (fldE [12] "there" (varE 0))))) (raiseS 6) (nilS)
noncomputable def F_Heap_need : List D → Store → R D := bodyF N_Heap_need.length m_Heap_need
noncomputable def m_BoxXX_initXX : MS := fldS [8] "value" (varE 0) (varE 1)
noncomputable def F_BoxXX_initXX : List D → Store → R D := bodyF N_BoxXX_initXX.length m_BoxXX_initXX
noncomputable def m_MakerXX_initXX : MS := seqS (fldS [9, 10, 11] "own" (varE 0) (varE 1)) (fldS [9, 10, 11] "taken" (varE 0) (varE 2))
noncomputable def F_MakerXX_initXX : List D → Store → R D := bodyF N_MakerXX_initXX.length m_MakerXX_initXX
noncomputable def m_WaitingXX_initXX : MS := seqS (fldS [9, 10, 11] "own" (varE 0) (varE 1)) (seqS (fldS [11] "at" (varE 0) (varE 2)) (seqS (fldS [11] "slots" (varE 0) (varE 3)) (seqS (fldS [11] "boxes" (varE 0) (varE 4)) (fldS [9, 10, 11] "taken" (varE 0) (varE 5)))))
noncomputable def F_WaitingXX_initXX : List D → Store → R D := bodyF N_WaitingXX_initXX.length m_WaitingXX_initXX
noncomputable def m_thing_of : MS := seqS (ifS (cmpM eqD (binE ixD (varE 0) (conE (.int 0))) (conE (.str (Str.ofString "box")))) (retS (makeE 8 2 F_BoxXX_initXX (consA (binE ixD (varE 0) (conE (.int 1))) (nilA)))) (nilS)) (seqS (ifS (cmpM eqD (binE ixD (varE 0) (conE (.int 0))) (conE (.str (Str.ofString "fun")))) (retS (makeE 9 3 F_MakerXX_initXX (consA (binE ixD (varE 0) (conE (.int 1))) (consA (binE ixD (varE 0) (conE (.int 2))) (nilA))))) (nilS)) (seqS (ifS (cmpM eqD (binE ixD (varE 0) (conE (.int 0))) (conE (.str (Str.ofString "loop")))) (retS (makeE 10 3 F_MakerXX_initXX (consA (binE ixD (varE 0) (conE (.int 1))) (consA (binE ixD (varE 0) (conE (.int 2))) (nilA))))) (nilS)) (retS (makeE 11 6 F_WaitingXX_initXX (consA (binE ixD (varE 0) (conE (.int 1))) (consA (binE ixD (varE 0) (conE (.int 2))) (consA (binE ixD (varE 0) (conE (.int 3))) (consA (binE ixD (varE 0) (conE (.int 4))) (consA (binE ixD (varE 0) (conE (.int 5))) (nilA))))))))))
noncomputable def F_thing_of : List D → Store → R D := bodyF N_thing_of.length m_thing_of
noncomputable def m_Heap_change : MS := seqS (exprS (methE "need" 2 [(12, F_Heap_need)] (varE 0) (consA (varE 1) (nilA)))) (asgS (subT (fldE [12] "there" (varE 0)) (varE 1)) (callE 1 F_thing_of (consA (varE 2) (nilA))))
noncomputable def F_Heap_change : List D → Store → R D := bodyF N_Heap_change.length m_Heap_change
noncomputable def m_Heap_put : MS := seqS (asgS (subT (fldE [12] "there" (varE 0)) (fldE [12] "count" (varE 0))) (callE 1 F_thing_of (consA (varE 1) (nilA)))) (seqS (fldS [12] "count" (varE 0) (binE addD (fldE [12] "count" (varE 0)) (conE (.int 1)))) (retS (binE subD (fldE [12] "count" (varE 0)) (conE (.int 1)))))
noncomputable def F_Heap_put : List D → Store → R D := bodyF N_Heap_put.length m_Heap_put
noncomputable def m__law_draw : MS := retS (ifE (cmpM gtD (newL lenV (consA (varE 0) (nilA))) (varE 1)) (binE ixD (varE 0) (varE 1)) (conE (.int 0)))
noncomputable def F__law_draw : List D → Store → R D := bodyF N__law_draw.length m__law_draw
noncomputable def m_Heap_numbers : MS := retS (allocE (newL sortL (newL listV (consA (fldE [12] "there" (varE 0)) (nilA)))))
noncomputable def F_Heap_numbers : List D → Store → R D := bodyF N_Heap_numbers.length m_Heap_numbers
noncomputable def m_Box_shape : MS := retS (tupE (consA (conE (.str (Str.ofString "box"))) (consA (fldE [8] "value" (varE 0)) (nilA))))
noncomputable def F_Box_shape : List D → Store → R D := bodyF N_Box_shape.length m_Box_shape
noncomputable def m_Looper_kind_word : MS := retS (conE (.str (Str.ofString "loop")))
noncomputable def F_Looper_kind_word : List D → Store → R D := bodyF N_Looper_kind_word.length m_Looper_kind_word
noncomputable def m_Maker_kind_word : MS := retS (conE (.str (Str.ofString "fun")))
noncomputable def F_Maker_kind_word : List D → Store → R D := bodyF N_Maker_kind_word.length m_Maker_kind_word
noncomputable def m_Waiting_kind_word : MS := retS (conE (.str (Str.ofString "waiting")))
noncomputable def F_Waiting_kind_word : List D → Store → R D := bodyF N_Waiting_kind_word.length m_Waiting_kind_word
noncomputable def m_Maker_shape : MS := retS (tupE (consA (methE "kind_word" 1 [(9, F_Maker_kind_word), (10, F_Looper_kind_word), (11, F_Waiting_kind_word)] (varE 0) nilA) (consA (fldE [9, 10, 11] "own" (varE 0)) (consA (fldE [9, 10, 11] "taken" (varE 0)) (nilA)))))
noncomputable def F_Maker_shape : List D → Store → R D := bodyF N_Maker_shape.length m_Maker_shape
noncomputable def m_Waiting_shape : MS := retS (tupE (consA (methE "kind_word" 1 [(9, F_Maker_kind_word), (10, F_Looper_kind_word), (11, F_Waiting_kind_word)] (varE 0) nilA) (consA (fldE [9, 10, 11] "own" (varE 0)) (consA (fldE [11] "at" (varE 0)) (consA (fldE [11] "slots" (varE 0)) (consA (fldE [11] "boxes" (varE 0)) (consA (fldE [9, 10, 11] "taken" (varE 0)) (nilA))))))))
noncomputable def F_Waiting_shape : List D → Store → R D := bodyF N_Waiting_shape.length m_Waiting_shape
noncomputable def m_Heap_thing : MS := seqS (exprS (methE "need" 2 [(12, F_Heap_need)] (varE 0) (consA (varE 1) (nilA)))) (retS (methE "shape" 1 [(8, F_Box_shape), (9, F_Maker_shape), (10, F_Maker_shape), (11, F_Waiting_shape)] (binE ixD (fldE [12] "there" (varE 0)) (varE 1)) nilA))
noncomputable def F_Heap_thing : List D → Store → R D := bodyF N_Heap_thing.length m_Heap_thing
noncomputable def m__law_alone (a : Addr) (z : Exn) : MS := seqS (ifS (ofV (toV (isX (kisA kis z [(.own 5), (.own 4), (.own 3), (.own 2), (.own 1)]) a (varE 0)))) (retS (conE (.bl false))) (nilS)) (retS (andV (ofV (toV (isX (kisX kis z (.own 6)) a (varE 0)))) (toV (isX (kisX kis z (.ty "ValueError")) a (varE 0)))))
noncomputable def F__law_alone (a : Addr) (z : Exn) : List D → Store → R D := bodyF N__law_alone.length (m__law_alone a z)
noncomputable def m__law_refused : MS := seqS (catchS hit_LoomError 3 (ifS (ofV (varE 2)) (exprS (methE "change" 3 [(12, F_Heap_change)] (varE 0) (consA (varE 1) (consA (tupE (consA (conE (.str (Str.ofString "box"))) (consA (conE .non) (nilA)))) (nilA))))) (exprS (methE "thing" 2 [(12, F_Heap_thing)] (varE 0) (consA (varE 1) (nilA))))) (fun a z => retS (callE 1 (F__law_alone a z) (consA (varE 3) (nilA))))) (retS (conE (.bl false)))
noncomputable def F__law_refused : List D → Store → R D := bodyF N__law_refused.length m__law_refused
noncomputable def m__law_same (r : Nat → List D → Store → R D) : MS := seqS (ifS (ofV (toV (isE "tuple" (varE 1)))) (seqS (ifS (orM (notM (ofV (toV (isE "tuple" (varE 0))))) (cmpM neD (newL lenV (consA (varE 0) (nilA))) (newL lenV (consA (varE 1) (nilA))))) (retS (conE (.bl false))) (nilS)) (retS (newL allL (compN (srcZ (consA (varE 0) (consA (varE 1) (nilA)))) (.many [2, 3]) (yesM) (callE 2 (r 0) (consA (varE 2) (consA (varE 3) (nilA)))))))) (nilS)) (seqS (ifS (orM (cmpM isD (varE 1) (conE .non)) (cmpM isD (varE 0) (conE .non))) (retS (andV (ofV (toV (cmpM isD (varE 1) (conE .non)))) (toV (cmpM isD (varE 0) (conE .non))))) (nilS)) (retS (andV (ofV (toV (cmpM eqD (varE 0) (varE 1)))) (andV (ofV (toV (cmpM eqD (toV (isE "str" (varE 0))) (toV (isE "str" (varE 1)))))) (toV (notM (ofV (toV (isE "bool" (varE 0))))))))))
noncomputable def G__law_same : Nat → Nat → List D → Store → R D
  | 0, _ => badF
  | n + 1, 0 => bodyF N__law_same.length (m__law_same (G__law_same n))
  | _ + 1, _ => badF
noncomputable def F__law_same : List D → Store → R D := G__law_same 60 0
theorem G__law_same_0 (n : Nat) : G__law_same (n + 1) 0 = bodyF N__law_same.length (m__law_same (G__law_same n)) := (rfl)
noncomputable def b__law_right_0 : MS := ifS (notM (ofV (callE 2 F__law_same (consA (methE "thing" 2 [(12, F_Heap_thing)] (varE 0) (consA (varE 5) (nilA))) (consA (binE ixD (varE 1) (varE 5)) (nilA)))))) (retS (conE (.bl false))) (nilS)
noncomputable def m__law_right : MS := seqS (setS 4 (allocE (rngN1 (newL lenV (consA (varE 1) (nilA)))))) (seqS (ifS (cmpM eqD (binE modD (varE 3) (conE (.int 2))) (conE (.int 1))) (exprS (lmE appendM (varE 2) (consA (tupE (consA (methE "numbers" 1 [(12, F_Heap_numbers)] (varE 0) nilA) (consA (varE 4) (nilA)))) (nilA)))) (nilS)) (seqS (forS (srcV (binE ixD (allocE (lstN (consA (varE 4) (consA (allocE (revN (varE 4))) (nilA))))) (binE modD (binE fdivD (varE 3) (conE (.int 2))) (conE (.int 2))))) (nameT 5) (b__law_right_0)) (seqS (setS 6 (methE "numbers" 1 [(12, F_Heap_numbers)] (varE 0) nilA)) (seqS (ifS (orM (notM (ofV (toV (isE "list" (varE 6))))) (notM (ofV (newL allL (compN (srcZ (consA (varE 6) (consA (varE 4) (nilA)))) (.many [8, 9]) (yesM) (callE 2 F__law_same (consA (varE 8) (consA (varE 9) (nilA))))))))) (retS (conE (.bl false))) (nilS)) (seqS (ifS (cmpM neD (newL lenV (consA (varE 6) (nilA))) (newL lenV (consA (varE 4) (nilA)))) (retS (conE (.bl false))) (nilS)) (seqS (exprS (lmE appendM (varE 6) (consA (conE (.int 0)) (nilA)))) (seqS (setS 7 (binE ixD (allocE (lstN (consA (newL lenV (consA (varE 1) (nilA))) (consA (unE negD (conE (.int 1))) (consA (binE addD (newL lenV (consA (varE 1) (nilA))) (conE (.int 5))) (consA (conE (.bl true)) (consA (conE (.bl false)) (consA (conE .non) (consA (conE (.str (Str.ofString "0"))) (consA (binE powD (conE (.int 10)) (conE (.int 20))) (consA (allocE (lstN (consA (conE (.int 0)) (nilA)))) (nilA)))))))))))) (binE modD (binE fdivD (varE 3) (conE (.int 4))) (conE (.int 9))))) (retS (andV (ofV (callE 3 F__law_refused (consA (varE 0) (consA (varE 7) (consA (toV (cmpM eqD (binE modD (varE 3) (conE (.int 2))) (conE (.int 0)))) (nilA)))))) (toV (cmpM eqD (methE "numbers" 1 [(12, F_Heap_numbers)] (varE 0) nilA) (varE 4))))))))))))
noncomputable def F__law_right : List D → Store → R D := bodyF N__law_right.length m__law_right
noncomputable def m__law_spread : MS := retS (binE modD (binE mulD (binE addD (varE 0) (conE (.int 3))) (binE addD (conE (.int 48271)) (binE mulD (binE mulD (conE (.int 2)) (varE 1)) (varE 1)))) (conE (.int 2147483647)))
noncomputable def F__law_spread : List D → Store → R D := bodyF N__law_spread.length m__law_spread
noncomputable def m__law_boxes : MS := seqS (ifS (cmpM eqD (varE 1) (conE (.int 0))) (retS (tupE (nilA))) (nilS)) (retS (newL tupL (compN (srcR1 (consA (binE modD (varE 0) (conE (.int 4))) (nilA))) (.one 2) (yesM) (binE modD (binE fdivD (binE fdivD (varE 0) (conE (.int 7))) (binE addD (conE (.int 1)) (binE mulD (conE (.int 5)) (varE 2)))) (varE 1)))))
noncomputable def F__law_boxes : List D → Store → R D := bodyF N__law_boxes.length m__law_boxes
noncomputable def m__law_value : MS := seqS (ifS (andM (cmpM ltD (binE modD (varE 0) (conE (.int 5))) (conE (.int 2))) (cmpM gtD (varE 1) (conE (.int 0)))) (retS (tupE (consA (conE (.str (Str.ofString "thing"))) (consA (binE modD (binE fdivD (varE 0) (conE (.int 5))) (varE 1)) (nilA))))) (nilS)) (seqS (ifS (cmpM eqD (binE modD (varE 0) (conE (.int 5))) (conE (.int 2))) (retS (conE .non)) (nilS)) (retS (tupE (consA (conE (.str (Str.ofString "number"))) (consA (binE ixD (allocE (lstN (consA (binE subD (binE modD (binE fdivD (varE 0) (conE (.int 5))) (conE (.int 9))) (conE (.int 4))) (consA (binE subD (binE modD (binE fdivD (varE 0) (conE (.int 5))) (conE (.int 2000000000001))) (binE powD (conE (.int 10)) (conE (.int 12)))) (nilA))))) (binE modD (binE fdivD (varE 0) (conE (.int 5))) (conE (.int 2)))) (nilA))))))
noncomputable def F__law_value : List D → Store → R D := bodyF N__law_value.length m__law_value
noncomputable def m__law_thing : MS := seqS (setS 2 (callE 2 F__law_spread (consA (varE 0) (consA (conE (.int 1)) (nilA))))) (seqS (ifS (cmpM ltD (binE modD (varE 0) (conE (.int 6))) (conE (.int 2))) (retS (tupE (consA (conE (.str (Str.ofString "box"))) (consA (callE 2 F__law_value (consA (varE 2) (consA (varE 1) (nilA)))) (nilA))))) (nilS)) (seqS (ifS (cmpM ltD (binE modD (varE 0) (conE (.int 6))) (conE (.int 4))) (retS (tupE (consA (binE ixD (allocE (lstN (consA (conE (.str (Str.ofString "fun"))) (consA (conE (.str (Str.ofString "loop"))) (nilA))))) (binE modD (varE 0) (conE (.int 2)))) (consA (binE modD (varE 2) (conE (.int 300))) (consA (callE 2 F__law_boxes (consA (binE fdivD (varE 2) (conE (.int 300))) (consA (varE 1) (nilA)))) (nilA)))))) (nilS)) (seqS (ifS (cmpM eqD (binE modD (varE 0) (conE (.int 6))) (conE (.int 4))) (seqS (setS 3 (newL tupL (compN (srcR1 (consA (binE modD (varE 2) (conE (.int 5))) (nilA))) (.one 6) (yesM) (callE 2 F__law_value (consA (callE 2 F__law_spread (consA (varE 2) (consA (varE 6) (nilA)))) (consA (varE 1) (nilA))))))) (seqS (setS 4 (callE 2 F__law_boxes (consA (binE fdivD (varE 2) (conE (.int 11))) (consA (varE 1) (nilA))))) (retS (tupE (consA (conE (.str (Str.ofString "waiting"))) (consA (binE modD (binE fdivD (varE 2) (conE (.int 5))) (conE (.int 300))) (consA (binE modD (binE fdivD (varE 2) (conE (.int 7))) (conE (.int 2000))) (consA (varE 3) (consA (varE 4) (consA (callE 2 F__law_boxes (consA (varE 2) (consA (varE 1) (nilA)))) (nilA))))))))))) (nilS)) (seqS (setS 5 (binE ixD (allocE (lstN (consA (conE (.str (Str.ofString "open"))) (consA (conE (.str (Str.ofString "ended"))) (nilA))))) (binE modD (varE 2) (conE (.int 2))))) (retS (tupE (consA (conE (.str (Str.ofString "waiting"))) (consA (binE modD (binE fdivD (varE 2) (conE (.int 2))) (conE (.int 300))) (consA (varE 5) (consA (tupE (nilA)) (consA (tupE (nilA)) (consA (ifE (cmpM eqD (varE 5) (conE (.str (Str.ofString "open")))) (callE 2 F__law_boxes (consA (binE fdivD (varE 2) (conE (.int 9))) (consA (varE 1) (nilA)))) (tupE (nilA))) (nilA)))))))))))))
noncomputable def F__law_thing : List D → Store → R D := bodyF N__law_thing.length m__law_thing
noncomputable def b_law_0 : MS := seqS (setS 4 (callE 2 F__law_spread (consA (varE 4) (consA (conE (.int 0)) (nilA))))) (seqS (setS 5 (binE modD (varE 4) (conE (.int 2)))) (seqS (setS 6 (binE ixD (varE 1) (varE 5))) (seqS (setS 7 (newL lenV (consA (binE ixD (varE 2) (varE 5)) (nilA)))) (seqS (setS 8 (callE 2 F__law_thing (consA (binE fdivD (varE 4) (conE (.int 8))) (consA (varE 7) (nilA))))) (seqS (ifS (andM (cmpM eqD (binE modD (binE fdivD (varE 4) (conE (.int 2))) (conE (.int 4))) (conE (.int 3))) (cmpM gtD (varE 7) (conE (.int 0)))) (seqS (setS 9 (binE modD (binE fdivD (varE 4) (conE (.int 64))) (varE 7))) (seqS (ifS (cmpM isNotD (methE "change" 3 [(12, F_Heap_change)] (varE 6) (consA (varE 9) (consA (varE 8) (nilA)))) (conE .non)) (retS (conE (.bl false))) (nilS)) (asgS (subT (binE ixD (varE 2) (varE 5)) (varE 9)) (varE 8)))) (seqS (setS 9 (methE "put" 2 [(12, F_Heap_put)] (varE 6) (consA (varE 8) (nilA)))) (seqS (ifS (notM (ofV (callE 2 F__law_same (consA (varE 9) (consA (varE 7) (nilA)))))) (retS (conE (.bl false))) (nilS)) (exprS (lmE appendM (binE ixD (varE 2) (varE 5)) (consA (varE 8) (nilA))))))) (seqS (ifS (notM (ofV (callE 4 F__law_right (consA (varE 6) (consA (binE ixD (varE 2) (varE 5)) (consA (varE 3) (consA (binE fdivD (varE 4) (conE (.int 512))) (nilA)))))))) (retS (conE (.bl false))) (nilS)) (ifS (notM (ofV (callE 4 F__law_right (consA (binE ixD (varE 1) (binE subD (conE (.int 1)) (varE 5))) (consA (binE ixD (varE 2) (binE subD (conE (.int 1)) (varE 5))) (consA (varE 3) (consA (binE fdivD (varE 4) (conE (.int 1024))) (nilA)))))))) (retS (conE (.bl false))) (nilS))))))))
noncomputable def m_law : MS := seqS (setS 1 (allocE (lstN (consA (makeE 12 1 F_HeapXX_initXX nilA) (consA (makeE 12 1 F_HeapXX_initXX nilA) (nilA)))))) (seqS (setS 2 (allocE (lstN (consA (allocE (lstN (nilA))) (consA (allocE (lstN (nilA))) (nilA)))))) (seqS (setS 3 (allocE (lstN (nilA)))) (seqS (ifS (notM (ofV (callE 4 F__law_right (consA (binE ixD (varE 1) (conE (.int 0))) (consA (allocE (lstN (nilA))) (consA (varE 3) (consA (callE 2 F__law_draw (consA (varE 0) (consA (conE (.int 0)) (nilA)))) (nilA)))))))) (retS (conE (.bl false))) (nilS)) (seqS (forS (srcV (sliceE (varE 0) (someO (conE (.int 1))) (someO (conE (.int 21))))) (nameT 4) (b_law_0)) (retS (newL allL (compN (srcV (varE 3)) (.many [11, 10]) (yesM) (toV (cmpM eqD (varE 11) (varE 10))))))))))
noncomputable def F_law : List D → Store → R D := bodyF N_law.length m_law
structure Txt (K : PySem.W.Frag) (mg : Str → Option Value) (cA : Nat → Addr) : Prop where
  e_NoThing : ExcK K mg "NoThing" (cA 6)
  n_LoomError : mg "LoomError" = some (.ref (cA 0))
  n_BadTree : mg "BadTree" = some (.ref (cA 1))
  n_BadText : mg "BadText" = some (.ref (cA 2))
  n_BadName : mg "BadName" = some (.ref (cA 3))
  n_BadCount : mg "BadCount" = some (.ref (cA 4))
  n_BadCode : mg "BadCode" = some (.ref (cA 5))
  n_NoThing : mg "NoThing" = some (.ref (cA 6))
  h_LoomError : ∀ k b, hit_LoomError k = some b → PySem.W.exmOne K (.ref (cA k)) (.ref (cA 0)) = some b
  isf : IsFacts K cA kis
  c_Heap : Cls K (cA 12)
  c_Box : Cls K (cA 8)
  c_Waiting : Cls K (cA 11)
  c_Looper : Cls K (cA 10)
  c_Maker : Cls K (cA 9)
  na_Heap_there : NoAttr K (cA 12) "there"
  na_Heap_count : NoAttr K (cA 12) "count"
  na_Box_value : NoAttr K (cA 8) "value"
  na_Waiting_own : NoAttr K (cA 11) "own"
  na_Looper_own : NoAttr K (cA 10) "own"
  na_Maker_own : NoAttr K (cA 9) "own"
  na_Waiting_taken : NoAttr K (cA 11) "taken"
  na_Looper_taken : NoAttr K (cA 10) "taken"
  na_Maker_taken : NoAttr K (cA 9) "taken"
  na_Waiting_at : NoAttr K (cA 11) "at"
  na_Waiting_slots : NoAttr K (cA 11) "slots"
  na_Waiting_boxes : NoAttr K (cA 11) "boxes"
  b_ValueError : mg "ValueError" = none
  b_all : mg "all" = none
  b_bool : mg "bool" = none
  b_int : mg "int" = none
  b_isinstance : mg "isinstance" = none
  b_len : mg "len" = none
  b_list : mg "list" = none
  b_range : mg "range" = none
  b_sorted : mg "sorted" = none
  b_str : mg "str" = none
  b_tuple : mg "tuple" = none
  b_zip : mg "zip" = none
section
variable {P : Program} {w : World} {K : PySem.W.Frag} {mg : Str → Option Value} {base : Heap} {cA : Nat → Addr}
theorem ok_HeapXX_initXX {f : Addr} {fd : FuncData} (F : Fun K "__init__" "Heap.__init__" s_HeapXX_initXX f fd) (T : Txt K mg cA)  : FnOk P w K mg base (L2.CX P w) 1 f fd ["self"] (spM K cA F_HeapXX_initXX 1) :=
  defM F sc_HeapXX_initXX fun cdv A outer s H E hr => by
    unfold m_HeapXX_initXX
    exact (scons (sfld (ClsL.all (cs := [12]) ⟨⟨T.c_Heap, T.na_Heap_there⟩, trivial⟩) (mvar (i := 0) rfl (.inl rfl)) mdict0) (sone (sfld (ClsL.all (cs := [12]) ⟨⟨T.c_Heap, T.na_Heap_count⟩, trivial⟩) (mvar (i := 0) rfl (.inl rfl)) mint)))
theorem ok_Heap_need {f : Addr} {fd : FuncData} (F : Fun K "need" "Heap.need" s_Heap_need f fd) (T : Txt K mg cA)  : FnOk P w K mg base (L2.CX P w) 1 f fd ["self", "k"] (spM K cA F_Heap_need 2) :=
  defM F sc_Heap_need fun cdv A outer s H E hr => by
    unfold m_Heap_need
    exact (sone (sif (PW.pt (morT (mnotT (mval (misi ok_int (mvar (i := 1) rfl (.inl rfl)) rfl T.b_isinstance rfl T.b_int bt_int bt_isinstance))) (morT (mval (misi ok_bool (mvar (i := 1) rfl (.inl rfl)) rfl T.b_isinstance rfl T.b_bool bt_bool bt_isinstance)) (mor1 (mcmpT (op_notInM (hu_of hr)) (mvar (i := 1) rfl (.inl rfl)) (mfld (ClsL.all (cs := [12]) ⟨⟨T.c_Heap, T.na_Heap_there⟩, trivial⟩) (mvar (i := 0) rfl (.inl rfl))) rfl))))) (sone (sraise (k := 6) T.e_NoThing (takes_of rfl rfl rfl rfl) rfl rfl)) snil))
theorem ok_BoxXX_initXX {f : Addr} {fd : FuncData} (F : Fun K "__init__" "Box.__init__" s_BoxXX_initXX f fd) (T : Txt K mg cA)  : FnOk P w K mg base (L2.CX P w) 1 f fd ["self", "value"] (spM K cA F_BoxXX_initXX 2) :=
  defM F sc_BoxXX_initXX fun cdv A outer s H E hr => by
    unfold m_BoxXX_initXX
    exact (sone (sfld (ClsL.all (cs := [8]) ⟨⟨T.c_Box, T.na_Box_value⟩, trivial⟩) (mvar (i := 0) rfl (.inl rfl)) (mvar (i := 1) rfl (.inl rfl))))
theorem ok_MakerXX_initXX {f : Addr} {fd : FuncData} (F : Fun K "__init__" "Maker.__init__" s_MakerXX_initXX f fd) (T : Txt K mg cA)  : FnOk P w K mg base (L2.CX P w) 1 f fd ["self", "own", "taken"] (spM K cA F_MakerXX_initXX 3) :=
  defM F sc_MakerXX_initXX fun cdv A outer s H E hr => by
    unfold m_MakerXX_initXX
    exact (scons (sfld (ClsL.all (cs := [9, 10, 11]) ⟨⟨T.c_Maker, T.na_Maker_own⟩, ⟨⟨T.c_Looper, T.na_Looper_own⟩, ⟨⟨T.c_Waiting, T.na_Waiting_own⟩, trivial⟩⟩⟩) (mvar (i := 0) rfl (.inl rfl)) (mvar (i := 1) rfl (.inl rfl))) (sone (sfld (ClsL.all (cs := [9, 10, 11]) ⟨⟨T.c_Maker, T.na_Maker_taken⟩, ⟨⟨T.c_Looper, T.na_Looper_taken⟩, ⟨⟨T.c_Waiting, T.na_Waiting_taken⟩, trivial⟩⟩⟩) (mvar (i := 0) rfl (.inl rfl)) (mvar (i := 2) rfl (.inl rfl)))))
theorem ok_WaitingXX_initXX {f : Addr} {fd : FuncData} (F : Fun K "__init__" "Waiting.__init__" s_WaitingXX_initXX f fd) (T : Txt K mg cA)  : FnOk P w K mg base (L2.CX P w) 1 f fd ["self", "own", "at", "slots", "boxes", "taken"] (spM K cA F_WaitingXX_initXX 6) :=
  defM F sc_WaitingXX_initXX fun cdv A outer s H E hr => by
    unfold m_WaitingXX_initXX
    exact (scons (sfld (ClsL.all (cs := [9, 10, 11]) ⟨⟨T.c_Maker, T.na_Maker_own⟩, ⟨⟨T.c_Looper, T.na_Looper_own⟩, ⟨⟨T.c_Waiting, T.na_Waiting_own⟩, trivial⟩⟩⟩) (mvar (i := 0) rfl (.inl rfl)) (mvar (i := 1) rfl (.inl rfl))) (scons (sfld (ClsL.all (cs := [11]) ⟨⟨T.c_Waiting, T.na_Waiting_at⟩, trivial⟩) (mvar (i := 0) rfl (.inl rfl)) (mvar (i := 2) rfl (.inl rfl))) (scons (sfld (ClsL.all (cs := [11]) ⟨⟨T.c_Waiting, T.na_Waiting_slots⟩, trivial⟩) (mvar (i := 0) rfl (.inl rfl)) (mvar (i := 3) rfl (.inl rfl))) (scons (sfld (ClsL.all (cs := [11]) ⟨⟨T.c_Waiting, T.na_Waiting_boxes⟩, trivial⟩) (mvar (i := 0) rfl (.inl rfl)) (mvar (i := 4) rfl (.inl rfl))) (sone (sfld (ClsL.all (cs := [9, 10, 11]) ⟨⟨T.c_Maker, T.na_Maker_taken⟩, ⟨⟨T.c_Looper, T.na_Looper_taken⟩, ⟨⟨T.c_Waiting, T.na_Waiting_taken⟩, trivial⟩⟩⟩) (mvar (i := 0) rfl (.inl rfl)) (mvar (i := 5) rfl (.inl rfl))))))))
theorem ok_thing_of {f : Addr} {fd : FuncData} (F : Fun K "thing_of" "thing_of" s_thing_of f fd) (T : Txt K mg cA) (K_Box : MkM P w K mg base cA 1 "Box" 8 2 F_BoxXX_initXX) (K_Looper : MkM P w K mg base cA 1 "Looper" 10 3 F_MakerXX_initXX) (K_Maker : MkM P w K mg base cA 1 "Maker" 9 3 F_MakerXX_initXX) (K_Waiting : MkM P w K mg base cA 1 "Waiting" 11 6 F_WaitingXX_initXX) : FnOk P w K mg base (L2.CX P w) 3 f fd ["told"] (spM K cA F_thing_of 1) :=
  defM F sc_thing_of fun cdv A outer s H E hr => by
    unfold m_thing_of
    exact (scons (sif (mcmpT (op_eqM hr.units) (mix (hu_of hr) (mvar (i := 0) rfl (.inl rfl)) mint) mstr (nomark _)) (sone (sret (mmake K_Box (by decide) hr pass_def rfl (acons (mix (hu_of hr) (mvar (i := 0) rfl (.inl rfl)) mint) anil)))) snil) (scons (sif (mcmpT (op_eqM hr.units) (mix (hu_of hr) (mvar (i := 0) rfl (.inl rfl)) mint) mstr (nomark _)) (sone (sret (mmake K_Maker (by decide) hr pass_def rfl (acons (mix (hu_of hr) (mvar (i := 0) rfl (.inl rfl)) mint) (acons (mix (hu_of hr) (mvar (i := 0) rfl (.inl rfl)) mint) anil))))) snil) (scons (sif (mcmpT (op_eqM hr.units) (mix (hu_of hr) (mvar (i := 0) rfl (.inl rfl)) mint) mstr (nomark _)) (sone (sret (mmake K_Looper (by decide) hr pass_def rfl (acons (mix (hu_of hr) (mvar (i := 0) rfl (.inl rfl)) mint) (acons (mix (hu_of hr) (mvar (i := 0) rfl (.inl rfl)) mint) anil))))) snil) (sone (sret (mmake K_Waiting (by decide) hr pass_def rfl (acons (mix (hu_of hr) (mvar (i := 0) rfl (.inl rfl)) mint) (acons (mix (hu_of hr) (mvar (i := 0) rfl (.inl rfl)) mint) (acons (mix (hu_of hr) (mvar (i := 0) rfl (.inl rfl)) mint) (acons (mix (hu_of hr) (mvar (i := 0) rfl (.inl rfl)) mint) (acons (mix (hu_of hr) (mvar (i := 0) rfl (.inl rfl)) mint) anil)))))))))))
theorem ok_Heap_change {f : Addr} {fd : FuncData} (F : Fun K "change" "Heap.change" s_Heap_change f fd) (T : Txt K mg cA) (C_thing_of : FnM P w K mg base cA 3 "thing_of" 1 F_thing_of) (M_Heap_need : MtM P w K mg base cA 1 "need" 12 2 F_Heap_need) : FnOk P w K mg base (L2.CX P w) 4 f fd ["self", "k", "thing"] (spM K cA F_Heap_change 3) :=
  defM F sc_Heap_change fun cdv A outer s H E hr => by
    unfold m_Heap_change
    exact (scons (sexpr (mmeth (tbl := [(12, F_Heap_need)]) ⟨⟨_, by decide, M_Heap_need⟩, trivial⟩ hr pass_def (mvar (i := 0) rfl (.inl rfl)) (acons (mvar (i := 1) rfl (.inl rfl)) anil))) (sone (sasg (mcall C_thing_of (by decide) hr pass_def rfl (acons (mvar (i := 2) rfl (.inl rfl)) anil)) (gsub (hu_of hr) (mfld (ClsL.all (cs := [12]) ⟨⟨T.c_Heap, T.na_Heap_there⟩, trivial⟩) (mvar (i := 0) rfl (.inl rfl))) (mvar (i := 1) rfl (.inl rfl))))))
theorem ok_Heap_put {f : Addr} {fd : FuncData} (F : Fun K "put" "Heap.put" s_Heap_put f fd) (T : Txt K mg cA) (C_thing_of : FnM P w K mg base cA 3 "thing_of" 1 F_thing_of) : FnOk P w K mg base (L2.CX P w) 4 f fd ["self", "thing"] (spM K cA F_Heap_put 2) :=
  defM F sc_Heap_put fun cdv A outer s H E hr => by
    unfold m_Heap_put
    exact (scons (sasg (mcall C_thing_of (by decide) hr pass_def rfl (acons (mvar (i := 1) rfl (.inl rfl)) anil)) (gsub (hu_of hr) (mfld (ClsL.all (cs := [12]) ⟨⟨T.c_Heap, T.na_Heap_there⟩, trivial⟩) (mvar (i := 0) rfl (.inl rfl))) (mfld (ClsL.all (cs := [12]) ⟨⟨T.c_Heap, T.na_Heap_count⟩, trivial⟩) (mvar (i := 0) rfl (.inl rfl))))) (scons (sfld (ClsL.all (cs := [12]) ⟨⟨T.c_Heap, T.na_Heap_count⟩, trivial⟩) (mvar (i := 0) rfl (.inl rfl)) (mbin op_addM (mfld (ClsL.all (cs := [12]) ⟨⟨T.c_Heap, T.na_Heap_count⟩, trivial⟩) (mvar (i := 0) rfl (.inl rfl))) mint)) (sone (sret (mbin op_subM (mfld (ClsL.all (cs := [12]) ⟨⟨T.c_Heap, T.na_Heap_count⟩, trivial⟩) (mvar (i := 0) rfl (.inl rfl))) mint)))))
theorem ok__law_draw {f : Addr} {fd : FuncData} (F : Fun K "_law_draw" "_law_draw" s__law_draw f fd) (T : Txt K mg cA)  : FnOk P w K mg base (L2.CX P w) 1 f fd ["_law_script", "_law_k"] (spM K cA F__law_draw 2) :=
  defM F sc__law_draw fun cdv A outer s H E hr => by
    unfold m__law_draw
    exact (sone (sret (mif (mcmpT op_gtM (mcallV st_V c_lenV rfl T.b_len bt_len (acons (mvar (i := 0) rfl (.inl rfl)) anil)) (mvar (i := 1) rfl (.inl rfl)) (nomark _)) (mix (hu_of hr) (mvar (i := 0) rfl (.inl rfl)) (mvar (i := 1) rfl (.inl rfl))) mint)))
theorem ok_Heap_numbers {f : Addr} {fd : FuncData} (F : Fun K "numbers" "Heap.numbers" s_Heap_numbers f fd) (T : Txt K mg cA)  : FnOk P w K mg base (L2.CX P w) 1 f fd ["self"] (spM K cA F_Heap_numbers 1) :=
  defM F sc_Heap_numbers fun cdv A outer s H E hr => by
    unfold m_Heap_numbers
    exact (sone (sret (malloc (mcallN st_New c_sort rfl T.b_sorted bt_sorted (mtyV st_New (c_list rfl) rfl T.b_list bt_list (acons (mfld (ClsL.all (cs := [12]) ⟨⟨T.c_Heap, T.na_Heap_there⟩, trivial⟩) (mvar (i := 0) rfl (.inl rfl))) anil))))))
theorem ok_Box_shape {f : Addr} {fd : FuncData} (F : Fun K "shape" "Box.shape" s_Box_shape f fd) (T : Txt K mg cA)  : FnOk P w K mg base (L2.CX P w) 1 f fd ["self"] (spM K cA F_Box_shape 1) :=
  defM F sc_Box_shape fun cdv A outer s H E hr => by
    unfold m_Box_shape
    exact (sone (sret (mtup (acons mstr (acons (mfld (ClsL.all (cs := [8]) ⟨⟨T.c_Box, T.na_Box_value⟩, trivial⟩) (mvar (i := 0) rfl (.inl rfl))) anil)))))
theorem ok_Looper_kind_word {f : Addr} {fd : FuncData} (F : Fun K "kind_word" "Looper.kind_word" s_Looper_kind_word f fd) (T : Txt K mg cA)  : FnOk P w K mg base (L2.CX P w) 1 f fd ["self"] (spM K cA F_Looper_kind_word 1) :=
  defM F sc_Looper_kind_word fun cdv A outer s H E hr => by
    unfold m_Looper_kind_word
    exact (sone (sret mstr))
theorem ok_Maker_kind_word {f : Addr} {fd : FuncData} (F : Fun K "kind_word" "Maker.kind_word" s_Maker_kind_word f fd) (T : Txt K mg cA)  : FnOk P w K mg base (L2.CX P w) 1 f fd ["self"] (spM K cA F_Maker_kind_word 1) :=
  defM F sc_Maker_kind_word fun cdv A outer s H E hr => by
    unfold m_Maker_kind_word
    exact (sone (sret mstr))
theorem ok_Waiting_kind_word {f : Addr} {fd : FuncData} (F : Fun K "kind_word" "Waiting.kind_word" s_Waiting_kind_word f fd) (T : Txt K mg cA)  : FnOk P w K mg base (L2.CX P w) 1 f fd ["self"] (spM K cA F_Waiting_kind_word 1) :=
  defM F sc_Waiting_kind_word fun cdv A outer s H E hr => by
    unfold m_Waiting_kind_word
    exact (sone (sret mstr))
theorem ok_Maker_shape {f : Addr} {fd : FuncData} (F : Fun K "shape" "Maker.shape" s_Maker_shape f fd) (T : Txt K mg cA) (M_Looper_kind_word : MtM P w K mg base cA 1 "kind_word" 10 1 F_Looper_kind_word) (M_Maker_kind_word : MtM P w K mg base cA 1 "kind_word" 9 1 F_Maker_kind_word) (M_Waiting_kind_word : MtM P w K mg base cA 1 "kind_word" 11 1 F_Waiting_kind_word) : FnOk P w K mg base (L2.CX P w) 2 f fd ["self"] (spM K cA F_Maker_shape 1) :=
  defM F sc_Maker_shape fun cdv A outer s H E hr => by
    unfold m_Maker_shape
    exact (sone (sret (mtup (acons (mmeth0 (tbl := [(9, F_Maker_kind_word), (10, F_Looper_kind_word), (11, F_Waiting_kind_word)]) ⟨⟨_, by decide, M_Maker_kind_word⟩, ⟨⟨_, by decide, M_Looper_kind_word⟩, ⟨⟨_, by decide, M_Waiting_kind_word⟩, trivial⟩⟩⟩ hr pass_def (mvar (i := 0) rfl (.inl rfl))) (acons (mfld (ClsL.all (cs := [9, 10, 11]) ⟨⟨T.c_Maker, T.na_Maker_own⟩, ⟨⟨T.c_Looper, T.na_Looper_own⟩, ⟨⟨T.c_Waiting, T.na_Waiting_own⟩, trivial⟩⟩⟩) (mvar (i := 0) rfl (.inl rfl))) (acons (mfld (ClsL.all (cs := [9, 10, 11]) ⟨⟨T.c_Maker, T.na_Maker_taken⟩, ⟨⟨T.c_Looper, T.na_Looper_taken⟩, ⟨⟨T.c_Waiting, T.na_Waiting_taken⟩, trivial⟩⟩⟩) (mvar (i := 0) rfl (.inl rfl))) anil))))))
theorem ok_Waiting_shape {f : Addr} {fd : FuncData} (F : Fun K "shape" "Waiting.shape" s_Waiting_shape f fd) (T : Txt K mg cA) (M_Looper_kind_word : MtM P w K mg base cA 1 "kind_word" 10 1 F_Looper_kind_word) (M_Maker_kind_word : MtM P w K mg base cA 1 "kind_word" 9 1 F_Maker_kind_word) (M_Waiting_kind_word : MtM P w K mg base cA 1 "kind_word" 11 1 F_Waiting_kind_word) : FnOk P w K mg base (L2.CX P w) 2 f fd ["self"] (spM K cA F_Waiting_shape 1) :=
  defM F sc_Waiting_shape fun cdv A outer s H E hr => by
    unfold m_Waiting_shape
    exact (sone (sret (mtup (acons (mmeth0 (tbl := [(9, F_Maker_kind_word), (10, F_Looper_kind_word), (11, F_Waiting_kind_word)]) ⟨⟨_, by decide, M_Maker_kind_word⟩, ⟨⟨_, by decide, M_Looper_kind_word⟩, ⟨⟨_, by decide, M_Waiting_kind_word⟩, trivial⟩⟩⟩ hr pass_def (mvar (i := 0) rfl (.inl rfl))) (acons (mfld (ClsL.all (cs := [9, 10, 11]) ⟨⟨T.c_Maker, T.na_Maker_own⟩, ⟨⟨T.c_Looper, T.na_Looper_own⟩, ⟨⟨T.c_Waiting, T.na_Waiting_own⟩, trivial⟩⟩⟩) (mvar (i := 0) rfl (.inl rfl))) (acons (mfld (ClsL.all (cs := [11]) ⟨⟨T.c_Waiting, T.na_Waiting_at⟩, trivial⟩) (mvar (i := 0) rfl (.inl rfl))) (acons (mfld (ClsL.all (cs := [11]) ⟨⟨T.c_Waiting, T.na_Waiting_slots⟩, trivial⟩) (mvar (i := 0) rfl (.inl rfl))) (acons (mfld (ClsL.all (cs := [11]) ⟨⟨T.c_Waiting, T.na_Waiting_boxes⟩, trivial⟩) (mvar (i := 0) rfl (.inl rfl))) (acons (mfld (ClsL.all (cs := [9, 10, 11]) ⟨⟨T.c_Maker, T.na_Maker_taken⟩, ⟨⟨T.c_Looper, T.na_Looper_taken⟩, ⟨⟨T.c_Waiting, T.na_Waiting_taken⟩, trivial⟩⟩⟩) (mvar (i := 0) rfl (.inl rfl))) anil)))))))))
theorem ok_Heap_thing {f : Addr} {fd : FuncData} (F : Fun K "thing" "Heap.thing" s_Heap_thing f fd) (T : Txt K mg cA) (M_Box_shape : MtM P w K mg base cA 1 "shape" 8 1 F_Box_shape) (M_Heap_need : MtM P w K mg base cA 1 "need" 12 2 F_Heap_need) (M_Looper_shape : MtM P w K mg base cA 2 "shape" 10 1 F_Maker_shape) (M_Maker_shape : MtM P w K mg base cA 2 "shape" 9 1 F_Maker_shape) (M_Waiting_shape : MtM P w K mg base cA 2 "shape" 11 1 F_Waiting_shape) : FnOk P w K mg base (L2.CX P w) 3 f fd ["self", "k"] (spM K cA F_Heap_thing 2) :=
  defM F sc_Heap_thing fun cdv A outer s H E hr => by
    unfold m_Heap_thing
    exact (scons (sexpr (mmeth (tbl := [(12, F_Heap_need)]) ⟨⟨_, by decide, M_Heap_need⟩, trivial⟩ hr pass_def (mvar (i := 0) rfl (.inl rfl)) (acons (mvar (i := 1) rfl (.inl rfl)) anil))) (sone (sret (mmeth0 (tbl := [(8, F_Box_shape), (9, F_Maker_shape), (10, F_Maker_shape), (11, F_Waiting_shape)]) ⟨⟨_, by decide, M_Box_shape⟩, ⟨⟨_, by decide, M_Maker_shape⟩, ⟨⟨_, by decide, M_Looper_shape⟩, ⟨⟨_, by decide, M_Waiting_shape⟩, trivial⟩⟩⟩⟩ hr pass_def (mix (hu_of hr) (mfld (ClsL.all (cs := [12]) ⟨⟨T.c_Heap, T.na_Heap_there⟩, trivial⟩) (mvar (i := 0) rfl (.inl rfl))) (mvar (i := 1) rfl (.inl rfl)))))))
theorem ok__law_alone {f : Addr} {fd : FuncData} (F : Fun K "_law_alone" "_law_alone" s__law_alone f fd) (T : Txt K mg cA) : HotOk P w K mg base cA 1 f fd ["_law_e"] (fun a z => spM K cA (F__law_alone a z) 1) :=
  defHot F sc__law_alone fun cdv A outer s H a oe z d hr hz hd hf => by
    unfold m__law_alone
    exact (scons (sif (mval (misEt (n := (.own 5)) (ns := [(.own 4), (.own 3), (.own 2), (.own 1)]) T.isf hz hd hf (mvar (i := 0) rfl (.inl rfl)) (vcons (cown (j := 5) T.n_BadCode rfl) (vcons (cown (j := 4) T.n_BadCount rfl) (vcons (cown (j := 3) T.n_BadName rfl) (vcons (cown (j := 2) T.n_BadText rfl) (vcons (cown (j := 1) T.n_BadTree rfl) vnil))))) (by decide) rfl T.b_isinstance)) (sone (sret mbl)) snil) (sone (sret (mand (misE T.isf hz hd hf (mvar (i := 0) rfl (.inl rfl)) (cown (j := 6) T.n_NoThing rfl) rfl T.b_isinstance) (mone (misE T.isf hz hd hf (mvar (i := 0) rfl (.inl rfl)) (cty (n := "ValueError") T.b_ValueError (by decide +kernel) rfl) rfl T.b_isinstance))))))
theorem ok__law_refused {f : Addr} {fd : FuncData} (F : Fun K "_law_refused" "_law_refused" s__law_refused f fd) (T : Txt K mg cA) (C__law_alone : HotM P w K mg base cA 1 "_law_alone" 1 F__law_alone) (M_Heap_change : MtM P w K mg base cA 4 "change" 12 3 F_Heap_change) (M_Heap_thing : MtM P w K mg base cA 3 "thing" 12 2 F_Heap_thing) : FnOk P w K mg base (L2.CX P w) 5 f fd ["_law_heap", "_law_k", "_law_change"] (spM K cA F__law_refused 3) :=
  defM F sc__law_refused fun cdv A outer s H E hr => by
    unfold m__law_refused
    exact (scons (stry (i := 3) T.h_LoomError sc__law_refused.nd rfl ⟨rfl, by decide, .inl T.n_LoomError⟩ (takes_of rfl rfl rfl rfl) (fun W1 pn xe tk hp => (xone (xif (fun _ => (mval (mvar (i := 2) rfl (.inl rfl)))) (xone (xexpr (xmeth (tbl := [(12, F_Heap_change)]) ⟨⟨_, by decide, M_Heap_change⟩, trivial⟩ hr tk (fun _ => (mvar (i := 0) rfl (.inl rfl))) (fun _ => (acons (mvar (i := 1) rfl (.inl rfl)) (acons (mtup (acons mstr (acons mnon anil))) anil)))))) (xone (xexpr (xmeth (tbl := [(12, F_Heap_thing)]) ⟨⟨_, by decide, M_Heap_thing⟩, trivial⟩ hr tk (fun _ => (mvar (i := 0) rfl (.inl rfl))) (fun _ => (acons (mvar (i := 1) rfl (.inl rfl)) anil)))))))) (fun a oe pn z d hz hd hf => (sone (sret (hotcall C__law_alone (by decide) hr hz hd hf rfl (acons (mvar (i := 3) rfl (.inl rfl)) anil)))))) (sone (sret mbl)))
theorem ok__law_same {r : Nat → List D → Store → R D} {dd : Nat} (hlev : 0 ≤ dd) {f : Addr} {fd : FuncData} (F : Fun K "_law_same" "_law_same" s__law_same f fd) (T : Txt K mg cA) (C__law_same : FnM P w K mg base cA dd "_law_same" 2 (r 0)) : FnOk P w K mg base (L2.CX P w) (dd + 1) f fd ["_law_found", "_law_due"] (spM K cA (bodyF N__law_same.length (m__law_same r)) 2) :=
  defM F sc__law_same fun cdv A outer s H E hr => by
    unfold m__law_same
    exact (scons (sif (mval (misi ok_tuple (mvar (i := 1) rfl (.inl rfl)) rfl T.b_isinstance rfl T.b_tuple bt_tuple bt_isinstance)) (scons (sif (PW.pt (morT (mnotT (mval (misi ok_tuple (mvar (i := 0) rfl (.inl rfl)) rfl T.b_isinstance rfl T.b_tuple bt_tuple bt_isinstance))) (mor1 (mcmpT (op_neM hr.units) (mcallV st_V c_lenV rfl T.b_len bt_len (acons (mvar (i := 0) rfl (.inl rfl)) anil)) (mcallV st_V c_lenV rfl T.b_len bt_len (acons (mvar (i := 1) rfl (.inl rfl)) anil)) (nomark _))))) (sone (sret mbl)) snil) (sone (sret (mcallN st_V (c_all rfl) rfl T.b_all bt_all (mcomp (t := .many [2, 3]) (own := [("_law_one", 2), ("_law_other", 3)]) rfl rfl sc__law_same.nd (isrcZ rfl T.b_zip (acons (mvar (i := 0) rfl (.inl rfl)) (acons (mvar (i := 1) rfl (.inl rfl)) anil))) (blkOk_by (N := N__law_same) (sc := defScope s__law_same) (by decide +kernel)) (fun _ _ _ _ _ => pg_tup rfl (pgs_cons (pg_name (i := 2) sc__law_same.nd rfl (Or.inl rfl)) (pgs_cons (pg_name (i := 3) sc__law_same.nd rfl (Or.inl rfl)) (pgs_nil)))) (fun _ _ _ _ _ => tyes) (fun _ _ _ _ _ => (mcall C__law_same (by omega) hr passL rfl (acons (mvar (i := 2) rfl (.inl rfl)) (acons (mvar (i := 3) rfl (.inl rfl)) anil))))))))) snil) (scons (sif (PW.pt (morT (mcmpT op_isM (mvar (i := 1) rfl (.inl rfl)) mnon (nomark _)) (mor1 (mcmpT op_isM (mvar (i := 0) rfl (.inl rfl)) mnon (nomark _))))) (sone (sret (mand (mcmp op_isM (mvar (i := 1) rfl (.inl rfl)) mnon (nomark _)) (mone (mcmp op_isM (mvar (i := 0) rfl (.inl rfl)) mnon (nomark _)))))) snil) (sone (sret (mand (mcmp (op_eqM hr.units) (mvar (i := 0) rfl (.inl rfl)) (mvar (i := 1) rfl (.inl rfl)) (nomark _)) (mand (mcmp (op_eqM hr.units) (misi ok_str (mvar (i := 0) rfl (.inl rfl)) rfl T.b_isinstance rfl T.b_str bt_str bt_isinstance) (misi ok_str (mvar (i := 1) rfl (.inl rfl)) rfl T.b_isinstance rfl T.b_str bt_str bt_isinstance) (nomark _)) (mone (mnot (misi ok_bool (mvar (i := 0) rfl (.inl rfl)) rfl T.b_isinstance rfl T.b_bool bt_bool bt_isinstance)))))))))
theorem rec__law_same {f__law_same : Addr} {fd__law_same : FuncData} (F__law_same : Fun K "_law_same" "_law_same" s__law_same f__law_same fd__law_same) (g__law_same : mg "_law_same" = some (.ref f__law_same)) (B__law_same : Binds K fd__law_same ["_law_found", "_law_due"] []) (T : Txt K mg cA)  : ∀ n : Nat, FnM P w K mg base cA (0 + n) "_law_same" 2 (G__law_same n 0)
  | 0 => ⟨⟨f__law_same, fd__law_same, _, g__law_same, F__law_same.kp, B__law_same, ok_bad rfl⟩⟩
  | n + 1 => by
    have ih := rec__law_same F__law_same g__law_same B__law_same T  n
    have C__law_same := ih
    exact .mk' F__law_same g__law_same B__law_same (ok__law_same (r := G__law_same n) (Nat.le_add_right 0 n) F__law_same T (C__law_same := C__law_same))
theorem ok__law_right {f : Addr} {fd : FuncData} (F : Fun K "_law_right" "_law_right" s__law_right f fd) (T : Txt K mg cA) (C__law_refused : FnM P w K mg base cA 5 "_law_refused" 3 F__law_refused) (C__law_same : FnM P w K mg base cA 60 "_law_same" 2 F__law_same) (M_Heap_numbers : MtM P w K mg base cA 1 "numbers" 12 1 F_Heap_numbers) (M_Heap_thing : MtM P w K mg base cA 3 "thing" 12 2 F_Heap_thing) : FnOk P w K mg base (L2.CX P w) 61 f fd ["_law_heap", "_law_there", "_law_held", "_law_cell"] (spM K cA F__law_right 4) :=
  defM F sc__law_right fun cdv A outer s H E hr => by
    unfold m__law_right
    exact (scons (sset (i := 4) sc__law_right.nd rfl (.inl rfl) (malloc (mrngN1 rfl rfl T.b_list rfl T.b_range (mcallV st_V c_lenV rfl T.b_len bt_len (acons (mvar (i := 1) rfl (.inl rfl)) anil))))) (scons (sif (mcmpT (op_eqM hr.units) (mbin op_modM (mvar (i := 3) rfl (.inl rfl)) mint) mint (nomark _)) (sone (sexpr (mlm PySem.F.slot_list_append PySem.F.type_list_append mt_appendM (mvar (i := 2) rfl (.inl rfl)) (acons (mtup (acons (mmeth0 (tbl := [(12, F_Heap_numbers)]) ⟨⟨_, by decide, M_Heap_numbers⟩, trivial⟩ hr pass_def (mvar (i := 0) rfl (.inl rfl))) (acons (mvar (i := 4) rfl (.inl rfl)) anil))) anil)))) snil) (scons (sfor own_def rfl (isrc (mix (hu_of hr) (malloc (mlst (acons (mvar (i := 4) rfl (.inl rfl)) (acons (malloc (mrev (mvar (i := 4) rfl (.inl rfl)))) anil)))) (mbin op_modM (mbin op_fdivM (mvar (i := 3) rfl (.inl rfl)) mint) mint))) (gname (i := 5) sc__law_right.nd rfl (.inl rfl)) (sone (sif (mnotT (mval (mcall C__law_same (by decide) hr pass_def rfl (acons (mmeth (tbl := [(12, F_Heap_thing)]) ⟨⟨_, by decide, M_Heap_thing⟩, trivial⟩ hr pass_def (mvar (i := 0) rfl (.inl rfl)) (acons (mvar (i := 5) rfl (.inl rfl)) anil)) (acons (mix (hu_of hr) (mvar (i := 1) rfl (.inl rfl)) (mvar (i := 5) rfl (.inl rfl))) anil))))) (sone (sret mbl)) snil))) (scons (sset (i := 6) sc__law_right.nd rfl (.inl rfl) (mmeth0 (tbl := [(12, F_Heap_numbers)]) ⟨⟨_, by decide, M_Heap_numbers⟩, trivial⟩ hr pass_def (mvar (i := 0) rfl (.inl rfl)))) (scons (sif (PW.pt (morT (mnotT (mval (misi ok_list (mvar (i := 6) rfl (.inl rfl)) rfl T.b_isinstance rfl T.b_list bt_list bt_isinstance))) (mor1 (mnotT (mval (mcallN st_V (c_all rfl) rfl T.b_all bt_all (mcomp (t := .many [8, 9]) (own := [("_law_one", 8), ("_law_other", 9)]) rfl rfl sc__law_right.nd (isrcZ rfl T.b_zip (acons (mvar (i := 6) rfl (.inl rfl)) (acons (mvar (i := 4) rfl (.inl rfl)) anil))) (blkOk_by (N := N__law_right) (sc := defScope s__law_right) (by decide +kernel)) (fun _ _ _ _ _ => pg_tup rfl (pgs_cons (pg_name (i := 8) sc__law_right.nd rfl (Or.inl rfl)) (pgs_cons (pg_name (i := 9) sc__law_right.nd rfl (Or.inl rfl)) (pgs_nil)))) (fun _ _ _ _ _ => tyes) (fun _ _ _ _ _ => (mcall C__law_same (by decide) hr passL rfl (acons (mvar (i := 8) rfl (.inl rfl)) (acons (mvar (i := 9) rfl (.inl rfl)) anil))))))))))) (sone (sret mbl)) snil) (scons (sif (mcmpT (op_neM hr.units) (mcallV st_V c_lenV rfl T.b_len bt_len (acons (mvar (i := 6) rfl (.inl rfl)) anil)) (mcallV st_V c_lenV rfl T.b_len bt_len (acons (mvar (i := 4) rfl (.inl rfl)) anil)) (nomark _)) (sone (sret mbl)) snil) (scons (sexpr (mlm PySem.F.slot_list_append PySem.F.type_list_append mt_appendM (mvar (i := 6) rfl (.inl rfl)) (acons mint anil))) (scons (sset (i := 7) sc__law_right.nd rfl (.inl rfl) (mix (hu_of hr) (malloc (mlst (acons (mcallV st_V c_lenV rfl T.b_len bt_len (acons (mvar (i := 1) rfl (.inl rfl)) anil)) (acons (mun un_negM mint) (acons (mbin op_addM (mcallV st_V c_lenV rfl T.b_len bt_len (acons (mvar (i := 1) rfl (.inl rfl)) anil)) mint) (acons mbl (acons mbl (acons mnon (acons mstr (acons (mbin op_powM mint mint) (acons (malloc (mlst (acons mint anil))) anil))))))))))) (mbin op_modM (mbin op_fdivM (mvar (i := 3) rfl (.inl rfl)) mint) mint))) (sone (sret (mand (mcall C__law_refused (by decide) hr pass_def rfl (acons (mvar (i := 0) rfl (.inl rfl)) (acons (mvar (i := 7) rfl (.inl rfl)) (acons (mcmp (op_eqM hr.units) (mbin op_modM (mvar (i := 3) rfl (.inl rfl)) mint) mint (nomark _)) anil)))) (mone (mcmp (op_eqM hr.units) (mmeth0 (tbl := [(12, F_Heap_numbers)]) ⟨⟨_, by decide, M_Heap_numbers⟩, trivial⟩ hr pass_def (mvar (i := 0) rfl (.inl rfl))) (mvar (i := 4) rfl (.inl rfl)) (nomark _))))))))))))))
theorem ok__law_spread {f : Addr} {fd : FuncData} (F : Fun K "_law_spread" "_law_spread" s__law_spread f fd) (T : Txt K mg cA)  : FnOk P w K mg base (L2.CX P w) 1 f fd ["_law_cell", "_law_k"] (spM K cA F__law_spread 2) :=
  defM F sc__law_spread fun cdv A outer s H E hr => by
    unfold m__law_spread
    exact (sone (sret (mbin op_modM (mbin op_mulM (mbin op_addM (mvar (i := 0) rfl (.inl rfl)) mint) (mbin op_addM mint (mbin op_mulM (mbin op_mulM mint (mvar (i := 1) rfl (.inl rfl))) (mvar (i := 1) rfl (.inl rfl))))) mint)))
theorem ok__law_boxes {f : Addr} {fd : FuncData} (F : Fun K "_law_boxes" "_law_boxes" s__law_boxes f fd) (T : Txt K mg cA)  : FnOk P w K mg base (L2.CX P w) 1 f fd ["_law_cell", "_law_many"] (spM K cA F__law_boxes 2) :=
  defM F sc__law_boxes fun cdv A outer s H E hr => by
    unfold m__law_boxes
    exact (scons (sif (mcmpT (op_eqM hr.units) (mvar (i := 1) rfl (.inr (.inl rfl))) mint (nomark _)) (sone (sret (mtup anil))) snil) (sone (sret (mtyN st_V c_tup rfl T.b_tuple bt_tuple (mcomp (t := .one 2) (own := [("_law_k", 2)]) rfl rfl sc__law_boxes.nd (irng1 rfl T.b_range (acons (mbin op_modM (mvar (i := 0) rfl (.inr (.inl rfl))) mint) anil)) (blkOk_by (N := N__law_boxes) (sc := defScope s__law_boxes) (by decide +kernel)) (fun _ _ _ _ _ => pg_name (i := 2) sc__law_boxes.nd rfl (Or.inl rfl)) (fun _ _ _ _ _ => tyes) (fun _ _ _ _ _ => (mbin op_modM (mbin op_fdivM (mbin op_fdivM (mvar (i := 0) rfl (by first | exact .inr (.inr rfl) | exact .inr (.inl rfl) | exact .inl rfl)) mint) (mbin op_addM mint (mbin op_mulM mint (mvar (i := 2) rfl (.inl rfl))))) (mvar (i := 1) rfl (by first | exact .inr (.inr rfl) | exact .inr (.inl rfl) | exact .inl rfl)))))))))
theorem ok__law_value {f : Addr} {fd : FuncData} (F : Fun K "_law_value" "_law_value" s__law_value f fd) (T : Txt K mg cA)  : FnOk P w K mg base (L2.CX P w) 1 f fd ["_law_cell", "_law_many"] (spM K cA F__law_value 2) :=
  defM F sc__law_value fun cdv A outer s H E hr => by
    unfold m__law_value
    exact (scons (sif (PW.pt (mandT (mcmpT op_ltM (mbin op_modM (mvar (i := 0) rfl (.inl rfl)) mint) mint (nomark _)) (mand1 (mcmpT op_gtM (mvar (i := 1) rfl (.inl rfl)) mint (nomark _))))) (sone (sret (mtup (acons mstr (acons (mbin op_modM (mbin op_fdivM (mvar (i := 0) rfl (.inl rfl)) mint) (mvar (i := 1) rfl (.inl rfl))) anil))))) snil) (scons (sif (mcmpT (op_eqM hr.units) (mbin op_modM (mvar (i := 0) rfl (.inl rfl)) mint) mint (nomark _)) (sone (sret mnon)) snil) (sone (sret (mtup (acons mstr (acons (mix (hu_of hr) (malloc (mlst (acons (mbin op_subM (mbin op_modM (mbin op_fdivM (mvar (i := 0) rfl (.inl rfl)) mint) mint) mint) (acons (mbin op_subM (mbin op_modM (mbin op_fdivM (mvar (i := 0) rfl (.inl rfl)) mint) mint) (mbin op_powM mint mint)) anil)))) (mbin op_modM (mbin op_fdivM (mvar (i := 0) rfl (.inl rfl)) mint) mint)) anil)))))))
theorem ok__law_thing {f : Addr} {fd : FuncData} (F : Fun K "_law_thing" "_law_thing" s__law_thing f fd) (T : Txt K mg cA) (C__law_boxes : FnM P w K mg base cA 1 "_law_boxes" 2 F__law_boxes) (C__law_spread : FnM P w K mg base cA 1 "_law_spread" 2 F__law_spread) (C__law_value : FnM P w K mg base cA 1 "_law_value" 2 F__law_value) : FnOk P w K mg base (L2.CX P w) 2 f fd ["_law_cell", "_law_many"] (spM K cA F__law_thing 2) :=
  defM F sc__law_thing fun cdv A outer s H E hr => by
    unfold m__law_thing
    exact (scons (sset (i := 2) sc__law_thing.nd rfl (.inr rfl) (mcall C__law_spread (by decide) hr pass_def rfl (acons (mvar (i := 0) rfl (.inl rfl)) (acons mint anil)))) (scons (sif (mcmpT op_ltM (mbin op_modM (mvar (i := 0) rfl (.inl rfl)) mint) mint (nomark _)) (sone (sret (mtup (acons mstr (acons (mcall C__law_value (by decide) hr pass_def rfl (acons (mvar (i := 2) rfl (.inr (.inl rfl))) (acons (mvar (i := 1) rfl (.inr (.inl rfl))) anil))) anil))))) snil) (scons (sif (mcmpT op_ltM (mbin op_modM (mvar (i := 0) rfl (.inl rfl)) mint) mint (nomark _)) (sone (sret (mtup (acons (mix (hu_of hr) (malloc (mlst (acons mstr (acons mstr anil)))) (mbin op_modM (mvar (i := 0) rfl (.inl rfl)) mint)) (acons (mbin op_modM (mvar (i := 2) rfl (.inr (.inl rfl))) mint) (acons (mcall C__law_boxes (by decide) hr pass_def rfl (acons (mbin op_fdivM (mvar (i := 2) rfl (.inr (.inl rfl))) mint) (acons (mvar (i := 1) rfl (.inr (.inl rfl))) anil))) anil)))))) snil) (scons (sif (mcmpT (op_eqM hr.units) (mbin op_modM (mvar (i := 0) rfl (.inl rfl)) mint) mint (nomark _)) (scons (sset (i := 3) sc__law_thing.nd rfl (.inl rfl) (mtyN st_V c_tup rfl T.b_tuple bt_tuple (mcomp (t := .one 6) (own := [("_law_k", 6)]) rfl rfl sc__law_thing.nd (irng1 rfl T.b_range (acons (mbin op_modM (mvar (i := 2) rfl (.inr (.inl rfl))) mint) anil)) (blkOk_by (N := N__law_thing) (sc := defScope s__law_thing) (by decide +kernel)) (fun _ _ _ _ _ => pg_name (i := 6) sc__law_thing.nd rfl (Or.inl rfl)) (fun _ _ _ _ _ => tyes) (fun _ _ _ _ _ => (mcall C__law_value (by decide) hr passL rfl (acons (mcall C__law_spread (by decide) hr passL rfl (acons (mvar (i := 2) rfl (by first | exact .inr (.inr rfl) | exact .inr (.inl rfl) | exact .inl rfl)) (acons (mvar (i := 6) rfl (.inl rfl)) anil))) (acons (mvar (i := 1) rfl (by first | exact .inr (.inr rfl) | exact .inr (.inl rfl) | exact .inl rfl)) anil))))))) (scons (sset (i := 4) sc__law_thing.nd rfl (.inl rfl) (mcall C__law_boxes (by decide) hr pass_def rfl (acons (mbin op_fdivM (mvar (i := 2) rfl (.inr (.inl rfl))) mint) (acons (mvar (i := 1) rfl (.inr (.inl rfl))) anil)))) (sone (sret (mtup (acons mstr (acons (mbin op_modM (mbin op_fdivM (mvar (i := 2) rfl (.inr (.inl rfl))) mint) mint) (acons (mbin op_modM (mbin op_fdivM (mvar (i := 2) rfl (.inr (.inl rfl))) mint) mint) (acons (mvar (i := 3) rfl (.inl rfl)) (acons (mvar (i := 4) rfl (.inl rfl)) (acons (mcall C__law_boxes (by decide) hr pass_def rfl (acons (mvar (i := 2) rfl (.inr (.inl rfl))) (acons (mvar (i := 1) rfl (.inr (.inl rfl))) anil))) anil))))))))))) snil) (scons (sset (i := 5) sc__law_thing.nd rfl (.inl rfl) (mix (hu_of hr) (malloc (mlst (acons mstr (acons mstr anil)))) (mbin op_modM (mvar (i := 2) rfl (.inr (.inl rfl))) mint))) (sone (sret (mtup (acons mstr (acons (mbin op_modM (mbin op_fdivM (mvar (i := 2) rfl (.inr (.inl rfl))) mint) mint) (acons (mvar (i := 5) rfl (.inl rfl)) (acons (mtup anil) (acons (mtup anil) (acons (mif (mcmpT (op_eqM hr.units) (mvar (i := 5) rfl (.inl rfl)) mstr (nomark _)) (mcall C__law_boxes (by decide) hr pass_def rfl (acons (mbin op_fdivM (mvar (i := 2) rfl (.inr (.inl rfl))) mint) (acons (mvar (i := 1) rfl (.inr (.inl rfl))) anil))) (mtup anil)) anil))))))))))))))
theorem ok_law {f : Addr} {fd : FuncData} (F : Fun K "law" "law" s_law f fd) (T : Txt K mg cA) (C__law_draw : FnM P w K mg base cA 1 "_law_draw" 2 F__law_draw) (C__law_right : FnM P w K mg base cA 61 "_law_right" 4 F__law_right) (C__law_same : FnM P w K mg base cA 60 "_law_same" 2 F__law_same) (C__law_spread : FnM P w K mg base cA 1 "_law_spread" 2 F__law_spread) (C__law_thing : FnM P w K mg base cA 2 "_law_thing" 2 F__law_thing) (M_Heap_change : MtM P w K mg base cA 4 "change" 12 3 F_Heap_change) (M_Heap_put : MtM P w K mg base cA 4 "put" 12 2 F_Heap_put) (K_Heap : MkM P w K mg base cA 1 "Heap" 12 1 F_HeapXX_initXX) : FnOk P w K mg base (L2.CX P w) 62 f fd ["_law_script"] (spM K cA F_law 1) :=
  defM F sc_law fun cdv A outer s H E hr => by
    unfold m_law
    exact (scons (sset (i := 1) sc_law.nd rfl (.inl rfl) (malloc (mlst (acons (mmake0 K_Heap (by decide) hr pass_def rfl) (acons (mmake0 K_Heap (by decide) hr pass_def rfl) anil))))) (scons (sset (i := 2) sc_law.nd rfl (.inl rfl) (malloc (mlst (acons (malloc (mlst anil)) (acons (malloc (mlst anil)) anil))))) (scons (sset (i := 3) sc_law.nd rfl (.inl rfl) (malloc (mlst anil))) (scons (sif (mnotT (mval (mcall C__law_right (by decide) hr pass_def rfl (acons (mix (hu_of hr) (mvar (i := 1) rfl (.inl rfl)) mint) (acons (malloc (mlst anil)) (acons (mvar (i := 3) rfl (.inl rfl)) (acons (mcall C__law_draw (by decide) hr pass_def rfl (acons (mvar (i := 0) rfl (.inl rfl)) (acons mint anil))) anil))))))) (sone (sret mbl)) snil) (scons (sfor own_def rfl (isrc (mslice (mvar (i := 0) rfl (.inl rfl)) (osome mint) (osome mint))) (gname (i := 4) sc_law.nd rfl (.inl rfl)) (scons (sset (i := 4) sc_law.nd rfl (.inl rfl) (mcall C__law_spread (by decide) hr pass_def rfl (acons (mvar (i := 4) rfl (.inl rfl)) (acons mint anil)))) (scons (sset (i := 5) sc_law.nd rfl (.inl rfl) (mbin op_modM (mvar (i := 4) rfl (.inl rfl)) mint)) (scons (sset (i := 6) sc_law.nd rfl (.inl rfl) (mix (hu_of hr) (mvar (i := 1) rfl (.inl rfl)) (mvar (i := 5) rfl (.inl rfl)))) (scons (sset (i := 7) sc_law.nd rfl (.inl rfl) (mcallV st_V c_lenV rfl T.b_len bt_len (acons (mix (hu_of hr) (mvar (i := 2) rfl (.inl rfl)) (mvar (i := 5) rfl (.inl rfl))) anil))) (scons (sset (i := 8) sc_law.nd rfl (.inl rfl) (mcall C__law_thing (by decide) hr pass_def rfl (acons (mbin op_fdivM (mvar (i := 4) rfl (.inl rfl)) mint) (acons (mvar (i := 7) rfl (.inl rfl)) anil)))) (scons (sif (PW.pt (mandT (mcmpT (op_eqM hr.units) (mbin op_modM (mbin op_fdivM (mvar (i := 4) rfl (.inl rfl)) mint) mint) mint (nomark _)) (mand1 (mcmpT op_gtM (mvar (i := 7) rfl (.inl rfl)) mint (nomark _))))) (scons (sset (i := 9) sc_law.nd rfl (.inl rfl) (mbin op_modM (mbin op_fdivM (mvar (i := 4) rfl (.inl rfl)) mint) (mvar (i := 7) rfl (.inl rfl)))) (scons (sif (mcmpT op_isNotM (mmeth (tbl := [(12, F_Heap_change)]) ⟨⟨_, by decide, M_Heap_change⟩, trivial⟩ hr pass_def (mvar (i := 6) rfl (.inl rfl)) (acons (mvar (i := 9) rfl (.inl rfl)) (acons (mvar (i := 8) rfl (.inl rfl)) anil))) mnon (nomark _)) (sone (sret mbl)) snil) (sone (sasg (mvar (i := 8) rfl (.inl rfl)) (gsub (hu_of hr) (mix (hu_of hr) (mvar (i := 2) rfl (.inl rfl)) (mvar (i := 5) rfl (.inl rfl))) (mvar (i := 9) rfl (.inl rfl))))))) (scons (sset (i := 9) sc_law.nd rfl (.inl rfl) (mmeth (tbl := [(12, F_Heap_put)]) ⟨⟨_, by decide, M_Heap_put⟩, trivial⟩ hr pass_def (mvar (i := 6) rfl (.inl rfl)) (acons (mvar (i := 8) rfl (.inl rfl)) anil))) (scons (sif (mnotT (mval (mcall C__law_same (by decide) hr pass_def rfl (acons (mvar (i := 9) rfl (.inl rfl)) (acons (mvar (i := 7) rfl (.inl rfl)) anil))))) (sone (sret mbl)) snil) (sone (sexpr (mlm PySem.F.slot_list_append PySem.F.type_list_append mt_appendM (mix (hu_of hr) (mvar (i := 2) rfl (.inl rfl)) (mvar (i := 5) rfl (.inl rfl))) (acons (mvar (i := 8) rfl (.inl rfl)) anil))))))) (scons (sif (mnotT (mval (mcall C__law_right (by decide) hr pass_def rfl (acons (mvar (i := 6) rfl (.inl rfl)) (acons (mix (hu_of hr) (mvar (i := 2) rfl (.inl rfl)) (mvar (i := 5) rfl (.inl rfl))) (acons (mvar (i := 3) rfl (.inl rfl)) (acons (mbin op_fdivM (mvar (i := 4) rfl (.inl rfl)) mint) anil))))))) (sone (sret mbl)) snil) (sone (sif (mnotT (mval (mcall C__law_right (by decide) hr pass_def rfl (acons (mix (hu_of hr) (mvar (i := 1) rfl (.inl rfl)) (mbin op_subM mint (mvar (i := 5) rfl (.inl rfl)))) (acons (mix (hu_of hr) (mvar (i := 2) rfl (.inl rfl)) (mbin op_subM mint (mvar (i := 5) rfl (.inl rfl)))) (acons (mvar (i := 3) rfl (.inl rfl)) (acons (mbin op_fdivM (mvar (i := 4) rfl (.inl rfl)) mint) anil))))))) (sone (sret mbl)) snil)))))))))) (sone (sret (mcallN st_V (c_all rfl) rfl T.b_all bt_all (mcomp (t := .many [11, 10]) (own := [("_law_found", 11), ("_law_due", 10)]) rfl rfl sc_law.nd (isrc (mvar (i := 3) rfl (.inl rfl))) (blkOk_by (N := N_law) (sc := defScope s_law) (by decide +kernel)) (fun _ _ _ _ _ => pg_tup rfl (pgs_cons (pg_name (i := 11) sc_law.nd rfl (Or.inl rfl)) (pgs_cons (pg_name (i := 10) sc_law.nd rfl (Or.inl rfl)) (pgs_nil)))) (fun _ _ _ _ _ => tyes) (fun _ _ _ _ _ => (mcmp (op_eqM hr.units) (mvar (i := 11) rfl (.inl rfl)) (mvar (i := 10) rfl (.inl rfl)) (nomark _))))))))))))
end
end K23

set_option Elab.async false
set_option linter.all false
set_option maxRecDepth 100000
set_option autoImplicit false
namespace K23
open PySem PySem.Spec L2 ML
@[simp] theorem eq_b (b : Bool) (S : Store) : eqD (.bl b) (.bl b) S = .ok true S := by
  rw [eqD_of (p := .bool b) (q := .bool b) (by simp) (by simp) rfl rfl]
  cases b <;> rfl
@[simp] theorem is_i (i : Int) (S : Store) : isD (.int i) .non S = .ok false S := (rfl)
@[simp] theorem is_s (z : Str) (S : Store) : isD (.str z) .non S = .ok false S := (rfl)
@[simp] theorem is_n (S : Store) : isD .non .non S = .ok true S := (rfl)
/-! ### things -/
inductive Val where
  | non | thing (k : Nat) | num (i : Int)
def Val.d : Val → D
  | .non => .non
  | .thing k => .tup [.str (Str.ofString "thing"), .int (k : Int)]
  | .num i => .tup [.str (Str.ofString "number"), .int i]
inductive Th where
  | box (v : Val) | fn (own : Int) (tk : List Nat) | lo (own : Int) (tk : List Nat) | wt (own : Int) (at_ : D) (sl : List Val) (bx tk : List Nat)
def Th.d : Th → D
  | .box v => .tup [.str (Str.ofString "box"), v.d]
  | .fn own tk => .tup [.str (Str.ofString "fun"), .int own, .tup (intsD tk)]
  | .lo own tk => .tup [.str (Str.ofString "loop"), .int own, .tup (intsD tk)]
  | .wt own at_ sl bx tk => .tup [.str (Str.ofString "waiting"), .int own, at_, .tup (sl.map Val.d), .tup (intsD bx), .tup (intsD tk)]
def Th.cell : Th → Cell
  | .box v => .ins 8 [(Str.ofString "value", v.d)]
  | .fn own tk => .ins 9 [(Str.ofString "own", .int own), (Str.ofString "taken", .tup (intsD tk))]
  | .lo own tk => .ins 10 [(Str.ofString "own", .int own), (Str.ofString "taken", .tup (intsD tk))]
  | .wt own at_ sl bx tk => .ins 11 [(Str.ofString "own", .int own), (Str.ofString "at", at_), (Str.ofString "slots", .tup (sl.map Val.d)), (Str.ofString "boxes", .tup (intsD bx)), (Str.ofString "taken", .tup (intsD tk))]
def atOk (d : D) : Prop := (∃ i, d = .int i) ∨ ∃ s, d = .str (Str.ofString s)
def Th.wf : Th → Prop
  | .box _ => True
  | .fn _ tk => tk.length ≤ 20
  | .lo _ tk => tk.length ≤ 20
  | .wt _ a sl bx tk => atOk a ∧ sl.length ≤ 20 ∧ bx.length ≤ 20 ∧ tk.length ≤ 20
theorem thing_of_eq (T : Th) (S : Store) : F_thing_of [T.d] S = .ok (.ref S.length) (S ++ [T.cell]) := by
  cases T with
  | box v => simp [F_thing_of, m_thing_of, N_thing_of, startL, Th.d, Th.cell, atI, ixN, x_ix, F_BoxXX_initXX, m_BoxXX_initXX, N_BoxXX_initXX, putD]
  | fn own tk => simp [F_thing_of, m_thing_of, N_thing_of, startL, Th.d, Th.cell, atI, ixN, x_ix, F_MakerXX_initXX, m_MakerXX_initXX, N_MakerXX_initXX, putD]
  | lo own tk => simp [F_thing_of, m_thing_of, N_thing_of, startL, Th.d, Th.cell, atI, ixN, x_ix, F_MakerXX_initXX, m_MakerXX_initXX, N_MakerXX_initXX, putD]
  | wt own at_ sl bx tk => simp [F_thing_of, m_thing_of, N_thing_of, startL, Th.d, Th.cell, atI, ixN, x_ix, F_WaitingXX_initXX, m_WaitingXX_initXX, N_WaitingXX_initXX, putD]
/-! ### plain data is the same as itself -/
inductive Pl : Nat → D → Prop
  | int {n : Nat} (i : Int) : Pl n (.int i)
  | str {n : Nat} (z : Str) : Pl n (.str z)
  | non {n : Nat} : Pl n .non
  | tup {n : Nat} {xs : List D} : xs.length ≤ 100 → (∀ x ∈ xs, Pl n x) → Pl (n + 1) (.tup xs)
theorem Pl.up {n : Nat} : ∀ {d : D}, Pl n d → Pl (n + 1) d := by
  induction n with
  | zero =>
    intro d h
    cases h with
    | int i => exact .int i
    | str z => exact .str z
    | non => exact .non
  | succ n ih =>
    intro d h
    cases h with
    | int i => exact .int i
    | str z => exact .str z
    | non => exact .non
    | tup a b => exact .tup a fun x hx => ih (b x hx)
theorem Val.pl (v : Val) : Pl 1 v.d := by
  cases v with
  | non => exact .non
  | thing k => exact .tup (by simp) (by simp; exact ⟨.str _, .int _⟩)
  | num i => exact .tup (by simp) (by simp; exact ⟨.str _, .int _⟩)
theorem ints_pl {l : List Nat} (h : l.length ≤ 20) (n : Nat) : Pl (n + 1) (.tup (intsD l)) := .tup (by simp [intsD]; omega) fun x hx => by
  unfold intsD at hx
  obtain ⟨k, _, rfl⟩ := List.mem_map.mp hx
  exact .int _
theorem Th.pl {T : Th} (h : T.wf) : Pl 3 T.d := by
  cases T with
  | box v => exact .tup (by simp) (by simp; exact ⟨.str _, v.pl.up⟩)
  | fn own tk => exact .tup (by simp) (by simp; exact ⟨.str _, .int _, ints_pl h 1⟩)
  | lo own tk => exact .tup (by simp) (by simp; exact ⟨.str _, .int _, ints_pl h 1⟩)
  | wt own a sl bx tk =>
    obtain ⟨h1, h2, h3, h4⟩ := h
    have ha : Pl 2 a := by
      rcases h1 with ⟨i, rfl⟩ | ⟨s, rfl⟩
      · exact .int _
      · exact .str _
    have hs : Pl 2 (.tup (sl.map Val.d)) := .tup (by simp; omega) fun x hx => by
      obtain ⟨v, _, rfl⟩ := List.mem_map.mp hx
      exact v.pl
    exact .tup (by simp) (by simp; exact ⟨.str _, .int _, ha, hs, ints_pl h3 1, ints_pl h4 1⟩)
theorem zip_self {xs : List D} {p : D × D} (h : p ∈ xs.zip xs) : p.1 = p.2 ∧ p.1 ∈ xs := by
  induction xs with
  | nil => simp at h
  | cons x xs ih =>
    rw [List.zip_cons_cons] at h
    rcases List.mem_cons.mp h with rfl | h
    · exact ⟨rfl, List.mem_cons_self⟩
    · exact ⟨(ih h).1, List.mem_cons_of_mem _ (ih h).2⟩
theorem same_eq : ∀ (n m : Nat) (d : D), Pl n d → n < m → ∀ S, G__law_same m 0 [d, d] S = .ok (.bl true) S := by
  intro n
  induction n with
  | zero =>
    intro m d h hm S
    obtain ⟨k, rfl⟩ : ∃ k, m = k + 1 := ⟨m - 1, by omega⟩
    rw [G__law_same_0]
    cases h <;> simp [m__law_same, N__law_same, startL, kindO, isKind]
  | succ n ih =>
    intro m d h hm S
    obtain ⟨k, rfl⟩ : ∃ k, m = k + 1 := ⟨m - 1, by omega⟩
    rw [G__law_same_0]
    cases h with
    | int i => simp [m__law_same, N__law_same, startL, kindO, isKind]
    | str z => simp [m__law_same, N__law_same, startL, kindO, isKind]
    | non => simp [m__law_same, N__law_same, startL, kindO, isKind]
    | @tup _ xs a b =>
      have e := comp_pairs (chk := still) (i := 2) (j := 3) (m := callE 2 (G__law_same k 0) (consA (varE 2) (consA (varE 3) nilA))) (l := [some (.tup xs), some (.tup xs), none, none]) (S := S) trivial (xs.zip xs) (fun p hp => by
        obtain ⟨h1, h2⟩ := zip_self hp
        have := ih k p.1 (b _ h2) (by omega) S
        simp [← h1, this]) [] (by simp; omega)
      have e2 := allL_map (fun _ : D × D => true) (xs.zip xs) S
      rw [List.nil_append] at e
      simp [m__law_same, N__law_same, startL, kindO, isKind, Tgt.own, wipeL, pairsOf, e, e2]
theorem same_top {n : Nat} {d : D} (h : Pl n d) (hn : n < 60) (S : Store) : F__law_same [d, d] S = .ok (.bl true) S := same_eq n 60 d h hn S
end K23

set_option Elab.async false
set_option linter.all false
set_option maxRecDepth 100000
set_option autoImplicit false
namespace K23
open PySem PySem.Spec L2 ML
/-! ### the heap -/
abbrev Tr := Nat × Th × Nat
def tk (p : Tr) : Nat := p.1
def keys (ps : List Tr) : List Nat := ps.map tk
def rD (p : Tr) : D := .ref p.2.2
def tD (p : Tr) : D := p.2.1.d
def hpC (d n : Nat) : Cell := .ins 12 [(Str.ofString "there", .ref d), (Str.ofString "count", .int (n : Int))]
structure HeapAt (S : Store) (h d n : Nat) (ps : List Tr) : Prop where
  h1 : S[h]? = some (hpC d n)
  h2 : S[d]? = some (.dct (dK tk rD ps))
  h3 : ∀ p ∈ ps, S[p.2.2]? = some p.2.1.cell
theorem HeapAt.app {S : Store} {h d n : Nat} {ps : List Tr} (H : HeapAt S h d n ps) (X : Store) : HeapAt (S ++ X) h d n ps := ⟨at_app H.h1, at_app H.h2, fun p hp => at_app (H.h3 p hp)⟩
/-! ### put, change, numbers, thing -/
theorem cell_lst (T : Th) (xs : List D) : T.cell ≠ .lst xs := by cases T <;> exact fun h => by cases h
theorem cell_dct (T : Th) (xs : List (Key × D)) : T.cell ≠ .dct xs := by cases T <;> exact fun h => by cases h
theorem cell_hp (T : Th) (d n : Nat) : T.cell ≠ hpC d n := by cases T <;> exact fun h => by cases h
theorem HeapAt.set {S : Store} {h d n q : Nat} {ps : List Tr} {c c' : Cell} (H : HeapAt S h d n ps) (hq : S[q]? = some c) (h1 : q ≠ h) (h2 : q ≠ d) (hc : ∀ T : Th, T.cell ≠ c) : HeapAt (S.set q c') h d n ps :=
  ⟨by rw [get_set_ne h1]; exact H.h1, by rw [get_set_ne h2]; exact H.h2, fun p hp => by
    have := H.h3 p hp
    have ne : q ≠ p.2.2 := by
      rintro rfl
      rw [hq] at this
      exact hc _ (Option.some.inj this).symm
    rw [get_set_ne ne]; exact this⟩
theorem HeapAt.ins {S : Store} {h d n : Nat} {ps : List Tr} (H : HeapAt S h d n ps) : insAt S h = some (12, [(Str.ofString "there", .ref d), (Str.ofString "count", .int (n : Int))]) := insAt_of H.h1
theorem sort_rising {l : List Nat} (h : l.Pairwise (· < ·)) : l.mergeSort (fun a b => decide (a ≤ b)) = l :=
  rising_eq (sort_nodup (h.imp fun h => Nat.ne_of_lt h)) h fun k => (List.mergeSort_perm l _).mem_iff
theorem numbers_eq {S : Store} {h d n : Nat} {ps : List Tr} (H : HeapAt S h d n ps) (hr : (keys ps).Pairwise (· < ·)) : F_Heap_numbers [.ref h] S = .ok (.ref S.length) (S ++ [.lst (intsD (keys ps))]) := by
  have e1 := x_listDict H.h2
  rw [dK_keys] at e1
  have e2 := sortL_ints (keys ps) S
  rw [sort_rising hr] at e2
  have e3 := H.ins
  have e1 : listV [.ref d] S = .ok (intsD (keys ps)) S := e1
  simp [F_Heap_numbers, m_Heap_numbers, N_Heap_numbers, startL, e3, List.lookup, beq_of, e1, e2]
theorem put_eq {S : Store} {h d n : Nat} {ps : List Tr} (H : HeapAt S h d n ps) (hn : n ∉ keys ps) (hz : ps.length < 1000000) (hd : h ≠ d) (T : Th) :
    ∃ S', F_Heap_put [.ref h, T.d] S = .ok (.int (n : Int)) S' ∧ HeapAt S' h d (n + 1) (ps ++ [(n, T, S.length)]) ∧ S'.length = S.length + 1 ∧ ∀ i c, S[i]? = some c → i ≠ h → i ≠ d → S'[i]? = some c := by
  have e1 := thing_of_eq T S
  have e2 := (H.app [T.cell]).ins
  have k2 : (S ++ [T.cell])[d]? = some (.dct (dK tk rD ps)) := at_app H.h2
  have e3 := x_setDict (S := S ++ [T.cell]) (n := d) (k := n) (v := .ref S.length) k2 (by rw [dK_len]; omega)
  have e4 : dPut (dK tk rD ps) (.inl (n : Int)) (.ref S.length) = dK tk rD (ps ++ [(n, T, S.length)]) := dK_put (k := tk) (f := rD) (q := ((n, T, S.length) : Tr)) hn
  rw [e4] at e3
  obtain ⟨S2, hS2⟩ : ∃ S2, (S ++ [T.cell]).set d (.dct (dK tk rD (ps ++ [(n, T, S.length)]))) = S2 := ⟨_, rfl⟩
  rw [hS2] at e3
  have k3 : S2[h]? = some (hpC d n) := by rw [← hS2, get_set_ne (Ne.symm hd)]; exact at_app H.h1
  have e5 : insAt S2 h = some (12, [(Str.ofString "there", .ref d), (Str.ofString "count", .int (n : Int))]) := insAt_of k3
  obtain ⟨S3, hS3⟩ : ∃ S3, S2.set h (.ins 12 [(Str.ofString "there", .ref d), (Str.ofString "count", .int ((n : Int) + 1))]) = S3 := ⟨_, rfl⟩
  have e6 : insAt S3 h = some (12, [(Str.ofString "there", .ref d), (Str.ofString "count", .int ((n : Int) + 1))]) := insAt_of (by rw [← hS3]; exact get_set_at k3)
  refine ⟨S3, ?_, ⟨?_, ?_, fun p hp => ?_⟩, by rw [← hS3, ← hS2]; simp, fun i c hc h1 h2 => ?_⟩
  · simp [F_Heap_put, m_Heap_put, N_Heap_put, startL, e1, e2, List.lookup, beq_of, e3, putD, e5, hS3, e6]
  · rw [← hS3, get_set_at k3]
    simp [hpC]
  · rw [← hS3, get_set_ne hd, ← hS2, get_set_at k2]
  · have hp3 : (S ++ [T.cell])[p.2.2]? = some p.2.1.cell := by
      rcases List.mem_append.mp hp with hp | hp
      · exact at_app (H.h3 p hp)
      · simp at hp; subst hp; exact at_end
    have n1 : h ≠ p.2.2 := by
      rintro rfl
      rw [at_app H.h1] at hp3
      exact cell_hp _ _ _ (Option.some.inj hp3).symm
    have n2 : d ≠ p.2.2 := by
      rintro rfl
      rw [k2] at hp3
      exact cell_dct _ _ (Option.some.inj hp3).symm
    rw [← hS3, get_set_ne n1, ← hS2, get_set_ne n2]
    exact hp3
  · rw [← hS3, get_set_ne (Ne.symm h1), ← hS2, get_set_ne (Ne.symm h2)]
    exact at_app hc
theorem need_ok {S : Store} {h d n k : Nat} {ps : List Tr} (H : HeapAt S h d n ps) (hk : k ∈ keys ps) : F_Heap_need [.ref h, .int (k : Int)] S = .ok .non S := by
  obtain ⟨p, hp, _, _⟩ := atK_mem hk
  have e2 := H.ins
  have e4 := x_ninDict (k := k) H.h2
  rw [dK_look, hp] at e4
  simp [F_Heap_need, m_Heap_need, N_Heap_need, startL, isKind, e2, List.lookup, beq_of, e4]
theorem need_no {S : Store} {h d n k : Nat} {ps : List Tr} (H : HeapAt S h d n ps) (hk : k ∉ keys ps) : F_Heap_need [.ref h, .int (k : Int)] S = .ex ⟨6, []⟩ S := by
  have e2 := H.ins
  have e4 := x_ninDict (k := k) H.h2
  rw [dK_look, atK_none hk] at e4
  simp [F_Heap_need, m_Heap_need, N_Heap_need, startL, isKind, e2, List.lookup, beq_of, e4]
theorem change_eq {S : Store} {h d n k : Nat} {ps : List Tr} (H : HeapAt S h d n ps) (hk : k ∈ keys ps) (hz : ps.length < 1000000) (hd : h ≠ d) (T : Th) :
    ∃ S', F_Heap_change [.ref h, .int (k : Int), T.d] S = .ok .non S' ∧ HeapAt S' h d n (ps.map fun p => if tk p = k then (k, T, S.length) else p) ∧ S'.length = S.length + 1 ∧ ∀ i c, S[i]? = some c → i ≠ h → i ≠ d → S'[i]? = some c := by
  have e0 := need_ok H hk
  have e1 := thing_of_eq T S
  have e2 := (H.app [T.cell]).ins
  have e2' := H.ins
  have k2 : (S ++ [T.cell])[d]? = some (.dct (dK tk rD ps)) := at_app H.h2
  have e3 := x_setDict (S := S ++ [T.cell]) (n := d) (k := k) (v := .ref S.length) k2 (by rw [dK_len]; omega)
  have e4 : dPut (dK tk rD ps) (.inl (k : Int)) (.ref S.length) = dK tk rD (ps.map fun p => if tk p = k then (k, T, S.length) else p) := dK_set (k := tk) (f := rD) (q := ((k, T, S.length) : Tr)) hk
  rw [e4] at e3
  obtain ⟨S2, hS2⟩ : ∃ S2, (S ++ [T.cell]).set d (.dct (dK tk rD (ps.map fun p => if tk p = k then (k, T, S.length) else p))) = S2 := ⟨_, rfl⟩
  rw [hS2] at e3
  refine ⟨S2, ?_, ⟨?_, ?_, fun p hp => ?_⟩, by rw [← hS2]; simp, fun i c hc h1 h2 => ?_⟩
  · simp [F_Heap_change, m_Heap_change, N_Heap_change, startL, e1, e2, e2', List.lookup, beq_of, e3, R.noex, e0]
  · rw [← hS2, get_set_ne (Ne.symm hd)]; exact at_app H.h1
  · rw [← hS2, get_set_at k2]
  · have hp3 : (S ++ [T.cell])[p.2.2]? = some p.2.1.cell := by
      obtain ⟨q, hq, e⟩ := List.mem_map.mp hp
      split at e
      · subst e; exact at_end
      · subst e; exact at_app (H.h3 q hq)
    have n2 : d ≠ p.2.2 := by
      rintro rfl
      rw [k2] at hp3
      exact cell_dct _ _ (Option.some.inj hp3).symm
    rw [← hS2, get_set_ne n2]
    exact hp3
  · rw [← hS2, get_set_ne (Ne.symm h2)]
    exact at_app hc
noncomputable def shapeT : Tbl := [(8, F_Box_shape), (9, F_Maker_shape), (10, F_Maker_shape), (11, F_Waiting_shape)]
theorem shape_eq {T : Th} {S : Store} {r : Nat} (h : S[r]? = some T.cell) : ∃ c fs G, T.cell = .ins c fs ∧ fs.lookup (Str.ofString "shape") = none ∧ tblAt shapeT c = some G ∧ G [.ref r] S = .ok T.d S := by
  have e := fun c fs (q : T.cell = .ins c fs) => insAt_of (h.trans (congrArg some q))
  cases T with
  | box v =>
    have e := e _ _ rfl
    exact ⟨8, _, F_Box_shape, rfl, by simp [List.lookup, beq_of], rfl, by simp [F_Box_shape, m_Box_shape, N_Box_shape, startL, e, List.lookup, beq_of, Th.d, sz]⟩
  | fn own tk =>
    have e := e _ _ rfl
    exact ⟨9, _, F_Maker_shape, rfl, by simp [List.lookup, beq_of], rfl, by simp [F_Maker_shape, m_Maker_shape, N_Maker_shape, startL, e, List.lookup, beq_of, Th.d, sz, R.noex, F_Maker_kind_word, m_Maker_kind_word, N_Maker_kind_word]⟩
  | lo own tk =>
    have e := e _ _ rfl
    exact ⟨10, _, F_Maker_shape, rfl, by simp [List.lookup, beq_of], rfl, by simp [F_Maker_shape, m_Maker_shape, N_Maker_shape, startL, e, List.lookup, beq_of, Th.d, sz, R.noex, F_Looper_kind_word, m_Looper_kind_word, N_Looper_kind_word]⟩
  | wt own at_ sl bx tk =>
    have e := e _ _ rfl
    exact ⟨11, _, F_Waiting_shape, rfl, by simp [List.lookup, beq_of], rfl, by simp [F_Waiting_shape, m_Waiting_shape, N_Waiting_shape, startL, e, List.lookup, beq_of, Th.d, sz, R.noex, F_Waiting_kind_word, m_Waiting_kind_word, N_Waiting_kind_word]⟩
theorem thingAt_eq {S : Store} {h d n k : Nat} {ps : List Tr} {p : Tr} (H : HeapAt S h d n ps) (hp : atK tk ps k = some p) (hpm : p ∈ ps) (hk : k ∈ keys ps) : F_Heap_thing [.ref h, .int (k : Int)] S = .ok p.2.1.d S := by
  have e0 := need_ok H hk
  have e2 := H.ins
  obtain ⟨c, fs, G, p1, p2, p3, p4⟩ := shape_eq (H.h3 p hpm)
  have e3 : ixO S (.ref d) (.int (k : Int)) = some (.ref p.2.2) := by
    rw [x_ixDict H.h2, dK_look, hp]
    rfl
  have e4 : insAt S p.2.2 = some (c, fs) := insAt_of (by rw [H.h3 p hpm, p1])
  simp [F_Heap_thing, m_Heap_thing, N_Heap_thing, startL, e2, List.lookup, beq_of, R.noex, e0, x_ix, e3, e4, p2]
  simp only [shapeT, x_tblAt0, x_tblAtS] at p3
  rw [p3]
  simp [p4]
/-! ### what is not there -/
def Odd (m : Nat) (S : Store) (d : D) : Prop := (∃ i : Int, d = .int i ∧ ∀ k : Nat, k < m → i ≠ (k : Int)) ∨ (∃ b, d = .bl b) ∨ d = .non ∨ (∃ z, d = .str z) ∨ ∃ q xs, d = .ref q ∧ S[q]? = some (.lst xs)
theorem look_int {ps : List Tr} {i : Int} (h : ∀ k ∈ keys ps, i ≠ (k : Int)) : dLook (dK tk rD ps) (.inl i) = none := by
  by_cases c : 0 ≤ i
  · obtain ⟨k, rfl⟩ : ∃ k : Nat, i = (k : Int) := ⟨i.toNat, by omega⟩
    rw [dK_look, atK_none fun hk => h k hk rfl]
    rfl
  · induction ps with
    | nil => rfl
    | cons p ps ih =>
      unfold dK dLook at ih ⊢
      rw [List.map_cons, List.find?_cons]
      have ne : decide ((Sum.inl (tk p : Int) : Key) = Sum.inl i) = false := decide_eq_false fun e => by
        cases e
        omega
      simp only [ne]
      exact ih fun k hk => h k (List.mem_cons_of_mem _ hk)
theorem need_odd {S : Store} {h d n : Nat} {ps : List Tr} (H : HeapAt S h d n ps) (hk : keys ps = List.range ps.length) {o : D} (ho : Odd ps.length S o) : F_Heap_need [.ref h, o] S = .ex ⟨6, []⟩ S := by
  have e2 := H.ins
  rcases ho with ⟨i, rfl, hi⟩ | ⟨b, rfl⟩ | rfl | ⟨z, rfl⟩ | ⟨q, xs, rfl, hq⟩
  · have hl : dLook (dK tk rD ps) (.inl i) = none := look_int fun k hk' => by
      rw [hk] at hk'
      exact hi k (List.mem_range.mp hk')
    have e4 : notInD (.int i) (.ref d) S = .ok true S := by
      unfold notInD inO
      have h1 : seqOf S (.ref d) = none := by
        show lstAt S d = none
        unfold lstAt
        rw [H.h2]
      simp only [h1, kvAt_of H.h2, keyO, hl]
      rfl
    simp [F_Heap_need, m_Heap_need, N_Heap_need, startL, isKind, e2, List.lookup, beq_of, e4]
  · simp [F_Heap_need, m_Heap_need, N_Heap_need, startL, isKind, kindO]
  · simp [F_Heap_need, m_Heap_need, N_Heap_need, startL, isKind, kindO]
  · simp [F_Heap_need, m_Heap_need, N_Heap_need, startL, isKind, kindO]
  · simp [F_Heap_need, m_Heap_need, N_Heap_need, startL, isKind, kindO, hq]
theorem alone_eq (a : Addr) (S : Store) : F__law_alone a ⟨6, []⟩ [.exn a] S = .ok (.bl true) S := by
  simp [F__law_alone, m__law_alone, N__law_alone, startL, kisA, kisX, kis]
theorem refused_eq {S : Store} {h d n : Nat} {ps : List Tr} (H : HeapAt S h d n ps) (hk : keys ps = List.range ps.length) {o : D} (ho : Odd ps.length S o) (b : Bool) : F__law_refused [.ref h, o, .bl b] S = .ok (.bl true) S := by
  have e0 := need_odd H hk ho
  have e2 := H.ins
  have e3 : F_Heap_thing [.ref h, o] S = .ex ⟨6, []⟩ S := by
    simp [F_Heap_thing, m_Heap_thing, N_Heap_thing, startL, e2, List.lookup, beq_of, R.noex, e0]
  have e4 : F_Heap_change [.ref h, o, .tup [.str (Str.ofString "box"), .non]] S = .ex ⟨6, []⟩ S := by
    simp [F_Heap_change, m_Heap_change, N_Heap_change, startL, e2, List.lookup, beq_of, R.noex, e0]
  simp only [F__law_refused, m__law_refused, N__law_refused, x_bodyF, x_seqS]
  rw [catch_ex (x := ⟨6, []⟩) (S1 := S) (r := .ok (.rt (.bl true), [some (.ref h), some o, some (.bl b), none]) S) (by cases b <;> simp [startL, e2, List.lookup, beq_of, R.noex, e3, e4, sz]) rfl (fun a => by simp [startL, alone_eq])]
  simp
end K23

set_option Elab.async false
set_option linter.all false
set_option maxRecDepth 100000
set_option autoImplicit false
namespace K23
open PySem PySem.Spec L2 ML
/-! ### what is drawn -/
theorem draw_eq (ns : List Int) (k : Nat) : ∃ z : Int, ∀ S, F__law_draw [.lis (ns.map .int), .int (k : Int)] S = .ok (.int z) S := by
  by_cases h : k < ns.length
  · refine ⟨ns[k], fun S => ?_⟩
    have e : ixD (.lis (ns.map D.int)) (.int (k : Int)) S = .ok (.int ns[k]) S := x_ixD (atI_nat (by simp [h]))
    simp [F__law_draw, m__law_draw, N__law_draw, startL, h, e]
  · refine ⟨0, fun S => ?_⟩
    simp [F__law_draw, m__law_draw, N__law_draw, startL, h]
theorem spread_eq (c k : Int) (h0 : 0 ≤ k) (h1 : k ≤ 1000) : ∃ z : Int, 0 ≤ z ∧ ∀ S, F__law_spread [.int c, .int k] S = .ok (.int z) S := by
  have hk : 0 ≤ 2 * k * k ∧ 2 * k * k ≤ 2000000 := by
    have a1 : 0 ≤ 2 * k := by omega
    have a2 := Int.mul_nonneg a1 h0
    have a3 : 2 * k * k ≤ 2000 * k := Int.mul_le_mul_of_nonneg_right (by omega) h0
    omega
  refine ⟨(c + 3) * (48271 + 2 * k * k) % 2147483647, Int.emod_nonneg _ (by decide), fun S => ?_⟩
  have e1 : (2 * k).natAbs < 18446744073709551616 := by omega
  have e2 : (48271 + 2 * k * k).natAbs < 18446744073709551616 := by omega
  simp [F__law_spread, m__law_spread, N__law_spread, startL, e1, e2]
theorem draw_int (ns : List Int) (i : Int) (hi : 0 ≤ i) : ∃ z : Int, ∀ S, F__law_draw [.lis (ns.map .int), .int i] S = .ok (.int z) S := by
  obtain ⟨z, h⟩ := draw_eq ns i.toNat
  refine ⟨z, fun S => ?_⟩
  have := h S
  rwa [show ((i.toNat : Nat) : Int) = i by omega] at this
theorem value_eq (c : Int) (n : Nat) : ∃ v : Val, ∀ S, ∃ Y, F__law_value [.int c, .int (n : Int)] S = .ok v.d (S ++ Y) := by
  by_cases c1 : c % 5 < 2 ∧ 0 < n
  · have b1 := Int.emod_nonneg (c / 5) (show (n : Int) ≠ 0 by omega)
    have b2 := Int.emod_lt_of_pos (c / 5) (show (0 : Int) < (n : Int) by omega)
    obtain ⟨j, ej⟩ : ∃ j : Nat, c / 5 % (n : Int) = (j : Int) := ⟨(c / 5 % (n : Int)).toNat, by omega⟩
    have hn : (0 : Int) < (n : Int) := by omega
    refine ⟨.thing j, fun S => ⟨[], ?_⟩⟩
    simp [F__law_value, m__law_value, N__law_value, startL, c1.1, c1.2, Val.d, sz, ej, hn]
  · by_cases c2 : c % 5 = 2
    · refine ⟨.non, fun S => ⟨[], ?_⟩⟩
      simp [F__law_value, m__law_value, N__law_value, startL, c2, Val.d, sz]
    · obtain ⟨u, hu⟩ : ∃ u, c / 5 % 9 - 4 = u := ⟨_, rfl⟩
      obtain ⟨v, hv⟩ : ∃ v, c / 5 % 2000000000001 - 1000000000000 = v := ⟨_, rfl⟩
      have h3 : c / 5 % 2 = 0 ∨ c / 5 % 2 = 1 := by omega
      have key : ∀ (i x : Int), c / 5 % 2 = i → atI [D.int u, D.int v] i = some (.int x) → ∃ w : Val, ∀ S, ∃ Y, F__law_value [.int c, .int (n : Int)] S = .ok w.d (S ++ Y) := fun i x hi hx => by
        refine ⟨.num x, fun S => ⟨[.lst [.int u, .int v]], ?_⟩⟩
        have i0 : ixO (S ++ [.lst [.int u, .int v]]) (.ref S.length) (.int i) = some (.int x) := by
          rw [x_ixR (lstAt_of at_end)]
          exact hx
        by_cases c3 : c % 5 < 2
        · have c4 : n = 0 := by omega
          subst c4
          simp [F__law_value, m__law_value, N__law_value, startL, c2, c3, Val.d, sz, hu, hv, hi, x_ix, i0]
        · simp [F__law_value, m__law_value, N__law_value, startL, c2, c3, Val.d, sz, hu, hv, hi, x_ix, i0]
      rcases h3 with h3 | h3
      · exact key 0 u h3 rfl
      · exact key 1 v h3 rfl
theorem boxes_eq (c : Int) (n : Nat) : ∃ bx : List Nat, bx.length ≤ 20 ∧ ∀ S, F__law_boxes [.int c, .int (n : Int)] S = .ok (.tup (intsD bx)) S := by
  by_cases hv : n = 0
  · subst hv
    refine ⟨[], by simp, fun S => ?_⟩
    simp [F__law_boxes, m__law_boxes, N__law_boxes, startL, sz, intsD]
  · obtain ⟨m, em, hm⟩ : ∃ m : Nat, c % 4 = (m : Int) ∧ m ≤ 3 := ⟨(c % 4).toNat, by omega, by omega⟩
    have hn : (0 : Int) < (n : Int) := by omega
    obtain ⟨g, hg⟩ : ∃ g : Nat → Nat, ∀ k : Nat, c / 7 / (1 + 5 * (k : Int)) % (n : Int) = ((g k : Nat) : Int) := ⟨fun k => (c / 7 / (1 + 5 * (k : Int)) % (n : Int)).toNat, fun k => by
      have b1 := Int.emod_nonneg (c / 7 / (1 + 5 * (k : Int))) (show (n : Int) ≠ 0 by omega)
      rw [Int.toNat_of_nonneg b1]⟩
    refine ⟨(List.range m).map g, by simp; omega, fun S => ?_⟩
    have hr : rng1 [.int (m : Int)] S = .ok (intsD (List.range m), still) S := by
      rw [x_rng1 (by omega) (by omega), Int.toNat_natCast, rng_ints]
    have e : compL still (.one 2) yesM (binE modD (binE fdivD (binE fdivD (varE 0) (conE (.int 7))) (binE addD (conE (.int 1)) (binE mulD (conE (.int 5)) (varE 2)))) (varE 1)) [some (.int c), some (.int (n : Int)), none] (intsD (List.range m)) [] S = .ok (intsD ((List.range m).map g)) S := by
      unfold intsD
      rw [List.map_map]
      rw [compL_mapG (fun k : Nat => D.int (k : Int)) (fun k : Nat => D.int ((g k : Nat) : Int)) (List.range m)]
      · rfl
      · intro k hk
        have hk := List.mem_range.mp hk
        have hgk := hg k
        obtain ⟨k0, ek0⟩ : ∃ k0 : Int, (k : Int) = k0 := ⟨_, rfl⟩
        have e3 : k0.natAbs < 18446744073709551616 := by omega
        rw [ek0] at hgk ⊢
        simp [e3, show 0 < 1 + 5 * k0 by omega, show 1 + 5 * k0 < 1073741824 by omega, hv, hgk]
      · rw [sz]; simp; omega
    have hn2 : ¬ (n : Int) = 0 := by omega
    have hr2 : ∀ ds S, tupL ds S = .ok (.tup ds) S := fun _ _ => rfl
    simp only [F__law_boxes, m__law_boxes, N__law_boxes, x_bodyF, startL]
    simp [-List.map_map, hv, em, hr, Tgt.own, wipeL, e, hr2]
theorem thing_eq (c : Int) (n : Nat) : ∃ T : Th, T.wf ∧ ∀ S, ∃ X, F__law_thing [.int c, .int (n : Int)] S = .ok T.d (S ++ X) := by
  obtain ⟨z, hz, ez⟩ := spread_eq c 1 (by omega) (by omega)
  by_cases c1 : c % 6 < 2
  · obtain ⟨v, ev⟩ := value_eq z n
    refine ⟨.box v, trivial, fun S => ?_⟩
    obtain ⟨Y, eY⟩ := ev S
    exact ⟨Y, by simp [F__law_thing, m__law_thing, N__law_thing, startL, ez, c1, eY, Th.d, sz]⟩
  · by_cases c2 : c % 6 < 4
    · obtain ⟨tk, ht, et⟩ := boxes_eq (z / 300) n
      have h3 : c % 2 = 0 ∨ c % 2 = 1 := by omega
      rcases h3 with h3 | h3
      · refine ⟨.fn (z % 300) tk, ht, fun S => ⟨[.lst [.str (Str.ofString "fun"), .str (Str.ofString "loop")]], ?_⟩⟩
        have i0 : ixO (S ++ [.lst [.str (Str.ofString "fun"), .str (Str.ofString "loop")]]) (.ref S.length) (.int 0) = some (.str (Str.ofString "fun")) := by
          rw [x_ixR (lstAt_of at_end)]; rfl
        simp [F__law_thing, m__law_thing, N__law_thing, startL, ez, c1, c2, h3, et, Th.d, sz, x_ix, i0]
      · refine ⟨.lo (z % 300) tk, ht, fun S => ⟨[.lst [.str (Str.ofString "fun"), .str (Str.ofString "loop")]], ?_⟩⟩
        have i0 : ixO (S ++ [.lst [.str (Str.ofString "fun"), .str (Str.ofString "loop")]]) (.ref S.length) (.int 1) = some (.str (Str.ofString "loop")) := by
          rw [x_ixR (lstAt_of at_end)]; rfl
        simp [F__law_thing, m__law_thing, N__law_thing, startL, ez, c1, c2, h3, et, Th.d, sz, x_ix, i0]
    · by_cases c3 : c % 6 = 4
      · obtain ⟨m, em, hm⟩ : ∃ m : Nat, z % 5 = (m : Int) ∧ m ≤ 4 := ⟨(z % 5).toNat, by omega, by omega⟩
        obtain ⟨b1, hb, eb⟩ := boxes_eq (z / 11) n
        obtain ⟨b2, hb2, eb2⟩ := boxes_eq z n
        have hv : ∀ k : Nat, ∃ v : Val, k ≤ 1000 → ∀ S, ∃ Y, callE 2 F__law_value (consA (callE 2 F__law_spread (consA (varE 2) (consA (varE 6) (nilA)))) (consA (varE 1) (nilA))) [some (.int c), some (.int (n : Int)), some (.int z), none, none, none, some (.int (k : Int))] S = .ok v.d (S ++ Y) := fun k => by
          by_cases hk : k ≤ 1000
          · obtain ⟨y, hy, ey⟩ := spread_eq z k (by omega) (by omega)
            obtain ⟨v, ev⟩ := value_eq y n
            refine ⟨v, fun _ S => ?_⟩
            obtain ⟨Y, eY⟩ := ev S
            exact ⟨Y, by simp [ey, eY]⟩
          · exact ⟨.non, fun h => absurd h hk⟩
        have ⟨V, hV⟩ := Classical.axiomOfChoice hv
        refine ⟨.wt (z / 5 % 300) (.int (z / 7 % 2000)) ((List.range m).map V) b1 b2, ⟨.inl ⟨_, rfl⟩, by simp; omega, hb, hb2⟩, fun S => ?_⟩
        have hr : rng1 [.int (m : Int)] S = .ok (intsD (List.range m), still) S := by
          rw [x_rng1 (by omega) (by omega), Int.toNat_natCast, rng_ints]
        obtain ⟨Y, eY⟩ := compX (chk := still) still_mono (i := 6) (m := callE 2 F__law_value (consA (callE 2 F__law_spread (consA (varE 2) (consA (varE 6) (nilA)))) (consA (varE 1) (nilA)))) (l := [some (.int c), some (.int (n : Int)), some (.int z), none, none, none, none]) (fun d => match d with
          | .int i => (V i.toNat).d
          | _ => .non) (intsD (List.range m)) (fun d hd S _ => by
            unfold intsD at hd
            obtain ⟨k, hk, rfl⟩ := List.mem_map.mp hd
            have hk := List.mem_range.mp hk
            exact hV k (by omega) S) [] S trivial (by simp [intsD]; omega)
        have em2 : (intsD (List.range m)).map (fun d => match d with
          | .int i => (V i.toNat).d
          | _ => .non) = ((List.range m).map V).map Val.d := by
          unfold intsD
          rw [List.map_map, List.map_map]
          rfl
        rw [em2, List.nil_append] at eY
        have hr2 : ∀ ds S, tupL ds S = .ok (.tup ds) S := fun _ _ => rfl
        refine ⟨Y, ?_⟩
        simp only [F__law_thing, m__law_thing, N__law_thing, x_bodyF, startL]
        simp [-List.map_map, -compL_mapG, ez, c3, em, hr, Tgt.own, wipeL, eY, hr2, eb, eb2, Th.d, sz]
      · obtain ⟨b, hb, eb⟩ := boxes_eq (z / 9) n
        have h3 : z % 2 = 0 ∨ z % 2 = 1 := by omega
        rcases h3 with h3 | h3
        · refine ⟨.wt (z / 2 % 300) (.str (Str.ofString "open")) [] [] b, ⟨.inr ⟨_, rfl⟩, by simp, by simp, hb⟩, fun S => ⟨[.lst [.str (Str.ofString "open"), .str (Str.ofString "ended")]], ?_⟩⟩
          have i0 : ixO (S ++ [.lst [.str (Str.ofString "open"), .str (Str.ofString "ended")]]) (.ref S.length) (.int 0) = some (.str (Str.ofString "open")) := by
            rw [x_ixR (lstAt_of at_end)]; rfl
          simp [F__law_thing, m__law_thing, N__law_thing, startL, ez, c1, c2, c3, h3, eb, Th.d, sz, x_ix, i0, intsD]
        · refine ⟨.wt (z / 2 % 300) (.str (Str.ofString "ended")) [] [] [], ⟨.inr ⟨_, rfl⟩, by simp, by simp, by simp⟩, fun S => ⟨[.lst [.str (Str.ofString "open"), .str (Str.ofString "ended")]], ?_⟩⟩
          have i0 : ixO (S ++ [.lst [.str (Str.ofString "open"), .str (Str.ofString "ended")]]) (.ref S.length) (.int 1) = some (.str (Str.ofString "ended")) := by
            rw [x_ixR (lstAt_of at_end)]; rfl
          simp [F__law_thing, m__law_thing, N__law_thing, startL, ez, c1, c2, c3, h3, Th.d, sz, x_ix, i0, intsD, ofS_eq]
end K23

set_option Elab.async false
set_option linter.all false
set_option maxRecDepth 100000
set_option autoImplicit false
namespace K23
open PySem PySem.Spec L2 ML
/-! ### the state -/
structure St (S : Store) (P : Nat → List Tr) (held : List (Nat × Nat)) : Prop where
  hp : ∀ s, s < 2 → HeapAt S (2 * s) (2 * s + 1) (P s).length (P s)
  ks : ∀ s, s < 2 → keys (P s) = List.range (P s).length
  wf : ∀ s, s < 2 → ∀ p ∈ P s, p.2.1.wf
  tt : ∀ s, s < 2 → S[5 + s]? = some (.lst ((P s).map tD))
  l4 : S[4]? = some (.lst [.ref 0, .ref 2])
  l7 : S[7]? = some (.lst [.ref 5, .ref 6])
  l8 : S[8]? = some (.lst (held.map fun p => .tup [.ref p.1, .ref p.2]))
  he : ∀ p ∈ held, ∃ L, S[p.1]? = some (.lst (intsD L)) ∧ S[p.2]? = some (.lst (intsD L)) ∧ 9 ≤ p.1 ∧ 9 ≤ p.2
/-- what stands behind stays -/
def Hi (S T : Store) : Prop := S.length ≤ T.length ∧ ∀ (i : Nat) (c : Cell), 9 ≤ i → S[i]? = some c → T[i]? = some c
theorem Hi.refl (S : Store) : Hi S S := ⟨Nat.le_refl _, fun _ _ _ h => h⟩
theorem Hi.trans {S T U : Store} (a : Hi S T) (b : Hi T U) : Hi S U := ⟨Nat.le_trans a.1 b.1, fun i c hi h => b.2 i c hi (a.2 i c hi h)⟩
theorem Hi.app {S T U : Store} (a : Hi S T) (X : Store) (e : T ++ X = U) : Hi S U := a.trans ⟨by rw [← e]; simp, fun i c _ h => by rw [← e]; exact at_app h⟩
theorem HeapAt.fr {S S' : Store} {h d n : Nat} {ps : List Tr} (H : HeapAt S h d n ps) (bad : Nat → Prop) (hf : ∀ i c, S[i]? = some c → ¬ bad i → S'[i]? = some c) (h1 : ¬ bad h) (h2 : ¬ bad d) (h3 : ∀ (i : Nat) (T : Th), bad i → S[i]? ≠ some T.cell) : HeapAt S' h d n ps :=
  ⟨hf _ _ H.h1 h1, hf _ _ H.h2 h2, fun p hp => hf _ _ (H.h3 p hp) fun b => h3 _ _ b (H.h3 p hp)⟩
section
variable {S T U : Store} {P : Nat → List Tr} {held : List (Nat × Nat)}
theorem St.app (h : St S P held) (X : Store) (e : S ++ X = T) : St T P held := by
  subst e
  exact ⟨fun s hs => (h.hp s hs).app X, h.ks, h.wf, fun s hs => at_app (h.tt s hs), at_app h.l4, at_app h.l7, at_app h.l8, fun p hp => by
    obtain ⟨L, a, b, c, d⟩ := h.he p hp
    exact ⟨L, at_app a, at_app b, c, d⟩⟩
theorem St.ix4 (h : St S P held) {s : Nat} (hs : s < 2) : ixO S (.ref 4) (.int (s : Int)) = some (.ref (2 * s)) := by
  rw [x_ixR (lstAt_of h.l4)]
  have : s = 0 ∨ s = 1 := by omega
  rcases this with rfl | rfl <;> rfl
theorem St.ix7 (h : St S P held) {s : Nat} (hs : s < 2) : ixO S (.ref 7) (.int (s : Int)) = some (.ref (5 + s)) := by
  rw [x_ixR (lstAt_of h.l7)]
  have : s = 0 ∨ s = 1 := by omega
  rcases this with rfl | rfl <;> rfl
/-- one more held -/
theorem St.hold (h : St S P held) {a b : Nat} {L : List Nat} (ha : S[a]? = some (.lst (intsD L))) (hb : S[b]? = some (.lst (intsD L))) (h1 : 9 ≤ a) (h2 : 9 ≤ b) (e : S.set 8 (.lst ((held ++ [(a, b)]).map fun p => .tup [.ref p.1, .ref p.2])) = T) : St T P (held ++ [(a, b)]) ∧ Hi S T := by
  have f : ∀ (i : Nat) (c : Cell), S[i]? = some c → i ≠ 8 → T[i]? = some c := fun i c hc hi => by rw [← e, get_set_ne (Ne.symm hi)]; exact hc
  refine ⟨⟨fun s hs => ?_, h.ks, h.wf, fun s hs => f _ _ (h.tt s hs) (by omega), f _ _ h.l4 (by omega), f _ _ h.l7 (by omega), by rw [← e]; exact get_set_at h.l8, fun p hp => ?_⟩, by rw [← e]; simp, fun i c hi hc => f i c hc (by omega)⟩
  · refine (h.hp s hs).fr (fun j => j = 8) (fun i c hc hb => f i c hc hb) (by omega) (by omega) fun j U hb => ?_
    subst hb
    rw [h.l8]
    exact fun z => cell_lst _ _ (Option.some.inj z).symm
  · rcases List.mem_append.mp hp with hp | hp
    · obtain ⟨L, b1, b2, b3, b4⟩ := h.he p hp
      exact ⟨L, f _ _ b1 (by omega), f _ _ b2 (by omega), b3, b4⟩
    · rw [List.mem_singleton.mp hp]
      exact ⟨L, f _ _ ha (by omega), f _ _ hb (by omega), h1, h2⟩
/-- a list that is nobody's is written -/
theorem St.free (h : St S P held) {a : Nat} {c' : Cell} {xs : List D} (ha : S[a]? = some (.lst xs)) (h1 : 9 ≤ a) (hn : ∀ p ∈ held, p.1 ≠ a ∧ p.2 ≠ a) (e : S.set a c' = T) : St T P held := by
  have f : ∀ (i : Nat) (c : Cell), S[i]? = some c → i ≠ a → T[i]? = some c := fun i c hc hi => by rw [← e, get_set_ne (Ne.symm hi)]; exact hc
  refine ⟨fun s hs => ?_, h.ks, h.wf, fun s hs => f _ _ (h.tt s hs) (by omega), f _ _ h.l4 (by omega), f _ _ h.l7 (by omega), f _ _ h.l8 (by omega), fun p hp => ?_⟩
  · refine (h.hp s hs).fr (fun j => j = a) (fun i c hc hb => f i c hc hb) (by omega) (by omega) fun j U hb => ?_
    subst hb
    rw [ha]
    exact fun z => cell_lst _ _ (Option.some.inj z).symm
  · obtain ⟨L, b1, b2, b3, b4⟩ := h.he p hp
    exact ⟨L, f _ _ b1 (hn p hp).1, f _ _ b2 (hn p hp).2, b3, b4⟩
end
theorem range_rising (n : Nat) : (List.range n).Pairwise (· < ·) := by
  rw [List.range_eq_range']
  exact List.pairwise_lt_range'
theorem tr_at {ps : List Tr} (hk : keys ps = List.range ps.length) {k : Nat} (h : k < ps.length) : ∃ p, atK tk ps k = some p ∧ p ∈ ps ∧ (ps.map tD)[k]? = some (tD p) := by
  have e : ∀ i (hi : i < ps.length), tk ps[i] = i := fun i hi => by
    have := congrArg (fun l => l[i]?) hk
    simp [keys, hi] at this
    exact this
  have hm : k ∈ ps.map tk := by
    have : keys ps = ps.map tk := rfl
    rw [← this, hk]
    exact List.mem_range.mpr h
  obtain ⟨p, hp, hpm, hpk⟩ := atK_mem hm
  obtain ⟨i, hi, rfl⟩ := List.getElem_of_mem hpm
  rw [e i hi] at hpk
  subst hpk
  exact ⟨_, hp, hpm, by simp [hi]⟩
theorem right_loop {S : Store} {P : Nat → List Tr} {held : List (Nat × Nat)} (h : St S P held) {s t r : Nat} {xs : List D} (hs : s < 2) (ht : S[t]? = some (.lst ((P s).map tD))) (hr : lstAt S r = some xs) {c : Int} {x2 x4 x6 x7 x8 x9 : Option D} : ∀ (ks : List Nat), (∀ k ∈ ks, k < (P s).length) → ∀ x5, ∃ y5,
    forL (fun S' => lstAt S' r = some xs) (nameT 5) b__law_right_0 (intsD ks) [some (.ref (2 * s)), some (.ref t), x2, some (.int c), x4, x5, x6, x7, x8, x9] S = .ok (.nx, [some (.ref (2 * s)), some (.ref t), x2, some (.int c), x4, y5, x6, x7, x8, x9]) S
  | [], _, x5 => ⟨x5, by unfold intsD; rw [List.map_nil, forL_nil hr]⟩
  | k :: ks, hk, x5 => by
    obtain ⟨y5, e⟩ := right_loop h hs ht hr (c := c) (x2 := x2) (x4 := x4) (x6 := x6) (x7 := x7) (x8 := x8) (x9 := x9) ks (fun j hj => hk j (List.mem_cons_of_mem _ hj)) (some (.int (k : Int)))
    refine ⟨y5, ?_⟩
    have hkn := hk k List.mem_cons_self
    obtain ⟨p, hp, hpm, hpd⟩ := tr_at (h.ks s hs) hkn
    have H := h.hp s hs
    have hkk : k ∈ keys (P s) := by rw [h.ks s hs]; exact List.mem_range.mpr hkn
    have e1 := thingAt_eq H hp hpm hkk
    have e2 : ixO S (.ref t) (.int (k : Int)) = some (tD p) := by
      rw [x_ixR (lstAt_of ht)]
      exact L2.atI_nat hpd
    have e3 := same_top (Th.pl (h.wf s hs p hpm)) (by omega) S
    have i2 := H.ins
    have eb : b__law_right_0 [some (.ref (2 * s)), some (.ref t), x2, some (.int c), x4, some (.int (k : Int)), x6, x7, x8, x9] S = .ok (.nx, [some (.ref (2 * s)), some (.ref t), x2, some (.int c), x4, some (.int (k : Int)), x6, x7, x8, x9]) S := by
      have e3 : F__law_same [p.2.1.d, tD p] S = .ok (.bl true) S := e3
      simp [b__law_right_0, i2, List.lookup, beq_of, R.noex, e1, x_ix, e2, e3]
    have e0 : intsD (k :: ks) = .int (k : Int) :: intsD ks := rfl
    rw [e0, forL_cons hr]
    simp [eb, e]
theorem odd_at {S : Store} {n q : Nat} (hq : S[q]? = some (.lst [.int 0])) (i : Int) (h0 : 0 ≤ i) (h1 : i < 9) : ∃ o, atI [.int (n : Int), .int (-1), .int ((n : Int) + 5), .bl true, .bl false, .non, .str (Str.ofString "0"), .int 100000000000000000000, .ref q] i = some o ∧ (n ≤ 1000 → Odd n S o) := by
  have : i = 0 ∨ i = 1 ∨ i = 2 ∨ i = 3 ∨ i = 4 ∨ i = 5 ∨ i = 6 ∨ i = 7 ∨ i = 8 := by omega
  rcases this with rfl | rfl | rfl | rfl | rfl | rfl | rfl | rfl | rfl
  · exact ⟨_, rfl, fun _ => .inl ⟨_, rfl, fun k hk => by omega⟩⟩
  · exact ⟨_, rfl, fun _ => .inl ⟨_, rfl, fun k hk => by omega⟩⟩
  · exact ⟨_, rfl, fun _ => .inl ⟨_, rfl, fun k hk => by omega⟩⟩
  · exact ⟨_, rfl, fun _ => .inr (.inl ⟨_, rfl⟩)⟩
  · exact ⟨_, rfl, fun _ => .inr (.inl ⟨_, rfl⟩)⟩
  · exact ⟨_, rfl, fun _ => .inr (.inr (.inl rfl))⟩
  · exact ⟨_, rfl, fun _ => .inr (.inr (.inr (.inl ⟨_, rfl⟩)))⟩
  · exact ⟨_, rfl, fun _ => .inl ⟨_, rfl, fun k hk => by omega⟩⟩
  · exact ⟨_, rfl, fun _ => .inr (.inr (.inr (.inr ⟨q, _, rfl, hq⟩)))⟩
end K23

set_option Elab.async false
set_option linter.all false
set_option maxRecDepth 100000
set_option autoImplicit false
namespace K23
open PySem PySem.Spec L2 ML
/-- the list that says what is there -/
def Tl (S : Store) (P : Nat → List Tr) (s t : Nat) : Prop := t = 5 + s ∨ (9 ≤ t ∧ P s = [] ∧ S[t]? = some (.lst []))
theorem Tl.at_ {S : Store} {P : Nat → List Tr} {held : List (Nat × Nat)} {s t : Nat} (h : Tl S P s t) (hs : s < 2) (st : St S P held) : S[t]? = some (.lst ((P s).map tD)) := by
  rcases h with rfl | ⟨_, h2, h3⟩
  · exact st.tt s hs
  · rw [h2]; exact h3
theorem Tl.hi {S T : Store} {P : Nat → List Tr} {s t : Nat} (h : Tl S P s t) (e : Hi S T) : Tl T P s t := h.imp id fun ⟨a, b, c⟩ => ⟨a, b, e.2 _ _ a c⟩
theorem hold_part {S1 : Store} {P : Nat → List Tr} {held : List (Nat × Nat)} (h : St S1 P held) {s r : Nat} (hs : s < 2) (hr : S1[r]? = some (.lst (intsD (List.range (P s).length)))) (h9 : 9 ≤ r) (hh : held.length ≤ 1000) (c : Int) (x1 : Option D) :
    ∃ S3 held3, (ifS (cmpM eqD (binE modD (varE 3) (conE (.int 2))) (conE (.int 1))) (exprS (lmE appendM (varE 2) (consA (tupE (consA (methE "numbers" 1 [(12, F_Heap_numbers)] (varE 0) nilA) (consA (varE 4) (nilA)))) (nilA)))) (nilS)) [some (.ref (2 * s)), x1, some (.ref 8), some (.int c), some (.ref r), none, none, none, none, none] S1 = .ok (.nx, [some (.ref (2 * s)), x1, some (.ref 8), some (.int c), some (.ref r), none, none, none, none, none]) S3 ∧ St S3 P held3 ∧ Hi S1 S3 ∧ held3.length ≤ held.length + 1 := by
  by_cases cc : c % 2 = 1
  · have H := h.hp s hs
    have i2 := H.ins
    have e1 := numbers_eq H (by rw [h.ks s hs]; exact range_rising _)
    rw [h.ks s hs] at e1
    obtain ⟨S2, hS2⟩ : ∃ S2, S1 ++ [Cell.lst (intsD (List.range (P s).length))] = S2 := ⟨_, rfl⟩
    rw [hS2] at e1
    have h2 : St S2 P held := h.app _ hS2
    have k2 : S2[S1.length]? = some (.lst (intsD (List.range (P s).length))) := by rw [← hS2]; exact at_end
    have r2 : S2[r]? = some (.lst (intsD (List.range (P s).length))) := by rw [← hS2]; exact at_app hr
    have e2 := x_append (d := .tup [.ref S1.length, .ref r]) (lstAt_of h2.l8) (by simp; omega)
    obtain ⟨S3, hS3⟩ : ∃ S3, S2.set 8 (.lst ((held ++ [(S1.length, r)]).map fun p => D.tup [.ref p.1, .ref p.2])) = S3 := ⟨_, rfl⟩
    have hr1 := lt_of_at hr
    obtain ⟨h3, q3⟩ := h2.hold k2 r2 (by omega) h9 hS3
    have e2 : appendM (.ref 8) [.tup [.ref S1.length, .ref r]] S2 = .ok .non S3 := by
      rw [e2, ← hS3, List.map_append]
      rfl
    refine ⟨S3, _, ?_, h3, ((Hi.refl S1).app _ hS2).trans q3, by simp⟩
    simp [cc, i2, List.lookup, beq_of, R.noex, e1, sz, lstAt_of h.l8, lstAt_of h2.l8, e2]
  · exact ⟨S1, held, by simp [cc], h, Hi.refl _, by omega⟩
theorem right_eq {S : Store} {P : Nat → List Tr} {held : List (Nat × Nat)} (h : St S P held) {s t : Nat} (hs : s < 2) (ht : Tl S P s t) (h9 : 9 ≤ S.length) (hn : (P s).length ≤ 1000) (hh : held.length ≤ 1000) (c : Int) :
    ∃ S' held', F__law_right [.ref (2 * s), .ref t, .ref 8, .int c] S = .ok (.bl true) S' ∧ St S' P held' ∧ Hi S S' ∧ held'.length ≤ held.length + 1 := by
  obtain ⟨n, hnn⟩ : ∃ n, (P s).length = n := ⟨_, rfl⟩
  have len : ∀ {S : Store} {held : List (Nat × Nat)}, St S P held → Tl S P s t → lenV [.ref t] S = .ok (.int (n : Int)) S := fun h q => by
    rw [x_lenR (lstAt_of (q.at_ hs h)), List.length_map, hnn]
  have nums : ∀ {S : Store} {held : List (Nat × Nat)}, St S P held → F_Heap_numbers [.ref (2 * s)] S = .ok (.ref S.length) (S ++ [.lst (intsD (List.range n))]) := fun h => by
    have e1 := numbers_eq (h.hp s hs) (by rw [h.ks s hs]; exact range_rising _)
    rw [h.ks s hs, hnn] at e1
    exact e1
  have e1 := len h ht
  have er : rngO 0 (n : Int) S = .ok (intsD (List.range n)) S := x_rngO (by omega)
  obtain ⟨S1, hS1⟩ : ∃ S1, S ++ [Cell.lst (intsD (List.range n))] = S1 := ⟨_, rfl⟩
  have k1 : S1[S.length]? = some (.lst (intsD (List.range n))) := by rw [← hS1]; exact at_end
  have h1 : St S1 P held := h.app _ hS1
  have q1 : Hi S S1 := (Hi.refl S).app _ hS1
  obtain ⟨S3, held3, e3, h3, q3, hl3⟩ := hold_part h1 hs (by rw [hnn]; exact k1) h9 hh c (some (.ref t))
  have q3 := q1.trans q3
  have k3 : S3[S.length]? = some (.lst (intsD (List.range n))) := by
    have := lt_of_at k1
    obtain ⟨_, f⟩ := (show Hi S1 S3 by assumption)
    exact f _ _ h9 k1
  have rev : (intsD (List.range n)).reverse = intsD (List.range n).reverse := by unfold intsD; rw [List.map_reverse]
  obtain ⟨S4, hS4⟩ : ∃ S4, S3 ++ [Cell.lst (intsD (List.range n).reverse)] = S4 := ⟨_, rfl⟩
  have k4 : S4[S3.length]? = some (.lst (intsD (List.range n).reverse)) := by rw [← hS4]; exact at_end
  obtain ⟨S5, hS5⟩ : ∃ S5, S4 ++ [Cell.lst [.ref S.length, .ref S3.length]] = S5 := ⟨_, rfl⟩
  have k5 : S5[S4.length]? = some (.lst [.ref S.length, .ref S3.length]) := by rw [← hS5]; exact at_end
  have a5 : S5[S.length]? = some (.lst (intsD (List.range n))) := by rw [← hS5, ← hS4]; exact at_app (at_app k3)
  have b5 : S5[S3.length]? = some (.lst (intsD (List.range n).reverse)) := by rw [← hS5]; exact at_app k4
  have h5 : St S5 P held3 := (h3.app _ hS4).app _ hS5
  have q5 : Hi S S5 := (q3.app _ hS4).app _ hS5
  have t5 := ht.hi q5
  obtain ⟨q, ks, hq, hk, ei⟩ : ∃ q ks, S5[q]? = some (.lst (intsD ks)) ∧ (∀ k ∈ ks, k < n) ∧ ixO S5 (.ref S4.length) (.int (c / 2 % 2)) = some (.ref q) := by
    have c2 : c / 2 % 2 = 0 ∨ c / 2 % 2 = 1 := by omega
    rcases c2 with c2 | c2 <;> rw [c2]
    · exact ⟨_, _, a5, fun k hk => List.mem_range.mp hk, by rw [x_ixR (lstAt_of k5)]; rfl⟩
    · exact ⟨_, _, b5, fun k hk => List.mem_range.mp (List.mem_reverse.mp hk), by rw [x_ixR (lstAt_of k5)]; rfl⟩
  have es := x_srcR hq
  obtain ⟨y5, e5⟩ := right_loop h5 hs (t5.at_ hs h5) (lstAt_of hq) (c := c) (x2 := some (.ref 8)) (x4 := some (.ref S.length)) (x6 := none) (x7 := none) (x8 := none) (x9 := none) ks (fun k h => by rw [hnn]; exact hk k h) none
  have e6 := nums h5
  obtain ⟨S6, hS6⟩ : ∃ S6, S5 ++ [Cell.lst (intsD (List.range n))] = S6 := ⟨_, rfl⟩
  rw [hS6] at e6
  have k6 : S6[S5.length]? = some (.lst (intsD (List.range n))) := by rw [← hS6]; exact at_end
  have a6 : S6[S.length]? = some (.lst (intsD (List.range n))) := by rw [← hS6]; exact at_app a5
  have h6 : St S6 P held3 := h5.app _ hS6
  have q6 : Hi S S6 := q5.app _ hS6
  have ez := x_zipL (lstAt_of k6) (lstAt_of a6)
  have is6 : isE "list" (varE 6) [some (.ref (2 * s)), some (.ref t), some (.ref 8), some (.int c), some (.ref S.length), y5, some (.ref S5.length), none, none, none] S6 = .ok true S6 := by
    rw [x_isE]
    simp [kindO, k6, isKind]
  have ec := comp_pairs (chk := fun S' => lstAt S' S5.length = some (intsD (List.range n)) ∧ lstAt S' S.length = some (intsD (List.range n))) (i := 8) (j := 9) (m := callE 2 F__law_same (consA (varE 8) (consA (varE 9) nilA))) (l := [some (.ref (2 * s)), some (.ref t), some (.ref 8), some (.int c), some (.ref S.length), y5, some (.ref S5.length), none, none, none]) (S := S6) ⟨lstAt_of k6, lstAt_of a6⟩ ((intsD (List.range n)).zip (intsD (List.range n))) (fun p hp => by
    obtain ⟨g1, g2⟩ := zip_self hp
    have g3 : Pl 0 p.1 := by
      unfold intsD at g2
      obtain ⟨k, _, e⟩ := List.mem_map.mp g2
      rw [← e]
      exact .int _
    have := same_top g3 (by omega) S6
    simp [← g1, this]) [] (by simp [intsD]; omega)
  rw [List.nil_append] at ec
  have ea := allL_map (fun _ : D × D => true) ((intsD (List.range n)).zip (intsD (List.range n))) S6
  have l6 : lenV [.ref S5.length] S6 = .ok (.int (n : Int)) S6 := by rw [x_lenR (lstAt_of k6)]; simp [intsD]
  have l6b : lenV [.ref S.length] S6 = .ok (.int (n : Int)) S6 := by rw [x_lenR (lstAt_of a6)]; simp [intsD]
  have e7 := x_append (d := .int 0) (lstAt_of k6) (by simp [intsD]; omega)
  obtain ⟨S7, hS7⟩ : ∃ S7, S6.set S5.length (.lst (intsD (List.range n) ++ [.int 0])) = S7 := ⟨_, rfl⟩
  rw [hS7] at e7
  have le5 : S.length ≤ S5.length := q5.1
  have lt6 := lt_of_at k6
  have h7 : St S7 P held3 := h6.free k6 (by omega) (fun p hp => by
    obtain ⟨L, b1, b2, _, _⟩ := h5.he p hp
    have := lt_of_at b1
    have := lt_of_at b2
    exact ⟨by omega, by omega⟩) hS7
  have f7 : ∀ (i : Nat) (cc : Cell), S6[i]? = some cc → i ≠ S5.length → S7[i]? = some cc := fun i cc hc hi => by rw [← hS7, get_set_ne (Ne.symm hi)]; exact hc
  have q7 : Hi S S7 := ⟨by rw [← hS7, List.length_set]; exact q6.1, fun i cc hi hc => by
    have := lt_of_at hc
    exact f7 i cc (q6.2 i cc hi hc) (by omega)⟩
  have a7 : S7[S.length]? = some (.lst (intsD (List.range n))) := f7 _ _ a6 (by have := lt_of_at a5; omega)
  have l7 := len h7 (ht.hi q7)
  obtain ⟨S8, hS8⟩ : ∃ S8, S7 ++ [Cell.lst [D.int 0]] = S8 := ⟨_, rfl⟩
  have k8 : S8[S7.length]? = some (.lst [.int 0]) := by rw [← hS8]; exact at_end
  have h8 : St S8 P held3 := h7.app _ hS8
  have q8 : Hi S S8 := q7.app _ hS8
  obtain ⟨S9, hS9⟩ : ∃ S9, S8 ++ [Cell.lst [.int (n : Int), .int (-1), .int ((n : Int) + 5), .bl true, .bl false, .non, .str (Str.ofString "0"), .int 100000000000000000000, .ref S7.length]] = S9 := ⟨_, rfl⟩
  have k9 : S9[S8.length]? = some (.lst [.int (n : Int), .int (-1), .int ((n : Int) + 5), .bl true, .bl false, .non, .str (Str.ofString "0"), .int 100000000000000000000, .ref S7.length]) := by rw [← hS9]; exact at_end
  have h9' : St S9 P held3 := h8.app _ hS9
  have q9 : Hi S S9 := q8.app _ hS9
  obtain ⟨o, eo, ho⟩ := odd_at (S := S9) (q := S7.length) (n := n) (by rw [← hS9]; exact at_app k8) (c / 4 % 9) (by omega) (by omega)
  have io : ixO S9 (.ref S8.length) (.int (c / 4 % 9)) = some o := by rw [x_ixR (lstAt_of k9)]; exact eo
  have eR := refused_eq (h9'.hp s hs) (h9'.ks s hs) (o := o) (by rw [hnn]; exact ho (by omega)) (decide (c % 2 = 0))
  have e10 := nums h9'
  obtain ⟨S10, hS10⟩ : ∃ S10, S9 ++ [Cell.lst (intsD (List.range n))] = S10 := ⟨_, rfl⟩
  rw [hS10] at e10
  have a10 : S10[S.length]? = some (.lst (intsD (List.range n))) := by rw [← hS10, ← hS9, ← hS8]; exact at_app (at_app (at_app a7))
  have k10 : S10[S9.length]? = some (.lst (intsD (List.range n))) := by rw [← hS10]; exact at_end
  have eq10 := x_eqInts k10 a10
  rw [decide_eq_true rfl] at eq10
  refine ⟨S10, held3, ?_, h9'.app _ hS10, q9.app _ hS10, hl3⟩
  have i5 := (h5.hp s hs).ins
  have i9 := (h9'.hp s hs).ins
  unfold F__law_right
  simp only [x_bodyF, m__law_right, N__law_right, startL]
  simp [-x_ifS, e1, er, hS1]
  simp only [e3]
  simp [-x_isE, sz, rev, lstAt_of k3, hS4, hS5, x_ix, ei, es, e5, i5, List.lookup, beq_of, R.noex, e6, is6, ez, Tgt.own, wipeL, pairsOf, ec, ea, l6, l6b, e7, lstAt_of k6]
  simp [l7, hS8, sz, hS9, x_ix, io, eR, i9, List.lookup, beq_of, R.noex, e10, eq10]
end K23

set_option Elab.async false
set_option linter.all false
set_option maxRecDepth 100000
set_option autoImplicit false
namespace K23
open PySem PySem.Spec L2 ML
def upd {α : Type} (f : Nat → α) (s : Nat) (x : α) : Nat → α := fun i => if i = s then x else f i
theorem upd_at {α : Type} (f : Nat → α) (s : Nat) (x : α) : upd f s x s = x := if_pos rfl
theorem upd_ne {α : Type} {f : Nat → α} {s i : Nat} {x : α} (h : i ≠ s) : upd f s x i = f i := if_neg h
theorem St.step {S S1 S2 : Store} {P : Nat → List Tr} {held : List (Nat × Nat)} (h : St S P held) {s : Nat} {ps : List Tr} (hs : s < 2) (H : HeapAt S1 (2 * s) (2 * s + 1) ps.length ps) (hl : S.length ≤ S1.length) (f : ∀ (i : Nat) (c : Cell), S[i]? = some c → i ≠ 2 * s → i ≠ 2 * s + 1 → S1[i]? = some c)
    (hk : keys ps = List.range ps.length) (hw : ∀ p ∈ ps, p.2.1.wf) (e : S1.set (5 + s) (.lst (ps.map tD)) = S2) : St S2 (upd P s ps) held ∧ Hi S S2 := by
  have t1 : S1[5 + s]? = some (.lst ((P s).map tD)) := f _ _ (h.tt s hs) (by omega) (by omega)
  have g : ∀ (i : Nat) (c : Cell), S[i]? = some c → i ≠ 2 * s → i ≠ 2 * s + 1 → i ≠ 5 + s → S2[i]? = some c := fun i c hc a b d => by rw [← e, get_set_ne (Ne.symm d)]; exact f i c hc a b
  refine ⟨⟨fun i hi => ?_, fun i hi => ?_, fun i hi => ?_, fun i hi => ?_, g _ _ h.l4 (by omega) (by omega) (by omega), g _ _ h.l7 (by omega) (by omega) (by omega), g _ _ h.l8 (by omega) (by omega) (by omega), fun p hp => ?_⟩, by rw [← e, List.length_set]; exact hl, fun i c hi hc => g i c hc (by omega) (by omega) (by omega)⟩
  · by_cases q : i = s
    · subst q
      rw [upd_at, ← e]
      exact H.set t1 (by omega) (by omega) fun T => cell_lst T _
    · rw [upd_ne q]
      refine (h.hp i hi).fr (fun j => j = 2 * s ∨ j = 2 * s + 1 ∨ j = 5 + s) (fun j c hc hb => g j c hc (by omega) (by omega) (by omega)) (by omega) (by omega) fun j U hb => ?_
      rcases hb with rfl | rfl | rfl
      · rw [(h.hp s hs).h1]; exact fun z => cell_hp _ _ _ (Option.some.inj z).symm
      · rw [(h.hp s hs).h2]; exact fun z => cell_dct _ _ (Option.some.inj z).symm
      · rw [h.tt s hs]; exact fun z => cell_lst _ _ (Option.some.inj z).symm
  · by_cases q : i = s
    · subst q; rw [upd_at]; exact hk
    · rw [upd_ne q]; exact h.ks i hi
  · by_cases q : i = s
    · subst q; rw [upd_at]; exact hw
    · rw [upd_ne q]; exact h.wf i hi
  · by_cases q : i = s
    · subst q; rw [upd_at, ← e]; exact get_set_at t1
    · rw [upd_ne q]; exact g _ _ (h.tt i hi) (by omega) (by omega) (by omega)
  · obtain ⟨L, b1, b2, b3, b4⟩ := h.he p hp
    exact ⟨L, g _ _ b1 (by omega) (by omega) (by omega), g _ _ b2 (by omega) (by omega) (by omega), b3, b4⟩
theorem chg_keys (ps : List Tr) (k : Nat) (T : Th) (ref : Nat) : keys (ps.map fun p => if tk p = k then (k, T, ref) else p) = keys ps := by
  unfold keys
  rw [List.map_map]
  refine List.map_congr_left fun p _ => ?_
  show tk (if tk p = k then (k, T, ref) else p) = tk p
  split
  · rename_i h; exact h.symm
  · rfl
theorem chg_told {ps : List Tr} (hk : keys ps = List.range ps.length) (k : Nat) (T : Th) (ref : Nat) : (ps.map fun p => if tk p = k then (k, T, ref) else p).map tD = (ps.map tD).set k T.d := by
  have e : ∀ i (hi : i < ps.length), tk ps[i] = i := fun i hi => by
    have := congrArg (fun l => l[i]?) hk
    simp [keys, hi] at this
    exact this
  refine List.ext_getElem (by simp) fun i h1 h2 => ?_
  simp at h1
  rw [List.getElem_set]
  simp only [List.getElem_map, e i h1]
  by_cases q : i = k
  · subst q
    rw [if_pos rfl, if_pos rfl]
    rfl
  · rw [if_neg q, if_neg (Ne.symm q)]
@[simp] theorem isnot_n (S : Store) : isNotD .non .non S = .ok false S := (rfl)
noncomputable def deedS : MS := ifS (andM (cmpM eqD (binE modD (binE fdivD (varE 4) (conE (.int 2))) (conE (.int 4))) (conE (.int 3))) (cmpM gtD (varE 7) (conE (.int 0)))) (seqS (setS 9 (binE modD (binE fdivD (varE 4) (conE (.int 64))) (varE 7))) (seqS (ifS (cmpM isNotD (methE "change" 3 [(12, F_Heap_change)] (varE 6) (consA (varE 9) (consA (varE 8) (nilA)))) (conE .non)) (retS (conE (.bl false))) (nilS)) (asgS (subT (binE ixD (varE 2) (varE 5)) (varE 9)) (varE 8)))) (seqS (setS 9 (methE "put" 2 [(12, F_Heap_put)] (varE 6) (consA (varE 8) (nilA)))) (seqS (ifS (notM (ofV (callE 2 F__law_same (consA (varE 9) (consA (varE 7) (nilA)))))) (retS (conE (.bl false))) (nilS)) (exprS (lmE appendM (binE ixD (varE 2) (varE 5)) (consA (varE 8) (nilA))))))
noncomputable def restS : MS := seqS (ifS (notM (ofV (callE 4 F__law_right (consA (varE 6) (consA (binE ixD (varE 2) (varE 5)) (consA (varE 3) (consA (binE fdivD (varE 4) (conE (.int 512))) (nilA)))))))) (retS (conE (.bl false))) (nilS)) (ifS (notM (ofV (callE 4 F__law_right (consA (binE ixD (varE 1) (binE subD (conE (.int 1)) (varE 5))) (consA (binE ixD (varE 2) (binE subD (conE (.int 1)) (varE 5))) (consA (varE 3) (consA (binE fdivD (varE 4) (conE (.int 1024))) (nilA)))))))) (retS (conE (.bl false))) (nilS))
theorem b_law_0_eq : b_law_0 = seqS (setS 4 (callE 2 F__law_spread (consA (varE 4) (consA (conE (.int 0)) (nilA))))) (seqS (setS 5 (binE modD (varE 4) (conE (.int 2)))) (seqS (setS 6 (binE ixD (varE 1) (varE 5))) (seqS (setS 7 (newL lenV (consA (binE ixD (varE 2) (varE 5)) (nilA)))) (seqS (setS 8 (callE 2 F__law_thing (consA (binE fdivD (varE 4) (conE (.int 8))) (consA (varE 7) (nilA))))) (seqS deedS restS))))) := rfl
abbrev LB (sc : D) (x4 x5 x6 x7 x8 x9 : Option D) : ML.Loc := [some sc, some (.ref 4), some (.ref 7), some (.ref 8), x4, x5, x6, x7, x8, x9, none, none]
theorem deed {S : Store} {P : Nat → List Tr} {held : List (Nat × Nat)} (h : St S P held) {s n : Nat} (hs : s < 2) (hn : (P s).length = n) (hn2 : n ≤ 1000) {T : Th} (hT : T.wf) (sc : D) (y : Int) (x9 : Option D) :
    ∃ S' ps y9, deedS (LB sc (some (.int y)) (some (.int (s : Int))) (some (.ref (2 * s))) (some (.int (n : Int))) (some T.d) x9) S = .ok (.nx, LB sc (some (.int y)) (some (.int (s : Int))) (some (.ref (2 * s))) (some (.int (n : Int))) (some T.d) y9) S' ∧ St S' (upd P s ps) held ∧ Hi S S' ∧ ps.length ≤ n + 1 := by
  have H := h.hp s hs
  have i2 := H.ins
  by_cases c : y / 2 % 4 = 3 ∧ 0 < n
  · have b1 := Int.emod_nonneg (y / 64) (show (n : Int) ≠ 0 by omega)
    have b2 := Int.emod_lt_of_pos (y / 64) (show (0 : Int) < (n : Int) by omega)
    obtain ⟨k, ek, hk⟩ : ∃ k : Nat, y / 64 % (n : Int) = (k : Int) ∧ k < n := ⟨(y / 64 % (n : Int)).toNat, by omega, by omega⟩
    obtain ⟨S1, e1, H1, l1, f1⟩ := change_eq H (k := k) (by rw [h.ks s hs, hn]; exact List.mem_range.mpr hk) (by omega) (by omega) T
    obtain ⟨ps, hps⟩ : ∃ ps, ((P s).map fun p => if tk p = k then (k, T, S.length) else p) = ps := ⟨_, rfl⟩
    rw [hps] at H1
    have pl : ps.length = (P s).length := by rw [← hps]; simp
    have pk : keys ps = List.range ps.length := by rw [pl, ← hps, chg_keys]; exact h.ks s hs
    have pt : ps.map tD = ((P s).map tD).set k T.d := by rw [← hps]; exact chg_told (h.ks s hs) k T _
    rw [← pl] at H1
    have t1 : S1[5 + s]? = some (.lst ((P s).map tD)) := f1 _ _ (h.tt s hs) (by omega) (by omega)
    have e2 := x_setLst (k := k) (v := T.d) t1 (by rw [List.length_map]; omega)
    obtain ⟨S2, hS2⟩ : ∃ S2, S1.set (5 + s) (.lst (ps.map tD)) = S2 := ⟨_, rfl⟩
    rw [← pt, hS2] at e2
    obtain ⟨h2, q2⟩ := h.step hs H1 (by omega) f1 pk (fun p hp => by
      rw [← hps] at hp
      obtain ⟨q, hq, e⟩ := List.mem_map.mp hp
      split at e
      · subst e; exact hT
      · subst e; exact h.wf s hs q hq) hS2
    have i7 : ixO S1 (.ref 7) (.int (s : Int)) = some (.ref (5 + s)) := by
      rw [x_ixR (lstAt_of (f1 _ _ h.l7 (by omega) (by omega)))]
      have : s = 0 ∨ s = 1 := by omega
      rcases this with rfl | rfl <;> rfl
    refine ⟨S2, ps, some (.int (k : Int)), ?_, h2, q2, by omega⟩
    have cn : (0 : Int) < (n : Int) := by omega
    simp [deedS, LB, c.1, c.2, cn, ek, i2, List.lookup, beq_of, R.noex, e1, x_ix, i7, e2]
  · have hn3 : n ∉ keys (P s) := by
      rw [h.ks s hs, hn]
      simp
    rw [hn] at H i2
    obtain ⟨S1, e1, H1, l1, f1⟩ := put_eq H hn3 (by omega) (by omega) T
    obtain ⟨ps, hps⟩ : ∃ ps, P s ++ [(n, T, S.length)] = ps := ⟨_, rfl⟩
    rw [hps] at H1
    have pl : ps.length = n + 1 := by rw [← hps]; simp [hn]
    have pk : keys ps = List.range ps.length := by
      rw [pl, List.range_succ, ← hps]
      unfold keys
      rw [List.map_append]
      have := h.ks s hs
      unfold keys at this
      rw [this, hn]
      rfl
    have pt : ps.map tD = (P s).map tD ++ [T.d] := by rw [← hps, List.map_append]; rfl
    rw [← pl] at H1
    have t1 : S1[5 + s]? = some (.lst ((P s).map tD)) := f1 _ _ (h.tt s hs) (by omega) (by omega)
    have e2 := x_append (d := T.d) (lstAt_of t1) (by rw [List.length_map]; omega)
    obtain ⟨S2, hS2⟩ : ∃ S2, S1.set (5 + s) (.lst (ps.map tD)) = S2 := ⟨_, rfl⟩
    rw [← pt, hS2] at e2
    obtain ⟨h2, q2⟩ := h.step hs H1 (by omega) f1 pk (fun p hp => by
      rw [← hps] at hp
      rcases List.mem_append.mp hp with hp | hp
      · exact h.wf s hs p hp
      · rw [List.mem_singleton.mp hp]; exact hT) hS2
    have i7 : ixO S1 (.ref 7) (.int (s : Int)) = some (.ref (5 + s)) := by
      rw [x_ixR (lstAt_of (f1 _ _ h.l7 (by omega) (by omega)))]
      have : s = 0 ∨ s = 1 := by omega
      rcases this with rfl | rfl <;> rfl
    have e3 := same_top (n := 0) (d := .int (n : Int)) (.int _) (by omega) S1
    refine ⟨S2, ps, some (.int (n : Int)), ?_, h2, q2, by omega⟩
    by_cases c1 : y / 2 % 4 = 3
    · have cn : n = 0 := by omega
      subst cn
      simp at e1 e3
      simp [deedS, LB, c1, i2, List.lookup, beq_of, R.noex, e1, x_ix, i7, e2, e3, lstAt_of t1]
    · simp [deedS, LB, c1, i2, List.lookup, beq_of, R.noex, e1, x_ix, i7, e2, e3, lstAt_of t1]
theorem rest {S : Store} {P : Nat → List Tr} {held : List (Nat × Nat)} (h : St S P held) {s : Nat} (hs : s < 2) (hn : ∀ s, s < 2 → (P s).length ≤ 1000) (hh : held.length ≤ 900) (h9 : 9 ≤ S.length) (sc : D) (y : Int) (x7 x8 x9 : Option D) :
    ∃ S' held', restS (LB sc (some (.int y)) (some (.int (s : Int))) (some (.ref (2 * s))) x7 x8 x9) S = .ok (.nx, LB sc (some (.int y)) (some (.int (s : Int))) (some (.ref (2 * s))) x7 x8 x9) S' ∧ St S' P held' ∧ Hi S S' ∧ held'.length ≤ held.length + 2 := by
  obtain ⟨S1, held1, e1, h1, q1, l1⟩ := right_eq h hs (t := 5 + s) (.inl rfl) h9 (hn s hs) (by omega) (y / 512)
  obtain ⟨S2, held2, e2, h2, q2, l2⟩ := right_eq h1 (s := 1 - s) (by omega) (t := 5 + (1 - s)) (.inl rfl) (Nat.le_trans h9 q1.1) (hn _ (by omega)) (by omega) (y / 1024)
  have i7 := h.ix7 hs
  have j4 := h1.ix4 (s := 1 - s) (by omega)
  have j7 := h1.ix7 (s := 1 - s) (by omega)
  have ec : ((1 - s : Nat) : Int) = 1 - (s : Int) := by omega
  rw [ec] at j4 j7
  refine ⟨S2, held2, ?_, h2, q1.trans q2, by omega⟩
  simp [restS, LB, x_ix, i7, e1, j4, j7, e2]
theorem turn {S : Store} {P : Nat → List Tr} {held : List (Nat × Nat)} {k : Nat} (h : St S P held) (hk : k ≤ 100) (hn : ∀ s, s < 2 → (P s).length ≤ k) (hh : held.length ≤ 1 + 2 * k) (h9 : 9 ≤ S.length) (sc : D) (c : Int) (x5 x6 x7 x8 x9 : Option D) :
    ∃ S' P' held' y4 y5 y6 y7 y8 y9, b_law_0 (LB sc (some (.int c)) x5 x6 x7 x8 x9) S = .ok (.nx, LB sc y4 y5 y6 y7 y8 y9) S' ∧ St S' P' held' ∧ Hi S S' ∧ (∀ s, s < 2 → (P' s).length ≤ k + 1) ∧ held'.length ≤ 1 + 2 * (k + 1) := by
  obtain ⟨y, hy, ey⟩ := spread_eq c 0 (by omega) (by omega)
  obtain ⟨s, es, hs⟩ : ∃ s : Nat, y % 2 = (s : Int) ∧ s < 2 := ⟨(y % 2).toNat, by omega, by omega⟩
  have i4 := h.ix4 hs
  have i7 := h.ix7 hs
  have ht := h.tt s hs
  have hns := hn s hs
  have el : lenV [.ref (5 + s)] S = .ok (.int ((P s).length : Int)) S := by rw [x_lenR (lstAt_of ht), List.length_map]
  obtain ⟨T, hT, eT⟩ := thing_eq (y / 8) (P s).length
  obtain ⟨X, e1⟩ := eT S
  obtain ⟨S1, hS1⟩ : ∃ S1, S ++ X = S1 := ⟨_, rfl⟩
  rw [hS1] at e1
  have h1 : St S1 P held := h.app _ hS1
  have q1 : Hi S S1 := (Hi.refl S).app _ hS1
  obtain ⟨S2, ps, y9, e2, h2, q2, l2⟩ := deed h1 hs rfl (by omega) hT sc y x9
  have hn2 : ∀ i, i < 2 → (upd P s ps i).length ≤ k + 1 := fun i hi => by
    by_cases q : i = s
    · subst q; rw [upd_at]; omega
    · rw [upd_ne q]; have := hn i hi; omega
  obtain ⟨S3, held3, e3, h3, q3, l3⟩ := rest h2 hs (fun i hi => by have := hn2 i hi; omega) (by omega) (Nat.le_trans h9 (q1.trans q2).1) sc y (some (.int ((P s).length : Int))) (some T.d) y9
  refine ⟨S3, upd P s ps, held3, some (.int y), some (.int (s : Int)), some (.ref (2 * s)), some (.int ((P s).length : Int)), some T.d, y9, ?_, h3, (q1.trans q2).trans q3, hn2, by omega⟩
  rw [b_law_0_eq]
  unfold LB at e2 e3 ⊢
  simp [ey, es, x_ix, i4, i7, el, e1, e2, e3]
end K23

set_option Elab.async false
set_option linter.all false
set_option maxRecDepth 100000
set_option autoImplicit false
namespace K23
open PySem PySem.Spec L2 ML
theorem mk_heap (l : ML.Loc) (S : Store) : makeE 12 1 F_HeapXX_initXX nilA l S = .ok (.ref S.length) (S ++ [hpC (S.length + 1) 0, .dct []]) := by
  have e : insAt (S ++ [Cell.ins 12 []]) S.length = some (12, []) := insAt_end _ _ _
  have e2 : ∀ fs, insAt (S ++ [Cell.ins 12 fs, .dct []]) S.length = some (12, fs) := fun fs => insAt_of (by simp)
  have e3 : ∀ c d Y, (S ++ c :: Y).set S.length d = S ++ d :: Y := fun c d Y => set_mid _ _ _ _
  simp [F_HeapXX_initXX, m_HeapXX_initXX, N_HeapXX_initXX, startL, e, e2, e3, putD, hpC]
theorem held_all {S : Store} {P : Nat → List Tr} {held : List (Nat × Nat)} (h : St S P held) (hz : held.length ≤ 1000) (l : ML.Loc) (hl : 11 < l.length) : compL (fun S' => lstAt S' 8 = some (held.map fun p => D.tup [.ref p.1, .ref p.2])) (.many [11, 10]) yesM (toV (cmpM eqD (varE 11) (varE 10))) l (held.map fun p => D.tup [.ref p.1, .ref p.2]) [] S = .ok (held.map fun _ => D.bl true) S := by
  have e : (held.map fun p => D.tup [.ref p.1, .ref p.2]) = (held.map fun p => ((D.ref p.1, D.ref p.2) : D × D)).map fun p => D.tup [p.1, p.2] := by rw [List.map_map]; rfl
  have := comp_pairs (chk := fun S' => lstAt S' 8 = some (held.map fun p => D.tup [.ref p.1, .ref p.2])) (i := 11) (j := 10) (m := toV (cmpM eqD (varE 11) (varE 10))) (l := l) (S := S) (lstAt_of h.l8) (held.map fun p => ((D.ref p.1, D.ref p.2) : D × D)) (fun p hp => by
    obtain ⟨q, hq, rfl⟩ := List.mem_map.mp hp
    obtain ⟨L, b1, b2, _, _⟩ := h.he q hq
    have e1 := x_eqInts b1 b2
    rw [decide_eq_true rfl] at e1
    have v1 : varE 11 ((l.set 11 (some (D.ref q.1))).set 10 (some (D.ref q.2))) S = .ok (.ref q.1) S := by
      unfold varE
      rw [List.getElem?_set_ne (by omega), List.getElem?_set_self hl]
    have v2 : varE 10 ((l.set 11 (some (D.ref q.1))).set 10 (some (D.ref q.2))) S = .ok (.ref q.2) S := by
      unfold varE
      rw [List.getElem?_set_self (by rw [List.length_set]; omega)]
    simp [v1, v2, e1]) [] (by simp; omega)
  rw [e] at *
  rw [this]
  simp
theorem loop {sc : D} {its : List D} {q : Nat} {S : Store} {P : Nat → List Tr} {held : List (Nat × Nat)} (h : St S P held) (hP : ∀ s, s < 2 → (P s).length ≤ 0) (hh : held.length ≤ 1) (h9 : 9 ≤ q) (hq : S[q]? = some (.lst its)) (hz : its.length ≤ 63) (hi : ∀ d ∈ its, ∃ c, d = .int c) :
    ∃ y4 y5 y6 y7 y8 y9 S' P' held', forL (fun S' => lstAt S' q = some its) (nameT 4) b_law_0 its (LB sc none none none none none none) S = .ok (.nx, LB sc y4 y5 y6 y7 y8 y9) S' ∧ St S' P' held' ∧ held'.length ≤ 200 := by
  have := forS_inv (chk := fun S' => lstAt S' q = some its) (t := nameT 4) (b := b_law_0) (ds := its) (l := LB sc none none none none none none) (S := S)
    (Q := fun p S' => p.1 = .nx ∧ ∃ y4 y5 y6 y7 y8 y9 P' held', p.2 = LB sc y4 y5 y6 y7 y8 y9 ∧ St S' P' held' ∧ held'.length ≤ 200)
    (fun k l S => k ≤ its.length ∧ S[q]? = some (.lst its) ∧ ∃ y4 y5 y6 y7 y8 y9 P' held', l = LB sc y4 y5 y6 y7 y8 y9 ∧ St S P' held' ∧ (∀ s, s < 2 → (P' s).length ≤ k) ∧ held'.length ≤ 1 + 2 * k) ⟨by omega, hq, _, _, _, _, _, _, _, _, rfl, h, hP, by omega⟩ (fun k l S h => lstAt_of h.2.1) (by
      rintro k d l S ⟨hk, hq, y4, y5, y6, y7, y8, y9, P', held', rfl, h, hN, hh⟩ hd
      have hk1 := (List.getElem?_eq_some_iff.mp hd).1
      obtain ⟨c, rfl⟩ := hi d (List.mem_of_getElem? hd)
      have := lt_of_at hq
      obtain ⟨S', P2, held2, z4, z5, z6, z7, z8, z9, e, h', q2, hN2, hh2⟩ := turn (k := k) h (by omega) hN hh (by omega) sc c y5 y6 y7 y8 y9
      simp
      rw [e]
      exact ⟨by omega, q2.2 _ _ h9 hq, ⟨_, _, _, _, _, _, rfl⟩, _, _, h', hN2, hh2⟩) (by
      rintro l S ⟨_, hq, y4, y5, y6, y7, y8, y9, P', held', rfl, h, hN, hh⟩
      exact ⟨rfl, _, _, _, _, _, _, _, _, rfl, h, by omega⟩)
  obtain ⟨⟨fl, l'⟩, S', e, e1, y4, y5, y6, y7, y8, y9, P', held', e2, h', hh⟩ := this.of
  subst e1
  simp only at e2
  subst e2
  exact ⟨y4, y5, y6, y7, y8, y9, S', P', held', e, h', hh⟩
def s9 : Store := [hpC 1 0, .dct [], hpC 3 0, .dct [], .lst [.ref 0, .ref 2], .lst [], .lst [], .lst [.ref 5, .ref 6], .lst []]
theorem st_start : St s9 (fun _ => []) [] where
  hp s hs := by
    have : s = 0 ∨ s = 1 := by omega
    rcases this with rfl | rfl
    · exact ⟨rfl, rfl, fun p hp => absurd hp (by simp)⟩
    · exact ⟨rfl, rfl, fun p hp => absurd hp (by simp)⟩
  ks s hs := rfl
  wf s hs p hp := absurd hp (by simp)
  tt s hs := by
    have : s = 0 ∨ s = 1 := by omega
    rcases this with rfl | rfl <;> rfl
  l4 := rfl
  l7 := rfl
  l8 := rfl
  he p hp := absurd hp (by simp)
noncomputable def tl : MS := seqS (ifS (notM (ofV (callE 4 F__law_right (consA (binE ixD (varE 1) (conE (.int 0))) (consA (allocE (lstN (nilA))) (consA (varE 3) (consA (callE 2 F__law_draw (consA (varE 0) (consA (conE (.int 0)) (nilA)))) (nilA)))))))) (retS (conE (.bl false))) (nilS)) (seqS (forS (srcV (sliceE (varE 0) (someO (conE (.int 1))) (someO (conE (.int 21))))) (nameT 4) (b_law_0)) (retS (newL allL (compN (srcV (varE 3)) (.many [11, 10]) (yesM) (toV (cmpM eqD (varE 11) (varE 10)))))))
theorem tl_eq {ns : List Int} (hns : ns.length ≤ 63) : ∃ l' S', tl (LB (.lis (ns.map .int)) none none none none none none) s9 = .ok (.rt (.bl true), l') S' := by
  obtain ⟨z0, e0⟩ := draw_int ns 0 (by omega)
  obtain ⟨s0, hs0⟩ : ∃ s0, s9 = s0 := ⟨_, rfl⟩
  have h0 := st_start
  have hl0 : s9.length = 9 := rfl
  rw [hs0] at h0 hl0 ⊢
  obtain ⟨S1, hS1⟩ : ∃ S1, s0 ++ [Cell.lst []] = S1 := ⟨_, rfl⟩
  have h1 := h0.app _ hS1
  have k1 : S1[9]? = some (.lst []) := by
    have : (s0 ++ [Cell.lst []])[s0.length]? = some (Cell.lst []) := at_end
    rw [hS1, hl0] at this
    exact this
  have hl1 : 9 ≤ S1.length := by have := lt_of_at k1; omega
  obtain ⟨S2, held2, e2, h2, q2, l2⟩ := right_eq h1 (s := 0) (by omega) (t := 9) (.inr ⟨by omega, rfl, k1⟩) hl1 (by simp) (by simp) z0
  obtain ⟨its, hits⟩ : ∃ its, cutD (ns.map D.int) (some 1) (some 21) = its := ⟨_, rfl⟩
  have e5 := x_slW (ns.map D.int) (some 1) (some 21) S2
  rw [hits] at e5
  obtain ⟨S3, hS3⟩ : ∃ S3, S2 ++ [Cell.lst its] = S3 := ⟨_, rfl⟩
  rw [hS3] at e5
  have k3 : S3[S2.length]? = some (.lst its) := by rw [← hS3]; exact at_end
  have h3 := h2.app _ hS3
  have hil : its.length ≤ 63 := by rw [← hits]; have := cutD_len (ns.map D.int) (some 1) (some 21); simp at this; omega
  obtain ⟨y4, y5, y6, y7, y8, y9, S', P', held', e7, h', hh⟩ := loop (sc := .lis (ns.map .int)) h3 (fun _ _ => Nat.le_refl _) (by simpa using l2) (Nat.le_trans hl1 q2.1) k3 hil (fun d hd => by
    rw [← hits] at hd
    obtain ⟨c, _, rfl⟩ := List.mem_map.mp (cutD_mem hd)
    exact ⟨c, rfl⟩)
  have e6 := x_srcR k3
  have e8 := x_srcR h'.l8
  have e9 := held_all h' (by omega) (LB (.lis (ns.map .int)) y4 y5 y6 y7 y8 y9) (by simp [LB])
  have e10 := allL_map (fun _ : Nat × Nat => true) held' S'
  have i0 : ixO s0 (.ref 4) (.int 0) = some (.ref 0) := h0.ix4 (s := 0) (by omega)
  refine ⟨LB (.lis (ns.map .int)) y4 y5 y6 y7 y8 y9, S', ?_⟩
  unfold tl
  simp only [LB] at e7 e9 ⊢
  simp at e2
  simp [x_ix, i0, sz, hl0, hS1, e0, e2, e5, e6, e7, e8, Tgt.own, wipeL, e9, e10]
theorem law_true : ∀ ns : List Int, ns.length ≤ 63 → ∃ S', F_law [.lis (ns.map D.int)] [] = .ok (.bl true) S' := by
  intro ns hns
  obtain ⟨l2, S2, e2⟩ := tl_eq (ns := ns) hns
  refine ⟨S2, ?_⟩
  have et : F_law = bodyF N_law.length (seqS (setS 1 (allocE (lstN (consA (makeE 12 1 F_HeapXX_initXX nilA) (consA (makeE 12 1 F_HeapXX_initXX nilA) (nilA)))))) (seqS (setS 2 (allocE (lstN (consA (allocE (lstN (nilA))) (consA (allocE (lstN (nilA))) (nilA)))))) (seqS (setS 3 (allocE (lstN (nilA)))) tl))) := rfl
  rw [et]
  simp only [N_law, x_bodyF, startL]
  simp only [LB, s9] at e2
  simp [-x_makeE, mk_heap, sz, e2]
end K23

set_option Elab.async false
set_option linter.all false
set_option maxRecDepth 100000
set_option autoImplicit false
set_option maxHeartbeats 4000000
namespace K23
open PySem PySem.Spec L2 ML
theorem all_mk {l : PySem.W.OpenLaw} {w : World} {K : PySem.W.Frag} {h : Heap} {mg : Str → Option Value} {fa : Addr} (X : K.In h) (G : h.Ns mainGlobals mg) (hfa : mg "law" = some (.ref fa))
    {C_Box : Addr}
    {C_Maker : Addr}
    {C_Looper : Addr}
    {C_Waiting : Addr}
    {C_Heap : Addr}
    {f1 : Addr} {od1 an1 : Option Addr} {sl1 : Array (Option Value)} {oc1 kV1 dc1 pm1 cd1 ct1 : Value}
    {f2 : Addr} {od2 an2 : Option Addr} {sl2 : Array (Option Value)} {oc2 kV2 dc2 pm2 cd2 ct2 : Value}
    {f3 : Addr} {od3 an3 : Option Addr} {sl3 : Array (Option Value)} {oc3 kV3 dc3 pm3 cd3 ct3 : Value}
    {f4 : Addr} {od4 an4 : Option Addr} {sl4 : Array (Option Value)} {oc4 kV4 dc4 pm4 cd4 ct4 : Value}
    {f5 : Addr} {od5 an5 : Option Addr} {sl5 : Array (Option Value)} {oc5 kV5 dc5 pm5 cd5 ct5 : Value}
    {f6 : Addr} {od6 an6 : Option Addr} {sl6 : Array (Option Value)} {oc6 kV6 dc6 pm6 cd6 ct6 : Value}
    {f7 : Addr} {od7 an7 : Option Addr} {sl7 : Array (Option Value)} {oc7 kV7 dc7 pm7 cd7 ct7 : Value}
    {f8 : Addr} {od8 an8 : Option Addr} {sl8 : Array (Option Value)} {oc8 kV8 dc8 pm8 cd8 ct8 : Value}
    {f9 : Addr} {od9 an9 : Option Addr} {sl9 : Array (Option Value)} {oc9 kV9 dc9 pm9 cd9 ct9 : Value}
    {f10 : Addr} {od10 an10 : Option Addr} {sl10 : Array (Option Value)} {oc10 kV10 dc10 pm10 cd10 ct10 : Value}
    {f11 : Addr} {od11 an11 : Option Addr} {sl11 : Array (Option Value)} {oc11 kV11 dc11 pm11 cd11 ct11 : Value}
    {f12 : Addr} {od12 an12 : Option Addr} {sl12 : Array (Option Value)} {oc12 kV12 dc12 pm12 cd12 ct12 : Value}
    {f13 : Addr} {od13 an13 : Option Addr} {sl13 : Array (Option Value)} {oc13 kV13 dc13 pm13 cd13 ct13 : Value}
    {f14 : Addr} {od14 an14 : Option Addr} {sl14 : Array (Option Value)} {oc14 kV14 dc14 pm14 cd14 ct14 : Value}
    {f15 : Addr} {od15 an15 : Option Addr} {sl15 : Array (Option Value)} {oc15 kV15 dc15 pm15 cd15 ct15 : Value}
    {f16 : Addr} {od16 an16 : Option Addr} {sl16 : Array (Option Value)} {oc16 kV16 dc16 pm16 cd16 ct16 : Value}
    {f17 : Addr} {od17 an17 : Option Addr} {sl17 : Array (Option Value)} {oc17 kV17 dc17 pm17 cd17 ct17 : Value}
    {f18 : Addr} {od18 an18 : Option Addr} {sl18 : Array (Option Value)} {oc18 kV18 dc18 pm18 cd18 ct18 : Value}
    {f19 : Addr} {od19 an19 : Option Addr} {sl19 : Array (Option Value)} {oc19 kV19 dc19 pm19 cd19 ct19 : Value}
    {f20 : Addr} {od20 an20 : Option Addr} {sl20 : Array (Option Value)} {oc20 kV20 dc20 pm20 cd20 ct20 : Value}
    {f21 : Addr} {od21 an21 : Option Addr} {sl21 : Array (Option Value)} {oc21 kV21 dc21 pm21 cd21 ct21 : Value}
    {f22 : Addr} {od22 an22 : Option Addr} {sl22 : Array (Option Value)} {oc22 kV22 dc22 pm22 cd22 ct22 : Value}
    {f23 : Addr} {od23 an23 : Option Addr} {sl23 : Array (Option Value)} {oc23 kV23 dc23 pm23 cd23 ct23 : Value}
    {f24 : Addr} {od24 an24 : Option Addr} {sl24 : Array (Option Value)} {oc24 kV24 dc24 pm24 cd24 ct24 : Value}
    {f25 : Addr} {od25 an25 : Option Addr} {sl25 : Array (Option Value)} {oc25 kV25 dc25 pm25 cd25 ct25 : Value}
    {f26 : Addr} {od26 an26 : Option Addr} {sl26 : Array (Option Value)} {oc26 kV26 dc26 pm26 cd26 ct26 : Value}
    {C_NoThing : Addr}
    {C_LoomError : Addr}
    {C_BadTree : Addr}
    {C_BadText : Addr}
    {C_BadName : Addr}
    {C_BadCount : Addr}
    {C_BadCode : Addr}
    (n_Box : PySem.W.nsIn K mainGlobals "Box" = some (some (.ref C_Box)))
    (pg_Box : PySem.W.plainGet K C_Box Str.empty = true)
    (hd_Box : PySem.W.hasDictIn K C_Box = true)
    (po_Box : PySem.W.plainOver K C_Box = true)
    (sa_Box : PySem.W.findIn K (.ref C_Box) "__setattr__" = some (some (.builtin "object.__setattr__")))
    (mk_Box : PySem.W.makesIn K C_Box = true)
    (kc_Box : PySem.W.keepIn K (.ref C_Box) = true)
    (n_Maker : PySem.W.nsIn K mainGlobals "Maker" = some (some (.ref C_Maker)))
    (pg_Maker : PySem.W.plainGet K C_Maker Str.empty = true)
    (hd_Maker : PySem.W.hasDictIn K C_Maker = true)
    (po_Maker : PySem.W.plainOver K C_Maker = true)
    (sa_Maker : PySem.W.findIn K (.ref C_Maker) "__setattr__" = some (some (.builtin "object.__setattr__")))
    (mk_Maker : PySem.W.makesIn K C_Maker = true)
    (kc_Maker : PySem.W.keepIn K (.ref C_Maker) = true)
    (n_Looper : PySem.W.nsIn K mainGlobals "Looper" = some (some (.ref C_Looper)))
    (pg_Looper : PySem.W.plainGet K C_Looper Str.empty = true)
    (hd_Looper : PySem.W.hasDictIn K C_Looper = true)
    (po_Looper : PySem.W.plainOver K C_Looper = true)
    (sa_Looper : PySem.W.findIn K (.ref C_Looper) "__setattr__" = some (some (.builtin "object.__setattr__")))
    (mk_Looper : PySem.W.makesIn K C_Looper = true)
    (kc_Looper : PySem.W.keepIn K (.ref C_Looper) = true)
    (n_Waiting : PySem.W.nsIn K mainGlobals "Waiting" = some (some (.ref C_Waiting)))
    (pg_Waiting : PySem.W.plainGet K C_Waiting Str.empty = true)
    (hd_Waiting : PySem.W.hasDictIn K C_Waiting = true)
    (po_Waiting : PySem.W.plainOver K C_Waiting = true)
    (sa_Waiting : PySem.W.findIn K (.ref C_Waiting) "__setattr__" = some (some (.builtin "object.__setattr__")))
    (mk_Waiting : PySem.W.makesIn K C_Waiting = true)
    (kc_Waiting : PySem.W.keepIn K (.ref C_Waiting) = true)
    (n_Heap : PySem.W.nsIn K mainGlobals "Heap" = some (some (.ref C_Heap)))
    (pg_Heap : PySem.W.plainGet K C_Heap Str.empty = true)
    (hd_Heap : PySem.W.hasDictIn K C_Heap = true)
    (po_Heap : PySem.W.plainOver K C_Heap = true)
    (sa_Heap : PySem.W.findIn K (.ref C_Heap) "__setattr__" = some (some (.builtin "object.__setattr__")))
    (mk_Heap : PySem.W.makesIn K C_Heap = true)
    (kc_Heap : PySem.W.keepIn K (.ref C_Heap) = true)
    (na_Heap_there : PySem.W.findIn K (.ref C_Heap) "there" = some none)
    (na_Heap_count : PySem.W.findIn K (.ref C_Heap) "count" = some none)
    (na_Box_value : PySem.W.findIn K (.ref C_Box) "value" = some none)
    (na_Waiting_own : PySem.W.findIn K (.ref C_Waiting) "own" = some none)
    (na_Looper_own : PySem.W.findIn K (.ref C_Looper) "own" = some none)
    (na_Maker_own : PySem.W.findIn K (.ref C_Maker) "own" = some none)
    (na_Waiting_taken : PySem.W.findIn K (.ref C_Waiting) "taken" = some none)
    (na_Looper_taken : PySem.W.findIn K (.ref C_Looper) "taken" = some none)
    (na_Maker_taken : PySem.W.findIn K (.ref C_Maker) "taken" = some none)
    (na_Waiting_at : PySem.W.findIn K (.ref C_Waiting) "at" = some none)
    (na_Waiting_slots : PySem.W.findIn K (.ref C_Waiting) "slots" = some none)
    (na_Waiting_boxes : PySem.W.findIn K (.ref C_Waiting) "boxes" = some none)
    (in_Heap : PySem.W.findIn K (.ref C_Heap) "__init__" = some (some (.ref f1)))
    (fn1 : PySem.W.isFn K (.ref f1) = true)
    (l1 : K.lookup f1 = some ⟨oc1, od1, .func (PySem.W.fnOf "__init__" "Heap.__init__" (defArgs s_HeapXX_initXX) (defBody s_HeapXX_initXX) (defScope s_HeapXX_initXX) .none kV1 dc1 pm1 an1 cd1 ct1), sl1⟩)
    (c1 : PySem.W.codeIn K cd1 "Heap.__init__" = true)
    (k1 : PySem.W.keepIn K (.ref f1) = true)
    (mt_Heap_need : PySem.W.findIn K (.ref C_Heap) "need" = some (some (.ref f2)))
    (fn2 : PySem.W.isFn K (.ref f2) = true)
    (l2 : K.lookup f2 = some ⟨oc2, od2, .func (PySem.W.fnOf "need" "Heap.need" (defArgs s_Heap_need) (defBody s_Heap_need) (defScope s_Heap_need) .none kV2 dc2 pm2 an2 cd2 ct2), sl2⟩)
    (c2 : PySem.W.codeIn K cd2 "Heap.need" = true)
    (k2 : PySem.W.keepIn K (.ref f2) = true)
    (in_Box : PySem.W.findIn K (.ref C_Box) "__init__" = some (some (.ref f3)))
    (fn3 : PySem.W.isFn K (.ref f3) = true)
    (l3 : K.lookup f3 = some ⟨oc3, od3, .func (PySem.W.fnOf "__init__" "Box.__init__" (defArgs s_BoxXX_initXX) (defBody s_BoxXX_initXX) (defScope s_BoxXX_initXX) .none kV3 dc3 pm3 an3 cd3 ct3), sl3⟩)
    (c3 : PySem.W.codeIn K cd3 "Box.__init__" = true)
    (k3 : PySem.W.keepIn K (.ref f3) = true)
    (in_Maker : PySem.W.findIn K (.ref C_Maker) "__init__" = some (some (.ref f4)))
    (in_Looper : PySem.W.findIn K (.ref C_Looper) "__init__" = some (some (.ref f4)))
    (fn4 : PySem.W.isFn K (.ref f4) = true)
    (l4 : K.lookup f4 = some ⟨oc4, od4, .func (PySem.W.fnOf "__init__" "Maker.__init__" (defArgs s_MakerXX_initXX) (defBody s_MakerXX_initXX) (defScope s_MakerXX_initXX) .none kV4 dc4 pm4 an4 cd4 ct4), sl4⟩)
    (c4 : PySem.W.codeIn K cd4 "Maker.__init__" = true)
    (k4 : PySem.W.keepIn K (.ref f4) = true)
    (in_Waiting : PySem.W.findIn K (.ref C_Waiting) "__init__" = some (some (.ref f5)))
    (fn5 : PySem.W.isFn K (.ref f5) = true)
    (l5 : K.lookup f5 = some ⟨oc5, od5, .func (PySem.W.fnOf "__init__" "Waiting.__init__" (defArgs s_WaitingXX_initXX) (defBody s_WaitingXX_initXX) (defScope s_WaitingXX_initXX) .none kV5 dc5 pm5 an5 cd5 ct5), sl5⟩)
    (c5 : PySem.W.codeIn K cd5 "Waiting.__init__" = true)
    (k5 : PySem.W.keepIn K (.ref f5) = true)
    (a6 : PySem.W.nsIn K mainGlobals "thing_of" = some (some (.ref f6)))
    (l6 : K.lookup f6 = some ⟨oc6, od6, .func (PySem.W.fnOf "thing_of" "thing_of" (defArgs s_thing_of) (defBody s_thing_of) (defScope s_thing_of) .none kV6 dc6 pm6 an6 cd6 ct6), sl6⟩)
    (c6 : PySem.W.codeIn K cd6 "thing_of" = true)
    (k6 : PySem.W.keepIn K (.ref f6) = true)
    (mt_Heap_change : PySem.W.findIn K (.ref C_Heap) "change" = some (some (.ref f7)))
    (fn7 : PySem.W.isFn K (.ref f7) = true)
    (l7 : K.lookup f7 = some ⟨oc7, od7, .func (PySem.W.fnOf "change" "Heap.change" (defArgs s_Heap_change) (defBody s_Heap_change) (defScope s_Heap_change) .none kV7 dc7 pm7 an7 cd7 ct7), sl7⟩)
    (c7 : PySem.W.codeIn K cd7 "Heap.change" = true)
    (k7 : PySem.W.keepIn K (.ref f7) = true)
    (mt_Heap_put : PySem.W.findIn K (.ref C_Heap) "put" = some (some (.ref f8)))
    (fn8 : PySem.W.isFn K (.ref f8) = true)
    (l8 : K.lookup f8 = some ⟨oc8, od8, .func (PySem.W.fnOf "put" "Heap.put" (defArgs s_Heap_put) (defBody s_Heap_put) (defScope s_Heap_put) .none kV8 dc8 pm8 an8 cd8 ct8), sl8⟩)
    (c8 : PySem.W.codeIn K cd8 "Heap.put" = true)
    (k8 : PySem.W.keepIn K (.ref f8) = true)
    (a9 : PySem.W.nsIn K mainGlobals "_law_draw" = some (some (.ref f9)))
    (l9 : K.lookup f9 = some ⟨oc9, od9, .func (PySem.W.fnOf "_law_draw" "_law_draw" (defArgs s__law_draw) (defBody s__law_draw) (defScope s__law_draw) .none kV9 dc9 pm9 an9 cd9 ct9), sl9⟩)
    (c9 : PySem.W.codeIn K cd9 "_law_draw" = true)
    (k9 : PySem.W.keepIn K (.ref f9) = true)
    (mt_Heap_numbers : PySem.W.findIn K (.ref C_Heap) "numbers" = some (some (.ref f10)))
    (fn10 : PySem.W.isFn K (.ref f10) = true)
    (l10 : K.lookup f10 = some ⟨oc10, od10, .func (PySem.W.fnOf "numbers" "Heap.numbers" (defArgs s_Heap_numbers) (defBody s_Heap_numbers) (defScope s_Heap_numbers) .none kV10 dc10 pm10 an10 cd10 ct10), sl10⟩)
    (c10 : PySem.W.codeIn K cd10 "Heap.numbers" = true)
    (k10 : PySem.W.keepIn K (.ref f10) = true)
    (mt_Box_shape : PySem.W.findIn K (.ref C_Box) "shape" = some (some (.ref f11)))
    (fn11 : PySem.W.isFn K (.ref f11) = true)
    (l11 : K.lookup f11 = some ⟨oc11, od11, .func (PySem.W.fnOf "shape" "Box.shape" (defArgs s_Box_shape) (defBody s_Box_shape) (defScope s_Box_shape) .none kV11 dc11 pm11 an11 cd11 ct11), sl11⟩)
    (c11 : PySem.W.codeIn K cd11 "Box.shape" = true)
    (k11 : PySem.W.keepIn K (.ref f11) = true)
    (mt_Looper_kind_word : PySem.W.findIn K (.ref C_Looper) "kind_word" = some (some (.ref f12)))
    (fn12 : PySem.W.isFn K (.ref f12) = true)
    (l12 : K.lookup f12 = some ⟨oc12, od12, .func (PySem.W.fnOf "kind_word" "Looper.kind_word" (defArgs s_Looper_kind_word) (defBody s_Looper_kind_word) (defScope s_Looper_kind_word) .none kV12 dc12 pm12 an12 cd12 ct12), sl12⟩)
    (c12 : PySem.W.codeIn K cd12 "Looper.kind_word" = true)
    (k12 : PySem.W.keepIn K (.ref f12) = true)
    (mt_Maker_kind_word : PySem.W.findIn K (.ref C_Maker) "kind_word" = some (some (.ref f13)))
    (fn13 : PySem.W.isFn K (.ref f13) = true)
    (l13 : K.lookup f13 = some ⟨oc13, od13, .func (PySem.W.fnOf "kind_word" "Maker.kind_word" (defArgs s_Maker_kind_word) (defBody s_Maker_kind_word) (defScope s_Maker_kind_word) .none kV13 dc13 pm13 an13 cd13 ct13), sl13⟩)
    (c13 : PySem.W.codeIn K cd13 "Maker.kind_word" = true)
    (k13 : PySem.W.keepIn K (.ref f13) = true)
    (mt_Waiting_kind_word : PySem.W.findIn K (.ref C_Waiting) "kind_word" = some (some (.ref f14)))
    (fn14 : PySem.W.isFn K (.ref f14) = true)
    (l14 : K.lookup f14 = some ⟨oc14, od14, .func (PySem.W.fnOf "kind_word" "Waiting.kind_word" (defArgs s_Waiting_kind_word) (defBody s_Waiting_kind_word) (defScope s_Waiting_kind_word) .none kV14 dc14 pm14 an14 cd14 ct14), sl14⟩)
    (c14 : PySem.W.codeIn K cd14 "Waiting.kind_word" = true)
    (k14 : PySem.W.keepIn K (.ref f14) = true)
    (mt_Maker_shape : PySem.W.findIn K (.ref C_Maker) "shape" = some (some (.ref f15)))
    (mt_Looper_shape : PySem.W.findIn K (.ref C_Looper) "shape" = some (some (.ref f15)))
    (fn15 : PySem.W.isFn K (.ref f15) = true)
    (l15 : K.lookup f15 = some ⟨oc15, od15, .func (PySem.W.fnOf "shape" "Maker.shape" (defArgs s_Maker_shape) (defBody s_Maker_shape) (defScope s_Maker_shape) .none kV15 dc15 pm15 an15 cd15 ct15), sl15⟩)
    (c15 : PySem.W.codeIn K cd15 "Maker.shape" = true)
    (k15 : PySem.W.keepIn K (.ref f15) = true)
    (mt_Waiting_shape : PySem.W.findIn K (.ref C_Waiting) "shape" = some (some (.ref f16)))
    (fn16 : PySem.W.isFn K (.ref f16) = true)
    (l16 : K.lookup f16 = some ⟨oc16, od16, .func (PySem.W.fnOf "shape" "Waiting.shape" (defArgs s_Waiting_shape) (defBody s_Waiting_shape) (defScope s_Waiting_shape) .none kV16 dc16 pm16 an16 cd16 ct16), sl16⟩)
    (c16 : PySem.W.codeIn K cd16 "Waiting.shape" = true)
    (k16 : PySem.W.keepIn K (.ref f16) = true)
    (mt_Heap_thing : PySem.W.findIn K (.ref C_Heap) "thing" = some (some (.ref f17)))
    (fn17 : PySem.W.isFn K (.ref f17) = true)
    (l17 : K.lookup f17 = some ⟨oc17, od17, .func (PySem.W.fnOf "thing" "Heap.thing" (defArgs s_Heap_thing) (defBody s_Heap_thing) (defScope s_Heap_thing) .none kV17 dc17 pm17 an17 cd17 ct17), sl17⟩)
    (c17 : PySem.W.codeIn K cd17 "Heap.thing" = true)
    (k17 : PySem.W.keepIn K (.ref f17) = true)
    (a18 : PySem.W.nsIn K mainGlobals "_law_alone" = some (some (.ref f18)))
    (l18 : K.lookup f18 = some ⟨oc18, od18, .func (PySem.W.fnOf "_law_alone" "_law_alone" (defArgs s__law_alone) (defBody s__law_alone) (defScope s__law_alone) .none kV18 dc18 pm18 an18 cd18 ct18), sl18⟩)
    (c18 : PySem.W.codeIn K cd18 "_law_alone" = true)
    (k18 : PySem.W.keepIn K (.ref f18) = true)
    (a19 : PySem.W.nsIn K mainGlobals "_law_refused" = some (some (.ref f19)))
    (l19 : K.lookup f19 = some ⟨oc19, od19, .func (PySem.W.fnOf "_law_refused" "_law_refused" (defArgs s__law_refused) (defBody s__law_refused) (defScope s__law_refused) .none kV19 dc19 pm19 an19 cd19 ct19), sl19⟩)
    (c19 : PySem.W.codeIn K cd19 "_law_refused" = true)
    (k19 : PySem.W.keepIn K (.ref f19) = true)
    (a20 : PySem.W.nsIn K mainGlobals "_law_same" = some (some (.ref f20)))
    (l20 : K.lookup f20 = some ⟨oc20, od20, .func (PySem.W.fnOf "_law_same" "_law_same" (defArgs s__law_same) (defBody s__law_same) (defScope s__law_same) .none kV20 dc20 pm20 an20 cd20 ct20), sl20⟩)
    (c20 : PySem.W.codeIn K cd20 "_law_same" = true)
    (k20 : PySem.W.keepIn K (.ref f20) = true)
    (a21 : PySem.W.nsIn K mainGlobals "_law_right" = some (some (.ref f21)))
    (l21 : K.lookup f21 = some ⟨oc21, od21, .func (PySem.W.fnOf "_law_right" "_law_right" (defArgs s__law_right) (defBody s__law_right) (defScope s__law_right) .none kV21 dc21 pm21 an21 cd21 ct21), sl21⟩)
    (c21 : PySem.W.codeIn K cd21 "_law_right" = true)
    (k21 : PySem.W.keepIn K (.ref f21) = true)
    (a22 : PySem.W.nsIn K mainGlobals "_law_spread" = some (some (.ref f22)))
    (l22 : K.lookup f22 = some ⟨oc22, od22, .func (PySem.W.fnOf "_law_spread" "_law_spread" (defArgs s__law_spread) (defBody s__law_spread) (defScope s__law_spread) .none kV22 dc22 pm22 an22 cd22 ct22), sl22⟩)
    (c22 : PySem.W.codeIn K cd22 "_law_spread" = true)
    (k22 : PySem.W.keepIn K (.ref f22) = true)
    (a23 : PySem.W.nsIn K mainGlobals "_law_boxes" = some (some (.ref f23)))
    (l23 : K.lookup f23 = some ⟨oc23, od23, .func (PySem.W.fnOf "_law_boxes" "_law_boxes" (defArgs s__law_boxes) (defBody s__law_boxes) (defScope s__law_boxes) .none kV23 dc23 pm23 an23 cd23 ct23), sl23⟩)
    (c23 : PySem.W.codeIn K cd23 "_law_boxes" = true)
    (k23 : PySem.W.keepIn K (.ref f23) = true)
    (a24 : PySem.W.nsIn K mainGlobals "_law_value" = some (some (.ref f24)))
    (l24 : K.lookup f24 = some ⟨oc24, od24, .func (PySem.W.fnOf "_law_value" "_law_value" (defArgs s__law_value) (defBody s__law_value) (defScope s__law_value) .none kV24 dc24 pm24 an24 cd24 ct24), sl24⟩)
    (c24 : PySem.W.codeIn K cd24 "_law_value" = true)
    (k24 : PySem.W.keepIn K (.ref f24) = true)
    (a25 : PySem.W.nsIn K mainGlobals "_law_thing" = some (some (.ref f25)))
    (l25 : K.lookup f25 = some ⟨oc25, od25, .func (PySem.W.fnOf "_law_thing" "_law_thing" (defArgs s__law_thing) (defBody s__law_thing) (defScope s__law_thing) .none kV25 dc25 pm25 an25 cd25 ct25), sl25⟩)
    (c25 : PySem.W.codeIn K cd25 "_law_thing" = true)
    (k25 : PySem.W.keepIn K (.ref f25) = true)
    (a26 : PySem.W.nsIn K mainGlobals "law" = some (some (.ref f26)))
    (l26 : K.lookup f26 = some ⟨oc26, od26, .func (PySem.W.fnOf "law" "law" (defArgs s_law) (defBody s_law) (defScope s_law) .none kV26 dc26 pm26 an26 cd26 ct26), sl26⟩)
    (c26 : PySem.W.codeIn K cd26 "law" = true)
    (k26 : PySem.W.keepIn K (.ref f26) = true)
    (b_ValueError : PySem.W.nsIn K mainGlobals "ValueError" = some none)
    (b_all : PySem.W.nsIn K mainGlobals "all" = some none)
    (b_bool : PySem.W.nsIn K mainGlobals "bool" = some none)
    (b_int : PySem.W.nsIn K mainGlobals "int" = some none)
    (b_isinstance : PySem.W.nsIn K mainGlobals "isinstance" = some none)
    (b_len : PySem.W.nsIn K mainGlobals "len" = some none)
    (b_list : PySem.W.nsIn K mainGlobals "list" = some none)
    (b_range : PySem.W.nsIn K mainGlobals "range" = some none)
    (b_sorted : PySem.W.nsIn K mainGlobals "sorted" = some none)
    (b_str : PySem.W.nsIn K mainGlobals "str" = some none)
    (b_tuple : PySem.W.nsIn K mainGlobals "tuple" = some none)
    (b_zip : PySem.W.nsIn K mainGlobals "zip" = some none)
    (n_NoThing : PySem.W.nsIn K mainGlobals "NoThing" = some (some (.ref C_NoThing)))
    (n_LoomError : PySem.W.nsIn K mainGlobals "LoomError" = some (some (.ref C_LoomError)))
    (n_BadTree : PySem.W.nsIn K mainGlobals "BadTree" = some (some (.ref C_BadTree)))
    (n_BadText : PySem.W.nsIn K mainGlobals "BadText" = some (some (.ref C_BadText)))
    (n_BadName : PySem.W.nsIn K mainGlobals "BadName" = some (some (.ref C_BadName)))
    (n_BadCount : PySem.W.nsIn K mainGlobals "BadCount" = some (some (.ref C_BadCount)))
    (n_BadCode : PySem.W.nsIn K mainGlobals "BadCode" = some (some (.ref C_BadCode)))
    (q_NoThing : PySem.W.excIn K C_NoThing [.type "ValueError", .type "Exception", .type "BaseException", .type "object"] "ValueError.__new__" = true)
    (k_NoThing : PySem.W.keepIn K (.ref C_NoThing) = true)
    (s_NoThing : PySem.W.subIn K (.ref C_NoThing) (.type "BaseException") = some true)
    (t_NoThing : PySem.W.typeIn K (.ref C_NoThing) = some (.type "type"))
    (xd_LoomError : PySem.W.hasDictIn K C_LoomError = true)
    (s_LoomError : PySem.W.subIn K (.ref C_LoomError) (.type "BaseException") = some true)
    (t_LoomError : PySem.W.typeIn K (.ref C_LoomError) = some (.type "type"))
    (xd_BadTree : PySem.W.hasDictIn K C_BadTree = true)
    (s_BadTree : PySem.W.subIn K (.ref C_BadTree) (.type "BaseException") = some true)
    (t_BadTree : PySem.W.typeIn K (.ref C_BadTree) = some (.type "type"))
    (xd_BadText : PySem.W.hasDictIn K C_BadText = true)
    (s_BadText : PySem.W.subIn K (.ref C_BadText) (.type "BaseException") = some true)
    (t_BadText : PySem.W.typeIn K (.ref C_BadText) = some (.type "type"))
    (xd_BadName : PySem.W.hasDictIn K C_BadName = true)
    (s_BadName : PySem.W.subIn K (.ref C_BadName) (.type "BaseException") = some true)
    (t_BadName : PySem.W.typeIn K (.ref C_BadName) = some (.type "type"))
    (xd_BadCount : PySem.W.hasDictIn K C_BadCount = true)
    (s_BadCount : PySem.W.subIn K (.ref C_BadCount) (.type "BaseException") = some true)
    (t_BadCount : PySem.W.typeIn K (.ref C_BadCount) = some (.type "type"))
    (xd_BadCode : PySem.W.hasDictIn K C_BadCode = true)
    (s_BadCode : PySem.W.subIn K (.ref C_BadCode) (.type "BaseException") = some true)
    (t_BadCode : PySem.W.typeIn K (.ref C_BadCode) = some (.type "type"))
    (xd_NoThing : PySem.W.hasDictIn K C_NoThing = true)
    (i_NoThing_LoomError : PySem.W.subIn K (.ref C_NoThing) (.ref C_LoomError) = some true)
    (i_NoThing_BadTree : PySem.W.subIn K (.ref C_NoThing) (.ref C_BadTree) = some false)
    (i_NoThing_BadText : PySem.W.subIn K (.ref C_NoThing) (.ref C_BadText) = some false)
    (i_NoThing_BadName : PySem.W.subIn K (.ref C_NoThing) (.ref C_BadName) = some false)
    (i_NoThing_BadCount : PySem.W.subIn K (.ref C_NoThing) (.ref C_BadCount) = some false)
    (i_NoThing_BadCode : PySem.W.subIn K (.ref C_NoThing) (.ref C_BadCode) = some false)
    (i_NoThing_NoThing : PySem.W.subIn K (.ref C_NoThing) (.ref C_NoThing) = some true)
    (i_NoThing_ValueError : PySem.W.subIn K (.ref C_NoThing) (.type "ValueError") = some true)
    (xg_NoThing : PySem.W.findIn K (.ref C_NoThing) "__getattribute__" = some (some (.builtin "BaseException.__getattribute__")))
    (xk_NoThing : PySem.W.findIn K (.ref C_NoThing) "__getattr__" = some none)
    (xa_NoThing : PySem.W.findIn K (.ref C_NoThing) "__class__" = some (some (.builtin "object.__class__")))
    (xm_NoThing : PySem.W.mroIn K C_NoThing (.type "object") = some true)
    (xn : PySem.W.specialIn K (.builtin "object.__class__") "__get__" = some (some (.builtin "getset_descriptor.__get__")))
    (xt : PySem.W.takesIn K (.builtin "object.__class__") = some true)
    : ∃ fd : FuncData, (∀ (s : Shared) (v : Value), BindsTo s fd ⟨[v], []⟩ [("_law_script", v)]) ∧ ∀ base : Heap, K.In base → base.Ns mainGlobals mg → FnOk l.prog w K mg base (L2.CX l.prog w) 62 fa fd ["_law_script"] (spA K F_law 1) := by
  have e := hfa.symm.trans (PySem.W.mg_of X G a26)
  cases e
  have T : Txt K mg (tabA [C_LoomError, C_BadTree, C_BadText, C_BadName, C_BadCount, C_BadCode, C_NoThing, 0, C_Box, C_Maker, C_Looper, C_Waiting, C_Heap]) := ⟨⟨PySem.W.mg_of X G n_NoThing, q_NoThing, k_NoThing, s_NoThing, t_NoThing⟩, PySem.W.mg_of X G n_LoomError, PySem.W.mg_of X G n_BadTree, PySem.W.mg_of X G n_BadText, PySem.W.mg_of X G n_BadName, PySem.W.mg_of X G n_BadCount, PySem.W.mg_of X G n_BadCode, PySem.W.mg_of X G n_NoThing, (fun k b h => by unfold hit_LoomError at h; split at h <;> first | (cases h; first | exact PySem.W.exm_ref s_LoomError xd_LoomError t_LoomError i_NoThing_LoomError) | cases h), (fun c n b h => by unfold kis at h; split at h <;> first | (cases h; first | exact ⟨⟨xg_NoThing, xk_NoThing, s_NoThing, xd_NoThing, xa_NoThing, xn, xt, xm_NoThing⟩, kit_own i_NoThing_BadTree xd_BadTree t_BadTree i_NoThing_NoThing⟩ | exact ⟨⟨xg_NoThing, xk_NoThing, s_NoThing, xd_NoThing, xa_NoThing, xn, xt, xm_NoThing⟩, kit_own i_NoThing_BadText xd_BadText t_BadText i_NoThing_NoThing⟩ | exact ⟨⟨xg_NoThing, xk_NoThing, s_NoThing, xd_NoThing, xa_NoThing, xn, xt, xm_NoThing⟩, kit_own i_NoThing_BadName xd_BadName t_BadName i_NoThing_NoThing⟩ | exact ⟨⟨xg_NoThing, xk_NoThing, s_NoThing, xd_NoThing, xa_NoThing, xn, xt, xm_NoThing⟩, kit_own i_NoThing_BadCount xd_BadCount t_BadCount i_NoThing_NoThing⟩ | exact ⟨⟨xg_NoThing, xk_NoThing, s_NoThing, xd_NoThing, xa_NoThing, xn, xt, xm_NoThing⟩, kit_own i_NoThing_BadCode xd_BadCode t_BadCode i_NoThing_NoThing⟩ | exact ⟨⟨xg_NoThing, xk_NoThing, s_NoThing, xd_NoThing, xa_NoThing, xn, xt, xm_NoThing⟩, kit_own i_NoThing_NoThing xd_NoThing t_NoThing i_NoThing_NoThing⟩ | exact ⟨⟨xg_NoThing, xk_NoThing, s_NoThing, xd_NoThing, xa_NoThing, xn, xt, xm_NoThing⟩, kit_bt i_NoThing_ValueError (by decide +kernel)⟩) | cases h), ⟨pg_Heap, hd_Heap, po_Heap, sa_Heap⟩, ⟨pg_Box, hd_Box, po_Box, sa_Box⟩, ⟨pg_Waiting, hd_Waiting, po_Waiting, sa_Waiting⟩, ⟨pg_Looper, hd_Looper, po_Looper, sa_Looper⟩, ⟨pg_Maker, hd_Maker, po_Maker, sa_Maker⟩, na_Heap_there, na_Heap_count, na_Box_value, na_Waiting_own, na_Looper_own, na_Maker_own, na_Waiting_taken, na_Looper_taken, na_Maker_taken, na_Waiting_at, na_Waiting_slots, na_Waiting_boxes, PySem.W.mg_none_of X G b_ValueError, PySem.W.mg_none_of X G b_all, PySem.W.mg_none_of X G b_bool, PySem.W.mg_none_of X G b_int, PySem.W.mg_none_of X G b_isinstance, PySem.W.mg_none_of X G b_len, PySem.W.mg_none_of X G b_list, PySem.W.mg_none_of X G b_range, PySem.W.mg_none_of X G b_sorted, PySem.W.mg_none_of X G b_str, PySem.W.mg_none_of X G b_tuple, PySem.W.mg_none_of X G b_zip⟩
  have F1 := fun_mk (st := s_HeapXX_initXX) l1 c1 k1
  have B1 := F1.binds (ps := ["self"]) fun _ _ _ _ _ _ us hl => match us, hl with | [_], _ => rfl
  have F2 := fun_mk (st := s_Heap_need) l2 c2 k2
  have B2 := F2.binds (ps := ["self", "k"]) fun _ _ _ _ _ _ us hl => match us, hl with | [_, _], _ => rfl
  have F3 := fun_mk (st := s_BoxXX_initXX) l3 c3 k3
  have B3 := F3.binds (ps := ["self", "value"]) fun _ _ _ _ _ _ us hl => match us, hl with | [_, _], _ => rfl
  have F4 := fun_mk (st := s_MakerXX_initXX) l4 c4 k4
  have B4 := F4.binds (ps := ["self", "own", "taken"]) fun _ _ _ _ _ _ us hl => match us, hl with | [_, _, _], _ => rfl
  have F5 := fun_mk (st := s_WaitingXX_initXX) l5 c5 k5
  have B5 := F5.binds (ps := ["self", "own", "at", "slots", "boxes", "taken"]) fun _ _ _ _ _ _ us hl => match us, hl with | [_, _, _, _, _, _], _ => rfl
  have F6 := fun_mk (st := s_thing_of) l6 c6 k6
  have B6 := F6.binds (ps := ["told"]) fun _ _ _ _ _ _ us hl => match us, hl with | [_], _ => rfl
  have F7 := fun_mk (st := s_Heap_change) l7 c7 k7
  have B7 := F7.binds (ps := ["self", "k", "thing"]) fun _ _ _ _ _ _ us hl => match us, hl with | [_, _, _], _ => rfl
  have F8 := fun_mk (st := s_Heap_put) l8 c8 k8
  have B8 := F8.binds (ps := ["self", "thing"]) fun _ _ _ _ _ _ us hl => match us, hl with | [_, _], _ => rfl
  have F9 := fun_mk (st := s__law_draw) l9 c9 k9
  have B9 := F9.binds (ps := ["_law_script", "_law_k"]) fun _ _ _ _ _ _ us hl => match us, hl with | [_, _], _ => rfl
  have F10 := fun_mk (st := s_Heap_numbers) l10 c10 k10
  have B10 := F10.binds (ps := ["self"]) fun _ _ _ _ _ _ us hl => match us, hl with | [_], _ => rfl
  have F11 := fun_mk (st := s_Box_shape) l11 c11 k11
  have B11 := F11.binds (ps := ["self"]) fun _ _ _ _ _ _ us hl => match us, hl with | [_], _ => rfl
  have F12 := fun_mk (st := s_Looper_kind_word) l12 c12 k12
  have B12 := F12.binds (ps := ["self"]) fun _ _ _ _ _ _ us hl => match us, hl with | [_], _ => rfl
  have F13 := fun_mk (st := s_Maker_kind_word) l13 c13 k13
  have B13 := F13.binds (ps := ["self"]) fun _ _ _ _ _ _ us hl => match us, hl with | [_], _ => rfl
  have F14 := fun_mk (st := s_Waiting_kind_word) l14 c14 k14
  have B14 := F14.binds (ps := ["self"]) fun _ _ _ _ _ _ us hl => match us, hl with | [_], _ => rfl
  have F15 := fun_mk (st := s_Maker_shape) l15 c15 k15
  have B15 := F15.binds (ps := ["self"]) fun _ _ _ _ _ _ us hl => match us, hl with | [_], _ => rfl
  have F16 := fun_mk (st := s_Waiting_shape) l16 c16 k16
  have B16 := F16.binds (ps := ["self"]) fun _ _ _ _ _ _ us hl => match us, hl with | [_], _ => rfl
  have F17 := fun_mk (st := s_Heap_thing) l17 c17 k17
  have B17 := F17.binds (ps := ["self", "k"]) fun _ _ _ _ _ _ us hl => match us, hl with | [_, _], _ => rfl
  have F18 := fun_mk (st := s__law_alone) l18 c18 k18
  have B18 := F18.binds (ps := ["_law_e"]) fun _ _ _ _ _ _ us hl => match us, hl with | [_], _ => rfl
  have F19 := fun_mk (st := s__law_refused) l19 c19 k19
  have B19 := F19.binds (ps := ["_law_heap", "_law_k", "_law_change"]) fun _ _ _ _ _ _ us hl => match us, hl with | [_, _, _], _ => rfl
  have F20 := fun_mk (st := s__law_same) l20 c20 k20
  have B20 := F20.binds (ps := ["_law_found", "_law_due"]) fun _ _ _ _ _ _ us hl => match us, hl with | [_, _], _ => rfl
  have F21 := fun_mk (st := s__law_right) l21 c21 k21
  have B21 := F21.binds (ps := ["_law_heap", "_law_there", "_law_held", "_law_cell"]) fun _ _ _ _ _ _ us hl => match us, hl with | [_, _, _, _], _ => rfl
  have F22 := fun_mk (st := s__law_spread) l22 c22 k22
  have B22 := F22.binds (ps := ["_law_cell", "_law_k"]) fun _ _ _ _ _ _ us hl => match us, hl with | [_, _], _ => rfl
  have F23 := fun_mk (st := s__law_boxes) l23 c23 k23
  have B23 := F23.binds (ps := ["_law_cell", "_law_many"]) fun _ _ _ _ _ _ us hl => match us, hl with | [_, _], _ => rfl
  have F24 := fun_mk (st := s__law_value) l24 c24 k24
  have B24 := F24.binds (ps := ["_law_cell", "_law_many"]) fun _ _ _ _ _ _ us hl => match us, hl with | [_, _], _ => rfl
  have F25 := fun_mk (st := s__law_thing) l25 c25 k25
  have B25 := F25.binds (ps := ["_law_cell", "_law_many"]) fun _ _ _ _ _ _ us hl => match us, hl with | [_, _], _ => rfl
  have F26 := fun_mk (st := s_law) l26 c26 k26
  refine ⟨PySem.W.fnOf "law" "law" (defArgs s_law) (defBody s_law) (defScope s_law) .none kV26 dc26 pm26 an26 cd26 ct26, fun s v => .of_eq rfl, fun base _ _ => ?_⟩
  have O1 := ok_HeapXX_initXX (P := l.prog) (w := w) (base := base) F1 T 
  have K_Heap : MkM l.prog w K mg base (tabA [C_LoomError, C_BadTree, C_BadText, C_BadName, C_BadCount, C_BadCode, C_NoThing, 0, C_Box, C_Maker, C_Looper, C_Waiting, C_Heap]) 1 "Heap" 12 1 F_HeapXX_initXX := ⟨⟨_, _, _, PySem.W.mg_of X G n_Heap, ⟨mk_Heap, in_Heap, fn1, kc_Heap⟩, B1, O1⟩⟩
  have O2 := ok_Heap_need (P := l.prog) (w := w) (base := base) F2 T 
  have M_Heap_need : MtM l.prog w K mg base (tabA [C_LoomError, C_BadTree, C_BadText, C_BadName, C_BadCount, C_BadCode, C_NoThing, 0, C_Box, C_Maker, C_Looper, C_Waiting, C_Heap]) 1 "need" 12 2 F_Heap_need := ⟨⟨_, _, _, ⟨pg_Heap, hd_Heap, po_Heap, sa_Heap⟩, ⟨mt_Heap_need, fn2, k2⟩, B2, O2⟩⟩
  have O3 := ok_BoxXX_initXX (P := l.prog) (w := w) (base := base) F3 T 
  have K_Box : MkM l.prog w K mg base (tabA [C_LoomError, C_BadTree, C_BadText, C_BadName, C_BadCount, C_BadCode, C_NoThing, 0, C_Box, C_Maker, C_Looper, C_Waiting, C_Heap]) 1 "Box" 8 2 F_BoxXX_initXX := ⟨⟨_, _, _, PySem.W.mg_of X G n_Box, ⟨mk_Box, in_Box, fn3, kc_Box⟩, B3, O3⟩⟩
  have O4 := ok_MakerXX_initXX (P := l.prog) (w := w) (base := base) F4 T 
  have K_Maker : MkM l.prog w K mg base (tabA [C_LoomError, C_BadTree, C_BadText, C_BadName, C_BadCount, C_BadCode, C_NoThing, 0, C_Box, C_Maker, C_Looper, C_Waiting, C_Heap]) 1 "Maker" 9 3 F_MakerXX_initXX := ⟨⟨_, _, _, PySem.W.mg_of X G n_Maker, ⟨mk_Maker, in_Maker, fn4, kc_Maker⟩, B4, O4⟩⟩
  have K_Looper : MkM l.prog w K mg base (tabA [C_LoomError, C_BadTree, C_BadText, C_BadName, C_BadCount, C_BadCode, C_NoThing, 0, C_Box, C_Maker, C_Looper, C_Waiting, C_Heap]) 1 "Looper" 10 3 F_MakerXX_initXX := ⟨⟨_, _, _, PySem.W.mg_of X G n_Looper, ⟨mk_Looper, in_Looper, fn4, kc_Looper⟩, B4, O4⟩⟩
  have O5 := ok_WaitingXX_initXX (P := l.prog) (w := w) (base := base) F5 T 
  have K_Waiting : MkM l.prog w K mg base (tabA [C_LoomError, C_BadTree, C_BadText, C_BadName, C_BadCount, C_BadCode, C_NoThing, 0, C_Box, C_Maker, C_Looper, C_Waiting, C_Heap]) 1 "Waiting" 11 6 F_WaitingXX_initXX := ⟨⟨_, _, _, PySem.W.mg_of X G n_Waiting, ⟨mk_Waiting, in_Waiting, fn5, kc_Waiting⟩, B5, O5⟩⟩
  have C6 : FnM l.prog w K mg base (tabA [C_LoomError, C_BadTree, C_BadText, C_BadName, C_BadCount, C_BadCode, C_NoThing, 0, C_Box, C_Maker, C_Looper, C_Waiting, C_Heap]) 3 "thing_of" 1 F_thing_of := .mk' F6 (PySem.W.mg_of X G a6) B6 (ok_thing_of F6 T K_Box K_Looper K_Maker K_Waiting)
  have O7 := ok_Heap_change (P := l.prog) (w := w) (base := base) F7 T C6 M_Heap_need
  have M_Heap_change : MtM l.prog w K mg base (tabA [C_LoomError, C_BadTree, C_BadText, C_BadName, C_BadCount, C_BadCode, C_NoThing, 0, C_Box, C_Maker, C_Looper, C_Waiting, C_Heap]) 4 "change" 12 3 F_Heap_change := ⟨⟨_, _, _, ⟨pg_Heap, hd_Heap, po_Heap, sa_Heap⟩, ⟨mt_Heap_change, fn7, k7⟩, B7, O7⟩⟩
  have O8 := ok_Heap_put (P := l.prog) (w := w) (base := base) F8 T C6
  have M_Heap_put : MtM l.prog w K mg base (tabA [C_LoomError, C_BadTree, C_BadText, C_BadName, C_BadCount, C_BadCode, C_NoThing, 0, C_Box, C_Maker, C_Looper, C_Waiting, C_Heap]) 4 "put" 12 2 F_Heap_put := ⟨⟨_, _, _, ⟨pg_Heap, hd_Heap, po_Heap, sa_Heap⟩, ⟨mt_Heap_put, fn8, k8⟩, B8, O8⟩⟩
  have C9 : FnM l.prog w K mg base (tabA [C_LoomError, C_BadTree, C_BadText, C_BadName, C_BadCount, C_BadCode, C_NoThing, 0, C_Box, C_Maker, C_Looper, C_Waiting, C_Heap]) 1 "_law_draw" 2 F__law_draw := .mk' F9 (PySem.W.mg_of X G a9) B9 (ok__law_draw F9 T )
  have O10 := ok_Heap_numbers (P := l.prog) (w := w) (base := base) F10 T 
  have M_Heap_numbers : MtM l.prog w K mg base (tabA [C_LoomError, C_BadTree, C_BadText, C_BadName, C_BadCount, C_BadCode, C_NoThing, 0, C_Box, C_Maker, C_Looper, C_Waiting, C_Heap]) 1 "numbers" 12 1 F_Heap_numbers := ⟨⟨_, _, _, ⟨pg_Heap, hd_Heap, po_Heap, sa_Heap⟩, ⟨mt_Heap_numbers, fn10, k10⟩, B10, O10⟩⟩
  have O11 := ok_Box_shape (P := l.prog) (w := w) (base := base) F11 T 
  have M_Box_shape : MtM l.prog w K mg base (tabA [C_LoomError, C_BadTree, C_BadText, C_BadName, C_BadCount, C_BadCode, C_NoThing, 0, C_Box, C_Maker, C_Looper, C_Waiting, C_Heap]) 1 "shape" 8 1 F_Box_shape := ⟨⟨_, _, _, ⟨pg_Box, hd_Box, po_Box, sa_Box⟩, ⟨mt_Box_shape, fn11, k11⟩, B11, O11⟩⟩
  have O12 := ok_Looper_kind_word (P := l.prog) (w := w) (base := base) F12 T 
  have M_Looper_kind_word : MtM l.prog w K mg base (tabA [C_LoomError, C_BadTree, C_BadText, C_BadName, C_BadCount, C_BadCode, C_NoThing, 0, C_Box, C_Maker, C_Looper, C_Waiting, C_Heap]) 1 "kind_word" 10 1 F_Looper_kind_word := ⟨⟨_, _, _, ⟨pg_Looper, hd_Looper, po_Looper, sa_Looper⟩, ⟨mt_Looper_kind_word, fn12, k12⟩, B12, O12⟩⟩
  have O13 := ok_Maker_kind_word (P := l.prog) (w := w) (base := base) F13 T 
  have M_Maker_kind_word : MtM l.prog w K mg base (tabA [C_LoomError, C_BadTree, C_BadText, C_BadName, C_BadCount, C_BadCode, C_NoThing, 0, C_Box, C_Maker, C_Looper, C_Waiting, C_Heap]) 1 "kind_word" 9 1 F_Maker_kind_word := ⟨⟨_, _, _, ⟨pg_Maker, hd_Maker, po_Maker, sa_Maker⟩, ⟨mt_Maker_kind_word, fn13, k13⟩, B13, O13⟩⟩
  have O14 := ok_Waiting_kind_word (P := l.prog) (w := w) (base := base) F14 T 
  have M_Waiting_kind_word : MtM l.prog w K mg base (tabA [C_LoomError, C_BadTree, C_BadText, C_BadName, C_BadCount, C_BadCode, C_NoThing, 0, C_Box, C_Maker, C_Looper, C_Waiting, C_Heap]) 1 "kind_word" 11 1 F_Waiting_kind_word := ⟨⟨_, _, _, ⟨pg_Waiting, hd_Waiting, po_Waiting, sa_Waiting⟩, ⟨mt_Waiting_kind_word, fn14, k14⟩, B14, O14⟩⟩
  have O15 := ok_Maker_shape (P := l.prog) (w := w) (base := base) F15 T M_Looper_kind_word M_Maker_kind_word M_Waiting_kind_word
  have M_Maker_shape : MtM l.prog w K mg base (tabA [C_LoomError, C_BadTree, C_BadText, C_BadName, C_BadCount, C_BadCode, C_NoThing, 0, C_Box, C_Maker, C_Looper, C_Waiting, C_Heap]) 2 "shape" 9 1 F_Maker_shape := ⟨⟨_, _, _, ⟨pg_Maker, hd_Maker, po_Maker, sa_Maker⟩, ⟨mt_Maker_shape, fn15, k15⟩, B15, O15⟩⟩
  have M_Looper_shape : MtM l.prog w K mg base (tabA [C_LoomError, C_BadTree, C_BadText, C_BadName, C_BadCount, C_BadCode, C_NoThing, 0, C_Box, C_Maker, C_Looper, C_Waiting, C_Heap]) 2 "shape" 10 1 F_Maker_shape := ⟨⟨_, _, _, ⟨pg_Looper, hd_Looper, po_Looper, sa_Looper⟩, ⟨mt_Looper_shape, fn15, k15⟩, B15, O15⟩⟩
  have O16 := ok_Waiting_shape (P := l.prog) (w := w) (base := base) F16 T M_Looper_kind_word M_Maker_kind_word M_Waiting_kind_word
  have M_Waiting_shape : MtM l.prog w K mg base (tabA [C_LoomError, C_BadTree, C_BadText, C_BadName, C_BadCount, C_BadCode, C_NoThing, 0, C_Box, C_Maker, C_Looper, C_Waiting, C_Heap]) 2 "shape" 11 1 F_Waiting_shape := ⟨⟨_, _, _, ⟨pg_Waiting, hd_Waiting, po_Waiting, sa_Waiting⟩, ⟨mt_Waiting_shape, fn16, k16⟩, B16, O16⟩⟩
  have O17 := ok_Heap_thing (P := l.prog) (w := w) (base := base) F17 T M_Box_shape M_Heap_need M_Looper_shape M_Maker_shape M_Waiting_shape
  have M_Heap_thing : MtM l.prog w K mg base (tabA [C_LoomError, C_BadTree, C_BadText, C_BadName, C_BadCount, C_BadCode, C_NoThing, 0, C_Box, C_Maker, C_Looper, C_Waiting, C_Heap]) 3 "thing" 12 2 F_Heap_thing := ⟨⟨_, _, _, ⟨pg_Heap, hd_Heap, po_Heap, sa_Heap⟩, ⟨mt_Heap_thing, fn17, k17⟩, B17, O17⟩⟩
  have C18 : HotM l.prog w K mg base (tabA [C_LoomError, C_BadTree, C_BadText, C_BadName, C_BadCount, C_BadCode, C_NoThing, 0, C_Box, C_Maker, C_Looper, C_Waiting, C_Heap]) 1 "_law_alone" 1 F__law_alone := .mk' F18 (PySem.W.mg_of X G a18) B18 (ok__law_alone F18 T )
  have C19 : FnM l.prog w K mg base (tabA [C_LoomError, C_BadTree, C_BadText, C_BadName, C_BadCount, C_BadCode, C_NoThing, 0, C_Box, C_Maker, C_Looper, C_Waiting, C_Heap]) 5 "_law_refused" 3 F__law_refused := .mk' F19 (PySem.W.mg_of X G a19) B19 (ok__law_refused F19 T C18 M_Heap_change M_Heap_thing)
  have R__law_same := rec__law_same (P := l.prog) (w := w) (base := base) F20 (PySem.W.mg_of X G a20) B20 T 
  have C20 : FnM l.prog w K mg base (tabA [C_LoomError, C_BadTree, C_BadText, C_BadName, C_BadCount, C_BadCode, C_NoThing, 0, C_Box, C_Maker, C_Looper, C_Waiting, C_Heap]) 60 "_law_same" 2 F__law_same := (R__law_same 60)
  have C21 : FnM l.prog w K mg base (tabA [C_LoomError, C_BadTree, C_BadText, C_BadName, C_BadCount, C_BadCode, C_NoThing, 0, C_Box, C_Maker, C_Looper, C_Waiting, C_Heap]) 61 "_law_right" 4 F__law_right := .mk' F21 (PySem.W.mg_of X G a21) B21 (ok__law_right F21 T C19 C20 M_Heap_numbers M_Heap_thing)
  have C22 : FnM l.prog w K mg base (tabA [C_LoomError, C_BadTree, C_BadText, C_BadName, C_BadCount, C_BadCode, C_NoThing, 0, C_Box, C_Maker, C_Looper, C_Waiting, C_Heap]) 1 "_law_spread" 2 F__law_spread := .mk' F22 (PySem.W.mg_of X G a22) B22 (ok__law_spread F22 T )
  have C23 : FnM l.prog w K mg base (tabA [C_LoomError, C_BadTree, C_BadText, C_BadName, C_BadCount, C_BadCode, C_NoThing, 0, C_Box, C_Maker, C_Looper, C_Waiting, C_Heap]) 1 "_law_boxes" 2 F__law_boxes := .mk' F23 (PySem.W.mg_of X G a23) B23 (ok__law_boxes F23 T )
  have C24 : FnM l.prog w K mg base (tabA [C_LoomError, C_BadTree, C_BadText, C_BadName, C_BadCount, C_BadCode, C_NoThing, 0, C_Box, C_Maker, C_Looper, C_Waiting, C_Heap]) 1 "_law_value" 2 F__law_value := .mk' F24 (PySem.W.mg_of X G a24) B24 (ok__law_value F24 T )
  have C25 : FnM l.prog w K mg base (tabA [C_LoomError, C_BadTree, C_BadText, C_BadName, C_BadCount, C_BadCode, C_NoThing, 0, C_Box, C_Maker, C_Looper, C_Waiting, C_Heap]) 2 "_law_thing" 2 F__law_thing := .mk' F25 (PySem.W.mg_of X G a25) B25 (ok__law_thing F25 T C23 C22 C24)
  exact spA_of (ok_law F26 T C9 C21 C20 C22 C25 M_Heap_change M_Heap_put K_Heap)
end K23
open PySem PySem.W PyProof.Rows
set_option maxHeartbeats 0 in
theorem PySem.Challenge.cw_waitloom_k23_things_kept_holds : PySem.Challenge.rw_waitloom_k23_things_kept.Holds := by
  w_on; o_law; k_head; (case hw => w_witness2)
  k_fill
  refine L2.walk_of (l := PySem.Challenge.rw_waitloom_k23_things_kept) (n := 63) (k := 62) (x := "_law_script") (CX := fun w => L2.CX PySem.Challenge.rw_waitloom_k23_things_kept.prog w) (sp := fun w => ML.spA _ K23.F_law 1) rfl (by decide) rfl ⟨rfl, by decide, by decide⟩ (fun w h Y => PySem.W.kIn_of Y) ?F (fun w H a ns hn hO hS => ML.law_spA K23.law_true hn hO hS) (fun _ _ _ _ _ h => ML.cx_end h)
  case F =>
    intro w mg fa h KX G hmg
    refine' K23.all_mk KX G hmg ?n_Box ?pg_Box ?hd_Box ?po_Box ?sa_Box ?mk_Box ?kc_Box ?n_Maker ?pg_Maker ?hd_Maker ?po_Maker ?sa_Maker ?mk_Maker ?kc_Maker ?n_Looper ?pg_Looper ?hd_Looper ?po_Looper ?sa_Looper ?mk_Looper ?kc_Looper ?n_Waiting ?pg_Waiting ?hd_Waiting ?po_Waiting ?sa_Waiting ?mk_Waiting ?kc_Waiting ?n_Heap ?pg_Heap ?hd_Heap ?po_Heap ?sa_Heap ?mk_Heap ?kc_Heap ?na_Heap_there ?na_Heap_count ?na_Box_value ?na_Waiting_own ?na_Looper_own ?na_Maker_own ?na_Waiting_taken ?na_Looper_taken ?na_Maker_taken ?na_Waiting_at ?na_Waiting_slots ?na_Waiting_boxes ?in_Heap ?fn1 ?l1 ?c1 ?k1 ?mt_Heap_need ?fn2 ?l2 ?c2 ?k2 ?in_Box ?fn3 ?l3 ?c3 ?k3 ?in_Maker ?in_Looper ?fn4 ?l4 ?c4 ?k4 ?in_Waiting ?fn5 ?l5 ?c5 ?k5 ?a6 ?l6 ?c6 ?k6 ?mt_Heap_change ?fn7 ?l7 ?c7 ?k7 ?mt_Heap_put ?fn8 ?l8 ?c8 ?k8 ?a9 ?l9 ?c9 ?k9 ?mt_Heap_numbers ?fn10 ?l10 ?c10 ?k10 ?mt_Box_shape ?fn11 ?l11 ?c11 ?k11 ?mt_Looper_kind_word ?fn12 ?l12 ?c12 ?k12 ?mt_Maker_kind_word ?fn13 ?l13 ?c13 ?k13 ?mt_Waiting_kind_word ?fn14 ?l14 ?c14 ?k14 ?mt_Maker_shape ?mt_Looper_shape ?fn15 ?l15 ?c15 ?k15 ?mt_Waiting_shape ?fn16 ?l16 ?c16 ?k16 ?mt_Heap_thing ?fn17 ?l17 ?c17 ?k17 ?a18 ?l18 ?c18 ?k18 ?a19 ?l19 ?c19 ?k19 ?a20 ?l20 ?c20 ?k20 ?a21 ?l21 ?c21 ?k21 ?a22 ?l22 ?c22 ?k22 ?a23 ?l23 ?c23 ?k23 ?a24 ?l24 ?c24 ?k24 ?a25 ?l25 ?c25 ?k25 ?a26 ?l26 ?c26 ?k26 ?b_ValueError ?b_all ?b_bool ?b_int ?b_isinstance ?b_len ?b_list ?b_range ?b_sorted ?b_str ?b_tuple ?b_zip ?n_NoThing ?n_LoomError ?n_BadTree ?n_BadText ?n_BadName ?n_BadCount ?n_BadCode ?q_NoThing ?k_NoThing ?s_NoThing ?t_NoThing ?xd_LoomError ?s_LoomError ?t_LoomError ?xd_BadTree ?s_BadTree ?t_BadTree ?xd_BadText ?s_BadText ?t_BadText ?xd_BadName ?s_BadName ?t_BadName ?xd_BadCount ?s_BadCount ?t_BadCount ?xd_BadCode ?s_BadCode ?t_BadCode ?xd_NoThing ?i_NoThing_LoomError ?i_NoThing_BadTree ?i_NoThing_BadText ?i_NoThing_BadName ?i_NoThing_BadCount ?i_NoThing_BadCode ?i_NoThing_NoThing ?i_NoThing_ValueError ?xg_NoThing ?xk_NoThing ?xa_NoThing ?xm_NoThing ?xn ?xt
    (case n_Box => k_is)
    (case pg_Box => k_is)
    (case hd_Box => k_is)
    (case po_Box => k_is)
    (case sa_Box => k_is)
    (case mk_Box => k_is)
    (case kc_Box => k_is)
    (case n_Maker => k_is)
    (case pg_Maker => k_is)
    (case hd_Maker => k_is)
    (case po_Maker => k_is)
    (case sa_Maker => k_is)
    (case mk_Maker => k_is)
    (case kc_Maker => k_is)
    (case n_Looper => k_is)
    (case pg_Looper => k_is)
    (case hd_Looper => k_is)
    (case po_Looper => k_is)
    (case sa_Looper => k_is)
    (case mk_Looper => k_is)
    (case kc_Looper => k_is)
    (case n_Waiting => k_is)
    (case pg_Waiting => k_is)
    (case hd_Waiting => k_is)
    (case po_Waiting => k_is)
    (case sa_Waiting => k_is)
    (case mk_Waiting => k_is)
    (case kc_Waiting => k_is)
    (case n_Heap => k_is)
    (case pg_Heap => k_is)
    (case hd_Heap => k_is)
    (case po_Heap => k_is)
    (case sa_Heap => k_is)
    (case mk_Heap => k_is)
    (case kc_Heap => k_is)
    (case na_Heap_there => k_is)
    (case na_Heap_count => k_is)
    (case na_Box_value => k_is)
    (case na_Waiting_own => k_is)
    (case na_Looper_own => k_is)
    (case na_Maker_own => k_is)
    (case na_Waiting_taken => k_is)
    (case na_Looper_taken => k_is)
    (case na_Maker_taken => k_is)
    (case na_Waiting_at => k_is)
    (case na_Waiting_slots => k_is)
    (case na_Waiting_boxes => k_is)
    (case in_Heap => k_is)
    (case fn1 => k_is)
    (case l1 => k_is)
    (case c1 => k_is)
    (case k1 => k_is)
    (case mt_Heap_need => k_is)
    (case fn2 => k_is)
    (case l2 => k_is)
    (case c2 => k_is)
    (case k2 => k_is)
    (case in_Box => k_is)
    (case fn3 => k_is)
    (case l3 => k_is)
    (case c3 => k_is)
    (case k3 => k_is)
    (case in_Maker => k_is)
    (case in_Looper => k_is)
    (case fn4 => k_is)
    (case l4 => k_is)
    (case c4 => k_is)
    (case k4 => k_is)
    (case in_Waiting => k_is)
    (case fn5 => k_is)
    (case l5 => k_is)
    (case c5 => k_is)
    (case k5 => k_is)
    (case a6 => k_is)
    (case l6 => k_is)
    (case c6 => k_is)
    (case k6 => k_is)
    (case mt_Heap_change => k_is)
    (case fn7 => k_is)
    (case l7 => k_is)
    (case c7 => k_is)
    (case k7 => k_is)
    (case mt_Heap_put => k_is)
    (case fn8 => k_is)
    (case l8 => k_is)
    (case c8 => k_is)
    (case k8 => k_is)
    (case a9 => k_is)
    (case l9 => k_is)
    (case c9 => k_is)
    (case k9 => k_is)
    (case mt_Heap_numbers => k_is)
    (case fn10 => k_is)
    (case l10 => k_is)
    (case c10 => k_is)
    (case k10 => k_is)
    (case mt_Box_shape => k_is)
    (case fn11 => k_is)
    (case l11 => k_is)
    (case c11 => k_is)
    (case k11 => k_is)
    (case mt_Looper_kind_word => k_is)
    (case fn12 => k_is)
    (case l12 => k_is)
    (case c12 => k_is)
    (case k12 => k_is)
    (case mt_Maker_kind_word => k_is)
    (case fn13 => k_is)
    (case l13 => k_is)
    (case c13 => k_is)
    (case k13 => k_is)
    (case mt_Waiting_kind_word => k_is)
    (case fn14 => k_is)
    (case l14 => k_is)
    (case c14 => k_is)
    (case k14 => k_is)
    (case mt_Maker_shape => k_is)
    (case mt_Looper_shape => k_is)
    (case fn15 => k_is)
    (case l15 => k_is)
    (case c15 => k_is)
    (case k15 => k_is)
    (case mt_Waiting_shape => k_is)
    (case fn16 => k_is)
    (case l16 => k_is)
    (case c16 => k_is)
    (case k16 => k_is)
    (case mt_Heap_thing => k_is)
    (case fn17 => k_is)
    (case l17 => k_is)
    (case c17 => k_is)
    (case k17 => k_is)
    (case a18 => k_is)
    (case l18 => k_is)
    (case c18 => k_is)
    (case k18 => k_is)
    (case a19 => k_is)
    (case l19 => k_is)
    (case c19 => k_is)
    (case k19 => k_is)
    (case a20 => k_is)
    (case l20 => k_is)
    (case c20 => k_is)
    (case k20 => k_is)
    (case a21 => k_is)
    (case l21 => k_is)
    (case c21 => k_is)
    (case k21 => k_is)
    (case a22 => k_is)
    (case l22 => k_is)
    (case c22 => k_is)
    (case k22 => k_is)
    (case a23 => k_is)
    (case l23 => k_is)
    (case c23 => k_is)
    (case k23 => k_is)
    (case a24 => k_is)
    (case l24 => k_is)
    (case c24 => k_is)
    (case k24 => k_is)
    (case a25 => k_is)
    (case l25 => k_is)
    (case c25 => k_is)
    (case k25 => k_is)
    (case a26 => k_is)
    (case l26 => k_is)
    (case c26 => k_is)
    (case k26 => k_is)
    (case b_ValueError => k_is)
    (case b_all => k_is)
    (case b_bool => k_is)
    (case b_int => k_is)
    (case b_isinstance => k_is)
    (case b_len => k_is)
    (case b_list => k_is)
    (case b_range => k_is)
    (case b_sorted => k_is)
    (case b_str => k_is)
    (case b_tuple => k_is)
    (case b_zip => k_is)
    (case n_NoThing => k_is)
    (case n_LoomError => k_is)
    (case n_BadTree => k_is)
    (case n_BadText => k_is)
    (case n_BadName => k_is)
    (case n_BadCount => k_is)
    (case n_BadCode => k_is)
    (case q_NoThing => k_exc)
    (case k_NoThing => k_is)
    (case s_NoThing => k_is)
    (case t_NoThing => k_is)
    (case xd_LoomError => k_is)
    (case s_LoomError => k_is)
    (case t_LoomError => k_is)
    (case xd_BadTree => k_is)
    (case s_BadTree => k_is)
    (case t_BadTree => k_is)
    (case xd_BadText => k_is)
    (case s_BadText => k_is)
    (case t_BadText => k_is)
    (case xd_BadName => k_is)
    (case s_BadName => k_is)
    (case t_BadName => k_is)
    (case xd_BadCount => k_is)
    (case s_BadCount => k_is)
    (case t_BadCount => k_is)
    (case xd_BadCode => k_is)
    (case s_BadCode => k_is)
    (case t_BadCode => k_is)
    (case xd_NoThing => k_is)
    (case i_NoThing_LoomError => k_is)
    (case i_NoThing_BadTree => k_is)
    (case i_NoThing_BadText => k_is)
    (case i_NoThing_BadName => k_is)
    (case i_NoThing_BadCount => k_is)
    (case i_NoThing_BadCode => k_is)
    (case i_NoThing_NoThing => k_is)
    (case i_NoThing_ValueError => k_is)
    (case xg_NoThing => k_is)
    (case xk_NoThing => k_is)
    (case xa_NoThing => k_is)
    (case xm_NoThing => k_is)
    (case xn => k_is)
    (case xt => k_is)
