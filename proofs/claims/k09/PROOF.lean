import PyProof.Rows.All
import Wide.All
import OpenK.AllK
import Wide.FinOn
import HandS.ForMost
import HandS.ForExc
import HandS.IsInst
import HandS.TupAny
import HandS.TupLe
import HandS.Small
import HandS.Text
import HandS.Conv
import HandS.SortInts
import HandS.More
import HandS.ExcIs
import HandS.Strs
import HandS.SetFor
import PyProof.ReprRoads
import HandS.SortKw
import KE.DataMinMax
import HandS.HotCalls
import HandS.Zip
import HandS.Style
import HandS.TryOnly
import KE.IntTextLaws
import PyProof.EqAt
import PyProof.StrLawsIn
import HandS.TupMul
import HandS.RevRange
import HandS.Dict
import PyProof.Rows.SortStr
import PyProof.Rows.StrMeet
import HandS.ExcInit
import HandS.ExcField
import KE.KExcIs
import HandS.FStrTup
import PyProof.FitsInt
import PySem.Challenge.RW_waitloom_k09_names_refused
set_option Elab.async false
set_option linter.all false
set_option maxRecDepth 100000
set_option autoImplicit false
/-! ML: a layer of plain functions over HandS. A def of the text is mirrored by a function over plain data D and a store of cells; the canonical reading (tE, tB, ..) says that the code does what the function does. -/
namespace ML
open PySem PySem.Spec L2

/-! ### plain data -/
inductive D where
  | non | bl (b : Bool) | int (i : Int) | str (x : Str) | tup (xs : List D) | lis (xs : List D) | ref (n : Nat) | exn (a : Addr) | exf (a d : Addr) (fs : List (Str × Key))
inductive Cell where
  | lst (xs : List D)
  | dct (kvs : List (Key × D))
  | dlk (kvs : List (Key × D))
  | ins (c : Nat) (fs : List (Str × D))
abbrev Store := List Cell
abbrev Loc := List (Option D)
structure Exn where
  c : Nat
  fs : List (Str × D)
inductive R (α : Type) where
  | ok (a : α) (S : Store)
  | ex (x : Exn) (S : Store)
  | bad
def R.bind {α β : Type} (r : R α) (f : α → Store → R β) : R β := match r with
  | .ok a S => f a S
  | .ex x S => .ex x S
  | .bad => .bad
@[simp] theorem R.bind_ok {α β : Type} (a : α) (S : Store) (f : α → Store → R β) : (R.ok a S).bind f = f a S := (rfl)
@[simp] theorem R.bind_ex {α β : Type} (x : Exn) (S : Store) (f : α → Store → R β) : (R.ex x S).bind f = .ex x S := (rfl)
@[simp] theorem R.bind_bad {α β : Type} (f : α → Store → R β) : (R.bad : R α).bind f = .bad := (rfl)
theorem R.bind_assoc {α β γ : Type} (r : R α) (f : α → Store → R β) (g : β → Store → R γ) : (r.bind f).bind g = r.bind fun a S => (f a S).bind g := by
  cases r <;> rfl

/-! ### how plain data lies in the abstract heap -/
/-- a list that is never written: the script -/
def FrL (K : PySem.W.Frag) (H : Hp) (a : Addr) (vs : List V) : Prop :=
  (∃ o, H a = some (.frz o (.lst vs))) ∨
    ∃ (o : Obj) (its : Array Value) (n : Nat), K.lookup a = some o ∧ o.cls = .type "list" ∧ o.dict = none ∧ o.data = .seq its n ∧ its.size ≤ sizeLine ∧ Vals vs its.toList
theorem FrL.sq {K : PySem.W.Frag} {H : Hp} {a : Addr} {vs : List V} (h : FrL K H a vs) : SqL K H a vs := by
  rcases h with ⟨o, h⟩ | h
  · exact .inl (.inr ⟨o, h⟩)
  · exact .inr h
mutual
def RepV (K : PySem.W.Frag) (ρ : List Addr) (H : Hp) : D → V → Prop
  | .non, v => v = .non
  | .bl b, v => v = .bl b
  | .int i, v => v = .int i
  | .str x, v => v = .str x
  | .tup xs, v => ∃ a vs, v = .ref a ∧ SqT K H a vs ∧ RepVs K ρ H xs vs
  | .lis xs, v => ∃ a vs, v = .ref a ∧ FrL K H a vs ∧ RepVs K ρ H xs vs
  | .ref n, v => ∃ a, ρ[n]? = some a ∧ v = .ref a
  | .exn a, v => v = .ref a
  | .exf a d fs, v => v = .ref a ∧ H d = some (.xd (fs.map fun p => (p.1, kV p.2)))
def RepVs (K : PySem.W.Frag) (ρ : List Addr) (H : Hp) : List D → List V → Prop
  | [], vs => vs = []
  | x :: xs, vs => ∃ v r, vs = v :: r ∧ RepV K ρ H x v ∧ RepVs K ρ H xs r
end
def RepP (K : PySem.W.Frag) (ρ : List Addr) (H : Hp) {κ : Type} : List (κ × D) → List (κ × V) → Prop
  | [], ps => ps = []
  | (k, x) :: r, ps => ∃ v q, ps = (k, v) :: q ∧ RepV K ρ H x v ∧ RepP K ρ H r q
def RepC (K : PySem.W.Frag) (cA : Nat → Addr) (ρ : List Addr) (H : Hp) (c : Cell) (a : Addr) : Prop := match c with
  | .lst xs => ∃ vs, H a = some (.lst vs) ∧ RepVs K ρ H xs vs
  | .dct kvs => ∃ ps, H a = some (.dK ps) ∧ RepP K ρ H kvs ps
  | .dlk kvs => ∃ o ps, H a = some (.frz o (.dK ps)) ∧ RepP K ρ H kvs ps
  | .ins c fs => ∃ dx ps, H a = some (.ins (cA c) dx ps) ∧ RepP K ρ H fs ps
structure Reps (K : PySem.W.Frag) (cA : Nat → Addr) (ρ : List Addr) (H : Hp) (S : Store) : Prop where
  len : ρ.length = S.length
  nd : ρ.Nodup
  at_ : ∀ (n : Nat) (c : Cell) (a : Addr), S[n]? = some c → ρ[n]? = some a → RepC K cA ρ H c a
def RepX (K : PySem.W.Frag) (cA : Nat → Addr) (ρ : List Addr) (H : Hp) (x : Exn) (c : Value) (d : Option Addr) : Prop :=
  c = .ref (cA x.c) ∧ ((x.fs = [] ∧ d = none) ∨ x.fs ≠ [] ∧ ∃ a ps, d = some a ∧ H a = some (.xd ps) ∧ RepP K ρ H x.fs ps)
structure RepL (K : PySem.W.Frag) (ρ : List Addr) (H : Hp) (l : Loc) (σ : St) : Prop where
  len : l.length = σ.length
  at_ : ∀ (i : Nat) (d : D), l[i]? = some (some d) → ∃ v, σ[i]? = some (some v) ∧ RepV K ρ H d v
/-- what may have happened -/
structure Ext (ρ : List Addr) (H : Hp) (ρ' : List Addr) (H' : Hp) : Prop where
  pre : ∃ r, ρ' = ρ ++ r ∧ ∀ a ∈ r, H a = none
  keep : ∀ a o, H a = some o → a ∉ ρ → H' a = some o
  tups : ∀ a xs, Rd H a (.tup xs) → Rd H' a (.tup xs)
  frzs : ∀ a o u, H a = some (.frz o u) → H' a = some (.frz o u)
  there : ∀ a, H a ≠ none → H' a ≠ none
  xds : ∀ a ps, H a = some (.xd ps) → H' a = some (.xd ps)
theorem Ext.refl (ρ : List Addr) (H : Hp) : Ext ρ H ρ H := ⟨⟨[], by simp, fun _ h => nomatch h⟩, fun _ _ h _ => h, fun _ _ h => h, fun _ _ _ h => h, fun _ h => h, fun _ _ h => h⟩
theorem Ext.trans {ρ ρ1 ρ2 : List Addr} {H H1 H2 : Hp} (a : Ext ρ H ρ1 H1) (b : Ext ρ1 H1 ρ2 H2) : Ext ρ H ρ2 H2 := by
  obtain ⟨r1, e1, n1⟩ := a.pre
  obtain ⟨r2, e2, n2⟩ := b.pre
  refine ⟨⟨r1 ++ r2, by rw [e2, e1, List.append_assoc], fun x hx => ?_⟩, fun x o h nx => ?_, fun x xs h => b.tups x xs (a.tups x xs h), fun x o xs h => b.frzs x o xs (a.frzs x o xs h), fun x h => b.there x (a.there x h), fun x ps h => b.xds x ps (a.xds x ps h)⟩
  · rcases List.mem_append.mp hx with h | h
    · exact n1 x h
    · have q := n2 x h
      cases e : H x with
      | none => rfl
      | some o => exact absurd q (a.there x (by rw [e]; simp))
  · refine b.keep x o (a.keep x o h nx) fun hx => ?_
    rw [e1] at hx
    rcases List.mem_append.mp hx with q | q
    · exact nx q
    · have := n1 x q
      rw [h] at this
      cases this
theorem SqT.ext {K : PySem.W.Frag} {ρ ρ' : List Addr} {H H' : Hp} {a : Addr} {vs : List V} (e : Ext ρ H ρ' H') (h : SqT K H a vs) : SqT K H' a vs := by
  rcases h with h | h
  · exact .inl (e.tups a vs h)
  · exact .inr h
theorem FrL.ext {K : PySem.W.Frag} {ρ ρ' : List Addr} {H H' : Hp} {a : Addr} {vs : List V} (e : Ext ρ H ρ' H') (h : FrL K H a vs) : FrL K H' a vs := by
  rcases h with ⟨o, h⟩ | h
  · exact .inl ⟨o, e.frzs a o _ h⟩
  · exact .inr h
mutual
theorem RepV.ext {K : PySem.W.Frag} {ρ ρ' : List Addr} {H H' : Hp} (e : Ext ρ H ρ' H') : ∀ {d : D} {v : V}, RepV K ρ H d v → RepV K ρ' H' d v
  | .non, _, h => h
  | .bl _, _, h => h
  | .int _, _, h => h
  | .str _, _, h => h
  | .tup xs, v, h => by
    unfold RepV at h ⊢
    obtain ⟨a, vs, ev, hs, hr⟩ := h
    exact ⟨a, vs, ev, SqT.ext e hs, RepVs.ext e hr⟩
  | .lis xs, v, h => by
    unfold RepV at h ⊢
    obtain ⟨a, vs, ev, hs, hr⟩ := h
    exact ⟨a, vs, ev, hs.ext e, RepVs.ext e hr⟩
  | .ref n, v, h => by
    unfold RepV at h ⊢
    obtain ⟨a, ha, ev⟩ := h
    obtain ⟨r, er, _⟩ := e.pre
    refine ⟨a, ?_, ev⟩
    rw [er]
    have hn : n < ρ.length := (List.getElem?_eq_some_iff.mp ha).1
    rw [List.getElem?_append_left hn]
    exact ha
  | .exn _, _, h => h
  | .exf _ _ _, _, h => by
    unfold RepV at h ⊢
    exact ⟨h.1, e.xds _ _ h.2⟩
theorem RepVs.ext {K : PySem.W.Frag} {ρ ρ' : List Addr} {H H' : Hp} (e : Ext ρ H ρ' H') : ∀ {ds : List D} {vs : List V}, RepVs K ρ H ds vs → RepVs K ρ' H' ds vs
  | [], _, h => h
  | x :: xs, vs, h => by
    unfold RepVs at h ⊢
    obtain ⟨v, r, ev, h1, h2⟩ := h
    exact ⟨v, r, ev, RepV.ext e h1, RepVs.ext e h2⟩
end
theorem RepP.ext {K : PySem.W.Frag} {ρ ρ' : List Addr} {H H' : Hp} (e : Ext ρ H ρ' H') {κ : Type} : ∀ {kvs : List (κ × D)} {ps : List (κ × V)}, RepP K ρ H kvs ps → RepP K ρ' H' kvs ps
  | [], _, h => h
  | (k, x) :: r, ps, h => by
    unfold RepP at h ⊢
    obtain ⟨v, q, ev, h1, h2⟩ := h
    exact ⟨v, q, ev, h1.ext e, RepP.ext e h2⟩
theorem RepL.ext {K : PySem.W.Frag} {ρ ρ' : List Addr} {H H' : Hp} {l : Loc} {σ : St} (e : Ext ρ H ρ' H') (h : RepL K ρ H l σ) : RepL K ρ' H' l σ :=
  ⟨h.len, fun i d hd => let ⟨v, hv, r⟩ := h.at_ i d hd; ⟨v, hv, r.ext e⟩⟩
/-- a cell that is untouched -/
theorem RepC.ext {K : PySem.W.Frag} {cA : Nat → Addr} {ρ ρ' : List Addr} {H H' : Hp} {c : Cell} {a : Addr} (e : Ext ρ H ρ' H') (same : H' a = H a) (h : RepC K cA ρ H c a) : RepC K cA ρ' H' c a := by
  cases c with
  | lst xs => obtain ⟨vs, h1, h2⟩ := h; exact ⟨vs, same.trans h1, h2.ext e⟩
  | dct kvs => obtain ⟨ps, h1, h2⟩ := h; exact ⟨ps, same.trans h1, h2.ext e⟩
  | dlk kvs => obtain ⟨o, ps, h1, h2⟩ := h; exact ⟨o, ps, same.trans h1, h2.ext e⟩
  | ins c fs => obtain ⟨dx, ps, h1, h2⟩ := h; exact ⟨dx, ps, same.trans h1, h2.ext e⟩
theorem RepC.there {K : PySem.W.Frag} {cA : Nat → Addr} {ρ : List Addr} {H : Hp} {c : Cell} {a : Addr} (h : RepC K cA ρ H c a) : ∃ o, H a = some o ∧ ∀ xs, o ≠ .tup xs ∧ ∀ u, o ≠ .frz u (.tup xs) ∧ o ≠ .frz u (.lst xs) := by
  cases c with
  | lst xs => obtain ⟨vs, h1, h2⟩ := h; exact ⟨_, h1, fun _ => ⟨(nomatch ·), fun _ => ⟨(nomatch ·), (nomatch ·)⟩⟩⟩
  | dct kvs => obtain ⟨ps, h1, h2⟩ := h; exact ⟨_, h1, fun _ => ⟨(nomatch ·), fun _ => ⟨(nomatch ·), (nomatch ·)⟩⟩⟩
  | dlk kvs => obtain ⟨o, ps, h1, h2⟩ := h; exact ⟨_, h1, fun _ => ⟨(nomatch ·), fun _ => ⟨(nomatch ·), (nomatch ·)⟩⟩⟩
  | ins c fs => obtain ⟨dx, ps, h1, h2⟩ := h; exact ⟨_, h1, fun _ => ⟨(nomatch ·), fun _ => ⟨(nomatch ·), (nomatch ·)⟩⟩⟩
section
variable {K : PySem.W.Frag} {cA : Nat → Addr} {ρ : List Addr} {H : Hp} {S : Store}
theorem Reps.get (h : Reps K cA ρ H S) {n : Nat} {c : Cell} (e : S[n]? = some c) : ∃ a, ρ[n]? = some a ∧ RepC K cA ρ H c a := by
  have hn : n < S.length := (List.getElem?_eq_some_iff.mp e).1
  have hr : n < ρ.length := by rw [h.len]; exact hn
  exact ⟨ρ[n], List.getElem?_eq_getElem hr, h.at_ n c _ e (List.getElem?_eq_getElem hr)⟩
theorem Reps.mem (h : Reps K cA ρ H S) {a : Addr} (ha : a ∈ ρ) : ∃ o, H a = some o ∧ ∀ xs, o ≠ .tup xs ∧ ∀ u, o ≠ .frz u (.tup xs) ∧ o ≠ .frz u (.lst xs) := by
  obtain ⟨n, hn⟩ := List.getElem?_of_mem ha
  have hl : n < S.length := by rw [← h.len]; exact (List.getElem?_eq_some_iff.mp hn).1
  exact (h.at_ n _ a (List.getElem?_eq_getElem hl) hn).there
/-- a new tracked thing outside of the store -/
theorem Ext.new {p : Addr} {o : HO} (hp : H p = none) : Ext ρ H ρ (upd H p o) := by
  have ne : ∀ {a u}, H a = some u → a ≠ p := fun h => ne_of_none h hp
  refine ⟨⟨[], by simp, fun _ h => nomatch h⟩, fun a u h _ => by rw [upd_ne (ne h)]; exact h, fun a xs h => ?_, fun a u xs h => by rw [upd_ne (ne h)]; exact h, fun a h => ?_, fun a u h => by rw [upd_ne (ne h)]; exact h⟩
  · rcases h with h | ⟨u, h⟩
    · exact .inl (by rw [upd_ne (ne h)]; exact h)
    · exact .inr ⟨u, by rw [upd_ne (ne h)]; exact h⟩
  · by_cases e : a = p
    · subst e; exact absurd hp h
    · rw [upd_ne e]; exact h
theorem Reps.new (h : Reps K cA ρ H S) {p : Addr} {o : HO} (hp : H p = none) : Reps K cA ρ (upd H p o) S :=
  ⟨h.len, h.nd, fun n c a hc ha => (h.at_ n c a hc ha).ext (Ext.new hp) (by
    obtain ⟨u, hu, _⟩ := (h.at_ n c a hc ha).there
    rw [upd_ne (ne_of_none hu hp)])⟩
/-- a tracked thing outside of the store is changed (a list that is being built) -/
theorem Reps.other (h : Reps K cA ρ H S) {H' : Hp} (e : Ext ρ H ρ H') (same : ∀ a ∈ ρ, H' a = H a) : Reps K cA ρ H' S :=
  ⟨h.len, h.nd, fun n c a hc ha => (h.at_ n c a hc ha).ext e (same a (List.mem_of_getElem? ha))⟩
/-- a thing is taken into the store -/
theorem Ext.alloc {p : Addr} {o : HO} (hp : H p = none) : Ext ρ H (ρ ++ [p]) (upd H p o) := by
  have x := Ext.new (ρ := ρ) (o := o) hp
  exact ⟨⟨[p], rfl, fun a h => by have e : a = p := by simpa using h
                                  rw [e]; exact hp⟩, x.keep, x.tups, x.frzs, x.there, x.xds⟩
theorem Ext.take {H' : Hp} {ρ' : List Addr} {p : Addr} (e : Ext ρ H ρ' H') (hp : H p = none) : Ext ρ H (ρ' ++ [p]) H' := by
  obtain ⟨r, er, nr⟩ := e.pre
  refine ⟨⟨r ++ [p], by rw [er, List.append_assoc], fun a h => ?_⟩, e.keep, e.tups, e.frzs, e.there, e.xds⟩
  rcases List.mem_append.mp h with h | h
  · exact nr a h
  · have q : a = p := by simpa using h
    rw [q]; exact hp
theorem Ext.grow {p : Addr} : (∀ a, H a ≠ none → H a ≠ none) → H p = none → Ext ρ H (ρ ++ [p]) H := fun _ hp => (Ext.refl ρ H).take hp
end
mutual
/-- data over a store that has grown -/
theorem RepV.grow {K : PySem.W.Frag} {ρ r : List Addr} {H : Hp} : ∀ {d : D} {v : V}, RepV K ρ H d v → RepV K (ρ ++ r) H d v
  | .non, _, h => h
  | .bl _, _, h => h
  | .int _, _, h => h
  | .str _, _, h => h
  | .tup xs, v, h => by
    unfold RepV at h ⊢
    obtain ⟨a, vs, ev, hs, hr⟩ := h
    exact ⟨a, vs, ev, hs, RepVs.grow hr⟩
  | .lis xs, v, h => by
    unfold RepV at h ⊢
    obtain ⟨a, vs, ev, hs, hr⟩ := h
    exact ⟨a, vs, ev, hs, RepVs.grow hr⟩
  | .ref n, v, h => by
    unfold RepV at h ⊢
    obtain ⟨a, ha, ev⟩ := h
    refine ⟨a, ?_, ev⟩
    rw [List.getElem?_append_left (List.getElem?_eq_some_iff.mp ha).1]
    exact ha
  | .exn _, _, h => h
  | .exf _ _ _, _, h => h
theorem RepVs.grow {K : PySem.W.Frag} {ρ r : List Addr} {H : Hp} : ∀ {ds : List D} {vs : List V}, RepVs K ρ H ds vs → RepVs K (ρ ++ r) H ds vs
  | [], _, h => h
  | x :: xs, vs, h => by
    unfold RepVs at h ⊢
    obtain ⟨v, q, ev, h1, h2⟩ := h
    exact ⟨v, q, ev, RepV.grow h1, RepVs.grow h2⟩
end
theorem RepP.grow {K : PySem.W.Frag} {ρ r : List Addr} {H : Hp} {κ : Type} : ∀ {kvs : List (κ × D)} {ps : List (κ × V)}, RepP K ρ H kvs ps → RepP K (ρ ++ r) H kvs ps
  | [], _, h => h
  | (k, x) :: q, ps, h => by
    unfold RepP at h ⊢
    obtain ⟨v, q, ev, h1, h2⟩ := h
    exact ⟨v, q, ev, h1.grow, RepP.grow h2⟩
section
variable {K : PySem.W.Frag} {cA : Nat → Addr} {ρ : List Addr} {H : Hp} {S : Store}
theorem RepC.grow {r : List Addr} {c : Cell} {a : Addr} (h : RepC K cA ρ H c a) : RepC K cA (ρ ++ r) H c a := by
  cases c with
  | lst xs => obtain ⟨vs, h1, h2⟩ := h; exact ⟨vs, h1, h2.grow⟩
  | dct kvs => obtain ⟨ps, h1, h2⟩ := h; exact ⟨ps, h1, h2.grow⟩
  | dlk kvs => obtain ⟨o, ps, h1, h2⟩ := h; exact ⟨o, ps, h1, h2.grow⟩
  | ins c fs => obtain ⟨dx, ps, h1, h2⟩ := h; exact ⟨dx, ps, h1, h2.grow⟩
/-- a cell is laid behind the store -/
theorem Reps.push (h : Reps K cA ρ H S) {p : Addr} {c : Cell} (hn : p ∉ ρ) (hc : RepC K cA ρ H c p) : Reps K cA (ρ ++ [p]) H (S ++ [c]) := by
  refine ⟨by rw [List.length_append, List.length_append, h.len]; rfl, List.nodup_append.mpr ⟨h.nd, by simp, fun a ha b hb => ?_⟩, fun n c' a hc' ha => ?_⟩
  · have e : b = p := by simpa using hb
    rintro rfl
    rw [← e] at hn
    exact hn ha
  · by_cases q : n < S.length
    · rw [List.getElem?_append_left q] at hc'
      rw [List.getElem?_append_left (by rw [h.len]; exact q)] at ha
      exact (h.at_ n c' a hc' ha).grow
    · have hq : n = S.length := by
        have := (List.getElem?_eq_some_iff.mp hc').1
        rw [List.length_append] at this
        simp only [List.length_cons, List.length_nil] at this
        omega
      rw [hq, List.getElem?_append_right (Nat.le_refl _)] at hc'
      rw [hq, List.getElem?_append_right (by rw [h.len]; exact Nat.le_refl _), h.len] at ha
      simp at hc' ha
      subst hc' ha
      exact hc.grow
/-- a cell is written -/
theorem Ext.write {n : Nat} {a : Addr} {o u : HO} (ha : ρ[n]? = some a) (hu : H a = some u) (mu : Mut (some u)) : Ext ρ H ρ (upd H a o) := by
  refine ⟨⟨[], by simp, fun _ h => nomatch h⟩, fun b q h nb => ?_, fun b xs h => ?_, fun b q xs h => ?_, fun b h => ?_, fun b xs h => ?_⟩
  · have ne : b ≠ a := fun e => nb (by rw [e]; exact List.mem_of_getElem? ha)
    rw [upd_ne ne]; exact h
  · have ne : b ≠ a := by
      rintro rfl
      rcases h with h | ⟨v, h⟩ <;> (rw [h] at hu; cases hu; exact mu)
    rcases h with h | ⟨v, h⟩
    · exact .inl (by rw [upd_ne ne]; exact h)
    · exact .inr ⟨v, by rw [upd_ne ne]; exact h⟩
  · have ne : b ≠ a := by
      rintro rfl
      rw [h] at hu; cases hu; exact mu
    rw [upd_ne ne]; exact h
  · by_cases e : b = a
    · rw [e, upd_same]; simp
    · rw [upd_ne e]; exact h
  · have ne : b ≠ a := by
      rintro rfl
      rw [h] at hu; cases hu; exact mu
    rw [upd_ne ne]; exact h
theorem Reps.write (h : Reps K cA ρ H S) {n : Nat} {a : Addr} {o u : HO} {c : Cell} (ha : ρ[n]? = some a) (hu : H a = some u) (mu : Mut (some u)) (hc : RepC K cA ρ (upd H a o) c a) : Reps K cA ρ (upd H a o) (S.set n c) := by
  have e : Ext ρ H ρ (upd H a o) := Ext.write ha hu mu
  refine ⟨by rw [List.length_set]; exact h.len, h.nd, fun m c' b hc' hb => ?_⟩
  by_cases q : m = n
  · subst q
    rw [ha] at hb
    cases hb
    have hm : m < S.length := by
      have := (List.getElem?_eq_some_iff.mp hc').1
      rwa [List.length_set] at this
    rw [List.getElem?_set_self hm] at hc'
    cases hc'
    exact hc
  · rw [List.getElem?_set_ne (Ne.symm q)] at hc'
    have ne : b ≠ a := by
      rintro rfl
      exact q (nodup_ix' h.nd hb ha)
    exact (h.at_ m c' b hc' hb).ext e (upd_ne ne)
where
  nodup_ix' {N : List Addr} (hN : N.Nodup) {i j : Nat} {x : Addr} (a : N[i]? = some x) (b : N[j]? = some x) : i = j := by
    obtain ⟨h1, e1⟩ := List.getElem?_eq_some_iff.mp a
    obtain ⟨h2, e2⟩ := List.getElem?_eq_some_iff.mp b
    exact (List.getElem_inj hN).mp (e1.trans e2.symm)
end

/-! ### the canonical reading -/
section
variable {α β : Type}
abbrev Rel (α β : Type) := Hp → List Addr → Hp → α → β → Prop
def After (K : PySem.W.Frag) (cA : Nat → Addr) (W : XK) (ρ : List Addr) (H : Hp) (rep : Rel α β) (r : R α) (Q : β → Hp → Prop) : Prop := match r with
  | .ok a S => ∀ ρ' H' b, Ext ρ H ρ' H' → Reps K cA ρ' H' S → rep H ρ' H' a b → Q b H'
  | .ex x S => ∀ ρ' H' c d, Ext ρ H ρ' H' → Reps K cA ρ' H' S → RepX K cA ρ' H' x c d → W c d H'
  | .bad => False
variable {K : PySem.W.Frag} {cA : Nat → Addr} {W : XK} {ρ ρ0 : List Addr} {H H0 : Hp}
theorem After.imp {rep : Rel α β} {r : R α} {Q Q' : β → Hp → Prop} (h : After K cA W ρ H rep r Q) (q : ∀ b H', Q b H' → Q' b H') : After K cA W ρ H rep r Q' := by
  cases r with
  | ok a S => exact fun ρ' H' b e hs hr => q b H' (h ρ' H' b e hs hr)
  | ex x S => exact h
  | bad => exact h
/-- what a relation must bear: it may be told of an earlier heap -/
def Stable (rep : Rel α β) : Prop := ∀ (ρ : List Addr) (H : Hp) (ρ1 : List Addr) (H1 : Hp) (ρ' : List Addr) (H' : Hp) (a : α) (b : β), Ext ρ H ρ1 H1 → rep H1 ρ' H' a b → rep H ρ' H' a b
theorem After.back {rep : Rel α β} (st : Stable rep) {r : R α} {Q : β → Hp → Prop} (e : Ext ρ0 H0 ρ H) (h : After K cA W ρ0 H0 rep r Q) : After K cA W ρ H rep r Q := by
  cases r with
  | ok a S => exact fun ρ' H' b e' hs hr => h ρ' H' b (e.trans e') hs (st _ _ _ _ _ _ _ _ e hr)
  | ex x S => exact fun ρ' H' c d e' hs hr => h ρ' H' c d (e.trans e') hs hr
  | bad => exact h
/-- one thing, then another -/
theorem After.bind {γ δ : Type} {rep : Rel α β} {rep' : Rel γ δ} (st : Stable rep') {r : R α} {f : α → Store → R γ} {Q : δ → Hp → Prop} (h : After K cA W ρ H rep' (r.bind f) Q) :
    After K cA W ρ H rep r fun b H1 => ∃ ρ1 S1 a, Ext ρ H ρ1 H1 ∧ Reps K cA ρ1 H1 S1 ∧ rep H ρ1 H1 a b ∧ After K cA W ρ1 H1 rep' (f a S1) Q := by
  cases r with
  | ok a S => exact fun ρ' H' b e hs hr => ⟨ρ', S, a, e, hs, hr, h.back st e⟩
  | ex x S => exact h
  | bad => exact h
end
/-- the relations -/
abbrev rV (K : PySem.W.Frag) : Rel D V := fun _ ρ H d v => RepV K ρ H d v
abbrev rVs (K : PySem.W.Frag) : Rel (List D) (List V) := fun _ ρ H d v => RepVs K ρ H d v
abbrev rId {α : Type} : Rel α α := fun _ _ _ a b => a = b
/-- a new list that nobody else has -/
def rNew (K : PySem.W.Frag) : Rel (List D) V := fun H0 ρ H ds v => ∃ p vs, v = .ref p ∧ H0 p = none ∧ p ∉ ρ ∧ H p = some (.lst vs) ∧ RepVs K ρ H ds vs
theorem st_V {K : PySem.W.Frag} : Stable (rV K) := fun _ _ _ _ _ _ _ _ _ h => h
theorem st_Vs {K : PySem.W.Frag} : Stable (rVs K) := fun _ _ _ _ _ _ _ _ _ h => h
theorem st_Id {α : Type} : Stable (rId (α := α)) := fun _ _ _ _ _ _ _ _ _ h => h
theorem st_New {K : PySem.W.Frag} : Stable (rNew K) := fun ρ H ρ1 H1 ρ' H' a b e h => by
  obtain ⟨p, vs, ev, h0, h1, h2, h3⟩ := h
  refine ⟨p, vs, ev, ?_, h1, h2, h3⟩
  cases q : H p with
  | none => rfl
  | some o => exact absurd h0 (e.there p (by rw [q]; simp))
section
variable {α β : Type}
def tG (K : PySem.W.Frag) (cA : Nat → Addr) (W : XK) (rep : Rel α β) (m : Loc → Store → R α) : St → Hp → (β → Hp → Prop) → Prop := fun σ H Q =>
  ∃ ρ S l, Reps K cA ρ H S ∧ RepL K ρ H l σ ∧ After K cA W ρ H rep (m l S) Q
end
abbrev ME := Loc → Store → R D
abbrev MB := Loc → Store → R Bool
abbrev MA := Loc → Store → R (List D)
abbrev tE (K : PySem.W.Frag) (cA : Nat → Addr) (W : XK) (m : ME) : TE := tG K cA W (rV K) m
abbrev tT (K : PySem.W.Frag) (cA : Nat → Addr) (W : XK) (m : MB) : TT := tG K cA W rId m
abbrev tAs (K : PySem.W.Frag) (cA : Nat → Addr) (W : XK) (m : MA) : TA := tG K cA W (rVs K) m
abbrev tNw (K : PySem.W.Frag) (cA : Nat → Addr) (W : XK) (m : MA) : TE := tG K cA W (rNew K) m
/-- operations on values -/
def t2 (K : PySem.W.Frag) (cA : Nat → Addr) (W : XK) {β : Type} {α : Type} (rep : Rel α β) (f : D → D → Store → R α) : V → V → Hp → (β → Hp → Prop) → Prop := fun x y H Q =>
  ∃ ρ S d e, Reps K cA ρ H S ∧ RepV K ρ H d x ∧ RepV K ρ H e y ∧ After K cA W ρ H rep (f d e S) Q
def t1 (K : PySem.W.Frag) (cA : Nat → Addr) (W : XK) {β : Type} {α : Type} (rep : Rel α β) (f : D → Store → R α) : V → Hp → (β → Hp → Prop) → Prop := fun x H Q =>
  ∃ ρ S d, Reps K cA ρ H S ∧ RepV K ρ H d x ∧ After K cA W ρ H rep (f d S) Q
def tN (K : PySem.W.Frag) (cA : Nat → Addr) (W : XK) {β : Type} {α : Type} (rep : Rel α β) (f : List D → Store → R α) : List V → Hp → (β → Hp → Prop) → Prop := fun xs H Q =>
  ∃ ρ S ds, Reps K cA ρ H S ∧ RepVs K ρ H ds xs ∧ After K cA W ρ H rep (f ds S) Q

/-! ### weaker readings -/
theorem _root_.L2.PE.imp {X : Cx} {e : Expr} {t t' : TE} (h : PE X e t) (i : ∀ σ H Q, t' σ H Q → t σ H Q) : PE X e t' := ⟨fun pins s σ H Q I q => h.run pins s σ H Q I (i σ H Q q)⟩
theorem _root_.L2.PT.imp {X : Cx} {e : Expr} {t t' : TT} (h : PT X e t) (i : ∀ σ H Q, t' σ H Q → t σ H Q) : PT X e t' := ⟨fun pins s σ H Q I q => h.run pins s σ H Q I (i σ H Q q)⟩
theorem _root_.L2.PW.imp {X : Cx} {e : Expr} {t t' : TT} (h : PW X e t) (i : ∀ σ H Q, t' σ H Q → t σ H Q) : PW X e t' := ⟨fun wh pins s σ H Q I q => h.run wh pins s σ H Q I (i σ H Q q)⟩
theorem _root_.L2.PA.imp {X : Cx} {es : List Expr} {t t' : TA} (h : PA X es t) (i : ∀ σ H Q, t' σ H Q → t σ H Q) : PA X es t' := ⟨fun pos pins s σ H Q I q => h.run pos pins s σ H Q I (i σ H Q q)⟩
theorem _root_.L2.PS.imp {X : Cx} {st : Stmt} {t t' : TS} (h : PS X st t) (i : ∀ E σ H, t' E σ H → t E σ H) : PS X st t' := ⟨fun pins s σ H E I q => h.run pins s σ H E I (i E σ H q)⟩
theorem _root_.L2.PSs.imp {X : Cx} {st : List Stmt} {t t' : TS} (h : PSs X st t) (i : ∀ E σ H, t' E σ H → t E σ H) : PSs X st t' := ⟨fun pins s σ H E I q => h.run pins s σ H E I (i E σ H q)⟩
theorem OpR.imp {X : Cx} {f : Value → Value → Sem Value} {r r' : R2} (h : OpR X f r) (i : ∀ x y H Q, r' x y H Q → r x y H Q) : OpR X f r' := fun pins s σ H x y v u Q I rx ry q => h pins s σ H x y v u Q I rx ry (i _ _ _ _ q)
theorem CallR.imp {X : Cx} {f : Value} {r r' : List V → Hp → VK → Prop} (h : CallR X f r) (i : ∀ xs H Q, r' xs H Q → r xs H Q) : CallR X f r' := fun pins s σ H xs us Q I rx q => h pins s σ H xs us Q I rx (i _ _ _ q)
end ML

set_option Elab.async false
set_option linter.all false
set_option maxRecDepth 100000
set_option autoImplicit false
/-! ML2: what is done with values, and its rules. -/
namespace ML
open PySem PySem.Spec L2

/-! ### lists of data -/
section
variable {K : PySem.W.Frag} {ρ : List Addr} {H : Hp}
theorem RepVs.length : ∀ {ds : List D} {vs : List V}, RepVs K ρ H ds vs → vs.length = ds.length
  | [], vs, h => by unfold RepVs at h; rw [h]; rfl
  | x :: xs, vs, h => by
    unfold RepVs at h
    obtain ⟨v, r, e, _, h2⟩ := h
    rw [e, List.length_cons, List.length_cons, RepVs.length h2]
theorem RepVs.nil : RepVs K ρ H [] [] := by unfold RepVs; rfl
theorem RepVs.cons {d : D} {v : V} {ds : List D} {vs : List V} (h : RepV K ρ H d v) (h2 : RepVs K ρ H ds vs) : RepVs K ρ H (d :: ds) (v :: vs) := by unfold RepVs; exact ⟨v, vs, rfl, h, h2⟩
theorem RepVs.append : ∀ {ds es : List D} {vs ws : List V}, RepVs K ρ H ds vs → RepVs K ρ H es ws → RepVs K ρ H (ds ++ es) (vs ++ ws)
  | [], _, vs, ws, h, h2 => by unfold RepVs at h; rw [h]; exact h2
  | x :: xs, _, vs, ws, h, h2 => by
    unfold RepVs at h
    obtain ⟨v, r, e, h1, hr⟩ := h
    rw [e]
    exact RepVs.cons h1 (RepVs.append hr h2)
theorem RepVs.get : ∀ {ds : List D} {vs : List V}, RepVs K ρ H ds vs → ∀ (i : Nat) (d : D), ds[i]? = some d → ∃ v, vs[i]? = some v ∧ RepV K ρ H d v
  | [], _, _, i, d, e => by simp at e
  | x :: xs, vs, h, i, d, e => by
    unfold RepVs at h
    obtain ⟨v, r, ev, h1, h2⟩ := h
    rw [ev]
    cases i with
    | zero => simp at e; subst e; exact ⟨v, rfl, h1⟩
    | succ i => simpa using RepVs.get h2 i d (by simpa using e)
theorem RepVs.get' : ∀ {ds : List D} {vs : List V}, RepVs K ρ H ds vs → ∀ (i : Nat) (v : V), vs[i]? = some v → ∃ d, ds[i]? = some d ∧ RepV K ρ H d v
  | [], vs, h, i, v, e => by unfold RepVs at h; rw [h] at e; simp at e
  | x :: xs, vs, h, i, v, e => by
    unfold RepVs at h
    obtain ⟨w, r, ev, h1, h2⟩ := h
    rw [ev] at e
    cases i with
    | zero => simp at e; subst e; exact ⟨x, rfl, h1⟩
    | succ i => simpa using RepVs.get' h2 i v (by simpa using e)
theorem RepVs.take : ∀ {ds : List D} {vs : List V} (n : Nat), RepVs K ρ H ds vs → RepVs K ρ H (ds.take n) (vs.take n)
  | _, _, 0, _ => by rw [List.take_zero, List.take_zero]; exact .nil
  | [], vs, n + 1, h => by unfold RepVs at h; rw [h]; exact .nil
  | x :: xs, vs, n + 1, h => by
    unfold RepVs at h
    obtain ⟨v, r, e, h1, h2⟩ := h
    rw [e, List.take_succ_cons, List.take_succ_cons]
    exact .cons h1 (RepVs.take n h2)
theorem RepVs.drop : ∀ {ds : List D} {vs : List V} (n : Nat), RepVs K ρ H ds vs → RepVs K ρ H (ds.drop n) (vs.drop n)
  | _, _, 0, h => h
  | [], vs, n + 1, h => by unfold RepVs at h; rw [h]; exact .nil
  | x :: xs, vs, n + 1, h => by
    unfold RepVs at h
    obtain ⟨v, r, e, h1, h2⟩ := h
    rw [e, List.drop_succ_cons, List.drop_succ_cons]
    exact RepVs.drop n h2
theorem RepVs.set {d : D} {v : V} (hv : RepV K ρ H d v) : ∀ {ds : List D} {vs : List V} (n : Nat), RepVs K ρ H ds vs → RepVs K ρ H (ds.set n d) (vs.set n v)
  | [], vs, _, h => by unfold RepVs at h; rw [h]; exact .nil
  | x :: xs, vs, n, h => by
    unfold RepVs at h
    obtain ⟨w, r, e, h1, h2⟩ := h
    rw [e]
    cases n with
    | zero => exact .cons hv h2
    | succ n => exact .cons h1 (RepVs.set hv n h2)
theorem RepVs.ints : ∀ {ns : List Int} {vs : List V}, RepVs K ρ H (ns.map D.int) vs → vs = ns.map V.int
  | [], vs, h => by unfold RepVs at h; exact h
  | n :: ns, vs, h => by
    rw [List.map_cons] at h
    unfold RepVs at h
    obtain ⟨w, r, e, h1, h2⟩ := h
    unfold RepV at h1
    rw [e, h1, List.map_cons, RepVs.ints h2]
theorem RepVs.of_ints : ∀ {ns : List Int}, RepVs K ρ H (ns.map D.int) (ns.map V.int)
  | [] => by exact .nil
  | n :: ns => by
    rw [List.map_cons, List.map_cons]
    exact .cons (by unfold RepV; rfl) RepVs.of_ints
end

/-! ### cells -/
def lstAt (S : Store) (n : Nat) : Option (List D) := match S[n]? with
  | some (.lst xs) => some xs
  | _ => none
def dctAt (S : Store) (n : Nat) : Option (List (Key × D)) := match S[n]? with
  | some (.dct kvs) => some kvs
  | _ => none
def insAt (S : Store) (n : Nat) : Option (Nat × List (Str × D)) := match S[n]? with
  | some (.ins c fs) => some (c, fs)
  | _ => none
theorem lstAt_of {S : Store} {n : Nat} {xs : List D} (h : S[n]? = some (.lst xs)) : lstAt S n = some xs := by unfold lstAt; rw [h]
theorem dctAt_of {S : Store} {n : Nat} {xs : List (Key × D)} (h : S[n]? = some (.dct xs)) : dctAt S n = some xs := by unfold dctAt; rw [h]
theorem insAt_of {S : Store} {n c : Nat} {fs : List (Str × D)} (h : S[n]? = some (.ins c fs)) : insAt S n = some (c, fs) := by unfold insAt; rw [h]
theorem lstAt_some {S : Store} {n : Nat} {xs : List D} (h : lstAt S n = some xs) : S[n]? = some (.lst xs) := by
  unfold lstAt at h
  split at h
  · rename_i ys e; cases h; exact e
  · cases h
theorem dctAt_some {S : Store} {n : Nat} {xs : List (Key × D)} (h : dctAt S n = some xs) : S[n]? = some (.dct xs) := by
  unfold dctAt at h
  split at h
  · rename_i ys e; cases h; exact e
  · cases h
theorem insAt_some {S : Store} {n c : Nat} {fs : List (Str × D)} (h : insAt S n = some (c, fs)) : S[n]? = some (.ins c fs) := by
  unfold insAt at h
  split at h
  · rename_i c' fs' e; cases h; exact e
  · cases h
/-- a dict that is read, locked or not -/
def kvAt (S : Store) (n : Nat) : Option (List (Key × D)) := match S[n]? with
  | some (.dct kvs) => some kvs
  | some (.dlk kvs) => some kvs
  | _ => none
theorem kvAt_of {S : Store} {n : Nat} {xs : List (Key × D)} (h : S[n]? = some (.dct xs)) : kvAt S n = some xs := by unfold kvAt; rw [h]
theorem kvAt_some {S : Store} {n : Nat} {xs : List (Key × D)} (h : kvAt S n = some xs) : S[n]? = some (.dct xs) ∨ S[n]? = some (.dlk xs) := by
  unfold kvAt at h
  split at h
  · rename_i ys e; cases h; exact .inl e
  · rename_i ys e; cases h; exact .inr e
  · cases h
/-- the items of what is a list -/
def lstOf (S : Store) : D → Option (List D)
  | .lis xs => some xs
  | .ref n => lstAt S n
  | _ => none
/-- .. a list or a tuple -/
def seqOf (S : Store) : D → Option (List D)
  | .tup xs => some xs
  | .lis xs => some xs
  | .ref n => lstAt S n
  | _ => none
def newC (c : Cell) (S : Store) : R D := .ok (.ref S.length) (S ++ [c])
section
variable {K : PySem.W.Frag} {cA : Nat → Addr} {ρ : List Addr} {H : Hp} {S : Store}
/-- the cell at a reference -/
theorem ref_rep (hS : Reps K cA ρ H S) {n : Nat} {v : V} {c : Cell} (hv : RepV K ρ H (.ref n) v) (h : S[n]? = some c) : ∃ a, v = .ref a ∧ ρ[n]? = some a ∧ RepC K cA ρ H c a := by
  unfold RepV at hv
  obtain ⟨a, ha, ev⟩ := hv
  exact ⟨a, ev, ha, hS.at_ n c a h ha⟩
theorem rlst_rep (hS : Reps K cA ρ H S) {n : Nat} {v : V} {xs : List D} (hv : RepV K ρ H (.ref n) v) (h : lstAt S n = some xs) : ∃ a vs, v = .ref a ∧ ρ[n]? = some a ∧ H a = some (.lst vs) ∧ RepVs K ρ H xs vs := by
  obtain ⟨a, e, ha, vs, h1, h2⟩ := ref_rep hS hv (lstAt_some h)
  exact ⟨a, vs, e, ha, h1, h2⟩
theorem rdct_rep (hS : Reps K cA ρ H S) {n : Nat} {v : V} {xs : List (Key × D)} (hv : RepV K ρ H (.ref n) v) (h : dctAt S n = some xs) : ∃ a vs, v = .ref a ∧ ρ[n]? = some a ∧ H a = some (.dK vs) ∧ RepP K ρ H xs vs := by
  obtain ⟨a, e, ha, vs, h1, h2⟩ := ref_rep hS hv (dctAt_some h)
  exact ⟨a, vs, e, ha, h1, h2⟩
theorem rkv_rep (hS : Reps K cA ρ H S) {n : Nat} {v : V} {xs : List (Key × D)} (hv : RepV K ρ H (.ref n) v) (h : kvAt S n = some xs) : ∃ a vs, v = .ref a ∧ ρ[n]? = some a ∧ Rd H a (.dK vs) ∧ RepP K ρ H xs vs := by
  rcases kvAt_some h with h | h
  · obtain ⟨a, e, ha, vs, h1, h2⟩ := ref_rep hS hv h
    exact ⟨a, vs, e, ha, .inl h1, h2⟩
  · obtain ⟨a, e, ha, o, vs, h1, h2⟩ := ref_rep hS hv h
    exact ⟨a, vs, e, ha, .inr ⟨o, h1⟩, h2⟩
theorem rins_rep (hS : Reps K cA ρ H S) {n c : Nat} {v : V} {fs : List (Str × D)} (hv : RepV K ρ H (.ref n) v) (h : insAt S n = some (c, fs)) : ∃ a dx vs, v = .ref a ∧ ρ[n]? = some a ∧ H a = some (.ins (cA c) dx vs) ∧ RepP K ρ H fs vs := by
  obtain ⟨a, e, ha, dx, vs, h1, h2⟩ := ref_rep hS hv (insAt_some h)
  exact ⟨a, dx, vs, e, ha, h1, h2⟩
theorem lst_rep (hS : Reps K cA ρ H S) {d : D} {v : V} {xs : List D} (hv : RepV K ρ H d v) (h : lstOf S d = some xs) : ∃ a vs, v = .ref a ∧ SqL K H a vs ∧ RepVs K ρ H xs vs := by
  cases d with
  | lis ys =>
    have e : ys = xs := Option.some.inj h
    subst e
    unfold RepV at hv
    obtain ⟨a, vs, ev, hf, hr⟩ := hv
    exact ⟨a, vs, ev, hf.sq, hr⟩
  | ref n =>
    obtain ⟨a, vs, e, _, h1, h2⟩ := rlst_rep hS hv h
    exact ⟨a, vs, e, SqL.of h1, h2⟩
  | _ => cases h
theorem seq_rep (hS : Reps K cA ρ H S) {d : D} {v : V} {xs : List D} (hv : RepV K ρ H d v) (h : seqOf S d = some xs) : ∃ a vs, v = .ref a ∧ (SqL K H a vs ∨ SqT K H a vs) ∧ RepVs K ρ H xs vs := by
  cases d with
  | tup ys =>
    have e : ys = xs := Option.some.inj h
    subst e
    unfold RepV at hv
    obtain ⟨a, vs, ev, hf, hr⟩ := hv
    exact ⟨a, vs, ev, .inr hf, hr⟩
  | lis ys => obtain ⟨a, vs, ev, h1, h2⟩ := lst_rep hS hv h; exact ⟨a, vs, ev, .inl h1, h2⟩
  | ref n => obtain ⟨a, vs, ev, h1, h2⟩ := lst_rep hS hv h; exact ⟨a, vs, ev, .inl h1, h2⟩
  | _ => cases h
theorem Reps.free (hS : Reps K cA ρ H S) {p : Addr} (hp : H p = none) : p ∉ ρ := fun hm => by
  obtain ⟨o, ho, _⟩ := hS.mem hm
  rw [hp] at ho; cases ho
/-- a new cell -/
theorem After.new {W : XK} {c : Cell} {p : Addr} {o : HO} {Q : V → Hp → Prop} (h : After K cA W ρ H (rV K) (newC c S) Q) (hS : Reps K cA ρ H S) (hp : H p = none) (hc : RepC K cA ρ (upd H p o) c p) : Q (.ref p) (upd H p o) := by
  refine h (ρ ++ [p]) _ _ (Ext.alloc hp) ((hS.new hp).push (hS.free hp) hc) ?_
  show RepV K (ρ ++ [p]) _ (.ref S.length) (.ref p)
  unfold RepV
  exact ⟨p, by rw [← hS.len, List.getElem?_append_right (Nat.le_refl _)]; simp, rfl⟩
/-- a new tuple -/
theorem After.tup {W : XK} {xs : List D} {vs : List V} {p : Addr} {Q : V → Hp → Prop} (h : After K cA W ρ H (rV K) (.ok (.tup xs) S) Q) (hS : Reps K cA ρ H S) (hp : H p = none) (hr : RepVs K ρ H xs vs) : Q (.ref p) (upd H p (.tup vs)) := by
  refine h ρ _ _ (Ext.new hp) (hS.new hp) ?_
  show RepV K ρ _ (.tup xs) (.ref p)
  unfold RepV
  exact ⟨p, vs, rfl, SqT.of upd_same, hr.ext (Ext.new hp)⟩
/-- the end where nothing has changed -/
theorem After.same {α β : Type} {W : XK} {rep : Rel α β} {a : α} {b : β} {Q : β → Hp → Prop} (h : After K cA W ρ H rep (.ok a S) Q) (hS : Reps K cA ρ H S) (hr : rep H ρ H a b) : Q b H := h ρ H b (Ext.refl ρ H) hS hr
end

/-! ### numbers, texts -/
def mulOk (i j : Int) : Bool := decide (-(2 ^ 64) < i) && decide (i < 2 ^ 64) || decide (-(2 ^ 64) < j) && decide (j < 2 ^ 64)
def addD : D → D → Store → R D
  | .int i, .int j, S => .ok (.int (i + j)) S
  | .str x, .str y, S => if x.length + y.length ≤ sizeLine then .ok (.str (x ++ y)) S else .bad
  | .tup xs, .tup ys, S => if xs.length + ys.length ≤ sizeLine then .ok (.tup (xs ++ ys)) S else .bad
  | .ref n, .ref m, S => match lstAt S n, lstAt S m with
    | some xs, some ys => if xs.length + ys.length ≤ sizeLine then newC (.lst (xs ++ ys)) S else .bad
    | _, _ => .bad
  | _, _, _ => .bad
def subD : D → D → Store → R D
  | .int i, .int j, S => .ok (.int (i - j)) S
  | _, _, _ => .bad
/-- a text n times -/
def repS (x : Str) (n : Nat) : Str := ⟨(List.replicate n x.cps).foldl (· ++ ·) #[]⟩
def mulD : D → D → Store → R D
  | .int i, .int j, S => if mulOk i j then .ok (.int (i * j)) S else .bad
  | .str x, .int n, S => if n ≤ 0 ∧ -(2 ^ 63) ≤ n then .ok (.str Str.empty) S else if n = 1 then .ok (.str x) S else if 2 ≤ n ∧ 0 < x.length ∧ n < 2 ^ 32 ∧ x.length * n.toNat ≤ 16777216 then .ok (.str (repS x n.toNat)) S else .bad
  | _, _, _ => .bad
def fdivD : D → D → Store → R D
  | .int i, .int j, S => if 0 < j ∧ j < 1073741824 then .ok (.int (i / j)) S else .bad
  | _, _, _ => .bad
def modD : D → D → Store → R D
  | .int i, .int j, S => if 0 < j then .ok (.int (i % j)) S else .bad
  | _, _, _ => .bad
def powD : D → D → Store → R D
  | .int i, .int j, S => if 0 ≤ j ∧ j ≤ 1000000 ∧ i.natAbs < 2 ^ 64 then .ok (.int (i ^ j.toNat)) S else .bad
  | _, _, _ => .bad
def negD : D → Store → R D
  | .int i, S => .ok (.int (-i)) S
  | _, _ => .bad
def ltD : D → D → Store → R Bool
  | .int i, .int j, S => .ok (decide (i < j)) S
  | .str x, .str y, S => .ok (decide (x.cps.toList < y.cps.toList)) S
  | _, _, _ => .bad
def leD : D → D → Store → R Bool
  | .int i, .int j, S => .ok (decide (i ≤ j)) S
  | .str x, .str y, S => .ok (!decide (y.cps.toList < x.cps.toList)) S
  | _, _, _ => .bad
def gtD : D → D → Store → R Bool
  | .int i, .int j, S => .ok (decide (j < i)) S
  | _, _, _ => .bad
def geD : D → D → Store → R Bool
  | .int i, .int j, S => .ok (decide (j ≤ i)) S
  | _, _, _ => .bad
section
variable {X : Cx} {cA : Nat → Addr} {W : XK}
theorem op_addM : OpR X (binaryOp .Add) (t2 X.K cA W (rV X.K) addD) := by
  refine OpR.imp ((op_add (X := X)).or ((op_add_str (X := X)).or ((op_catA (X := X)).or (op_cat (X := X))))) fun x y H Q h => ?_
  obtain ⟨ρ, S, d, e, hS, hd, he, h⟩ := h
  unfold addD at h
  split at h
  · unfold RepV at hd he
    exact .inl ⟨_, _, hd, he, h.same hS (by unfold rV RepV; rfl)⟩
  · split at h
    · rename_i hl
      unfold RepV at hd he
      exact .inr (.inl ⟨_, _, hd, he, hl, h.same hS (by unfold rV RepV; rfl)⟩)
    · exact h.elim
  · split at h
    · rename_i xs ys hl
      have hd' := hd
      have he' := he
      unfold RepV at hd he
      obtain ⟨a, vs, ex, h1, r1⟩ := hd
      obtain ⟨b, ws, ey, h2, r2⟩ := he
      have nl1 : vs = [] → xs = [] := fun z => List.eq_nil_of_length_eq_zero (by rw [← r1.length, z]; rfl)
      have nl2 : ws = [] → ys = [] := fun z => List.eq_nil_of_length_eq_zero (by rw [← r2.length, z]; rfl)
      refine .inr (.inr (.inl ⟨a, b, vs, ws, ex, ey, h1, h2, by rw [r1.length, r2.length]; exact hl, fun z => ?_, fun _ z => ?_, fun _ _ p hp => h.tup hS hp (r1.append r2)⟩))
      · rw [nl1 z, List.nil_append] at h
        rw [ey] at he'
        exact h.same hS he'
      · rw [nl2 z, List.append_nil] at h
        rw [ex] at hd'
        exact h.same hS hd'
    · exact h.elim
  · split at h
    · rename_i xs ys e1 e2
      split at h
      · rename_i hl
        obtain ⟨a, vs, ex, ha, h1, r1⟩ := rlst_rep hS hd e1
        obtain ⟨b, ws, ey, hb, h2, r2⟩ := rlst_rep hS he e2
        exact .inr (.inr (.inr ⟨a, b, vs, ws, ex, ey, h1, h2, by rw [r1.length, r2.length]; exact hl, fun p hp => h.new hS hp ⟨_, upd_same, (r1.append r2).ext (Ext.new hp)⟩⟩))
      · exact h.elim
    · exact h.elim
  · exact h.elim
theorem op_subM : OpR X (binaryOp .Sub) (t2 X.K cA W (rV X.K) subD) := by
  refine OpR.imp (op_sub (X := X)) fun x y H Q h => ?_
  obtain ⟨ρ, S, d, e, hS, hd, he, h⟩ := h
  unfold subD at h
  split at h
  · unfold RepV at hd he
    exact ⟨_, _, hd, he, h.same hS (by unfold rV RepV; rfl)⟩
  · exact h.elim
theorem mulOk_of {i j : Int} (h : mulOk i j = true) : CMul i j := by
  unfold mulOk at h
  simp only [Bool.or_eq_true, Bool.and_eq_true, decide_eq_true_eq] at h
  exact h
theorem rep_list (z : Str) : ∀ (n : Nat) (acc : Array Nat), ((List.replicate n z.cps).foldl (· ++ ·) acc).toList = acc.toList ++ (List.replicate n z.cps.toList).flatten
  | 0, acc => by simp
  | n + 1, acc => by
    rw [List.replicate_succ, List.foldl_cons, rep_list z n, List.replicate_succ, List.flatten_cons, Array.toList_append, List.append_assoc]
theorem rep_cs (z : Str) (n : Nat) : (repS z n).cps.toList = (List.replicate n z.cps.toList).flatten := by
  exact (rep_list z n #[]).trans (List.nil_append _)
theorem rep_len (z : Str) (n : Nat) : (repS z n).length = z.length * n := by
  show (repS z n).cps.size = z.cps.size * n
  rw [← Array.length_toList, rep_cs]
  induction n with
  | zero => rfl
  | succ n ih =>
    rw [List.replicate_succ, List.flatten_cons, List.length_append, ih, Array.length_toList, Nat.mul_succ, Nat.add_comm]
theorem op_mulStr : OpR X (binaryOp .Mult) (fun x y H Q => ∃ (z : Str) (n : Int), x = .str z ∧ y = .int n ∧
    ((n ≤ 0 ∧ -(2 ^ 63) ≤ n ∧ Q (.str Str.empty) H) ∨ (n = 1 ∧ Q (.str z) H) ∨ (2 ≤ n ∧ 0 < z.length ∧ n < 2 ^ 32 ∧ z.length * n.toNat ≤ 16777216 ∧ Q (.str (repS z n.toNat)) H))) := by
  intro pins s σ H x y v u Q I rx ry h
  obtain ⟨z, n, rfl, rfl, h⟩ := h
  obtain ⟨t, rfl⟩ := rx
  obtain ⟨t2, rfl⟩ := ry
  have fin : ∀ (r : Str) (tk : Tok), Q (.str r) H → EP X pins σ Q (.str r tk) { s with toks := s.toks + 1 } := fun r tk q => ⟨.str r, H, I.tok _, ⟨_, rfl⟩, q⟩
  rcases h with ⟨h0, h1, q⟩ | ⟨rfl, q⟩ | ⟨h2, h3, h4, h5, q⟩
  · exact PySem.P.mul_str_none (by omega) (by omega) (fin _ _ q)
  · refine PySem.P.mul_str (by decide) (fun _ z => nomatch z) (fun _ z => nomatch z) ?_
    rw [if_neg (by omega), if_pos (by simp)]
    exact ⟨.str z, H, I, ⟨_, rfl⟩, q⟩
  · have c1 : (decide (n < -(2 ^ 63 : Int)) || decide (n ≥ 2 ^ 63)) = false := by
      rw [decide_eq_false (by omega), decide_eq_false (by omega)]; rfl
    have hn : n = ((n.toNat : Nat) : Int) := by omega
    refine PySem.P.mul_str c1 (fun _ _ hz => ?_) (fun _ _ => ?_) ?_
    · have e : (z.length : Int) ≤ (2 ^ 63 - 1) / n := by
        refine (Int.le_ediv_iff_mul_le (by omega)).mpr ?_
        have : ((z.length * n.toNat : Nat) : Int) ≤ ((16777216 : Nat) : Int) := Int.ofNat_le.mpr h5
        rw [Int.natCast_mul, ← hn] at this
        have q : (9223372036854775807 : Int) = 2 ^ 63 - 1 := by decide
        omega
      omega
    · unfold PySem.Builtin.Str.tooLong
      rw [decide_eq_false]
      show ¬ sizeLine < _
      rw [sizeLine_eq]
      omega
    · rw [if_neg (by omega), if_neg]
      · refine ⟨?_, fin _ _ q⟩
        rw [sizeLine_eq]
        exact Nat.le_trans (Nat.le_of_eq (rep_len z n.toNat)) h5
      · simp
        omega
theorem op_mulM : OpR X (binaryOp .Mult) (t2 X.K cA W (rV X.K) mulD) := by
  refine OpR.imp ((op_mul (X := X)).or (op_mulStr (X := X))) fun x y H Q h => ?_
  obtain ⟨ρ, S, d, e, hS, hd, he, h⟩ := h
  unfold mulD at h
  split at h
  · split at h
    · rename_i hm
      unfold RepV at hd he
      exact .inl ⟨_, _, hd, he, mulOk_of hm, h.same hS (by unfold rV RepV; rfl)⟩
    · exact h.elim
  · rename_i z n _
    unfold RepV at hd he
    refine .inr ⟨_, _, hd, he, ?_⟩
    split at h
    · rename_i c
      exact .inl ⟨c.1, c.2, h.same hS (by unfold rV RepV; rfl)⟩
    · split at h
      · rename_i c
        exact .inr (.inl ⟨c, h.same hS (by unfold rV RepV; rfl)⟩)
      · split at h
        · rename_i c1 c2 c3
          exact .inr (.inr ⟨c3.1, c3.2.1, c3.2.2.1, c3.2.2.2, h.same hS (by unfold rV RepV; rfl)⟩)
        · exact h.elim
  · exact h.elim
theorem op_fdivM : OpR X (binaryOp .FloorDiv) (t2 X.K cA W (rV X.K) fdivD) := by
  refine OpR.imp (op_fdiv (X := X)) fun x y H Q h => ?_
  obtain ⟨ρ, S, d, e, hS, hd, he, h⟩ := h
  unfold fdivD at h
  split at h
  · split at h
    · rename_i hm
      unfold RepV at hd he
      exact ⟨_, _, hd, he, hm, h.same hS (by unfold rV RepV; rfl)⟩
    · exact h.elim
  · exact h.elim
theorem op_modM : OpR X (binaryOp .Mod) (t2 X.K cA W (rV X.K) modD) := by
  refine OpR.imp (op_mod (X := X)) fun x y H Q h => ?_
  obtain ⟨ρ, S, d, e, hS, hd, he, h⟩ := h
  unfold modD at h
  split at h
  · split at h
    · rename_i hm
      unfold RepV at hd he
      exact ⟨_, _, hd, he, hm, h.same hS (by unfold rV RepV; rfl)⟩
    · exact h.elim
  · exact h.elim
theorem op_powM : OpR X (binaryOp .Pow) (t2 X.K cA W (rV X.K) powD) := by
  refine OpR.imp (op_pow (X := X)) fun x y H Q h => ?_
  obtain ⟨ρ, S, d, e, hS, hd, he, h⟩ := h
  unfold powD at h
  split at h
  · split at h
    · rename_i hm
      unfold RepV at hd he
      exact ⟨_, _, hd, he, hm, h.same hS (by unfold rV RepV; rfl)⟩
    · exact h.elim
  · exact h.elim
theorem un_negM : UnR X (unaryOp .USub) (t1 X.K cA W (rV X.K) negD) := by
  refine fun pins s σ H x v Q I rx h => un_neg pins s σ H x v Q I rx ?_
  obtain ⟨ρ, S, d, hS, hd, h⟩ := h
  unfold negD at h
  split at h
  · unfold RepV at hd
    exact ⟨_, hd, h.same hS (by unfold rV RepV; rfl)⟩
  · exact h.elim
/-- a comparison's reading -/
abbrev tC2 (K : PySem.W.Frag) (cA : Nat → Addr) (W : XK) (f : D → D → Store → R Bool) : R2 := fun x y H Q => t2 K cA W rId f x y H fun b H' => Q (.bl b) H'
theorem op_ltM : OpR X (compareOp .Lt) (tC2 X.K cA W ltD) := by
  refine OpR.imp ((op_lt (X := X)).or (op_lt_str (X := X))) fun x y H Q h => ?_
  obtain ⟨ρ, S, d, e, hS, hd, he, h⟩ := h
  unfold ltD at h
  split at h
  · unfold RepV at hd he
    exact .inl ⟨_, _, hd, he, h.same hS rfl⟩
  · unfold RepV at hd he
    exact .inr ⟨_, _, hd, he, h.same hS rfl⟩
  · exact h.elim
theorem op_leM : OpR X (compareOp .LtE) (tC2 X.K cA W leD) := by
  refine OpR.imp ((op_le (X := X)).or (op_le_str (X := X))) fun x y H Q h => ?_
  obtain ⟨ρ, S, d, e, hS, hd, he, h⟩ := h
  unfold leD at h
  split at h
  · unfold RepV at hd he
    exact .inl ⟨_, _, hd, he, h.same hS rfl⟩
  · unfold RepV at hd he
    exact .inr ⟨_, _, hd, he, h.same hS rfl⟩
  · exact h.elim
theorem op_gtM : OpR X (compareOp .Gt) (tC2 X.K cA W gtD) := by
  refine OpR.imp (op_gt (X := X)) fun x y H Q h => ?_
  obtain ⟨ρ, S, d, e, hS, hd, he, h⟩ := h
  unfold gtD at h
  split at h
  · unfold RepV at hd he
    exact ⟨_, _, hd, he, h.same hS rfl⟩
  · exact h.elim
theorem op_geM : OpR X (compareOp .GtE) (tC2 X.K cA W geD) := by
  refine OpR.imp (op_ge (X := X)) fun x y H Q h => ?_
  obtain ⟨ρ, S, d, e, hS, hd, he, h⟩ := h
  unfold geD at h
  split at h
  · unfold RepV at hd he
    exact ⟨_, _, hd, he, h.same hS rfl⟩
  · exact h.elim
end
end ML

set_option Elab.async false
set_option linter.all false
set_option maxRecDepth 100000
set_option autoImplicit false
/-! ML3: equality, membership, length, truth, kinds, items, slices. -/
namespace ML
open PySem PySem.Spec L2

/-! ### equality -/
def mapO {α β : Type} (f : α → Option β) : List α → Option (List β)
  | [] => some []
  | x :: xs => match f x, mapO f xs with
    | some y, some ys => some (y :: ys)
    | _, _ => none
def toPy (S : Store) : Nat → D → Option PyData
  | _, .non => some .none
  | _, .bl b => some (.bool b)
  | _, .int i => some (.int i)
  | _, .str x => some (.str x)
  | _, .exn _ => none
  | _, .exf _ _ _ => none
  | 0, _ => none
  | k + 1, .tup xs => (mapO (toPy S k) xs).map .tuple
  | k + 1, .lis xs => (mapO (toPy S k) xs).map .list
  | k + 1, .ref n => match lstAt S n with
    | some xs => (mapO (toPy S k) xs).map .list
    | none => none
def eqPy (S : Store) (d e : D) : Option Bool := match toPy S 64 d, toPy S 64 e with
  | some a, some b => if SeqAt.shaped a = true ∧ SeqAt.shaped b = true then some (PyData.eqv a b) else none
  | _, _ => none
def eqO (S : Store) : D → D → Option Bool
  | .str x, .str y => some (decide (x = y))
  | .str _, .non => some false
  | .str _, .int _ => some false
  | .str _, .bl _ => some false
  | .non, .str _ => some false
  | .int _, .str _ => some false
  | .bl _, .str _ => some false
  | d, e => eqPy S d e
def eqD (d e : D) (S : Store) : R Bool := match eqO S d e with
  | some b => .ok b S
  | none => .bad
def neD (d e : D) (S : Store) : R Bool := match eqO S d e with
  | some b => .ok (!b) S
  | none => .bad
section
variable {K : PySem.W.Frag} {cA : Nat → Addr} {ρ : List Addr} {H : Hp} {S : Store}
theorem toPy_rep (hS : Reps K cA ρ H S) : ∀ (k : Nat) (d : D) (v : V) (p : PyData), toPy S k d = some p → RepV K ρ H d v → Dp K H v p
  | k, .non, v, p, h, r => by unfold RepV at r; subst r; cases k <;> (cases h; exact .non)
  | k, .bl b, v, p, h, r => by unfold RepV at r; subst r; cases k <;> (cases h; exact .bl b)
  | k, .int i, v, p, h, r => by unfold RepV at r; subst r; cases k <;> (cases h; exact .int i)
  | k, .str x, v, p, h, r => by unfold RepV at r; subst r; cases k <;> (cases h; exact .str x)
  | 0, .tup xs, v, p, h, r => nomatch h
  | 0, .lis xs, v, p, h, r => nomatch h
  | 0, .ref n, v, p, h, r => nomatch h
  | _, .exn a, v, p, h, r => by
    unfold toPy at h
    cases h
  | _, .exf a d fs, v, p, h, r => by
    unfold toPy at h
    cases h
  | k + 1, .tup xs, v, p, h, r => by
    unfold RepV at r
    obtain ⟨a, vs, rfl, hs, hr⟩ := r
    have h : (mapO (toPy S k) xs).map PyData.tuple = some p := h
    obtain ⟨ps, e, rfl⟩ := Option.map_eq_some_iff.mp h
    exact .tup hs (all k xs vs ps e hr)
  | k + 1, .lis xs, v, p, h, r => by
    unfold RepV at r
    obtain ⟨a, vs, rfl, hs, hr⟩ := r
    have h : (mapO (toPy S k) xs).map PyData.list = some p := h
    obtain ⟨ps, e, rfl⟩ := Option.map_eq_some_iff.mp h
    exact .lst hs.sq (all k xs vs ps e hr)
  | k + 1, .ref n, v, p, h, r => by
    unfold toPy at h
    cases e : lstAt S n with
    | none => rw [e] at h; cases h
    | some xs =>
      rw [e] at h
      obtain ⟨a, vs, rfl, _, hs, hr⟩ := rlst_rep hS r e
      obtain ⟨ps, e, rfl⟩ := Option.map_eq_some_iff.mp h
      exact .lst (SqL.of hs) (all k xs vs ps e hr)
where
  all (k : Nat) : ∀ (xs : List D) (vs : List V) (ps : List PyData), mapO (toPy S k) xs = some ps → RepVs K ρ H xs vs → DpAll K H vs ps
  | [], vs, ps, h, r => by unfold RepVs at r; subst r; cases h; exact .nil
  | x :: xs, vs, ps, h, r => by
    unfold RepVs at r
    obtain ⟨v, q, rfl, h1, h2⟩ := r
    unfold mapO at h
    split at h
    · rename_i y ys e1 e2
      cases h
      exact .cons (toPy_rep hS k x v y e1 h1) (all k xs q ys e2 h2)
    · cases h
end
section
variable {X : Cx} {cA : Nat → Addr} {W : XK}
theorem eqO_rep {K : PySem.W.Frag} {ρ : List Addr} {H : Hp} {S : Store} (hS : Reps K cA ρ H S) {d e : D} {x y : V} {b : Bool} (hd : RepV K ρ H d x) (he : RepV K ρ H e y) (h : eqO S d e = some b) :
    (scal x y = true ∧ b = decide (x = y)) ∨ ∃ p q, Dp K H x p ∧ Dp K H y q ∧ SeqAt.shaped p = true ∧ SeqAt.shaped q = true ∧ b = PyData.eqv p q := by
  unfold eqO at h
  split at h
  all_goals first
    | (unfold RepV at hd he; subst hd he; cases h; exact .inl ⟨rfl, by simp⟩)
    | skip
  unfold eqPy at h
  split at h
  · rename_i p q e1 e2
    split at h
    · rename_i hz
      cases h
      exact .inr ⟨p, q, toPy_rep hS _ _ _ _ e1 hd, toPy_rep hS _ _ _ _ e2 he, hz.1, hz.2, rfl⟩
    · cases h
  · cases h
theorem op_eqM (hu : X.A.units + 64 < cLine) : OpR X (compareOp .Eq) (tC2 X.K cA W eqD) := by
  refine OpR.imp ((op_eq (X := X)).or (op_eqD (X := X) hu)) fun x y H Q h => ?_
  obtain ⟨ρ, S, d, e, hS, hd, he, h⟩ := h
  unfold eqD at h
  split at h
  · rename_i b hb
    have q := h.same hS rfl
    rcases eqO_rep hS hd he hb with ⟨h1, h2⟩ | ⟨p, r, h1, h2, h3, h4, h5⟩
    · subst h2; exact .inl ⟨h1, q⟩
    · subst h5; exact .inr ⟨p, r, h1, h2, h3, h4, q⟩
  · exact h.elim
theorem op_neM (hu : X.A.units + 64 < cLine) : OpR X (compareOp .NotEq) (tC2 X.K cA W neD) := by
  refine OpR.imp ((op_ne (X := X)).or (op_neD (X := X) hu)) fun x y H Q h => ?_
  obtain ⟨ρ, S, d, e, hS, hd, he, h⟩ := h
  unfold neD at h
  split at h
  · rename_i b hb
    have q := h.same hS rfl
    rcases eqO_rep hS hd he hb with ⟨h1, h2⟩ | ⟨p, r, h1, h2, h3, h4, h5⟩
    · subst h2; exact .inl ⟨h1, q⟩
    · subst h5; exact .inr ⟨p, r, h1, h2, h3, h4, q⟩
  · exact h.elim
end

/-! ### is -/
def isD : D → D → Store → R Bool
  | .non, .non, S => .ok true S
  | _, .non, S => .ok false S
  | .bl a, .bl b, S => .ok (decide (a = b)) S
  | _, _, _ => .bad
def isNotD : D → D → Store → R Bool
  | .non, .non, S => .ok false S
  | _, .non, S => .ok true S
  | .bl a, .bl b, S => .ok (!decide (a = b)) S
  | _, _, _ => .bad
theorem rep_non {K : PySem.W.Frag} {ρ : List Addr} {H : Hp} {d : D} {v : V} (h : RepV K ρ H d v) : v = .non ↔ d = .non := by
  cases d with
  | non => unfold RepV at h; simp [h]
  | bl b => unfold RepV at h; simp [h]
  | int b => unfold RepV at h; simp [h]
  | str b => unfold RepV at h; simp [h]
  | tup b => unfold RepV at h; obtain ⟨a, vs, e, _⟩ := h; simp [e]
  | lis b => unfold RepV at h; obtain ⟨a, vs, e, _⟩ := h; simp [e]
  | ref b => unfold RepV at h; obtain ⟨a, _, e⟩ := h; simp [e]
  | exn b => unfold RepV at h; simp [h]
  | exf b d fs => unfold RepV at h; simp [h.1]
section
variable {X : Cx} {cA : Nat → Addr} {W : XK}
theorem op_isM : OpR X (compareOp .Is) (tC2 X.K cA W isD) := by
  refine OpR.imp ((op_isN (X := X)).or (op_is_bl (X := X))) fun x y H Q h => ?_
  obtain ⟨ρ, S, d, e, hS, hd, he, h⟩ := h
  unfold isD at h
  split at h
  · unfold RepV at hd he
    exact .inl ⟨he, by rw [hd]; exact h.same hS rfl⟩
  · rename_i hn
    have q := h.same hS rfl
    unfold RepV at he
    refine .inl ⟨he, ?_⟩
    have : ¬ x = .non := fun z => hn ((rep_non hd).mp z)
    rw [decide_eq_false this]
    exact q
  · unfold RepV at hd he
    exact .inr ⟨_, _, hd, he, h.same hS rfl⟩
  · exact h.elim
theorem op_isNotM : OpR X (compareOp .IsNot) (tC2 X.K cA W isNotD) := by
  refine OpR.imp ((op_notN (X := X)).or (op_isnot_bl (X := X))) fun x y H Q h => ?_
  obtain ⟨ρ, S, d, e, hS, hd, he, h⟩ := h
  unfold isNotD at h
  split at h
  · unfold RepV at hd he
    exact .inl ⟨he, by rw [hd]; exact h.same hS rfl⟩
  · rename_i hn
    have q := h.same hS rfl
    unfold RepV at he
    refine .inl ⟨he, ?_⟩
    have : ¬ x = .non := fun z => hn ((rep_non hd).mp z)
    rw [decide_eq_false this]
    exact q
  · unfold RepV at hd he
    exact .inr ⟨_, _, hd, he, h.same hS rfl⟩
  · exact h.elim
end

/-! ### in -/
def flatO : D → Option V
  | .non => some .non
  | .bl b => some (.bl b)
  | .int i => some (.int i)
  | .str x => some (.str x)
  | _ => none
def keyO : D → Option Key
  | .int i => some (.inl i)
  | .str x => some (.inr x)
  | _ => none
def dLook (kvs : List (Key × D)) (k : Key) : Option D := (kvs.find? fun kv => decide (kv.1 = k)).map (·.2)
def dPut (kvs : List (Key × D)) (k : Key) (v : D) : List (Key × D) :=
  if (kvs.any fun kv => decide (kv.1 = k)) = true then kvs.map (fun kv => if kv.1 = k then (kv.1, v) else kv) else kvs ++ [(k, v)]
def dDrop (kvs : List (Key × D)) (k : Key) : List (Key × D) := kvs.filter fun kv => decide (kv.1 ≠ k)
/-- one sign -/
def signO : D → Option Nat
  | .str x => match x.cps.toList with
    | [c] => some c
    | _ => none
  | _ => none
def inO (S : Store) (x y : D) : Option Bool := match y with
  | .str z => (signO x).map fun c => decide (c ∈ z.cps.toList)
  | _ => match seqOf S y with
    | some ys => match flatO x, mapO flatO ys with
      | some v, some vs => some (inV v vs)
      | _, _ => none
    | none => match y with
      | .ref n => match kvAt S n, keyO x with
        | some kvs, some k => some (dLook kvs k).isSome
        | _, _ => none
      | _ => none
def inD (x y : D) (S : Store) : R Bool := match inO S x y with
  | some b => .ok b S
  | none => .bad
def notInD (x y : D) (S : Store) : R Bool := match inO S x y with
  | some b => .ok (!b) S
  | none => .bad
section
variable {K : PySem.W.Frag} {cA : Nat → Addr} {ρ : List Addr} {H : Hp} {S : Store}
theorem flat_rep {d : D} {v w : V} (h : flatO d = some w) (r : RepV K ρ H d v) : v = w ∧ flatV w = true := by
  cases d with
  | non => unfold RepV at r; subst r; cases h; exact ⟨rfl, rfl⟩
  | bl b => unfold RepV at r; subst r; cases h; exact ⟨rfl, rfl⟩
  | int b => unfold RepV at r; subst r; cases h; exact ⟨rfl, rfl⟩
  | str b => unfold RepV at r; subst r; cases h; exact ⟨rfl, rfl⟩
  | _ => cases h
theorem flats_rep : ∀ {ds : List D} {vs ws : List V}, mapO flatO ds = some ws → RepVs K ρ H ds vs → vs = ws ∧ ws.all flatV = true
  | [], vs, ws, h, r => by unfold RepVs at r; subst r; cases h; exact ⟨rfl, rfl⟩
  | d :: ds, vs, ws, h, r => by
    unfold RepVs at r
    obtain ⟨v, q, rfl, h1, h2⟩ := r
    unfold mapO at h
    split at h
    · rename_i y ys e1 e2
      cases h
      obtain ⟨rfl, f1⟩ := flat_rep e1 h1
      obtain ⟨rfl, f2⟩ := flats_rep e2 h2
      exact ⟨rfl, by rw [List.all_cons, f1, f2]; rfl⟩
    · cases h
theorem key_rep {d : D} {v : V} {k : Key} (h : keyO d = some k) (r : RepV K ρ H d v) : v = kV k := by
  cases d with
  | int b => unfold RepV at r; subst r; cases h; rfl
  | str b => unfold RepV at r; subst r; cases h; rfl
  | _ => cases h
theorem sign_rep {d : D} {v : V} {c : Nat} (h : signO d = some c) (r : RepV K ρ H d v) : v = .str ⟨#[c]⟩ := by
  cases d with
  | str x =>
    unfold RepV at r
    unfold signO at h
    simp only at h
    split at h
    · rename_i c' e
      cases h
      rw [r]
      exact congrArg V.str (Str.ext' (Array.toList_inj.mp e))
    · cases h
  | _ => cases h
theorem look_rep : ∀ {kvs : List (Key × D)} {ps : List (Key × V)} (k : Key), RepP K ρ H kvs ps →
    match dLook kvs k with
    | some d => ∃ v, valV ps k = some v ∧ RepV K ρ H d v
    | none => valV ps k = none
  | [], ps, k, r => by unfold RepP at r; subst r; rfl
  | (j, x) :: kvs, ps, k, r => by
    unfold RepP at r
    obtain ⟨v, q, rfl, h1, h2⟩ := r
    by_cases e : j = k
    · have e1 : dLook ((j, x) :: kvs) k = some x := by simp [dLook, e]
      rw [e1]
      exact ⟨v, valV_pos e, h1⟩
    · have e1 : dLook ((j, x) :: kvs) k = dLook kvs k := by simp [dLook, List.find?_cons, e]
      rw [e1, valV_neg (p := (j, v)) e]
      exact look_rep k h2
theorem lookS_rep {kvs : List (Key × D)} {ps : List (Key × V)} (k : Key) (r : RepP K ρ H kvs ps) : (valV ps k).isSome = (dLook kvs k).isSome := by
  have h := look_rep k r
  split at h
  · rename_i d e; obtain ⟨v, h1, _⟩ := h; rw [h1, e]; rfl
  · rename_i e; rw [h, e]; rfl
theorem inO_rep (hS : Reps K cA ρ H S) {d e : D} {x y : V} {b : Bool} (hd : RepV K ρ H d x) (he : RepV K ρ H e y) (h : inO S d e = some b) :
    (∃ (c : Nat) (z : Str), x = .str ⟨#[c]⟩ ∧ y = .str z ∧ b = decide (c ∈ z.cps.toList)) ∨
    (∃ p xs, y = .ref p ∧ (SqL K H p xs ∨ SqT K H p xs) ∧ flatV x = true ∧ xs.all flatV = true ∧ b = inV x xs) ∨
    ∃ a o, y = .ref a ∧ DGet H a x o ∧ b = o.isSome := by
  unfold inO at h
  split at h
  · rename_i z
    unfold RepV at he
    cases es : signO d with
    | none => rw [es] at h; cases h
    | some c =>
      rw [es] at h
      cases h
      exact .inl ⟨c, z, sign_rep es hd, he, rfl⟩
  · split at h
    · rename_i ys ey
      obtain ⟨p, vs, rfl, hq, hr⟩ := seq_rep hS he ey
      split at h
      · rename_i v ws e1 e2
        cases h
        obtain ⟨rfl, f1⟩ := flat_rep e1 hd
        obtain ⟨rfl, f2⟩ := flats_rep e2 hr
        exact .inr (.inl ⟨p, vs, rfl, hq, f1, f2, rfl⟩)
      · cases h
    · split at h
      · split at h
        · rename_i kvs k e1 e2
          cases h
          obtain ⟨a, ps, rfl, ha, hp, hr⟩ := rkv_rep hS he e1
          have ek := key_rep e2 hd
          subst ek
          exact .inr (.inr ⟨a, _, rfl, (.inl ⟨ps, k, hp, rfl, rfl⟩ : DGet H a (kV k) (valV ps k)), (lookS_rep k hr).symm⟩)
        · cases h
      · cases h
end
section
variable {X : Cx} {cA : Nat → Addr} {W : XK}
theorem op_inDict (hu : X.A.units + 1 < cLine) : OpR X (compareOp .In) (fun x y H Q => ∃ a o, y = .ref a ∧ DGet H a x o ∧ Q (.bl o.isSome) H) := by
  intro pins s σ H x y v u Q I rx ry h
  obtain ⟨a, o, rfl, g, q⟩ := h
  obtain rfl : u = Value.ref a := ry
  exact d_in hu I g rx fun s3 I3 => ⟨.bl o.isSome, H, I3, rfl, q⟩
theorem op_notInDict (hu : X.A.units + 1 < cLine) : OpR X (compareOp .NotIn) (fun x y H Q => ∃ a o, y = .ref a ∧ DGet H a x o ∧ Q (.bl (!o.isSome)) H) := by
  intro pins s σ H x y v u Q I rx ry h
  obtain ⟨a, o, rfl, g, q⟩ := h
  obtain rfl : u = Value.ref a := ry
  exact d_notIn hu I g rx fun s3 I3 => ⟨.bl (!o.isSome), H, I3, rfl, q⟩
theorem op_inM (hu : X.A.units + 1 < cLine) : OpR X (compareOp .In) (tC2 X.K cA W inD) := by
  refine OpR.imp ((op_in_sign (X := X)).or ((op_in_seq (X := X)).or (op_inDict (X := X) hu))) fun x y H Q h => ?_
  obtain ⟨ρ, S, d, e, hS, hd, he, h⟩ := h
  unfold inD at h
  split at h
  · rename_i b hb
    have q := h.same hS rfl
    rcases inO_rep hS hd he hb with ⟨c, z, h1, h2, h3⟩ | ⟨p, xs, h1, h2, h3, h4, h5⟩ | ⟨a, o, h1, h2, h3⟩
    · subst h3; exact .inl ⟨c, z, h1, h2, q⟩
    · subst h5; exact .inr (.inl ⟨p, xs, h1, h2, h3, h4, q⟩)
    · subst h3; exact .inr (.inr ⟨a, o, h1, h2, q⟩)
  · exact h.elim
theorem op_notInM (hu : X.A.units + 1 < cLine) : OpR X (compareOp .NotIn) (tC2 X.K cA W notInD) := by
  refine OpR.imp ((op_notIn_sign (X := X)).or ((op_notIn_seq (X := X)).or (op_notInDict (X := X) hu))) fun x y H Q h => ?_
  obtain ⟨ρ, S, d, e, hS, hd, he, h⟩ := h
  unfold notInD at h
  split at h
  · rename_i b hb
    have q := h.same hS rfl
    rcases inO_rep hS hd he hb with ⟨c, z, h1, h2, h3⟩ | ⟨p, xs, h1, h2, h3, h4, h5⟩ | ⟨a, o, h1, h2, h3⟩
    · subst h3; exact .inl ⟨c, z, h1, h2, q⟩
    · subst h5; exact .inr (.inl ⟨p, xs, h1, h2, h3, h4, q⟩)
    · subst h3; exact .inr (.inr ⟨a, o, h1, h2, q⟩)
  · exact h.elim
end
end ML

set_option Elab.async false
set_option linter.all false
set_option maxRecDepth 100000
set_option autoImplicit false
/-! ML4: expressions. -/
namespace ML
open PySem PySem.Spec L2

/-! ### chaining -/
def Mono {α β : Type} (rep : Rel α β) : Prop := ∀ (H0 : Hp) (ρ : List Addr) (H : Hp) (ρ' : List Addr) (H' : Hp) (a : α) (b : β), Ext ρ H ρ' H' → rep H0 ρ H a b → rep H0 ρ' H' a b
theorem mo_V {K : PySem.W.Frag} : Mono (rV K) := fun _ _ _ _ _ _ _ e h => h.ext e
theorem mo_Vs {K : PySem.W.Frag} : Mono (rVs K) := fun _ _ _ _ _ _ _ e h => h.ext e
theorem mo_Id {α : Type} : Mono (rId (α := α)) := fun _ _ _ _ _ _ _ _ h => h
theorem mo_New {K : PySem.W.Frag} : Mono (rNew K) := fun H0 ρ H ρ' H' a b e h => by
  obtain ⟨p, vs, ev, h0, h1, h2, h3⟩ := h
  refine ⟨p, vs, ev, h0, fun hm => ?_, e.keep p _ h2 h1, h3.ext e⟩
  obtain ⟨r, er, nr⟩ := e.pre
  rw [er] at hm
  rcases List.mem_append.mp hm with z | z
  · exact h1 z
  · have := nr p z
    rw [h2] at this; cases this
section
variable {K : PySem.W.Frag} {cA : Nat → Addr} {W : XK} {α β γ δ ε ζ η θ : Type} {rep : Rel γ δ} {rep1 : Rel α β} {rep2 : Rel ε ζ} {rep3 : Rel η θ}
theorem bind1 (st : Stable rep) {m : Loc → Store → R α} {f : α → Store → R γ} {σ : L2.St} {H : Hp} {Q : δ → Hp → Prop}
    (h : tG K cA W rep (fun l S => (m l S).bind f) σ H Q) :
    tG K cA W rep1 m σ H fun x H1 => ∃ ρ S a, Reps K cA ρ H1 S ∧ rep1 H ρ H1 a x ∧ After K cA W ρ H1 rep (f a S) Q := by
  obtain ⟨ρ, S, l, hS, hl, h⟩ := h
  refine ⟨ρ, S, l, hS, hl, (After.bind (rep := rep1) st h).imp fun x H1 q => ?_⟩
  obtain ⟨ρ1, S1, a, _, h1, h2, h3⟩ := q
  exact ⟨ρ1, S1, a, h1, h2, h3⟩
theorem bind1L (st : Stable rep) {m : Loc → Store → R α} {f : Loc → α → Store → R γ} {σ : L2.St} {H : Hp} {Q : δ → Hp → Prop}
    (h : tG K cA W rep (fun l S => (m l S).bind (f l)) σ H Q) :
    tG K cA W rep1 m σ H fun x H1 => ∃ ρ S l a, Reps K cA ρ H1 S ∧ RepL K ρ H1 l σ ∧ rep1 H ρ H1 a x ∧ After K cA W ρ H1 rep (f l a S) Q := by
  obtain ⟨ρ, S, l, hS, hl, h⟩ := h
  refine ⟨ρ, S, l, hS, hl, (After.bind (rep := rep1) st h).imp fun x H1 q => ?_⟩
  obtain ⟨ρ1, S1, a, e, h1, h2, h3⟩ := q
  exact ⟨ρ1, S1, l, a, h1, hl.ext e, h2, h3⟩
theorem bind2 (st : Stable rep) (mo : Mono rep1) {m : Loc → Store → R α} {n : Loc → Store → R ε} {f : α → ε → Store → R γ} {σ : L2.St} {H : Hp} {Q : δ → Hp → Prop}
    (h : tG K cA W rep (fun l S => (m l S).bind fun a S1 => (n l S1).bind (f a)) σ H Q) :
    tG K cA W rep1 m σ H fun x H1 => tG K cA W rep2 n σ H1 fun y H2 => ∃ ρ S a b, Reps K cA ρ H2 S ∧ rep1 H ρ H2 a x ∧ rep2 H1 ρ H2 b y ∧ After K cA W ρ H2 rep (f a b S) Q := by
  obtain ⟨ρ, S, l, hS, hl, h⟩ := h
  refine ⟨ρ, S, l, hS, hl, (After.bind (rep := rep1) st h).imp fun x H1 q => ?_⟩
  obtain ⟨ρ1, S1, a, e1, h1, h2, h3⟩ := q
  refine ⟨ρ1, S1, l, h1, hl.ext e1, (After.bind (rep := rep2) st h3).imp fun y H2 q => ?_⟩
  obtain ⟨ρ2, S2, b, e2, h4, h5, h6⟩ := q
  exact ⟨ρ2, S2, a, b, h4, mo _ _ _ _ _ _ _ e2 h2, h5, h6⟩
theorem bind3 (st : Stable rep) (mo : Mono rep1) (mo2 : Mono rep2) {m : Loc → Store → R α} {n : Loc → Store → R ε} {o : Loc → Store → R η} {f : α → ε → η → Store → R γ} {σ : L2.St} {H : Hp} {Q : δ → Hp → Prop}
    (h : tG K cA W rep (fun l S => (m l S).bind fun a S1 => (n l S1).bind fun b S2 => (o l S2).bind (f a b)) σ H Q) :
    tG K cA W rep1 m σ H fun x H1 => tG K cA W rep2 n σ H1 fun y H2 => tG K cA W rep3 o σ H2 fun z H3 =>
      ∃ ρ S a b c, Reps K cA ρ H3 S ∧ rep1 H ρ H3 a x ∧ rep2 H1 ρ H3 b y ∧ rep3 H2 ρ H3 c z ∧ After K cA W ρ H3 rep (f a b c S) Q := by
  obtain ⟨ρ, S, l, hS, hl, h⟩ := h
  refine ⟨ρ, S, l, hS, hl, (After.bind (rep := rep1) st h).imp fun x H1 q => ?_⟩
  obtain ⟨ρ1, S1, a, e1, h1, h2, h3⟩ := q
  refine ⟨ρ1, S1, l, h1, hl.ext e1, (After.bind (rep := rep2) st h3).imp fun y H2 q => ?_⟩
  obtain ⟨ρ2, S2, b, e2, h4, h5, h6⟩ := q
  refine ⟨ρ2, S2, l, h4, (hl.ext e1).ext e2, (After.bind (rep := rep3) st h6).imp fun z H3 q => ?_⟩
  obtain ⟨ρ3, S3, c, e3, h7, h8, h9⟩ := q
  exact ⟨ρ3, S3, a, b, c, h7, mo _ _ _ _ _ _ _ e3 (mo _ _ _ _ _ _ _ e2 h2), mo2 _ _ _ _ _ _ _ e3 h5, h8, h9⟩
theorem tG.imp {m : Loc → Store → R γ} {σ : L2.St} {H : Hp} {Q Q' : δ → Hp → Prop} (h : tG K cA W rep m σ H Q) (q : ∀ b H', Q b H' → Q' b H') : tG K cA W rep m σ H Q' :=
  let ⟨ρ, S, l, hS, hl, h⟩ := h; ⟨ρ, S, l, hS, hl, h.imp q⟩
end

/-! ### names, constants -/
def varE (i : Nat) : ME := fun l S => match l[i]? with
  | some (some d) => .ok d S
  | _ => .bad
def conE (d : D) : ME := fun _ S => .ok d S
section
variable {X : Cx} {cA : Nat → Addr} {W : XK} {pos : Pos}
theorem mvar {i : Nat} {x : Str} (hN : X.N[i]? = some x) (hv : Vis X.env.scope x) (hd : (x == ("__debug__" : Str)) = false := by decide) (hcd : (x == ("__classdict__" : Str)) = false := by decide) : PE X (.Name x pos) (tE X.K cA W (varE i)) :=
  (pe_var hN hv hd hcd).imp fun σ H Q h => by
    obtain ⟨ρ, S, l, hS, hl, h⟩ := h
    unfold varE at h
    split at h
    · rename_i d e
      obtain ⟨v, hv, r⟩ := hl.at_ i d e
      exact ⟨v, hv, h.same hS r⟩
    · exact h.elim
theorem mcon {e : Expr} {d : D} {v : V} (h : PE X e (tC v)) (hr : ∀ (ρ : List Addr) (H : Hp), RepV X.K ρ H d v) : PE X e (tE X.K cA W (conE d)) :=
  h.imp fun σ H Q q => by
    obtain ⟨ρ, S, l, hS, hl, q⟩ := q
    exact After.same q hS (hr ρ H)
theorem mint {i : Int} {j : Nat} : PE X (.Constant (.int i) j pos) (tE X.K cA W (conE (.int i))) := mcon pe_int fun ρ H => by unfold RepV; rfl
theorem mstr {x : Str} {j : Nat} : PE X (.Constant (.str x) j pos) (tE X.K cA W (conE (.str x))) := mcon pe_str fun ρ H => by unfold RepV; rfl
theorem mbl {b : Bool} {j : Nat} : PE X (.Constant (.bool b) j pos) (tE X.K cA W (conE (.bl b))) := mcon pe_bl fun ρ H => by unfold RepV; rfl
theorem mnon {j : Nat} : PE X (.Constant .none j pos) (tE X.K cA W (conE .non)) := mcon pe_non fun ρ H => by unfold RepV; rfl
/-- a number that stands at the module -/
theorem mgint {x : Str} {i : Int} (hg : Gl X x) (hm : ∃ t, X.mg x = some (.int i t)) (hd : (x == ("__debug__" : Str)) = false := by decide) : PE X (.Name x pos) (tE X.K cA W (conE (.int i))) := by
  obtain ⟨t, hm⟩ := hm
  exact mcon (pe_glob (v := .int i) hg hm ⟨t, rfl⟩ hd) fun ρ H => by unfold RepV; rfl
/-- a tuple that stands at the module -/
theorem mgtup {x : Str} {ds : List D} {vs : List V} {a : Addr} (hg : Gl X x) (hm : X.mg x = some (.ref a)) (hs : ∀ H, SqT X.K H a vs) (hr : ∀ ρ H, RepVs X.K ρ H ds vs) (hd : (x == ("__debug__" : Str)) = false := by decide) : PE X (.Name x pos) (tE X.K cA W (conE (.tup ds))) :=
  mcon (pe_glob (v := .ref a) hg hm rfl hd) fun ρ H => by unfold RepV; exact ⟨a, vs, rfl, hs H, hr ρ H⟩
end

/-! ### operators -/
def binE (f : D → D → Store → R D) (m n : ME) : ME := fun l S => (m l S).bind fun a S1 => (n l S1).bind (f a)
def unE (f : D → Store → R D) (m : ME) : ME := fun l S => (m l S).bind f
def cmpM (f : D → D → Store → R Bool) (m n : ME) : MB := fun l S => (m l S).bind fun a S1 => (n l S1).bind (f a)
def toV (m : MB) : ME := fun l S => (m l S).bind fun b S1 => .ok (.bl b) S1
def chainM (f g : D → D → Store → R Bool) (m n o : ME) : MB := fun l S => (m l S).bind fun a S1 => (n l S1).bind fun b S2 => (f a b S2).bind fun t S3 => if t = true then (o l S3).bind (g b) else .ok false S3
def andM (m n : MB) : MB := fun l S => (m l S).bind fun b S1 => if b = true then n l S1 else .ok false S1
def orM (m n : MB) : MB := fun l S => (m l S).bind fun b S1 => if b = true then .ok true S1 else n l S1
def notM (m : MB) : MB := fun l S => (m l S).bind fun b S1 => .ok (!b) S1
def isBl : D → Option Bool
  | .bl b => some b
  | _ => none
def ofV (m : ME) : MB := fun l S => (m l S).bind fun d S1 => match isBl d with
  | some b => .ok b S1
  | none => .bad
def andV (m : MB) (n : ME) : ME := fun l S => (m l S).bind fun b S1 => if b = true then n l S1 else .ok (.bl false) S1
def orV (m : MB) (n : ME) : ME := fun l S => (m l S).bind fun b S1 => if b = true then .ok (.bl true) S1 else n l S1
def ifE (c : MB) (m n : ME) : ME := fun l S => (c l S).bind fun b S1 => if b = true then m l S1 else n l S1
section
variable {X : Cx} {cA : Nat → Addr} {W : XK} {pos : Pos} {a b c : Expr} {m n o : ME} {p q : MB} {f g : D → D → Store → R Bool}
theorem mbin {op : Operator} {f : D → D → Store → R D} (ho : OpR X (binaryOp op) (t2 X.K cA W (rV X.K) f)) (ha : PE X a (tE X.K cA W m)) (hb : PE X b (tE X.K cA W n)) : PE X (.BinOp a op b pos) (tE X.K cA W (binE f m n)) :=
  (pe_op ho ha hb).imp fun σ H Q h => bind2 st_V mo_V h
theorem mun {op : UnaryOp} {f : D → Store → R D} (ho : UnR X (unaryOp op) (t1 X.K cA W (rV X.K) f)) (ha : PE X a (tE X.K cA W m)) : PE X (.UnaryOp op a pos) (tE X.K cA W (unE f m)) :=
  (pe_un ho ha).imp fun σ H Q h => bind1 st_V h
theorem After.toV {K : PySem.W.Frag} {ρ : List Addr} {H : Hp} {Q : V → Hp → Prop} {r : R Bool} (h : After K cA W ρ H (rV K) (r.bind fun b S1 => .ok (.bl b) S1) Q) : After K cA W ρ H rId r fun b H' => Q (.bl b) H' := by
  cases r with
  | ok b S => exact fun ρ' H' b' e hs hb => by subst hb; exact h ρ' H' (.bl b) e hs (by unfold rV RepV; rfl)
  | ex x S => exact h
  | bad => exact h
theorem tE_toV {σ : L2.St} {H : Hp} {Q : VK} (h : tE X.K cA W (toV p) σ H Q) : tT X.K cA W p σ H fun b H' => Q (.bl b) H' :=
  let ⟨ρ, S, l, hS, hl, h⟩ := h; ⟨ρ, S, l, hS, hl, h.toV⟩
theorem mcmp {op : CmpOp} (ho : OpR X (compareOp op) (tC2 X.K cA W f)) (ha : PE X a (tE X.K cA W m)) (hb : PE X b (tE X.K cA W n)) (hm : behindInMarks op b = false) : PE X (.Compare a [op] [b] pos) (tE X.K cA W (toV (cmpM f m n))) :=
  (pe_cmpR ho ha hb hm).imp fun σ H Q h => bind2 st_Id mo_V (tE_toV h)
theorem mcmpT {op : CmpOp} (ho : OpR X (compareOp op) (tC2 X.K cA W f)) (ha : PE X a (tE X.K cA W m)) (hb : PE X b (tE X.K cA W n)) (hm : behindInMarks op b = false) : PT X (.Compare a [op] [b] pos) (tT X.K cA W (cmpM f m n)) :=
  (pt_cmpR ho ha hb hm).imp fun σ H Q h => (bind2 st_Id mo_V h).imp fun x H1 h => tG.imp h fun y H2 h => by
    obtain ⟨ρ, S, d, e, hS, hd, he, h⟩ := h
    exact ⟨ρ, S, d, e, hS, hd, he, h.imp fun t H3 q => ⟨t, rfl, q⟩⟩
/-- what a chain asks -/
theorem chain_of {σ : L2.St} {H : Hp} {Q : Bool → Hp → Prop} {Q' : VK} (hQ : ∀ t H', Q t H' → Q' (.bl t) H') (h : tT X.K cA W (chainM f g m n o) σ H Q) :
    tChain (tC2 X.K cA W f) (tC2 X.K cA W g) (tE X.K cA W m) (tE X.K cA W n) (tE X.K cA W o) σ H Q' := by
  obtain ⟨ρ, S, l, hS, hl, h⟩ := h
  refine ⟨ρ, S, l, hS, hl, (After.bind (rep := rV X.K) st_Id h).imp fun x H1 q => ?_⟩
  obtain ⟨ρ1, S1, d, e1, h1, h2, h3⟩ := q
  refine ⟨ρ1, S1, l, h1, hl.ext e1, (After.bind (rep := rV X.K) st_Id h3).imp fun y H2 q => ?_⟩
  obtain ⟨ρ2, S2, e, e2, h4, h5, h6⟩ := q
  refine ⟨ρ2, S2, d, e, h4, h2.ext e2, h5, (After.bind (rep := rId) st_Id h6).imp fun t H3 q => ?_⟩
  obtain ⟨ρ3, S3, t', e3, h7, h8, h9⟩ := q
  subst h8
  refine ⟨t', rfl, ?_⟩
  cases t' with
  | true =>
    simp only [if_true] at h9 ⊢
    refine ⟨ρ3, S3, l, h7, ((hl.ext e1).ext e2).ext e3, (After.bind (rep := rV X.K) st_Id h9).imp fun z H4 q => ?_⟩
    obtain ⟨ρ4, S4, d4, e4, h10, h11, h12⟩ := q
    exact ⟨ρ4, S4, e, d4, h10, (h5.ext e3).ext e4, h11, h12.imp hQ⟩
  | false =>
    exact hQ _ _ (After.same h9 h7 rfl)
theorem mchain {op op' : CmpOp} (ho : OpR X (compareOp op) (tC2 X.K cA W f)) (ho' : OpR X (compareOp op') (tC2 X.K cA W g)) (ha : PE X a (tE X.K cA W m)) (hb : PE X b (tE X.K cA W n)) (hc : PE X c (tE X.K cA W o))
    (hm : lastMarks [op, op'] [b, c] = false := by with_unfolding_all rfl) : PE X (.Compare a [op, op'] [b, c] pos) (tE X.K cA W (toV (chainM f g m n o))) :=
  (pe_chain ho ho' ha hb hc hm).imp fun σ H Q h => chain_of (fun _ _ q => q) (tE_toV h)
theorem mchainT {op op' : CmpOp} (ho : OpR X (compareOp op) (tC2 X.K cA W f)) (ho' : OpR X (compareOp op') (tC2 X.K cA W g)) (ha : PE X a (tE X.K cA W m)) (hb : PE X b (tE X.K cA W n)) (hc : PE X c (tE X.K cA W o))
    (hm : lastMarks [op, op'] [b, c] = false := by with_unfolding_all rfl) : PT X (.Compare a [op, op'] [b, c] pos) (tT X.K cA W (chainM f g m n o)) :=
  (pt_chain ho ho' ha hb hc hm).imp fun σ H Q h => chain_of (fun t _ q => ⟨t, rfl, q⟩) h
/-! tests -/
theorem mand1 (ha : PT X a (tT X.K cA W p)) : PW X (.BoolOp .And [a] pos) (tT X.K cA W p) := pw_and1 ha
theorem mor1 (ha : PT X a (tT X.K cA W p)) : PW X (.BoolOp .Or [a] pos) (tT X.K cA W p) := pw_or1 ha
theorem and_of {R' : Type} {δ : Type} {rep : Rel R' δ} (st : Stable rep) {k : Loc → Bool → Store → R R'} {σ : L2.St} {H : Hp} {Q : δ → Hp → Prop} (h : tG X.K cA W rep (fun l S => (p l S).bind (k l)) σ H Q) :
    tT X.K cA W p σ H fun t H1 => ∃ ρ S l, Reps X.K cA ρ H1 S ∧ RepL X.K ρ H1 l σ ∧ After X.K cA W ρ H1 rep (k l t S) Q := by
  refine (bind1L (rep1 := rId) st h).imp fun x H1 q => ?_
  obtain ⟨ρ, S, l, t, h1, h2, h3, h4⟩ := q
  subst h3
  exact ⟨ρ, S, l, h1, h2, h4⟩
theorem mandT {rest : List Expr} (ha : PT X a (tT X.K cA W p)) (hb : PW X (.BoolOp .And (b :: rest) pos) (tT X.K cA W q)) : PW X (.BoolOp .And (a :: b :: rest) pos) (tT X.K cA W (andM p q)) :=
  (pw_and ha hb).imp fun σ H Q h => (and_of st_Id h).imp fun t H1 q => by
    obtain ⟨ρ, S, l, h1, h2, h3⟩ := q
    cases t with
    | true => exact ⟨ρ, S, l, h1, h2, h3⟩
    | false => exact After.same h3 h1 rfl
theorem morT {rest : List Expr} (ha : PT X a (tT X.K cA W p)) (hb : PW X (.BoolOp .Or (b :: rest) pos) (tT X.K cA W q)) : PW X (.BoolOp .Or (a :: b :: rest) pos) (tT X.K cA W (orM p q)) :=
  (pw_or ha hb).imp fun σ H Q h => (and_of st_Id h).imp fun t H1 q => by
    obtain ⟨ρ, S, l, h1, h2, h3⟩ := q
    cases t with
    | true => exact After.same h3 h1 rfl
    | false => exact ⟨ρ, S, l, h1, h2, h3⟩
theorem mnotT (ha : PT X a (tT X.K cA W p)) : PT X (.UnaryOp .Not a pos) (tT X.K cA W (notM p)) :=
  (pt_not ha).imp fun σ H Q h => (and_of st_Id h).imp fun t H1 q => by
    obtain ⟨ρ, S, l, h1, h2, h3⟩ := q
    exact After.same h3 h1 rfl
/-! values -/
theorem After.ofV {K : PySem.W.Frag} {ρ : List Addr} {H : Hp} {Q : Bool → Hp → Prop} {r : R D} (h : After K cA W ρ H rId (r.bind fun d S1 => match isBl d with | some b => .ok b S1 | none => .bad) Q) :
    After K cA W ρ H (rV K) r fun v H' => ∃ t, v = .bl t ∧ Q t H' := by
  cases r with
  | ok d S =>
    intro ρ' H' v e hs hv
    cases d with
    | bl t => unfold rV RepV at hv; exact ⟨t, hv, h ρ' H' t e hs rfl⟩
    | _ => exact h.elim
  | ex x S => exact h
  | bad => exact h
/-- a value that is a truth, asked -/
theorem ofV_of {σ : L2.St} {H : Hp} {Q : Bool → Hp → Prop} (h : tT X.K cA W (ofV m) σ H Q) : tE X.K cA W m σ H fun v H' => ∃ t, v = .bl t ∧ Q t H' :=
  let ⟨ρ, S, l, hS, hl, h⟩ := h; ⟨ρ, S, l, hS, hl, h.ofV⟩
theorem mval (ha : PE X a (tE X.K cA W m)) (he : ∀ whole, isTrue a X.env whole = (do let v ← whole; standAt a.pos; holding [v] (truthy v)) := by intro _; rfl) : PT X a (tT X.K cA W (ofV m)) :=
  (pt_val ha he).imp fun σ H Q h => ofV_of h
theorem mand {rest : List Expr} (ha : PE X a (tE X.K cA W m)) (hb : PE X (.BoolOp .And (b :: rest) pos) (tE X.K cA W n)) : PE X (.BoolOp .And (a :: b :: rest) pos) (tE X.K cA W (andV (ofV m) n)) :=
  (pe_and ha hb).imp fun σ H Q h => ofV_of ((and_of (p := ofV m) st_V h).imp fun t H1 q => by
    obtain ⟨ρ, S, l, h1, h2, h3⟩ := q
    cases t with
    | true => exact ⟨ρ, S, l, h1, h2, h3⟩
    | false => exact After.same h3 h1 (by unfold rV RepV; rfl))
theorem mor {rest : List Expr} (ha : PE X a (tE X.K cA W m)) (hb : PE X (.BoolOp .Or (b :: rest) pos) (tE X.K cA W n)) : PE X (.BoolOp .Or (a :: b :: rest) pos) (tE X.K cA W (orV (ofV m) n)) :=
  (pe_or ha hb).imp fun σ H Q h => ofV_of ((and_of (p := ofV m) st_V h).imp fun t H1 q => by
    obtain ⟨ρ, S, l, h1, h2, h3⟩ := q
    cases t with
    | true => exact After.same h3 h1 (by unfold rV RepV; rfl)
    | false => exact ⟨ρ, S, l, h1, h2, h3⟩)
theorem mone {op : BoolOp} (h : PE X a (tE X.K cA W m)) : PE X (.BoolOp op [a] pos) (tE X.K cA W m) := pe_one h
theorem mnot (ha : PE X a (tE X.K cA W m)) : PE X (.UnaryOp .Not a pos) (tE X.K cA W (toV (notM (ofV m)))) :=
  (pe_not ha).imp fun σ H Q h => ofV_of ((and_of (p := ofV m) st_Id (tE_toV h)).imp fun t H1 q => by
    obtain ⟨ρ, S, l, h1, h2, h3⟩ := q
    exact After.same (Q := fun b H' => Q (.bl b) H') (rep := rId) (b := !t) h3 h1 rfl)
theorem mif (hc : PT X c (tT X.K cA W p)) (ha : PE X a (tE X.K cA W m)) (hb : PE X b (tE X.K cA W n)) : PE X (.IfExp c a b pos) (tE X.K cA W (ifE p m n)) :=
  (pe_ifExp hc ha hb).imp fun σ H Q h => (and_of (p := p) st_V h).imp fun t H1 q => by
    obtain ⟨ρ, S, l, h1, h2, h3⟩ := q
    cases t with
    | true => exact ⟨ρ, S, l, h1, h2, h3⟩
    | false => exact ⟨ρ, S, l, h1, h2, h3⟩
end
end ML

set_option Elab.async false
set_option linter.all false
set_option maxRecDepth 100000
set_option autoImplicit false
/-! ML5: displays, items, slices, calls of what is built in. -/
namespace ML
open PySem PySem.Spec L2

/-! ### arguments, displays -/
def nilA : MA := fun _ S => .ok [] S
def consA (m : ME) (n : MA) : MA := fun l S => (m l S).bind fun d S1 => (n l S1).bind fun ds S2 => .ok (d :: ds) S2
def tupE (m : MA) : ME := fun l S => (m l S).bind fun ds S1 => if ds.length ≤ sizeLine then .ok (.tup ds) S1 else .bad
def lstN (m : MA) : MA := fun l S => (m l S).bind fun ds S1 => if ds.length ≤ sizeLine then .ok ds S1 else .bad
def allocE (m : MA) : ME := fun l S => (m l S).bind fun ds S1 => newC (.lst ds) S1
section
variable {X : Cx} {cA : Nat → Addr} {W : XK} {pos : Pos} {e : Expr} {es : List Expr} {m : ME} {n : MA}
theorem anil : PA X [] (tAs X.K cA W nilA) := pa_nil.imp fun σ H Q h => by
  obtain ⟨ρ, S, l, hS, hl, h⟩ := h
  exact After.same h hS .nil
theorem acons (ha : PE X e (tE X.K cA W m)) (hr : PA X es (tAs X.K cA W n)) (hs : starEach (e :: es) X.env = (false, eval e X.env) :: starEach es X.env := by rfl) : PA X (e :: es) (tAs X.K cA W (consA m n)) :=
  (pa_cons ha hr hs).imp fun σ H Q h => (bind2 (rep1 := rV X.K) (rep2 := rVs X.K) st_Vs mo_V h).imp fun x H1 h => tG.imp h fun xs H2 h => by
    obtain ⟨ρ, S, a, b, hS, h1, h2, h⟩ := h
    exact After.same h hS (.cons h1 h2)
theorem mtup {k : Nat} (h : PA X es (tAs X.K cA W n)) : PE X (.Tuple es k pos) (tE X.K cA W (tupE n)) :=
  (pe_tup h).imp fun σ H Q h => (bind1 (rep1 := rVs X.K) st_V h).imp fun xs H1 h => by
    obtain ⟨ρ, S, ds, hS, hr, h⟩ := h
    split at h
    · rename_i hz
      exact ⟨by rw [RepVs.length hr]; exact hz, fun p hp => h.tup hS hp hr⟩
    · exact h.elim
/-- a new list, told as new -/
theorem After.fresh {K : PySem.W.Frag} {ρ : List Addr} {H : Hp} {S : Store} {ds : List D} {vs : List V} {p : Addr} {Q : V → Hp → Prop} (h : After K cA W ρ H (rNew K) (.ok ds S) Q) (hS : Reps K cA ρ H S) (hp : H p = none) (hr : RepVs K ρ H ds vs) : Q (.ref p) (upd H p (.lst vs)) :=
  h ρ _ _ (Ext.new hp) (hS.new hp) ⟨p, vs, rfl, hp, hS.free hp, upd_same, hr.ext (Ext.new hp)⟩
theorem mlst (h : PA X es (tAs X.K cA W n)) : PE X (.List es pos) (tNw X.K cA W (lstN n)) :=
  (pe_lst h).imp fun σ H Q h => (bind1 (rep1 := rVs X.K) st_New h).imp fun xs H1 h => by
    obtain ⟨ρ, S, ds, hS, hr, h⟩ := h
    split at h
    · rename_i hz
      exact ⟨by rw [RepVs.length hr]; exact hz, fun p hp => h.fresh hS hp hr⟩
    · exact h.elim
/-- a new list is taken into the store -/
theorem malloc {n : MA} (h : PE X e (tNw X.K cA W n)) : PE X e (tE X.K cA W (allocE n)) := h.imp fun σ H Q h => by
  obtain ⟨ρ, S, l, hS, hl, h⟩ := h
  refine ⟨ρ, S, l, hS, hl, ?_⟩
  unfold allocE at h
  generalize n l S = r at h
  cases r with
  | ok ds S1 =>
    intro ρ' H' v e1 hs hr
    obtain ⟨p, vs, rfl, h0, hn, h1, h2⟩ := hr
    refine h (ρ' ++ [p]) H' (.ref p) (e1.take h0) (hs.push hn ⟨vs, h1, h2⟩) ?_
    show RepV X.K (ρ' ++ [p]) H' (.ref S1.length) (.ref p)
    unfold RepV
    exact ⟨p, by rw [← hs.len, List.getElem?_append_right (Nat.le_refl _)]; simp, rfl⟩
  | ex x S1 => exact h
  | bad => exact h
/-- a tuple is met as a tuple that stands -/
theorem mnew_of {n : MA} {σ : L2.St} {H : Hp} {Q : VK} {β' : Type} {α' : Type} {rep : Rel α' β'} {f : List D → Store → R α'} {Q' : β' → Hp → Prop} (st : Stable rep) (h : tG X.K cA W rep (fun l S => (n l S).bind f) σ H Q') :
    tNw X.K cA W n σ H fun v H1 => ∃ ρ S ds p vs, Reps X.K cA ρ H1 S ∧ v = .ref p ∧ SqL X.K H1 p vs ∧ RepVs X.K ρ H1 ds vs ∧ After X.K cA W ρ H1 rep (f ds S) Q' :=
  (bind1 (rep1 := rNew X.K) st h).imp fun v H1 h => by
    obtain ⟨ρ, S, ds, hS, ⟨p, vs, ev, _, _, h1, h2⟩, h⟩ := h
    exact ⟨ρ, S, ds, p, vs, hS, ev, SqL.of h1, h2, h⟩
end

/-! ### built-in calls by values -/
/-- of one list: a new one, or one that stands -/
def tL1 (K : PySem.W.Frag) (cA : Nat → Addr) (W : XK) {α β : Type} (rep : Rel α β) (f : List D → Store → R α) : List V → Hp → (β → Hp → Prop) → Prop := fun xs H Q =>
  ∃ ρ S ds p vs, Reps K cA ρ H S ∧ xs = [.ref p] ∧ SqL K H p vs ∧ RepVs K ρ H ds vs ∧ After K cA W ρ H rep (f ds S) Q
def newL {α : Type} (f : List D → Store → R α) (n : MA) : Loc → Store → R α := fun l S => (n l S).bind f
def ofL {α : Type} (f : List D → Store → R α) (m : ME) : Loc → Store → R α := fun l S => (m l S).bind fun d S1 => match lstOf S1 d with
  | some ds => f ds S1
  | none => .bad
def callA (f : List D → Store → R D) (n : MA) : ME := fun l S => (n l S).bind f
section
variable {X : Cx} {cA : Nat → Addr} {W : XK} {pos p0 : Pos} {e : Expr} {es : List Expr} {m : ME} {n : MA} {x : Str} {id T : String} {f : List D → Store → R D}
theorem newL_of {α β : Type} {rep : Rel α β} {f : List D → Store → R α} (st : Stable rep) {σ : L2.St} {H : Hp} {Q : β → Hp → Prop} (h : tG X.K cA W rep (newL f n) σ H Q) : tCons (tNw X.K cA W n) tNil σ H fun xs H1 => tL1 X.K cA W rep f xs H1 Q :=
  (bind1 (rep1 := rNew X.K) st h).imp fun v H1 h => by
    obtain ⟨ρ, S, ds, hS, ⟨p, vs, rfl, _, _, h1, h2⟩, h⟩ := h
    exact ⟨ρ, S, ds, p, vs, hS, rfl, SqL.of h1, h2, h⟩
theorem ofL_of {α β : Type} {rep : Rel α β} {f : List D → Store → R α} (st : Stable rep) {σ : L2.St} {H : Hp} {Q : β → Hp → Prop} (h : tG X.K cA W rep (ofL f m) σ H Q) : tCons (tE X.K cA W m) tNil σ H fun xs H1 => tL1 X.K cA W rep f xs H1 Q :=
  (bind1 (rep1 := rV X.K) st h).imp fun v H1 h => by
    obtain ⟨ρ, S, d, hS, hr, h⟩ := h
    split at h
    · rename_i ds e1
      obtain ⟨p, vs, rfl, h1, h2⟩ := lst_rep hS hr e1
      exact ⟨ρ, S, ds, p, vs, hS, rfl, h1, h2, h⟩
    · exact h.elim
/-- f(new list), f built in -/
theorem mcallN {α : Type} {rep : Rel α V} {f : List D → Store → R α} (st : Stable rep) (hc : CallR X (.builtin id) (tL1 X.K cA W rep f)) (hg : Gl X x) (hm : X.mg x = none) (hv : bootBuiltins x = some (.builtin id)) (ha : PE X e (tNw X.K cA W n)) (hn : x ≠ "__name__" := by decide) (hdb : (x == ("__debug__" : Str)) = false := by decide)
    (he : starEach [e] X.env = (false, eval e X.env) :: starEach [] X.env := by rfl) (hpl : (backTo pos (starEach [] X.env)).any (·.1) = false := by rfl) : PE X (.Call (.Name x p0) [e] [] pos) (tG X.K cA W rep (newL f n)) :=
  (pe_callB hc hg hm hv (pa_cons ha pa_nil he) hn hdb he hpl).imp fun σ H Q h => newL_of st h
theorem mcallL {α : Type} {rep : Rel α V} {f : List D → Store → R α} (st : Stable rep) (hc : CallR X (.builtin id) (tL1 X.K cA W rep f)) (hg : Gl X x) (hm : X.mg x = none) (hv : bootBuiltins x = some (.builtin id)) (ha : PE X e (tE X.K cA W m)) (hn : x ≠ "__name__" := by decide) (hdb : (x == ("__debug__" : Str)) = false := by decide)
    (he : starEach [e] X.env = (false, eval e X.env) :: starEach [] X.env := by rfl) (hpl : (backTo pos (starEach [] X.env)).any (·.1) = false := by rfl) : PE X (.Call (.Name x p0) [e] [] pos) (tG X.K cA W rep (ofL f m)) :=
  (pe_callB hc hg hm hv (pa_cons ha pa_nil he) hn hdb he hpl).imp fun σ H Q h => ofL_of st h
/-- T(new list), T a built-in class -/
theorem mtyN {α : Type} {rep : Rel α V} {f : List D → Store → R α} (st : Stable rep) (hc : CallR X (.type T) (tL1 X.K cA W rep f)) (hg : Gl X x) (hm : X.mg x = none) (hv : bootBuiltins x = some (.type T)) (ha : PE X e (tNw X.K cA W n)) (hn : x ≠ "__name__" := by decide) (hdb : (x == ("__debug__" : Str)) = false := by decide)
    (he : starEach [e] X.env = (false, eval e X.env) :: starEach [] X.env := by rfl) (hpl : (backTo pos (starEach [] X.env)).any (·.1) = false := by rfl) : PE X (.Call (.Name x p0) [e] [] pos) (tG X.K cA W rep (newL f n)) :=
  (pe_callTy hc hg hm hv (pa_cons ha pa_nil he) hn hdb he hpl).imp fun σ H Q h => newL_of st h
/-- f(values) -/
theorem mcallV {α : Type} {rep : Rel α V} {f : List D → Store → R α} (st : Stable rep) (hc : CallR X (.builtin id) (tN X.K cA W rep f)) (hg : Gl X x) (hm : X.mg x = none) (hv : bootBuiltins x = some (.builtin id)) (ha : PA X (e :: es) (tAs X.K cA W n)) (hn : x ≠ "__name__" := by decide) (hdb : (x == ("__debug__" : Str)) = false := by decide)
    (he : starEach (e :: es) X.env = (false, eval e X.env) :: starEach es X.env := by rfl) (hpl : (backTo pos (starEach es X.env)).any (·.1) = false := by rfl) : PE X (.Call (.Name x p0) (e :: es) [] pos) (tG X.K cA W rep (newL f n)) :=
  (pe_callB hc hg hm hv ha hn hdb he hpl).imp fun σ H Q h => (bind1 (rep1 := rVs X.K) st h).imp fun vs H1 h => h
theorem mtyV {α : Type} {rep : Rel α V} {f : List D → Store → R α} (st : Stable rep) (hc : CallR X (.type T) (tN X.K cA W rep f)) (hg : Gl X x) (hm : X.mg x = none) (hv : bootBuiltins x = some (.type T)) (ha : PA X (e :: es) (tAs X.K cA W n)) (hn : x ≠ "__name__" := by decide) (hdb : (x == ("__debug__" : Str)) = false := by decide)
    (he : starEach (e :: es) X.env = (false, eval e X.env) :: starEach es X.env := by rfl) (hpl : (backTo pos (starEach es X.env)).any (·.1) = false := by rfl) : PE X (.Call (.Name x p0) (e :: es) [] pos) (tG X.K cA W rep (newL f n)) :=
  (pe_callTy hc hg hm hv ha hn hdb he hpl).imp fun σ H Q h => (bind1 (rep1 := rVs X.K) st h).imp fun vs H1 h => h
end

/-! #### of lists -/
def allL (ds : List D) (S : Store) : R D := match mapO isBl ds with
  | some bs => .ok (.bl (bs.all id)) S
  | none => .bad
def anyL (ds : List D) (S : Store) : R D := match mapO isBl ds with
  | some bs => .ok (.bl (bs.any id)) S
  | none => .bad
def intO : D → Option Int
  | .int i => some i
  | _ => none
def strO : D → Option Str
  | .str x => some x
  | _ => none
def sumL (ds : List D) (S : Store) : R D := match mapO intO ds with
  | some ns => .ok (.int ns.sum) S
  | none => .bad
def lenL (ds : List D) (S : Store) : R D := .ok (.int ds.length) S
def tupL (ds : List D) (S : Store) : R D := .ok (.tup ds) S
def sortI (ns : List Int) : List Int := ns.mergeSort (fun a b => decide (a ≤ b))
def sortL (ds : List D) (S : Store) : R (List D) := match mapO intO ds with
  | some ns => .ok ((sortI ns).map .int) S
  | none => .bad
section
variable {X : Cx} {cA : Nat → Addr} {W : XK} {K : PySem.W.Frag} {ρ : List Addr} {H : Hp}
theorem bls_rep : ∀ {ds : List D} {vs : List V} {bs : List Bool}, mapO isBl ds = some bs → RepVs K ρ H ds vs → vs = bs.map V.bl
  | [], vs, bs, h, r => by unfold RepVs at r; subst r; cases h; rfl
  | d :: ds, vs, bs, h, r => by
    unfold RepVs at r
    obtain ⟨v, q, rfl, h1, h2⟩ := r
    unfold mapO at h
    split at h
    · rename_i y ys e1 e2
      cases h
      cases d with
      | bl b => cases e1; unfold RepV at h1; rw [h1, bls_rep e2 h2]; rfl
      | _ => cases e1
    · cases h
theorem ints_rep : ∀ {ds : List D} {vs : List V} {bs : List Int}, mapO intO ds = some bs → RepVs K ρ H ds vs → vs = bs.map V.int
  | [], vs, bs, h, r => by unfold RepVs at r; subst r; cases h; rfl
  | d :: ds, vs, bs, h, r => by
    unfold RepVs at r
    obtain ⟨v, q, rfl, h1, h2⟩ := r
    unfold mapO at h
    split at h
    · rename_i y ys e1 e2
      cases h
      cases d with
      | int b => cases e1; unfold RepV at h1; rw [h1, ints_rep e2 h2]; rfl
      | _ => cases e1
    · cases h
theorem strs_rep : ∀ {ds : List D} {vs : List V} {bs : List Str}, mapO strO ds = some bs → RepVs K ρ H ds vs → vs = bs.map V.str
  | [], vs, bs, h, r => by unfold RepVs at r; subst r; cases h; rfl
  | d :: ds, vs, bs, h, r => by
    unfold RepVs at r
    obtain ⟨v, q, rfl, h1, h2⟩ := r
    unfold mapO at h
    split at h
    · rename_i y ys e1 e2
      cases h
      cases d with
      | str b => cases e1; unfold RepV at h1; rw [h1, strs_rep e2 h2]; rfl
      | _ => cases e1
    · cases h
theorem c_all (hc : X.calm = true) : CallR X (.builtin "all") (tL1 X.K cA W (rV X.K) allL) := CallR.imp (cr_all hc) fun xs H Q h => by
  obtain ⟨ρ, S, ds, p, vs, hS, rfl, h1, h2, h⟩ := h
  unfold allL at h
  split at h
  · rename_i bs e
    have := bls_rep e h2
    subst this
    exact ⟨p, bs, rfl, h1, h.same hS (by unfold rV RepV; rfl)⟩
  · exact h.elim
theorem c_any (hc : X.calm = true) : CallR X (.builtin "any") (tL1 X.K cA W (rV X.K) anyL) := CallR.imp (cr_any hc) fun xs H Q h => by
  obtain ⟨ρ, S, ds, p, vs, hS, rfl, h1, h2, h⟩ := h
  unfold anyL at h
  split at h
  · rename_i bs e
    have := bls_rep e h2
    subst this
    exact ⟨p, bs, rfl, h1, h.same hS (by unfold rV RepV; rfl)⟩
  · exact h.elim
theorem c_sum (hc : X.calm = true) : CallR X (.builtin "sum") (tL1 X.K cA W (rV X.K) sumL) := CallR.imp (cr_sum hc) fun xs H Q h => by
  obtain ⟨ρ, S, ds, p, vs, hS, rfl, h1, h2, h⟩ := h
  unfold sumL at h
  split at h
  · rename_i bs e
    have := ints_rep e h2
    subst this
    exact ⟨p, bs, rfl, h1, h.same hS (by unfold rV RepV; rfl)⟩
  · exact h.elim
theorem c_len : CallR X (.builtin "len") (tL1 X.K cA W (rV X.K) lenL) := CallR.imp call_len_seq fun xs H Q h => by
  obtain ⟨ρ, S, ds, p, vs, hS, rfl, h1, h2, h⟩ := h
  refine ⟨p, vs, rfl, .inl h1, h.same hS ?_⟩
  unfold rV RepV
  rw [RepVs.length h2]
theorem c_tup : CallR X (.type "tuple") (tL1 X.K cA W (rV X.K) tupL) := CallR.imp call_tuple_of fun xs H Q h => by
  obtain ⟨ρ, S, ds, p, vs, hS, rfl, h1, h2, h⟩ := h
  exact ⟨p, vs, rfl, .inl ⟨h1, fun q hq => After.tup h hS hq h2⟩⟩
theorem sortI_eq {ns ms : List Int} (hp : ms.Perm ns) (hs : ms.Pairwise (· ≤ ·)) : ms = sortI ns := by
  have h1 : (sortI ns).Pairwise (· ≤ ·) := by
    have := List.pairwise_mergeSort (le := fun (a b : Int) => decide (a ≤ b)) (fun a b c h1 h2 => by simp only [decide_eq_true_eq] at *; omega) (fun a b => by simp only [Bool.or_eq_true, decide_eq_true_eq]; omega) ns
    exact this.imp fun h => by simpa using h
  have h2 : (sortI ns).Perm ns := List.mergeSort_perm ns _
  exact (hp.trans h2.symm).eq_of_pairwise (fun a b _ _ h1 h2 => by omega) hs h1
theorem c_sort : CallR X (.builtin "sorted") (tL1 X.K cA W (rNew X.K) sortL) := CallR.imp cr_sortedI fun xs H Q h => by
  obtain ⟨ρ, S, ds, p, vs, hS, rfl, h1, h2, h⟩ := h
  unfold sortL at h
  split at h
  · rename_i bs e
    have := ints_rep e h2
    subst this
    refine ⟨p, bs, rfl, h1, fun ns' q hp hs hq => ?_⟩
    rw [← sortI_eq hp hs] at h
    exact After.fresh h hS hq RepVs.of_ints
  · exact h.elim
end

/-! #### of values -/
def lenV (ds : List D) (S : Store) : R D := match ds with
  | [.str x] => if x.length ≤ sizeLine then .ok (.int x.length) S else .bad
  | [d] => match seqOf S d with
    | some xs => .ok (.int xs.length) S
    | none => match d with
      | .ref n => match dctAt S n with
        | some kvs => .ok (.int kvs.length) S
        | none => .bad
      | _ => .bad
  | _ => .bad
def absV (ds : List D) (S : Store) : R D := match ds with
  | [.int i] => .ok (.int (if i < 0 then -i else i)) S
  | _ => .bad
def maxV (ds : List D) (S : Store) : R D := match ds with
  | [.int i, .int j] => .ok (.int (if j > i then j else i)) S
  | _ => .bad
def minV (ds : List D) (S : Store) : R D := match ds with
  | [.int i, .int j] => .ok (.int (if j < i then j else i)) S
  | _ => .bad
def intV (ds : List D) (S : Store) : R D := match ds with
  | [.int i] => .ok (.int i) S
  | [.bl b] => .ok (.int (if b = true then 1 else 0)) S
  | _ => .bad
def ordV (ds : List D) (S : Store) : R D := match ds with
  | [.str x] => if x.length = 1 then .ok (.int (x.cps.getD 0 0 : Nat)) S else .bad
  | _ => .bad
/-- str of a number -/
def strV (ds : List D) (S : Store) : R D := match ds with
  | [.int i] => if i.natAbs.log2 < 1920 then .ok (.str (toString i)) S else .bad
  | _ => .bad
def listV (ds : List D) (S : Store) : R (List D) := match ds with
  | [d] => match seqOf S d with
    | some xs => .ok xs S
    | none => match d with
      | .ref n => match dctAt S n with
        | some kvs => .ok (kvs.map fun kv => match kv.1 with | .inl i => .int i | .inr x => .str x) S
        | none => .bad
      | _ => .bad
  | _ => .bad
def tupV (ds : List D) (S : Store) : R D := match ds with
  | [.tup xs] => .ok (.tup xs) S
  | [d] => match lstOf S d with
    | some xs => .ok (.tup xs) S
    | none => .bad
  | _ => .bad
section
variable {X : Cx} {cA : Nat → Addr} {W : XK} {K : PySem.W.Frag} {ρ : List Addr} {H : Hp} {S : Store}
theorem one_rep {d : D} {xs : List V} (h : RepVs K ρ H [d] xs) : ∃ v, xs = [v] ∧ RepV K ρ H d v := by
  unfold RepVs at h
  obtain ⟨v, r, rfl, h1, h2⟩ := h
  unfold RepVs at h2
  exact ⟨v, by rw [h2], h1⟩
theorem two_rep {d e : D} {xs : List V} (h : RepVs K ρ H [d, e] xs) : ∃ v w, xs = [v, w] ∧ RepV K ρ H d v ∧ RepV K ρ H e w := by
  unfold RepVs at h
  obtain ⟨v, r, rfl, h1, h2⟩ := h
  obtain ⟨w, rfl, h3⟩ := one_rep h2
  exact ⟨v, w, rfl, h1, h3⟩
theorem seqOf_ref {S : Store} {d : D} : (∀ x, d ≠ .str x) ∨ True := .inr trivial
theorem c_lenV : CallR X (.builtin "len") (tN X.K cA W (rV X.K) lenV) := CallR.imp ((call_len (X := X)).or (call_lenD (X := X))) fun xs H Q h => by
  obtain ⟨ρ, S, ds, hS, hr, h⟩ := h
  unfold lenV at h
  split at h
  · rename_i x
    obtain ⟨v, rfl, h1⟩ := one_rep hr
    split at h
    · rename_i hz
      unfold RepV at h1
      subst h1
      exact .inl ⟨.str x, x.length, rfl, ⟨hz, rfl⟩, h.same hS (by unfold rV RepV; rfl)⟩
    · exact h.elim
  · rename_i d _
    obtain ⟨v, rfl, h1⟩ := one_rep hr
    split at h
    · rename_i ys e
      obtain ⟨a, vs, rfl, h2, h3⟩ := seq_rep hS h1 e
      refine .inl ⟨.ref a, ys.length, rfl, ?_, h.same hS (by unfold rV RepV; rfl)⟩
      rcases h2 with h2 | h2
      · exact .inl ⟨vs, h2, (RepVs.length h3).symm⟩
      · exact .inr ⟨vs, h2, (RepVs.length h3).symm⟩
    · split at h
      · split at h
        · rename_i kvs e
          obtain ⟨a, ps, rfl, _, h2, h3⟩ := rdct_rep hS h1 e
          refine .inr ⟨a, ps, rfl, h2, h.same hS ?_⟩
          unfold rV RepV
          rw [len_repP h3]
        · exact h.elim
      · exact h.elim
  · exact h.elim
where
  len_repP {K : PySem.W.Frag} {ρ : List Addr} {H : Hp} : ∀ {kvs : List (Key × D)} {ps : List (Key × V)}, RepP K ρ H kvs ps → ps.length = kvs.length
    | [], ps, h => by unfold RepP at h; rw [h]; rfl
    | (k, x) :: r, ps, h => by
      unfold RepP at h
      obtain ⟨v, q, rfl, _, h2⟩ := h
      rw [List.length_cons, List.length_cons, len_repP h2]
theorem c_abs : CallR X (.builtin "abs") (tN X.K cA W (rV X.K) absV) := CallR.imp call_abs fun xs H Q h => by
  obtain ⟨ρ, S, ds, hS, hr, h⟩ := h
  unfold absV at h
  split at h
  · obtain ⟨v, rfl, h1⟩ := one_rep hr
    unfold RepV at h1
    subst h1
    exact ⟨_, rfl, h.same hS (by unfold rV RepV; rfl)⟩
  · exact h.elim
theorem c_max (hc : X.calm = true) : CallR X (.builtin "max") (tN X.K cA W (rV X.K) maxV) := CallR.imp (call_max2 hc) fun xs H Q h => by
  obtain ⟨ρ, S, ds, hS, hr, h⟩ := h
  unfold maxV at h
  split at h
  · obtain ⟨v, w, rfl, h1, h2⟩ := two_rep hr
    unfold RepV at h1 h2
    subst h1 h2
    exact ⟨_, _, rfl, h.same hS (by unfold rV RepV; rfl)⟩
  · exact h.elim
theorem c_min (hc : X.calm = true) : CallR X (.builtin "min") (tN X.K cA W (rV X.K) minV) := CallR.imp (call_min2 hc) fun xs H Q h => by
  obtain ⟨ρ, S, ds, hS, hr, h⟩ := h
  unfold minV at h
  split at h
  · obtain ⟨v, w, rfl, h1, h2⟩ := two_rep hr
    unfold RepV at h1 h2
    subst h1 h2
    exact ⟨_, _, rfl, h.same hS (by unfold rV RepV; rfl)⟩
  · exact h.elim
theorem c_int : CallR X (.type "int") (tN X.K cA W (rV X.K) intV) := CallR.imp call_int1 fun xs H Q h => by
  obtain ⟨ρ, S, ds, hS, hr, h⟩ := h
  unfold intV at h
  split at h
  · obtain ⟨v, rfl, h1⟩ := one_rep hr
    unfold RepV at h1
    subst h1
    exact .inl ⟨_, rfl, h.same hS (by unfold rV RepV; rfl)⟩
  · obtain ⟨v, rfl, h1⟩ := one_rep hr
    unfold RepV at h1
    subst h1
    exact .inr ⟨_, rfl, h.same hS (by unfold rV RepV; rfl)⟩
  · exact h.elim
theorem c_ord : CallR X (.builtin "ord") (tN X.K cA W (rV X.K) ordV) := CallR.imp call_ord fun xs H Q h => by
  obtain ⟨ρ, S, ds, hS, hr, h⟩ := h
  unfold ordV at h
  split at h
  · split at h
    · rename_i hz
      obtain ⟨v, rfl, h1⟩ := one_rep hr
      unfold RepV at h1
      subst h1
      exact ⟨_, rfl, hz, h.same hS (by unfold rV RepV; rfl)⟩
    · exact h.elim
  · exact h.elim
theorem c_str : CallR X (.type "str") (tN X.K cA W (rV X.K) strV) := CallR.imp call_str_int fun xs H Q h => by
  obtain ⟨ρ, S, ds, hS, hr, h⟩ := h
  unfold strV at h
  split at h
  · split at h
    · rename_i hz
      obtain ⟨v, rfl, h1⟩ := one_rep hr
      unfold RepV at h1
      subst h1
      exact ⟨_, rfl, hz, h.same hS (by unfold rV RepV; rfl)⟩
    · exact h.elim
  · exact h.elim
theorem keys_rep : ∀ {kvs : List (Key × D)} {ps : List (Key × V)}, RepP K ρ H kvs ps → RepVs K ρ H (kvs.map fun kv => match kv.1 with | .inl i => .int i | .inr x => .str x) (ps.map fun kv => kV kv.1)
  | [], ps, h => by unfold RepP at h; rw [h]; exact .nil
  | (k, x) :: r, ps, h => by
    unfold RepP at h
    obtain ⟨v, q, rfl, _, h2⟩ := h
    rw [List.map_cons, List.map_cons]
    refine .cons ?_ (keys_rep h2)
    cases k <;> (unfold RepV; rfl)
theorem c_list (hc : X.calm = true) : CallR X (.type "list") (tN X.K cA W (rNew X.K) listV) := CallR.imp ((call_list_of (X := X)).or (call_list_dK hc)) fun xs H Q h => by
  obtain ⟨ρ, S, ds, hS, hr, h⟩ := h
  unfold listV at h
  split at h
  · obtain ⟨v, rfl, h1⟩ := one_rep hr
    split at h
    · rename_i ys e
      obtain ⟨a, vs, rfl, h2, h3⟩ := seq_rep hS h1 e
      exact .inl ⟨a, vs, rfl, h2, fun p hp => After.fresh h hS hp h3⟩
    · split at h
      · split at h
        · rename_i kvs e
          obtain ⟨a, ps, rfl, _, h2, h3⟩ := rdct_rep hS h1 e
          exact .inr ⟨a, ps, rfl, h2, fun p hp => After.fresh h hS hp (keys_rep h3)⟩
        · exact h.elim
      · exact h.elim
  · exact h.elim
theorem c_tupV : CallR X (.type "tuple") (tN X.K cA W (rV X.K) tupV) := CallR.imp call_tuple_of fun xs H Q h => by
  obtain ⟨ρ, S, ds, hS, hr, h⟩ := h
  unfold tupV at h
  split at h
  · obtain ⟨v, rfl, h1⟩ := one_rep hr
    have h1' := h1
    unfold RepV at h1
    obtain ⟨a, vs, rfl, h2, h3⟩ := h1
    exact ⟨a, vs, rfl, .inr ⟨h2, h.same hS h1'⟩⟩
  · obtain ⟨v, rfl, h1⟩ := one_rep hr
    split at h
    · rename_i ys e
      obtain ⟨a, vs, rfl, h2, h3⟩ := lst_rep hS h1 e
      exact ⟨a, vs, rfl, .inl ⟨h2, fun p hp => After.tup h hS hp h3⟩⟩
    · exact h.elim
  · exact h.elim
end
end ML

set_option Elab.async false
set_option linter.all false
set_option maxRecDepth 100000
set_option autoImplicit false
/-! ML6: kinds, items, slices, stores, fields, methods of what is built in. -/
namespace ML
open PySem PySem.Spec L2

/-! ### kinds -/
def kindO (S : Store) : D → Option String
  | .non => some "NoneType"
  | .bl _ => some "bool"
  | .int _ => some "int"
  | .str _ => some "str"
  | .tup _ => some "tuple"
  | .lis _ => some "list"
  | .ref n => match S[n]? with
    | some (.lst _) => some "list"
    | some (.dct _) => some "dict"
    | some (.dlk _) => some "dict"
    | _ => none
  | .exn _ => none
  | .exf _ _ _ => none
def isKind (T t : String) : Bool := t == T || (T == "int" && t == "bool")
def isE (T : String) (m : ME) : MB := fun l S => (m l S).bind fun d S1 => match kindO S1 d with
  | some t => .ok (isKind T t) S1
  | none => .bad
def kinds : List String := ["NoneType", "bool", "int", "str", "tuple", "list", "dict"]
/-- what the model says of two built-in classes -/
def KindOk (T : String) : Prop := ∀ t ∈ kinds, kitB t T = some (isKind T t)
theorem ok_str : KindOk "str" := by unfold KindOk kinds; decide +kernel
theorem ok_int : KindOk "int" := by unfold KindOk kinds; decide +kernel
theorem ok_bool : KindOk "bool" := by unfold KindOk kinds; decide +kernel
theorem ok_tuple : KindOk "tuple" := by unfold KindOk kinds; decide +kernel
theorem ok_list : KindOk "list" := by unfold KindOk kinds; decide +kernel
theorem ok_dict : KindOk "dict" := by unfold KindOk kinds; decide +kernel
section
variable {X : Cx} {cA : Nat → Addr} {W : XK} {K : PySem.W.Frag} {ρ : List Addr} {H : Hp} {S : Store}
theorem kind_rep (hS : Reps K cA ρ H S) {d : D} {v : V} {t : String} (hv : RepV K ρ H d v) (h : kindO S d = some t) : TyX K H v (.type t) ∧ t ∈ kinds := by
  unfold kindO at h
  cases d with
  | non => cases h; unfold RepV at hv; subst hv; exact ⟨.base .non, by decide⟩
  | bl b => cases h; unfold RepV at hv; subst hv; exact ⟨.base (.bl b), by decide⟩
  | int b => cases h; unfold RepV at hv; subst hv; exact ⟨.base (.int b), by decide⟩
  | str b => cases h; unfold RepV at hv; subst hv; exact ⟨.base (.str b), by decide⟩
  | tup xs =>
    cases h
    unfold RepV at hv
    obtain ⟨a, vs, rfl, h1, h2⟩ := hv
    refine ⟨?_, by decide⟩
    rcases h1 with (h1 | ⟨o, h1⟩) | ⟨o, its, n, h1, h3, _⟩
    · exact .base (.tup h1)
    · exact .fTuple h1
    · exact .kTuple h1 h3
  | lis xs =>
    cases h
    unfold RepV at hv
    obtain ⟨a, vs, rfl, h1, h2⟩ := hv
    refine ⟨?_, by decide⟩
    rcases h1 with ⟨o, h1⟩ | ⟨o, its, n, h1, h3, _⟩
    · exact .base (.frz h1)
    · exact .kList h1 h3
  | ref n =>
    simp only at h
    split at h
    · rename_i xs e
      cases h
      obtain ⟨a, rfl, _, vs, h1, _⟩ := ref_rep hS hv e
      exact ⟨.base (.lst h1), by decide⟩
    · rename_i xs e
      cases h
      obtain ⟨a, rfl, _, vs, h1, _⟩ := ref_rep hS hv e
      exact ⟨.base (.dK h1), by decide⟩
    · rename_i xs e
      cases h
      obtain ⟨a, rfl, _, o, vs, h1, _⟩ := ref_rep hS hv e
      exact ⟨.fDict h1, by decide⟩
    · cases h
  | exn a => cases h
  | exf a d fs => cases h
variable {pos p0 p1 : Pos} {e : Expr} {m : ME} {x : Str} {T : String}
/-- isinstance(e, T) -/
theorem misi (hT : KindOk T) (ha : PE X e (tE X.K cA W m)) (hg : Gl X "isinstance") (hm : X.mg "isinstance" = none) (hg2 : Gl X x) (hm2 : X.mg x = none) (hv2 : bootBuiltins x = some (.type T)) (hv : bootBuiltins "isinstance" = some (.builtin "isinstance") := by decide +kernel) (hn2 : x ≠ "__name__" := by decide) (hdb2 : (x == ("__debug__" : Str)) = false := by decide)
    (hs2 : starEach [(.Name x p1 : Expr)] X.env = (false, eval (.Name x p1) X.env) :: starEach [] X.env := by rfl) (hs : starEach [e, .Name x p1] X.env = (false, eval e X.env) :: starEach [.Name x p1] X.env := by rfl)
    (hpl : (backTo pos (starEach [(.Name x p1 : Expr)] X.env)).any (·.1) = false := by rfl) : PE X (.Call (.Name "isinstance" p0) [e, .Name x p1] [] pos) (tE X.K cA W (toV (isE T m))) :=
  (pe_callB call_isi hg hm hv (pa_cons ha (pa_cons (pe_bltn (v := .ty T) hg2 hm2 hv2 rfl hn2 hdb2) pa_nil hs2) hs) (by decide) (by decide) hs hpl).imp fun σ H Q h => by
    have h' := bind1 (rep1 := rV X.K) st_Id (tE_toV h)
    refine tG.imp h' fun v H1 h => ?_
    obtain ⟨ρ, S, d, hS, hr, h⟩ := h
    split at h
    · rename_i t et
      obtain ⟨h1, h2⟩ := kind_rep hS hr et
      exact ⟨v, .ty T, .type t, .type T, isKind T t, rfl, .ty T, h1, kit_ty (hT t h2), After.same (Q := fun b H' => Q (.bl b) H') (rep := rId) h hS rfl⟩
    · exact h.elim
end

/-! ### items -/
def ixO (S : Store) (d e : D) : Option D := match e with
  | .int i => match d with
    | .str z => if z.length ≤ sizeLine then (atI z.cps.toList i).map fun c => .str ⟨#[c]⟩ else none
    | .tup xs => atI xs i
    | .lis xs => atI xs i
    | .ref n => match S[n]? with
      | some (.lst xs) => atI xs i
      | some (.dct kvs) => dLook kvs (.inl i)
      | some (.dlk kvs) => dLook kvs (.inl i)
      | _ => none
    | _ => none
  | .str x => match d with
    | .ref n => match kvAt S n with
      | some kvs => dLook kvs (.inr x)
      | none => none
    | _ => none
  | _ => none
def ixD (d e : D) (S : Store) : R D := match ixO S d e with
  | some x => .ok x S
  | none => .bad
section
variable {X : Cx} {cA : Nat → Addr} {W : XK} {K : PySem.W.Frag} {ρ : List Addr} {H : Hp} {S : Store}
theorem atI_rep {xs : List D} {vs : List V} (h : RepVs K ρ H xs vs) {i : Int} {d : D} (e : atI xs i = some d) : ∃ v, atI vs i = some v ∧ RepV K ρ H d v := by
  unfold atI at e ⊢
  rw [RepVs.length h]
  cases q : ixN xs.length i with
  | none => rw [q] at e; cases e
  | some j =>
    rw [q] at e
    exact RepVs.get h j d e
theorem ix_dict (hu : X.A.units + 1 < cLine) : IxR X (fun x y H Q => ∃ a v, x = .ref a ∧ DGet H a y (some v) ∧ Q v H) := by
  intro value slice pins s σ H x y v u Q I rx ry h hs
  obtain ⟨a, z, rfl, g, q⟩ := h
  obtain rfl : v = Value.ref a := rx
  exact PyProof.Rows.tail_any (dict_typeIs I g) PySem.F.slot_dict_getitem.lookup (d_getItem hu I g ry fun w' s3 I3 rw' => ⟨z, H, I3, rw', q⟩) hs
theorem IxR.imp {r r' : R2} (h : IxR X r) (i : ∀ x y H Q, r' x y H Q → r x y H Q) : IxR X r' := fun value slice pins s σ H x y v u Q I rx ry q hs => h value slice pins s σ H x y v u Q I rx ry (i _ _ _ _ q) hs
theorem ix_M (hu : X.A.units + 1 < cLine) : IxR X (t2 X.K cA W (rV X.K) ixD) := IxR.imp ((ix_seq (X := X)).or (ix_dict hu)) fun x y H Q h => by
  obtain ⟨ρ, S, d, e, hS, hd, he, h⟩ := h
  unfold ixD at h
  split at h
  · rename_i z hz
    unfold ixO at hz
    cases e with
    | int i =>
      unfold RepV at he
      subst he
      cases d with
      | str w =>
        simp only at hz
        split at hz
        · rename_i hl
          unfold RepV at hd
          subst hd
          obtain ⟨c, hc, rfl⟩ := Option.map_eq_some_iff.mp hz
          exact .inl (.inr (.inr ⟨w, i, c, rfl, rfl, hl, hc, h.same hS (by unfold rV RepV; rfl)⟩))
        · cases hz
      | tup xs =>
        unfold RepV at hd
        obtain ⟨a, vs, rfl, h1, h2⟩ := hd
        obtain ⟨v, hv, rv⟩ := atI_rep h2 hz
        exact .inl (.inr (.inl ⟨a, vs, i, v, rfl, rfl, h1, hv, h.same hS rv⟩))
      | lis xs =>
        unfold RepV at hd
        obtain ⟨a, vs, rfl, h1, h2⟩ := hd
        obtain ⟨v, hv, rv⟩ := atI_rep h2 hz
        exact .inl (.inl ⟨a, vs, i, v, rfl, rfl, h1.sq, hv, h.same hS rv⟩)
      | ref n =>
        simp only at hz
        have dic : ∀ {kvs : List (Key × D)}, kvAt S n = some kvs → dLook kvs (.inl i) = some z → ∃ a v, x = .ref a ∧ DGet H a (.int i) (some v) ∧ Q v H := fun {kvs} ek el => by
          obtain ⟨a, ps, rfl, _, h1, h2⟩ := rkv_rep hS hd ek
          have q := look_rep (.inl i) h2
          rw [el] at q
          obtain ⟨v, hv, rv⟩ := q
          exact ⟨a, v, rfl, .inl ⟨ps, .inl i, h1, rfl, hv.symm⟩, h.same hS rv⟩
        split at hz
        · rename_i xs e1
          obtain ⟨a, vs, rfl, _, h1, h2⟩ := rlst_rep hS hd (lstAt_of e1)
          obtain ⟨v, hv, rv⟩ := atI_rep h2 hz
          exact .inl (.inl ⟨a, vs, i, v, rfl, rfl, SqL.of h1, hv, h.same hS rv⟩)
        · rename_i kvs e1
          exact .inr (dic (by unfold kvAt; rw [e1]) hz)
        · rename_i kvs e1
          exact .inr (dic (by unfold kvAt; rw [e1]) hz)
        · cases hz
      | _ => cases hz
    | str w =>
      unfold RepV at he
      subst he
      cases d with
      | ref n =>
        simp only at hz
        split at hz
        · rename_i kvs ek
          obtain ⟨a, ps, rfl, _, h1, h2⟩ := rkv_rep hS hd ek
          have q := look_rep (.inr w) h2
          rw [hz] at q
          obtain ⟨v, hv, rv⟩ := q
          exact .inr ⟨a, v, rfl, .inl ⟨ps, .inr w, h1, rfl, hv.symm⟩, h.same hS rv⟩
        · cases hz
      | _ => cases hz
    | _ => cases hz
  · exact h.elim
variable {pos : Pos} {a b : Expr} {m n : ME}
theorem mix (hu : X.A.units + 1 < cLine) (ha : PE X a (tE X.K cA W m)) (hb : PE X b (tE X.K cA W n)) (hs : PlainIx b := by exact fun _ _ => rfl) : PE X (.Subscript a b pos) (tE X.K cA W (binE ixD m n)) :=
  (pe_ix (ix_M hu) ha hb hs).imp fun σ H Q h => bind2 st_V mo_V h
end

/-! ### slices -/
abbrev MO := Loc → Store → R (Option Int)
def noO : MO := fun _ S => .ok none S
def someO (m : ME) : MO := fun l S => (m l S).bind fun d S1 => match intO d with
  | some i => .ok (some i) S1
  | none => .bad
def cutD (xs : List D) (lo hi : Option Int) : List D := (xs.drop (HT.sIx xs.length 0 lo)).take (HT.sIx xs.length xs.length hi - HT.sIx xs.length 0 lo)
def sliceD (d : D) (lo hi : Option Int) (S : Store) : R D := match d with
  | .str z => if z.length ≤ sizeLine then .ok (.str (cutS z lo hi)) S else .bad
  | .tup xs => .ok (.tup (cutD xs lo hi)) S
  | _ => match lstOf S d with
    | some xs => newC (.lst (cutD xs lo hi)) S
    | none => .bad
def sliceE (m : ME) (lo hi : MO) : ME := fun l S => (m l S).bind fun d S1 => (lo l S1).bind fun i S2 => (hi l S2).bind (sliceD d i)
section
variable {X : Cx} {cA : Nat → Addr} {W : XK} {K : PySem.W.Frag} {ρ : List Addr} {H : Hp} {S : Store}
theorem SlR.imp {r r' : V → Option Int → Option Int → Hp → VK → Prop} (h : SlR X r) (i : ∀ x lo hi H Q, r' x lo hi H Q → r x lo hi H Q) : SlR X r' := fun pins s σ H x v vl vu lo hi sl Q I rx hs pl pu q => h pins s σ H x v vl vu lo hi sl Q I rx hs pl pu (i _ _ _ _ _ q)
theorem cut_rep {xs : List D} {vs : List V} (h : RepVs K ρ H xs vs) (lo hi : Option Int) : RepVs K ρ H (cutD xs lo hi) (cutV vs lo hi) := by
  unfold cutD cutV
  rw [RepVs.length h]
  exact (h.drop _).take _
theorem cut_all {xs : List D} {lo hi : Option Int} (h : HT.sIx xs.length 0 lo = 0 ∧ HT.sIx xs.length xs.length hi = xs.length) : cutD xs lo hi = xs := by
  unfold cutD
  rw [h.1, h.2, List.drop_zero, Nat.sub_zero, List.take_length]
theorem sl_M : SlR X (fun x lo hi H Q => ∃ ρ S d, Reps X.K cA ρ H S ∧ RepV X.K ρ H d x ∧ After X.K cA W ρ H (rV X.K) (sliceD d lo hi S) Q) := SlR.imp ((sl_str (X := X)).or ((sl_tupA (X := X)).or (sl_list (X := X)))) fun x lo hi H Q h => by
  obtain ⟨ρ, S, d, hS, hd, h⟩ := h
  unfold sliceD at h
  split at h
  · split at h
    · rename_i hz
      unfold RepV at hd
      exact .inl ⟨_, hd, hz, h.same hS (by unfold rV RepV; rfl)⟩
    · exact h.elim
  · have hd' := hd
    unfold RepV at hd
    obtain ⟨a, vs, rfl, h1, h2⟩ := hd
    refine .inr (.inl ⟨a, vs, rfl, h1, fun hw => ?_, fun _ p hp => h.tup hS hp (cut_rep h2 lo hi)⟩)
    rw [RepVs.length h2] at hw
    rw [cut_all hw] at h
    exact h.same hS hd'
  · split at h
    · rename_i xs e
      obtain ⟨a, vs, rfl, h1, h2⟩ := lst_rep hS hd e
      exact .inr (.inr ⟨a, vs, rfl, h1, fun p hp => h.new hS hp ⟨_, upd_same, (cut_rep h2 lo hi).ext (Ext.new hp)⟩⟩)
    · exact h.elim
theorem PO.imp {e : Option Expr} {t t' : TO} (h : PO X e t) (i : ∀ σ H Q, t' σ H Q → t σ H Q) : PO X e t' := ⟨fun pins s σ H Q I q => h.run pins s σ H Q I (i σ H Q q)⟩
abbrev tO (K : PySem.W.Frag) (cA : Nat → Addr) (W : XK) (m : MO) : TO := tG K cA W rId m
variable {pos p2 : Pos} {e : Expr} {lo hi : Option Expr} {m : ME} {n o : MO}
theorem ono : PO X none (tO X.K cA W noO) := PO.imp po_none fun σ H Q h => by
  obtain ⟨ρ, S, l, hS, hl, h⟩ := h
  exact After.same (rep := rId) h hS rfl
theorem osome (h : PE X e (tE X.K cA W m)) : PO X (some e) (tO X.K cA W (someO m)) := PO.imp (po_some h) fun σ H Q h => (bind1 (rep1 := rV X.K) st_Id h).imp fun v H1 h => by
  obtain ⟨ρ, S, d, hS, hr, h⟩ := h
  split at h
  · rename_i i e
    cases d with
    | int j => cases e; unfold rV RepV at hr; exact ⟨_, hr, After.same (rep := rId) h hS rfl⟩
    | _ => cases e
  · exact h.elim
theorem mslice (he : PE X e (tE X.K cA W m)) (hl : PO X lo (tO X.K cA W n)) (hh : PO X hi (tO X.K cA W o)) : PE X (.Subscript e (.Slice lo hi none p2) pos) (tE X.K cA W (sliceE m n o)) :=
  (pe_slice sl_M he hl hh).imp fun σ H Q h => by
    refine tG.imp (bind3 (rep1 := rV X.K) (rep2 := rId) (rep3 := rId) st_V mo_V mo_Id h) fun x H1 ha => tG.imp ha fun i H2 hb => tG.imp hb fun j H3 hc => ?_
    obtain ⟨ρ, S, d, i', j', hS, h1, h2, h3, hd⟩ := hc
    subst h2 h3
    exact ⟨ρ, S, d, hS, h1, hd⟩
end

/-! ### stores -/
def setO (S : Store) (o i v : D) : Option Store := match o with
  | .ref n => match S[n]? with
    | some (.lst xs) => match i with
      | .int k => (ixN xs.length k).map fun j => S.set n (.lst (xs.set j v))
      | _ => none
    | some (.dct kvs) => match keyO i with
      | some k => if kvs.length < sizeLine then some (S.set n (.dct (dPut kvs k v))) else none
      | none => none
    | _ => none
  | _ => none
section
variable {X : Cx} {cA : Nat → Addr} {W : XK} {K : PySem.W.Frag} {ρ : List Addr} {H : Hp} {S : Store}
theorem PSet.or {t t' : TSet} (h : PSet X t) (h' : PSet X t') : PSet X (fun o i v H Q => t o i v H Q ∨ t' o i v H Q) := fun pins s σ H o i v ov iv u Q I ro ri rv q => by
  rcases q with q | q
  · exact h pins s σ H o i v ov iv u Q I ro ri rv q
  · exact h' pins s σ H o i v ov iv u Q I ro ri rv q
theorem PSet.imp {t t' : TSet} (h : PSet X t) (i : ∀ o i v H Q, t' o i v H Q → t o i v H Q) : PSet X t' := fun pins s σ H o j v ov iv u Q I ro ri rv q => h pins s σ H o j v ov iv u Q I ro ri rv (i _ _ _ _ _ q)
theorem put_rep {k : Key} {d : D} {v : V} (hv : RepV K ρ H d v) {kvs : List (Key × D)} {ps : List (Key × V)} (h : RepP K ρ H kvs ps) : RepP K ρ H (dPut kvs k d) (putK ps k v) := by
  have any_eq : ∀ {kvs : List (Key × D)} {ps : List (Key × V)}, RepP K ρ H kvs ps → (kvs.any fun kv => decide (kv.1 = k)) = (ps.any fun kv => decide (kv.1 = k)) := by
    intro kvs
    induction kvs with
    | nil => intro ps h; unfold RepP at h; rw [h]; rfl
    | cons x r ih =>
      intro ps h
      obtain ⟨j, y⟩ := x
      unfold RepP at h
      obtain ⟨w, q, rfl, _, h2⟩ := h
      rw [List.any_cons, List.any_cons, ih h2]
  have map_rep : ∀ {kvs : List (Key × D)} {ps : List (Key × V)}, RepP K ρ H kvs ps → RepP K ρ H (kvs.map fun kv => if kv.1 = k then (kv.1, d) else kv) (ps.map fun kv => if kv.1 = k then (kv.1, v) else kv) := by
    intro kvs
    induction kvs with
    | nil => intro ps h; unfold RepP at h; rw [h]; unfold RepP; rfl
    | cons x r ih =>
      intro ps h
      obtain ⟨j, y⟩ := x
      unfold RepP at h
      obtain ⟨w, q, rfl, h1, h2⟩ := h
      rw [List.map_cons, List.map_cons]
      by_cases e : j = k
      · simp only [e, if_true]
        unfold RepP
        exact ⟨v, _, rfl, hv, ih h2⟩
      · simp only [e, if_false]
        unfold RepP
        exact ⟨w, _, rfl, h1, ih h2⟩
  have app_rep : ∀ {kvs : List (Key × D)} {ps : List (Key × V)}, RepP K ρ H kvs ps → RepP K ρ H (kvs ++ [(k, d)]) (ps ++ [(k, v)]) := by
    intro kvs
    induction kvs with
    | nil => intro ps h; unfold RepP at h; rw [h]; exact ⟨v, [], rfl, hv, by unfold RepP; rfl⟩
    | cons x r ih =>
      intro ps h
      obtain ⟨j, y⟩ := x
      unfold RepP at h
      obtain ⟨w, q, rfl, h1, h2⟩ := h
      exact ⟨w, _, rfl, h1, ih h2⟩
  unfold dPut putK
  rw [any_eq h]
  split
  · exact map_rep h
  · exact app_rep h
theorem set_M (hu : X.A.units + 1 < cLine) : PSet X (fun o i v H Q => ∃ ρ S d e f, Reps X.K cA ρ H S ∧ RepV X.K ρ H d o ∧ RepV X.K ρ H e i ∧ RepV X.K ρ H f v ∧ ∃ S', setO S d e f = some S' ∧ ∀ H', Ext ρ H ρ H' → Reps X.K cA ρ H' S' → Q H') :=
  PSet.imp (PSet.or (set_list (X := X)) (set_dict hu)) fun o i v H Q h => by
    obtain ⟨ρ, S, d, e, f, hS, hd, he, hf, S', hs, q⟩ := h
    unfold setO at hs
    cases d with
    | ref n =>
      simp only at hs
      split at hs
      · rename_i xs e1
        cases e with
        | int k =>
          simp only at hs
          obtain ⟨j, hj, rfl⟩ := Option.map_eq_some_iff.mp hs
          obtain ⟨a, vs, rfl, ha, h1, h2⟩ := rlst_rep hS hd (lstAt_of e1)
          unfold RepV at he
          subst he
          have E : Ext ρ H ρ (upd H a (.lst (vs.set j v))) := Ext.write ha h1 True.intro
          refine .inl ⟨a, vs, k, j, rfl, rfl, h1, by rw [RepVs.length h2]; exact hj, q _ E (hS.write ha h1 True.intro ⟨_, upd_same, ?_⟩)⟩
          exact (RepVs.set hf j h2).ext E
        | _ => cases hs
      · rename_i kvs e1
        split at hs
        · rename_i k ek
          split at hs
          · rename_i hl
            cases hs
            obtain ⟨a, ps, rfl, ha, h1, h2⟩ := rdct_rep hS hd (dctAt_of e1)
            have := key_rep ek he
            subst this
            have E : Ext ρ H ρ (upd H a (.dK (putK ps k v))) := Ext.write ha h1 True.intro
            refine .inr ⟨a, _, rfl, DPut.k (k := k) (v := v) h1 (by rw [c_lenV.len_repP h2]; exact hl), q _ E (hS.write ha h1 True.intro ⟨_, upd_same, ?_⟩)⟩
            exact (put_rep hf h2).ext E
          · cases hs
        · cases hs
      · cases hs
    | _ => cases hs
end

/-! ### fields -/
def fldE (cs : List Nat) (f : Str) (m : ME) : ME := fun l S => (m l S).bind fun d S1 => match d with
  | .ref n => match insAt S1 n with
    | some (c, fs) => if c ∈ cs then (match fs.lookup f with
      | some x => .ok x S1
      | none => .bad) else .bad
    | none => .bad
  | _ => .bad
section
variable {X : Cx} {cA : Nat → Addr} {W : XK} {K : PySem.W.Frag} {ρ : List Addr} {H : Hp} {S : Store}
theorem fld_rep {f : Str} : ∀ {fs : List (Str × D)} {ps : List (Str × V)} {d : D}, RepP K ρ H fs ps → fs.lookup f = some d → ∃ v, ps.lookup f = some v ∧ RepV K ρ H d v
  | [], ps, d, h, e => by cases e
  | (g, x) :: r, ps, d, h, e => by
    unfold RepP at h
    obtain ⟨w, q, rfl, h1, h2⟩ := h
    cases hg : (f == g) with
    | true => simp only [List.lookup, hg] at e ⊢; cases e; exact ⟨w, rfl, h1⟩
    | false => simp only [List.lookup, hg] at e ⊢; exact fld_rep h2 e
theorem fld_none {f : Str} : ∀ {fs : List (Str × D)} {ps : List (Str × V)}, RepP K ρ H fs ps → fs.lookup f = none → ps.lookup f = none
  | [], ps, h, e => by unfold RepP at h; rw [h]; rfl
  | (g, x) :: r, ps, h, e => by
    unfold RepP at h
    obtain ⟨w, q, rfl, h1, h2⟩ := h
    cases hg : (f == g) with
    | true => simp only [List.lookup, hg] at e; cases e
    | false => simp only [List.lookup, hg] at e ⊢; exact fld_none h2 e
variable {pos : Pos} {e : Expr} {m : ME} {f : Str} {cs : List Nat}
theorem mfld (hC : ∀ c ∈ cs, Cls X.K (cA c) ∧ NoAttr X.K (cA c) f) (he : PE X e (tE X.K cA W m)) (hb : attributeBase e f X.env (eval e X.env) = eval e X.env := by rfl) : PE X (.Attribute e f pos) (tE X.K cA W (fldE cs f m)) :=
  (pe_fld he hb).imp fun σ H Q h => (bind1 (rep1 := rV X.K) st_V h).imp fun v H1 h => by
    obtain ⟨ρ, S, d, hS, hr, h⟩ := h
    split at h
    · split at h
      · rename_i c fs e1
        split at h
        · rename_i hc
          split at h
          · rename_i y e2
            obtain ⟨a, dx, ps, rfl, _, h1, h2⟩ := rins_rep hS hr e1
            obtain ⟨w, hw, rw'⟩ := fld_rep h2 e2
            exact ⟨a, cA c, dx, ps, w, rfl, h1, (hC c hc).1, (hC c hc).2, hw, h.same hS rw'⟩
          · exact h.elim
        · exact h.elim
      · exact h.elim
    · exact h.elim
end

/-! ### methods of lists and texts -/
def tM2 (K : PySem.W.Frag) (cA : Nat → Addr) (W : XK) (f : D → List D → Store → R D) : V → List V → Hp → VK → Prop := fun x xs H Q =>
  ∃ ρ S d ds, Reps K cA ρ H S ∧ RepV K ρ H d x ∧ RepVs K ρ H ds xs ∧ After K cA W ρ H (rV K) (f d ds S) Q
def lmE (f : D → List D → Store → R D) (m : ME) (n : MA) : ME := fun l S => (m l S).bind fun d S1 => if (lstOf S1 d).isSome = true then (n l S1).bind (f d) else .bad
def appendM (d : D) (ds : List D) (S : Store) : R D := match d with
  | .ref n => match lstAt S n with
    | some xs => match ds with
      | [x] => if xs.length < sizeLine then .ok .non (S.set n (.lst (xs ++ [x]))) else .bad
      | _ => .bad
    | none => .bad
  | _ => .bad
def popM (d : D) (ds : List D) (S : Store) : R D := match d with
  | .ref n => match lstAt S n with
    | some xs => match ds with
      | [] => match xs[xs.length - 1]? with
        | some x => .ok x (S.set n (.lst xs.dropLast))
        | none => .bad
      | _ => .bad
    | none => .bad
  | _ => .bad
def popAtM (d : D) (ds : List D) (S : Store) : R D := match d with
  | .ref n => match lstAt S n with
    | some xs => match ds with
      | [.int i] => if 0 ≤ i ∧ i < 2 ^ 62 then (match xs[i.toNat]? with
        | some x => .ok x (S.set n (.lst (xs.eraseIdx i.toNat)))
        | none => .bad) else .bad
      | _ => .bad
    | none => .bad
  | _ => .bad
def extendM (d : D) (ds : List D) (S : Store) : R D := match d with
  | .ref n => match lstAt S n with
    | some xs => match ds with
      | [.ref k] => match lstAt S k with
        | some ys => if xs.length + ys.length ≤ sizeLine then .ok .non (S.set n (.lst (xs ++ ys))) else .bad
        | none => .bad
      | _ => .bad
    | none => .bad
  | _ => .bad
def reverseM (d : D) (ds : List D) (S : Store) : R D := match d with
  | .ref n => match lstAt S n with
    | some xs => match ds with
      | [] => .ok .non (S.set n (.lst xs.reverse))
      | _ => .bad
    | none => .bad
  | _ => .bad
def insertM (d : D) (ds : List D) (S : Store) : R D := match d with
  | .ref n => match lstAt S n with
    | some xs => match ds with
      | [.int i, x] => if 0 ≤ i ∧ i < 2 ^ 62 ∧ xs.length < sizeLine then .ok .non (S.set n (.lst (xs.take i.toNat ++ [x] ++ xs.drop i.toNat))) else .bad
      | _ => .bad
    | none => .bad
  | _ => .bad
section
variable {X : Cx} {cA : Nat → Addr} {W : XK} {K : PySem.W.Frag} {ρ : List Addr} {H : Hp} {S : Store}
theorem MtR.imp {id : String} {r r' : V → List V → Hp → VK → Prop} (h : MtR X id r) (i : ∀ x xs H Q, r' x xs H Q → r x xs H Q) : MtR X id r' := fun pins s σ H x xs v us Q I rx rs q => h pins s σ H x xs v us Q I rx rs (i _ _ _ _ q)
/-- a list is written, and something told -/
theorem After.put {n : Nat} {a : Addr} {vs ws : List V} {xs : List D} {d : D} {v : V} {Q : V → Hp → Prop} (h : After K cA W ρ H (rV K) (.ok d (S.set n (.lst xs))) Q) (hS : Reps K cA ρ H S) (ha : ρ[n]? = some a) (h1 : H a = some (.lst vs)) (hx : RepVs K ρ H xs ws) (hd : RepV K ρ H d v) : Q v (upd H a (.lst ws)) := by
  have E : Ext ρ H ρ (upd H a (.lst ws)) := Ext.write ha h1 True.intro
  exact h ρ _ _ E (hS.write ha h1 True.intro ⟨_, upd_same, hx.ext E⟩) (hd.ext E)
theorem rep_non' : RepV K ρ H .non .non := by unfold RepV; rfl
theorem nil_rep {xs : List V} (h : RepVs K ρ H [] xs) : xs = [] := by unfold RepVs at h; exact h
theorem mt_appendM : MtR X "list.append" (tM2 X.K cA W appendM) := MtR.imp mt_append fun x xs H Q h => by
  obtain ⟨ρ, S, d, ds, hS, hd, hds, h⟩ := h
  unfold appendM at h
  split at h
  · split at h
    · rename_i ys e1
      split at h
      · split at h
        · rename_i hz
          obtain ⟨a, vs, rfl, ha, h1, h2⟩ := rlst_rep hS hd e1
          obtain ⟨w, rfl, h3⟩ := one_rep hds
          exact ⟨a, vs, w, rfl, rfl, h1, by rw [RepVs.length h2]; exact hz, h.put hS ha h1 (h2.append (.cons h3 .nil)) rep_non'⟩
        · exact h.elim
      · exact h.elim
    · exact h.elim
  · exact h.elim
theorem RepVs.dropLast {xs : List D} {vs : List V} (h : RepVs K ρ H xs vs) : RepVs K ρ H xs.dropLast vs.dropLast := by
  rw [List.dropLast_eq_take, List.dropLast_eq_take, RepVs.length h]
  exact h.take _
theorem mt_popM : MtR X "list.pop" (tM2 X.K cA W popM) := MtR.imp mt_pop fun x xs H Q h => by
  obtain ⟨ρ, S, d, ds, hS, hd, hds, h⟩ := h
  unfold popM at h
  split at h
  · split at h
    · rename_i ys e1
      split at h
      · split at h
        · rename_i z hz
          obtain ⟨a, vs, rfl, ha, h1, h2⟩ := rlst_rep hS hd e1
          obtain ⟨w, hw, rw'⟩ := RepVs.get h2 _ _ hz
          exact ⟨a, vs, w, rfl, nil_rep hds, h1, by rw [RepVs.length h2]; exact hw, h.put hS ha h1 h2.dropLast rw'⟩
        · exact h.elim
      · exact h.elim
    · exact h.elim
  · exact h.elim
theorem RepVs.eraseIdx : ∀ {xs : List D} {vs : List V} (i : Nat), RepVs K ρ H xs vs → RepVs K ρ H (xs.eraseIdx i) (vs.eraseIdx i)
  | [], vs, i, h => by unfold RepVs at h; subst h; exact .nil
  | x :: xs, vs, i, h => by
    unfold RepVs at h
    obtain ⟨w, r, rfl, h1, h2⟩ := h
    cases i with
    | zero => exact h2
    | succ i => exact .cons h1 (RepVs.eraseIdx i h2)
theorem mt_popAtM : MtR X "list.pop" (tM2 X.K cA W popAtM) := MtR.imp mt_popAt fun x xs H Q h => by
  obtain ⟨ρ, S, d, ds, hS, hd, hds, h⟩ := h
  unfold popAtM at h
  split at h
  · split at h
    · rename_i ys e1
      split at h
      · split at h
        · rename_i hi
          split at h
          · rename_i i _ z hz
            obtain ⟨a, vs, rfl, ha, h1, h2⟩ := rlst_rep hS hd e1
            obtain ⟨w, hw, rw'⟩ := RepVs.get h2 _ _ hz
            obtain ⟨u, rfl, h3⟩ := one_rep hds
            unfold RepV at h3
            subst h3
            have hlt : i.toNat < vs.length := (List.getElem?_eq_some_iff.mp hw).1
            refine ⟨a, vs, i, i.toNat, w, rfl, rfl, h1, by omega, by omega, ?_, hw, h.put hS ha h1 (h2.eraseIdx _) rw'⟩
            exact PySem.StrLaws.seqIndex_nonneg hi.1 (by omega)
          · exact h.elim
        · exact h.elim
      · exact h.elim
    · exact h.elim
  · exact h.elim
theorem mt_extendM : MtR X "list.extend" (tM2 X.K cA W extendM) := MtR.imp mt_extend fun x xs H Q h => by
  obtain ⟨ρ, S, d, ds, hS, hd, hds, h⟩ := h
  unfold extendM at h
  split at h
  · split at h
    · rename_i ys e1
      split at h
      · split at h
        · rename_i zs e2
          split at h
          · rename_i hz
            obtain ⟨a, vs, rfl, ha, h1, h2⟩ := rlst_rep hS hd e1
            obtain ⟨w, rfl, h3⟩ := one_rep hds
            obtain ⟨b, ws, rfl, hb, h4, h5⟩ := rlst_rep hS h3 e2
            exact ⟨a, b, vs, ws, rfl, rfl, h1, h4, by rw [RepVs.length h2, RepVs.length h5]; exact hz, h.put hS ha h1 (h2.append h5) rep_non'⟩
          · exact h.elim
        · exact h.elim
      · exact h.elim
    · exact h.elim
  · exact h.elim
theorem RepVs.reverse {xs : List D} {vs : List V} (h : RepVs K ρ H xs vs) : RepVs K ρ H xs.reverse vs.reverse := by
  induction xs generalizing vs with
  | nil => unfold RepVs at h; subst h; exact .nil
  | cons x xs ih =>
    unfold RepVs at h
    obtain ⟨w, r, rfl, h1, h2⟩ := h
    rw [List.reverse_cons, List.reverse_cons]
    exact (ih h2).append (.cons h1 .nil)
theorem mt_reverseM : MtR X "list.reverse" (tM2 X.K cA W reverseM) := MtR.imp mt_reverse fun x xs H Q h => by
  obtain ⟨ρ, S, d, ds, hS, hd, hds, h⟩ := h
  unfold reverseM at h
  split at h
  · split at h
    · rename_i ys e1
      split at h
      · obtain ⟨a, vs, rfl, ha, h1, h2⟩ := rlst_rep hS hd e1
        exact ⟨a, vs, rfl, nil_rep hds, h1, h.put hS ha h1 h2.reverse rep_non'⟩
      · exact h.elim
    · exact h.elim
  · exact h.elim
theorem mt_insertM : MtR X "list.insert" (tM2 X.K cA W insertM) := MtR.imp mt_insert fun x xs H Q h => by
  obtain ⟨ρ, S, d, ds, hS, hd, hds, h⟩ := h
  unfold insertM at h
  split at h
  · split at h
    · rename_i ys e1
      split at h
      · split at h
        · rename_i i y hz
          obtain ⟨a, vs, rfl, ha, h1, h2⟩ := rlst_rep hS hd e1
          obtain ⟨u, w, rfl, h3, h4⟩ := two_rep hds
          unfold RepV at h3
          subst h3
          exact ⟨a, vs, i, w, rfl, rfl, h1, by rw [RepVs.length h2]; exact hz.2.2, hz.1, by omega, h.put hS ha h1 (((h2.take _).append (.cons h4 .nil)).append (h2.drop _)) rep_non'⟩
        · exact h.elim
      · exact h.elim
    · exact h.elim
  · exact h.elim
variable {o e : Expr} {es : List Expr} {m : ME} {n : MA} {name : Str} {apos cpos : Pos} {id : String} {f : D → List D → Store → R D}
/-- xs.m(e, ..) of a list -/
theorem mlm (slot : Slot "list" name id) (hty : typeOf (.builtin id) = pure (.type "method_descriptor")) (hm : MtR X id (tM2 X.K cA W f)) (ho : PE X o (tE X.K cA W m)) (ha : PA X (e :: es) (tAs X.K cA W n))
    (hbase : attributeBase o name X.env (eval o X.env) = eval o X.env := by rfl)
    (hfew : ((backTo cpos (starEach (e :: es) X.env)).all (fun x => !x.1) && (backToKw cpos (keywordEach [] X.env)).all (fun x => x.1.isSome)
      && decide ((e :: es).length + ([] : List Keyword).length + (if ([] : List Keyword).isEmpty then 0 else 1) < 30)) = true := by rfl)
    (hline : (apos.endLine == cpos.line) = true := by rfl) (hs : starEach (e :: es) X.env = (false, eval e X.env) :: starEach es X.env := by rfl) (hplain : (backTo cpos (starEach es X.env)).any (·.1) = false := by rfl) :
    PE X (.Call (.Attribute o name apos) (e :: es) [] cpos) (tE X.K cA W (lmE f m n)) :=
  (pe_bm PySem.F.plainAttrs_list slot hty hm ho ha hbase hfew hline hs hplain).imp fun σ H Q h => (bind1L (rep1 := rV X.K) st_V h).imp fun v H1 h => by
    obtain ⟨ρ, S, l, d, hS, hl, hr, h⟩ := h
    split at h
    · rename_i hz
      obtain ⟨xs, hx⟩ := Option.isSome_iff_exists.mp hz
      obtain ⟨a, vs, rfl, h1, _⟩ := lst_rep hS hr hx
      refine ⟨.inl ⟨rfl, vs, h1⟩, ρ, S, l, hS, hl, (After.bind (rep := rVs X.K) st_V h).imp fun us H2 h => ?_⟩
      obtain ⟨ρ2, S2, ds, e2, hS2, hr2, h⟩ := h
      exact ⟨ρ2, S2, d, ds, hS2, hr.ext e2, hr2, h⟩
    · exact h.elim
/-- xs.m() of a list -/
theorem mlm0 (slot : Slot "list" name id) (hty : typeOf (.builtin id) = pure (.type "method_descriptor")) (hm : MtR X id (tM2 X.K cA W f)) (ho : PE X o (tE X.K cA W m))
    (hbase : attributeBase o name X.env (eval o X.env) = eval o X.env := by rfl) (hline : (apos.endLine == cpos.line) = true := by rfl) :
    PE X (.Call (.Attribute o name apos) [] [] cpos) (tE X.K cA W (lmE f m nilA)) :=
  (pe_bm0 PySem.F.plainAttrs_list slot hty hm ho hbase hline).imp fun σ H Q h => (bind1L (rep1 := rV X.K) st_V h).imp fun v H1 h => by
    obtain ⟨ρ, S, l, d, hS, hl, hr, h⟩ := h
    split at h
    · rename_i hz
      obtain ⟨xs, hx⟩ := Option.isSome_iff_exists.mp hz
      obtain ⟨a, vs, rfl, h1, _⟩ := lst_rep hS hr hx
      exact ⟨.inl ⟨rfl, vs, h1⟩, ρ, S, d, [], hS, hr, .nil, h⟩
    · exact h.elim
/-- sep.join(a new list of texts) -/
def joinN (m : ME) (n : MA) : ME := fun l S => (m l S).bind fun d S1 => match strO d with
  | some a => (n l S1).bind fun ds S2 => match mapO strO ds with
    | some ys => if (ys.map (·.length)).sum + ys.length * a.length ≤ 16777216 then .ok (.str (Str.join a ys)) S2 else .bad
    | none => .bad
  | none => .bad
theorem mjoin (ho : PE X o (tE X.K cA W m)) (he : PE X e (tNw X.K cA W n)) (hs : starEach [e] X.env = [(false, eval e X.env)] := by rfl) (hbase : attributeBase o "join" X.env (eval o X.env) = eval o X.env := by rfl) (hline : (apos.endLine == cpos.line) = true := by rfl) :
    PE X (.Call (.Attribute o "join" apos) [e] [] cpos) (tE X.K cA W (joinN m n)) :=
  (pe_join ho he hs hbase hline).imp fun σ H Q h => (bind1L (rep1 := rV X.K) st_V h).imp fun v H1 h => by
    obtain ⟨ρ, S, l, d, hS, hl, hr, h⟩ := h
    split at h
    · rename_i a e1
      cases d with
      | str b =>
        cases e1
        unfold rV RepV at hr
        subst hr
        refine ⟨⟨a, rfl⟩, ρ, S, l, hS, hl, (After.bind (rep := rNew X.K) st_V h).imp fun us H2 h => ?_⟩
        obtain ⟨ρ2, S2, ds, e2, hS2, ⟨p, vs, rfl, _, _, h1, h2⟩, h⟩ := h
        split at h
        · rename_i ys e3
          split at h
          · rename_i hz
            have := strs_rep e3 h2
            subst this
            refine ⟨a, p, ys, rfl, rfl, .inl (SqL.of h1), hz, ?_⟩
            rw [show Txt.join a ys = Str.join a ys from PySem.StrLaws.glued_eq_join a ys]
            exact h.same hS2 (by unfold rV RepV; rfl)
          · exact h.elim
        · exact h.elim
      | _ => cases e1
    · exact h.elim
end
end ML

set_option Elab.async false
set_option linter.all false
set_option maxRecDepth 100000
set_option autoImplicit false
/-! ML7: statements, loops, comprehensions. -/
namespace ML
open PySem PySem.Spec L2

inductive Fl where
  | nx | rt (d : D) | bk | ct
inductive FlV where
  | nx | rt (v : V) | bk | ct
abbrev MS := Loc → Store → R (Fl × Loc)
def rS (K : PySem.W.Frag) : Rel (Fl × Loc) (FlV × L2.St) := fun _ ρ H a b => RepL K ρ H a.2 b.2 ∧ match a.1, b.1 with
  | .nx, .nx => True
  | .rt d, .rt v => RepV K ρ H d v
  | .bk, .bk => True
  | .ct, .ct => True
  | _, _ => False
theorem st_S {K : PySem.W.Frag} : Stable (rS K) := fun _ _ _ _ _ _ _ _ _ h => h
def endQ (E : Ends) : FlV × L2.St → Hp → Prop := fun b H => match b.1 with
  | .nx => E.nx b.2 H
  | .rt v => E.rt v H
  | .bk => E.bk b.2 H
  | .ct => E.ct b.2 H
def tS (K : PySem.W.Frag) (cA : Nat → Addr) (W : XK) (m : MS) : TS := fun E σ H => tG K cA W (rS K) m σ H (endQ E)
def rL (K : PySem.W.Frag) : Rel Loc L2.St := fun _ ρ H a b => RepL K ρ H a b
theorem st_L {K : PySem.W.Frag} : Stable (rL K) := fun _ _ _ _ _ _ _ _ _ h => h
/-- a target's reading -/
abbrev MT := D → Loc → Store → R Loc
def tTg (K : PySem.W.Frag) (cA : Nat → Addr) (W : XK) (m : MT) : TG := fun v σ H Q => ∃ ρ S l d, Reps K cA ρ H S ∧ RepL K ρ H l σ ∧ RepV K ρ H d v ∧ After K cA W ρ H (rL K) (m d l S) Q

/-! ### what is done -/
def nilS : MS := fun l S => .ok (.nx, l) S
def thenS (n : MS) (p : Fl × Loc) (S : Store) : R (Fl × Loc) := match p.1 with
  | .nx => n p.2 S
  | _ => .ok p S
def seqS (m n : MS) : MS := fun l S => (m l S).bind (thenS n)
def exprS (m : ME) : MS := fun l S => (m l S).bind fun _ S1 => .ok (.nx, l) S1
def retS (m : ME) : MS := fun l S => (m l S).bind fun d S1 => .ok (.rt d, l) S1
def retN : MS := fun l S => .ok (.rt .non, l) S
def ifS (c : MB) (m n : MS) : MS := fun l S => (c l S).bind fun b S1 => if b = true then m l S1 else n l S1
def breakS : MS := fun l S => .ok (.bk, l) S
def contS : MS := fun l S => .ok (.ct, l) S
def setS (i : Nat) (m : ME) : MS := fun l S => (m l S).bind fun d S1 => .ok (.nx, l.set i (some d)) S1
def asgS (t : MT) (m : ME) : MS := fun l S => (m l S).bind fun d S1 => (t d l S1).bind fun l1 S2 => .ok (.nx, l1) S2
def againS (n : MS) (p : Fl × Loc) (S : Store) : R (Fl × Loc) := match p.1 with
  | .nx => n p.2 S
  | .ct => n p.2 S
  | .bk => .ok (.nx, p.2) S
  | .rt d => .ok (.rt d, p.2) S
def whileS (c : MB) (b : MS) : Nat → MS
  | 0 => fun _ _ => .bad
  | k + 1 => fun l S => (c l S).bind fun t S1 => if t = true then (b l S1).bind (againS (whileS c b k)) else .ok (.nx, l) S1
/-- what is walked: the items, and what must stay -/
abbrev Sn := List D × (Store → Prop)
open Classical in
noncomputable def forL (chk : Store → Prop) (t : MT) (b : MS) : List D → MS
  | [] => fun l S => if chk S then .ok (.nx, l) S else .bad
  | d :: ds => fun l S => if chk S then (t d l S).bind fun l1 S1 => (b l1 S1).bind (againS (forL chk t b ds)) else .bad
noncomputable def forS (src : Loc → Store → R Sn) (t : MT) (b : MS) : MS := fun l S => (src l S).bind fun p S1 => forL p.2 t b p.1 l S1
def nameT (i : Nat) : MT := fun d l S => .ok (l.set i (some d)) S
def namesL : List Nat → List D → Loc → Option Loc
  | [], [], l => some l
  | i :: is, d :: ds, l => namesL is ds (l.set i (some d))
  | _, _, _ => none
def namesT (is : List Nat) : MT := fun d l S => match d with
  | .tup xs => match namesL is xs l with
    | some l1 => .ok l1 S
    | none => .bad
  | _ => .bad
def subT (m n : ME) : MT := fun d l S => (m l S).bind fun o S1 => (n l S1).bind fun i S2 => match setO S2 o i d with
  | some S3 => .ok l S3
  | none => .bad
def putD (f : Str) (v : D) : List (Str × D) → List (Str × D)
  | [] => [(f, v)]
  | (g, x) :: r => if g = f then (g, v) :: r else (g, x) :: putD f v r
def fldS (cs : List Nat) (f : Str) (m : ME) (v : ME) : MS := fun l S => (v l S).bind fun y S1 => (m l S1).bind fun d S2 => match d with
  | .ref n => match insAt S2 n with
    | some (c, fs) => if c ∈ cs ∧ fs.length < 1000 then .ok (.nx, l) (S2.set n (.ins c (putD f y fs))) else .bad
    | none => .bad
  | _ => .bad

section
variable {X : Cx} {cA : Nat → Addr} {W : XK} {pos : Pos} {K : PySem.W.Frag}
theorem RepL.set {ρ : List Addr} {H : Hp} {l : Loc} {σ : L2.St} {d : D} {v : V} (h : RepL K ρ H l σ) (hv : RepV K ρ H d v) (i : Nat) : RepL K ρ H (l.set i (some d)) (σ.set i (some v)) := by
  refine ⟨by rw [List.length_set, List.length_set]; exact h.len, fun j e hj => ?_⟩
  by_cases q : i = j
  · subst q
    have hi : i < l.length := by
      have := (List.getElem?_eq_some_iff.mp hj).1
      rwa [List.length_set] at this
    rw [List.getElem?_set_self hi] at hj
    cases hj
    exact ⟨v, List.getElem?_set_self (by rw [← h.len]; exact hi), hv⟩
  · rw [List.getElem?_set_ne q] at hj
    obtain ⟨w, hw, r⟩ := h.at_ j e hj
    exact ⟨w, by rw [List.getElem?_set_ne q]; exact hw, r⟩
variable {m n : MS} {e : Expr} {c : Expr} {me : ME} {p : MB} {st : Stmt} {rest : List Stmt}
theorem snil : PSs X [] (tS X.K cA W nilS) := pss_nil.imp fun E σ H h => by
  obtain ⟨ρ, S, l, hS, hl, h⟩ := h
  exact After.same (b := (FlV.nx, σ)) h hS ⟨hl, trivial⟩
theorem then_of {ρ : List Addr} {H : Hp} {r : R (Fl × Loc)} {E : Ends} (h : After K cA W ρ H (rS K) (r.bind (thenS n)) (endQ E)) : After K cA W ρ H (rS K) r (endQ { E with nx := tS K cA W n E }) := by
  refine (After.bind (rep := rS K) st_S h).imp fun b H1 h => ?_
  obtain ⟨ρ1, S1, a, e1, hS, ⟨hl, hf⟩, h⟩ := h
  obtain ⟨f, l⟩ := a
  obtain ⟨g, σ⟩ := b
  cases f with
  | nx => cases g with
    | nx => exact ⟨ρ1, S1, l, hS, hl, h⟩
    | _ => exact hf.elim
  | rt d => cases g with
    | rt v => exact After.same (rep := rS K) (a := (Fl.rt d, l)) (b := (FlV.rt v, σ)) (Q := endQ E) h hS ⟨hl, hf⟩
    | _ => exact hf.elim
  | bk => cases g with
    | bk => exact After.same (rep := rS K) (a := (Fl.bk, l)) (b := (FlV.bk, σ)) (Q := endQ E) h hS ⟨hl, trivial⟩
    | _ => exact hf.elim
  | ct => cases g with
    | ct => exact After.same (rep := rS K) (a := (Fl.ct, l)) (b := (FlV.ct, σ)) (Q := endQ E) h hS ⟨hl, trivial⟩
    | _ => exact hf.elim
theorem scons (h1 : PS X st (tS X.K cA W m)) (h2 : PSs X rest (tS X.K cA W n)) : PSs X (st :: rest) (tS X.K cA W (seqS m n)) :=
  (pss_cons h1 h2).imp fun E σ H h => by
    obtain ⟨ρ, S, l, hS, hl, h⟩ := h
    exact ⟨ρ, S, l, hS, hl, then_of h⟩
theorem sone (h1 : PS X st (tS X.K cA W m)) : PSs X [st] (tS X.K cA W m) := pss_one h1
theorem spass : PS X (.Pass pos) (tS X.K cA W nilS) := ps_pass.imp fun E σ H h => by
  obtain ⟨ρ, S, l, hS, hl, h⟩ := h
  exact After.same (b := (FlV.nx, σ)) h hS ⟨hl, trivial⟩
theorem sdoc {x : Str} {j : Nat} {pos' : Pos} : PS X (.Expr (.Constant (.str x) j pos) pos') (tS X.K cA W nilS) := ps_doc.imp fun E σ H h => by
  obtain ⟨ρ, S, l, hS, hl, h⟩ := h
  exact After.same (b := (FlV.nx, σ)) h hS ⟨hl, trivial⟩
theorem sbreak : PS X (.Break pos) (tS X.K cA W breakS) := ps_break.imp fun E σ H h => by
  obtain ⟨ρ, S, l, hS, hl, h⟩ := h
  exact After.same (b := (FlV.bk, σ)) h hS ⟨hl, trivial⟩
theorem scont : PS X (.Continue pos) (tS X.K cA W contS) := ps_continue.imp fun E σ H h => by
  obtain ⟨ρ, S, l, hS, hl, h⟩ := h
  exact After.same (b := (FlV.ct, σ)) h hS ⟨hl, trivial⟩
theorem after_L {α β : Type} {rep : Rel α β} {f : Loc → α → Store → R (Fl × Loc)} {mm : Loc → Store → R α} {σ : L2.St} {H : Hp} {E : Ends} (h : tS K cA W (fun l S => (mm l S).bind (f l)) E σ H) :
    tG K cA W rep mm σ H fun x H1 => ∃ ρ S l a, Reps K cA ρ H1 S ∧ RepL K ρ H1 l σ ∧ rep H ρ H1 a x ∧ After K cA W ρ H1 (rS K) (f l a S) (endQ E) := bind1L st_S h
theorem sexpr (he : PE X e (tE X.K cA W me)) (hs : swapsWith e none pos.line X.env = pure false := by rfl) : PS X (.Expr e pos) (tS X.K cA W (exprS me)) :=
  (ps_expr he hs).imp fun E σ H h => (after_L (rep := rV X.K) h).imp fun v H1 h => by
    obtain ⟨ρ, S, l, d, hS, hl, _, h⟩ := h
    exact After.same (b := (FlV.nx, σ)) h hS ⟨hl, trivial⟩
theorem sret (he : PE X e (tE X.K cA W me)) : PS X (.Return (some e) pos) (tS X.K cA W (retS me)) :=
  (ps_ret he).imp fun E σ H h => (after_L (rep := rV X.K) h).imp fun v H1 h => by
    obtain ⟨ρ, S, l, d, hS, hl, hr, h⟩ := h
    exact After.same (b := (FlV.rt v, σ)) h hS ⟨hl, hr⟩
theorem sretN : PS X (.Return none pos) (tS X.K cA W retN) := ps_retN.imp fun E σ H h => by
  obtain ⟨ρ, S, l, hS, hl, h⟩ := h
  exact After.same (b := (FlV.rt .non, σ)) h hS ⟨hl, rep_non'⟩
theorem sif {a b : List Stmt} (hc : PT X c (tT X.K cA W p)) (ha : PSs X a (tS X.K cA W m)) (hb : PSs X b (tS X.K cA W n)) : PS X (.If c a b pos) (tS X.K cA W (ifS p m n)) :=
  (ps_if hc ha hb).imp fun E σ H h => (after_L (rep := rId) h).imp fun t H1 h => by
    obtain ⟨ρ, S, l, d, hS, hl, hr, h⟩ := h
    subst hr
    cases d with
    | true => exact ⟨ρ, S, l, hS, hl, h⟩
    | false => exact ⟨ρ, S, l, hS, hl, h⟩
theorem sset {i : Nat} {x : Str} {pos' : Pos} (hN : X.N.Nodup) (hi : X.N[i]? = some x) (hx : L2.Loc X.env.scope x) (he : PE X e (tE X.K cA W me)) (hs : swapsWith e (some (.Name x pos')) pos.line X.env = pure false := by rfl) (hf : X.fn x = true ∨ X.env.scope.names.lookup x = some .local := by first | exact .inl rfl | exact .inr rfl | assumption) :
    PS X (.Assign [.Name x pos'] e pos) (tS X.K cA W (setS i me)) :=
  (ps_set hN hi hx he hs hf).imp fun E σ H h => (after_L (rep := rV X.K) h).imp fun v H1 h => by
    obtain ⟨ρ, S, l, d, hS, hl, hr, h⟩ := h
    exact After.same (b := (FlV.nx, σ.set i (some v))) h hS ⟨hl.set hr i, trivial⟩
theorem sasg {tg : Expr} {t : MT} (he : PE X e (tE X.K cA W me)) (hg : PG X tg (tTg X.K cA W t)) (hs : swapsWithSole [tg] e pos.line X.env = pure false := by rfl) (hw : swappedStores [tg] e X.env = pure none := by rfl)
    (h1 : (assignEach [tg] X.env).map (·.2) = [assign tg X.env] := by rfl) : PS X (.Assign [tg] e pos) (tS X.K cA W (asgS t me)) :=
  (ps_asg he hg hs hw h1).imp fun E σ H h => (after_L (rep := rV X.K) h).imp fun v H1 h => by
    obtain ⟨ρ, S, l, d, hS, hl, hr, h⟩ := h
    refine ⟨ρ, S, l, d, hS, hl, hr, (After.bind (rep := rL X.K) st_S h).imp fun σ1 H2 h => ?_⟩
    obtain ⟨ρ1, S1, l1, e1, hS1, hl1, h⟩ := h
    exact After.same (b := (FlV.nx, σ1)) h hS1 ⟨hl1, trivial⟩
/-! targets -/
theorem gname {i : Nat} {x : Str} (hN : X.N.Nodup) (hi : X.N[i]? = some x) (hx : L2.Loc X.env.scope x) (hf : X.fn x = true ∨ X.env.scope.names.lookup x = some .local := by first | exact .inl rfl | exact .inr rfl | assumption) : PG X (.Name x pos) (tTg X.K cA W (nameT i)) := by
  refine ⟨fun pins s σ H v u Q I r h => (pg_name hN hi hx hf).run pins s σ H v u Q I r ?_⟩
  obtain ⟨ρ, S, l, d, hS, hl, hr, h⟩ := h
  exact After.same (rep := rL X.K) h hS (hl.set hr i)
/-- the names' own reading -/
def gNms : List Nat → TGs
  | [] => gNil
  | i :: is => gCons (gName i) (gNms is)
theorem names_of {ρ : List Addr} {H : Hp} : ∀ {is : List Nat} {ds : List D} {vs : List V} {l l1 : Loc} {σ : L2.St} {Q : L2.St → Hp → Prop}, namesL is ds l = some l1 → RepVs K ρ H ds vs → RepL K ρ H l σ → (∀ σ1, RepL K ρ H l1 σ1 → Q σ1 H) → gNms is vs σ H Q
  | [], [], vs, l, l1, σ, Q, h, r, hl, q => by
    unfold RepVs at r
    cases h
    exact ⟨r, q σ hl⟩
  | i :: is, d :: ds, vs, l, l1, σ, Q, h, r, hl, q => by
    unfold RepVs at r
    obtain ⟨v, w, rfl, h1, h2⟩ := r
    exact ⟨v, w, rfl, names_of (is := is) h h2 (hl.set h1 i) q⟩
  | [], _ :: _, _, _, _, _, _, h, _, _, _ => nomatch h
  | _ :: _, [], _, _, _, _, _, h, _, _, _ => nomatch h
theorem namesL_len : ∀ {is : List Nat} {ds : List D} {l l1 : Loc}, namesL is ds l = some l1 → ds.length = is.length
  | [], [], _, _, _ => rfl
  | i :: is, d :: ds, l, l1, h => by rw [List.length_cons, List.length_cons, namesL_len (is := is) h]
  | [], _ :: _, _, _, h => nomatch h
  | _ :: _, [], _, _, h => nomatch h
theorem gnames {es : List Expr} {k : Nat} {is : List Nat} (hc : X.calm = true) (h : PGs X es (gNms is)) (hn : (assignEach es X.env).length = is.length := by rfl) (hst : (assignEach es X.env).findIdx? (·.1) = none := by rfl) : PG X (.Tuple es k pos) (tTg X.K cA W (namesT is)) := by
  refine ⟨fun pins s σ H v u Q I r hw => (pg_tup hc h hn hst).run pins s σ H v u Q I r ?_⟩
  obtain ⟨ρ, S, l, d, hS, hl, hr, hq⟩ := hw
  unfold namesT at hq
  cases d with
  | tup xs =>
    simp only at hq
    split at hq
    · rename_i l1 e1
      unfold RepV at hr
      obtain ⟨a, vs, rfl, h1, h2⟩ := hr
      refine ⟨a, vs, rfl, h1, by rw [RepVs.length h2]; exact namesL_len e1, names_of e1 h2 hl fun σ1 hl1 => After.same (rep := rL X.K) hq hS hl1⟩
    · exact hq.elim
  | _ => exact hq.elim
theorem gsub {o i : Expr} {mo mi : ME} (hu : X.A.units + 1 < cLine) (ho : PE X o (tE X.K cA W mo)) (hi : PE X i (tE X.K cA W mi))
    (ha : ∀ v, assign (.Subscript o i pos) X.env v = (do
      let ov ← holding [v] (eval o X.env)
      let iv ← holding [v, ov] (eval i X.env)
      standAt pos
      holding [v, ov, iv] (setItem ov iv v)
      release [v, ov, iv] []) := by intro _; rfl) : PG X (.Subscript o i pos) (tTg X.K cA W (subT mo mi)) := by
  refine ⟨fun pins s σ H v u Q I r hw => (pg_sub ho hi (set_M (cA := cA) hu) ha).run pins s σ H v u Q I r ?_⟩
  obtain ⟨ρ, S, l, d, hS, hl, hr, hq⟩ := hw
  refine ⟨ρ, S, l, hS, hl, (After.bind (rep := rV X.K) st_L hq).imp fun ov H1 h => ?_⟩
  obtain ⟨ρ1, S1, od, e1, hS1, r1, h⟩ := h
  refine ⟨ρ1, S1, l, hS1, hl.ext e1, (After.bind (rep := rV X.K) st_L h).imp fun iv H2 h => ?_⟩
  obtain ⟨ρ2, S2, id, e2, hS2, r2, h⟩ := h
  split at h
  · rename_i S3 e3
    refine ⟨ρ2, S2, od, id, d, hS2, r1.ext e2, r2, (hr.ext e1).ext e2, S3, e3, fun H' e' hS' => ?_⟩
    exact h ρ2 H' σ e' hS' (((hl.ext e1).ext e2).ext e')
  · exact h.elim
theorem putD_rep {ρ : List Addr} {H : Hp} {f : Str} {d : D} {v : V} (hv : RepV K ρ H d v) : ∀ {fs : List (Str × D)} {ps : List (Str × V)}, RepP K ρ H fs ps → RepP K ρ H (putD f d fs) (putF f v ps)
  | [], ps, h => by
    unfold RepP at h
    subst h
    exact ⟨v, [], rfl, hv, by unfold RepP; rfl⟩
  | (g, x) :: r, ps, h => by
    unfold RepP at h
    obtain ⟨w, q, rfl, h1, h2⟩ := h
    unfold putD putF
    by_cases e : g = f
    · rw [if_pos e, if_pos e]; exact ⟨v, q, rfl, hv, h2⟩
    · rw [if_neg e, if_neg e]; exact ⟨w, _, rfl, h1, putD_rep hv h2⟩
theorem len_fs {ρ : List Addr} {H : Hp} : ∀ {fs : List (Str × D)} {ps : List (Str × V)}, RepP K ρ H fs ps → ps.length = fs.length
  | [], ps, h => by unfold RepP at h; rw [h]; rfl
  | (k, x) :: r, ps, h => by
    unfold RepP at h
    obtain ⟨v, q, rfl, _, h2⟩ := h
    rw [List.length_cons, List.length_cons, len_fs h2]
theorem sfld {o value : Expr} {f : Str} {pos' : Pos} {cs : List Nat} {mo mv : ME} (hC : ∀ c ∈ cs, Cls X.K (cA c) ∧ NoAttr X.K (cA c) f) (ho : PE X o (tE X.K cA W mo)) (hv : PE X value (tE X.K cA W mv)) (hs : swapsWith value (some (.Attribute o f pos')) pos.line X.env = pure false := by rfl) :
    PS X (.Assign [.Attribute o f pos'] value pos) (tS X.K cA W (fldS cs f mo mv)) :=
  (ps_fld ho hv hs).imp fun E σ H h => (after_L (rep := rV X.K) h).imp fun y H1 h => by
    obtain ⟨ρ, S, l, d, hS, hl, hr, h⟩ := h
    refine ⟨ρ, S, l, hS, hl, (After.bind (rep := rV X.K) st_S h).imp fun x H2 h => ?_⟩
    obtain ⟨ρ1, S1, o, e1, hS1, r1, h⟩ := h
    split at h
    · split at h
      · rename_i n c fs ei
        split at h
        · rename_i hc
          obtain ⟨a, dx, ps, rfl, ha, h1, h2⟩ := rins_rep hS1 r1 ei
          have EE : Ext ρ1 H2 ρ1 (upd H2 a (.ins (cA c) dx (putF f y ps))) := Ext.write ha h1 True.intro
          refine ⟨a, cA c, dx, ps, rfl, h1, (hC c hc.1).1, (hC c hc.1).2, by rw [len_fs h2]; exact hc.2, ?_⟩
          exact h ρ1 _ (FlV.nx, σ) EE (hS1.write ha h1 True.intro ⟨dx, _, upd_same, (putD_rep (hr.ext e1) h2).ext EE⟩) ⟨((hl.ext e1).ext EE), trivial⟩
        · exact h.elim
      · exact h.elim
    · exact h.elim

/-! ### while -/
theorem again_of {ρ : List Addr} {H : Hp} {r : R (Fl × Loc)} {E : Ends} {N : L2.St → Hp → Prop} (hN : ∀ σ' H', tS K cA W n E σ' H' → N σ' H') (h : After K cA W ρ H (rS K) (r.bind (againS n)) (endQ E)) : After K cA W ρ H (rS K) r (endQ { E with nx := N, ct := N, bk := E.nx }) := by
  refine (After.bind (rep := rS K) st_S h).imp fun b H1 h => ?_
  obtain ⟨ρ1, S1, a, e1, hS, ⟨hl, hf⟩, h⟩ := h
  obtain ⟨f, l⟩ := a
  obtain ⟨g, σ⟩ := b
  cases f with
  | nx => cases g with
    | nx => exact hN σ H1 ⟨ρ1, S1, l, hS, hl, h⟩
    | _ => exact hf.elim
  | rt d => cases g with
    | rt v => exact After.same (rep := rS K) (a := (Fl.rt d, l)) (b := (FlV.rt v, σ)) (Q := endQ E) h hS ⟨hl, hf⟩
    | _ => exact hf.elim
  | bk => cases g with
    | bk => exact After.same (rep := rS K) (a := (Fl.nx, l)) (b := (FlV.nx, σ)) (Q := endQ E) h hS ⟨hl, trivial⟩
    | _ => exact hf.elim
  | ct => cases g with
    | ct => exact hN σ H1 ⟨ρ1, S1, l, hS, hl, h⟩
    | _ => exact hf.elim
theorem swhile {body : List Stmt} {b : MS} (k : Nat) (hp : PassesOwn (model X.prog X.w) X.A X.env X.xe) (hc : PT X c (tT X.K cA W p)) (hb : PSs X body (tS X.K cA W b)) : PS X (.While c body [] pos) (tS X.K cA W (whileS p b k)) :=
  (ps_while hp hc hb).imp fun E σ H h => by
    refine ⟨fun m σ H => tS X.K cA W (whileS p b m) E σ H, ⟨k, h⟩, fun m σ H h => ?_⟩
    cases m with
    | zero => obtain ⟨ρ, S, l, hS, hl, h⟩ := h; exact h.elim
    | succ m =>
      refine (after_L (rep := rId) h).imp fun t H1 h => ?_
      obtain ⟨ρ, S, l, d, hS, hl, hr, h⟩ := h
      subst hr
      cases d with
      | true => exact ⟨fun σ' H' => tS X.K cA W (whileS p b m) E σ' H', fun σ' H' h => ⟨m, Nat.lt_succ_self m, h⟩, ρ, S, l, hS, hl, again_of (fun _ _ h => h) h⟩
      | false => exact After.same (b := (FlV.nx, σ)) h hS ⟨hl, trivial⟩
end

/-! ### what is walked -/
structure SrcOk (K : PySem.W.Frag) (cA : Nat → Addr) (J : It) (ρ1 : List Addr) (H1 : Hp) (p : Sn) : Prop where
  go : ∀ (ρ : List Addr) (H : Hp) (S : Store), Ext ρ1 H1 ρ H → Reps K cA ρ H S → p.2 S → ∀ (i : Nat) (d : D), p.1[i]? = some d → J.go i H ∧ ∀ x H', J.yld i H x H' → Ext ρ H ρ H' ∧ (∀ a ∈ ρ, H' a = H a) ∧ RepV K ρ H' d x
  stop : ∀ (ρ : List Addr) (H : Hp) (S : Store), Ext ρ1 H1 ρ H → Reps K cA ρ H S → p.2 S → J.stop p.1.length H
def rSrc (K : PySem.W.Frag) (cA : Nat → Addr) : Rel Sn It := fun _ ρ H p J => SrcOk K cA J ρ H p
theorem st_Src {K : PySem.W.Frag} {cA : Nat → Addr} : Stable (rSrc K cA) := fun _ _ _ _ _ _ _ _ _ h => h
def tSrc (K : PySem.W.Frag) (cA : Nat → Addr) (W : XK) (m : Loc → Store → R Sn) : TI := tG K cA W (rSrc K cA) m
section
variable {X : Cx} {cA : Nat → Addr} {W : XK} {pos : Pos} {tg iter : Expr} {b : MS} {t : MT} {src : Loc → Store → R Sn}
theorem sfor {body : List Stmt} (hp : PassesOwn (model X.prog X.w) X.A X.env X.xe) (hc : X.calm = true) (hi : PI X tg iter (tSrc X.K cA W src)) (hg : PG X tg (tTg X.K cA W t)) (hb : PSs X body (tS X.K cA W b))
    (hs : ∀ x, foldedSetIterable iter X.env x = pure x := by intro _; rfl) : PS X (.For tg iter body [] pos) (tS X.K cA W (forS src t b)) :=
  (ps_for hp hc hi hg hb hs).imp fun E σ H h => (after_L (rep := rSrc X.K cA) h).imp fun J H1 h => by
    obtain ⟨ρ1, S1, l1, q, hS1, hl1, hJ, h⟩ := h
    obtain ⟨ds, chk⟩ := q
    refine ⟨fun i m σ H => ∃ ρ S l, Ext ρ1 H1 ρ H ∧ Reps X.K cA ρ H S ∧ RepL X.K ρ H l σ ∧ m + i = ds.length ∧ After X.K cA W ρ H (rS X.K) (forL chk t b (ds.drop i) l S) (endQ E), ⟨ds.length, ρ1, S1, l1, Ext.refl _ _, hS1, hl1, by omega, by rw [List.drop_zero]; exact h⟩, fun i m σ H h => ?_⟩
    obtain ⟨ρ, S, l, e1, hS, hl, hm, h⟩ := h
    by_cases hi : i < ds.length
    · have hd : ds.drop i = ds[i] :: ds.drop (i + 1) := List.drop_eq_getElem_cons hi
      rw [hd] at h
      unfold forL at h
      split at h
      · rename_i hk
        obtain ⟨hgo, hy⟩ := hJ.go ρ H S e1 hS hk i ds[i] (List.getElem?_eq_getElem hi)
        refine .inr ⟨hgo, fun σ' H' => ∃ ρ S l, Ext ρ1 H1 ρ H' ∧ Reps X.K cA ρ H' S ∧ RepL X.K ρ H' l σ' ∧ After X.K cA W ρ H' (rS X.K) (forL chk t b (ds.drop (i + 1)) l S) (endQ E), fun σ' H' ⟨ρ', S', l', a1, a2, a3, a4⟩ => ⟨m - 1, by omega, ρ', S', l', a1, a2, a3, by omega, a4⟩, fun x H' y => ?_⟩
        obtain ⟨e2, same, rx⟩ := hy x H' y
        have hS' := hS.other e2 same
        refine ⟨ρ, S, l, ds[i], hS', hl.ext e2, rx, ?_⟩
        have h' := After.back st_S e2 h
        refine (After.bind' (rep := rL X.K) st_S h').imp fun σ2 H2 h => ?_
        obtain ⟨ρ2, S2, l2, e3, hS2, hl2, h⟩ := h
        refine ⟨ρ2, S2, l2, hS2, hl2, ?_⟩
        have e13 := (e1.trans e2).trans e3
        refine (After.bind (rep := rS X.K) st_S h).imp fun bb H3 h => ?_
        obtain ⟨ρ3, S3, a, e4, hS3, ⟨hl3, hf⟩, h⟩ := h
        obtain ⟨f, l3⟩ := a
        obtain ⟨g, σ3⟩ := bb
        cases f with
        | nx => cases g with
          | nx => exact ⟨ρ3, S3, l3, e13.trans e4, hS3, hl3, h⟩
          | _ => exact hf.elim
        | rt d => cases g with
          | rt v => exact After.same (rep := rS X.K) (a := (Fl.rt d, l3)) (b := (FlV.rt v, σ3)) (Q := endQ E) h hS3 ⟨hl3, hf⟩
          | _ => exact hf.elim
        | bk => cases g with
          | bk => exact After.same (rep := rS X.K) (a := (Fl.nx, l3)) (b := (FlV.nx, σ3)) (Q := endQ E) h hS3 ⟨hl3, trivial⟩
          | _ => exact hf.elim
        | ct => cases g with
          | ct => exact ⟨ρ3, S3, l3, e13.trans e4, hS3, hl3, h⟩
          | _ => exact hf.elim
      · exact h.elim
    · have ei : i = ds.length := by omega
      subst ei
      rw [List.drop_length] at h
      unfold forL at h
      split at h
      · rename_i hk
        exact .inl ⟨hJ.stop ρ H S e1 hS hk, After.same (b := (FlV.nx, σ)) h hS ⟨hl, trivial⟩⟩
      · exact h.elim
where
  After.bind' {α β γ δ : Type} {K : PySem.W.Frag} {cA : Nat → Addr} {W : XK} {ρ : List Addr} {H : Hp} {rep : Rel α β} {rep' : Rel γ δ} (st : Stable rep') {r : R α} {f : α → Store → R γ} {Q : δ → Hp → Prop} (h : After K cA W ρ H rep' (r.bind f) Q) :
    After K cA W ρ H rep r fun b H1 => ∃ ρ1 S1 a, Ext ρ H ρ1 H1 ∧ Reps K cA ρ1 H1 S1 ∧ rep H ρ1 H1 a b ∧ After K cA W ρ1 H1 rep' (f a S1) Q := After.bind st h
end
end ML

set_option Elab.async false
set_option linter.all false
set_option maxRecDepth 100000
set_option autoImplicit false
/-! ML8: what is walked, comprehensions, calls, defs. -/
namespace ML
open PySem PySem.Spec L2

/-! ### what is walked -/
def still : Store → Prop := fun _ => True
def signsOf (z : Str) : List D := z.cps.toList.map fun c => .str ⟨#[c]⟩
/-- the items of a value -/
def srcD (d : D) (S : Store) : R Sn := match d with
  | .tup xs => .ok (xs, still) S
  | .lis xs => .ok (xs, still) S
  | .str z => .ok (signsOf z, still) S
  | .ref n => match lstAt S n with
    | some xs => .ok (xs, fun S' => lstAt S' n = some xs) S
    | none => .bad
  | _ => .bad
def srcV (m : ME) : Loc → Store → R Sn := fun l S => (m l S).bind srcD
def srcN (m : MA) : Loc → Store → R Sn := fun l S => (m l S).bind fun ds S1 => .ok (ds, still) S1
def intsFrom (lo : Int) (n : Nat) : List D := (List.range n).map fun i => .int (lo + (i : Nat))
def rng1 (ds : List D) (S : Store) : R Sn := match ds with
  | [.int j] => if -(2 ^ 62) ≤ j ∧ j < 2 ^ 62 then .ok (intsFrom 0 j.toNat, still) S else .bad
  | _ => .bad
def rng2 (ds : List D) (S : Store) : R Sn := match ds with
  | [.int i, .int j] => if -(2 ^ 62) ≤ i ∧ i < 2 ^ 62 ∧ -(2 ^ 62) ≤ j ∧ j < 2 ^ 62 then .ok (intsFrom i (j - i).toNat, still) S else .bad
  | _ => .bad
def srcR1 (m : MA) : Loc → Store → R Sn := fun l S => (m l S).bind rng1
def srcR2 (m : MA) : Loc → Store → R Sn := fun l S => (m l S).bind rng2
section
variable {X : Cx} {cA : Nat → Addr} {W : XK} {pos p0 : Pos} {tg e a b : Expr} {m : ME} {n : MA} {K : PySem.W.Frag}
theorem _root_.L2.PI.imp {X : Cx} {tg e : Expr} {w w' : TI} (h : PI X tg e w) (i : ∀ σ H R, w' σ H R → w σ H R) : PI X tg e w' := ⟨fun pins s σ H R I q => h.run pins s σ H R I (i σ H R q)⟩
theorem _root_.L2.PI.or {X : Cx} {tg e : Expr} {w w' : TI} (h : PI X tg e w) (h' : PI X tg e w') : PI X tg e (fun σ H R => w σ H R ∨ w' σ H R) := ⟨fun pins s σ H R I q => q.elim (h.run pins s σ H R I) (h'.run pins s σ H R I)⟩
theorem ext_self {ρ : List Addr} {H : Hp} : Ext ρ H ρ H ∧ ∀ a ∈ ρ, H a = H a := ⟨Ext.refl _ _, fun _ _ => rfl⟩
/-- a tuple that stands -/
theorem src_tup {ρ : List Addr} {H : Hp} {x : Addr} {vs : List V} {ds : List D} (hs : SqT K H x vs) (hr : RepVs K ρ H ds vs) : SrcOk K cA (Itt K x) ρ H (ds, still) := by
  have len := RepVs.length hr
  refine ⟨fun ρ' H' S e _ _ i d hd => ?_, fun ρ' H' S e _ _ => ⟨vs, SqT.ext e hs, Nat.le_of_eq len⟩⟩
  obtain ⟨v, hv, r⟩ := RepVs.get hr i d hd
  refine ⟨⟨vs, v, SqT.ext e hs, hv⟩, fun y H2 hy => ?_⟩
  obtain ⟨rfl, hy⟩ := hy
  have : vs[i]? = some y := hy vs (SqT.ext e hs)
  rw [hv] at this
  cases this
  exact ⟨ext_self.1, ext_self.2, r.ext e⟩
/-- a list that stands -/
theorem src_lst {ρ : List Addr} {H : Hp} {x : Addr} {ds : List D} {chk : Store → Prop} (hs : ∀ (ρ' : List Addr) (H' : Hp) (S : Store), Ext ρ H ρ' H' → Reps K cA ρ' H' S → chk S → ∃ vs, SqL K H' x vs ∧ RepVs K ρ' H' ds vs) : SrcOk K cA (Itl K x) ρ H (ds, chk) := by
  refine ⟨fun ρ' H' S e hS hk i d hd => ?_, fun ρ' H' S e hS hk => ?_⟩
  · obtain ⟨vs, hq, hr⟩ := hs ρ' H' S e hS hk
    obtain ⟨v, hv, r⟩ := RepVs.get hr i d hd
    refine ⟨⟨vs, v, hq, hv⟩, fun y H2 hy => ?_⟩
    obtain ⟨rfl, hy⟩ := hy
    have : vs[i]? = some y := hy vs hq
    rw [hv] at this
    cases this
    exact ⟨ext_self.1, ext_self.2, r⟩
  · obtain ⟨vs, hq, hr⟩ := hs ρ' H' S e hS hk
    exact ⟨vs, hq, Nat.le_of_eq (RepVs.length hr)⟩
theorem src_str {ρ : List Addr} {H : Hp} {z : Str} : SrcOk K cA (Its z) ρ H (signsOf z, still) := by
  have len : (signsOf z).length = z.cps.size := by simp [signsOf]
  refine ⟨fun ρ' H' S e _ _ i d hd => ?_, fun ρ' H' S e _ _ => Nat.le_of_eq len.symm⟩
  have hi : i < z.cps.size := by rw [← len]; exact (List.getElem?_eq_some_iff.mp hd).1
  refine ⟨hi, fun y H2 hy => ?_⟩
  obtain ⟨rfl, c, hc, rfl⟩ := hy
  refine ⟨ext_self.1, ext_self.2, ?_⟩
  have : d = .str ⟨#[c]⟩ := by
    unfold signsOf at hd
    rw [List.getElem?_map] at hd
    have hc' : z.cps.toList[i]? = some c := by simpa using hc
    rw [hc'] at hd
    exact (Option.some.inj hd).symm
  rw [this]
  unfold RepV
  rfl
theorem src_int {ρ : List Addr} {H : Hp} {lo : Int} {n : Nat} : SrcOk K cA (Itr lo n) ρ H (intsFrom lo n, still) := by
  have len : (intsFrom lo n).length = n := by simp [intsFrom]
  refine ⟨fun ρ' H' S e _ _ i d hd => ?_, fun ρ' H' S e _ _ => Nat.le_of_eq len.symm⟩
  have hi : i < n := by rw [← len]; exact (List.getElem?_eq_some_iff.mp hd).1
  refine ⟨hi, fun y H2 hy => ?_⟩
  obtain ⟨rfl, rfl⟩ := hy
  refine ⟨ext_self.1, ext_self.2, ?_⟩
  have : d = .int (lo + (i : Nat)) := by
    unfold intsFrom at hd
    rw [List.getElem?_map, List.getElem?_range hi] at hd
    exact (Option.some.inj hd).symm
  rw [this]
  unfold RepV
  rfl
/-- for .. in a value -/
theorem isrc (he : PE X e (tE X.K cA W m)) : PI X tg e (tSrc X.K cA W (srcV m)) :=
  ((pi_tup he).or ((pi_list he).or (pi_str he))).imp fun σ H R h => by
    obtain ⟨ρ, S, l, hS, hl, h⟩ := h
    unfold srcV at h
    generalize hm : m l S = r at h
    -- the kind is known at the outset: the value is
    cases r with
    | bad => exact h.elim
    | ex x S1 =>
      refine .inl ⟨ρ, S, l, hS, hl, ?_⟩
      rw [hm]
      exact h
    | ok d S1 =>
      have h : After X.K cA W ρ H (rSrc X.K cA) (srcD d S1) R := h
      unfold srcD at h
      have st : ∀ {k : It → Hp → Prop} {q : V → Hp → Prop}, (∀ ρ' H' v, Ext ρ H ρ' H' → Reps X.K cA ρ' H' S1 → RepV X.K ρ' H' d v → q v H') → tE X.K cA W m σ H q := fun {k q} hq => ⟨ρ, S, l, hS, hl, by rw [hm]; exact hq⟩
      split at h
      · refine .inl (st (k := R) fun ρ' H' v e1 hS1 hr => ?_)
        unfold RepV at hr
        obtain ⟨x, vs, rfl, h1, h2⟩ := hr
        exact ⟨x, rfl, ⟨vs, h1⟩, h ρ' H' _ e1 hS1 (src_tup h1 h2)⟩
      · refine .inr (.inl (st (k := R) fun ρ' H' v e1 hS1 hr => ?_))
        unfold RepV at hr
        obtain ⟨x, vs, rfl, h1, h2⟩ := hr
        exact ⟨x, rfl, ⟨vs, h1.sq⟩, h ρ' H' _ e1 hS1 (src_lst (chk := still) fun ρ2 H2 S2 e2 _ _ => ⟨vs, (h1.ext e2).sq, RepVs.ext e2 h2⟩)⟩
      · refine .inr (.inr (st (k := R) fun ρ' H' v e1 hS1 hr => ?_))
        unfold RepV at hr
        subst hr
        exact ⟨_, rfl, h ρ' H' _ e1 hS1 src_str⟩
      · split at h
        · rename_i n _ _ xs e0
          refine .inr (.inl (st (k := R) fun ρ' H' v e1 hS1 hr => ?_))
          obtain ⟨x, vs, rfl, ha, h1, h2⟩ := rlst_rep hS1 hr e0
          refine ⟨x, rfl, ⟨vs, SqL.of h1⟩, h ρ' H' _ e1 hS1 (src_lst fun ρ2 H2 S2 e2 hS2 hk => ?_)⟩
          have hr2 : RepV X.K ρ2 H2 (.ref n) (.ref x) := hr.ext e2
          obtain ⟨x', vs', ex, _, h3, h4⟩ := rlst_rep hS2 hr2 hk
          cases ex
          exact ⟨vs', SqL.of h3, h4⟩
        · exact h.elim
      · exact h.elim
/-- for .. in a new list -/
theorem isrcN (he : PE X e (tNw X.K cA W n)) : PI X tg e (tSrc X.K cA W (srcN n)) :=
  (pi_list he).imp fun σ H R h => by
    obtain ⟨ρ, S, l, hS, hl, h⟩ := h
    refine ⟨ρ, S, l, hS, hl, (After.bind (rep := rNew X.K) st_Src h).imp fun v H1 h => ?_⟩
    obtain ⟨ρ1, S1, ds, e1, hS1, ⟨p, vs, rfl, h0, hn, h1, h2⟩, h⟩ := h
    exact ⟨p, rfl, ⟨vs, SqL.of h1⟩, After.same (rep := rSrc X.K cA) h hS1 (src_lst (chk := still) fun ρ2 H2 S2 e2 _ _ => ⟨vs, SqL.of (e2.keep p _ h1 hn), RepVs.ext e2 h2⟩)⟩
theorem irng1 (hg : Gl X "range") (hm : X.mg "range" = none) (ha : PA X [a] (tAs X.K cA W n)) (hs : starEach [a] X.env = [(false, eval a X.env)] := by rfl) : PI X tg (.Call (.Name "range" p0) [a] [] pos) (tSrc X.K cA W (srcR1 n)) :=
  (pi_range1 hg hm ha hs).imp fun σ H R h => (bind1 (rep1 := rVs X.K) st_Src h).imp fun vs H1 h => by
    obtain ⟨ρ, S, ds, hS, hr, h⟩ := h
    unfold rng1 at h
    split at h
    · split at h
      · rename_i hz
        obtain ⟨v, rfl, h1⟩ := one_rep hr
        unfold RepV at h1
        subst h1
        exact ⟨_, rfl, hz.1, hz.2, After.same (rep := rSrc X.K cA) h hS src_int⟩
      · exact h.elim
    · exact h.elim
theorem irng2 (hg : Gl X "range") (hm : X.mg "range" = none) (ha : PA X [a, b] (tAs X.K cA W n)) (hs : starEach [a, b] X.env = [(false, eval a X.env), (false, eval b X.env)] := by rfl) (hs2 : starEach [b] X.env = [(false, eval b X.env)] := by rfl) : PI X tg (.Call (.Name "range" p0) [a, b] [] pos) (tSrc X.K cA W (srcR2 n)) :=
  (pi_range2 hg hm ha hs hs2).imp fun σ H R h => (bind1 (rep1 := rVs X.K) st_Src h).imp fun vs H1 h => by
    obtain ⟨ρ, S, ds, hS, hr, h⟩ := h
    unfold rng2 at h
    split at h
    · split at h
      · rename_i hz
        obtain ⟨v, w, rfl, h1, h2⟩ := two_rep hr
        unfold RepV at h1 h2
        subst h1 h2
        exact ⟨_, _, rfl, hz, After.same (rep := rSrc X.K cA) h hS src_int⟩
      · exact h.elim
    · exact h.elim
end

/-! ### comprehensions -/
def R.noex {α : Type} : R α → R α
  | .ok a S => .ok a S
  | _ => .bad
abbrev W0 : XK := fun _ _ _ => False
theorem After.noex {α β : Type} {K : PySem.W.Frag} {cA : Nat → Addr} {W W' : XK} {ρ : List Addr} {H : Hp} {rep : Rel α β} {r : R α} {Q : β → Hp → Prop} (h : After K cA W ρ H rep r.noex Q) : After K cA W' ρ H rep r Q := by
  cases r with
  | ok a S => exact h
  | ex x S => exact h.elim
  | bad => exact h.elim
theorem noex_bind {α β : Type} (r : R α) (f : α → Store → R β) : (r.bind f).noex = r.noex.bind fun a S => (f a S).noex := by cases r <;> rfl
/-- the slots of the block's own names -/
def wipeL (l : Loc) : List Nat → Loc
  | [] => l
  | v :: vs => (wipeL l vs).set v none
def yesM : MB := fun _ S => .ok true S
/-- how a block's target is set: one name, or several -/
inductive Tgt where
  | one (i : Nat) | many (is : List Nat)
def Tgt.own : Tgt → List Nat
  | .one i => [i]
  | .many is => is
def Tgt.put (t : Tgt) (d : D) (l : Loc) : Option Loc := match t with
  | .one i => some (l.set i (some d))
  | .many is => match d with
    | .tup xs => namesL is xs l
    | _ => none
open Classical in
noncomputable def compL (chk : Store → Prop) (t : Tgt) (c : MB) (m : ME) (l : Loc) : List D → List D → Store → R (List D)
  | [], acc, S => if chk S then .ok acc S else .bad
  | d :: ds, acc, S => if chk S then (match t.put d l with
    | some l1 => (c l1 S).bind fun b S1 => if b = true then (m l1 S1).bind fun y S2 => if acc.length < sizeLine then compL chk t c m l ds (acc ++ [y]) S2 else .bad else compL chk t c m l ds acc S1
    | none => .bad) else .bad
noncomputable def compN (src : Loc → Store → R Sn) (t : Tgt) (c : MB) (m : ME) : MA := fun l S => (src l S).bind fun p S1 => (compL p.2 t c m (wipeL l t.own) p.1 [] S1).noex
section
variable {X : Cx} {cA : Nat → Addr} {W : XK} {K : PySem.W.Frag}
theorem RepL.wipe {ρ : List Addr} {H : Hp} {l : Loc} {σ : L2.St} (h : RepL K ρ H l σ) : ∀ vs : List Nat, RepL K ρ H (wipeL l vs) (wipe σ vs)
  | [] => h
  | v :: vs => by
    have ih := RepL.wipe h vs
    refine ⟨by unfold wipeL L2.wipe; rw [List.length_set, List.length_set]; exact ih.len, fun j e hj => ?_⟩
    unfold wipeL at hj
    unfold L2.wipe
    by_cases q : v = j
    · subst q
      have hi : v < (wipeL l vs).length := by
        have := (List.getElem?_eq_some_iff.mp hj).1
        rwa [List.length_set] at this
      rw [List.getElem?_set_self hi] at hj
      cases hj
    · rw [List.getElem?_set_ne q] at hj
      obtain ⟨w, hw, r⟩ := ih.at_ j e hj
      exact ⟨w, by rw [List.getElem?_set_ne q]; exact hw, r⟩
theorem set_wipe {σ : L2.St} {i : Nat} {v : Option V} : ∀ {vs : List Nat}, i ∈ vs → wipe (σ.set i v) vs = wipe σ vs
  | [], h => nomatch h
  | j :: vs, h => by
    unfold L2.wipe
    by_cases q : j = i
    · subst q
      by_cases hm : j ∈ vs
      · rw [set_wipe hm]
      · rw [wipe_set_comm hm, List.set_set]
    · rcases List.mem_cons.mp h with e | hm
      · exact absurd e.symm q
      · rw [set_wipe hm]
where
  wipe_set_comm {σ : L2.St} {i : Nat} {v : Option V} : ∀ {vs : List Nat}, i ∉ vs → wipe (σ.set i v) vs = (wipe σ vs).set i v
    | [], _ => rfl
    | j :: vs, h => by
      unfold L2.wipe
      have h1 : j ≠ i := fun e => h (by simp [e])
      have h2 : i ∉ vs := fun e => h (by simp [e])
      rw [wipe_set_comm h2, List.set_comm _ _ (Ne.symm h1)]
/-- the raw reading of a target -/
def gT (K : PySem.W.Frag) : Tgt → TG
  | .one i => gName i
  | .many is => gTup K is.length (gNms is)
theorem gNms_of {ρ : List Addr} {H : Hp} : ∀ {is : List Nat} {ds : List D} {vs : List V} {l l1 : Loc} {σ : L2.St} {own : List Nat} {Q : L2.St → Hp → Prop}, (∀ i ∈ is, i ∈ own) → namesL is ds l = some l1 → RepVs K ρ H ds vs → RepL K ρ H l σ →
    (∀ σ1, RepL K ρ H l1 σ1 → wipe σ1 own = wipe σ own → Q σ1 H) → gNms is vs σ H Q
  | [], [], vs, l, l1, σ, own, Q, ho, h, r, hl, q => by
    unfold RepVs at r
    cases h
    exact ⟨r, q σ hl rfl⟩
  | i :: is, d :: ds, vs, l, l1, σ, own, Q, ho, h, r, hl, q => by
    unfold RepVs at r
    obtain ⟨v, w, rfl, h1, h2⟩ := r
    refine ⟨v, w, rfl, gNms_of (is := is) (own := own) (fun i hi => ho i (List.mem_cons_of_mem _ hi)) h h2 (hl.set h1 i) fun σ1 hl1 e => q σ1 hl1 ?_⟩
    rw [e, set_wipe (ho i List.mem_cons_self)]
  | [], _ :: _, _, _, _, _, _, _, _, h, _, _, _ => nomatch h
  | _ :: _, [], _, _, _, _, _, _, _, h, _, _, _ => nomatch h
theorem gT_of {ρ : List Addr} {H : Hp} {t : Tgt} {d : D} {v : V} {l l1 : Loc} {σ : L2.St} {Q : L2.St → Hp → Prop} (h : t.put d l = some l1) (r : RepV K ρ H d v) (hl : RepL K ρ H l σ) (q : ∀ σ1, RepL K ρ H l1 σ1 → wipe σ1 t.own = wipe σ t.own → Q σ1 H) : gT K t v σ H Q := by
  cases t with
  | one i =>
    cases h
    exact q _ (hl.set r i) (set_wipe (by simp [Tgt.own]))
  | many is =>
    unfold Tgt.put at h
    cases d with
    | tup xs =>
      unfold RepV at r
      obtain ⟨a, vs, rfl, h1, h2⟩ := r
      exact ⟨a, vs, rfl, h1, by rw [RepVs.length h2]; exact namesL_len h, gNms_of (own := is) (fun _ h => h) h h2 hl q⟩
    | _ => cases h
theorem wipe_wipe {σ : L2.St} : ∀ {vs : List Nat}, wipe (wipe σ vs) vs = wipe σ vs
  | [] => rfl
  | v :: vs => by
    rw [show wipe σ (v :: vs) = (wipe σ vs).set v none from rfl]
    exact (set_wipe List.mem_cons_self).trans (by show (wipe (wipe σ vs) vs).set v none = _; rw [wipe_wipe])
variable {elt tg iter : Expr} {ifs : List Expr} {scope : Scope} {own : List (Str × Nat)} {pos spos : Pos} {src : Loc → Store → R Sn} {t : Tgt} {c : MB} {m : ME}
structure Kp (H H' : Hp) : Prop where
  tup : ∀ a xs, Rd H a (.tup xs) → Rd H' a (.tup xs)
  lst : ∀ a o xs, H a = some (.frz o (.lst xs)) → H' a = some (.frz o (.lst xs))
  xd : ∀ a ps, H a = some (.xd ps) → H' a = some (.xd ps)
mutual
theorem RepV.hp {ρ : List Addr} {H H' : Hp} (t : Kp H H') : ∀ {d : D} {v : V}, RepV K ρ H d v → RepV K ρ H' d v
  | .non, _, h => h
  | .bl _, _, h => h
  | .int _, _, h => h
  | .str _, _, h => h
  | .tup xs, v, h => by
    unfold RepV at h ⊢
    obtain ⟨a, vs, ev, hs, hr⟩ := h
    refine ⟨a, vs, ev, ?_, RepVs.hp t hr⟩
    rcases hs with hs | hs
    · exact .inl (t.tup a vs hs)
    · exact .inr hs
  | .lis xs, v, h => by
    unfold RepV at h ⊢
    obtain ⟨a, vs, ev, hs, hr⟩ := h
    refine ⟨a, vs, ev, ?_, RepVs.hp t hr⟩
    rcases hs with ⟨o, hs⟩ | hs
    · exact .inl ⟨o, t.lst a o vs hs⟩
    · exact .inr hs
  | .ref n, v, h => h
  | .exn _, v, h => h
  | .exf _ _ _, v, h => by
    unfold RepV at h ⊢
    exact ⟨h.1, t.xd _ _ h.2⟩
theorem RepVs.hp {ρ : List Addr} {H H' : Hp} (t : Kp H H') : ∀ {ds : List D} {vs : List V}, RepVs K ρ H ds vs → RepVs K ρ H' ds vs
  | [], _, h => h
  | x :: xs, vs, h => by
    unfold RepVs at h ⊢
    obtain ⟨v, r, ev, h1, h2⟩ := h
    exact ⟨v, r, ev, RepV.hp t h1, RepVs.hp t h2⟩
end
theorem RepP.hp {ρ : List Addr} {H H' : Hp} (t : Kp H H') {κ : Type} : ∀ {kvs : List (κ × D)} {ps : List (κ × V)}, RepP K ρ H kvs ps → RepP K ρ H' kvs ps
  | [], _, h => h
  | (k, x) :: r, ps, h => by
    unfold RepP at h ⊢
    obtain ⟨v, q, ev, h1, h2⟩ := h
    exact ⟨v, q, ev, h1.hp t, RepP.hp t h2⟩
/-- an inner step, the wish kept of where it began -/
theorem After.step {α β γ δ : Type} {W : XK} {ρ1 ρ2 : List Addr} {H1 H2 : Hp} {rep : Rel α β} {rep' : Rel γ δ} {r : R α} {f : α → Store → R γ} {Q : δ → Hp → Prop} (h : After K cA W ρ1 H1 rep' (r.bind f) Q) (e : Ext ρ1 H1 ρ2 H2) :
    After K cA W ρ2 H2 rep r fun b H3 => ∃ ρ3 S3 a, Ext ρ2 H2 ρ3 H3 ∧ Reps K cA ρ3 H3 S3 ∧ rep H2 ρ3 H3 a b ∧ After K cA W ρ1 H1 rep' (f a S3) Q := by
  cases r with
  | ok a S => exact fun ρ' H' b e' hs hr => ⟨ρ', S, a, e', hs, hr, h⟩
  | ex x S => exact fun ρ' H' c d e' hs hr => h ρ' H' c d (e.trans e') hs hr
  | bad => exact h
/-- the list that is being built is written -/
structure Owned (D0 : Addr) (ρ1 : List Addr) (H1 : Hp) (ρ2 : List Addr) (H2 : Hp) (vs : List V) : Prop where
  no : H1 D0 = none
  ext : Ext ρ1 H1 ρ2 H2
  nin : D0 ∉ ρ2
  at_ : H2 D0 = some (.lst vs)
section
variable {D0 : Addr} {ρ1 ρ2 ρ3 : List Addr} {H1 H2 H3 : Hp} {vs ws : List V}
theorem Owned.go (o : Owned D0 ρ1 H1 ρ2 H2 vs) (e : Ext ρ2 H2 ρ3 H3) : Owned D0 ρ1 H1 ρ3 H3 vs := by
  refine ⟨o.no, o.ext.trans e, fun hm => ?_, e.keep D0 _ o.at_ o.nin⟩
  obtain ⟨r, er, nr⟩ := e.pre
  rw [er] at hm
  rcases List.mem_append.mp hm with z | z
  · exact o.nin z
  · have := nr D0 z
    rw [o.at_] at this; cases this
theorem Owned.t1 (o : Owned D0 ρ1 H1 ρ2 H2 vs) : ∀ a xs, Rd H2 a (.tup xs) → Rd (upd H2 D0 (.lst ws)) a (.tup xs) := fun a xs h => by
  have ne : a ≠ D0 := by
    rintro rfl
    rcases h with h | ⟨u, h⟩ <;> (rw [o.at_] at h; cases h)
  rcases h with h | ⟨u, h⟩
  · exact .inl (by rw [upd_ne ne]; exact h)
  · exact .inr ⟨u, by rw [upd_ne ne]; exact h⟩
theorem Owned.t2 (o : Owned D0 ρ1 H1 ρ2 H2 vs) : ∀ a u xs, H2 a = some (.frz u xs) → (upd H2 D0 (.lst ws)) a = some (.frz u xs) := fun a u xs h => by
  have ne : a ≠ D0 := by
    rintro rfl
    rw [o.at_] at h; cases h
  rw [upd_ne ne]; exact h
theorem Owned.t3 (o : Owned D0 ρ1 H1 ρ2 H2 vs) : ∀ a xs, H2 a = some (.xd xs) → (upd H2 D0 (.lst ws)) a = some (.xd xs) := fun a xs h => by
  have ne : a ≠ D0 := by
    rintro rfl
    rw [o.at_] at h; cases h
  rw [upd_ne ne]; exact h
theorem Owned.kp (o : Owned D0 ρ1 H1 ρ2 H2 vs) : Kp H2 (upd H2 D0 (.lst ws)) := ⟨o.t1, fun a u xs => o.t2 a u (.lst xs), o.t3⟩
theorem Owned.put (o : Owned D0 ρ1 H1 ρ2 H2 vs) : Owned D0 ρ1 H1 ρ2 (upd H2 D0 (.lst ws)) ws := by
  have ne : ∀ {b : Addr}, H1 b ≠ none → b ≠ D0 := fun {b} hb e => hb (by rw [e]; exact o.no)
  obtain ⟨r, er, nr⟩ := o.ext.pre
  refine ⟨o.no, ⟨⟨r, er, nr⟩, fun b q hb nb => ?_, fun b xs hb => o.t1 b xs (o.ext.tups b xs hb), fun b q xs hb => o.t2 b q xs (o.ext.frzs b q xs hb), fun b hb => ?_, fun b xs hb => o.t3 b xs (o.ext.xds b xs hb)⟩, o.nin, upd_same⟩
  · rw [upd_ne (ne (by rw [hb]; simp))]; exact o.ext.keep b q hb nb
  · rw [upd_ne (ne hb)]; exact o.ext.there b hb
theorem Owned.reps {S : Store} (o : Owned D0 ρ1 H1 ρ2 H2 vs) (h : Reps K cA ρ2 H2 S) : Reps K cA ρ2 (upd H2 D0 (.lst ws)) S := by
  refine ⟨h.len, h.nd, fun n c a hc ha => ?_⟩
  have na : a ≠ D0 := fun e => o.nin (by rw [← e]; exact List.mem_of_getElem? ha)
  have q := h.at_ n c a hc ha
  cases c with
  | lst xs => obtain ⟨vs, h1, h2⟩ := q; exact ⟨vs, by rw [upd_ne na]; exact h1, h2.hp o.kp⟩
  | dct xs => obtain ⟨vs, h1, h2⟩ := q; exact ⟨vs, by rw [upd_ne na]; exact h1, h2.hp o.kp⟩
  | dlk xs => obtain ⟨u, vs, h1, h2⟩ := q; exact ⟨u, vs, by rw [upd_ne na]; exact h1, h2.hp o.kp⟩
  | ins c xs => obtain ⟨dx, vs, h1, h2⟩ := q; exact ⟨dx, vs, by rw [upd_ne na]; exact h1, h2.hp o.kp⟩
end
/-- what a comprehension asks -/
theorem comp_of (ho : own.map (·.2) = t.own) {σ : L2.St} {H : Hp} {Q : VK} (h : tNw X.K cA W (compN src t c m) σ H Q) : tLc (tSrc X.K cA W src) (gT X.K t) (tT X.K cA W0 c) (tE X.K cA W0 m) (own.map (·.2)) σ H Q := by
  rw [ho]
  obtain ⟨ρ, S, l, hS, hl, h⟩ := h
  refine ⟨ρ, S, l, hS, hl, (After.bind (rep := rSrc X.K cA) st_New h).imp fun J H1 h => ?_⟩
  obtain ⟨ρ1, S1, p, e1, hS1, hJ, h⟩ := h
  intro D0 hD
  have hl1 : RepL X.K ρ1 H1 (wipeL l t.own) (wipe σ t.own) := (hl.ext e1).wipe t.own
  -- the invariant: behind i turns
  refine ⟨fun i k H2 => ∃ ρ2 S2 acc vs, Owned D0 ρ1 H1 ρ2 H2 vs ∧ Reps X.K cA ρ2 H2 S2 ∧ RepVs X.K ρ2 H2 acc vs ∧ k + i = p.1.length ∧
    After X.K cA W ρ1 H1 (rNew X.K) (compL p.2 t c m (wipeL l t.own) (p.1.drop i) acc S2).noex Q, ?_, ?_⟩
  · refine ⟨p.1.length, ρ1, S1, [], [], ⟨hD, Ext.new hD, hS1.free hD, upd_same⟩, hS1.new hD, .nil, by omega, ?_⟩
    rw [List.drop_zero]
    exact h
  · rintro i k H2 ⟨ρ2, S2, acc, vs, o, hS2, hr, hk, h⟩
    by_cases hi : i < p.1.length
    · have hd : p.1.drop i = p.1[i] :: p.1.drop (i + 1) := List.drop_eq_getElem_cons hi
      rw [hd] at h
      unfold compL at h
      split at h
      · rename_i hc
        obtain ⟨hgo, hy⟩ := hJ.go ρ2 H2 S2 o.ext hS2 hc i p.1[i] (List.getElem?_eq_getElem hi)
        refine .inr ⟨hgo, fun H' => ∃ ρ2 S2 acc vs, Owned D0 ρ1 H1 ρ2 H' vs ∧ Reps X.K cA ρ2 H' S2 ∧ RepVs X.K ρ2 H' acc vs ∧
          After X.K cA W ρ1 H1 (rNew X.K) (compL p.2 t c m (wipeL l t.own) (p.1.drop (i + 1)) acc S2).noex Q, fun H' ⟨ρ2, S2, acc, vs, a1, a2, a3, a4⟩ => ⟨k - 1, by omega, ρ2, S2, acc, vs, a1, a2, a3, by omega, a4⟩, fun x H3 hx => ?_⟩
        obtain ⟨e3, same, rx⟩ := hy x H3 hx
        have hS3 := hS2.other e3 same
        have o3 := o.go e3
        split at h
        · rename_i l1 el
          have hl3 : RepL X.K ρ2 H3 (wipeL l t.own) (wipe σ t.own) := hl1.ext o3.ext
          refine gT_of el rx hl3 fun σ1 hs1 hw => ⟨hw.trans wipe_wipe, ?_⟩
          rw [noex_bind] at h
          refine ⟨ρ2, S2, l1, hS3, hs1, After.noex (W := W) ((After.step (rep := rId) h o3.ext).imp fun tb H4 hq => ?_)⟩
          obtain ⟨ρ4, S4, tb', e4, hS4, ht, h⟩ := hq
          subst ht
          have o4 := o3.go e4
          have hr4 : RepVs X.K ρ4 H4 acc vs := RepVs.ext e4 (RepVs.ext e3 hr)
          cases tb' with
          | true =>
            simp only [if_true] at h ⊢
            rw [noex_bind] at h
            refine ⟨ρ4, S4, l1, hS4, hs1.ext e4, After.noex (W := W) ((After.step (rep := rV X.K) h o4.ext).imp fun y H5 hq => ?_)⟩
            obtain ⟨ρ5, S5, yd, e5, hS5, ry, h⟩ := hq
            have o5 := o4.go e5
            have hr5 := RepVs.ext e5 hr4
            split at h
            · rename_i hz
              refine ⟨vs, o5.at_, by rw [RepVs.length hr5]; exact hz, ρ5, S5, acc ++ [yd], vs ++ [y], o5.put, o5.reps hS5, ?_, h⟩
              exact RepVs.hp o5.kp (hr5.append (.cons ry .nil))
            · exact h.elim
          | false =>
            exact ⟨ρ4, S4, acc, vs, o4, hS4, hr4, h⟩
        · exact h.elim
      · exact h.elim
    · have ei : i = p.1.length := by omega
      subst ei
      rw [List.drop_length] at h
      unfold compL at h
      split at h
      · rename_i hc
        exact .inl ⟨hJ.stop ρ2 H2 S2 o.ext hS2 hc, h ρ2 H2 _ o.ext hS2 ⟨D0, vs, rfl, hD, o.nin, o.at_, hr⟩⟩
      · exact h.elim
/-- [elt for .. in .. if ..] -/
theorem mcomp (ho : own.map (·.2) = t.own) (hc : X.calm = true) (hN : X.N.Nodup) (hi : PI X tg iter (tSrc X.K cA W src)) (ok : BlkOk X.N X.env.scope scope own)
    (hg : ∀ (s : Shared) (H : Hp) (C : Addr) (cl : List (Str × Addr)) (fp : List Addr), PG (X.blk s H scope (compEnvC scope cl C X.env) fp) tg (gT X.K t)) (ht : ∀ (s : Shared) (H : Hp) (C : Addr) (cl : List (Str × Addr)) (fp : List Addr), PTs (X.blk s H scope (compEnvC scope cl C X.env) fp) ifs (tT X.K cA W0 c))
    (he : ∀ (s : Shared) (H : Hp) (C : Addr) (cl : List (Str × Addr)) (fp : List Addr), PE (X.blk s H scope (compEnvC scope cl C X.env) fp) elt (tE X.K cA W0 m)) (hs : ∀ x, foldedSetIterable iter X.env x = pure x := by intro _; rfl) :
    PE X (.ListComp elt [⟨tg, iter, ifs, 0⟩] scope pos) (tNw X.K cA W (compN src t c m)) :=
  (pe_lc hc hN hi ok hg ht he hs).imp fun σ H Q h => comp_of ho h
/-- y = [elt for .. in .. if ..] -/
theorem ssetC {i : Nat} {y : Str} {py : Pos} (ho : own.map (·.2) = t.own) (hc : X.calm = true) (hN : X.N.Nodup) (hy : X.N[i]? = some y) (hyl : X.env.scope.names.lookup y = some .local)
    (hsw : swapsWith (.ListComp elt [⟨tg, iter, ifs, 0⟩] scope pos) (some (.Name y py)) spos.line X.env = pure true) (hi : PI X tg iter (tSrc X.K cA W src)) (ok : BlkOk X.N X.env.scope scope own)
    (hg : ∀ (s : Shared) (H : Hp) (C : Addr) (cl : List (Str × Addr)) (fp : List Addr), PG (X.blk s H scope (compEnvC scope cl C X.env) fp) tg (gT X.K t)) (ht : ∀ (s : Shared) (H : Hp) (C : Addr) (cl : List (Str × Addr)) (fp : List Addr), PTs (X.blk s H scope (compEnvC scope cl C X.env) fp) ifs (tT X.K cA W0 c))
    (he : ∀ (s : Shared) (H : Hp) (C : Addr) (cl : List (Str × Addr)) (fp : List Addr), PE (X.blk s H scope (compEnvC scope cl C X.env) fp) elt (tE X.K cA W0 m)) (hs : ∀ x, foldedSetIterable iter X.env x = pure x := by intro _; rfl) :
    PS X (.Assign [.Name y py] (.ListComp elt [⟨tg, iter, ifs, 0⟩] scope pos) spos) (tS X.K cA W (setS i (allocE (compN src t c m)))) :=
  (ps_setLc hc hN hy hyl hsw hi ok hg ht he hs).imp fun E σ H h => by
    have h1 : tE X.K cA W (allocE (compN src t c m)) σ H fun v H1 => E.nx (σ.set i (some v)) H1 := (after_L (rep := rV X.K) h).imp fun v H1 h => by
      obtain ⟨ρ, S, l, d, hS, hl, hr, h⟩ := h
      exact After.same (b := (FlV.nx, σ.set i (some v))) h hS ⟨hl.set hr i, trivial⟩
    exact comp_of ho (alloc_of h1)
where
  alloc_of {n : MA} {σ : L2.St} {H : Hp} {Q : VK} (h : tE X.K cA W (allocE n) σ H Q) : tNw X.K cA W n σ H Q := by
    obtain ⟨ρ, S, l, hS, hl, h⟩ := h
    refine ⟨ρ, S, l, hS, hl, ?_⟩
    unfold allocE at h
    generalize n l S = r at h
    cases r with
    | ok ds S1 =>
      intro ρ' H' v e1 hs hr
      obtain ⟨p, vs, rfl, h0, hn, h1, h2⟩ := hr
      refine h (ρ' ++ [p]) H' (.ref p) (e1.take h0) (hs.push hn ⟨vs, h1, h2⟩) ?_
      show RepV X.K (ρ' ++ [p]) H' (.ref S1.length) (.ref p)
      unfold RepV
      exact ⟨p, by rw [← hs.len, List.getElem?_append_right (Nat.le_refl _)]; simp, rfl⟩
    | ex x S1 => exact h
    | bad => exact h
theorem tyes : PTs X [] (tT X.K cA W yesM) := ⟨fun pins s σ H Q I h => pts_nil.run pins s σ H Q I (by
  obtain ⟨ρ, S, l, hS, hl, h⟩ := h
  exact After.same (rep := rId) h hS rfl)⟩
theorem tone {c : Expr} {p : MB} (h : PT X c (tT X.K cA W p)) : PTs X [c] (tT X.K cA W p) := pts_one h
end

/-! ### calls, defs -/
def spM (K : PySem.W.Frag) (cA : Nat → Addr) (G : List D → Store → R D) (n : Nat) : Sp := fun vs H Q E => vs.length = n ∧ tN K cA E (rV K) G vs H Q
structure FnM (P : Program) (w : World) (K : PySem.W.Frag) (mg : Str → Option Value) (base : Heap) (cA : Nat → Addr) (k : Nat) (x : Str) (n : Nat) (G : List D → Store → R D) : Prop where
  ex : ∃ f fd ps, mg x = some (.ref f) ∧ PySem.W.keepIn K (.ref f) = true ∧ Binds K fd ps [] ∧ FnOk P w K mg base (L2.CX P w) k f fd ps (spM K cA G n)
def callE (n : Nat) (G : List D → Store → R D) (m : MA) : ME := fun l S => (m l S).bind fun ds S1 => if ds.length = n then G ds S1 else .bad
def startL (n : Nat) (ds : List D) : Loc := ds.map some ++ List.replicate (n - ds.length) none
def bodyF (n : Nat) (m : MS) (ds : List D) (S : Store) : R D := (m (startL n ds) S).bind fun p S1 => match p.1 with
  | .nx => .ok .non S1
  | .rt d => .ok d S1
  | _ => .bad
section
variable {X : Cx} {cA : Nat → Addr} {W : XK} {p pos : Pos} {x : Str} {e : Expr} {es : List Expr} {m : MA} {k j n : Nat} {G : List D → Store → R D}
theorem call_of {σ : L2.St} {H : Hp} {Q : VK} (h : tE X.K cA W (callE n G m) σ H Q) : tAs X.K cA W m σ H fun vs H1 => spM X.K cA G n vs H1 Q W :=
  (bind1 (rep1 := rVs X.K) st_V h).imp fun vs H1 h => by
    obtain ⟨ρ, S, ds, hS, hr, h⟩ := h
    split at h
    · rename_i hn
      exact ⟨by rw [RepVs.length hr]; exact hn, ρ, S, ds, hS, hr, h⟩
    · exact h.elim
theorem mcall (F : FnM X.prog X.w X.K X.mg X.base cA k x n G) (hk : k ≤ j) (hr : Room j X.A) (hx : Passes (L2.CX X.prog X.w) X W) (hg : Gl X x) (ha : PA X (e :: es) (tAs X.K cA W m)) (hdb : (x == ("__debug__" : Str)) = false := by decide)
    (he : starEach (e :: es) X.env = (false, eval e X.env) :: starEach es X.env := by rfl) (hpl : (backTo pos (starEach es X.env)).any (·.1) = false := by rfl) : PE X (.Call (.Name x p) (e :: es) [] pos) (tE X.K cA W (callE n G m)) := by
  obtain ⟨f, fd, ps, hm, hkp, hb, FF⟩ := F.ex
  exact (pe_call FF (hr.mono hk) hg hm hkp hb .nil hx ha hdb he hpl).imp fun σ H Q h => by
    refine (call_of h).imp fun vs H1 h => ?_
    show spM X.K cA G n (vs ++ []) H1 Q W
    rw [List.append_nil]
    exact h
theorem mcall0 (F : FnM X.prog X.w X.K X.mg X.base cA k x n G) (hk : k ≤ j) (hr : Room j X.A) (hx : Passes (L2.CX X.prog X.w) X W) (hg : Gl X x) (hdb : (x == ("__debug__" : Str)) = false := by decide) : PE X (.Call (.Name x p) [] [] pos) (tE X.K cA W (callE n G nilA)) := by
  obtain ⟨f, fd, ps, hm, hkp, hb, FF⟩ := F.ex
  exact (pe_call0 FF (hr.mono hk) hg hm hkp hb .nil hx hdb).imp fun σ H Q h => by
    obtain ⟨ρ, S, l, hS, hl, h⟩ := h
    have h : After X.K cA W ρ H (rV X.K) (if ([] : List D).length = n then G [] S else .bad) Q := h
    split at h
    · rename_i hn
      exact ⟨hn, ρ, S, [], hS, .nil, h⟩
    · exact h.elim
end
section
variable {P : Program} {w : World} {K : PySem.W.Frag} {mg : Str → Option Value} {base : Heap} {cA : Nat → Addr}
theorem start_rep {ρ : List Addr} {H : Hp} {ds : List D} {vs : List V} {N : List Str} (h : RepVs K ρ H ds vs) : RepL K ρ H (startL N.length ds) (L2.start N vs) := by
  have hl := RepVs.length h
  refine ⟨by unfold startL L2.start; simp [hl], fun i d hd => ?_⟩
  unfold startL at hd
  unfold L2.start
  by_cases q : i < ds.length
  · rw [List.getElem?_append_left (by simpa using q), List.getElem?_map] at hd
    cases e : ds[i]? with
    | none => rw [e] at hd; cases hd
    | some x =>
      rw [e] at hd
      have : x = d := Option.some.inj (Option.some.inj hd)
      subst this
      obtain ⟨v, hv, r⟩ := RepVs.get h i x e
      exact ⟨v, by rw [List.getElem?_append_left (by simpa [hl] using q), List.getElem?_map, hv]; rfl, r⟩
  · rw [List.getElem?_append_right (by simpa using q), List.getElem?_replicate] at hd
    split at hd <;> cases hd
/-- a def keeps what its body's function says -/
theorem defM {x qual : Str} {st : Stmt} {f : Addr} {fd : FuncData} {N ps : List Str} {k : Nat} {m : MS} (F : Fun K x qual st f fd) (S : FnScope N ps (defScope st))
    (hbody : ∀ (cdv : Value) (A : Around) (outer : List Env) (s : Shared) (H : Hp) (E : XK), Room k (A.deeper (PyProof.Rows.envOfC qual (defScope st) s.heap.objs.size f cdv)) →
      PSs (cxOf (L2.CX P w) P w K mg base N qual (defScope st) f cdv A outer s H E) (defBody st) (tS K cA E m)) : FnOk P w K mg base (L2.CX P w) (k + 1) f fd ps (spM K cA (bodyF N.length m) ps.length) :=
  F.okX S (fun vs H Q E h => h.1) fun cdv A outer s H vs Q E hr h => by
    obtain ⟨hl, ρ, S0, ds, hS, hrep, h⟩ := h
    refine ⟨tS K cA E m, hbody cdv A outer s H E hr, ρ, S0, startL N.length ds, hS, start_rep hrep, (After.bind (rep := rS K) st_V h).imp fun b H1 h => ?_⟩
    obtain ⟨ρ1, S1, a, e1, hS1, ⟨hl1, hf⟩, h⟩ := h
    obtain ⟨fl, l1⟩ := a
    obtain ⟨g, σ1⟩ := b
    cases fl with
    | nx => cases g with
      | nx => exact After.same (rep := rV K) h hS1 rep_non'
      | _ => exact hf.elim
    | rt d => cases g with
      | rt v => exact After.same (rep := rV K) h hS1 hf
      | _ => exact hf.elim
    | bk => exact h.elim
    | ct => exact h.elim
/-- what a def's body may hand on -/
theorem pass_def {N : List Str} {qual : Str} {scope : Scope} {f : Addr} {cd : Value} {A : Around} {outer : List Env} {s : Shared} {H : Hp} {E : XK} : Passes (L2.CX P w) (cxOf (L2.CX P w) P w K mg base N qual scope f cd A outer s H E) E :=
  passes_call (takes_of rfl rfl rfl rfl) fun _ _ _ _ h => h
theorem own_def {N : List Str} {qual : Str} {scope : Scope} {f : Addr} {cd : Value} {A : Around} {outer : List Env} {s : Shared} {H : Hp} {E : XK} : PassesOwn (model P w) (cxOf (L2.CX P w) P w K mg base N qual scope f cd A outer s H E).A (cxOf (L2.CX P w) P w K mg base N qual scope f cd A outer s H E).env (cxOf (L2.CX P w) P w K mg base N qual scope f cd A outer s H E).xe := passes_of rfl
end
end ML

set_option Elab.async false
set_option linter.all false
set_option maxRecDepth 100000
set_option autoImplicit false
/-! ML9: what is built in by its name; dicts written out; new lists compared; list(range(..)). -/
namespace ML
open PySem PySem.Spec L2

theorem bt_len : bootBuiltins "len" = some (.builtin "len") := by decide +kernel
theorem bt_abs : bootBuiltins "abs" = some (.builtin "abs") := by decide +kernel
theorem bt_max : bootBuiltins "max" = some (.builtin "max") := by decide +kernel
theorem bt_min : bootBuiltins "min" = some (.builtin "min") := by decide +kernel
theorem bt_all : bootBuiltins "all" = some (.builtin "all") := by decide +kernel
theorem bt_any : bootBuiltins "any" = some (.builtin "any") := by decide +kernel
theorem bt_sum : bootBuiltins "sum" = some (.builtin "sum") := by decide +kernel
theorem bt_sorted : bootBuiltins "sorted" = some (.builtin "sorted") := by decide +kernel
theorem bt_ord : bootBuiltins "ord" = some (.builtin "ord") := by decide +kernel
theorem bt_isinstance : bootBuiltins "isinstance" = some (.builtin "isinstance") := by decide +kernel
theorem bt_int : bootBuiltins "int" = some (.type "int") := by decide +kernel
theorem bt_str : bootBuiltins "str" = some (.type "str") := by decide +kernel
theorem bt_bool : bootBuiltins "bool" = some (.type "bool") := by decide +kernel
theorem bt_list : bootBuiltins "list" = some (.type "list") := by decide +kernel
theorem bt_tuple : bootBuiltins "tuple" = some (.type "tuple") := by decide +kernel
theorem bt_dict : bootBuiltins "dict" = some (.type "dict") := by decide +kernel
theorem bt_set : bootBuiltins "set" = some (.type "set") := by decide +kernel

/-! ### dicts written out -/
abbrev MP := Loc → Store → R (List (D × D))
def nilP : MP := fun _ S => .ok [] S
def consP (k v : ME) (r : MP) : MP := fun l S => (k l S).bind fun a S1 => (v l S1).bind fun b S2 => (r l S2).bind fun ps S3 => .ok ((a, b) :: ps) S3
def keysO (ps : List (D × D)) : Option (List (Key × D)) := mapO (fun p => (keyO p.1).map fun k => (k, p.2)) ps
def mergeD (kvs more : List (Key × D)) : List (Key × D) := more.foldl (fun acc kv => dPut acc kv.1 kv.2) kvs
def dictE (r : MP) : ME := fun l S => (r l (S ++ [.dct []])).bind fun ps S1 => match keysO ps with
  | some kvs => if kvs.length ≤ 15 then (match dctAt S1 S.length with
    | some [] => .ok (.ref S.length) (S1.set S.length (.dct (mergeD [] kvs)))
    | _ => .bad) else .bad
  | none => .bad
def dict0 : ME := fun _ S => newC (.dct []) S
def RepPr (K : PySem.W.Frag) (ρ : List Addr) (H : Hp) : List (D × D) → List (V × V) → Prop
  | [], ps => ps = []
  | (a, b) :: r, ps => ∃ x y q, ps = (x, y) :: q ∧ RepV K ρ H a x ∧ RepV K ρ H b y ∧ RepPr K ρ H r q
theorem RepPr.ext {K : PySem.W.Frag} {ρ ρ' : List Addr} {H H' : Hp} (e : Ext ρ H ρ' H') : ∀ {ds : List (D × D)} {ps : List (V × V)}, RepPr K ρ H ds ps → RepPr K ρ' H' ds ps
  | [], _, h => h
  | (a, b) :: r, ps, h => by
    obtain ⟨x, y, q, ep, h1, h2, h3⟩ := h
    exact ⟨x, y, q, ep, h1.ext e, h2.ext e, RepPr.ext e h3⟩
def rPr (K : PySem.W.Frag) : Rel (List (D × D)) (List (V × V)) := fun _ ρ H a b => RepPr K ρ H a b
theorem st_Pr {K : PySem.W.Frag} : Stable (rPr K) := fun _ _ _ _ _ _ _ _ _ h => h
/-- a display's pairs keep their reading -/
def PairsOk (K : PySem.W.Frag) (cA : Nat → Addr) (W : XK) (trs : List (TE × TE)) (r : MP) : Prop := ∀ (σ : L2.St) (H : Hp) (Q : List (V × V) → Hp → Prop), tG K cA W (rPr K) r σ H Q → tPairs trs σ H Q
section
variable {X : Cx} {cA : Nat → Addr} {W : XK} {pos : Pos} {K : PySem.W.Frag} {ρ : List Addr} {H : Hp}
structure PD (X : Cx) (cA : Nat → Addr) (W : XK) (pos : Pos) (ks : List (Option Expr)) (vs : List Expr) (r : MP) : Prop where
  ex : ∃ trs, PPs X pos ks vs trs ∧ PairsOk X.K cA W trs r
theorem pnil : PD X cA W pos [] [] nilP := ⟨[], pps_nil, fun σ H Q h => by
  obtain ⟨ρ, S, l, hS, hl, h⟩ := h
  exact After.same (rep := rPr X.K) h hS rfl⟩
theorem pcons {k v : Expr} {ks : List (Option Expr)} {vs : List Expr} {mk mv : ME} {r : MP} (hk : PE X k (tE X.K cA W mk)) (hv : PE X v (tE X.K cA W mv)) (hr : PD X cA W pos ks vs r) : PD X cA W pos (some k :: ks) (v :: vs) (consP mk mv r) := by
  obtain ⟨trs, h1, h2⟩ := hr.ex
  refine ⟨_, pps_cons hk hv h1, fun σ H Q h => ?_⟩
  refine tG.imp (bind3 (rep1 := rV X.K) (rep2 := rV X.K) (rep3 := rPr X.K) st_Pr mo_V mo_V h) fun x H1 h => tG.imp h fun y H2 h => h2 _ _ _ (tG.imp h fun ps H3 h => ?_)
  obtain ⟨ρ, S, a, b, c, hS, r1, r2, r3, h⟩ := h
  exact After.same (rep := rPr X.K) h hS ⟨x, y, ps, rfl, r1, r2, r3⟩
theorem keys_of : ∀ {ds : List (D × D)} {ps : List (V × V)} {kvs : List (Key × D)}, keysO ds = some kvs → RepPr K ρ H ds ps → ∃ qs : List (Key × V), ps = qs.map (fun kv => (kV kv.1, kv.2)) ∧ RepP K ρ H kvs qs
  | [], ps, kvs, h, r => by cases h; exact ⟨[], r, by unfold RepP; rfl⟩
  | (a, b) :: ds, ps, kvs, h, r => by
    obtain ⟨x, y, q, ep, h1, h2, h3⟩ := r
    unfold keysO mapO at h
    split at h
    · rename_i kv rest e1 e2
      cases h
      obtain ⟨k, ek, rfl⟩ := Option.map_eq_some_iff.mp e1
      obtain ⟨qs, e3, h4⟩ := keys_of e2 h3
      have := key_rep ek h1
      subst this
      exact ⟨(k, y) :: qs, by rw [ep, e3]; rfl, y, qs, rfl, h2, h4⟩
    · cases h
theorem merge_rep : ∀ {more : List (Key × D)} {ms : List (Key × V)} {kvs : List (Key × D)} {ps : List (Key × V)}, RepP K ρ H more ms → RepP K ρ H kvs ps → RepP K ρ H (mergeD kvs more) (mergeK ps ms)
  | [], ms, kvs, ps, h, r => by unfold RepP at h; rw [h]; exact r
  | (k, d) :: more, ms, kvs, ps, h, r => by
    unfold RepP at h
    obtain ⟨v, q, rfl, h1, h2⟩ := h
    show RepP K ρ H (mergeD (dPut kvs k d) more) (mergeK (putK ps k v) q)
    exact merge_rep h2 (put_rep h1 r)
theorem mdict {ks : List (Option Expr)} {vs : List Expr} {r : MP} (h : PD X cA W pos ks vs r) (hall : ks.all (·.isSome) = true := by rfl) (hl : ks.length = vs.length := by rfl) (h0 : ks ≠ [] := by exact fun z => by cases z) (h15 : ks.length ≤ 15 := by decide) :
    PE X (.Dict ks vs pos) (tE X.K cA W (dictE r)) := by
  obtain ⟨trs, h1, h2⟩ := h.ex
  refine (pe_disp h1 hall hl h0 h15).imp fun σ H Q h => ?_
  intro p hp
  obtain ⟨ρ, S, l, hS, hl, h⟩ := h
  have E1 : Ext ρ H (ρ ++ [p]) (upd H p (.dK [])) := Ext.alloc hp
  have hS1 : Reps X.K cA (ρ ++ [p]) (upd H p (.dK [])) (S ++ [.dct []]) := (hS.new hp).push (hS.free hp) ⟨[], upd_same, by unfold RepP; rfl⟩
  refine h2 _ _ _ ⟨ρ ++ [p], S ++ [.dct []], l, hS1, hl.ext E1, (After.step (rep := rPr X.K) h E1).imp fun ps H2 hq => ?_⟩
  obtain ⟨ρ2, S2, ds, e2, hS2, hr, h⟩ := hq
  split at h
  · rename_i kvs ek
    split at h
    · rename_i h15'
      split at h
      · rename_i e3
        have hrp : ρ2[S.length]? = some p := by
          obtain ⟨r, er, _⟩ := e2.pre
          rw [er, List.getElem?_append_left (by rw [List.length_append, hS.len]; exact Nat.lt_succ_self _), ← hS.len, List.getElem?_append_right (Nat.le_refl _)]
          simp
        obtain ⟨ps0, h3, h4⟩ := hS2.at_ _ _ p (dctAt_some e3) hrp
        unfold RepP at h4
        subst h4
        obtain ⟨qs, eq, h5⟩ := keys_of ek hr
        refine ⟨h3, qs, eq, by rw [← c_lenV.len_repP h5] at h15'; exact h15', ?_⟩
        have EW : Ext ρ2 H2 ρ2 (upd H2 p (.dK (mergeK [] qs))) := Ext.write hrp h3 True.intro
        refine h ρ2 _ _ ((E1.trans e2).trans EW) (hS2.write hrp h3 True.intro ⟨_, upd_same, ?_⟩) ?_
        · exact (merge_rep h5 (by unfold RepP; rfl)).ext EW
        · show RepV X.K ρ2 _ (.ref S.length) (.ref p)
          unfold RepV
          exact ⟨p, hrp, rfl⟩
      · exact h.elim
    · exact h.elim
  · exact h.elim
theorem mdict0 : PE X (.Dict [] [] pos) (tE X.K cA W dict0) := pe_dnewK.imp fun σ H Q h => by
  obtain ⟨ρ, S, l, hS, hl, h⟩ := h
  exact fun p hp => After.new h hS hp ⟨[], upd_same, by unfold RepP; rfl⟩
end

/-! ### two new lists -/
def eqLs (S : Store) (xs ys : List D) : Option Bool := match mapO (toPy S 63) xs, mapO (toPy S 63) ys with
  | some ps, some qs => if SeqAt.shaped (.list ps) = true ∧ SeqAt.shaped (.list qs) = true then some (PyData.eqv (.list ps) (.list qs)) else none
  | _, _ => none
def eqN (m n : MA) : MB := fun l S => (m l S).bind fun xs S1 => (n l S1).bind fun ys S2 => match eqLs S2 xs ys with
  | some b => .ok b S2
  | none => .bad
def neN (m n : MA) : MB := fun l S => (m l S).bind fun xs S1 => (n l S1).bind fun ys S2 => match eqLs S2 xs ys with
  | some b => .ok (!b) S2
  | none => .bad
section
variable {X : Cx} {cA : Nat → Addr} {W : XK} {pos : Pos} {a b : Expr} {m n : MA}
theorem eqLs_rep {K : PySem.W.Frag} {ρ : List Addr} {H : Hp} {S : Store} {H0 H1 : Hp} (hS : Reps K cA ρ H S) {xs ys : List D} {x y : V} {t : Bool} (h1 : rNew K H0 ρ H xs x) (h2 : rNew K H1 ρ H ys y) (h : eqLs S xs ys = some t) :
    ∃ p q, Dp K H x p ∧ Dp K H y q ∧ SeqAt.shaped p = true ∧ SeqAt.shaped q = true ∧ t = PyData.eqv p q := by
  unfold eqLs at h
  split at h
  · rename_i ps qs e1 e2
    split at h
    · rename_i hz
      cases h
      obtain ⟨a, vs, rfl, _, _, h3, h4⟩ := h1
      obtain ⟨b, ws, rfl, _, _, h5, h6⟩ := h2
      exact ⟨.list ps, .list qs, .lst (SqL.of h3) (toPy_rep.all hS _ _ _ _ e1 h4), .lst (SqL.of h5) (toPy_rep.all hS _ _ _ _ e2 h6), hz.1, hz.2, rfl⟩
    · cases h
  · cases h
theorem eqN_of {f : Option Bool → Option Bool} {g : Bool → Bool} {σ : L2.St} {H : Hp} {Q : Bool → Hp → Prop} (h : tT X.K cA W (fun l S => (m l S).bind fun xs S1 => (n l S1).bind fun ys S2 => match eqLs S2 xs ys with
    | some b => .ok (g b) S2
    | none => .bad) σ H Q) : tNw X.K cA W m σ H fun x H1 => tNw X.K cA W n σ H1 fun y H2 => ∃ p q, Dp X.K H2 x p ∧ Dp X.K H2 y q ∧ SeqAt.shaped p = true ∧ SeqAt.shaped q = true ∧ Q (g (PyData.eqv p q)) H2 :=
  tG.imp (bind2 (rep1 := rNew X.K) (rep2 := rNew X.K) st_Id mo_New h) fun x H1 h => tG.imp h fun y H2 h => by
    obtain ⟨ρ, S, xs, ys, hS, h1, h2, h⟩ := h
    split at h
    · rename_i t et
      obtain ⟨p, q, k1, k2, k3, k4, rfl⟩ := eqLs_rep hS h1 h2 et
      exact ⟨p, q, k1, k2, k3, k4, After.same (rep := rId) h hS rfl⟩
    · exact h.elim
theorem meqN (hu : X.A.units + 64 < cLine) (ha : PE X a (tNw X.K cA W m)) (hb : PE X b (tNw X.K cA W n)) : PE X (.Compare a [.Eq] [b] pos) (tE X.K cA W (toV (eqN m n))) :=
  (pe_cmpR (op_eqD hu) ha hb (nomark _)).imp fun σ H Q h => eqN_of (f := id) (g := id) (tE_toV h)
theorem mneN (hu : X.A.units + 64 < cLine) (ha : PE X a (tNw X.K cA W m)) (hb : PE X b (tNw X.K cA W n)) : PE X (.Compare a [.NotEq] [b] pos) (tE X.K cA W (toV (neN m n))) :=
  (pe_cmpR (op_neD hu) ha hb (nomark _)).imp fun σ H Q h => eqN_of (f := id) (g := not) (tE_toV h)
theorem meqNT (hu : X.A.units + 64 < cLine) (ha : PE X a (tNw X.K cA W m)) (hb : PE X b (tNw X.K cA W n)) : PT X (.Compare a [.Eq] [b] pos) (tT X.K cA W (eqN m n)) :=
  (pt_cmpR (op_eqD hu) ha hb (nomark _)).imp fun σ H Q h => tG.imp (eqN_of (f := id) (g := id) h) fun x H1 h => tG.imp h fun y H2 ⟨p, q, k1, k2, k3, k4, k5⟩ => ⟨p, q, k1, k2, k3, k4, _, rfl, k5⟩
theorem mneNT (hu : X.A.units + 64 < cLine) (ha : PE X a (tNw X.K cA W m)) (hb : PE X b (tNw X.K cA W n)) : PT X (.Compare a [.NotEq] [b] pos) (tT X.K cA W (neN m n)) :=
  (pt_cmpR (op_neD hu) ha hb (nomark _)).imp fun σ H Q h => tG.imp (eqN_of (f := id) (g := not) h) fun x H1 h => tG.imp h fun y H2 ⟨p, q, k1, k2, k3, k4, k5⟩ => ⟨p, q, k1, k2, k3, k4, _, rfl, k5⟩
end

/-! ### list(range(..)) -/
def rngO (a b : Int) (S : Store) : R (List D) := if -(2 ^ 62) ≤ a ∧ a < 2 ^ 62 ∧ -(2 ^ 62) ≤ b ∧ b < 2 ^ 62 ∧ (b - a).toNat ≤ 2 ^ 24 then .ok (intsFrom a (b - a).toNat) S else .bad
def rngN1 (m : ME) : MA := fun l S => (m l S).bind fun d S1 => match intO d with
  | some b => rngO 0 b S1
  | none => .bad
def rngN2 (m n : ME) : MA := fun l S => (m l S).bind fun d S1 => (n l S1).bind fun e S2 => match intO d, intO e with
  | some a, some b => rngO a b S2
  | _, _ => .bad
section
variable {X : Cx} {cA : Nat → Addr} {W : XK} {pos p0 p1 p2 : Pos} {a b : Expr} {m n : ME}
theorem intO_rep {K : PySem.W.Frag} {ρ : List Addr} {H : Hp} {d : D} {v : V} {i : Int} (h : intO d = some i) (r : RepV K ρ H d v) : v = .int i := by
  cases d with
  | int j => cases h; unfold RepV at r; exact r
  | _ => cases h
theorem rg_rep {K : PySem.W.Frag} {ρ : List Addr} {H : Hp} {a b : Int} : RepVs K ρ H (intsFrom a (b - a).toNat) (rgV a b) := by
  have e1 : intsFrom a (b - a).toNat = ((List.range (b - a).toNat).map fun i => a + ((i : Nat) : Int)).map D.int := by unfold intsFrom; rw [List.map_map]; rfl
  have e2 : rgV a b = ((List.range (b - a).toNat).map fun i => a + ((i : Nat) : Int)).map V.int := by unfold rgV; rw [List.map_map]; rfl
  rw [e1, e2]
  exact RepVs.of_ints
theorem rng_of {ρ : List Addr} {H : Hp} {S : Store} {i j : Int} {Q : V → Hp → Prop} (hS : Reps X.K cA ρ H S) (h : After X.K cA W ρ H (rNew X.K) (rngO i j S) Q) : RgOk i j ∧ ∀ q, H q = none → Q (.ref q) (upd H q (.lst (rgV i j))) := by
  unfold rngO at h
  split at h
  · rename_i hz
    exact ⟨hz, fun q hq => After.fresh h hS hq rg_rep⟩
  · exact h.elim
theorem mrngN1 (hc : X.calm = true) (hg : Gl X "list") (hm : X.mg "list" = none) (hg2 : Gl X "range") (hm2 : X.mg "range" = none) (ha : PE X a (tE X.K cA W m)) (na : starEach [a] X.env = (false, eval a X.env) :: starEach [] X.env := by rfl)
    (nb : starEach [(.Call (.Name "range" p1) [a] [] p2 : Expr)] X.env = (false, eval (.Call (.Name "range" p1) [a] [] p2) X.env) :: starEach [] X.env := by rfl) : PE X (.Call (.Name "list" p0) [.Call (.Name "range" p1) [a] [] p2] [] pos) (tNw X.K cA W (rngN1 m)) :=
  (pe_listRg hc hg hm (prg_1 hg2 hm2 ha na) nb).imp fun σ H Q h => (bind1 (rep1 := rV X.K) st_New h).imp fun v H1 h => by
    obtain ⟨ρ, S, d, hS, hr, h⟩ := h
    split at h
    · rename_i i e
      exact ⟨i, intO_rep e hr, rng_of hS h⟩
    · exact h.elim
theorem mrngN2 (hc : X.calm = true) (hg : Gl X "list") (hm : X.mg "list" = none) (hg2 : Gl X "range") (hm2 : X.mg "range" = none) (ha : PE X a (tE X.K cA W m)) (hb : PE X b (tE X.K cA W n)) (na : starEach [a, b] X.env = (false, eval a X.env) :: starEach [b] X.env := by rfl) (nc : starEach [b] X.env = (false, eval b X.env) :: starEach [] X.env := by rfl)
    (nb : starEach [(.Call (.Name "range" p1) [a, b] [] p2 : Expr)] X.env = (false, eval (.Call (.Name "range" p1) [a, b] [] p2) X.env) :: starEach [] X.env := by rfl) (hp : (backTo p2 (starEach [b] X.env)).any (·.1) = false := by rfl) : PE X (.Call (.Name "list" p0) [.Call (.Name "range" p1) [a, b] [] p2] [] pos) (tNw X.K cA W (rngN2 m n)) :=
  (pe_listRg hc hg hm (prg_2 hg2 hm2 ha hb na nc hp) nb).imp fun σ H Q h => tG.imp (bind2 (rep1 := rV X.K) (rep2 := rV X.K) st_New mo_V h) fun v H1 h => tG.imp h fun u H2 h => by
    obtain ⟨ρ, S, d, e, hS, hr, hr2, h⟩ := h
    split at h
    · rename_i i j e1 e2
      exact ⟨i, j, intO_rep e1 hr, intO_rep e2 hr2, rng_of hS h⟩
    · exact h.elim
end
end ML

set_option Elab.async false
set_option linter.all false
set_option maxRecDepth 100000
set_option autoImplicit false
/-! ML12: raise, try .. except C as e, isinstance of what is caught. -/
namespace ML
open PySem PySem.Spec L2

/-! ### what is not covered (and not reached) -/
def badS : MS := fun _ _ => .bad
theorem sbad {X : Cx} {cA : Nat → Addr} {W : XK} {st : Stmt} : PS X st (tS X.K cA W badS) := ⟨fun pins s σ H E I h => by obtain ⟨ρ, S, l, _, _, h⟩ := h; exact h.elim⟩

/-! ### raise -/
def raiseS (k : Nat) : MS := fun _ S => .ex ⟨k, []⟩ S
/-- a class of the text that is an exception, made with a text -/
structure ExcK (K : PySem.W.Frag) (mg : Str → Option Value) (x : Str) (C : Addr) : Prop where
  g : mg x = some (.ref C)
  q : PySem.W.excIn K C [.type "ValueError", .type "Exception", .type "BaseException", .type "object"] "ValueError.__new__" = true
  k : PySem.W.keepIn K (.ref C) = true
  s : PySem.W.subIn K (.ref C) (.type "BaseException") = some true
  t : PySem.W.typeIn K (.ref C) = some (.type "type")
section
variable {X : Cx} {cA : Nat → Addr} {W : XK} {K : PySem.W.Frag}
theorem sraise {x m : Str} {j k : Nat} {p p2 pos pos2 : Pos} (E : ExcK X.K X.mg x (cA k)) (tk : Takes X (fun cls d _ H => W cls d H)) (hc : X.calm = true) (hg : Gl X x) (hdb : (x == ("__debug__" : Str)) = false := by decide) :
    PS X (.Raise (some (.Call (.Name x p) [.Constant (.str m) j p2] [] pos)) none pos2) (tS X.K cA W (raiseS k)) :=
  (ps_raise (W := fun cls d _ H => W cls d H) hc tk (pmk_own PySem.F.excBase_ValueError E.q E.g E.k (raises_own E.s E.t) hg hdb)).imp fun D σ H h => by
    obtain ⟨ρ, S, l, hS, hl, h⟩ := h
    exact h ρ H _ _ (Ext.refl _ _) hS ⟨rfl, .inl ⟨rfl, rfl⟩⟩
end

/-! ### in a try's body: the wish may look at the slots -/
def tX (K : PySem.W.Frag) (cA : Nat → Addr) (W : WX) (m : MS) : TS := fun D σ H => tS K cA (L2.WE W σ) m D σ H
def tEX (K : PySem.W.Frag) (cA : Nat → Addr) (W : WX) (m : ME) : TE := fun σ H Q => tE K cA (L2.WE W σ) m σ H Q
section
variable {X : Cx} {cA : Nat → Addr} {W : WX} {p pos : Pos} {x : Str} {e c : Expr} {es : List Expr} {m : MA} {me : ME} {k j n : Nat} {G : List D → Store → R D} {st : Stmt} {rest : List Stmt} {ma mb : MS} {q : MB}
theorem xof (h : ∀ W0 : XK, PE X e (tE X.K cA W0 me)) : PE X e (tEX X.K cA W me) := ⟨fun pins s σ H Q I q => (h (L2.WE W σ)).run pins s σ H Q I q⟩
theorem xcall (F : FnM X.prog X.w X.K X.mg X.base cA k x n G) (hk : k ≤ j) (hr : Room j X.A) (tk : Takes X W) (hg : Gl X x) (ha : ∀ W0 : XK, PA X (e :: es) (tAs X.K cA W0 m)) (hdb : (x == ("__debug__" : Str)) = false := by decide)
    (he : starEach (e :: es) X.env = (false, eval e X.env) :: starEach es X.env := by rfl) (hpl : (backTo pos (starEach es X.env)).any (·.1) = false := by rfl) : PE X (.Call (.Name x p) (e :: es) [] pos) (tEX X.K cA W (callE n G m)) := by
  obtain ⟨f, fd, ps, hm, hkp, hb, FF⟩ := F.ex
  have hA : PA X (e :: es) (fun σ H Q => tAs X.K cA (L2.WE W σ) m σ H Q) := ⟨fun pos pins s σ H Q I q => (ha (L2.WE W σ)).run pos pins s σ H Q I q⟩
  exact (pe_callS FF (hr.mono hk) hg hm hkp hb (fun σ => passAt tk σ) hA hdb he hpl).imp fun σ H Q h => call_of h
theorem xexpr (he : PE X e (tEX X.K cA W me)) (hs : swapsWith e none pos.line X.env = pure false := by rfl) : PS X (.Expr e pos) (tX X.K cA W (exprS me)) :=
  (ps_expr he hs).imp fun E σ H h => (after_L (W := L2.WE W σ) (rep := rV X.K) h).imp fun v H1 h => by
    obtain ⟨ρ, S, l, d, hS, hl, _, h⟩ := h
    exact After.same (b := (FlV.nx, σ)) h hS ⟨hl, trivial⟩
theorem xret (he : PE X e (tEX X.K cA W me)) : PS X (.Return (some e) pos) (tX X.K cA W (retS me)) :=
  (ps_ret he).imp fun E σ H h => (after_L (W := L2.WE W σ) (rep := rV X.K) h).imp fun v H1 h => by
    obtain ⟨ρ, S, l, d, hS, hl, hr, h⟩ := h
    exact After.same (b := (FlV.rt v, σ)) h hS ⟨hl, hr⟩
theorem xone (h1 : PS X st (tX X.K cA W ma)) : PSs X [st] (tX X.K cA W ma) := pss_one h1
theorem xif {a b : List Stmt} (hc : ∀ W0 : XK, PT X c (tT X.K cA W0 q)) (ha : PSs X a (tX X.K cA W ma)) (hb : PSs X b (tX X.K cA W mb)) : PS X (.If c a b pos) (tX X.K cA W (ifS q ma mb)) := by
  have hC : PT X c (fun σ H Q => tT X.K cA (L2.WE W σ) q σ H Q) := ⟨fun pins s σ H Q I q => (hc (L2.WE W σ)).run pins s σ H Q I q⟩
  exact (ps_if hC ha hb).imp fun E σ H h => (after_L (W := L2.WE W σ) (rep := rId) h).imp fun t H1 h => by
    obtain ⟨ρ, S, l, d, hS, hl, hr, h⟩ := h
    subst hr
    cases d with
    | true => exact ⟨ρ, S, l, hS, hl, h⟩
    | false => exact ⟨ρ, S, l, hS, hl, h⟩
end

/-! ### try .. except C as e -/
def goneS (i : Nat) (r : R (Fl × Loc)) : R (Fl × Loc) := r.bind fun p S => .ok (p.1, p.2.set i none) S
open Classical in
noncomputable def same {α : Type} (f : Addr → R α) : R α := if h : ∃ r, ∀ a, f a = r then h.choose else .bad
theorem same_of {α : Type} {f : Addr → R α} {r : R α} (h : ∀ a, f a = r) : same f = r := by
  unfold same
  have e : ∃ r, ∀ a, f a = r := ⟨r, h⟩
  rw [dif_pos e]
  exact (e.choose_spec 0).symm.trans (h 0)
theorem same_at {α : Type} {f : Addr → R α} (a : Addr) : same f = f a ∨ same f = .bad := by
  unfold same
  split
  · rename_i h
    exact .inl (h.choose_spec a).symm
  · exact .inr rfl
noncomputable def catchS (hit : Nat → Option Bool) (i : Nat) (mb : MS) (mh : Addr → Exn → MS) : MS := fun l S => match mb l S with
  | .ok p S1 => .ok p S1
  | .ex x S1 => match hit x.c with
    | some true => same fun a => (goneS i (mh a x (l.set i (some (.exn a))) S1)).noex
    | some false => .ex x S1
    | none => .bad
  | .bad => .bad
def NoX : XK := fun _ _ _ => False
section
variable {K : PySem.W.Frag} {cA : Nat → Addr} {W : XK} {ρ : List Addr} {H : Hp}
theorem RepL.gone {l : Loc} {σ : L2.St} (h : RepL K ρ H l σ) (i : Nat) : RepL K ρ H (l.set i none) (σ.set i none) := by
  refine ⟨by rw [List.length_set, List.length_set]; exact h.len, fun j e hj => ?_⟩
  by_cases q : i = j
  · subst q
    have hi : i < l.length := by
      have := (List.getElem?_eq_some_iff.mp hj).1
      rwa [List.length_set] at this
    rw [List.getElem?_set_self hi] at hj
    cases hj
  · rw [List.getElem?_set_ne q] at hj
    obtain ⟨w, hw, r⟩ := h.at_ j e hj
    exact ⟨w, by rw [List.getElem?_set_ne q]; exact hw, r⟩
theorem gone_of {i : Nat} {r : R (Fl × Loc)} {D : Ends} (h : After K cA W ρ H (rS K) (goneS i r).noex (endQ D)) :
    After K cA NoX ρ H (rS K) r (endQ { nx := fun σ' H' => D.nx (σ'.set i none) H', rt := D.rt, bk := fun σ' H' => D.bk (σ'.set i none) H', ct := fun σ' H' => D.ct (σ'.set i none) H' }) := by
  cases r with
  | ok p S =>
    intro ρ' H' b e hs hr
    obtain ⟨hl, hf⟩ := hr
    obtain ⟨f, l⟩ := p
    obtain ⟨g, σ⟩ := b
    cases f with
    | nx => cases g with
      | nx => exact h ρ' H' (FlV.nx, σ.set i none) e hs ⟨hl.gone i, trivial⟩
      | _ => exact hf.elim
    | rt d => cases g with
      | rt v => exact h ρ' H' (FlV.rt v, σ.set i none) e hs ⟨hl.gone i, hf⟩
      | _ => exact hf.elim
    | bk => cases g with
      | bk => exact h ρ' H' (FlV.bk, σ.set i none) e hs ⟨hl.gone i, trivial⟩
      | _ => exact hf.elim
    | ct => cases g with
      | ct => exact h ρ' H' (FlV.ct, σ.set i none) e hs ⟨hl.gone i, trivial⟩
      | _ => exact hf.elim
  | ex x S => exact h.elim
  | bad => exact h.elim
variable {X : Cx} {x n : Str} {c : Value} {i : Nat} {body suite : List Stmt} {b₀ : Stmt} {np pos pos' : Pos} {mb : MS} {mh : Addr → Exn → MS} {hit : Nat → Option Bool}
theorem stry (hh : ∀ k b, hit k = some b → PySem.W.exmOne X.K (.ref (cA k)) c = some b) (hN : X.N.Nodup) (hi : X.N[i]? = some n) (hc : Names X x c) (tk : Takes X (fun cls d _ H => W cls d H))
    (hb : ∀ (W' : WX) (pn : List (Addr × Obj)) (xe : Value → Shared → Prop), Takes (X.tr pn xe) W' → PassesOwn (model X.prog X.w) X.A X.env xe → PSs (X.tr pn xe) body (tX X.K cA W' mb))
    (hsu : ∀ (a : Addr) (oe : Obj) (pn : List (Addr × Obj)) (z : Exn) (d : Option Addr), Zc (.ref (cA z.c)) d oe → (z.fs = [] → d = none) → (∃ vs, oe.data = .fields vs) → PSs (X.suite a ((a, oe) :: pn)) (b₀ :: suite) (tS X.K cA NoX (mh a z)))
    (hs : X.stack = X.env :: X.outer := by rfl) (hf : X.env.frame = some X.env.locals := by rfl) (hln : X.env.kindOf n = some .local := by rfl) :
    PS X (.Try body [.ExceptHandler (some (.Name x np)) (some n) (b₀ :: suite) pos'] [] [] pos) (tS X.K cA W (catchS hit i mb mh)) := by
  refine (ps_try_as (Wout := fun cls d _ H => W cls d H) (tb := fun W' => tX X.K cA W' mb) (ts := fun a cls d D σ H => ∃ z : Exn, cls = .ref (cA z.c) ∧ (z.fs = [] → d = none) ∧ tS X.K cA NoX (mh a z) D σ H) hs hf hN hi hln hc tk hb
    (fun a oe cls d pn hz hv => ⟨fun pins s σ H D I h => ?_⟩)).imp fun D σ H h => ?_
  · obtain ⟨z, rfl, h1, h2⟩ := h
    exact (hsu a oe pn z d hz h1 hv).run pins s σ H D I h2
  · obtain ⟨ρ, S, l, hS, hl, h⟩ := h
    refine ⟨ρ, S, l, hS, hl, ?_⟩
    unfold catchS at h
    generalize mb l S = r at h
    cases r with
    | ok p S1 => exact h
    | bad => exact h.elim
    | ex z S1 =>
      intro ρ' H' cls d e hS' hx
      obtain ⟨rfl, hx⟩ := hx
      simp only at h
      cases eh : hit z.c with
      | none => rw [eh] at h; exact h.elim
      | some b =>
        rw [eh] at h
        cases b with
        | false =>
          refine ⟨false, hh _ _ eh, fun q => ?_, fun _ => h ρ' H' _ _ e hS' ⟨rfl, hx⟩⟩
          cases q
        | true =>
          refine ⟨true, hh _ _ eh, fun _ a ha => ⟨z, rfl, fun q => ?_, ?_⟩, fun q => nomatch q⟩
          · rcases hx with ⟨_, h2⟩ | ⟨h2, _⟩
            · exact h2
            · exact absurd q h2
          · refine ⟨ρ', S1, l.set i (some (.exn a)), hS', (hl.ext e).set (by unfold RepV; rfl) i, ?_⟩
            rcases same_at (f := fun a => (goneS i (mh a z (l.set i (some (.exn a))) S1)).noex) a with q | q
            · have h := After.back st_S e h
              simp only at h
              rw [q] at h
              exact gone_of h
            · simp only at h
              rw [q] at h
              exact h.elim
end
/-! ### isinstance of what is caught -/
inductive CN where
  | own (j : Nat) | ty (n : String)
def CN.val (cA : Nat → Addr) : CN → Value
  | .own j => .ref (cA j)
  | .ty n => .type n
def CN.v (cA : Nat → Addr) : CN → V
  | .own j => .ref (cA j)
  | .ty n => .ty n
theorem CN.clsv {cA : Nat → Addr} : ∀ n : CN, ClsV (n.v cA) (n.val cA)
  | .own j => .own _
  | .ty n => .ty _
theorem CN.all {cA : Nat → Addr} : ∀ ns : List CN, Paired ClsV (ns.map (CN.v cA)) (ns.map (CN.val cA))
  | [] => .nil
  | n :: ns => .cons n.clsv (CN.all ns)
def IsFacts (K : PySem.W.Frag) (cA : Nat → Addr) (kis : Nat → CN → Option Bool) : Prop := ∀ c n b, kis c n = some b → ExcC K (cA c) ∧ PySem.W.kitOne K (.ref (cA c)) (n.val cA) = some b
def kisX (kis : Nat → CN → Option Bool) (z : Exn) (n : CN) : Option Bool := match z.fs with
  | [] => kis z.c n
  | _ => none
def kisA (kis : Nat → CN → Option Bool) (z : Exn) : List CN → Option Bool
  | [] => some false
  | n :: r => match kisX kis z n with
    | some true => some true
    | some false => kisA kis z r
    | none => none
def isX (ans : Option Bool) (a : Addr) (m : ME) : MB := match ans with
  | none => fun _ _ => .bad
  | some t => fun l S => (m l S).bind fun d S1 => match d with
    | .exn b => if b = a then .ok t S1 else .bad
    | _ => .bad
theorem kit_own {K : PySem.W.Frag} {C D : Addr} {b : Bool} (h : PySem.W.subIn K (.ref D) (.ref C) = some b) (hd : PySem.W.hasDictIn K C = true) (ht : PySem.W.typeIn K (.ref C) = some (.type "type")) (hs : PySem.W.subIn K (.ref D) (.ref D) = some true) : PySem.W.kitOne K (.ref D) (.ref C) = some b := by
  unfold PySem.W.kitOne
  by_cases q : D = C
  · subst q
    rw [hs] at h
    rw [if_pos (beq_self_eq_true _)]
    exact h
  · rw [if_neg (fun z => q (Value.ref.inj (beq_iff_eq.mp z)))]
    obtain ⟨cd, hc, _⟩ := PySem.W.any_some hd
    show (if ((PySem.W.clsIn K C).isSome && PySem.W.typeIn K (.ref C) == some (.type "type")) = true then PySem.W.subIn K (.ref D) (.ref C) else none) = some b
    rw [hc, ht, if_pos (by rw [Option.isSome_some, Bool.true_and]; exact beq_self_eq_true _)]
    exact h
theorem kit_bt {K : PySem.W.Frag} {D : Addr} {T : String} {b : Bool} (h : PySem.W.subIn K (.ref D) (.type T) = some b) (hm : PySem.W.kitMeta T = true) : PySem.W.kitOne K (.ref D) (.type T) = some b := by
  unfold PySem.W.kitOne
  have ne : ¬ (Value.ref D == Value.type T) = true := fun z => by
    have := beq_iff_eq.mp z
    cases this
  rw [if_neg ne]
  show (if PySem.W.kitMeta T = true then PySem.W.subIn K (.ref D) (.type T) else none) = some b
  rw [if_pos hm]
  exact h
section
variable {X : Cx} {cA : Nat → Addr} {W : XK} {K : PySem.W.Frag} {kis : Nat → CN → Option Bool} {z : Exn}
theorem kisX_of {n : CN} {b : Bool} (F : IsFacts K cA kis) (h : kisX kis z n = some b) : z.fs = [] ∧ ExcC K (cA z.c) ∧ PySem.W.kitOne K (.ref (cA z.c)) (n.val cA) = some b := by
  unfold kisX at h
  split at h
  · rename_i e; exact ⟨e, F _ _ _ h⟩
  · cases h
theorem kisA_of (F : IsFacts K cA kis) : ∀ {ns : List CN} {b : Bool}, kisA kis z ns = some b → PySem.W.kitAny K (.ref (cA z.c)) (ns.map (CN.val cA)) = some b
  | [], b, h => h
  | n :: ns, b, h => by
    unfold kisA at h
    show (match PySem.W.kitOne K (.ref (cA z.c)) (n.val cA) with
      | some true => some true
      | some false => PySem.W.kitAny K (.ref (cA z.c)) (ns.map (CN.val cA))
      | none => none) = some b
    split at h
    · rename_i e
      rw [(kisX_of F e).2.2]
      exact h
    · rename_i e
      rw [(kisX_of F e).2.2]
      exact kisA_of F h
    · cases h
theorem kisA_ex (F : IsFacts K cA kis) {n : CN} {ns : List CN} {b : Bool} (h : kisA kis z (n :: ns) = some b) : z.fs = [] ∧ ExcC K (cA z.c) := by
  unfold kisA at h
  split at h
  · rename_i e; exact ⟨(kisX_of F e).1, (kisX_of F e).2.1⟩
  · rename_i e; exact ⟨(kisX_of F e).1, (kisX_of F e).2.1⟩
  · cases h
/-- the names of classes as they stand -/
theorem cown {x : Str} {j : Nat} {p : Pos} (hm : X.mg x = some (.ref (cA j))) (hg : Gl X x) (hd : (x == ("__debug__" : Str)) = false := by decide) : PE X (.Name x p) (tC ((CN.own j).v cA)) := pe_glob (v := .ref (cA j)) hg hm rfl hd
theorem cty {x : Str} {n : String} {p : Pos} (hm : X.mg x = none) (hv : bootBuiltins x = some (.type n)) (hg : Gl X x) (hn : x ≠ "__name__" := by decide) (hd : (x == ("__debug__" : Str)) = false := by decide) : PE X (.Name x p) (tC ((CN.ty n).v cA)) := pe_bltn (v := .ty n) hg hm hv rfl hn hd
def tVs (vs : List V) : TA := fun _ H Q => Q vs H
theorem vnil : PA X [] (tVs []) := pa_nil
theorem vcons {e : Expr} {es : List Expr} {v : V} {vs : List V} (h : PE X e (tC v)) (r : PA X es (tVs vs)) (hs : starEach (e :: es) X.env = (false, eval e X.env) :: starEach es X.env := by rfl) : PA X (e :: es) (tVs (v :: vs)) := pa_cons h r hs
variable {a : Addr} {oe : Obj} {pn : List (Addr × Obj)} {d : Option Addr} {pos p0 p1 : Pos} {e : Expr} {m : ME} {x : Str}
theorem misE {ec : Expr} {n : CN} (F : IsFacts X.K cA kis) (hz : Zc (.ref (cA z.c)) d oe) (hd : z.fs = [] → d = none) (hf : ∃ vs, oe.data = .fields vs) (ha : PE (X.suite a ((a, oe) :: pn)) e (tE X.K cA W m)) (hcn : PE (X.suite a ((a, oe) :: pn)) ec (tC (n.v cA)))
    (hg : Gl X "isinstance") (hm : X.mg "isinstance" = none) (hv : bootBuiltins "isinstance" = some (.builtin "isinstance") := by decide +kernel)
    (hs2 : starEach [ec] X.env = (false, eval ec X.env) :: starEach [] X.env := by rfl) (hs : starEach [e, ec] X.env = (false, eval e X.env) :: starEach [ec] X.env := by rfl)
    (hpl : (backTo pos (starEach [ec] X.env)).any (·.1) = false := by rfl) : PE (X.suite a ((a, oe) :: pn)) (.Call (.Name "isinstance" p0) [e, ec] [] pos) (tE X.K cA W (toV (isX (kisX kis z n) a m))) := by
  cases hk : kisX kis z n with
  | none => exact ⟨fun pins s σ H Q I h => by obtain ⟨ρ, S, l, _, _, h⟩ := h; exact h.elim⟩
  | some b =>
    obtain ⟨k1, k2, k3⟩ := kisX_of F hk
    have hz' : Zc (.ref (cA z.c)) none oe := by rw [← hd k1]; exact hz
    exact (pe_callB (call_isE k2 hz' hf) hg hm hv (pa_cons ha (pa_cons hcn pa_nil hs2) hs) (by decide) (by decide) hs hpl).imp fun σ H Q h0 => by
      refine tG.imp (bind1 (rep1 := rV X.K) st_Id (tE_toV h0)) fun v H1 h => ?_
      obtain ⟨ρ, S, dd, hS, hr, h⟩ := h
      split at h
      · rename_i b'
        split at h
        · rename_i e
          subst e
          unfold rV RepV at hr
          subst hr
          exact ⟨n.v cA, n.val cA, b, rfl, fun u r => n.clsv.eq r, k3, After.same (Q := fun b H' => Q (.bl b) H') (rep := rId) h hS rfl⟩
        · exact h.elim
      · exact h.elim
/-- isinstance(e, (c1, ..)), e the exception that the suite holds -/
def rIsET (K : PySem.W.Frag) (D a : Addr) : List V → Hp → VK → Prop := fun xs H Q => ∃ (tp : Addr) (cs : List V) (us : List Value) (b : Bool), xs = [.ref a, .ref tp] ∧ H tp = some (.tup cs) ∧ Paired ClsV cs us ∧ PySem.W.kitAny K (.ref D) us = some b ∧ Q (.bl b) H
theorem call_isET {D : Addr} (C : ExcC X.K D) (hz : Zc (.ref D) none oe) (hf : ∃ vs, oe.data = .fields vs) : CallR (X.suite a ((a, oe) :: pn)) (.builtin "isinstance") (rIsET X.K D a) := by
  intro pins s σ H xs us Q I r h
  obtain ⟨tp, cs, ws, b, rfl, hT, k, e, q⟩ := h
  obtain ⟨u1, u2, rfl, r1, r2⟩ := vals2 r
  cases (show u2 = Value.ref tp from r2)
  cases (show u1 = Value.ref a from r1)
  obtain ⟨hget, _⟩ := I.pin (a, oe) (List.mem_append.mpr (.inl List.mem_cons_self))
  obtain ⟨vs, hv⟩ := hf
  have J : PySem.W.InstAt s.heap a oe D none := by
    obtain ⟨oc, od, oda, osl⟩ := oe
    obtain ⟨h1, h2⟩ := hz
    dsimp only at h1 h2 hv
    subst h1 h2 hv
    exact ⟨hget, rfl, rfl, trivial⟩
  obtain ⟨_, its, rv, o, h1, h2, n, h3⟩ := (show ObjOk X.prog X.w H s.heap tp (.tup cs) from I.hok tp _ hT)
  have e3 := ClsV.all k rv
  subst e3
  obtain ⟨oc, od, dt, sl⟩ := o
  simp only at h2 h3
  subst h2 h3
  exact PySem.W.kia_tup (PySem.W.handS_kitx_exc C.hg C.hk C.hs C.hd C.ha C.hn C.ht C.hm) I.kIn J h1 e (fun z => nomatch z) fun tk => ⟨.bl b, H, I.kept (t' := tk) fun _ _ z => z, rfl, q⟩
theorem misEt {es : List Expr} {k : Nat} {n : CN} {ns : List CN} {p2 : Pos} (F : IsFacts X.K cA kis) (hz : Zc (.ref (cA z.c)) d oe) (hd : z.fs = [] → d = none) (hf : ∃ vs, oe.data = .fields vs) (ha : PE (X.suite a ((a, oe) :: pn)) e (tE X.K cA W m)) (hcn : PA (X.suite a ((a, oe) :: pn)) es (tVs ((n :: ns).map (CN.v cA))))
    (hlen : (n :: ns).length ≤ sizeLine) (hg : Gl X "isinstance") (hm : X.mg "isinstance" = none) (hv : bootBuiltins "isinstance" = some (.builtin "isinstance") := by decide +kernel)
    (hs2 : starEach [(.Tuple es k p2 : Expr)] X.env = (false, eval (.Tuple es k p2) X.env) :: starEach [] X.env := by rfl) (hs : starEach [e, .Tuple es k p2] X.env = (false, eval e X.env) :: starEach [.Tuple es k p2] X.env := by rfl)
    (hpl : (backTo pos (starEach [(.Tuple es k p2 : Expr)] X.env)).any (·.1) = false := by rfl) : PE (X.suite a ((a, oe) :: pn)) (.Call (.Name "isinstance" p0) [e, .Tuple es k p2] [] pos) (tE X.K cA W (toV (isX (kisA kis z (n :: ns)) a m))) := by
  cases hk : kisA kis z (n :: ns) with
  | none => exact ⟨fun pins s σ H Q I h => by obtain ⟨ρ, S, l, _, _, h⟩ := h; exact h.elim⟩
  | some b =>
    obtain ⟨k1, k2⟩ := kisA_ex F hk
    have hz' : Zc (.ref (cA z.c)) none oe := by rw [← hd k1]; exact hz
    exact (pe_callB (call_isET k2 hz' hf) hg hm hv (pa_cons ha (pa_cons (pe_tup hcn) pa_nil hs2) hs) (by decide) (by decide) hs hpl).imp fun σ H Q h0 => by
      refine tG.imp (bind1 (rep1 := rV X.K) st_Id (tE_toV h0)) fun v H1 h => ?_
      obtain ⟨ρ, S, dd, hS, hr, h⟩ := h
      split at h
      · rename_i b'
        split at h
        · rename_i e
          subst e
          unfold rV RepV at hr
          subst hr
          refine ⟨by rw [List.length_map]; exact hlen, fun tp htp => ⟨tp, _, _, b, rfl, upd_same, CN.all (n :: ns), kisA_of F hk, ?_⟩⟩
          exact h ρ _ b (Ext.new htp) (hS.new htp) rfl
        · exact h.elim
      · exact h.elim
end
end ML

set_option Elab.async false
set_option linter.all false
set_option maxRecDepth 100000
set_option autoImplicit false
/-! ML10: the end of a law's row. -/
namespace ML
open PySem PySem.Spec L2
theorem FnM.mk' {P : Program} {w : World} {K : PySem.W.Frag} {mg : Str → Option Value} {base : Heap} {cA : Nat → Addr} {k n : Nat} {x qual : Str} {st : Stmt} {f : Addr} {fd : FuncData} {ps : List Str} {G : List D → Store → R D} (F : Fun K x qual st f fd) (hm : mg x = some (.ref f)) (b : Binds K fd ps []) (ok : FnOk P w K mg base (L2.CX P w) k f fd ps (spM K cA G n)) : FnM P w K mg base cA k x n G := ⟨⟨f, fd, ps, hm, F.kp, b, ok⟩⟩
/-- a law's promise, from what its function tells -/
theorem law_sp {n : Nat} {F : List D → Store → R D} (h : ∀ ns : List Int, ns.length ≤ n → ∃ S', F [.lis (ns.map D.int)] [] = .ok (.bl true) S') {K : PySem.W.Frag} {cA : Nat → Addr} {H : Hp} {a : Addr} {ns : List Int} (hn : ns.length ≤ n) (hO : Only H) (hS : SqL K H a (ns.map V.int)) :
    spM K cA F 1 [.ref a] H (fun v _ => v = .bl true) (fun _ _ _ => False) := by
  obtain ⟨S', e⟩ := h ns hn
  refine ⟨rfl, [], [], [.lis (ns.map D.int)], ⟨rfl, List.nodup_nil, fun n c a h => by simp at h⟩, ?_, ?_⟩
  · refine .cons ?_ .nil
    unfold RepV
    refine ⟨a, ns.map V.int, rfl, ?_, RepVs.of_ints⟩
    rcases hS with (hS | ⟨o, hS⟩) | hS
    · rcases hO a with z | ⟨o, xs, z⟩ <;> (rw [hS] at z; cases z)
    · exact .inl ⟨o, hS⟩
    · exact .inr hS
  · rw [e]
    intro ρ' H' v _ _ hv
    unfold rV RepV at hv
    exact hv
/-- the classes' addresses by number -/
def tabA (l : List Addr) : Nat → Addr := fun n => l.getD n 0
/-- a promise that does not name the classes -/
def spA (K : PySem.W.Frag) (F : List D → Store → R D) (n : Nat) : Sp := fun vs H Q E => ∀ cA : Nat → Addr, spM K cA F n vs H Q E
theorem spA_of {P : Program} {w : World} {K : PySem.W.Frag} {mg : Str → Option Value} {base : Heap} {cA : Nat → Addr} {k n : Nat} {f : Addr} {fd : FuncData} {ps : List Str} {F : List D → Store → R D} {CX : CXT} (h : FnOk P w K mg base CX k f fd ps (spM K cA F n)) : FnOk P w K mg base CX k f fd ps (spA K F n) :=
  ⟨fun vs H Q E q => h.len vs H Q E (q cA), fun A st s H args us vs Q E hr e b r q => h.run A st s H args us vs Q E hr e b r (q cA)⟩
theorem law_spA {n : Nat} {F : List D → Store → R D} (h : ∀ ns : List Int, ns.length ≤ n → ∃ S', F [.lis (ns.map D.int)] [] = .ok (.bl true) S') {K : PySem.W.Frag} {H : Hp} {a : Addr} {ns : List Int} (hn : ns.length ≤ n) (hO : Only H) (hS : SqL K H a (ns.map V.int)) :
    spA K F 1 [.ref a] H (fun v _ => v = .bl true) (fun _ _ _ => False) := fun _ => law_sp h hn hO hS
theorem cx_end {P : Program} {w : World} {H : Hp} {s : Shared} {e : Value} {s' : Shared} (h : L2.CX P w [] H s (fun _ _ _ => False) e s') : False := by
  obtain ⟨_, _, _, _, _, _, _, _, _, _, _, _, z⟩ := h
  exact z
end ML

set_option Elab.async false
set_option linter.all false
set_option maxRecDepth 100000
set_option autoImplicit false
/-! ML11: reckoning with the functions. -/
namespace ML
open PySem PySem.Spec L2

/-- a text of one sign -/
def sgn (c : Nat) : D := .str ⟨#[c]⟩
/-- the signs of a text -/
def cs (x : Str) : List Nat := TL.tl x
@[simp] theorem cs_one (c : Nat) : cs ⟨#[c]⟩ = [c] := (rfl)
theorem cs_of (s : String) : cs (Str.ofString s) = s.toList.map Char.toNat := TL.tl_ofString s
@[simp] theorem cs_app (x y : Str) : cs (x ++ y) = cs x ++ cs y := TL.tl_append x y
@[simp] theorem cs_len (x : Str) : (cs x).length = x.length := (TL.len_tl x).symm
theorem cs_ext {x y : Str} (h : cs x = cs y) : x = y := TL.ext_tl h
theorem cs_join (y : Str) (parts : List Str) : cs (Str.join y parts) = TL.joinL (cs y) (parts.map cs) := TL.tl_join y parts
theorem signs_tl (z : Str) : signsOf z = (cs z).map sgn := rfl
section
variable {m n o : ME} {l : Loc} {S : Store}
@[simp] theorem x_con (d : D) : conE d l S = .ok d S := (rfl)
@[simp] theorem x_var0 (d : D) (r : Loc) : varE 0 (some d :: r) S = .ok d S := (rfl)
@[simp] theorem x_varS (i : Nat) (a : Option D) (r : Loc) : varE (i + 1) (a :: r) S = varE i r S := by simp [varE]
@[simp] theorem x_bin (f : D → D → Store → R D) : binE f m n l S = (m l S).bind fun a S1 => (n l S1).bind (f a) := (rfl)
@[simp] theorem x_un (f : D → Store → R D) : unE f m l S = (m l S).bind f := (rfl)
@[simp] theorem x_cmp (f : D → D → Store → R Bool) : cmpM f m n l S = (m l S).bind fun a S1 => (n l S1).bind (f a) := (rfl)
@[simp] theorem x_toV (m : MB) : toV m l S = (m l S).bind fun b S1 => .ok (.bl b) S1 := (rfl)
@[simp] theorem x_chain (f g : D → D → Store → R Bool) : chainM f g m n o l S = (m l S).bind fun a S1 => (n l S1).bind fun b S2 => (f a b S2).bind fun t S3 => if t = true then (o l S3).bind (g b) else .ok false S3 := (rfl)
@[simp] theorem x_andM (m n : MB) : andM m n l S = (m l S).bind fun b S1 => if b = true then n l S1 else .ok false S1 := (rfl)
@[simp] theorem x_orM (m n : MB) : orM m n l S = (m l S).bind fun b S1 => if b = true then .ok true S1 else n l S1 := (rfl)
@[simp] theorem x_notM (m : MB) : notM m l S = (m l S).bind fun b S1 => .ok (!b) S1 := (rfl)
@[simp] theorem x_isBl (b : Bool) : isBl (.bl b) = some b := (rfl)
@[simp] theorem x_ofV : ofV m l S = (m l S).bind fun d S1 => match isBl d with
  | some b => .ok b S1
  | none => .bad := (rfl)
@[simp] theorem x_andV (p : MB) : andV p n l S = (p l S).bind fun b S1 => if b = true then n l S1 else .ok (.bl false) S1 := (rfl)
@[simp] theorem x_orV (p : MB) : orV p n l S = (p l S).bind fun b S1 => if b = true then .ok (.bl true) S1 else n l S1 := (rfl)
@[simp] theorem x_ifE (c : MB) : ifE c m n l S = (c l S).bind fun b S1 => if b = true then m l S1 else n l S1 := (rfl)
@[simp] theorem x_nilA : nilA l S = .ok [] S := (rfl)
@[simp] theorem x_consA (r : MA) : consA m r l S = (m l S).bind fun d S1 => (r l S1).bind fun ds S2 => .ok (d :: ds) S2 := (rfl)
@[simp] theorem x_tupE (r : MA) : tupE r l S = (r l S).bind fun ds S1 => if ds.length ≤ sizeLine then .ok (.tup ds) S1 else .bad := (rfl)
@[simp] theorem x_lstN (r : MA) : lstN r l S = (r l S).bind fun ds S1 => if ds.length ≤ sizeLine then .ok ds S1 else .bad := (rfl)
@[simp] theorem x_allocE (r : MA) : allocE r l S = (r l S).bind fun ds S1 => newC (.lst ds) S1 := (rfl)
@[simp] theorem x_newL {α : Type} (f : List D → Store → R α) (r : MA) : newL f r l S = (r l S).bind f := (rfl)
@[simp] theorem x_ofL {α : Type} (f : List D → Store → R α) : ofL f m l S = (m l S).bind fun d S1 => match lstOf S1 d with
  | some ds => f ds S1
  | none => .bad := (rfl)
@[simp] theorem x_isE (T : String) : isE T m l S = (m l S).bind fun d S1 => match kindO S1 d with
  | some t => .ok (isKind T t) S1
  | none => .bad := (rfl)
@[simp] theorem x_call (k : Nat) (G : List D → Store → R D) (r : MA) : callE k G r l S = (r l S).bind fun ds S1 => if ds.length = k then G ds S1 else .bad := (rfl)
@[simp] theorem x_slice (lo hi : MO) : sliceE m lo hi l S = (m l S).bind fun d S1 => (lo l S1).bind fun i S2 => (hi l S2).bind (sliceD d i) := (rfl)
@[simp] theorem x_noO : noO l S = .ok none S := (rfl)
@[simp] theorem x_someO : someO m l S = (m l S).bind fun d S1 => match intO d with
  | some i => .ok (some i) S1
  | none => .bad := (rfl)
@[simp] theorem x_intO (i : Int) : intO (.int i) = some i := (rfl)
@[simp] theorem x_strO (i : Str) : strO (.str i) = some i := (rfl)
@[simp] theorem x_fld (cs : List Nat) (f : Str) : fldE cs f m l S = (m l S).bind fun d S1 => match d with
  | .ref n => match insAt S1 n with
    | some (c, fs) => if c ∈ cs then (match fs.lookup f with
      | some x => .ok x S1
      | none => .bad) else .bad
    | none => .bad
  | _ => .bad := (rfl)
@[simp] theorem x_lmE (f : D → List D → Store → R D) (r : MA) : lmE f m r l S = (m l S).bind fun d S1 => if (lstOf S1 d).isSome = true then (r l S1).bind (f d) else .bad := (rfl)
@[simp] theorem x_joinN (r : MA) : joinN m r l S = (m l S).bind fun d S1 => match strO d with
  | some a => (r l S1).bind fun ds S2 => match mapO strO ds with
    | some ys => if (ys.map (·.length)).sum + ys.length * a.length ≤ 16777216 then .ok (.str (Str.join a ys)) S2 else .bad
    | none => .bad
  | none => .bad := (rfl)
@[simp] theorem x_yes : yesM l S = .ok true S := (rfl)
/-! statements -/
@[simp] theorem x_nilS : nilS l S = .ok (.nx, l) S := (rfl)
@[simp] theorem x_seqS (a b : MS) : seqS a b l S = (a l S).bind (thenS b) := (rfl)
@[simp] theorem x_then_nx (b : MS) (l : Loc) : thenS b (.nx, l) S = b l S := (rfl)
@[simp] theorem x_then_rt (b : MS) (d : D) (l : Loc) : thenS b (.rt d, l) S = .ok (.rt d, l) S := (rfl)
@[simp] theorem x_then_bk (b : MS) (l : Loc) : thenS b (.bk, l) S = .ok (.bk, l) S := (rfl)
@[simp] theorem x_then_ct (b : MS) (l : Loc) : thenS b (.ct, l) S = .ok (.ct, l) S := (rfl)
@[simp] theorem x_exprS : exprS m l S = (m l S).bind fun _ S1 => .ok (.nx, l) S1 := (rfl)
@[simp] theorem x_retS : retS m l S = (m l S).bind fun d S1 => .ok (.rt d, l) S1 := (rfl)
@[simp] theorem x_retN : retN l S = .ok (.rt .non, l) S := (rfl)
@[simp] theorem x_ifS (c : MB) (a b : MS) : ifS c a b l S = (c l S).bind fun t S1 => if t = true then a l S1 else b l S1 := (rfl)
@[simp] theorem x_breakS : breakS l S = .ok (.bk, l) S := (rfl)
@[simp] theorem x_contS : contS l S = .ok (.ct, l) S := (rfl)
@[simp] theorem x_setS (i : Nat) : setS i m l S = (m l S).bind fun d S1 => .ok (.nx, l.set i (some d)) S1 := (rfl)
@[simp] theorem x_asgS (t : MT) : asgS t m l S = (m l S).bind fun d S1 => (t d l S1).bind fun l1 S2 => .ok (.nx, l1) S2 := (rfl)
@[simp] theorem x_nameT (i : Nat) (d : D) : nameT i d l S = .ok (l.set i (some d)) S := (rfl)
@[simp] theorem x_subT (d : D) : subT m n d l S = (m l S).bind fun o S1 => (n l S1).bind fun i S2 => match setO S2 o i d with
  | some S3 => .ok l S3
  | none => .bad := (rfl)
@[simp] theorem x_forS (src : Loc → Store → R Sn) (t : MT) (b : MS) : forS src t b l S = (src l S).bind fun p S1 => forL p.2 t b p.1 l S1 := (rfl)
@[simp] theorem x_srcN (r : MA) : srcN r l S = (r l S).bind fun ds S1 => .ok (ds, still) S1 := (rfl)
@[simp] theorem x_srcV : srcV m l S = (m l S).bind srcD := (rfl)
@[simp] theorem x_srcR1 (r : MA) : srcR1 r l S = (r l S).bind rng1 := (rfl)
@[simp] theorem x_srcR2 (r : MA) : srcR2 r l S = (r l S).bind rng2 := (rfl)
@[simp] theorem x_compN (src : Loc → Store → R Sn) (t : Tgt) (c : MB) : compN src t c m l S = (src l S).bind fun p S1 => (compL p.2 t c m (wipeL l t.own) p.1 [] S1).noex := (rfl)
@[simp] theorem x_noex_ok {α : Type} (a : α) (S : Store) : (R.ok a S).noex = .ok a S := (rfl)
@[simp] theorem x_again_nx (b : MS) (l : Loc) : againS b (.nx, l) S = b l S := (rfl)
@[simp] theorem x_again_ct (b : MS) (l : Loc) : againS b (.ct, l) S = b l S := (rfl)
@[simp] theorem x_again_bk (b : MS) (l : Loc) : againS b (.bk, l) S = .ok (.nx, l) S := (rfl)
@[simp] theorem x_again_rt (b : MS) (d : D) (l : Loc) : againS b (.rt d, l) S = .ok (.rt d, l) S := (rfl)
@[simp] theorem x_eqN (r s : MA) : eqN r s l S = (r l S).bind fun xs S1 => (s l S1).bind fun ys S2 => match eqLs S2 xs ys with
  | some b => .ok b S2
  | none => .bad := (rfl)
@[simp] theorem x_neN (r s : MA) : neN r s l S = (r l S).bind fun xs S1 => (s l S1).bind fun ys S2 => match eqLs S2 xs ys with
  | some b => .ok (!b) S2
  | none => .bad := (rfl)
@[simp] theorem x_nilP : nilP l S = .ok [] S := (rfl)
@[simp] theorem x_consP (k v : ME) (r : MP) : consP k v r l S = (k l S).bind fun a S1 => (v l S1).bind fun b S2 => (r l S2).bind fun ps S3 => .ok ((a, b) :: ps) S3 := (rfl)
@[simp] theorem x_dictE (r : MP) : dictE r l S = (r l (S ++ [.dct []])).bind fun ps S1 => match keysO ps with
  | some kvs => if kvs.length ≤ 15 then (match dctAt S1 S.length with
    | some [] => .ok (.ref S.length) (S1.set S.length (.dct (mergeD [] kvs)))
    | _ => .bad) else .bad
  | none => .bad := (rfl)
@[simp] theorem x_bodyF (k : Nat) (b : MS) (ds : List D) : bodyF k b ds S = (b (startL k ds) S).bind fun p S1 => match p.1 with
  | .nx => .ok .non S1
  | .rt d => .ok d S1
  | _ => .bad := (rfl)
/-! values -/
@[simp] theorem x_addI (i j : Int) : addD (.int i) (.int j) S = .ok (.int (i + j)) S := (rfl)
@[simp] theorem x_addT (x y : Str) : addD (.str x) (.str y) S = if x.length + y.length ≤ sizeLine then .ok (.str (x ++ y)) S else .bad := (rfl)
@[simp] theorem x_addU (x y : List D) : addD (.tup x) (.tup y) S = if x.length + y.length ≤ sizeLine then .ok (.tup (x ++ y)) S else .bad := (rfl)
@[simp] theorem x_subI (i j : Int) : subD (.int i) (.int j) S = .ok (.int (i - j)) S := (rfl)
theorem mulOk_r {i j : Int} (h : j.natAbs < 18446744073709551616) : mulOk i j = true := by
  have e : ((2 : Int) ^ 64) = 18446744073709551616 := by decide +kernel
  unfold mulOk
  rw [e]
  simp
  right
  omega
theorem mulOk_l {i j : Int} (h : i.natAbs < 18446744073709551616) : mulOk i j = true := by
  have e : ((2 : Int) ^ 64) = 18446744073709551616 := by decide +kernel
  unfold mulOk
  rw [e]
  simp
  left
  omega
@[simp] theorem x_mulR {i j : Int} (h : j.natAbs < 18446744073709551616) : mulD (.int i) (.int j) S = .ok (.int (i * j)) S := if_pos (mulOk_r h)
@[simp] theorem x_mulL {i j : Int} (h : i.natAbs < 18446744073709551616) : mulD (.int i) (.int j) S = .ok (.int (i * j)) S := if_pos (mulOk_l h)
@[simp] theorem x_fdivI (i j : Int) : fdivD (.int i) (.int j) S = if 0 < j ∧ j < 1073741824 then .ok (.int (i / j)) S else .bad := (rfl)
@[simp] theorem x_modI (i j : Int) : modD (.int i) (.int j) S = if 0 < j then .ok (.int (i % j)) S else .bad := (rfl)
@[simp] theorem x_powI (i j : Int) : powD (.int i) (.int j) S = if 0 ≤ j ∧ j ≤ 1000000 ∧ i.natAbs < 2 ^ 64 then .ok (.int (i ^ j.toNat)) S else .bad := (rfl)
@[simp] theorem x_negI (i : Int) : negD (.int i) S = .ok (.int (-i)) S := (rfl)
@[simp] theorem x_ltI (i j : Int) : ltD (.int i) (.int j) S = .ok (decide (i < j)) S := (rfl)
@[simp] theorem x_leI (i j : Int) : leD (.int i) (.int j) S = .ok (decide (i ≤ j)) S := (rfl)
@[simp] theorem x_gtI (i j : Int) : gtD (.int i) (.int j) S = .ok (decide (j < i)) S := (rfl)
@[simp] theorem x_geI (i j : Int) : geD (.int i) (.int j) S = .ok (decide (j ≤ i)) S := (rfl)
@[simp] theorem x_leS (x y : Str) : leD (.str x) (.str y) S = .ok (!decide (cs y < cs x)) S := (rfl)
@[simp] theorem x_ltS (x y : Str) : ltD (.str x) (.str y) S = .ok (decide (cs x < cs y)) S := (rfl)
@[simp] theorem x_lenT (x : Str) : lenV [.str x] S = if x.length ≤ sizeLine then .ok (.int x.length) S else .bad := (rfl)
@[simp] theorem x_lenU (x : List D) : lenV [.tup x] S = .ok (.int x.length) S := (rfl)
@[simp] theorem x_lenW (x : List D) : lenV [.lis x] S = .ok (.int x.length) S := (rfl)
theorem x_lenR {n : Nat} {xs : List D} (h : lstAt S n = some xs) : lenV [.ref n] S = .ok (.int xs.length) S := by
  unfold lenV
  simp only [seqOf, h]
@[simp] theorem x_abs (i : Int) : absV [.int i] S = .ok (.int i.natAbs) S := by
  show R.ok (D.int (if i < 0 then -i else i)) S = _
  congr 2
  split <;> omega
@[simp] theorem x_max (i j : Int) : maxV [.int i, .int j] S = .ok (.int (max i j)) S := by
  show R.ok (D.int (if j > i then j else i)) S = _
  congr 2
  split <;> omega
@[simp] theorem x_min (i j : Int) : minV [.int i, .int j] S = .ok (.int (min i j)) S := by
  show R.ok (D.int (if j < i then j else i)) S = _
  congr 2
  split <;> omega
@[simp] theorem x_int (i : Int) : intV [.int i] S = .ok (.int i) S := (rfl)
@[simp] theorem x_intB (b : Bool) : intV [.bl b] S = .ok (.int (if b = true then 1 else 0)) S := (rfl)
@[simp] theorem x_strI (i : Int) : strV [.int i] S = if i.natAbs.log2 < 1920 then .ok (.str (toString i)) S else .bad := (rfl)
@[simp] theorem x_ixU (x : List D) (i : Int) : ixO S (.tup x) (.int i) = atI x i := (rfl)
@[simp] theorem x_ixW (x : List D) (i : Int) : ixO S (.lis x) (.int i) = atI x i := (rfl)
@[simp] theorem x_ixT (z : Str) (i : Int) : ixO S (.str z) (.int i) = if z.length ≤ sizeLine then (atI (cs z) i).map sgn else none := (rfl)
theorem x_ixR {n : Nat} {xs : List D} (h : lstAt S n = some xs) (i : Int) : ixO S (.ref n) (.int i) = atI xs i := by
  unfold ixO
  simp only [lstAt_some h]
theorem x_ixK {n : Nat} {kvs : List (Key × D)} (h : kvAt S n = some kvs) (x : Str) : ixO S (.ref n) (.str x) = dLook kvs (.inr x) := by
  unfold ixO
  simp only [h]
@[simp] theorem x_srcU (x : List D) : srcD (.tup x) S = .ok (x, still) S := (rfl)
@[simp] theorem x_srcW (x : List D) : srcD (.lis x) S = .ok (x, still) S := (rfl)
@[simp] theorem x_srcT (z : Str) : srcD (.str z) S = .ok ((cs z).map sgn, still) S := (rfl)
@[simp] theorem x_inT (c : Nat) (z : Str) : inD (sgn c) (.str z) S = .ok (decide (c ∈ cs z)) S := (rfl)
@[simp] theorem x_ninT (c : Nat) (z : Str) : notInD (sgn c) (.str z) S = .ok (!decide (c ∈ cs z)) S := (rfl)
@[simp] theorem x_eqT (x y : Str) : eqD (.str x) (.str y) S = .ok (decide (x = y)) S := (rfl)
@[simp] theorem x_neT (x y : Str) : neD (.str x) (.str y) S = .ok (!decide (x = y)) S := (rfl)
@[simp] theorem x_leG (x : Str) (c : Nat) : leD (.str x) (sgn c) S = .ok (!decide ([c] < cs x)) S := (rfl)
@[simp] theorem x_leG' (x : Str) (c : Nat) : leD (sgn c) (.str x) S = .ok (!decide (cs x < [c])) S := (rfl)
@[simp] theorem x_kNon : kindO S .non = some "NoneType" := (rfl)
@[simp] theorem x_kBl (b : Bool) : kindO S (.bl b) = some "bool" := (rfl)
@[simp] theorem x_kInt (i : Int) : kindO S (.int i) = some "int" := (rfl)
@[simp] theorem x_kStr (i : Str) : kindO S (.str i) = some "str" := (rfl)
@[simp] theorem x_kTup (i : List D) : kindO S (.tup i) = some "tuple" := (rfl)
@[simp] theorem x_kLis (i : List D) : kindO S (.lis i) = some "list" := (rfl)
theorem x_kLst {n : Nat} {xs : List D} (h : S[n]? = some (.lst xs)) : kindO S (.ref n) = some "list" := by unfold kindO; simp only [h]
end
theorem still_true (S : Store) : still S := trivial
@[simp] theorem if_still {α : Type} {S : Store} (a b : R α) [Decidable (still S)] : (if still S then a else b) = a := if_pos trivial

/-! ### loops that change nothing -/
theorem forL_nil {chk : Store → Prop} {t : MT} {b : MS} {l : Loc} {S : Store} (hk : chk S) : forL chk t b [] l S = .ok (.nx, l) S := by unfold forL; exact if_pos hk
theorem forL_cons {chk : Store → Prop} {t : MT} {b : MS} {d : D} {ds : List D} {l : Loc} {S : Store} (hk : chk S) : forL chk t b (d :: ds) l S = (t d l S).bind fun l1 S1 => (b l1 S1).bind (againS (forL chk t b ds)) := by
  conv => lhs; unfold forL
  exact if_pos hk
theorem compL_nil {chk : Store → Prop} {t : Tgt} {c : MB} {m : ME} {l : Loc} {acc : List D} {S : Store} (hk : chk S) : compL chk t c m l [] acc S = .ok acc S := by unfold compL; exact if_pos hk
theorem compL_cons {chk : Store → Prop} {t : Tgt} {c : MB} {m : ME} {l : Loc} {d : D} {ds acc : List D} {S : Store} (hk : chk S) : compL chk t c m l (d :: ds) acc S = (match t.put d l with
    | some l1 => (c l1 S).bind fun b S1 => if b = true then (m l1 S1).bind fun y S2 => if acc.length < sizeLine then compL chk t c m l ds (acc ++ [y]) S2 else .bad else compL chk t c m l ds acc S1
    | none => .bad) := by
  conv => lhs; unfold compL
  exact if_pos hk
/-- a comprehension of one name whose elements change nothing -/
theorem compL_pure {chk : Store → Prop} {i : Nat} {c : MB} {m : ME} {l : Loc} {S : Store} (hk : chk S) (p : D → Bool) (f : D → D) : ∀ (ds acc : List D), (∀ d ∈ ds, c (l.set i (some d)) S = .ok (p d) S) → (∀ d ∈ ds, p d = true → m (l.set i (some d)) S = .ok (f d) S) → acc.length + ds.length ≤ sizeLine →
    compL chk (.one i) c m l ds acc S = .ok (acc ++ (ds.filter p).map f) S
  | [], acc, _, _, _ => by rw [compL_nil hk]; simp
  | d :: ds, acc, hc, hm, hz => by
    have h1 := hc d List.mem_cons_self
    have h2 := hm d List.mem_cons_self
    rw [List.length_cons] at hz
    rw [compL_cons hk]
    simp only [Tgt.put, h1, R.bind_ok]
    cases e : p d with
    | true =>
      simp only [if_true, h2 e, R.bind_ok]
      rw [if_pos (by omega), compL_pure hk p f ds (acc ++ [f d]) (fun x hx => hc x (List.mem_cons_of_mem _ hx)) (fun x hx => hm x (List.mem_cons_of_mem _ hx)) (by rw [List.length_append, List.length_singleton]; omega)]
      simp [e]
    | false =>
      simp only [if_false, Bool.false_eq_true]
      rw [compL_pure hk p f ds acc (fun x hx => hc x (List.mem_cons_of_mem _ hx)) (fun x hx => hm x (List.mem_cons_of_mem _ hx)) (by omega)]
      simp [e]
theorem compL_map {chk : Store → Prop} {i : Nat} {m : ME} {l : Loc} {S : Store} (f : D → D) (ds : List D) (hm : ∀ d ∈ ds, m (l.set i (some d)) S = .ok (f d) S) (hz : ds.length ≤ sizeLine) (hk : chk S := by trivial) : compL chk (.one i) yesM m l ds [] S = .ok (ds.map f) S := by
  rw [compL_pure hk (fun _ => true) f ds [] (fun _ _ => rfl) (fun d hd _ => hm d hd) (by simpa using hz), List.filter_eq_self.mpr (fun _ _ => rfl)]
  rfl
theorem mapO_some {α β γ : Type} {f : α → Option β} {g : γ → α} {h : γ → β} (e : ∀ x, f (g x) = some (h x)) : ∀ xs : List γ, mapO f (xs.map g) = some (xs.map h)
  | [] => rfl
  | x :: xs => by rw [List.map_cons]; unfold mapO; rw [e, mapO_some e xs]; rfl
theorem mapO_of {α β : Type} {f : α → Option β} {h : α → β} : ∀ {xs : List α}, (∀ x ∈ xs, f x = some (h x)) → mapO f xs = some (xs.map h)
  | [], _ => rfl
  | x :: xs, e => by unfold mapO; rw [e x List.mem_cons_self, mapO_of fun y hy => e y (List.mem_cons_of_mem _ hy)]; rfl
/-- .. over items g b -/
theorem compL_pureG {β : Type} {chk : Store → Prop} {i : Nat} {c : MB} {m : ME} {l : Loc} {S : Store} (hk : chk S) (g : β → D) (p : β → Bool) (f : β → D) : ∀ (bs : List β) (acc : List D), (∀ b ∈ bs, c (l.set i (some (g b))) S = .ok (p b) S) → (∀ b ∈ bs, p b = true → m (l.set i (some (g b))) S = .ok (f b) S) → acc.length + bs.length ≤ sizeLine →
    compL chk (.one i) c m l (bs.map g) acc S = .ok (acc ++ (bs.filter p).map f) S
  | [], acc, _, _, _ => by rw [List.map_nil, compL_nil hk]; simp
  | d :: ds, acc, hc, hm, hz => by
    have h1 := hc d List.mem_cons_self
    have h2 := hm d List.mem_cons_self
    rw [List.length_cons] at hz
    rw [List.map_cons, compL_cons hk]
    simp only [Tgt.put, h1, R.bind_ok]
    cases e : p d with
    | true =>
      simp only [if_true, h2 e, R.bind_ok]
      rw [if_pos (by omega), compL_pureG hk g p f ds (acc ++ [f d]) (fun x hx => hc x (List.mem_cons_of_mem _ hx)) (fun x hx => hm x (List.mem_cons_of_mem _ hx)) (by rw [List.length_append, List.length_singleton]; omega)]
      simp [e]
    | false =>
      simp only [if_false, Bool.false_eq_true]
      rw [compL_pureG hk g p f ds acc (fun x hx => hc x (List.mem_cons_of_mem _ hx)) (fun x hx => hm x (List.mem_cons_of_mem _ hx)) (by omega)]
      simp [e]
theorem compL_mapG {β : Type} {chk : Store → Prop} {i : Nat} {m : ME} {l : Loc} {S : Store} (g : β → D) (f : β → D) (bs : List β) (hm : ∀ b ∈ bs, m (l.set i (some (g b))) S = .ok (f b) S) (hz : bs.length ≤ sizeLine) (hk : chk S := by trivial) : compL chk (.one i) yesM m l (bs.map g) [] S = .ok (bs.map f) S := by
  rw [compL_pureG hk g (fun _ => true) f bs [] (fun _ _ => rfl) (fun d hd _ => hm d hd) (by simpa using hz), List.filter_eq_self.mpr (fun _ _ => rfl)]
  rfl
theorem compL_filG {β : Type} {chk : Store → Prop} {i : Nat} {c : MB} {m : ME} {l : Loc} {S : Store} (g : β → D) (p : β → Bool) (f : β → D) (bs : List β) (hc : ∀ b ∈ bs, c (l.set i (some (g b))) S = .ok (p b) S) (hm : ∀ b ∈ bs, p b = true → m (l.set i (some (g b))) S = .ok (f b) S) (hz : bs.length ≤ sizeLine) (hk : chk S := by trivial) :
    compL chk (.one i) c m l (bs.map g) [] S = .ok ((bs.filter p).map f) S := by
  rw [compL_pureG hk g p f bs [] hc hm (by simpa using hz)]
  rfl
theorem allL_map {β : Type} (p : β → Bool) (bs : List β) (S : Store) : allL (bs.map fun b => .bl (p b)) S = .ok (.bl (bs.all p)) S := by
  unfold allL
  rw [mapO_some (f := isBl) (g := fun b => .bl (p b)) (h := p) (fun _ => rfl)]
  simp
theorem anyL_map {β : Type} (p : β → Bool) (bs : List β) (S : Store) : anyL (bs.map fun b => .bl (p b)) S = .ok (.bl (bs.any p)) S := by
  unfold anyL
  rw [mapO_some (f := isBl) (g := fun b => .bl (p b)) (h := p) (fun _ => rfl)]
  simp
theorem sz : sizeLine = 16777216 := rfl
theorem lt1 (a b : Nat) : ([a] : List Nat) < [b] ↔ a < b := by simp [List.cons_lt_cons_iff]
/-- a run that ends well -/
def Ret {α : Type} (r : R α) (Q : α → Store → Prop) : Prop := match r with
  | .ok a S => Q a S
  | _ => False
@[simp] theorem Ret_ok {α : Type} (a : α) (S : Store) (Q : α → Store → Prop) : Ret (.ok a S) Q ↔ Q a S := Iff.rfl
theorem Ret_bind {α β : Type} (r : R α) (f : α → Store → R β) (Q : β → Store → Prop) : Ret (r.bind f) Q ↔ Ret r fun a S => Ret (f a S) Q := by cases r <;> exact Iff.rfl
theorem Ret.imp {α : Type} {r : R α} {Q Q' : α → Store → Prop} (h : Ret r Q) (i : ∀ a S, Q a S → Q' a S) : Ret r Q' := by
  cases r with
  | ok a S => exact i a S h
  | ex x S => exact h
  | bad => exact h
theorem Ret.of {α : Type} {r : R α} {Q : α → Store → Prop} (h : Ret r Q) : ∃ a S, r = .ok a S ∧ Q a S := by
  cases r with
  | ok a S => exact ⟨a, S, rfl, h⟩
  | ex x S => exact h.elim
  | bad => exact h.elim
theorem Ret.bind {α β : Type} {r : R α} {f : α → Store → R β} {Q : β → Store → Prop} (h : Ret r fun a S => Ret (f a S) Q) : Ret (r.bind f) Q := (Ret_bind r f Q).mpr h
/-- a for loop with an invariant over the number of turns -/
theorem forL_inv {chk : Store → Prop} {t : MT} {b : MS} {Q : Fl × Loc → Store → Prop} (I : Nat → Loc → Store → Prop) {ds : List D} (hc : ∀ k l S, I k l S → chk S)
    (hs : ∀ k d l S, I k l S → ds[k]? = some d → Ret (t d l S) fun l1 S1 => Ret (b l1 S1) fun p S2 => match p.1 with
      | .nx => I (k + 1) p.2 S2
      | .ct => I (k + 1) p.2 S2
      | .bk => Q (.nx, p.2) S2
      | .rt _ => Q p S2) (he : ∀ l S, I ds.length l S → Q (.nx, l) S) :
    ∀ (j k : Nat) (l : Loc) (S : Store), j = ds.length - k → k ≤ ds.length → I k l S → Ret (forL chk t b (ds.drop k) l S) Q
  | 0, k, l, S, e, hk, h => by
    have : k = ds.length := by omega
    subst this
    rw [List.drop_length]
    unfold forL
    rw [if_pos (hc _ _ _ h)]
    exact he l S h
  | j + 1, k, l, S, e, hk, h => by
    have hk : k < ds.length := by omega
    rw [List.drop_eq_getElem_cons hk]
    unfold forL
    rw [if_pos (hc _ _ _ h)]
    have h1 := hs k ds[k] l S h (List.getElem?_eq_getElem hk)
    refine (h1.imp fun l1 S1 h => ?_).bind
    refine (h.imp fun p S2 h => ?_).bind
    obtain ⟨fl, l2⟩ := p
    cases fl with
    | nx => exact forL_inv I hc hs he j (k + 1) l2 S2 (by omega) (by omega) h
    | ct => exact forL_inv I hc hs he j (k + 1) l2 S2 (by omega) (by omega) h
    | bk => exact h
    | rt d => exact h
/-! ### equality is equality of data -/
mutual
theorem toPy_dep {S : Store} : ∀ (k : Nat) (d : D) (p : PyData), toPy S k d = some p → p.depth ≤ k
  | k, .non, p, h => by
    unfold toPy at h
    cases h
    exact by simp [PyData.depth]
  | k, .bl b, p, h => by
    unfold toPy at h
    cases h
    exact by simp [PyData.depth]
  | k, .int b, p, h => by
    unfold toPy at h
    cases h
    exact by simp [PyData.depth]
  | k, .str b, p, h => by
    unfold toPy at h
    cases h
    exact by simp [PyData.depth]
  | k, .exn b, p, h => by
    unfold toPy at h
    cases h
  | k, .exf _ _ _, p, h => by
    unfold toPy at h
    cases h
  | 0, .tup xs, p, h => by simp [toPy] at h
  | 0, .lis xs, p, h => by simp [toPy] at h
  | 0, .ref n, p, h => by simp [toPy] at h
  | k + 1, .tup xs, p, h => by
    have h : (mapO (toPy S k) xs).map PyData.tuple = some p := h
    cases e : mapO (toPy S k) xs with
    | none => rw [e] at h; simp at h
    | some q =>
      rw [e] at h
      cases h
      have := toPys_dep k xs q e
      exact by simp [PyData.depth]; omega
  | k + 1, .lis xs, p, h => by
    have h : (mapO (toPy S k) xs).map PyData.list = some p := h
    cases e : mapO (toPy S k) xs with
    | none => rw [e] at h; simp at h
    | some q =>
      rw [e] at h
      cases h
      have := toPys_dep k xs q e
      exact by simp [PyData.depth]; omega
  | k + 1, .ref n, p, h => by
    unfold toPy at h
    cases e1 : lstAt S n with
    | none => simp [e1] at h
    | some xs =>
      simp only [e1] at h
      cases e : mapO (toPy S k) xs with
      | none => simp [e] at h
      | some q =>
        rw [e] at h
        cases h
        have := toPys_dep k xs q e
        exact by simp [PyData.depth]; omega
theorem toPys_dep {S : Store} (k : Nat) : ∀ (xs : List D) (ps : List PyData), mapO (toPy S k) xs = some ps → PyData.depthAll ps ≤ k
  | [], ps, h => by
    unfold mapO at h
    cases h
    exact by simp [PyData.depthAll]
  | x :: xs, ps, h => by
    unfold mapO at h
    cases e1 : toPy S k x with
    | none => simp [e1] at h
    | some p =>
      cases e2 : mapO (toPy S k) xs with
      | none => simp [e1, e2] at h
      | some q =>
        simp [e1, e2] at h
        cases h
        have h1 := toPy_dep k x p e1
        have h2 := toPys_dep k xs q e2
        exact by simp [PyData.depthAll]; omega
end
theorem toPy_shaped {S : Store} {d : D} {p : PyData} (h : toPy S 64 d = some p) (c : p.canLay0 = true) : SeqAt.shaped p = true := by
  have := toPy_dep 64 d p h
  show (p.canLay0 && decide (p.depth ≤ 64)) = true
  rw [c, decide_eq_true this]
  rfl
theorem eqPy_of {S : Store} {d e : D} {p q : PyData} (h1 : toPy S 64 d = some p) (h2 : toPy S 64 e = some q) (c1 : p.canLay0 = true) (c2 : q.canLay0 = true) : eqPy S d e = some (PyData.eqv p q) := by
  unfold eqPy
  simp only [h1, h2]
  rw [if_pos ⟨toPy_shaped h1 c1, toPy_shaped h2 c2⟩]
theorem eqO_of {S : Store} {d e : D} {p q : PyData} (h1 : toPy S 64 d = some p) (h2 : toPy S 64 e = some q) (c1 : p.canLay0 = true) (c2 : q.canLay0 = true) : eqO S d e = some (PyData.eqv p q) := by
  unfold eqO
  split
  · simp only [toPy] at h1 h2
    cases h1
    cases h2
    simp [PyData.eqv]
    rfl
  · simp only [toPy] at h1 h2; cases h1; cases h2; rfl
  · simp only [toPy] at h1 h2; cases h1; cases h2; rfl
  · simp only [toPy] at h1 h2; cases h1; cases h2; rfl
  · simp only [toPy] at h1 h2; cases h1; cases h2; rfl
  · simp only [toPy] at h1 h2; cases h1; cases h2; rfl
  · simp only [toPy] at h1 h2; cases h1; cases h2; rfl
  · exact eqPy_of h1 h2 c1 c2
theorem eqD_of {S : Store} {d e : D} {p q : PyData} (h1 : toPy S 64 d = some p) (h2 : toPy S 64 e = some q) (c1 : p.canLay0 = true) (c2 : q.canLay0 = true) : eqD d e S = .ok (PyData.eqv p q) S := by
  unfold eqD
  simp only [eqO_of h1 h2 c1 c2]
theorem neD_of {S : Store} {d e : D} {p q : PyData} (h1 : toPy S 64 d = some p) (h2 : toPy S 64 e = some q) (c1 : p.canLay0 = true) (c2 : q.canLay0 = true) : neD d e S = .ok (!PyData.eqv p q) S := by
  unfold neD
  simp only [eqO_of h1 h2 c1 c2]
theorem eqLs_of {S : Store} {xs ys : List D} {ps qs : List PyData} (h1 : mapO (toPy S 63) xs = some ps) (h2 : mapO (toPy S 63) ys = some qs) (c1 : PyData.canLayAll0 ps = true) (c2 : PyData.canLayAll0 qs = true) : eqLs S xs ys = some (PyData.eqvAll ps qs) := by
  have a1 := toPys_dep 63 xs ps h1
  have a2 := toPys_dep 63 ys qs h2
  unfold eqLs
  simp only [h1, h2]
  rw [if_pos]
  · rw [PyData.eqv]
  · constructor
    · show (PyData.canLay0 (.list ps) && decide (PyData.depth (.list ps) ≤ 64)) = true
      simp [PyData.canLay0, PyData.depth, c1]
      omega
    · show (PyData.canLay0 (.list qs) && decide (PyData.depth (.list qs) ≤ 64)) = true
      simp [PyData.canLay0, PyData.depth, c2]
      omega
@[simp] theorem toPy_non (S : Store) (k : Nat) : toPy S k .non = some .none := by unfold toPy; cases k <;> rfl
@[simp] theorem toPy_bl (S : Store) (k : Nat) (b : Bool) : toPy S k (.bl b) = some (.bool b) := by unfold toPy; cases k <;> rfl
@[simp] theorem toPy_int (S : Store) (k : Nat) (i : Int) : toPy S k (.int i) = some (.int i) := by unfold toPy; cases k <;> rfl
@[simp] theorem toPy_str (S : Store) (k : Nat) (x : Str) : toPy S k (.str x) = some (.str x) := by unfold toPy; cases k <;> rfl
@[simp] theorem toPy_exn (S : Store) (k : Nat) (a : Addr) : toPy S k (.exn a) = none := by unfold toPy; cases k <;> rfl
@[simp] theorem toPy_sgn (S : Store) (k : Nat) (c : Nat) : toPy S k (sgn c) = some (.str ⟨#[c]⟩) := toPy_str S k _
@[simp] theorem toPy_tup (S : Store) (k : Nat) (xs : List D) : toPy S (k + 1) (.tup xs) = (mapO (toPy S k) xs).map .tuple := (rfl)
@[simp] theorem toPy_lis (S : Store) (k : Nat) (xs : List D) : toPy S (k + 1) (.lis xs) = (mapO (toPy S k) xs).map .list := (rfl)
theorem toPy_ref {S : Store} {n : Nat} {xs : List D} (h : S[n]? = some (.lst xs)) (k : Nat) : toPy S (k + 1) (.ref n) = (mapO (toPy S k) xs).map .list := by
  conv => lhs; unfold toPy
  simp only [lstAt_of h]
@[simp] theorem mapO_nil {α β : Type} (f : α → Option β) : mapO f [] = some [] := (rfl)
@[simp] theorem mapO_cons {α β : Type} (f : α → Option β) (x : α) (xs : List α) : mapO f (x :: xs) = match f x, mapO f xs with
  | some y, some ys => some (y :: ys)
  | _, _ => none := (rfl)
theorem eqvAll_nil (ps : List PyData) : PyData.eqvAll ps [] = ps.isEmpty := by cases ps <;> simp [PyData.eqvAll]
/-- loops -/
theorem forS_inv {chk : Store → Prop} {t : MT} {b : MS} {Q : Fl × Loc → Store → Prop} (I : Nat → Loc → Store → Prop) {ds : List D} {l : Loc} {S : Store} (h0 : I 0 l S) (hc : ∀ k l S, I k l S → chk S)
    (hs : ∀ k d l S, I k l S → ds[k]? = some d → Ret (t d l S) fun l1 S1 => Ret (b l1 S1) fun p S2 => match p.1 with
      | .nx => I (k + 1) p.2 S2
      | .ct => I (k + 1) p.2 S2
      | .bk => Q (.nx, p.2) S2
      | .rt _ => Q p S2) (he : ∀ l S, I ds.length l S → Q (.nx, l) S) : Ret (forL chk t b ds l S) Q := by
  have := forL_inv I hc hs he ds.length 0 l S (by omega) (by omega) h0
  rwa [List.drop_zero] at this
@[simp] theorem ofString_inj (a b : String) : Str.ofString a = Str.ofString b ↔ a = b := by
  refine ⟨fun h => ?_, fun h => by rw [h]⟩
  have := congrArg cs h
  rw [cs_of, cs_of] at this
  have inj : ∀ l m : List Char, l.map Char.toNat = m.map Char.toNat → l = m := by
    intro l
    induction l with
    | nil => intro m h; cases m with
      | nil => rfl
      | cons c m => simp at h
    | cons a l ih => intro m h; cases m with
      | nil => simp at h
      | cons c m =>
        simp at h
        rw [Char.toNat_inj.mp h.1, ih m h.2]
  exact String.toList_inj.mp (inj _ _ this)
theorem x_ix (d e : D) (S : Store) : ixD d e S = match ixO S d e with
  | some x => .ok x S
  | none => .bad := (rfl)
theorem x_ixD {d e x : D} {S : Store} (h : ixO S d e = some x) : ixD d e S = .ok x S := by unfold ixD; rw [h]
@[simp] theorem x_eqI (i j : Int) (S : Store) : eqD (.int i) (.int j) S = .ok (decide (i = j)) S := by
  rw [eqD_of (p := .int i) (q := .int j) rfl rfl rfl rfl]
  simp [PyData.eqv]
  rfl
@[simp] theorem x_neI (i j : Int) (S : Store) : neD (.int i) (.int j) S = .ok (!decide (i = j)) S := by
  rw [neD_of (p := .int i) (q := .int j) rfl rfl rfl rfl]
  simp [PyData.eqv]
  rfl
@[simp] theorem x_slT (z : Str) (lo hi : Option Int) (S : Store) : sliceD (.str z) lo hi S = if z.length ≤ sizeLine then .ok (.str (cutS z lo hi)) S else .bad := (rfl)
theorem cs_cut {z : Str} {lo hi : Option Int} {c : Nat} (h : c ∈ cs (cutS z lo hi)) : c ∈ cs z := by
  have h : c ∈ ((cs z).drop (HT.sIx z.length 0 lo)).take (HT.sIx z.length z.length hi - HT.sIx z.length 0 lo) := h
  exact List.mem_of_mem_drop (List.mem_of_mem_take h)
theorem joinL_one : ∀ l : List Nat, TL.joinL [] (l.map fun c => [c]) = l
  | [] => rfl
  | [c] => rfl
  | c :: d :: l => by
    have := joinL_one (d :: l)
    simp only [List.map_cons] at this ⊢
    unfold TL.joinL
    rw [this]
    rfl
theorem cs_join1 (l : List Nat) : cs (Str.join (Str.ofString "") (l.map fun c => (⟨#[c]⟩ : Str))) = l := by
  rw [cs_join, cs_of, List.map_map]
  exact joinL_one l
theorem strO_sgns (l : List Nat) : mapO strO (l.map sgn) = some (l.map fun c => (⟨#[c]⟩ : Str)) := mapO_some (f := strO) (g := sgn) (h := fun c => (⟨#[c]⟩ : Str)) (fun _ => rfl) l
theorem sum_ones (l : List Nat) : ((l.map fun c => (⟨#[c]⟩ : Str)).map (·.length)).sum = l.length := by
  induction l with
  | nil => rfl
  | cons c l ih =>
    simp only [List.map_cons, List.sum_cons, ih, List.length_cons]
    have : (⟨#[c]⟩ : Str).length = 1 := rfl
    omega
/-- ''.join of signs -/
theorem joinN_signs {m : MA} {l : Loc} {S S1 : Store} {ks : List Nat} (h : m l S = .ok (ks.map sgn) S1) (hz : ks.length ≤ 16777216) : ∃ x, joinN (conE (.str (Str.ofString ""))) m l S = .ok (.str x) S1 ∧ cs x = ks := by
  refine ⟨Str.join (Str.ofString "") (ks.map fun c => (⟨#[c]⟩ : Str)), ?_, cs_join1 ks⟩
  have e : (Str.ofString "").length = 0 := rfl
  simp only [x_joinN, x_con, R.bind_ok, h, x_strO, strO_sgns, sum_ones, e, Nat.mul_zero, Nat.add_zero]
  rw [if_pos hz]
@[simp] theorem len_app (x y : Str) : (x ++ y).length = x.length + y.length := by rw [← cs_len, cs_app, List.length_append, cs_len, cs_len]
theorem len_of (s : String) : (Str.ofString s).length = s.toList.length := by rw [← cs_len, cs_of, List.length_map]
theorem atI_mem {α : Type} {xs : List α} {i : Int} (h0 : 0 ≤ i) (h1 : i < xs.length) : ∃ u ∈ xs, atI xs i = some u := by
  obtain ⟨k, rfl⟩ : ∃ k : Nat, i = k := ⟨i.toNat, by omega⟩
  have hk : k < xs.length := by omega
  exact ⟨xs[k], List.getElem_mem hk, L2.atI_nat (List.getElem?_eq_getElem hk)⟩
@[simp] theorem x_rng1 {j : Int} {S : Store} (h1 : -4611686018427387904 ≤ j) (h2 : j < 4611686018427387904) : rng1 [.int j] S = .ok (intsFrom 0 j.toNat, still) S := if_pos ⟨by omega, by omega⟩
@[simp] theorem x_rng2 {i j : Int} {S : Store} (h3 : -4611686018427387904 ≤ i) (h4 : i < 4611686018427387904) (h1 : -4611686018427387904 ≤ j) (h2 : j < 4611686018427387904) : rng2 [.int i, .int j] S = .ok (intsFrom i (j - i).toNat, still) S := if_pos ⟨by omega, by omega, by omega, by omega⟩
theorem ints_at {lo : Int} {n k : Nat} {d : D} (h : (intsFrom lo n)[k]? = some d) : k < n ∧ d = .int (lo + (k : Nat)) := by
  unfold intsFrom at h
  have hk := (List.getElem?_eq_some_iff.mp h).1
  rw [List.length_map, List.length_range] at hk
  rw [List.getElem?_map, List.getElem?_range hk] at h
  cases h
  exact ⟨hk, rfl⟩
@[simp] theorem x_newC (c : Cell) (S : Store) : newC c S = .ok (.ref S.length) (S ++ [c]) := (rfl)
theorem x_addR {S : Store} {n m : Nat} {xs ys : List D} (h1 : S[n]? = some (.lst xs)) (h2 : S[m]? = some (.lst ys)) (h : xs.length + ys.length ≤ 16777216) : addD (.ref n) (.ref m) S = .ok (.ref S.length) (S ++ [.lst (xs ++ ys)]) := by
  unfold addD
  simp only [lstAt_of h1, lstAt_of h2]
  rw [if_pos (show _ ≤ sizeLine from h)]
  rfl
theorem x_srcR {S : Store} {n : Nat} {xs : List D} (h : S[n]? = some (.lst xs)) : srcD (.ref n) S = .ok (xs, fun S' => lstAt S' n = some xs) S := by
  unfold srcD
  simp only [lstAt_of h]
theorem at_app {S T : Store} {n : Nat} {c : Cell} (h : S[n]? = some c) : (S ++ T)[n]? = some c := by
  rw [List.getElem?_append_left (List.getElem?_eq_some_iff.mp h).1]
  exact h
theorem at_end {S : Store} {c : Cell} : (S ++ [c])[S.length]? = some c := by simp
/-- the text of a number -/
theorem num_text (n : Int) (h0 : 0 ≤ n) (k : Nat) (hk : 0 < k) (h1 : n < 10 ^ k) : ∃ x : Str, Str.ofString (toString n) = x ∧ x.length ≤ k ∧ ∀ c ∈ cs x, 48 ≤ c ∧ c ≤ 57 := by
  obtain ⟨m, rfl⟩ : ∃ m : Nat, n = m := ⟨n.toNat, by omega⟩
  have hm : m < 10 ^ k := by exact_mod_cast h1
  refine ⟨_, rfl, ?_, ?_⟩
  · rw [← cs_len, cs, TL.tl_num]
    exact TL.numL_len hk hm
  · rw [cs, TL.tl_num]
    exact TL.numL_digits m
end ML

set_option Elab.async false
set_option linter.all false
set_option maxRecDepth 100000
set_option autoImplicit false
/-! ML13: more reckoning. -/
namespace ML
open PySem PySem.Spec L2

/-- a text of signs -/
def mkS (w : List Nat) : Str := ⟨w.toArray⟩
@[simp] theorem cs_mkS (w : List Nat) : cs (mkS w) = w := by
  show w.toArray.toList = w
  simp
theorem mkS_cs (x : Str) : mkS (cs x) = x := cs_ext (cs_mkS _)
@[simp] theorem mkS_len (w : List Nat) : (mkS w).length = w.length := by rw [← cs_len, cs_mkS]
theorem mkS_of (s : String) : Str.ofString s = mkS (s.toList.map Char.toNat) := cs_ext (by rw [cs_of, cs_mkS])
theorem mkS_inj {a b : List Nat} : mkS a = mkS b ↔ a = b := ⟨fun h => by have := congrArg cs h; rwa [cs_mkS, cs_mkS] at this, fun h => by rw [h]⟩
theorem mkS_app (a b : List Nat) : mkS a ++ mkS b = mkS (a ++ b) := cs_ext (by rw [cs_app, cs_mkS, cs_mkS, cs_mkS])
theorem sgn_mk (c : Nat) : sgn c = .str (mkS [c]) := rfl
theorem x_neG (c : Nat) (y : Str) (S : Store) : neD (sgn c) (.str y) S = .ok (!decide ([c] = cs y)) S := by
  rw [sgn_mk, x_neT]
  congr 2
  refine decide_eq_decide.mpr ⟨fun h => ?_, fun h => cs_ext ?_⟩
  · rw [← h, cs_mkS]
  · rw [cs_mkS]; exact h
@[simp] theorem x_ordG (c : Nat) (S : Store) : ordV [sgn c] S = .ok (.int c) S := (rfl)
@[simp] theorem lstAt_end (T : Store) (xs : List D) : lstAt (T ++ [.lst xs]) T.length = some xs := lstAt_of (by simp)
@[simp] theorem set_end (T : Store) (c d : Cell) : (T ++ [c]).set T.length d = T ++ [d] := by
  rw [List.set_append_right _ _ (Nat.le_refl _)]
  simp
theorem x_append {S : Store} {n : Nat} {xs : List D} {d : D} (h : lstAt S n = some xs) (hz : xs.length < 16777216) : appendM (.ref n) [d] S = .ok .non (S.set n (.lst (xs ++ [d]))) := by
  unfold appendM
  simp only [h]
  exact if_pos hz
@[simp] theorem x_lstOfR (S : Store) (n : Nat) : lstOf S (.ref n) = lstAt S n := (rfl)
theorem sIx_of {n d : Nat} {k : Nat} : HT.sIx n d (some (k : Int)) = min k n := HT.sIx_nat n d k
theorem cs_take (z : Str) (k : Nat) : cs (cutS z none (some (k : Int))) = (cs z).take k := by
  have h : cs (cutS z none (some (k : Int))) = ((cs z).drop (HT.sIx z.length 0 none)).take (HT.sIx z.length z.length (some (k : Int)) - HT.sIx z.length 0 none) := rfl
  rw [h, sIx_of, HT.sIx_none, List.drop_zero, Nat.sub_zero, ← cs_len, ← List.take_take, List.take_length]
theorem cs_drop (z : Str) (k : Nat) : cs (cutS z (some (k : Int)) none) = (cs z).drop k := by
  have h : cs (cutS z (some (k : Int)) none) = ((cs z).drop (HT.sIx z.length 0 (some (k : Int)))).take (HT.sIx z.length z.length none - HT.sIx z.length 0 (some (k : Int))) := rfl
  rw [h, sIx_of, HT.sIx_none, ← cs_len, List.take_of_length_le (by rw [List.length_drop]; exact Nat.le_refl _)]
  by_cases q : k ≤ (cs z).length
  · rw [Nat.min_eq_left q]
  · rw [Nat.min_eq_right (by omega), List.drop_length, List.drop_of_length_le (by omega)]
theorem cutD_take (xs : List D) (k : Nat) : cutD xs none (some (k : Int)) = xs.take k := by
  unfold cutD
  rw [sIx_of, HT.sIx_none, List.drop_zero, Nat.sub_zero, ← List.take_take, List.take_length]
theorem cutD_drop (xs : List D) (k : Nat) : cutD xs (some (k : Int)) none = xs.drop k := by
  unfold cutD
  rw [sIx_of, HT.sIx_none, List.take_of_length_le (by rw [List.length_drop]; exact Nat.le_refl _)]
  by_cases q : k ≤ xs.length
  · rw [Nat.min_eq_left q]
  · rw [Nat.min_eq_right (by omega), List.drop_length, List.drop_of_length_le (by omega)]
/-- texts as things -/
def strD (w : List Nat) : D := .str (mkS w)
def okT (w : List Nat) : Prop := ∀ c ∈ w, c < 1114112
theorem lay_str {w : List Nat} (h : okT w) : (PyData.str (mkS w)).canLay0 = true := by
  simp only [PyData.canLay0, PyData.strOk, mkS]
  simpa [okT] using h
theorem lay_strs : ∀ {ws : List (List Nat)}, (∀ w ∈ ws, okT w) → PyData.canLayAll0 (ws.map fun w => PyData.str (mkS w)) = true
  | [], _ => rfl
  | w :: ws, h => by
    rw [List.map_cons, PyData.canLayAll0, lay_str (h w List.mem_cons_self), lay_strs fun v hv => h v (List.mem_cons_of_mem _ hv)]
    rfl
theorem eqv_strs : ∀ (ws vs : List (List Nat)), PyData.eqvAll (ws.map fun w => PyData.str (mkS w)) (vs.map fun w => PyData.str (mkS w)) = decide (ws = vs)
  | [], [] => by simp [PyData.eqvAll]
  | [], v :: vs => by simp [PyData.eqvAll]
  | w :: ws, [] => by simp [PyData.eqvAll]
  | w :: ws, v :: vs => by
    have e : (mkS w == mkS v) = decide (w = v) := by
      by_cases q : w = v
      · subst q; simp
      · rw [decide_eq_false q]
        exact beq_eq_false_iff_ne.mpr fun z => q (mkS_inj.mp z)
    simp [PyData.eqvAll, PyData.eqv, eqv_strs ws vs, e]
theorem toPy_strs {S : Store} {n : Nat} {ws : List (List Nat)} (h : S[n]? = some (.lst (ws.map strD))) (k : Nat) : toPy S (k + 1) (.ref n) = some (.list (ws.map fun w => PyData.str (mkS w))) := by
  rw [toPy_ref h, mapO_some (f := toPy S k) (g := strD) (h := fun w => PyData.str (mkS w)) (fun w => toPy_str S k _)]
  rfl
theorem x_eqStrs {S : Store} {n m : Nat} {ws vs : List (List Nat)} (h1 : S[n]? = some (.lst (ws.map strD))) (h2 : S[m]? = some (.lst (vs.map strD))) (k1 : ∀ w ∈ ws, okT w) (k2 : ∀ w ∈ vs, okT w) : eqD (.ref n) (.ref m) S = .ok (decide (ws = vs)) S := by
  rw [eqD_of (toPy_strs h1 63) (toPy_strs h2 63) (by rw [PyData.canLay0]; exact lay_strs k1) (by rw [PyData.canLay0]; exact lay_strs k2), PyData.eqv, eqv_strs]
theorem x_neStrs {S : Store} {n m : Nat} {ws vs : List (List Nat)} (h1 : S[n]? = some (.lst (ws.map strD))) (h2 : S[m]? = some (.lst (vs.map strD))) (k1 : ∀ w ∈ ws, okT w) (k2 : ∀ w ∈ vs, okT w) : neD (.ref n) (.ref m) S = .ok (!decide (ws = vs)) S := by
  rw [neD_of (toPy_strs h1 63) (toPy_strs h2 63) (by rw [PyData.canLay0]; exact lay_strs k1) (by rw [PyData.canLay0]; exact lay_strs k2), PyData.eqv, eqv_strs]
theorem strD_one (c : Nat) : strD [c] = sgn c := rfl
theorem strD_nil : D.str (Str.ofString "") = strD [] := congrArg D.str (mkS_of "")
theorem x_neD (w : List Nat) (y : Str) (S : Store) : neD (strD w) (.str y) S = .ok (!decide (w = cs y)) S := by
  show neD (.str (mkS w)) (.str y) S = _
  rw [x_neT]
  congr 2
  exact decide_eq_decide.mpr ⟨fun h => by rw [← h, cs_mkS], fun h => cs_ext (by rw [cs_mkS]; exact h)⟩
theorem x_neDD (w v : List Nat) (S : Store) : neD (strD w) (strD v) S = .ok (!decide (w = v)) S := by
  have := x_neD w (mkS v) S
  rwa [cs_mkS] at this
theorem x_addDG (w : List Nat) (c : Nat) (S : Store) : addD (strD w) (sgn c) S = if w.length + 1 ≤ sizeLine then .ok (strD (w ++ [c])) S else .bad := by
  show addD (.str (mkS w)) (.str (mkS [c])) S = _
  rw [x_addT, mkS_app, mkS_len, mkS_len]
  rfl
theorem x_addDD (w v : List Nat) (S : Store) : addD (strD w) (strD v) S = if w.length + v.length ≤ sizeLine then .ok (strD (w ++ v)) S else .bad := by
  show addD (.str (mkS w)) (.str (mkS v)) S = _
  rw [x_addT, mkS_app, mkS_len, mkS_len]
  rfl
theorem x_lenD {w : List Nat} {S : Store} (h : w.length ≤ 16777216) : lenV [strD w] S = .ok (.int w.length) S := by
  show lenV [.str (mkS w)] S = _
  rw [x_lenT, mkS_len, if_pos (show _ ≤ sizeLine from h)]
theorem x_slTake {w : List Nat} {k : Nat} {S : Store} (h : w.length ≤ 16777216) : sliceD (strD w) none (some (k : Int)) S = .ok (strD (w.take k)) S := by
  show sliceD (.str (mkS w)) none (some (k : Int)) S = _
  rw [x_slT, mkS_len, if_pos (show _ ≤ sizeLine from h)]
  have e : cutS (mkS w) none (some (k : Int)) = mkS (w.take k) := cs_ext (by rw [cs_take, cs_mkS, cs_mkS])
  rw [e]
  rfl
theorem x_slDrop {w : List Nat} {k : Nat} {S : Store} (h : w.length ≤ 16777216) : sliceD (strD w) (some (k : Int)) none S = .ok (strD (w.drop k)) S := by
  show sliceD (.str (mkS w)) (some (k : Int)) none S = _
  rw [x_slT, mkS_len, if_pos (show _ ≤ sizeLine from h)]
  have e : cutS (mkS w) (some (k : Int)) none = mkS (w.drop k) := cs_ext (by rw [cs_drop, cs_mkS, cs_mkS])
  rw [e]
  rfl
theorem x_slR {S : Store} {n k : Nat} {xs : List D} (h : lstAt S n = some xs) : sliceD (.ref n) none (some (k : Int)) S = .ok (.ref S.length) (S ++ [.lst (xs.take k)]) := by
  unfold sliceD
  simp only [x_lstOfR, h, cutD_take]
  rfl
theorem x_slRD {S : Store} {n k : Nat} {xs : List D} (h : lstAt S n = some xs) : sliceD (.ref n) (some (k : Int)) none S = .ok (.ref S.length) (S ++ [.lst (xs.drop k)]) := by
  unfold sliceD
  simp only [x_lstOfR, h, cutD_drop]
  rfl
/-- a try that catches -/
theorem catch_ok {hit : Nat → Option Bool} {i : Nat} {mb : MS} {mh : Addr → Exn → MS} {l : Loc} {S S1 : Store} {p : Fl × Loc} (h : mb l S = .ok p S1) : catchS hit i mb mh l S = .ok p S1 := by
  unfold catchS
  rw [h]
theorem catch_ex {hit : Nat → Option Bool} {i : Nat} {mb : MS} {mh : Addr → Exn → MS} {l : Loc} {S S1 : Store} {x : Exn} {r : R (Fl × Loc)} (h : mb l S = .ex x S1) (hh : hit x.c = some true) (hr : ∀ a, (goneS i (mh a x (l.set i (some (.exn a))) S1)).noex = r) : catchS hit i mb mh l S = r := by
  unfold catchS
  rw [h]
  simp only [hh]
  exact same_of hr
@[simp] theorem x_raiseS (k : Nat) (l : Loc) (S : Store) : raiseS k l S = .ex ⟨k, []⟩ S := (rfl)
@[simp] theorem x_goneOk (i : Nat) (p : Fl × Loc) (S : Store) : goneS i (.ok p S) = .ok (p.1, p.2.set i none) S := (rfl)
@[simp] theorem x_isX (t : Bool) (a : Addr) (m : ME) (l : Loc) (S : Store) : isX (some t) a m l S = (m l S).bind fun d S1 => match d with
    | .exn b => if b = a then .ok t S1 else .bad
    | _ => .bad := (rfl)
theorem x_rep {x : Str} {n : Int} {S : Store} (h : 2 ≤ n) (h1 : 0 < x.length) (h2 : n < 4294967296) (h3 : x.length * n.toNat ≤ 16777216) : mulD (.str x) (.int n) S = .ok (.str (repS x n.toNat)) S := by
  show (if n ≤ 0 ∧ -(2 ^ 63) ≤ n then R.ok (D.str Str.empty) S else if n = 1 then R.ok (D.str x) S else if 2 ≤ n ∧ 0 < x.length ∧ n < 2 ^ 32 ∧ x.length * n.toNat ≤ 16777216 then R.ok (D.str (repS x n.toNat)) S else .bad) = _
  rw [if_neg (by omega), if_neg (by omega), if_pos ⟨h, h1, by omega, h3⟩]
theorem cs_rep (x : Str) (n : Nat) : cs (repS x n) = (List.replicate n (cs x)).flatten := rep_cs x n
theorem repS_D (x : Str) (n : Nat) : D.str (repS x n) = strD (List.replicate n (cs x)).flatten := by
  show _ = D.str (mkS _)
  rw [← cs_rep, mkS_cs]
end ML

set_option Elab.async false
set_option linter.all false
set_option maxRecDepth 100000
set_option autoImplicit false
/-! ML14: instances: made, asked, told. -/
namespace ML
open PySem PySem.Spec L2

/-- the turns that a while has -/
def FU : Nat := 1000000
structure MkM (P : Program) (w : World) (K : PySem.W.Frag) (mg : Str → Option Value) (base : Heap) (cA : Nat → Addr) (k : Nat) (x : Str) (c n : Nat) (G : List D → Store → R D) : Prop where
  ex : ∃ f fd ps, mg x = some (.ref (cA c)) ∧ Mk K (cA c) f ∧ Binds K fd ps [] ∧ FnOk P w K mg base (L2.CX P w) k f fd ps (spM K cA G n)
structure MtM (P : Program) (w : World) (K : PySem.W.Frag) (mg : Str → Option Value) (base : Heap) (cA : Nat → Addr) (k : Nat) (m : Str) (c n : Nat) (G : List D → Store → R D) : Prop where
  ex : ∃ f fd ps, Cls K (cA c) ∧ Meth K (cA c) m f ∧ Binds K fd ps [] ∧ FnOk P w K mg base (L2.CX P w) k f fd ps (spM K cA G n)
abbrev Tbl := List (Nat × (List D → Store → R D))
/-- the classes that have the method -/
def MtL (P : Program) (w : World) (K : PySem.W.Frag) (mg : Str → Option Value) (base : Heap) (cA : Nat → Addr) (j : Nat) (m : Str) (n : Nat) : Tbl → Prop
  | [] => True
  | p :: r => (∃ k, k ≤ j ∧ MtM P w K mg base cA k m p.1 n p.2) ∧ MtL P w K mg base cA j m n r
def ClsL (K : PySem.W.Frag) (cA : Nat → Addr) (f : Str) : List Nat → Prop
  | [] => True
  | c :: r => (Cls K (cA c) ∧ NoAttr K (cA c) f) ∧ ClsL K cA f r
theorem ClsL.all {K : PySem.W.Frag} {cA : Nat → Addr} {f : Str} : ∀ {cs : List Nat}, ClsL K cA f cs → ∀ c ∈ cs, Cls K (cA c) ∧ NoAttr K (cA c) f
  | d :: r, h, c, hc => by
    rcases List.mem_cons.mp hc with e | e
    · subst e; exact h.1
    · exact ClsL.all h.2 c e
def makeE (c n : Nat) (G : List D → Store → R D) (m : MA) : ME := fun l S => (m l S).bind fun ds S1 => if ds.length + 1 = n then (G (.ref S1.length :: ds) (S1 ++ [.ins c []])).bind fun d S2 => match d with
  | .non => .ok (.ref S1.length) S2
  | _ => .bad else .bad
def tblAt : Tbl → Nat → Option (List D → Store → R D)
  | [], _ => none
  | p :: r, c => if p.1 = c then some p.2 else tblAt r c
def methE (m : Str) (n : Nat) (tbl : Tbl) (o : ME) (a : MA) : ME := fun l S => (o l S).noex.bind fun d S1 => match d with
  | .ref i => match insAt S1 i with
    | some (c, fs) => if fs.lookup m = none then (match tblAt tbl c with
      | some G => (a l S1).bind fun ds S2 => if ds.length + 1 = n then G (d :: ds) S2 else .bad
      | none => .bad) else .bad
    | none => .bad
  | _ => .bad
section
variable {X : Cx} {cA : Nat → Addr} {W : XK} {p pos apos : Pos} {x m : Str} {e o : Expr} {es : List Expr} {mo : ME} {ma : MA} {k j n c : Nat} {G : List D → Store → R D} {tbl : Tbl}
theorem make_of {σ : L2.St} {H : Hp} {Q : VK} (h : tE X.K cA W (makeE c n G ma) σ H Q) : tMake (cA c) (spM X.K cA G n) [] W (tAs X.K cA W ma) σ H Q :=
  (bind1 (rep1 := rVs X.K) st_V h).imp fun vs H1 h => by
    obtain ⟨ρ, S, ds, hS, hr, h⟩ := h
    split at h
    · rename_i hn
      intro y dx hy hdx ne
      have E1 : Ext ρ H1 ρ (upd H1 dx (.own y)) := Ext.new hdx
      have hy2 : (upd H1 dx (.own y)) y = none := by rw [upd_ne (Ne.symm ne)]; exact hy
      have hS1 := hS.new (o := .own y) hdx
      have E2 : Ext ρ (upd H1 dx (.own y)) (ρ ++ [y]) (upd (upd H1 dx (.own y)) y (.ins (cA c) dx [])) := Ext.alloc hy2
      have hS2 : Reps X.K cA (ρ ++ [y]) (upd (upd H1 dx (.own y)) y (.ins (cA c) dx [])) (S ++ [.ins c []]) := (hS1.new hy2).push (hS1.free hy2) ⟨dx, [], upd_same, by unfold RepP; rfl⟩
      have hrp : (ρ ++ [y])[S.length]? = some y := by rw [← hS.len, List.getElem?_append_right (Nat.le_refl _)]; simp
      refine ⟨by rw [List.append_nil, List.length_cons, RepVs.length hr]; exact hn, ρ ++ [y], S ++ [.ins c []], .ref S.length :: ds, hS2, .cons ?_ ?_, (After.step (rep := rV X.K) h (E1.trans E2)).imp fun v H2 hq => ?_⟩
      · unfold RepV
        exact ⟨y, hrp, rfl⟩
      · rw [List.append_nil]
        exact (hr.ext E1).ext E2
      · obtain ⟨ρ3, S3, d, e3, hS3, hd, h⟩ := hq
        split at h
        · unfold rV RepV at hd
          refine ⟨hd, h ρ3 H2 _ ((E1.trans E2).trans e3) hS3 ?_⟩
          show RepV X.K ρ3 H2 (.ref S.length) (.ref y)
          unfold RepV
          obtain ⟨r, er, _⟩ := e3.pre
          refine ⟨y, ?_, rfl⟩
          rw [er, List.getElem?_append_left (List.getElem?_eq_some_iff.mp hrp).1]
          exact hrp
        · exact h.elim
    · exact h.elim
/-- C(e, ..) -/
theorem mmake (M : MkM X.prog X.w X.K X.mg X.base cA k x c n G) (hk : k + 1 ≤ j) (hr : Room j X.A) (hx : Passes (L2.CX X.prog X.w) X W) (hg : Gl X x) (ha : PA X (e :: es) (tAs X.K cA W ma)) (hdb : (x == ("__debug__" : Str)) = false := by decide)
    (he : starEach (e :: es) X.env = (false, eval e X.env) :: starEach es X.env := by rfl) (hpl : (backTo pos (starEach es X.env)).any (·.1) = false := by rfl) : PE X (.Call (.Name x p) (e :: es) [] pos) (tE X.K cA W (makeE c n G ma)) := by
  obtain ⟨f, fd, ps, hm, hM, hb, F⟩ := M.ex
  exact (pe_make hM F (hr.mono hk) hg hm hb .nil hx ha hdb he hpl).imp fun σ H Q h => make_of h
theorem mmake0 (M : MkM X.prog X.w X.K X.mg X.base cA k x c n G) (hk : k + 1 ≤ j) (hr : Room j X.A) (hx : Passes (L2.CX X.prog X.w) X W) (hg : Gl X x) (hdb : (x == ("__debug__" : Str)) = false := by decide) : PE X (.Call (.Name x p) [] [] pos) (tE X.K cA W (makeE c n G nilA)) := by
  obtain ⟨f, fd, ps, hm, hM, hb, F⟩ := M.ex
  refine (pe_make0 hM F (hr.mono hk) hg hm hb .nil hx hdb).imp fun σ H Q h => ?_
  have h' := make_of h
  obtain ⟨ρ, S, l, hS, hl, h2⟩ := h'
  exact After.same (rep := rVs X.K) (a := []) (b := []) h2 hS .nil
theorem tbl_of {P : Program} {w : World} {K : PySem.W.Frag} {mg : Str → Option Value} {base : Heap} : ∀ {tbl : Tbl} {c : Nat} {G : List D → Store → R D}, MtL P w K mg base cA j m n tbl → tblAt tbl c = some G → ∃ k, k ≤ j ∧ MtM P w K mg base cA k m c n G
  | [], c, G, _, e => nomatch e
  | q :: r, c, G, h, e => by
    unfold tblAt at e
    split at e
    · rename_i hc
      cases e
      subst hc
      exact h.1
    · exact tbl_of h.2 e
/-- o.m(e, ..) -/
theorem mmeth {pl : Sem Bool} (T : MtL X.prog X.w X.K X.mg X.base cA j m n tbl) (hr : Room j X.A) (hx : Passes (L2.CX X.prog X.w) X W) (ho : PE X o (tE X.K cA W mo)) (ha : PA X (e :: es) (tAs X.K cA W ma))
    (hst : starEach (e :: es) X.env = (false, eval e X.env) :: starEach es X.env := by rfl) (hpl : (backTo pos (starEach es X.env)).any (·.1) = false := by rfl)
    (ht : eval (.Call (.Attribute o m apos) (e :: es) [] pos) X.env = (do
      let ov ← eval o X.env
      standAt apos.atName
      let (f, first) ← holding [ov] (getMethod ov m pl)
      callWith pos f first (backTo pos (starEach (e :: es) X.env)) (backToKw pos (keywordEach [] X.env))) := by rfl) : PE X (.Call (.Attribute o m apos) (e :: es) [] pos) (tE X.K cA W (methE m n tbl mo ma)) := by
  refine ⟨fun pins s σ H Q I h => ?_⟩
  obtain ⟨ρ, S, l, hS, hl, h⟩ := h
  cases eo : mo l S with
  | ok d S1 =>
    unfold methE at h
    rw [eo] at h
    simp only [R.noex, R.bind_ok] at h
    split at h
    · rename_i i
      split at h
      · rename_i c fs ei
        split at h
        · rename_i hf
          split at h
          · rename_i G eG
            obtain ⟨k, hk, M⟩ := tbl_of T eG
            obtain ⟨f, fd, ps, hC, hM, hb, F⟩ := M.ex
            refine (pe_meth (pl := pl) ho hC hM F (hr.mono hk) hb .nil hx ha hst hpl ht).run pins s σ H Q I ⟨ρ, S, l, hS, hl, ?_⟩
            rw [eo]
            intro ρ1 H1 v e1 hS1 hv
            obtain ⟨a, dx, vs, rfl, _, h1, h2⟩ := rins_rep hS1 hv ei
            refine ⟨a, dx, vs, rfl, h1, fld_none h2 hf, ρ1, S1, l, hS1, hl.ext e1, (After.step (rep := rVs X.K) h e1).imp fun us H2 hq => ?_⟩
            obtain ⟨ρ2, S2, ds, e2, hS2, hr2, h⟩ := hq
            split at h
            · rename_i hn
              refine ⟨by rw [List.append_nil, List.length_cons, RepVs.length hr2]; exact hn, ρ2, S2, .ref i :: ds, hS2, .cons (hv.ext e2) (by rw [List.append_nil]; exact hr2), After.back st_V (e1.trans e2) h⟩
            · exact h.elim
          · exact h.elim
        · exact h.elim
      · exact h.elim
    · exact h.elim
  | ex z S1 =>
    unfold methE at h
    rw [eo] at h
    exact h.elim
  | bad =>
    unfold methE at h
    rw [eo] at h
    exact h.elim
/-- o.m() -/
theorem mmeth0 {pl : Sem Bool} (T : MtL X.prog X.w X.K X.mg X.base cA j m n tbl) (hr : Room j X.A) (hx : Passes (L2.CX X.prog X.w) X W) (ho : PE X o (tE X.K cA W mo))
    (ht : eval (.Call (.Attribute o m apos) [] [] pos) X.env = (do
      let ov ← eval o X.env
      standAt apos.atName
      let (f, first) ← holding [ov] (getMethod ov m pl)
      callWith pos f first (backTo pos (starEach [] X.env)) (backToKw pos (keywordEach [] X.env))) := by rfl) : PE X (.Call (.Attribute o m apos) [] [] pos) (tE X.K cA W (methE m n tbl mo nilA)) := by
  refine ⟨fun pins s σ H Q I h => ?_⟩
  obtain ⟨ρ, S, l, hS, hl, h⟩ := h
  cases eo : mo l S with
  | ok d S1 =>
    unfold methE at h
    rw [eo] at h
    simp only [R.noex, R.bind_ok] at h
    split at h
    · rename_i i
      split at h
      · rename_i c fs ei
        split at h
        · rename_i hf
          split at h
          · rename_i G eG
            obtain ⟨k, hk, M⟩ := tbl_of T eG
            obtain ⟨f, fd, ps, hC, hM, hb, F⟩ := M.ex
            refine (pe_meth0 (pl := pl) ho hC hM F (hr.mono hk) hb .nil hx ht).run pins s σ H Q I ⟨ρ, S, l, hS, hl, ?_⟩
            rw [eo]
            intro ρ1 H1 v e1 hS1 hv
            obtain ⟨a, dx, vs, rfl, _, h1, h2⟩ := rins_rep hS1 hv ei
            refine ⟨a, dx, vs, rfl, h1, fld_none h2 hf, ?_⟩
            have h : After X.K cA W ρ H (rV X.K) (if ([] : List D).length + 1 = n then G [.ref i] S1 else .bad) Q := h
            split at h
            · rename_i hn
              exact ⟨hn, ρ1, S1, [.ref i], hS1, .cons hv .nil, After.back st_V e1 h⟩
            · exact h.elim
          · exact h.elim
        · exact h.elim
      · exact h.elim
    · exact h.elim
  | ex z S1 =>
    unfold methE at h
    rw [eo] at h
    exact h.elim
  | bad =>
    unfold methE at h
    rw [eo] at h
    exact h.elim
end
end ML

set_option Elab.async false
set_option linter.all false
set_option maxRecDepth 100000
set_option autoImplicit false
/-! ML15: what is reached from numbers, by any order of walking; loops. -/
namespace ML
open PySem PySem.Spec L2

inductive Reach (succ : Nat → List Nat) (vs : List Nat) : Nat → Prop where
  | base {k : Nat} (h : k ∈ vs) : Reach succ vs k
  | step {j k : Nat} (h : Reach succ vs j) (e : k ∈ succ j) : Reach succ vs k
/-- the rising list of what is reached -/
def IsCl (succ : Nat → List Nat) (vs L : List Nat) : Prop := L.Pairwise (· < ·) ∧ ∀ k, k ∈ L ↔ Reach succ vs k
theorem rising_eq : ∀ {L M : List Nat}, L.Pairwise (· < ·) → M.Pairwise (· < ·) → (∀ k, k ∈ L ↔ k ∈ M) → L = M := by
  intro L M h1 h2 h
  have n1 : L.Nodup := h1.imp fun h => Nat.ne_of_lt h
  have n2 : M.Nodup := h2.imp fun h => Nat.ne_of_lt h
  have hp : L.Perm M := (List.perm_ext_iff_of_nodup n1 n2).mpr h
  exact hp.eq_of_pairwise (fun a b _ _ h1 h2 => absurd h1 (by omega)) h1 h2
theorem IsCl.uniq {succ : Nat → List Nat} {vs L M : List Nat} (h1 : IsCl succ vs L) (h2 : IsCl succ vs M) : L = M := rising_eq h1.1 h2.1 fun k => (h1.2 k).trans (h2.2 k).symm
/-- numbers as things -/
def intsD (l : List Nat) : List D := l.map fun k : Nat => .int (k : Int)
theorem sort_nat (l : List Nat) : sortI (l.map fun k : Nat => (k : Int)) = (l.mergeSort fun a b => decide (a ≤ b)).map fun k : Nat => (k : Int) := by
  have hp : (l.mergeSort fun a b => decide (a ≤ b)).Perm l := List.mergeSort_perm l _
  have hs : (l.mergeSort fun a b => decide (a ≤ b)).Pairwise (· ≤ ·) := by
    have := List.pairwise_mergeSort (le := fun (a b : Nat) => decide (a ≤ b)) (fun a b c h1 h2 => by simp only [decide_eq_true_eq] at *; omega) (fun a b => by simp only [Bool.or_eq_true, decide_eq_true_eq]; omega) l
    exact this.imp fun h => by simpa using h
  refine (sortI_eq (hp.map _) ?_).symm
  rw [List.pairwise_map]
  exact hs.imp fun h => by omega
theorem sort_nodup {l : List Nat} (h : l.Nodup) : (l.mergeSort fun a b => decide (a ≤ b)).Pairwise (· < ·) := by
  have hp : (l.mergeSort fun a b => decide (a ≤ b)).Perm l := List.mergeSort_perm l _
  have hs : (l.mergeSort fun a b => decide (a ≤ b)).Pairwise (· ≤ ·) := by
    have := List.pairwise_mergeSort (le := fun (a b : Nat) => decide (a ≤ b)) (fun a b c h1 h2 => by simp only [decide_eq_true_eq] at *; omega) (fun a b => by simp only [Bool.or_eq_true, decide_eq_true_eq]; omega) l
    exact this.imp fun h => by simpa using h
  have hn : (l.mergeSort fun a b => decide (a ≤ b)).Nodup := hp.symm.nodup h
  exact (hs.and hn).imp fun ⟨a, b⟩ => by omega
theorem mapO_ints (l : List Nat) : mapO intO (intsD l) = some (l.map fun k : Nat => (k : Int)) := mapO_some (f := intO) (g := fun k : Nat => D.int (k : Int)) (h := fun k : Nat => (k : Int)) (fun _ => rfl) l
theorem sortL_ints (l : List Nat) (S : Store) : sortL (intsD l) S = .ok (intsD (l.mergeSort fun a b => decide (a ≤ b))) S := by
  unfold sortL
  rw [mapO_ints]
  simp only [sort_nat, List.map_map]
  rfl
structure CI (succ : Nat → List Nat) (vs seen td : List Nat) : Prop where
  nd : seen.Nodup
  s1 : ∀ k ∈ seen, Reach succ vs k
  s2 : ∀ k ∈ td, Reach succ vs k
  c0 : ∀ k ∈ vs, k ∈ seen ∨ k ∈ td
  c1 : ∀ j ∈ seen, ∀ k ∈ succ j, k ∈ seen ∨ k ∈ td
section
variable {succ : Nat → List Nat} {vs seen td td' : List Nat} {k : Nat}
theorem CI.start : CI succ vs [] vs := ⟨List.nodup_nil, fun k h => by simp at h, fun k h => .base h, fun k h => .inr h, fun j h => by simp at h⟩
theorem CI.skip (h : CI succ vs seen td) (h1 : ∀ x ∈ td, x ∈ td' ∨ x ∈ seen) (h2 : ∀ x ∈ td', x ∈ td) : CI succ vs seen td' :=
  ⟨h.nd, h.s1, fun x hx => h.s2 x (h2 x hx), fun x hx => (h.c0 x hx).elim .inl fun q => (h1 x q).symm, fun j hj x hx => (h.c1 j hj x hx).elim .inl fun q => (h1 x q).symm⟩
theorem CI.take (h : CI succ vs seen td) (hk : k ∈ td) (hn : k ∉ seen) (h1 : ∀ x ∈ td, x = k ∨ x ∈ td') (h2 : ∀ x ∈ td', x ∈ td ∨ x ∈ succ k) (h3 : ∀ x ∈ succ k, x ∈ td') : CI succ vs (seen ++ [k]) td' := by
  have q : ∀ x, x ∈ td → x ∈ seen ++ [k] ∨ x ∈ td' := fun x hx => (h1 x hx).elim (fun e => .inl (by simp [e])) .inr
  refine ⟨?_, fun x hx => ?_, fun x hx => ?_, fun x hx => ?_, fun j hj x hx => ?_⟩
  · rw [List.nodup_append]
    exact ⟨h.nd, by simp, fun a ha b hb => by simp at hb; subst hb; rintro rfl; exact hn ha⟩
  · rcases List.mem_append.mp hx with hx | hx
    · exact h.s1 x hx
    · simp at hx; subst hx; exact h.s2 _ hk
  · rcases h2 x hx with e | e
    · exact h.s2 x e
    · exact .step (h.s2 k hk) e
  · rcases h.c0 x hx with e | e
    · exact .inl (by simp [e])
    · exact q x e
  · rcases List.mem_append.mp hj with hj | hj
    · rcases h.c1 j hj x hx with e | e
      · exact .inl (by simp [e])
      · exact q x e
    · simp at hj; subst hj
      exact .inr (h3 x hx)
theorem CI.done (h : CI succ vs seen []) : ∀ k, k ∈ seen ↔ Reach succ vs k := fun k => by
  refine ⟨h.s1 k, fun r => ?_⟩
  induction r with
  | base hk => rcases h.c0 _ hk with e | e
               · exact e
               · simp at e
  | step _ e ih => rcases h.c1 _ ih _ e with e | e
                   · exact e
                   · simp at e
theorem CI.cl (h : CI succ vs seen []) : IsCl succ vs (seen.mergeSort fun a b => decide (a ≤ b)) := by
  refine ⟨sort_nodup h.nd, fun k => ?_⟩
  rw [← h.done k]
  exact (List.mergeSort_perm seen _).mem_iff
end
/-- what is not yet seen -/
def un (dom seen : List Nat) : Nat := (dom.filter fun k => decide (k ∉ seen)).length
theorem un_le (dom seen : List Nat) : un dom seen ≤ dom.length := List.length_filter_le _ _
theorem un_mono (dom seen : List Nat) (k : Nat) : un dom (seen ++ [k]) ≤ un dom seen := by
  induction dom with
  | nil => exact Nat.le_refl _
  | cons x dom ih =>
    unfold un at ih ⊢
    simp only [List.filter_cons]
    by_cases h : x ∈ seen
    · simp [h] at ih ⊢
      exact ih
    · by_cases e : x = k
      · simp [h, e] at ih ⊢
        have : ¬ k ∈ seen := by rw [← e]; exact h
        simp [this]
        omega
      · simp [h, e] at ih ⊢
        exact ih
theorem un_take {dom seen : List Nat} {k : Nat} (h : k ∈ dom) (hn : k ∉ seen) : un dom (seen ++ [k]) + 1 ≤ un dom seen := by
  induction dom with
  | nil => simp at h
  | cons x dom ih =>
    have m := un_mono dom seen k
    unfold un at ih m ⊢
    simp only [List.filter_cons]
    by_cases e : x = k
    · subst e
      simp [hn] at m ⊢
      exact m
    · have hm : k ∈ dom := by
        rcases List.mem_cons.mp h with q | q
        · exact absurd q.symm e
        · exact q
      have ih := ih hm
      by_cases hx : x ∈ seen
      · simp [hx] at ih ⊢
        exact ih
      · simp [hx, e] at ih ⊢
        exact ih
/-! stores -/
@[simp] theorem get_mid (S : Store) (c : Cell) (Z : Store) : (S ++ c :: Z)[S.length]? = some c := by simp
theorem get_mid1 (S : Store) (c e : Cell) (Z : Store) : (S ++ c :: e :: Z)[S.length + 1]? = some e := by
  rw [List.getElem?_append_right (by omega)]
  simp
theorem set_mid (S : Store) (c d : Cell) (Z : Store) : (S ++ c :: Z).set S.length d = S ++ d :: Z := by
  rw [List.set_append_right _ _ (Nat.le_refl _)]
  simp
theorem set_mid1 (S : Store) (c e d : Cell) (Z : Store) : (S ++ c :: e :: Z).set (S.length + 1) d = S ++ c :: d :: Z := by
  rw [List.set_append_right _ _ (by omega)]
  simp
theorem x_while {c : MB} {b : MS} {k : Nat} {l : Loc} {S : Store} : whileS c b (k + 1) l S = (c l S).bind fun t S1 => if t = true then (b l S1).bind (againS (whileS c b k)) else .ok (.nx, l) S1 := (rfl)
theorem lookup_eq (f : String) (x : D) (r : List (Str × D)) : List.lookup (Str.ofString f) ((Str.ofString f, x) :: r) = some x := by simp [List.lookup]
theorem beq_of (a b : String) : (Str.ofString a == Str.ofString b) = (a == b) := by
  by_cases h : a = b
  · subst h; simp
  · have h2 : ¬ Str.ofString a = Str.ofString b := fun e => h ((ofString_inj a b).mp e)
    rw [beq_eq_false_iff_ne.mpr h2, beq_eq_false_iff_ne.mpr h]
/-! instances -/
@[simp] theorem x_makeE (c n : Nat) (G : List D → Store → R D) (m : MA) (l : Loc) (S : Store) : makeE c n G m l S = (m l S).bind fun ds S1 => if ds.length + 1 = n then (G (.ref S1.length :: ds) (S1 ++ [.ins c []])).bind fun d S2 => match d with
  | .non => .ok (.ref S1.length) S2
  | _ => .bad else .bad := (rfl)
@[simp] theorem x_methE (m : Str) (n : Nat) (tbl : Tbl) (o : ME) (a : MA) (l : Loc) (S : Store) : methE m n tbl o a l S = (o l S).noex.bind fun d S1 => match d with
  | .ref i => match insAt S1 i with
    | some (c, fs) => if fs.lookup m = none then (match tblAt tbl c with
      | some G => (a l S1).bind fun ds S2 => if ds.length + 1 = n then G (d :: ds) S2 else .bad
      | none => .bad) else .bad
    | none => .bad
  | _ => .bad := (rfl)
@[simp] theorem x_fldS (cs : List Nat) (f : Str) (m v : ME) (l : Loc) (S : Store) : fldS cs f m v l S = (v l S).bind fun y S1 => (m l S1).bind fun d S2 => match d with
  | .ref n => match insAt S2 n with
    | some (c, fs) => if c ∈ cs ∧ fs.length < 1000 then .ok (.nx, l) (S2.set n (.ins c (putD f y fs))) else .bad
    | none => .bad
  | _ => .bad := (rfl)
@[simp] theorem x_tblAt0 (c : Nat) : tblAt [] c = none := (rfl)
@[simp] theorem x_tblAtS (p : Nat × (List D → Store → R D)) (r : Tbl) (c : Nat) : tblAt (p :: r) c = if p.1 = c then some p.2 else tblAt r c := (rfl)
@[simp] theorem insAt_end (S : Store) (c : Nat) (fs : List (Str × D)) : insAt (S ++ [.ins c fs]) S.length = some (c, fs) := insAt_of (by simp)
theorem insAt_app {S T : Store} {n c : Nat} {fs : List (Str × D)} (h : S[n]? = some (.ins c fs)) : insAt (S ++ T) n = some (c, fs) := insAt_of (at_app h)
@[simp] theorem x_dict0 (l : Loc) (S : Store) : dict0 l S = .ok (.ref S.length) (S ++ [.dct []]) := (rfl)
@[simp] theorem x_isN0 (S : Store) : isD .non .non S = .ok true S := (rfl)
theorem x_isN {d : D} (h : d ≠ .non) (S : Store) : isD d .non S = .ok false S := by
  cases d with
  | non => exact absurd rfl h
  | _ => rfl
@[simp] theorem x_inN0 (S : Store) : isNotD .non .non S = .ok false S := (rfl)
theorem x_inN {d : D} (h : d ≠ .non) (S : Store) : isNotD d .non S = .ok true S := by
  cases d with
  | non => exact absurd rfl h
  | _ => rfl
@[simp] theorem x_slU (xs : List D) (lo hi : Option Int) (S : Store) : sliceD (.tup xs) lo hi S = .ok (.tup (cutD xs lo hi)) S := (rfl)
theorem x_pop {S : Store} {n : Nat} {xs : List D} {x : D} (h : lstAt S n = some (xs ++ [x])) : popM (.ref n) [] S = .ok x (S.set n (.lst xs)) := by
  unfold popM
  simp only [h]
  simp
theorem x_popAt0 {S : Store} {n : Nat} {xs : List D} {x : D} (h : lstAt S n = some (x :: xs)) : popAtM (.ref n) [.int 0] S = .ok x (S.set n (.lst xs)) := by
  unfold popAtM
  simp only [h]
  simp
theorem x_extend {S : Store} {n k : Nat} {xs ys : List D} (h : lstAt S n = some xs) (h2 : lstAt S k = some ys) (hz : xs.length + ys.length ≤ 16777216) : extendM (.ref n) [.ref k] S = .ok .non (S.set n (.lst (xs ++ ys))) := by
  unfold extendM
  simp only [h, h2]
  exact if_pos hz
/-- a dict of numbers that are seen -/
def seenD (l : List Nat) : List (Key × D) := l.map fun k : Nat => (.inl (k : Int), .bl true)
theorem seen_look (l : List Nat) (k : Nat) : (dLook (seenD l) (.inl (k : Int))).isSome = decide (k ∈ l) := by
  induction l with
  | nil => rfl
  | cons x l ih =>
    unfold seenD dLook at ih ⊢
    rw [List.map_cons, List.find?_cons]
    by_cases h : x = k
    · subst h; simp
    · have h2 : ¬ ((x : Int) = (k : Int)) := by omega
      have h3 : ¬ ((Sum.inl (x : Int) : Key) = Sum.inl (k : Int)) := fun z => h2 (Sum.inl.inj z)
      simp only [h3, decide_false]
      rw [ih]
      simp [Ne.symm h]
theorem seen_put {l : List Nat} {k : Nat} (h : k ∉ l) : dPut (seenD l) (.inl (k : Int)) (.bl true) = seenD (l ++ [k]) := by
  unfold dPut
  rw [if_neg]
  · simp [seenD]
  · intro q
    rw [List.any_eq_true] at q
    obtain ⟨p, hp, e⟩ := q
    unfold seenD at hp
    obtain ⟨x, hx, rfl⟩ := List.mem_map.mp hp
    have : (Sum.inl (x : Int) : Key) = Sum.inl (k : Int) := of_decide_eq_true e
    have := Sum.inl.inj this
    have : x = k := by omega
    subst this
    exact h hx
def keyD : Key → D
  | .inl i => .int i
  | .inr x => .str x
theorem seen_keys (l : List Nat) : ((seenD l).map fun kv => keyD kv.1) = intsD l := by
  unfold seenD intsD
  rw [List.map_map]
  rfl
theorem x_listDict {S : Store} {n : Nat} {kvs : List (Key × D)} (h : S[n]? = some (.dct kvs)) : listV [.ref n] S = .ok (kvs.map fun kv => keyD kv.1) S := by
  unfold listV
  have h1 : seqOf S (.ref n) = none := by
    show lstAt S n = none
    unfold lstAt
    rw [h]
  simp only [h1, dctAt_of h]
  congr 1
theorem x_listLst {S : Store} {n : Nat} {xs : List D} (h : lstAt S n = some xs) : listV [.ref n] S = .ok xs S := by
  unfold listV
  have h1 : seqOf S (.ref n) = some xs := h
  simp only [h1]
theorem x_ninDict {S : Store} {n k : Nat} {kvs : List (Key × D)} (h : S[n]? = some (.dct kvs)) : notInD (.int (k : Int)) (.ref n) S = .ok (!(dLook kvs (.inl (k : Int))).isSome) S := by
  unfold notInD inO
  have h1 : seqOf S (.ref n) = none := by
    show lstAt S n = none
    unfold lstAt
    rw [h]
  simp only [h1, kvAt_of h, keyO]
theorem x_setDict {S : Store} {n k : Nat} {kvs : List (Key × D)} {v : D} (h : S[n]? = some (.dct kvs)) (hz : kvs.length < 16777216) : setO S (.ref n) (.int (k : Int)) v = some (S.set n (.dct (dPut kvs (.inl (k : Int)) v))) := by
  unfold setO
  simp only [h, keyO]
  exact if_pos hz
theorem mapO_flat (l : List Nat) : mapO flatO (intsD l) = some (l.map fun k : Nat => V.int (k : Int)) := mapO_some (f := flatO) (g := fun k : Nat => D.int (k : Int)) (h := fun k : Nat => V.int (k : Int)) (fun _ => rfl) l
theorem x_ninInts {S : Store} {n k : Nat} {l : List Nat} (h : lstAt S n = some (intsD l)) : notInD (.int (k : Int)) (.ref n) S = .ok (!decide (k ∈ l)) S := by
  unfold notInD inO
  have h1 : seqOf S (.ref n) = some (intsD l) := h
  simp only [h1, mapO_flat, flatO]
  congr 2
  rw [Bool.eq_iff_iff]
  simp [inV, eqV]
  constructor
  · rintro ⟨a, h1, h2⟩
    have : a = k := by omega
    subst this; exact h1
  · intro h; exact ⟨k, h, rfl⟩
theorem x_ixDict {S : Store} {n : Nat} {k : Int} {kvs : List (Key × D)} (h : S[n]? = some (.dct kvs)) : ixO S (.ref n) (.int k) = dLook kvs (.inl k) := by
  unfold ixO
  simp only [h]
theorem toPy_ints {S : Store} {n : Nat} {l : List Nat} (h : S[n]? = some (.lst (intsD l))) (k : Nat) : toPy S (k + 1) (.ref n) = some (.list (l.map fun i : Nat => PyData.int (i : Int))) := by
  rw [toPy_ref h]
  unfold intsD
  rw [mapO_some (f := toPy S k) (g := fun i : Nat => D.int (i : Int)) (h := fun i : Nat => PyData.int (i : Int)) (fun i => toPy_int S k i)]
  rfl
theorem lay_ints : ∀ l : List Nat, PyData.canLayAll0 (l.map fun i : Nat => PyData.int (i : Int)) = true
  | [] => rfl
  | i :: l => by rw [List.map_cons, PyData.canLayAll0, PyData.canLay0, lay_ints l]; rfl
theorem eqv_ints : ∀ l m : List Nat, PyData.eqvAll (l.map fun i : Nat => PyData.int (i : Int)) (m.map fun i : Nat => PyData.int (i : Int)) = decide (l = m)
  | [], [] => by simp [PyData.eqvAll]
  | [], _ :: _ => by simp [PyData.eqvAll]
  | _ :: _, [] => by simp [PyData.eqvAll]
  | i :: l, j :: m => by
    have e : ((i : Int) == (j : Int)) = decide (i = j) := by
      by_cases q : i = j
      · subst q; simp
      · rw [decide_eq_false q]
        exact beq_eq_false_iff_ne.mpr (by omega)
    simp [PyData.eqvAll, PyData.eqv, eqv_ints l m, e]
theorem x_eqInts {S : Store} {n m : Nat} {l k : List Nat} (h1 : S[n]? = some (.lst (intsD l))) (h2 : S[m]? = some (.lst (intsD k))) : eqD (.ref n) (.ref m) S = .ok (decide (l = k)) S := by
  rw [eqD_of (toPy_ints h1 63) (toPy_ints h2 63) (by rw [PyData.canLay0]; exact lay_ints l) (by rw [PyData.canLay0]; exact lay_ints k), PyData.eqv, eqv_ints]
theorem x_neInts {S : Store} {n m : Nat} {l k : List Nat} (h1 : S[n]? = some (.lst (intsD l))) (h2 : S[m]? = some (.lst (intsD k))) : neD (.ref n) (.ref m) S = .ok (!decide (l = k)) S := by
  rw [neD_of (toPy_ints h1 63) (toPy_ints h2 63) (by rw [PyData.canLay0]; exact lay_ints l) (by rw [PyData.canLay0]; exact lay_ints k), PyData.eqv, eqv_ints]
theorem rng_ints (n : Nat) : intsFrom 0 n = intsD (List.range n) := by
  unfold intsFrom intsD
  refine List.map_congr_left fun k _ => ?_
  rw [Int.zero_add]
theorem x_rngO {n : Nat} {S : Store} (h : n ≤ 16777216) : rngO 0 (n : Int) S = .ok (intsD (List.range n)) S := by
  unfold rngO
  rw [if_pos ⟨by omega, by omega, by omega, by omega, by omega⟩, Int.sub_zero, Int.toNat_natCast, rng_ints]
@[simp] theorem x_rngN1 (m : ME) (l : Loc) (S : Store) : rngN1 m l S = (m l S).bind fun d S1 => match intO d with
  | some b => rngO 0 b S1
  | none => .bad := (rfl)
@[simp] theorem x_rngN2 (m n : ME) (l : Loc) (S : Store) : rngN2 m n l S = (m l S).bind fun d S1 => (n l S1).bind fun e S2 => match intO d, intO e with
  | some a, some b => rngO a b S2
  | _, _ => .bad := (rfl)
theorem get_set_ne {S : Store} {i j : Nat} {c : Cell} (h : i ≠ j) : (S.set i c)[j]? = S[j]? := List.getElem?_set_ne h
theorem get_set_at {S : Store} {i : Nat} {c d : Cell} (h : S[i]? = some d) : (S.set i c)[i]? = some c := List.getElem?_set_self (List.getElem?_eq_some_iff.mp h).1
theorem lt_of_at {S : Store} {i : Nat} {c : Cell} (h : S[i]? = some c) : i < S.length := (List.getElem?_eq_some_iff.mp h).1
theorem Reach.lt {succ : Nat → List Nat} {vs : List Nat} {n k : Nat} (h1 : ∀ j ∈ vs, j < n) (h2 : ∀ j < n, ∀ i ∈ succ j, i < n) (h : Reach succ vs k) : k < n := by
  induction h with
  | base h => exact h1 _ h
  | step _ e ih => exact h2 _ ih _ e
theorem IsCl.len {succ : Nat → List Nat} {vs L : List Nat} {n : Nat} (h : IsCl succ vs L) (h1 : ∀ j ∈ vs, j < n) (h2 : ∀ j < n, ∀ i ∈ succ j, i < n) : L.length ≤ n := by
  have e : L = (List.range n).filter fun k => decide (k ∈ L) := rising_eq h.1 (List.pairwise_lt_range.filter _) fun k => by
    rw [List.mem_filter, List.mem_range]
    simp
    exact fun hk => Reach.lt h1 h2 ((h.2 k).mp hk)
  rw [e]
  refine Nat.le_trans (List.length_filter_le _ _) ?_
  rw [List.length_range]
  exact Nat.le_refl _
theorem x_slW (xs : List D) (lo hi : Option Int) (S : Store) : sliceD (.lis xs) lo hi S = .ok (.ref S.length) (S ++ [.lst (cutD xs lo hi)]) := (rfl)
theorem cutD_mem {xs : List D} {lo hi : Option Int} {d : D} (h : d ∈ cutD xs lo hi) : d ∈ xs := by
  unfold cutD at h
  exact List.mem_of_mem_drop (List.mem_of_mem_take h)
theorem cutD_len (xs : List D) (lo hi : Option Int) : (cutD xs lo hi).length ≤ xs.length := by
  unfold cutD
  rw [List.length_take, List.length_drop]
  omega
theorem x_setLst {S : Store} {n k : Nat} {xs : List D} {v : D} (h : S[n]? = some (.lst xs)) (hk : k < xs.length) : setO S (.ref n) (.int (k : Int)) v = some (S.set n (.lst (xs.set k v))) := by
  unfold setO
  simp only [h]
  have e : ixN xs.length (k : Int) = some k := by
    unfold ixN
    simp
    omega
  rw [e]
  rfl
theorem x_reverse {S : Store} {n : Nat} {xs : List D} (h : lstAt S n = some xs) : reverseM (.ref n) [] S = .ok .non (S.set n (.lst xs.reverse)) := by
  unfold reverseM
  simp only [h]
/-- a comprehension over pairs -/
theorem comp_pairs {chk : Store → Prop} {i j : Nat} {m : ME} {l : Loc} {S : Store} (hk : chk S) (ps : List (D × D)) (hm : ∀ p ∈ ps, m ((l.set i (some p.1)).set j (some p.2)) S = .ok (.bl true) S) : ∀ (acc : List D), acc.length + ps.length ≤ 16777216 → compL chk (.many [i, j]) yesM m l (ps.map fun p => .tup [p.1, p.2]) acc S = .ok (acc ++ ps.map fun _ => .bl true) S := by
  induction ps with
  | nil => intro acc _; rw [List.map_nil, compL_nil hk]; simp
  | cons p ps ih =>
    intro acc hz
    rw [List.length_cons] at hz
    have h1 := hm p List.mem_cons_self
    rw [List.map_cons, compL_cons hk]
    simp only [Tgt.put, namesL, x_yes, R.bind_ok, if_true, h1]
    rw [if_pos (show _ < sizeLine by rw [sz]; omega), ih (fun q hq => hm q (List.mem_cons_of_mem _ hq)) _ (by simp; omega)]
    simp
end ML

set_option Elab.async false
set_option linter.all false
set_option maxRecDepth 100000
set_option autoImplicit false
/-! ML16: dicts: pop, dict([..]); methods within a try. -/
namespace ML
open PySem PySem.Spec L2

/-! ### d.pop(k) -/
def dpopE (m n : ME) : ME := fun l S => (m l S).bind fun d S1 => match d with
  | .ref i => match dctAt S1 i with
    | some _ => (n l S1).bind fun e S2 => match dctAt S2 i with
      | some kvs => match keyO e with
        | some k => match dLook kvs k with
          | some v => .ok v (S2.set i (.dct (dDrop kvs k)))
          | none => .bad
        | none => .bad
      | none => .bad
    | none => .bad
  | _ => .bad
section
variable {X : Cx} {cA : Nat → Addr} {W : XK} {K : PySem.W.Frag} {ρ : List Addr} {H : Hp}
theorem drop_rep {k : Key} : ∀ {kvs : List (Key × D)} {ps : List (Key × V)}, RepP K ρ H kvs ps → RepP K ρ H (dDrop kvs k) (dropK ps k)
  | [], ps, h => by unfold RepP at h; subst h; unfold RepP; rfl
  | (j, x) :: r, ps, h => by
    unfold RepP at h
    obtain ⟨v, q, rfl, h1, h2⟩ := h
    unfold dDrop dropK
    rw [List.filter_cons, List.filter_cons]
    by_cases e : j = k
    · simp only [e, ne_eq, not_true_eq_false, decide_false, Bool.false_eq_true, if_false]
      exact drop_rep h2
    · simp only [ne_eq, e, not_false_eq_true, decide_true, if_true]
      exact ⟨v, _, rfl, h1, drop_rep h2⟩
variable {o e : Expr} {m n : ME} {apos cpos : Pos}
theorem mdpop (ho : PE X o (tE X.K cA W m)) (he : PE X e (tE X.K cA W n)) (hM : M1 X o "pop" apos e cpos := by exact ⟨rfl, rfl, rfl, rfl⟩) : PE X (.Call (.Attribute o "pop" apos) [e] [] cpos) (tE X.K cA W (dpopE m n)) :=
  (pe_dpop1 ho he hM).imp fun σ H Q h => (bind1L (rep1 := rV X.K) st_V h).imp fun x H1 h => by
    obtain ⟨ρ, S, l, d, hS, hl, hr, h⟩ := h
    split at h
    · rename_i i
      split at h
      · rename_i kvs0 e0
        obtain ⟨a, ps, rfl, ha, h1, h2⟩ := rdct_rep hS hr e0
        refine ⟨a, rfl, .inl ⟨ps, .inl h1⟩, ρ, S, l, hS, hl, (After.bind (rep := rV X.K) st_V h).imp fun y H2 h => ?_⟩
        obtain ⟨ρ2, S2, ed, e2, hS2, hr2, h⟩ := h
        split at h
        · rename_i kvs e3
          obtain ⟨a', ps', ea, ha', h3, h4⟩ := rdct_rep hS2 (hr.ext e2) e3
          cases ea
          split at h
          · rename_i k ek
            split at h
            · rename_i v ev
              have := key_rep ek hr2
              subst this
              have hv := look_rep k h4
              rw [ev] at hv
              obtain ⟨w, hw, rw'⟩ := hv
              have E : Ext ρ2 H2 ρ2 (upd H2 a (.dK (dropK ps' k))) := Ext.write ha' h3 True.intro
              exact ⟨ps', k, w, h3, rfl, hw, h ρ2 _ _ E (hS2.write ha' h3 True.intro ⟨_, upd_same, (drop_rep h4).ext E⟩) (rw'.ext E)⟩
            · exact h.elim
          · exact h.elim
        · exact h.elim
      · exact h.elim
    · exact h.elim
end

/-! ### dict([..]) of pairs -/
def pairO : D → Option (Key × D)
  | .tup [k, v] => (keyO k).map fun k => (k, v)
  | _ => none
def pairsL (ds : List D) (S : Store) : R D := match mapO pairO ds with
  | some kvs => newC (.dct (mergeD [] kvs)) S
  | none => .bad
section
variable {X : Cx} {cA : Nat → Addr} {W : XK} {K : PySem.W.Frag} {ρ : List Addr} {H : Hp}
theorem pairs_rep : ∀ {ds : List D} {vs : List V} {kvs : List (Key × D)}, mapO pairO ds = some kvs → RepVs K ρ H ds vs → ∃ ps qs, vs = ps.map V.ref ∧ Paired (fun p (kv : Key × V) => SqT K H p [kV kv.1, kv.2]) ps qs ∧ RepP K ρ H kvs qs
  | [], vs, kvs, h, r => by unfold RepVs at r; subst r; cases h; exact ⟨[], [], rfl, .nil, by unfold RepP; rfl⟩
  | d :: ds, vs, kvs, h, r => by
    unfold RepVs at r
    obtain ⟨v, q, rfl, h1, h2⟩ := r
    unfold mapO at h
    split at h
    · rename_i kv kvs' e1 e2
      cases h
      obtain ⟨ps, qs, rfl, h3, h4⟩ := pairs_rep e2 h2
      unfold pairO at e1
      split at e1
      · rename_i k x
        obtain ⟨k', ek, rfl⟩ := Option.map_eq_some_iff.mp e1
        unfold RepV at h1
        obtain ⟨a, ws, rfl, h5, h6⟩ := h1
        obtain ⟨y, z, rfl, h7, h8⟩ := two_rep h6
        have := key_rep ek h7
        subst this
        exact ⟨a :: ps, (k', z) :: qs, rfl, .cons h5 h3, z, qs, rfl, h8, h4⟩
      · cases e1
    · cases h
theorem c_pairs (hc : X.calm = true) : CallR X (.type "dict") (tL1 X.K cA W (rV X.K) pairsL) := CallR.imp (call_dictP hc) fun xs H Q h => by
  obtain ⟨ρ, S, ds, p, vs, hS, rfl, h1, h2, h⟩ := h
  unfold pairsL at h
  split at h
  · rename_i kvs e
    obtain ⟨ps, qs, rfl, h3, h4⟩ := pairs_rep e h2
    exact ⟨p, ps, qs, rfl, h1, h3, fun q hq => After.new h hS hq ⟨_, upd_same, (merge_rep h4 (by unfold RepP; rfl)).ext (Ext.new hq)⟩⟩
  · exact h.elim
end

/-! ### o.m(e, ..) within a try -/
section
variable {X : Cx} {cA : Nat → Addr} {W : WX} {p pos apos : Pos} {x m : Str} {e o : Expr} {es : List Expr} {mo : ME} {ma : MA} {k j n c : Nat} {tbl : Tbl}
theorem meth_ok {pl : Sem Bool} {f C : Addr} {fd : FuncData} {ps : List Str} {sp : Sp} {ta : TE} {t : TA} (he : PE X o ta) (hC : Cls X.K C) (hm : Meth X.K C m f)
    (F : FnOk X.prog X.w X.K X.mg X.base (L2.CX X.prog X.w) k f fd ps sp) (hr : Room k X.A) (hb : Binds X.K fd ps []) (tk : Takes X W) (ha : PA X (e :: es) t)
    (hst : starEach (e :: es) X.env = (false, eval e X.env) :: starEach es X.env) (hpl : (backTo pos (starEach es X.env)).any (·.1) = false)
    (ht : eval (.Call (.Attribute o m apos) (e :: es) [] pos) X.env = (do
      let ov ← eval o X.env
      standAt apos.atName
      let (f, first) ← holding [ov] (getMethod ov m pl)
      callWith pos f first (backTo pos (starEach (e :: es) X.env)) (backToKw pos (keywordEach [] X.env)))) :
    PE X (.Call (.Attribute o m apos) (e :: es) [] pos) (fun σ H Q => ta σ H fun x H1 => ∃ a dx fs, x = .ref a ∧ H1 a = some (.ins C dx fs) ∧ fs.lookup m = none ∧ t σ H1 fun vs H2 => sp (x :: vs) H2 Q (L2.WE W σ)) := by
  refine ⟨fun pins s σ H Q I h => ?_⟩
  refine PySem.W.methodCall_KW (pl := pl) (thn (he.run pins s σ H _ I h) fun u s1 ⟨x, H1, I1, rx, a, dx, fs, ex, ea, l, q⟩ => ?_) ht
  subst ex
  obtain rfl : u = Value.ref a := rx
  refine getmeth_ok I1 ea hC hm l ?_
  refine PySem.W.callWith_K (first := [.ref a]) (h₀ := X.base) I.ok.mod.kin hm.kp (thn (ha.run pos pins s1 σ H1 _ I1 q) fun us s2 ⟨vs, H2, I2, r, q2⟩ => ⟨I2.kIn, ?_⟩) hst hpl
  exact run_fnS (us := .ref a :: us) (vs := .ref a :: vs) F hr hb (passAt tk σ) I2 (.cons rfl r) q2
theorem xmeth {pl : Sem Bool} (T : MtL X.prog X.w X.K X.mg X.base cA j m n tbl) (hr : Room j X.A) (tk : Takes X W) (ho : ∀ W0 : XK, PE X o (tE X.K cA W0 mo)) (ha : ∀ W0 : XK, PA X (e :: es) (tAs X.K cA W0 ma))
    (hst : starEach (e :: es) X.env = (false, eval e X.env) :: starEach es X.env := by rfl) (hpl : (backTo pos (starEach es X.env)).any (·.1) = false := by rfl)
    (ht : eval (.Call (.Attribute o m apos) (e :: es) [] pos) X.env = (do
      let ov ← eval o X.env
      standAt apos.atName
      let (f, first) ← holding [ov] (getMethod ov m pl)
      callWith pos f first (backTo pos (starEach (e :: es) X.env)) (backToKw pos (keywordEach [] X.env))) := by rfl) : PE X (.Call (.Attribute o m apos) (e :: es) [] pos) (tEX X.K cA W (methE m n tbl mo ma)) := by
  refine ⟨fun pins s σ H Q I h => ?_⟩
  obtain ⟨ρ, S, l, hS, hl, h⟩ := h
  have hA : PA X (e :: es) (fun σ H Q => tAs X.K cA (L2.WE W σ) ma σ H Q) := ⟨fun pos pins s σ H Q I q => (ha (L2.WE W σ)).run pos pins s σ H Q I q⟩
  have hO : PE X o (fun σ H Q => tE X.K cA (L2.WE W σ) mo σ H Q) := ⟨fun pins s σ H Q I q => (ho (L2.WE W σ)).run pins s σ H Q I q⟩
  cases eo : mo l S with
  | ok d S1 =>
    unfold methE at h
    rw [eo] at h
    simp only [R.noex, R.bind_ok] at h
    split at h
    · rename_i i
      split at h
      · rename_i c fs ei
        split at h
        · rename_i hf
          split at h
          · rename_i G eG
            obtain ⟨k, hk, M⟩ := tbl_of T eG
            obtain ⟨f, fd, ps, hC, hM, hb, F⟩ := M.ex
            refine (meth_ok (pl := pl) hO hC hM F (hr.mono hk) hb tk hA hst hpl ht).run pins s σ H Q I ⟨ρ, S, l, hS, hl, ?_⟩
            rw [eo]
            intro ρ1 H1 v e1 hS1 hv
            obtain ⟨a, dx, vs, rfl, _, h1, h2⟩ := rins_rep hS1 hv ei
            refine ⟨a, dx, vs, rfl, h1, fld_none h2 hf, ρ1, S1, l, hS1, hl.ext e1, (After.step (rep := rVs X.K) h e1).imp fun us H2 hq => ?_⟩
            obtain ⟨ρ2, S2, ds, e2, hS2, hr2, h⟩ := hq
            split at h
            · rename_i hn
              exact ⟨by rw [List.length_cons, RepVs.length hr2]; exact hn, ρ2, S2, .ref i :: ds, hS2, .cons (hv.ext e2) hr2, After.back st_V (e1.trans e2) h⟩
            · exact h.elim
          · exact h.elim
        · exact h.elim
      · exact h.elim
    · exact h.elim
  | ex z S1 =>
    unfold methE at h
    rw [eo] at h
    exact h.elim
  | bad =>
    unfold methE at h
    rw [eo] at h
    exact h.elim
end
end ML

set_option Elab.async false
set_option linter.all false
set_option maxRecDepth 100000
set_option autoImplicit false
/-! ML17: more reckoning: dicts by key, equality with itself, rows that leave something behind. -/
namespace ML
open PySem PySem.Spec L2
mutual
theorem eqv_self : ∀ p : PyData, p.canLay0 = true → PyData.eqv p p = true
  | .none, _ => by simp [PyData.eqv]
  | .bool b, _ => by simp [PyData.eqv]
  | .int i, _ => by simp [PyData.eqv]
  | .str x, _ => by simp [PyData.eqv]
  | .list xs, h => by
    rw [PyData.canLay0] at h
    rw [PyData.eqv]
    exact eqvs_self xs h
  | .tuple xs, h => by
    rw [PyData.canLay0] at h
    rw [PyData.eqv]
    exact eqvs_self xs h
  | .dict _, h => by rw [PyData.canLay0] at h; cases h
theorem eqvs_self : ∀ ps : List PyData, PyData.canLayAll0 ps = true → PyData.eqvAll ps ps = true
  | [], _ => by simp [PyData.eqvAll]
  | p :: ps, h => by
    rw [PyData.canLayAll0, Bool.and_eq_true] at h
    rw [PyData.eqvAll, eqv_self p h.1, eqvs_self ps h.2]
    rfl
end
theorem eqLs_self {S : Store} {xs : List D} {ps : List PyData} (h : mapO (toPy S 63) xs = some ps) (c : PyData.canLayAll0 ps = true) : eqLs S xs xs = some true := by
  rw [eqLs_of h h c c, eqvs_self ps c]
/-! ### dicts of things by number -/
section
variable {α : Type}
def dK (k : α → Nat) (f : α → D) (ps : List α) : List (Key × D) := ps.map fun p => (.inl (k p : Int), f p)
def atK (k : α → Nat) (ps : List α) (i : Nat) : Option α := ps.find? fun p => decide (k p = i)
theorem dK_look (k : α → Nat) (f : α → D) (i : Nat) : ∀ ps : List α, dLook (dK k f ps) (.inl (i : Int)) = (atK k ps i).map f
  | [] => rfl
  | p :: ps => by
    have ih := dK_look k f i ps
    unfold dK dLook atK at ih ⊢
    rw [List.map_cons, List.find?_cons, List.find?_cons]
    by_cases e : k p = i
    · simp [e]
    · have h2 : ¬ ((Sum.inl (k p : Int) : Key) = Sum.inl (i : Int)) := fun z => e (by have := Sum.inl.inj z; omega)
      simp only [h2, e, decide_false]
      exact ih
theorem atK_mem {k : α → Nat} {ps : List α} {i : Nat} (h : i ∈ ps.map k) : ∃ p, atK k ps i = some p ∧ p ∈ ps ∧ k p = i := by
  obtain ⟨q, hq, e⟩ := List.mem_map.mp h
  cases h2 : atK k ps i with
  | none =>
    unfold atK at h2
    rw [List.find?_eq_none] at h2
    exact absurd (by simpa using e) (h2 q hq)
  | some p =>
    unfold atK at h2
    exact ⟨p, rfl, List.mem_of_find?_eq_some h2, by simpa using List.find?_some h2⟩
theorem atK_none {k : α → Nat} {ps : List α} {i : Nat} (h : i ∉ ps.map k) : atK k ps i = none := by
  unfold atK
  rw [List.find?_eq_none]
  intro p hp
  simp
  intro e
  exact h (List.mem_map.mpr ⟨p, hp, e⟩)
theorem dK_keys (k : α → Nat) (f : α → D) (ps : List α) : ((dK k f ps).map fun kv => keyD kv.1) = intsD (ps.map k) := by
  unfold dK intsD
  rw [List.map_map, List.map_map]
  rfl
theorem dK_len (k : α → Nat) (f : α → D) (ps : List α) : (dK k f ps).length = ps.length := by simp [dK]
theorem dK_put {k : α → Nat} {f : α → D} {ps : List α} {q : α} (h : k q ∉ ps.map k) : dPut (dK k f ps) (.inl (k q : Int)) (f q) = dK k f (ps ++ [q]) := by
  unfold dPut
  rw [if_neg]
  · simp [dK]
  · intro z
    rw [List.any_eq_true] at z
    obtain ⟨p, hp, e⟩ := z
    unfold dK at hp
    obtain ⟨r, hr, rfl⟩ := List.mem_map.mp hp
    have := Sum.inl.inj (of_decide_eq_true e)
    exact h (List.mem_map.mpr ⟨r, hr, by omega⟩)
theorem dK_set {k : α → Nat} {f : α → D} {ps : List α} {q : α} (h : k q ∈ ps.map k) : dPut (dK k f ps) (.inl (k q : Int)) (f q) = dK k f (ps.map fun p => if k p = k q then q else p) := by
  unfold dPut
  rw [if_pos]
  · unfold dK
    rw [List.map_map, List.map_map]
    refine List.map_congr_left fun p _ => ?_
    simp only [Function.comp]
    by_cases e : k p = k q
    · simp [e]
    · have h2 : ¬ ((Sum.inl (k p : Int) : Key) = Sum.inl (k q : Int)) := fun z => e (by have := Sum.inl.inj z; omega)
      simp [h2, e]
  · rw [List.any_eq_true]
    obtain ⟨p, hp, e⟩ := List.mem_map.mp h
    exact ⟨(.inl (k p : Int), f p), List.mem_map.mpr ⟨p, hp, rfl⟩, by simp [e]⟩
theorem dK_drop (k : α → Nat) (f : α → D) (ps : List α) (i : Nat) : dDrop (dK k f ps) (.inl (i : Int)) = dK k f (ps.filter fun p => decide (k p ≠ i)) := by
  unfold dDrop dK
  rw [List.filter_map]
  congr 1
  refine List.filter_congr fun p _ => ?_
  simp only [Function.comp]
  by_cases e : k p = i
  · simp [e]
  · have h2 : ¬ ((Sum.inl (k p : Int) : Key) = Sum.inl (i : Int)) := fun z => e (by have := Sum.inl.inj z; omega)
    simp [h2, e]
end
theorem x_dpop {S : Store} {m n : ME} {l : Loc} {i : Nat} {kvs : List (Key × D)} {k : Nat} {v : D} (hm : m l S = .ok (.ref i) S) (hn : n l S = .ok (.int (k : Int)) S) (h : S[i]? = some (.dct kvs)) (hv : dLook kvs (.inl (k : Int)) = some v) : dpopE m n l S = .ok v (S.set i (.dct (dDrop kvs (.inl (k : Int))))) := by
  unfold dpopE
  simp only [hm, hn, R.bind_ok, dctAt_of h, keyO, hv]
/-- the kept numbers as a dict -/
theorem pairs_seen (l : List Nat) (h : l.Nodup) (S : Store) : pairsL (l.map fun k : Nat => D.tup [.int (k : Int), .bl true]) S = .ok (.ref S.length) (S ++ [.dct (seenD l)]) := by
  have e : mapO pairO (l.map fun k : Nat => D.tup [.int (k : Int), .bl true]) = some (l.map fun k : Nat => ((.inl (k : Int), .bl true) : Key × D)) := mapO_some (f := pairO) (g := fun k : Nat => D.tup [.int (k : Int), .bl true]) (h := fun k : Nat => ((.inl (k : Int), .bl true) : Key × D)) (fun _ => rfl) l
  unfold pairsL
  rw [e]
  have gen : ∀ (l a : List Nat), (a ++ l).Nodup → mergeD (seenD a) (l.map fun k : Nat => ((.inl (k : Int), .bl true) : Key × D)) = seenD (a ++ l) := by
    intro l
    induction l with
    | nil => intro a _; simp [mergeD]
    | cons x l ih =>
      intro a hn
      have hx : x ∉ a := by
        rw [List.nodup_append] at hn
        exact fun q => hn.2.2 x q x (by simp) rfl
      have := ih (a ++ [x]) (by simpa using hn)
      rw [List.map_cons]
      show mergeD (dPut (seenD a) (.inl (x : Int)) (.bl true)) _ = _
      rw [seen_put hx, this]
      simp
  have := gen l [] h
  simp only [List.nil_append] at this
  show newC (.dct (mergeD [] _)) S = _
  have e0 : seenD [] = [] := rfl
  rw [e0] at this
  rw [this]
  rfl
/-- a row of things, each of which may leave something behind -/
theorem rowX {α : Type} (g : α → D) (P : α → Prop) {i n : Nat} {m : ME} {l : Loc} {t : Nat} {c : Cell} (hz : n ≤ 1000) (h : ∀ k : Nat, k < n → ∃ v, P v ∧ ∀ S, S[t]? = some c → ∃ Y, m (l.set i (some (.int (k : Int)))) S = .ok (g v) (S ++ Y)) :
    ∃ vs : List α, vs.length = n ∧ (∀ v ∈ vs, P v) ∧ ∀ S, S[t]? = some c → ∃ Y, compL still (.one i) yesM m l (intsFrom 0 n) [] S = .ok (vs.map g) (S ++ Y) := by
  have gen : ∀ (ks : List Nat), (∀ k ∈ ks, k < n) → ∃ vs : List α, vs.length = ks.length ∧ (∀ v ∈ vs, P v) ∧ ∀ (acc : List D) S, acc.length + ks.length ≤ 16000000 → S[t]? = some c → ∃ Y, compL still (.one i) yesM m l (ks.map fun k : Nat => D.int (k : Int)) acc S = .ok (acc ++ vs.map g) (S ++ Y) := by
    intro ks
    induction ks with
    | nil => intro _; exact ⟨[], rfl, fun v hv => by simp at hv, fun acc S _ _ => ⟨[], by rw [List.map_nil, compL_nil trivial]; simp⟩⟩
    | cons k ks ih =>
      intro hk
      obtain ⟨v, hv, ev⟩ := h k (hk k List.mem_cons_self)
      obtain ⟨vs, h1, h2, h3⟩ := ih (fun x hx => hk x (List.mem_cons_of_mem _ hx))
      refine ⟨v :: vs, by simp [h1], fun w hw => ?_, fun acc S ha ht => ?_⟩
      · rcases List.mem_cons.mp hw with e | e
        · subst e; exact hv
        · exact h2 w e
      · rw [List.length_cons] at ha
        obtain ⟨Y, eY⟩ := ev S ht
        obtain ⟨Z, eZ⟩ := h3 (acc ++ [g v]) (S ++ Y) (by simp; omega) (at_app ht)
        refine ⟨Y ++ Z, ?_⟩
        rw [List.map_cons, compL_cons trivial]
        simp only [Tgt.put, x_yes, R.bind_ok, if_true, eY]
        rw [if_pos (show _ < sizeLine by rw [sz]; omega), eZ]
        simp
  obtain ⟨vs, h1, h2, h3⟩ := gen (List.range n) fun k hk => List.mem_range.mp hk
  refine ⟨vs, by simpa using h1, h2, fun S ht => ?_⟩
  obtain ⟨Y, e⟩ := h3 [] S (by simp; omega) ht
  refine ⟨Y, ?_⟩
  rw [rng_ints]
  exact e
end ML

set_option Elab.async false
set_option linter.all false
set_option maxRecDepth 100000
set_option autoImplicit false
/-! ML19: a law's own def where it is called from the top alone: the guards around it are known to be none, so that str(..) of a tuple tells the same text each time. -/
namespace ML
open PySem PySem.Spec L2 PyProof.Rows
structure TopOk (P : Program) (w : World) (K : PySem.W.Frag) (mg : Str → Option Value) (base : Heap) (CX : CXT) (k : Nat) (f : Addr) (fd : FuncData) (ps : List Str) (sp : Sp) : Prop where
  len : ∀ vs H Q E, sp vs H Q E → vs.length = ps.length
  run : ∀ (s : Shared) (H : Hp) (args : Args) (us : List Value) (vs : List V) (Q : VK) (E : XK), Room k callerA → Env0 P w K mg base callerA [] s H → BindsTo s fd args (ps.zip us) → Vals vs us → sp vs H Q E →
    codeAny (model P w) callerA (.call (.ref f) args) (CR CX [] P w H s Q E) s
section
variable {P : Program} {w : World} {K : PySem.W.Frag} {mg : Str → Option Value} {base : Heap} {cA : Nat → Addr}
theorem top_run {CX : CXT} {x qual : Str} {st : Stmt} {f : Addr} {fd : FuncData} {N ps : List Str} {k : Nat} {sp : Sp} (F : Fun K x qual st f fd) (S : FnScope N ps (defScope st)) (len : ∀ vs H Q E, sp vs H Q E → vs.length = ps.length)
    (hb0 : ∀ (cdv : Value) (s : Shared) (H : Hp) (vs : List V) (Q : VK) (E : XK), Room k (callerA.deeper (envOfC qual (defScope st) s.heap.objs.size f cdv)) → sp vs H Q E →
      ∃ t, PSs (cxOf CX P w K mg base N qual (defScope st) f cdv callerA [] s H E) (defBody st) t ∧ t { nx := fun _ H' => Q .non H', rt := Q } (start N vs) H) : TopOk P w K mg base CX (k + 1) f fd ps sp := by
  obtain ⟨oc, od, kV, doc, pm, an, cdv, ct, osl, rfl, lk, hcd⟩ := F.ex
  refine ⟨len, fun s H args us vs Q E room e0 binds vals q => ?_⟩
  have there : ∀ b o, base.get? b = some o → s.heap.get? b = some o := fun b o e => (e0.bs b o e).1
  have inK : K.In s.heap := e0.mod.kin.keeps there
  refine codeAny_call_function room.depth (inK _ _ lk) rfl S.co S.gen rfl (PySem.W.codeRec_of inK hcd) (binds _ _ _ _ ?_)
  have kinds : ∀ y ∈ ps.zip us, (defScope st).names.lookup y.1 = some .local ∨ ((defScope st).names.lookup y.1 = some .cell ∧ ((cellsFrom (s.heap.objs.size + 1) (defScope st).names []).lookup y.1).isSome = true) := by
    rintro ⟨n, v⟩ hy
    cases S.par n (List.of_mem_zip hy).1 with
    | inl z => exact .inl z
    | inr z => exact .inr ⟨z, PySem.W.cellsFrom_some _ _ _ (.inl z)⟩
  refine wpAny_newFunctionEnv_cells S.kind kinds fun env he s1 new => ?_
  subst he
  refine ⟨(e0.mod.nolimit.keeps there).keeps new.toInCall.keep, codeAny_func ?_⟩
  obtain ⟨t, body, wish⟩ := hb0 cdv s H vs Q E (room.deeper _) q
  have inv : Inv (cxOf CX P w K mg base N qual (defScope st) f cdv callerA [] s H E) [] (start N vs) H s1 := inv_start S room.hd e0 (len _ _ _ _ q) vals new
  refine wpAny_mono (body.run [] s1 (start N vs) H _ inv wish) ?_ fun _ _ z => z
  intro fl s2 z
  cases fl with
  | next => obtain ⟨_, H2, J, z⟩ := z; exact ⟨.non, H2, J.os, J.bare, J.base, J.hok, rfl, z⟩
  | ret u => obtain ⟨v, _, H2, J, rv, z⟩ := z; exact ⟨v, H2, J.os, J.bare, J.base, J.hok, rv, z⟩
  | brk => obtain ⟨_, _, _, z⟩ := z; exact z.elim
  | cont => obtain ⟨_, _, _, z⟩ := z; exact z.elim
/-- the law's def keeps what its body's function says -/
theorem defTop {x qual : Str} {st : Stmt} {f : Addr} {fd : FuncData} {N ps : List Str} {k : Nat} {m : MS} (F : Fun K x qual st f fd) (S : FnScope N ps (defScope st))
    (hbody : ∀ (cdv : Value) (A : Around) (outer : List Env) (s : Shared) (H : Hp) (E : XK), A.guards = some [] → Room k (A.deeper (envOfC qual (defScope st) s.heap.objs.size f cdv)) →
      PSs (cxOf (L2.CX P w) P w K mg base N qual (defScope st) f cdv A outer s H E) (defBody st) (tS K cA E m)) : TopOk P w K mg base (L2.CX P w) (k + 1) f fd ps (spM K cA (bodyF N.length m) ps.length) :=
  top_run F S (fun vs H Q E h => h.1) fun cdv s H vs Q E hr h => by
    obtain ⟨hl, ρ, S0, ds, hS, hrep, h⟩ := h
    refine ⟨tS K cA E m, hbody cdv callerA [] s H E rfl hr, ρ, S0, startL N.length ds, hS, start_rep hrep, (After.bind (rep := rS K) st_V h).imp fun b H1 h => ?_⟩
    obtain ⟨ρ1, S1, a, e1, hS1, ⟨hl1, hf⟩, h⟩ := h
    obtain ⟨fl, l1⟩ := a
    obtain ⟨g, σ1⟩ := b
    cases fl with
    | nx => cases g with
      | nx => exact After.same (rep := rV K) h hS1 rep_non'
      | _ => exact hf.elim
    | rt d => cases g with
      | rt v => exact After.same (rep := rV K) h hS1 hf
      | _ => exact hf.elim
    | bk => exact h.elim
    | ct => exact h.elim
theorem topA_of {k n : Nat} {f : Addr} {fd : FuncData} {ps : List Str} {F : List D → Store → R D} {CX : CXT} (h : TopOk P w K mg base CX k f fd ps (spM K cA F n)) : TopOk P w K mg base CX k f fd ps (spA K F n) :=
  ⟨fun vs H Q E q => h.len vs H Q E (q cA), fun s H args us vs Q E hr e b r q => h.run s H args us vs Q E hr e b r (q cA)⟩
end
/-- the law's call -/
theorem law_top {P : Program} {w : World} {K : PySem.W.Frag} {mg mb : Str → Option Value} {CX : CXT} {k : Nat} {fa a : Addr} {fd : FuncData} {x : Str} {sp : Sp} {s : Shared} {vs : List Value} {ns : List Int}
    (inK : K.In s.heap) (g1 : s.heap.Ns mainGlobals mg) (g2 : s.heap.Ns builtinsNs mb) (g3 : ∀ x : Str, x ≠ "__name__" → mb x = bootBuiltins x) (g4 : s.heap.NoLimit) (g5 : s.gens = #[])
    (la : s.heap.get? a = some { cls := .type "list", data := .seq vs.toArray }) (li : IntsAre vs ns) (ll : ns.length ≤ sizeLine) (room : Room k callerA)
    (F : ∀ base : Heap, K.In base → base.Ns mainGlobals mg → TopOk P w K mg base CX k fa fd [x] sp) (binds : ∀ (s : Shared) (u : Value), BindsTo s fd ⟨[u], []⟩ [(x, u)])
    (hsp : ∀ H : Hp, Only H → SqL K H a (ns.map V.int) → sp [.ref a] H (fun v _ => v = .bl true) fun _ _ _ => False)
    (hCX : ∀ H e s', CX [] H s (fun _ _ _ => False) e s' → False) :
    codeAny (model P w) callerA (.call (.ref fa) ⟨[.ref a], []⟩) (fun r s' => r = .ok (.ret (.bool true)) ∧ OldK s.heap s'.heap ∧ s'.os = s.os ∧ AllBare s'.gens) s := by
  -- what is tracked: at most the script
  have main : ∀ H : Hp, (∀ b, H b = none ∨ (b = a ∧ K.lookup a = none ∧ H b = some (.frz { cls := .type "list", data := .seq vs.toArray } (.lst (ns.map V.int))))) → SqL K H a (ns.map V.int) →
      codeAny (model P w) callerA (.call (.ref fa) ⟨[.ref a], []⟩) (fun r s' => r = .ok (.ret (.bool true)) ∧ OldK s.heap s'.heap ∧ s'.os = s.os ∧ AllBare s'.gens) s := by
    intro H sh sq
    have stays : ∀ {b : Addr} {o : Obj}, s.heap.get? b = some o → (b = a → K.lookup a = none → False) → (hidT s.heap H).get? b = some o := fun {b o} e ne => by
      rcases sh b with z | ⟨z, z2, _⟩
      · exact hidT_get e z
      · exact (ne z z2).elim
    have kb : K.In (hidT s.heap H) := fun b o e => stays (inK b o e) fun z z2 => by subst z; rw [e] at z2; cases z2
    have nb : ∀ {b : Addr} {m : Str → Option Value}, s.heap.Ns b m → (hidT s.heap H).Ns b m := fun {b m} ⟨o, es, ep, e, d, r⟩ => ⟨o, es, ep, stays e (fun z _ => by
      subst z
      have q := e.symm.trans la
      cases q
      cases (show Data.seq vs.toArray _ = Data.dict es ep from d)), d, r⟩
    have hok : HOk P w H s.heap := fun b u e => by
      rcases sh b with z | ⟨z, _, z3⟩
      · rw [z] at e; cases e
      · rw [z3] at e
        cases e
        subst z
        exact ⟨la, by rw [List.length_map]; exact ll, vs, _, vals_ints li, la⟩
    have e0 : Env0 P w K mg (hidT s.heap H) callerA [] s H :=
      { frames := rfl, mod := ⟨kb, nb g1, ⟨mb, nb g2, g3⟩, by obtain ⟨mc, c1, c2⟩ := g4; exact ⟨mc, nb c1, c2⟩⟩, bs := fun _ _ e => of_hidT e, bsz := by rw [hidT_size]; exact Nat.le_refl _, funs := trivial,
        frf := fun b hb => absurd (show b ∈ ([] : List Addr) from hb) List.not_mem_nil, hok := hok, bare := .of_eq g5 }
    have only : Only H := fun b => (sh b).imp id fun z => ⟨_, _, z.2.2⟩
    refine codeAny_mono ((F _ kb (nb g1)).run s H ⟨[.ref a], []⟩ [.ref a] [.ref a] _ _ room e0 (binds s (.ref a)) (.cons rfl .nil) (hsp H only sq)) ?_
    intro r s' z
    cases r with
    | error e => exact (hCX H e s' z).elim
    | ok fl => cases fl with
      | ret u =>
        obtain ⟨v, H', os, bare, un, hok', rv, q⟩ := z
        cases (show v = .bl true from q)
        cases (show u = Value.bool true from rv)
        refine ⟨rfl, OldK.of_keep fun b o e => ?_, os, bare⟩
        rcases sh b with n | ⟨_, _, n⟩
        · exact un.keep b o e n (fun z => absurd (show b ∈ ([] : List Addr) from z) List.not_mem_nil) (by simp)
        · obtain ⟨c1, _⟩ := hok b _ n
          obtain ⟨c2, _⟩ := hok' b _ (un.frzs b _ _ n)
          rw [c1] at e
          cases e
          exact c2
      | next => exact (show False from z).elim
      | brk => exact (show False from z).elim
      | cont => exact (show False from z).elim
  by_cases hk : K.lookup a = none
  · refine main (fun b => if b = a then some (.frz { cls := .type "list", data := .seq vs.toArray } (.lst (ns.map V.int))) else none) (fun b => ?_) (.inl (.inr ⟨_, if_pos rfl⟩))
    by_cases hb : b = a
    · exact .inr ⟨hb, hk, if_pos hb⟩
    · exact .inl (if_neg hb)
  · obtain ⟨o, ho⟩ := Option.ne_none_iff_exists'.mp hk
    have e := inK a o ho
    rw [la] at e
    cases e
    exact main (fun _ => none) (fun _ => .inl rfl) (.inr ⟨_, vs.toArray, _, ho, rfl, rfl, rfl, by rw [List.size_toArray, li.length]; exact ll, by simpa using vals_ints li⟩)
theorem walk_top {l : PySem.W.OpenLaw} {n k : Nat} {q : Program} {loose : List Str} {XP : (Str → Option Value) → Heap → Prop} {YP : World → Heap → Prop} {d : DefRec} {K : Params → PySem.W.Frag} {CX : World → CXT} {sp : World → Sp} {x : Str}
    (hn : l.most = some n) (hn2 : n ≤ sizeLine) (hdf : d.params.defaults = []) (hr : Room k callerA) (hY : ∀ (w : World) (h : Heap), YP w h → (K w.params).In h)
    (F : ∀ (w : World) (mg : Str → Option Value) (fa : Addr) (h : Heap), (K w.params).In h → h.Ns mainGlobals mg → mg d.name = some (.ref fa) →
      ∃ fd : FuncData, (∀ (s : Shared) (u : Value), BindsTo s fd ⟨[u], []⟩ [(x, u)]) ∧ ∀ base : Heap, (K w.params).In base → base.Ns mainGlobals mg → TopOk l.prog w (K w.params) mg base (CX w) k fa fd [x] (sp w))
    (hsp : ∀ (w : World) (H : Hp) (a : Addr) (ns : List Int), ns.length ≤ n → Only H → SqL (K w.params) H a (ns.map V.int) → sp w [.ref a] H (fun v _ => v = .bl true) fun _ _ _ => False)
    (hCX : ∀ (w : World) (H : Hp) (s : Shared) (e : Value) (s' : Shared), CX w [] H s (fun _ _ _ => False) e s' → False) : PySem.W.WalkO q loose XP YP l.row.toRowW d [] (fun f vs => PySem.call f vs) := by
  refine Att.attach_call hn hdf ?_
  intro w s₀ s₁ mg mb fa o pm cd doc a vs ns G Y _ _ _ hmg la li ll g5
  obtain ⟨fd, hb, hF⟩ := F w mg fa _ (hY w _ Y) G.T.g hmg
  exact law_top (hY w _ Y) G.T.g G.T.b G.T.builtins G.T.nolimit g5 la li (Nat.le_trans ll hn2) hr hF hb (fun H o s => hsp w H a ns ll o s) (fun H e s' => hCX w H s₁ e s')
end ML

set_option Elab.async false
set_option linter.all false
set_option maxRecDepth 100000
set_option autoImplicit false
/-! ML20: len(set(x)) of a tuple or list of texts: how many there are, each counted once. -/
namespace ML
open PySem PySem.Spec L2
/-- each one once, as they come -/
def uqs {α : Type} [DecidableEq α] (l : List α) : List α := l.foldl (fun acc x => if x ∈ acc then acc else acc ++ [x]) []
theorem uqs_snoc {α : Type} [DecidableEq α] (l : List α) (x : α) : uqs (l ++ [x]) = if x ∈ uqs l then uqs l else uqs l ++ [x] := by
  unfold uqs
  rw [List.foldl_append]
  rfl
theorem mem_uqs {α : Type} [DecidableEq α] (l : List α) (x : α) : x ∈ uqs l ↔ x ∈ l := by
  have gen : ∀ (n : Nat) (l : List α), l.length = n → ∀ x, x ∈ uqs l ↔ x ∈ l := by
    intro n
    induction n with
    | zero => intro l hl x; have := List.length_eq_zero_iff.mp hl; subst this; exact Iff.rfl
    | succ n ih =>
      intro l hl x
      obtain ⟨r, y, rfl⟩ : ∃ r y, l = r ++ [y] := ⟨l.dropLast, l.getLast (by rintro rfl; simp at hl), (List.dropLast_concat_getLast _).symm⟩
      have hr : r.length = n := by simpa using hl
      rw [uqs_snoc]
      split
      · rename_i q
        rw [ih r hr]
        have := (ih r hr y).mp q
        simp
        rintro rfl
        exact this
      · simp [ih r hr]
  exact gen _ l rfl x
theorem uqs_le {α : Type} [DecidableEq α] (l : List α) : (uqs l).length ≤ l.length := by
  have gen : ∀ (n : Nat) (l : List α), l.length = n → (uqs l).length ≤ n := by
    intro n
    induction n with
    | zero => intro l hl; have := List.length_eq_zero_iff.mp hl; subst this; exact Nat.le_refl _
    | succ n ih =>
      intro l hl
      obtain ⟨r, y, rfl⟩ : ∃ r y, l = r ++ [y] := ⟨l.dropLast, l.getLast (by rintro rfl; simp at hl), (List.dropLast_concat_getLast _).symm⟩
      have hr : r.length = n := by simpa using hl
      have := ih r hr
      rw [uqs_snoc]
      split
      · omega
      · simp; exact this
  exact gen _ l rfl
theorem uqs_nodup {α : Type} [DecidableEq α] {l : List α} (h : l.Nodup) : uqs l = l := by
  have gen : ∀ (n : Nat) (l : List α), l.length = n → l.Nodup → uqs l = l := by
    intro n
    induction n with
    | zero => intro l hl _; have := List.length_eq_zero_iff.mp hl; subst this; rfl
    | succ n ih =>
      intro l hl hd
      obtain ⟨r, y, rfl⟩ : ∃ r y, l = r ++ [y] := ⟨l.dropLast, l.getLast (by rintro rfl; simp at hl), (List.dropLast_concat_getLast _).symm⟩
      have hr : r.length = n := by simpa using hl
      rw [List.nodup_append] at hd
      have ny : y ∉ r := fun q => (hd.2.2 y q y (by simp)) rfl
      rw [uqs_snoc, ih r hr hd.1, if_neg ny]
  exact gen _ l rfl h
section
variable {prog : Program} {w : World} {A : Around} {R : Result → Shared → Prop} {I : Addr} {fp wr : List Addr} {G : Array GenState → Array GenState → Prop} {n : Nat} {P : Nat → Value → Prop} {St : Nat → Shared → Prop}
/-- the adding, one by one -/
theorem set_adds (W : WalksS prog w A.in1 I fp wr G n P St) (T : Addr) (off : T ∉ fp) (xs : List Str) (len : xs.length = n) (room : n + 1 < scanBound) (val : ∀ i v, P i v → ∃ t, v = .str (xs.getD i Str.empty) t) :
    ∀ (k i : Nat) (s : Shared), n - i = k → i ≤ n → St i s → s.heap.SetOf (PySem.strKind prog w) T (fun y => decide (y ∈ xs.take i)) (uqs (xs.take i)).length →
      (∀ s', Moved (T :: wr) G s s' → s'.heap.SetOf (PySem.strKind prog w) T (fun y => decide (y ∈ xs)) (uqs xs).length → R (.ok (.ret .none)) s') →
      codeAny (model prog w) A (.builtin "set.update.loop" ⟨[.ref T, .ref I], []⟩) R s := by
  have off2 : T ∉ wr := fun h => off (W.sub _ h)
  have more : ∀ b ∈ wr, b ∈ T :: wr := fun b hb => List.mem_cons_of_mem _ hb
  have keep : ∀ {s s' : Shared} {i : Nat}, Moved wr G s s' → s.heap.SetOf (PySem.strKind prog w) T (fun y => decide (y ∈ xs.take i)) (uqs (xs.take i)).length → s'.heap.SetOf (PySem.strKind prog w) T (fun y => decide (y ∈ xs.take i)) (uqs (xs.take i)).length := fun {s s' i} hm hS => by
    obtain ⟨o, es, ep, t, ho, rest⟩ := hS
    exact ⟨o, es, ep, t, hm.heap T _ off2 ho, rest⟩
  intro k
  induction k with
  | zero =>
    intro i s hk hi hst hS hR
    have : i = n := by omega
    subst this
    refine codeAny_builtin PyProof.Rows.F.entry_set_update_loop ?_
    rw [Around.under_plainId PyProof.Rows.F.plain_set_update_loop _]
    show wpAny _ A.in1 (pyNext (.ref I) >>= _) _ _ s
    refine wpAny_bind (W.done s _ _ hst fun s' hm => ?_)
    show wpAny _ A.in1 (ret Value.none) _ _ s'
    have e := keep hm hS
    rw [List.take_of_length_le (by omega)] at e
    exact wpAny_pure (hR s' (hm.mono more) e)
  | succ k ih =>
    intro i s hk hi hst hS hR
    have lt : i < n := by omega
    refine codeAny_builtin PyProof.Rows.F.entry_set_update_loop ?_
    rw [Around.under_plainId PyProof.Rows.F.plain_set_update_loop _]
    show wpAny _ A.in1 (pyNext (.ref I) >>= _) _ _ s
    refine wpAny_bind (W.item i s _ _ lt hst fun v s' hP hst' hm => ?_)
    obtain ⟨t, rfl⟩ := val i v hP
    show wpAny _ A.in1 (holding [Value.str (xs.getD i Str.empty) t] (setAdd T (.str (xs.getD i Str.empty) t)) >>= _) _ _ s'
    refine wpAny_bind (wpAny_holding ?_)
    unfold setAdd
    refine wpAny_holding ?_
    refine wpAny_bind ((PySem.strKind prog w).pyHash (k := xs.getD i Str.empty) (strKind_is _ _ _ _) ?_)
    have few : (uqs (xs.take i)).length ≤ n := Nat.le_trans (uqs_le _) (by rw [List.length_take]; omega)
    refine wpAny_setAddHashed_of (knd := PySem.strKind prog w) (s := { s' with toks := s'.toks + 1 }) (strKind_is _ _ _ _) rfl (show s'.heap.SetOf _ _ _ _ from keep hm hS) (by omega) fun h' same hS2 => ?_
    have hx : xs[i]? = some (xs.getD i Str.empty) := by
      rw [List.getD_eq_getElem?_getD]
      have : i < xs.length := by omega
      rw [List.getElem?_eq_getElem this]
      rfl
    have hS3 : h'.SetOf (PySem.strKind prog w) T (fun y => decide (y ∈ xs.take (i + 1))) (uqs (xs.take (i + 1))).length := by
      refine PyProof.Rows.SetOf_congr hS2 (fun y => ?_) ?_
      · rw [List.take_add_one, hx]
        simp [List.mem_append]
      · rw [List.take_add_one, hx]
        show _ = (uqs (xs.take i ++ [xs.getD i Str.empty])).length
        rw [uqs_snoc]
        by_cases q : xs.getD i Str.empty ∈ xs.take i
        · rw [if_pos (decide_eq_true q), if_pos ((mem_uqs _ _).mpr q)]
        · rw [if_neg (by simpa using q), if_neg (fun z => q ((mem_uqs _ _).mp z)), List.length_append]
          rfl
    refine wpAny_pure ⟨plainId_quiet PyProof.Rows.F.plain_set_update_loop _, ih (i + 1) _ (by omega) lt (W.frame _ s' _ _ hst' (Nat.le_succ _) fun b hb o e => ?_) hS3 fun s2 hm2 hS4 => ?_⟩
    · rw [same.2 b (fun h : b = T => off (by rw [← h]; exact hb))]; exact e
    · refine hR s2 (Moved.trans W.gtrans ((hm.mono more).then_heap (Nat.le_succ _) fun b o hb e => ?_) hm2) hS4
      rw [same.2 b (fun h : b = T => hb (by rw [h]; exact List.mem_cons_self))]; exact e
end
section
variable {prog : Program} {w : World} {A : Around} {E : Value → Shared → Prop} {s : Shared}
set_option maxHeartbeats 3200000 in
/-- set(t), t a tuple of texts -/
theorem set_of_tup {l : Addr} {items : Array Value} {xs : List Str} {Q : Value → Shared → Prop} (hh : A.handled = none) (hl : s.heap.IsTuple l items) (hi : PyProof.Rows.StrsAre items.toList xs) (room : xs.length + 1 < scanBound)
    (h : ∀ (h' : Heap) (tk : Nat), h'.SetOf (PySem.strKind prog w) s.heap.objs.size (fun y => decide (y ∈ xs)) (uqs xs).length → (∀ b o, b < s.heap.objs.size → s.heap.get? b = some o → h'.get? b = some o) → Q (.ref s.heap.objs.size) { s with heap := h', toks := tk }) :
    wpAny (model prog w) A (call (.type "set") [.ref l]) Q E s := by
  obtain ⟨c, tl, mro⟩ := PySem.F.called_set.mro
  have made := PySem.F.called_set.made
  have sub := PySem.F.called_set.sub
  refine wpAny_call (codeAny_of_tree ?_)
  show wpAny _ _ (callAny (.type "set") _) _ _ _
  refine wpAny_pure ⟨Code.quiet_builtin _ (by decide +kernel), codeAny_builtin PySem.F.entry_type_call ?_⟩
  rw [Around.under_plain (weight_type_call_type "set" [.ref l] []) rfl]
  have f1 := PySem.F.called_set.notType
  have f2 := PySem.F.called_set.canCreate
  have f3 := PySem.F.typeCall_set_1 (.ref l)
  repeat (any_goals (first | assumption | wp_step))
  refine codeAny_mono (code_set_new_1 (.ref l) (E := E) (Q₁ := fun obj s₁ => ∃ led : Bool, obj = .ref s.heap.objs.size ∧ s₁ = { s with heap := s.heap.push { cls := .type "set", dict := none, data := .set #[] 0 (.fresh 0 0 led) } }) fun led => ⟨led, rfl, rfl⟩) fun r s₁ hr => ?_
  cases r with
  | error e => exact hr
  | ok fl => cases fl with
    | ret obj =>
      obtain ⟨led, rfl, rfl⟩ := hr
      obtain ⟨h0, hh0⟩ : ∃ h0, s.heap.push { cls := .type "set", dict := none, data := .set #[] 0 (.fresh 0 0 led) } = h0 := ⟨_, rfl⟩
      have at0 : h0.get? s.heap.objs.size = some { cls := .type "set", dict := none, data := .set #[] 0 (.fresh 0 0 led) } := by rw [← hh0]; exact Heap.get?_push_size _ rfl
      have up0 : ∀ {b o}, s.heap.get? b = some o → h0.get? b = some o := fun e => by rw [← hh0]; exact Heap.get?_push_of_some _ e
      have z0 : h0.objs.size = s.heap.objs.size + 1 := by rw [← hh0]; exact Heap.size_push ..
      rw [hh0]
      have ty : Shared.TypeIs { s with heap := h0 } (.ref s.heap.objs.size) "set" := ⟨_, at0, rfl⟩
      have g1 := PySem.F.called_set.init.lookup
      have g2 := PySem.F.called_set.init.bind (.ref s.heap.objs.size)
      repeat (any_goals (first | assumption | wp_step))
      refine codeAny_mono (codeAny_call_builtin (R := wants (fun r s₂ => r = .none ∧ ∃ h' tk, s₂ = { s with heap := h', toks := tk } ∧ h'.SetOf (PySem.strKind prog w) s.heap.objs.size (fun y => decide (y ∈ xs)) (uqs xs).length ∧ (∀ b o, b < s.heap.objs.size → s.heap.get? b = some o → h'.get? b = some o)) E)
        PySem.F.called_set.init.plain PySem.F.entry_set_init (check_set_init_1 ty ?_)) fun r₂ s₂ hr₂ => ?_
      · obtain ⟨ol, hol, hcl, nl, hdl⟩ := hl
        obtain ⟨ocls, odict, odata, oslots⟩ := ol
        simp only at hcl hdl
        subst hcl hdl
        have hol2 := up0 hol
        have k1 := PySem.F.sub_tuple_set
        have k2 := PySem.F.sub_tuple_frozenset
        have k3 : (Value.type "tuple" == Value.type "dict") = false := by decide
        have tup0 : h0.IsTuple l items := ⟨_, hol2, rfl, nl, rfl⟩
        unfold Builtin.«set.__init__» noKeywords Builtin.Frozenset.updateFrom
        generalize hPI : pyIter = PI
        wp_walk
        subst hPI
        refine wpAny_pyIter_tuple tup0 ?_
        refine wpAny_bind (wpAny_runValue ?_)
        have ll : l < s.heap.objs.size := Heap.lt_size hol
        have len : xs.length = items.size := by rw [← PyProof.Rows.StrsAre.len_eq hi, Array.length_toList]
        refine set_adds (A := A.in1.in1) ((Walks.tuple (by simp [hh]) _ l (Nat.ne_of_lt (show l < h0.objs.size by rw [z0]; exact Nat.lt_succ_of_lt ll)) items).toS) s.heap.objs.size (show s.heap.objs.size ∉ [h0.objs.size, l] by rw [z0]; simp; exact Nat.ne_of_gt ll) xs len (by omega) (fun i v hv => SS.strs_at hi i v (by rw [Array.getElem?_toList]; exact hv)) (items.size - 0) 0 _ (by omega) (Nat.zero_le _)
          ⟨⟨_, Heap.get?_push_size _ rfl, rfl, rfl⟩, (tup0.push _)⟩ ?_ ?_
        · have at1 : (h0.push { cls := .type "tuple_iterator", data := .fields #[.ref l, .int 0 0] }).get? s.heap.objs.size = some { cls := .type "set", dict := none, data := .set #[] 0 (.fresh 0 0 led) } := Heap.get?_push_of_some _ at0
          exact PyProof.Rows.SetOf_congr ((PyProof.Rows.setObjOf_fresh (knd := PySem.strKind prog w) led).setOf at1 (by unfold scanBound; omega)) (fun _ => by simp) rfl
        · intro s' hm hS'
          obtain ⟨h', g', d', tk', os'⟩ := s'
          cases (show g' = s.gens from hm.gens)
          cases (show d' = s.drawn from hm.drawn)
          cases (show os' = s.os from hm.os)
          show wpAny _ _ _ _ _ _
          refine wpAny_pure ?_
          show wpAny _ _ (ret Value.none) _ _ _
          refine wpAny_pure ⟨rfl, h', tk', rfl, hS', fun b o hb e => hm.heap b o ?_ (Heap.get?_push_of_some _ (up0 e))⟩
          show b ∉ [s.heap.objs.size, h0.objs.size]
          rw [z0]
          simp
          exact ⟨Nat.ne_of_lt hb, Nat.ne_of_lt (Nat.lt_succ_of_lt hb)⟩
      · cases r₂ with
        | error e => exact hr₂
        | ok fl₂ => cases fl₂ with
          | ret r =>
            obtain ⟨rfl, h', tk, rfl, hS', hk'⟩ := hr₂
            repeat (any_goals (first | assumption | wp_step))
            exact h _ _ hS' hk'
          | _ => exact hr₂.elim
    | _ => exact hr.elim
end
/-- len(set(e)) -/
def lenSetD (d : D) (S : Store) : R D := match d with
  | .tup xs => match mapO strO xs with
    | some zs => if zs.length < 1000 then .ok (.int ((uqs zs).length : Nat)) S else .bad
    | none => .bad
  | _ => .bad
def lenSetE (m : ME) : ME := fun l S => (m l S).bind lenSetD
section
variable {X : Cx} {cA : Nat → Addr} {W : XK} {m : ME} {K : PySem.W.Frag} {ρ : List Addr} {H : Hp}
open PyProof.Rows in
theorem mlenset {a : Expr} {p p2 q pos : Pos} (hc : X.calm = true) (hg : Gl X "len") (hm : X.mg "len" = none) (hg2 : Gl X "set") (hm2 : X.mg "set" = none) (ha : PE X a (tE X.K cA W m))
    (na : starEach [a] X.env = (false, eval a X.env) :: starEach [] X.env := by rfl) : PE X (.Call (.Name "len" p) [.Call (.Name "set" p2) [a] [] q] [] pos) (tE X.K cA W (lenSetE m)) := by
  refine ⟨fun pins s σ H Q I h => ?_⟩
  refine Call_ (ld_blt I hg hm boot_len ?_)
  refine PyProof.Rows.callWith_builtin1 (PyProof.Rows.args_cons ?_ rfl) rfl rfl
  refine Call_ (ld_blt I hg2 hm2 boot_set ?_)
  refine PyProof.Rows.callWith_type1 (PyProof.Rows.args_cons (thn (ha.run pins s σ H _ I (bind1 (rep1 := rV X.K) st_V h)) fun v s1 ⟨x, H1, I1, r1, q1⟩ => PyProof.Rows.args_nil ?_) na) na rfl
  obtain ⟨ρ, S, d, hS, hr, q1⟩ := q1
  unfold lenSetD at q1
  split at q1
  · rename_i xs
    split at q1
    · rename_i zs ez
      split at q1
      · rename_i few
        have q2 : Q (.int ((uqs zs).length : Nat)) H1 := After.same (rep := rV X.K) q1 hS (by unfold rV RepV; rfl)
        unfold rV RepV at hr
        obtain ⟨l, vs, rfl, hq, hrs⟩ := hr
        have ev := strs_rep ez hrs
        subst ev
        cases r1
        obtain ⟨its, r, pl, hz⟩ := I1.tuple hq
        have le := uqs_le zs
        refine set_of_tup (I1.ok.hd hc) pl (by simpa using L2.strsAre_of r) (by unfold scanBound; omega) fun h' tk hS' hk => ?_
        refine PyProof.Rows.args_nil ?_
        obtain ⟨o, es, ep, t, ho, hex, hd, _, _, _, hf, hn⟩ := hS'
        have I2 : Inv X pins σ H1 { s1 with heap := h', toks := tk } := I1.kept fun b o e => hk b o (Heap.lt_size e) e
        exact call_len_set ho hex hd hf (by rw [hn]; omega) ⟨.int (uqs zs).length, H1, I2.tok _, ⟨_, by rw [hn]⟩, q2⟩
      · exact q1.elim
    · exact q1.elim
  · exact q1.elim
end
end ML

set_option Elab.async false
set_option linter.all false
set_option maxRecDepth 100000
set_option autoImplicit false
/-! ML18: str(..) of a tuple at the top, join of a list that stands, tuples of texts at the module, defs that call themselves. -/
namespace ML
open PySem PySem.Spec L2
/-! ### str(t) -/
def strT (ds : List D) (S : Store) : R D := match ds with
  | [.tup xs] => match toPy S 64 (.tup xs) with
    | some p => if p.canLay0 = true ∧ p.depth ≤ 64 ∧ PyData.showable p = true ∧ (PyData.shown p).length ≤ sizeLine then .ok (.str (PyData.shown p)) S else .bad
    | none => .bad
  | _ => .bad
section
variable {X : Cx} {cA : Nat → Addr} {W : XK} {K : PySem.W.Frag} {ρ : List Addr} {H : Hp}
theorem u100 {k : Nat} {A : Around} (r : Room k A) : A.units + 100 < cLine := by have := r.un; omega
theorem c_strT (hg : X.A.guards = some []) (hu : X.A.units + 100 < cLine) : CallR X (.type "str") (tN X.K cA W (rV X.K) strT) := by
  intro pins s σ H xs us Q I r h
  obtain ⟨ρ, S, ds, hS, hr, h⟩ := h
  unfold strT at h
  split at h
  · rename_i ys
    split at h
    · rename_i p ep
      split at h
      · rename_i hz
        obtain ⟨v, rfl, h1⟩ := one_rep hr
        have q : Q (.str (PyData.shown p)) H := After.same (rep := rV X.K) h hS (by unfold rV RepV; rfl)
        have dp := toPy_rep hS _ _ _ _ ep h1
        unfold RepV at h1
        obtain ⟨a, vs, rfl, _, _⟩ := h1
        cases r with
        | cons r rr =>
          cases rr
          cases r
          obtain ⟨as, rd⟩ := Dp.reads I p _ _ dp rfl
          exact _root_.PySem.str_of_reads rd hz.2.2.1 (_root_.PySem.PyData.noDict_hsm (PyData.hasDict_of_canLay p hz.1)) hg (by have := hz.2.1; omega) (fun _ _ e => e) (fun h' u tk hk => ⟨.str (PyData.shown p), H, I.kept (t' := tk) hk, ⟨_, rfl⟩, q⟩) hz.2.2.2
      · exact h.elim
    · exact h.elim
  · exact h.elim
/-! ### join of a list or tuple that stands -/
def joinV (m n : ME) : ME := fun l S => (m l S).bind fun d S1 => match strO d with
  | some a => (n l S1).bind fun d2 S2 => match seqOf S2 d2 with
    | some ds => match mapO strO ds with
      | some ys => if (ys.map (·.length)).sum + ys.length * a.length ≤ 16777216 then .ok (.str (Str.join a ys)) S2 else .bad
      | none => .bad
    | none => .bad
  | none => .bad
end
section
variable {X : Cx} {cA : Nat → Addr} {W : XK} {o e : Expr} {m n : ME} {apos cpos : Pos}
theorem mjoinV (ho : PE X o (tE X.K cA W m)) (he : PE X e (tE X.K cA W n)) (hs : starEach [e] X.env = [(false, eval e X.env)] := by rfl) (hbase : attributeBase o "join" X.env (eval o X.env) = eval o X.env := by rfl) (hline : (apos.endLine == cpos.line) = true := by rfl) :
    PE X (.Call (.Attribute o "join" apos) [e] [] cpos) (tE X.K cA W (joinV m n)) :=
  (pe_join ho he hs hbase hline).imp fun σ H Q h => (bind1L (rep1 := rV X.K) st_V h).imp fun v H1 h => by
    obtain ⟨ρ, S, l, d, hS, hl, hr, h⟩ := h
    split at h
    · rename_i a e1
      cases d with
      | str b =>
        cases e1
        unfold rV RepV at hr
        subst hr
        refine ⟨⟨a, rfl⟩, ρ, S, l, hS, hl, (After.bind (rep := rV X.K) st_V h).imp fun us H2 h => ?_⟩
        obtain ⟨ρ2, S2, d2, e2, hS2, hr2, h⟩ := h
        split at h
        · rename_i ds e3
          split at h
          · rename_i ys e4
            split at h
            · rename_i hz
              cases d2 with
              | tup xs =>
                cases e3
                unfold rV RepV at hr2
                obtain ⟨p, vs, rfl, h1, h2⟩ := hr2
                have := strs_rep e4 h2
                subst this
                refine ⟨a, p, ys, rfl, rfl, .inr h1, hz, ?_⟩
                rw [show Txt.join a ys = Str.join a ys from PySem.StrLaws.glued_eq_join a ys]
                exact h.same hS2 (by unfold rV RepV; rfl)
              | lis xs =>
                cases e3
                unfold rV RepV at hr2
                obtain ⟨p, vs, rfl, h1, h2⟩ := hr2
                have := strs_rep e4 h2
                subst this
                refine ⟨a, p, ys, rfl, rfl, .inl h1.sq, hz, ?_⟩
                rw [show Txt.join a ys = Str.join a ys from PySem.StrLaws.glued_eq_join a ys]
                exact h.same hS2 (by unfold rV RepV; rfl)
              | ref k =>
                obtain ⟨p, vs, rfl, _, h1, h2⟩ := rlst_rep hS2 hr2 e3
                have := strs_rep e4 h2
                subst this
                refine ⟨a, p, ys, rfl, rfl, .inl (SqL.of h1), hz, ?_⟩
                rw [show Txt.join a ys = Str.join a ys from PySem.StrLaws.glued_eq_join a ys]
                exact h.same hS2 (by unfold rV RepV; rfl)
              | _ => cases e3
            · exact h.elim
          · exact h.elim
        · exact h.elim
      | _ => cases e1
    · exact h.elim
/-! ### a tuple of texts at the module -/
theorem reps_strs {K : PySem.W.Frag} {ρ : List Addr} {H : Hp} : ∀ zs : List Str, RepVs K ρ H (zs.map D.str) (zs.map V.str)
  | [] => .nil
  | z :: zs => .cons (by unfold RepV; rfl) (reps_strs zs)
theorem mgstrs {x : Str} {pos : Pos} (zs : List Str) (hg : Gl X x) (hm : ∃ a, X.mg x = some (.ref a) ∧ ∀ H, SqT X.K H a (zs.map V.str)) (hd : (x == ("__debug__" : Str)) = false := by decide) : PE X (.Name x pos) (tE X.K cA W (conE (.tup (zs.map D.str)))) := by
  obtain ⟨a, hm, hs⟩ := hm
  exact mgtup hg hm hs (fun ρ H => reps_strs zs) hd
theorem sqt_strs {K : PySem.W.Frag} {a : Addr} {n : Nat} {d : Option Addr} {z : Array (Option Value)} {its : Array Value} (l : K.lookup a = some ⟨.type "tuple", d, .seq its n, z⟩) (zs : List Str) (hz : its.size ≤ sizeLine) (h : Vals (zs.map V.str) its.toList) (H : Hp) : SqT K H a (zs.map V.str) :=
  .inr ⟨_, its, n, l, rfl, rfl, hz, h⟩
/-! ### a def that calls itself: the lowest level promises nothing -/
def badF : List D → Store → R D := fun _ _ => .bad
theorem ok_bad {P : Program} {w : World} {K : PySem.W.Frag} {mg : Str → Option Value} {base : Heap} {CX : CXT} {k : Nat} {f : Addr} {fd : FuncData} {ps : List Str} {n : Nat} (h : n = ps.length) : FnOk P w K mg base CX k f fd ps (spM K cA badF n) :=
  ⟨fun vs H Q E q => q.1.trans h, fun A outer s H args us vs Q E hr e b r q => by
    obtain ⟨_, ρ, S, l, _, _, q⟩ := q
    exact q.elim⟩
end
end ML

set_option Elab.async false
set_option linter.all false
set_option maxRecDepth 100000
set_option autoImplicit false
/-! ML21: parts of written tuples, words, lists gone through while the store grows. -/
namespace ML
open PySem PySem.Spec L2
theorem ofS_eq (a b : String) : (Str.ofString a = Str.ofString b) ↔ a = b := by
  constructor
  · intro h
    have := beq_of a b
    rw [h] at this
    simp at this
    exact this
  · intro h; rw [h]
theorem at0 (a : D) (r : List D) : atI (a :: r) 0 = some a := L2.atI_nat (j := 0) rfl
theorem at1 (a b : D) (r : List D) : atI (a :: b :: r) 1 = some b := L2.atI_nat (j := 1) rfl
theorem at2 (a b c : D) (r : List D) : atI (a :: b :: c :: r) 2 = some c := L2.atI_nat (j := 2) rfl
theorem at3 (a b c d : D) (r : List D) : atI (a :: b :: c :: d :: r) 3 = some d := L2.atI_nat (j := 3) rfl
theorem at4 (a b c d e : D) (r : List D) : atI (a :: b :: c :: d :: e :: r) 4 = some e := L2.atI_nat (j := 4) rfl
theorem at5 (a b c d e f : D) (r : List D) : atI (a :: b :: c :: d :: e :: f :: r) 5 = some f := L2.atI_nat (j := 5) rfl
theorem x_inNilS (a : Str) (S : Store) : inD (.str a) (.tup []) S = .ok false S := rfl
theorem x_inNilI (a : Int) (S : Store) : inD (.int a) (.tup []) S = .ok false S := rfl
theorem x_inConsS (a b : Str) (ys : List D) (S : Store) : inD (.str a) (.tup (.str b :: ys)) S = (inD (.str a) (.tup ys) S).bind fun r S1 => .ok (decide (b = a) || r) S1 := by
  have e : eqV (.str b) (.str a) = decide (b = a) := by
    show (b == a) = _
    by_cases q : b = a <;> simp [q]
  unfold inD inO
  simp only [seqOf, mapO_cons, flatO]
  cases mapO flatO ys with
  | none => rfl
  | some vs =>
    simp only [inV, List.any_cons, e]
    rfl
theorem x_inConsI (a b : Int) (ys : List D) (S : Store) : inD (.int a) (.tup (.int b :: ys)) S = (inD (.int a) (.tup ys) S).bind fun r S1 => .ok (decide (b = a) || r) S1 := by
  have e : eqV (.int b) (.int a) = decide (b = a) := by
    show (b == a) = _
    by_cases q : b = a <;> simp [q]
  unfold inD inO
  simp only [seqOf, mapO_cons, flatO]
  cases mapO flatO ys with
  | none => rfl
  | some vs =>
    simp only [inV, List.any_cons, e]
    rfl
theorem x_ninD (x y : D) (S : Store) : notInD x y S = (inD x y S).bind fun r S1 => .ok (!r) S1 := by
  unfold notInD inD
  cases inO S x y <;> rfl
theorem compX {chk : Store → Prop} (mono : ∀ S X, chk S → chk (S ++ X)) {i : Nat} {m : ME} {l : Loc} (f : D → D) : ∀ (ds : List D), (∀ d ∈ ds, ∀ S, chk S → ∃ X, m (l.set i (some d)) S = .ok (f d) (S ++ X)) → ∀ acc S, chk S → acc.length + ds.length ≤ 16000000 → ∃ X, compL chk (.one i) yesM m l ds acc S = .ok (acc ++ ds.map f) (S ++ X)
  | [], _, acc, S, hk, _ => ⟨[], by rw [compL_nil hk]; simp⟩
  | d :: ds, h, acc, S, hk, hl => by
    obtain ⟨Y, eY⟩ := h d List.mem_cons_self S hk
    rw [List.length_cons] at hl
    obtain ⟨Z, eZ⟩ := compX mono f ds (fun x hx => h x (List.mem_cons_of_mem _ hx)) (acc ++ [f d]) (S ++ Y) (mono S Y hk) (by simp; omega)
    refine ⟨Y ++ Z, ?_⟩
    rw [compL_cons hk]
    simp only [Tgt.put, x_yes, R.bind_ok, if_true, eY]
    rw [if_pos (show _ < sizeLine by rw [sz]; omega), eZ]
    simp
/-- the same under what is known of the store -/
theorem compXI {chk Inv : Store → Prop} (mono : ∀ S X, chk S → chk (S ++ X)) (mono2 : ∀ S X, Inv S → Inv (S ++ X)) {i : Nat} {m : ME} {l : Loc} (f : D → D) : ∀ (ds : List D), (∀ d ∈ ds, ∀ S, Inv S → ∃ X, m (l.set i (some d)) S = .ok (f d) (S ++ X)) → ∀ acc S, chk S → Inv S → acc.length + ds.length ≤ 16000000 → ∃ X, compL chk (.one i) yesM m l ds acc S = .ok (acc ++ ds.map f) (S ++ X)
  | [], _, acc, S, hk, _, _ => ⟨[], by rw [compL_nil hk]; simp⟩
  | d :: ds, h, acc, S, hk, hi, hl => by
    obtain ⟨Y, eY⟩ := h d List.mem_cons_self S hi
    rw [List.length_cons] at hl
    obtain ⟨Z, eZ⟩ := compXI mono mono2 f ds (fun x hx => h x (List.mem_cons_of_mem _ hx)) (acc ++ [f d]) (S ++ Y) (mono S Y hk) (mono2 S Y hi) (by simp; omega)
    refine ⟨Y ++ Z, ?_⟩
    rw [compL_cons hk]
    simp only [Tgt.put, x_yes, R.bind_ok, if_true, eY]
    rw [if_pos (show _ < sizeLine by rw [sz]; omega), eZ]
    simp
theorem joinV_eq {m n : ME} {l : Loc} {S S1 : Store} {q : Nat} {ws : List Nat} (h1 : m l S = .ok (.str (Str.ofString "")) S) (h2 : n l S = .ok (.ref q) S1) (h3 : lstAt S1 q = some (ws.map sgn)) (h4 : ws.length ≤ 1000) : joinV m n l S = .ok (strD ws) S1 := by
  have e : (Str.ofString "").length = 0 := by rw [← cs_len, cs_of]; rfl
  unfold joinV
  simp only [h1, h2, R.bind_ok, x_strO, seqOf, h3, strO_sgns, sum_ones, e, Nat.mul_zero, Nat.add_zero]
  rw [if_pos (by omega)]
  have : Str.join (Str.ofString "") (ws.map fun c => (⟨#[c]⟩ : Str)) = mkS ws := cs_ext (by rw [cs_join1, cs_mkS])
  rw [this]
  rfl
theorem compT {chk : Store → Prop} (mono : ∀ S X, chk S → chk (S ++ X)) {i : Nat} {m : ME} {l : Loc} (ds : List D) (h : ∀ d ∈ ds, ∀ S, ∃ X, m (l.set i (some d)) S = .ok (.bl true) (S ++ X)) (S : Store) (hk : chk S) (hl : ds.length ≤ 16000000) : ∃ X, compL chk (.one i) yesM m l ds [] S = .ok (ds.map fun _ => .bl true) (S ++ X) := by
  obtain ⟨X, e⟩ := compX mono (fun _ => .bl true) ds (fun d hd S _ => h d hd S) [] S hk (by simpa using hl)
  exact ⟨X, by simpa using e⟩
theorem still_mono : ∀ S X : Store, still S → still (S ++ X) := fun _ _ _ => trivial
theorem lst_mono (n : Nat) (xs : List D) : ∀ S X : Store, lstAt S n = some xs → lstAt (S ++ X) n = some xs := fun S X h => lstAt_of (at_app (lstAt_some h))
end ML

set_option Elab.async false
set_option linter.all false
set_option maxRecDepth 100000
set_option autoImplicit false
/-! ML22: max(new list of numbers, default=number). -/
namespace ML
open PySem PySem.Spec L2 PyProof.Rows
def maxF (k : Int) : List Int → Int
  | [] => k
  | n :: ns => ns.foldl max n
def maxLD (k : Int) (ds : List D) (S : Store) : R D := match mapO intO ds with
  | some bs => .ok (.int (maxF k bs)) S
  | none => .bad
theorem depth_ints : ∀ ns : List Int, PyData.depthAll (ns.map .int) = 0
  | [] => rfl
  | n :: ns => by
    rw [List.map_cons, PyData.depthAll, depth_ints ns]
    rfl
section
variable {prog : Program} {w : World} {A : Around} {E : Value → Shared → Prop} {s : Shared} {l : Addr} {its : List Value} {ns : List Int} {Q : Value → Shared → Prop}
theorem max_raw_default {k : Int} {t0 : Tok} (hh : A.handled = none) (hl : s.heap.IsList l its.toArray) (hi : IntsAre its ns) (hu : A.units + 1 < cLine)
    (h : ∀ h' tk t', (∀ b o, s.heap.get? b = some o → h'.get? b = some o) → Q (.int (maxF k ns) t') { s with heap := h', toks := tk }) : wpAny (model prog w) A (call (.builtin "max") [.ref l] [(Str.ofString "default", .int k t0)]) Q E s := by
  refine PySem.W.max_list_default (xs := ns.map .int) hh hl (hi.reads _) ⟨?_, ?_⟩ (by rw [depth_ints]; exact hu) ?_ ?_
  · intro x hx y hy
    obtain ⟨a, _, rfl⟩ := List.mem_map.mp hx
    obtain ⟨b, _, rfl⟩ := List.mem_map.mp hy
    rfl
  · intro x hx
    obtain ⟨a, _, rfl⟩ := List.mem_map.mp hx
    intro e
    cases e
  · intro e h' tk hk
    have : ns = [] := by simpa using e
    subst this
    exact h h' tk t0 hk
  · intro y ys i v h' tk bs e hv hr hk
    cases ns with
    | nil => simp at e
    | cons n r =>
      rw [List.map_cons] at e
      cases e
      rw [PySem.W.maxD_ints] at hr
      cases hr with
      | int _ t => exact h h' tk t hk
end
section
variable {X : Cx} {cA : Nat → Addr} {W : XK} {pos p0 kpos cp : Pos} {e : Expr} {n : MA} {k : Int} {j : Nat}
def rMaxD (K : PySem.W.Frag) (cA : Nat → Addr) (W : XK) (k : Int) : List V → List V → Hp → VK → Prop := fun vs zs H Q =>
  ∃ ρ S ds p ws, Reps K cA ρ H S ∧ vs = [.ref p] ∧ SqL K H p ws ∧ RepVs K ρ H ds ws ∧ zs = [.int k] ∧ After K cA W ρ H (rV K) (maxLD k ds S) Q
theorem cr_maxD {kk : Nat} (hc : X.calm = true) (hr : Room kk X.A) : CallRK X (.builtin "max") [Str.ofString "default"] (rMaxD X.K cA W k) := by
  intro pins s σ H xs zs us ws Q I r1 r2 h
  obtain ⟨ρ, S, ds, p, vs, hS, rfl, h1, h2, rfl, h⟩ := h
  unfold maxLD at h
  split at h
  · rename_i bs e
    have := ints_rep e h2
    subst this
    obtain ⟨its, rv, hl, _⟩ := I.list h1
    rw [Vals.ref1 r1]
    cases r2 with
    | cons r rr =>
      cases rr
      obtain ⟨t, rfl⟩ := r
      have u := u100 hr
      exact max_raw_default (I.ok.hd hc) hl.isList rv.ints (by omega) fun h' tk t' hk => ⟨.int _, H, I.kept hk, ⟨_, rfl⟩, h.same hS (by unfold rV RepV; rfl)⟩
  · exact h.elim
theorem mmaxD {kk : Nat} (hc : X.calm = true) (hr : Room kk X.A) (hg : Gl X "max") (hm : X.mg "max" = none) (ha : PE X e (tNw X.K cA W n))
    (he : starEach [e] X.env = (false, eval e X.env) :: starEach [] X.env := by rfl) (hpl : (backTo pos (starEach [e] X.env)).any (·.1) = false := by rfl) (he2 : backTo pos (starEach [e] X.env) = (false, eval e X.env) :: backTo pos (starEach [] X.env) := by rfl) :
    PE X (.Call (.Name "max" p0) [e] [⟨some "default", .Constant (.int k) j cp, kpos⟩] pos) (tE X.K cA W (newL (maxLD k) n)) :=
  (pe_callBK (cr_maxD (cA := cA) (W := W) (k := k) hc hr) hg hm rfl (pa_cons ha pa_nil he) (pk_cons pe_int pk_nil) (by decide) (by decide) he2 hpl rfl rfl rfl).imp fun σ H Q h =>
    (bind1 (rep1 := rNew X.K) st_V h).imp fun v H1 h => by
      obtain ⟨ρ, S, ds, hS, ⟨p, vs, rfl, _, _, h1, h2⟩, h⟩ := h
      exact ⟨ρ, S, ds, p, vs, hS, rfl, SqL.of h1, h2, rfl, h⟩
end
@[simp] theorem x_maxLD (k : Int) (ds : List D) (S : Store) : maxLD k ds S = match mapO intO ds with
  | some bs => .ok (.int (maxF k bs)) S
  | none => .bad := (rfl)
end ML

set_option Elab.async false
set_option linter.all false
set_option maxRecDepth 100000
set_option autoImplicit false
/-! ML23: a def that an except suite hands its exception to. -/
namespace ML
open PySem PySem.Spec L2 PyProof.Rows
theorem mark_self {A : Around} {v : Option Value} (h : A.handled = v) : A.mark v = A := by
  obtain ⟨hd, dp, fr, gu, un⟩ := A
  subst h
  cases hd <;> rfl
structure HotOk (P : Program) (w : World) (K : PySem.W.Frag) (mg : Str → Option Value) (base : Heap) (cA : Nat → Addr) (k : Nat) (f : Addr) (fd : FuncData) (ps : List Str) (sp : Addr → Exn → Sp) : Prop where
  len : ∀ a z vs H Q E, sp a z vs H Q E → vs.length = ps.length
  run : ∀ (A : Around) (outer : List Env) (s : Shared) (H : Hp) (args : Args) (us : List Value) (vs : List V) (Q : VK) (a : Addr) (oe : Obj) (z : Exn) (d : Option Addr), L2H.RoomH k A → A.handled = some (.ref a) → Zc (.ref (cA z.c)) d oe → (z.fs = [] → d = none) → (∃ xs : Array Value, oe.data = .fields xs) →
    L2H.PinOk outer H s (a, oe) → Env0 P w K mg base A outer s H → BindsTo s fd args (ps.zip us) → Vals vs us → sp a z vs H Q NoX → codeAny (model P w) A (.call (.ref f) args) (CR (L2.CX P w) outer P w H s Q NoX) s
section
variable {P : Program} {w : World} {K : PySem.W.Frag} {mg : Str → Option Value} {base : Heap} {cA : Nat → Addr}
theorem hot_run {x qual : Str} {st : Stmt} {f : Addr} {fd : FuncData} {N ps : List Str} {k : Nat} {sp : Addr → Exn → Sp} (F : Fun K x qual st f fd) (S : FnScope N ps (defScope st)) (len : ∀ a z vs H Q E, sp a z vs H Q E → vs.length = ps.length)
    (hb0 : ∀ (cdv : Value) (A : Around) (outer : List Env) (s : Shared) (H : Hp) (vs : List V) (Q : VK) (a : Addr) (oe : Obj) (z : Exn) (d : Option Addr), L2H.RoomH k (A.deeper (envOfC qual (defScope st) s.heap.objs.size f cdv)) → Zc (.ref (cA z.c)) d oe → (z.fs = [] → d = none) → (∃ xs : Array Value, oe.data = .fields xs) → sp a z vs H Q NoX →
      ∃ t, PSs ((cxOf (L2.CX P w) P w K mg base N qual (defScope st) f cdv A outer s H NoX).suite a [(a, oe)]) (defBody st) t ∧ t { nx := fun _ H' => Q .non H', rt := Q } (start N vs) H) : HotOk P w K mg base cA (k + 1) f fd ps sp := by
  obtain ⟨oc, od, kV, doc, pm, an, cdv, ct, osl, rfl, lk, hcd⟩ := F.ex
  refine ⟨len, fun A outer s H args us vs Q a oe z d room hh hz hd hf pin e0 binds vals q => ?_⟩
  have there : ∀ b o, base.get? b = some o → s.heap.get? b = some o := fun b o e => (e0.bs b o e).1
  have inK : K.In s.heap := e0.mod.kin.keeps there
  refine codeAny_call_function room.depth (inK _ _ lk) rfl S.co S.gen rfl (PySem.W.codeRec_of inK hcd) (binds _ _ _ _ ?_)
  have kinds : ∀ y ∈ ps.zip us, (defScope st).names.lookup y.1 = some .local ∨ ((defScope st).names.lookup y.1 = some .cell ∧ ((cellsFrom (s.heap.objs.size + 1) (defScope st).names []).lookup y.1).isSome = true) := by
    rintro ⟨n, v⟩ hy
    cases S.par n (List.of_mem_zip hy).1 with
    | inl z => exact .inl z
    | inr z => exact .inr ⟨z, PySem.W.cellsFrom_some _ _ _ (.inl z)⟩
  refine wpAny_newFunctionEnv_cells S.kind kinds fun env he s1 new => ?_
  subst he
  refine ⟨(e0.mod.nolimit.keeps there).keeps new.toInCall.keep, codeAny_func ?_⟩
  obtain ⟨t, body, wish⟩ := hb0 cdv A outer s H vs Q a oe z d (room.deeper _) hz hd hf q
  have inv := L2H.inv_startH (CX := L2.CX P w) (cd := cdv) (qual := qual) (f := f) (E := NoX) S pin e0 (len _ _ _ _ _ _ q) vals new
  have hA : (A.deeper (envOfC qual (defScope st) s.heap.objs.size f cdv)).mark (some (.ref a)) = A.deeper (envOfC qual (defScope st) s.heap.objs.size f cdv) := mark_self hh
  have inv2 : Inv ((cxOf (L2.CX P w) P w K mg base N qual (defScope st) f cdv A outer s H NoX).suite a [(a, oe)]) [] (start N vs) H s1 := by
    have h := inv.toTry (fun _ _ => False)
    have e : (cxOf (L2.CX P w) P w K mg base N qual (defScope st) f cdv A outer s H NoX).suite a [(a, oe)] = (L2H.cxH (L2.CX P w) P w K mg base N qual (defScope st) f cdv A outer s H NoX (a, oe)).tr [(a, oe)] (fun _ _ => False) := by
      unfold L2H.cxH Cx.suite Cx.tr cxOf
      rw [hA]
    rw [e]
    exact h
  have r : wpAny (model P w) ((A.deeper (envOfC qual (defScope st) s.heap.objs.size f cdv)).mark (some (.ref a))) _ _ _ s1 := body.run [] s1 (start N vs) H _ inv2 wish
  rw [hA] at r
  refine wpAny_mono r ?_ fun _ _ z => z.elim
  intro fl s2 z
  cases fl with
  | next => obtain ⟨_, H2, J, z⟩ := z; exact ⟨.non, H2, J.os, J.bare, J.base, J.hok, rfl, z⟩
  | ret u => obtain ⟨v, _, H2, J, rv, z⟩ := z; exact ⟨v, H2, J.os, J.bare, J.base, J.hok, rv, z⟩
  | brk => obtain ⟨_, _, _, z⟩ := z; exact z.elim
  | cont => obtain ⟨_, _, _, z⟩ := z; exact z.elim
theorem defHot {x qual : Str} {st : Stmt} {f : Addr} {fd : FuncData} {N ps : List Str} {k : Nat} {m : Addr → Exn → MS} (F : Fun K x qual st f fd) (S : FnScope N ps (defScope st))
    (hbody : ∀ (cdv : Value) (A : Around) (outer : List Env) (s : Shared) (H : Hp) (a : Addr) (oe : Obj) (z : Exn) (d : Option Addr), L2H.RoomH k (A.deeper (envOfC qual (defScope st) s.heap.objs.size f cdv)) → Zc (.ref (cA z.c)) d oe → (z.fs = [] → d = none) → (∃ xs : Array Value, oe.data = .fields xs) →
      PSs ((cxOf (L2.CX P w) P w K mg base N qual (defScope st) f cdv A outer s H NoX).suite a [(a, oe)]) (defBody st) (tS K cA NoX (m a z))) : HotOk P w K mg base cA (k + 1) f fd ps (fun a z => spM K cA (bodyF N.length (m a z)) ps.length) :=
  hot_run F S (fun a z vs H Q E h => h.1) fun cdv A outer s H vs Q a oe z d hr hz hd hf h => by
    obtain ⟨hl, ρ, S0, ds, hS, hrep, h⟩ := h
    refine ⟨tS K cA NoX (m a z), hbody cdv A outer s H a oe z d hr hz hd hf, ρ, S0, startL N.length ds, hS, start_rep hrep, (After.bind (rep := rS K) st_V h).imp fun b H1 h => ?_⟩
    obtain ⟨ρ1, S1, a, e1, hS1, ⟨hl1, hf⟩, h⟩ := h
    obtain ⟨fl, l1⟩ := a
    obtain ⟨g, σ1⟩ := b
    cases fl with
    | nx => cases g with
      | nx => exact After.same (rep := rV K) h hS1 rep_non'
      | _ => exact hf.elim
    | rt d => cases g with
      | rt v => exact After.same (rep := rV K) h hS1 hf
      | _ => exact hf.elim
    | bk => exact h.elim
    | ct => exact h.elim
end
/-- such a def as its callers know it -/
structure HotM (P : Program) (w : World) (K : PySem.W.Frag) (mg : Str → Option Value) (base : Heap) (cA : Nat → Addr) (k : Nat) (x : Str) (n : Nat) (G : Addr → Exn → List D → Store → R D) : Prop where
  ex : ∃ f fd ps, mg x = some (.ref f) ∧ PySem.W.keepIn K (.ref f) = true ∧ Binds K fd ps [] ∧ HotOk P w K mg base cA k f fd ps (fun a z => spM K cA (G a z) n)
section
variable {X : Cx} {cA : Nat → Addr} {k j n : Nat} {x : Str} {p pos : Pos} {e : Expr} {es : List Expr} {m : MA} {G : Addr → Exn → List D → Store → R D} {a : Addr} {oe : Obj} {pn : List (Addr × Obj)} {z : Exn} {d : Option Addr}
theorem hotcall (F : HotM X.prog X.w X.K X.mg X.base cA k x n G) (hk : k ≤ j) (hr : Room j X.A) (hz : Zc (.ref (cA z.c)) d oe) (hd : z.fs = [] → d = none) (hf : ∃ xs : Array Value, oe.data = .fields xs) (hg : Gl X x) (ha : PA (X.suite a ((a, oe) :: pn)) (e :: es) (tAs X.K cA NoX m))
    (hdb : (x == ("__debug__" : Str)) = false := by decide) (he : starEach (e :: es) X.env = (false, eval e X.env) :: starEach es X.env := by rfl) (hpl : (backTo pos (starEach es X.env)).any (·.1) = false := by rfl) :
    PE (X.suite a ((a, oe) :: pn)) (.Call (.Name x p) (e :: es) [] pos) (tE X.K cA NoX (callE n (G a z) m)) := by
  obtain ⟨f, fd, ps, hm, hkp, hb, FF⟩ := F.ex
  refine ⟨fun pins s σ H Q I h => ?_⟩
  refine wpAny_Call_Name_kw (ld_glob (X := X.suite a ((a, oe) :: pn)) I hg hm ?_ hdb)
  refine PySem.W.callWith_K (h₀ := X.base) I.ok.mod.kin hkp (thn (ha.run pos pins s σ H _ I (call_of (X := X) h)) fun us s1 ⟨vs, H1, I1, r, q⟩ => ⟨I1.kIn, ?_⟩) he hpl
  have hl : us.length = ps.length := by rw [← r.length]; exact FF.len _ _ _ _ _ _ q
  have b := hb s1 us I1.kIn (by rw [List.append_nil]; exact hl)
  rw [List.append_nil] at b
  have P1 := I1.pin (a, oe) (List.mem_append_left _ List.mem_cons_self)
  have pin : L2H.PinOk X.stack H1 s1 (a, oe) := ⟨P1.1, P1.2.1, fun hm => (List.mem_cons.mp (I1.stkSub a hm)).elim P1.2.2.1 P1.2.2.2.1, P1.2.2.2.2⟩
  have rh : L2H.RoomH k (X.A.mark (some (.ref a))) := (⟨hr.dp, hr.un⟩ : L2H.RoomH j (X.A.mark (some (.ref a)))).mono hk
  refine wpAny_call (codeAny_mono (FF.run (X.A.mark (some (.ref a))) X.stack s1 H1 ⟨us, []⟩ us vs Q a oe z d rh rfl hz hd hf pin I1.env0 b r q) fun r s' hq => ?_)
  cases r with
  | error e =>
    obtain ⟨_, _, _, _, _, _, _, _, _, _, _, _, h⟩ := hq
    exact h.elim
  | ok fl =>
    cases fl with
    | ret u => exact I1.after hq
    | next => exact hq.elim
    | brk => exact hq.elim
    | cont => exact hq.elim
end
end ML
namespace ML
open PySem PySem.Spec L2
theorem HotM.mk' {P : Program} {w : World} {K : PySem.W.Frag} {mg : Str → Option Value} {base : Heap} {cA : Nat → Addr} {k n : Nat} {x qual : Str} {st : Stmt} {f : Addr} {fd : FuncData} {ps : List Str} {G : Addr → Exn → List D → Store → R D} (F : Fun K x qual st f fd) (hm : mg x = some (.ref f)) (b : Binds K fd ps []) (ok : HotOk P w K mg base cA k f fd ps (fun a z => spM K cA (G a z) n)) : HotM P w K mg base cA k x n G := ⟨⟨f, fd, ps, hm, F.kp, b, ok⟩⟩
end ML

set_option Elab.async false
set_option linter.all false
set_option maxRecDepth 100000
set_option autoImplicit false
/-! ML24: zip of two tuples or two lists, xs[::-1] of a list. -/
namespace ML
open PySem PySem.Spec L2
def pairsOf (xs ys : List D) : List D := (xs.zip ys).map fun p => .tup [p.1, p.2]
theorem pairs_len (xs ys : List D) : (pairsOf xs ys).length = min xs.length ys.length := by simp [pairsOf]
theorem pairs_at {xs ys : List D} {i : Nat} {d : D} (h : (pairsOf xs ys)[i]? = some d) : ∃ x y, xs[i]? = some x ∧ ys[i]? = some y ∧ d = .tup [x, y] := by
  unfold pairsOf at h
  rw [List.getElem?_map] at h
  cases e : (xs.zip ys)[i]? with
  | none => rw [e] at h; cases h
  | some p =>
    rw [e] at h
    cases h
    obtain ⟨h1, h2⟩ := List.getElem?_zip_eq_some.mp e
    exact ⟨p.1, p.2, h1, h2, rfl⟩
def zipD (ds : List D) (S : Store) : R Sn := match ds with
  | [.tup xs, .tup ys] => .ok (pairsOf xs ys, still) S
  | [.ref n, .ref m] => match lstAt S n, lstAt S m with
    | some xs, some ys => .ok (pairsOf xs ys, fun S' => lstAt S' n = some xs ∧ lstAt S' m = some ys) S
    | _, _ => .bad
  | _ => .bad
def srcZ (m : MA) : Loc → Store → R Sn := fun l S => (m l S).bind zipD
section
variable {X : Cx} {cA : Nat → Addr} {W : XK} {K : PySem.W.Frag}
theorem src_zipT {ρ : List Addr} {H : Hp} {a b : Addr} {vs ws : List V} {xs ys : List D} (h1 : SqT K H a vs) (r1 : RepVs K ρ H xs vs) (h2 : SqT K H b ws) (r2 : RepVs K ρ H ys ws) : SrcOk K cA (RZ.ItzT K a b) ρ H (pairsOf xs ys, still) := by
  have l1 := RepVs.length r1
  have l2 := RepVs.length r2
  refine ⟨fun ρ' H' S e hS _ i d hd => ?_, fun ρ' H' S e _ _ => ⟨vs, ws, SqT.ext e h1, SqT.ext e h2, by
    show vs.length ≤ (pairsOf xs ys).length ∨ ws.length ≤ (pairsOf xs ys).length
    rw [pairs_len]; omega⟩⟩
  obtain ⟨x, y, hx, hy, rfl⟩ := pairs_at hd
  obtain ⟨v, hv, rv⟩ := RepVs.get r1 i x hx
  obtain ⟨w, hw, rw'⟩ := RepVs.get r2 i y hy
  refine ⟨⟨vs, ws, v, w, SqT.ext e h1, SqT.ext e h2, hv, hw⟩, fun u H2 hu => ?_⟩
  obtain ⟨T, p, q, rfl, hT, rfl, hp, hq⟩ := hu
  have e1 := hp vs (SqT.ext e h1)
  have e2 := hq ws (SqT.ext e h2)
  rw [hv] at e1
  rw [hw] at e2
  cases e1
  cases e2
  have E : Ext ρ' H' ρ' (upd H' T (.tup [v, w])) := Ext.new hT
  refine ⟨E, fun c hc => upd_ne (fun z => by subst z; exact hS.free hT hc), ?_⟩
  unfold RepV
  exact ⟨T, [v, w], rfl, SqT.of upd_same, by unfold RepVs; exact ⟨v, [w], rfl, (rv.ext e).ext E, by unfold RepVs; exact ⟨w, [], rfl, (rw'.ext e).ext E, by unfold RepVs; rfl⟩⟩⟩
theorem src_zipL {ρ : List Addr} {H : Hp} {a b : Addr} {xs ys : List D} {chk : Store → Prop} (hs : ∀ (ρ' : List Addr) (H' : Hp) (S : Store), Ext ρ H ρ' H' → Reps K cA ρ' H' S → chk S → ∃ vs ws, SqL K H' a vs ∧ RepVs K ρ' H' xs vs ∧ SqL K H' b ws ∧ RepVs K ρ' H' ys ws) : SrcOk K cA (Itz K a b) ρ H (pairsOf xs ys, chk) := by
  refine ⟨fun ρ' H' S e hS hk i d hd => ?_, fun ρ' H' S e hS hk => ?_⟩
  · obtain ⟨vs, ws, h1, r1, h2, r2⟩ := hs ρ' H' S e hS hk
    obtain ⟨x, y, hx, hy, rfl⟩ := pairs_at hd
    obtain ⟨v, hv, rv⟩ := RepVs.get r1 i x hx
    obtain ⟨w, hw, rw'⟩ := RepVs.get r2 i y hy
    refine ⟨⟨vs, ws, v, w, h1, h2, hv, hw⟩, fun u H2 hu => ?_⟩
    obtain ⟨T, p, q, rfl, hT, rfl, hp, hq⟩ := hu
    have e1 := hp vs h1
    have e2 := hq ws h2
    rw [hv] at e1
    rw [hw] at e2
    cases e1
    cases e2
    have E : Ext ρ' H' ρ' (upd H' T (.tup [v, w])) := Ext.new hT
    refine ⟨E, fun c hc => upd_ne (fun z => by subst z; exact hS.free hT hc), ?_⟩
    unfold RepV
    exact ⟨T, [v, w], rfl, SqT.of upd_same, by unfold RepVs; exact ⟨v, [w], rfl, rv.ext E, by unfold RepVs; exact ⟨w, [], rfl, rw'.ext E, by unfold RepVs; rfl⟩⟩⟩
  · obtain ⟨vs, ws, h1, r1, h2, r2⟩ := hs ρ' H' S e hS hk
    have l1 := RepVs.length r1
    have l2 := RepVs.length r2
    exact ⟨vs, ws, h1, h2, by
      show vs.length ≤ (pairsOf xs ys).length ∨ ws.length ≤ (pairsOf xs ys).length
      rw [pairs_len]; omega⟩
theorem isrcZ {e e2 : Expr} {n : MA} {p pos tpos : Pos} {elts : List Expr} {kk : Nat} (hg : Gl X "zip") (hm : X.mg "zip" = none) (ha : PA X [e, e2] (tAs X.K cA W n))
    (hs : starEach [e, e2] X.env = (false, eval e X.env) :: starEach [e2] X.env := by rfl) (hpl : (backTo pos (starEach [e2] X.env)).any (·.1) = false := by rfl) : PI X (.Tuple elts kk tpos) (.Call (.Name "zip" p) [e, e2] [] pos) (tSrc X.K cA W (srcZ n)) :=
  (RZ.pi_zipA hg hm ha hs hpl).imp fun σ H R h => (bind1 (rep1 := rVs X.K) st_Src h).imp fun vs H1 h => by
    obtain ⟨ρ, S, ds, hS, hr, h⟩ := h
    unfold zipD at h
    split at h
    · obtain ⟨v1, q1, rfl, g1, hr⟩ := (by unfold RepVs at hr; exact hr)
      obtain ⟨v2, rfl, g2⟩ := one_rep hr
      unfold RepV at g1 g2
      obtain ⟨a, us, rfl, h1, r1⟩ := g1
      obtain ⟨b, ws, rfl, h2, r2⟩ := g2
      exact ⟨a, b, us, ws, rfl, .inr ⟨h1, h2, After.same (rep := rSrc X.K cA) h hS (src_zipT h1 r1 h2 r2)⟩⟩
    · rename_i n m
      split at h
      · rename_i xs ys e1 e2
        obtain ⟨v1, q1, rfl, g1, hr⟩ := (by unfold RepVs at hr; exact hr)
        obtain ⟨v2, rfl, g2⟩ := one_rep hr
        obtain ⟨a, us, rfl, _, h1, r1⟩ := rlst_rep hS g1 e1
        obtain ⟨b, ws, rfl, _, h2, r2⟩ := rlst_rep hS g2 e2
        refine ⟨a, b, us, ws, rfl, .inl ⟨SqL.of h1, SqL.of h2, After.same (rep := rSrc X.K cA) h hS (src_zipL fun ρ2 H2 S2 e0 hS2 hk => ?_)⟩⟩
        obtain ⟨a', us', ea, _, h3, r3⟩ := rlst_rep hS2 (g1.ext e0) hk.1
        obtain ⟨b', ws', eb, _, h4, r4⟩ := rlst_rep hS2 (g2.ext e0) hk.2
        cases ea
        cases eb
        exact ⟨us', ws', SqL.of h3, r3, SqL.of h4, r4⟩
      · exact h.elim
    · exact h.elim
/-! ### backwards -/
def revN (m : ME) : MA := fun l S => (m l S).bind fun d S1 => match lstOf S1 d with
  | some xs => .ok xs.reverse S1
  | none => .bad
theorem mrev {e : Expr} {m : ME} {k : Nat} {p1 p2 p3 pos : Pos} (he : PE X e (tE X.K cA W m)) : PE X (.Subscript e (.Slice none none (some (.UnaryOp .USub (.Constant (.int 1) k p1) p2)) p3) pos) (tNw X.K cA W (revN m)) :=
  (pe_revL he).imp fun σ H Q h => (bind1 (rep1 := rV X.K) st_New h).imp fun x H1 h => by
    obtain ⟨ρ, S, d, hS, hr, h⟩ := h
    split at h
    · rename_i xs e1
      obtain ⟨a, vs, rfl, h1, h2⟩ := lst_rep hS hr e1
      exact ⟨a, vs, rfl, h1, fun p hp => h.fresh hS hp h2.reverse⟩
    · exact h.elim
end
@[simp] theorem x_srcZ (r : MA) (l : Loc) (S : Store) : srcZ r l S = (r l S).bind zipD := (rfl)
@[simp] theorem x_revN (m : ME) (l : Loc) (S : Store) : revN m l S = (m l S).bind fun d S1 => match lstOf S1 d with
  | some xs => .ok xs.reverse S1
  | none => .bad := (rfl)
@[simp] theorem x_zipT (xs ys : List D) (S : Store) : zipD [.tup xs, .tup ys] S = .ok (pairsOf xs ys, still) S := (rfl)
theorem x_zipL {S : Store} {n m : Nat} {xs ys : List D} (h1 : lstAt S n = some xs) (h2 : lstAt S m = some ys) : zipD [.ref n, .ref m] S = .ok (pairsOf xs ys, fun S' => lstAt S' n = some xs ∧ lstAt S' m = some ys) S := by
  unfold zipD
  simp only [h1, h2]
end ML

set_option Elab.async false
set_option linter.all false
set_option maxRecDepth 100000
set_option autoImplicit false
/-! ML25: try .. except C, the exception unnamed. -/
namespace ML
open PySem PySem.Spec L2
noncomputable def catchO (hit : Nat → Option Bool) (mb mh : MS) : MS := fun l S => match mb l S with
  | .ok p S1 => .ok p S1
  | .ex x S1 => match hit x.c with
    | some true => (mh l S1).noex
    | some false => .ex x S1
    | none => .bad
  | .bad => .bad
section
variable {K : PySem.W.Frag} {cA : Nat → Addr} {W : XK} {ρ : List Addr} {H : Hp}
theorem noex_of {α β : Type} {rep : Rel α β} {r : R α} {Q : β → Hp → Prop} (h : After K cA W ρ H rep r.noex Q) : After K cA NoX ρ H rep r Q := by
  cases r with
  | ok p S => exact h
  | ex x S => exact h.elim
  | bad => exact h.elim
variable {X : Cx} {x : Str} {c : Value} {body suite : List Stmt} {b₀ : Stmt} {np pos pos' : Pos} {mb mh : MS} {hit : Nat → Option Bool}
theorem stryO (hh : ∀ k b, hit k = some b → PySem.W.exmOne X.K (.ref (cA k)) c = some b) (hc : Names X x c) (tk : Takes X (fun cls d _ H => W cls d H))
    (hb : ∀ (W' : WX) (pn : List (Addr × Obj)) (xe : Value → Shared → Prop), Takes (X.tr pn xe) W' → PassesOwn (model X.prog X.w) X.A X.env xe → PSs (X.tr pn xe) body (tX X.K cA W' mb))
    (hsu : ∀ (a : Addr) (oe : Obj) (pn : List (Addr × Obj)), PSs (X.suite a ((a, oe) :: pn)) (b₀ :: suite) (tS X.K cA NoX mh))
    (hs : X.stack = X.env :: X.outer := by rfl) (hf : X.env.frame = some X.env.locals := by rfl) :
    PS X (.Try body [.ExceptHandler (some (.Name x np)) none (b₀ :: suite) pos'] [] [] pos) (tS X.K cA W (catchO hit mb mh)) := by
  refine (ps_try_only (Wout := fun cls d _ H => W cls d H) (tb := fun W' => tX X.K cA W' mb) (ts := fun _ _ _ => tS X.K cA NoX mh) hs hf hc tk hb (fun a oe cls d pn hz hv => hsu a oe pn)).imp fun D σ H h => ?_
  obtain ⟨ρ, S, l, hS, hl, h⟩ := h
  refine ⟨ρ, S, l, hS, hl, ?_⟩
  unfold catchO at h
  generalize mb l S = r at h
  cases r with
  | ok p S1 => exact h
  | bad => exact h.elim
  | ex z S1 =>
    intro ρ' H' cls d e hS' hx
    obtain ⟨rfl, hx⟩ := hx
    simp only at h
    cases eh : hit z.c with
    | none => rw [eh] at h; exact h.elim
    | some b =>
      rw [eh] at h
      cases b with
      | false =>
        refine ⟨false, hh _ _ eh, fun q => ?_, fun _ => h ρ' H' _ _ e hS' ⟨rfl, hx⟩⟩
        cases q
      | true =>
        refine ⟨true, hh _ _ eh, fun _ a ha => ⟨ρ', S1, l, hS', hl.ext e, ?_⟩, fun q => nomatch q⟩
        exact noex_of (After.back st_S e h)
end
theorem catchO_ex {hit : Nat → Option Bool} {mb mh : MS} {l : Loc} {S S1 : Store} {x : Exn} (h : mb l S = .ex x S1) (hh : hit x.c = some true) : catchO hit mb mh l S = (mh l S1).noex := by
  unfold catchO
  rw [h]
  simp only [hh]
theorem catchO_ok {hit : Nat → Option Bool} {mb mh : MS} {l : Loc} {S S1 : Store} {p : Fl × Loc} (h : mb l S = .ok p S1) : catchO hit mb mh l S = .ok p S1 := by
  unfold catchO
  rw [h]
/-- int of a text too -/
def intX (ds : List D) (S : Store) : R D := match ds with
  | [.str z] => match PySem.intText? z with
    | some n => if z.length ≤ 640 then .ok (.int n) S else .bad
    | none => .bad
  | _ => intV ds S
section
variable {X : Cx} {cA : Nat → Addr} {W : XK}
theorem c_intX : CallR X (.type "int") (tN X.K cA W (rV X.K) intX) := by
  intro pins s σ H xs us Q I rs h
  obtain ⟨ρ, S, ds, hS, hr, h⟩ := h
  by_cases c : ∃ z, ds = [.str z]
  · obtain ⟨z, rfl⟩ := c
    have h : After X.K cA W ρ H (rV X.K) (match PySem.intText? z with
      | some n => if z.length ≤ 640 then .ok (.int n) S else .bad
      | none => .bad) Q := h
    split at h
    · rename_i n en
      split at h
      · rename_i hz
        obtain ⟨v, rfl, h1⟩ := one_rep hr
        unfold RepV at h1
        subst h1
        exact call_int_str pins s σ H _ us Q I rs ⟨z, n, rfl, en, hz, After.same (rep := rV X.K) h hS (by unfold rV RepV; rfl)⟩
      · exact h.elim
    · exact h.elim
  · have e : intX ds S = intV ds S := by
      unfold intX
      split
      · rename_i z; exact absurd ⟨z, rfl⟩ c
      · rfl
    rw [e] at h
    exact c_int pins s σ H xs us Q I rs ⟨ρ, S, ds, hS, hr, h⟩
end
theorem x_intX {z : Str} {n : Int} {S : Store} (h : PySem.intText? z = some n) (hz : z.length ≤ 640) : intX [.str z] S = .ok (.int n) S := by
  unfold intX
  simp only [h]
  exact if_pos hz
/-- == of two lists that differ in length needs no look at what they hold -/
def eqLD (d e : D) (S : Store) : R Bool := match lstOf S d, lstOf S e with
  | some xs, some ys => if xs.length = ys.length then eqD d e S else .ok false S
  | _, _ => eqD d e S
section
variable {X : Cx} {cA : Nat → Addr} {W : XK}
def rEqLen (K : PySem.W.Frag) : R2 := fun x y H Q => ∃ a b xs ys, x = .ref a ∧ y = .ref b ∧ SqL K H a xs ∧ SqL K H b ys ∧ xs.length ≠ ys.length ∧ Q (.bl false) H
theorem op_eqLen (hu : X.A.units + 64 < cLine) : OpR X (compareOp .Eq) (rEqLen X.K) := by
  intro pins s σ H x y v u Q I rx ry h
  obtain ⟨a, b, xs, ys, rfl, rfl, ha, hb, hl, q⟩ := h
  cases (show v = Value.ref a from rx)
  cases (show u = Value.ref b from ry)
  obtain ⟨us, r1, p1, _⟩ := I.list ha
  obtain ⟨ws, r2, p2, _⟩ := I.list hb
  refine SeqAt.RcAt.lists_lengths p1.isList p2.isList ?_ (by omega) _ _ _ _ ⟨.bl false, H, I, rfl, q⟩
  rw [List.size_toArray, List.size_toArray, ← r1.length, ← r2.length]
  exact bne_iff_ne.mpr hl
theorem op_eqLM (hu : X.A.units + 64 < cLine) : OpR X (compareOp .Eq) (tC2 X.K cA W eqLD) := by
  refine OpR.imp ((op_eqM (cA := cA) (W := W) hu).or (op_eqLen (X := X) hu)) fun x y H Q h => ?_
  obtain ⟨ρ, S, d, e, hS, hd, he, h⟩ := h
  unfold eqLD at h
  split at h
  · rename_i xs ys e1 e2
    split at h
    · exact .inl ⟨ρ, S, d, e, hS, hd, he, h⟩
    · rename_i hne
      obtain ⟨a, vs, rfl, h1, r1⟩ := lst_rep hS hd e1
      obtain ⟨b, ws, rfl, h2, r2⟩ := lst_rep hS he e2
      have l1 := RepVs.length r1
      have l2 := RepVs.length r2
      exact .inr ⟨a, b, vs, ws, rfl, rfl, h1, h2, by omega, h.same hS rfl⟩
  · exact .inl ⟨ρ, S, d, e, hS, hd, he, h⟩
end
theorem x_eqLne {S : Store} {n m : Nat} {xs ys : List D} (h1 : S[n]? = some (.lst xs)) (h2 : S[m]? = some (.lst ys)) (h : xs.length ≠ ys.length) : eqLD (.ref n) (.ref m) S = .ok false S := by
  unfold eqLD
  have e1 : lstOf S (.ref n) = some xs := lstAt_of h1
  have e2 : lstOf S (.ref m) = some ys := lstAt_of h2
  simp only [e1, e2]
  exact if_neg h
/-- the one text within the other -/
def inTD (x y : D) (S : Store) : R Bool := match x, y with
  | .str a, .str b => .ok (!(Builtin.Str.occurrences b a 0 b.length 1).isEmpty) S
  | _, _ => inD x y S
section
variable {X : Cx} {cA : Nat → Addr} {W : XK}
theorem op_inTM (hu : X.A.units + 1 < cLine) : OpR X (compareOp .In) (tC2 X.K cA W inTD) := by
  refine OpR.imp ((op_in_str (X := X)).or (op_inM (cA := cA) (W := W) hu)) fun x y H Q h => ?_
  obtain ⟨ρ, S, d, e, hS, hd, he, h⟩ := h
  by_cases c : (∃ a, d = .str a) ∧ ∃ b, e = .str b
  · obtain ⟨⟨a, rfl⟩, b, rfl⟩ := c
    unfold RepV at hd he
    exact .inl ⟨a, b, hd, he, After.same (Q := fun b H' => Q (.bl b) H') (rep := rId) h hS rfl⟩
  · have e1 : inTD d e S = inD d e S := by
      unfold inTD
      split
      · rename_i a b; exact absurd ⟨⟨a, rfl⟩, b, rfl⟩ c
      · rfl
    rw [e1] at h
    exact .inr ⟨ρ, S, d, e, hS, hd, he, h⟩
end
theorem inTD_one (c : Nat) (z : Str) (S : Store) : inTD (strD [c]) (.str z) S = .ok (decide (c ∈ cs z)) S := by
  show R.ok _ S = _
  rw [show mkS [c] = ⟨#[c]⟩ from rfl, StrLaws.found_one]
  rfl
theorem inTD_not {w : List Nat} {z : Str} (h0 : w ≠ []) (h : ∀ c ∈ w, c ∉ cs z) (S : Store) : inTD (strD w) (.str z) S = .ok false S := by
  show R.ok _ S = _
  congr 1
  refine Bool.eq_false_iff.mpr fun q => ?_
  obtain ⟨i, h1, h2⟩ := (StrLaws.found_iff z (mkS w)).mp q
  rw [StrLaws.subAt_eq] at h2
  have e := eq_of_beq h2
  have e3 : (mkS w).cps.toList = w := cs_mkS w
  rw [e3] at e
  obtain ⟨c, r, rfl⟩ := List.exists_cons_of_ne_nil h0
  have hm : c ∈ (z.cps.toList.drop i).take (mkS (c :: r)).length := by rw [e]; exact List.mem_cons_self
  exact h c List.mem_cons_self (List.mem_of_mem_drop (List.mem_of_mem_take hm))
end ML

set_option Elab.async false
set_option linter.all false
set_option maxRecDepth 100000
set_option autoImplicit false
/-! ML26: tuple * int. -/
namespace ML
open PySem PySem.Spec L2
def mulTD : D → D → Store → R D
  | .tup xs, .int n, S => if xs.length ≠ 0 ∧ 2 ≤ n ∧ n ≤ 1000 ∧ xs.length ≤ 1000 then .ok (.tup (List.replicate n.toNat xs).flatten) S else .bad
  | _, _, _ => .bad
section
variable {X : Cx} {K : PySem.W.Frag} {cA : Nat → Addr} {W : XK} {ρ : List Addr} {H : Hp}
theorem RepVs.rep {xs : List D} {vs : List V} (h : RepVs K ρ H xs vs) : ∀ n : Nat, RepVs K ρ H (List.replicate n xs).flatten (List.replicate n vs).flatten
  | 0 => .nil
  | n + 1 => by
    rw [List.replicate_succ, List.replicate_succ, List.flatten_cons, List.flatten_cons]
    exact h.append (RepVs.rep h n)
theorem op_mulTM : OpR X (binaryOp .Mult) (t2 X.K cA W (rV X.K) mulTD) := by
  refine OpR.imp (op_repT (X := X)) fun x y H Q h => ?_
  obtain ⟨ρ, S, d, e, hS, hd, he, h⟩ := h
  unfold mulTD at h
  split at h
  · rename_i xs n _
    split at h
    · rename_i c
      unfold RepV at hd he
      obtain ⟨a, vs, ex, h1, r1⟩ := hd
      have l := r1.length
      exact ⟨a, _, vs, ex, he, h1, fun z => c.1 (by rw [← l, z]; rfl), c.2.1, c.2.2.1, by rw [l]; exact c.2.2.2, fun p hp => h.tup hS hp (r1.rep _)⟩
    · exact h.elim
  · exact h.elim
end
@[simp] theorem x_mulT (xs : List D) (n : Int) (S : Store) (h0 : xs.length ≠ 0) (h1 : 2 ≤ n) (h2 : n ≤ 1000) (h3 : xs.length ≤ 1000) : mulTD (.tup xs) (.int n) S = .ok (.tup (List.replicate n.toNat xs).flatten) S := by
  simp only [mulTD]
  rw [if_pos ⟨h0, h1, h2, h3⟩]
end ML

set_option Elab.async false
set_option linter.all false
set_option maxRecDepth 100000
set_option autoImplicit false
/-! ML27: enumerate, reversed(range(..)), dict of pairs, sorted texts, for over a dict. -/
namespace ML
open PySem PySem.Spec L2
/-! ### enumerate -/
def enumOf (xs : List D) : List D := xs.zipIdx.map fun p => .tup [.int (p.2 : Int), p.1]
theorem enum_len (xs : List D) : (enumOf xs).length = xs.length := by simp [enumOf]
theorem enum_at {xs : List D} {i : Nat} {d : D} (h : (enumOf xs)[i]? = some d) : ∃ x, xs[i]? = some x ∧ d = .tup [.int (i : Int), x] := by
  unfold enumOf at h
  rw [List.getElem?_map, List.getElem?_zipIdx] at h
  cases e : xs[i]? with
  | none => rw [e] at h; cases h
  | some x =>
    rw [e] at h
    simp at h
    exact ⟨x, rfl, h.symm⟩
def enumD (ds : List D) (S : Store) : R Sn := match ds with
  | [.ref n] => match lstAt S n with
    | some xs => .ok (enumOf xs, fun S' => lstAt S' n = some xs) S
    | none => .bad
  | _ => .bad
def srcE (m : MA) : Loc → Store → R Sn := fun l S => (m l S).bind enumD
section
variable {X : Cx} {cA : Nat → Addr} {W : XK} {K : PySem.W.Frag}
theorem src_enum {ρ : List Addr} {H : Hp} {a : Addr} {xs : List D} {chk : Store → Prop} (hs : ∀ (ρ' : List Addr) (H' : Hp) (S : Store), Ext ρ H ρ' H' → Reps K cA ρ' H' S → chk S → ∃ vs, SqL K H' a vs ∧ RepVs K ρ' H' xs vs) : SrcOk K cA (Ite K a) ρ H (enumOf xs, chk) := by
  refine ⟨fun ρ' H' S e hS hk i d hd => ?_, fun ρ' H' S e hS hk => ?_⟩
  · obtain ⟨vs, h1, r1⟩ := hs ρ' H' S e hS hk
    obtain ⟨x, hx, rfl⟩ := enum_at hd
    obtain ⟨v, hv, rv⟩ := RepVs.get r1 i x hx
    refine ⟨⟨vs, v, h1, hv⟩, fun u H2 hu => ?_⟩
    obtain ⟨T, p, rfl, hT, rfl, hp⟩ := hu
    have e1 := hp vs h1
    rw [hv] at e1
    cases e1
    have E : Ext ρ' H' ρ' (upd H' T (.tup [.int (i : Nat), v])) := Ext.new hT
    refine ⟨E, fun c hc => upd_ne (fun z => by subst z; exact hS.free hT hc), ?_⟩
    unfold RepV
    exact ⟨T, [.int (i : Nat), v], rfl, SqT.of upd_same, by unfold RepVs; exact ⟨.int (i : Nat), [v], rfl, by unfold RepV; rfl, by unfold RepVs; exact ⟨v, [], rfl, rv.ext E, by unfold RepVs; rfl⟩⟩⟩
  · obtain ⟨vs, h1, r1⟩ := hs ρ' H' S e hS hk
    have l1 := RepVs.length r1
    exact ⟨vs, h1, by
      show vs.length ≤ (enumOf xs).length
      rw [enum_len]; omega⟩
theorem isrcE {e : Expr} {n : MA} {p pos tpos : Pos} {elts : List Expr} {kk : Nat} (hg : Gl X "enumerate") (hm : X.mg "enumerate" = none) (ha : PA X [e] (tAs X.K cA W n))
    (hs : starEach [e] X.env = [(false, eval e X.env)] := by rfl) : PI X (.Tuple elts kk tpos) (.Call (.Name "enumerate" p) [e] [] pos) (tSrc X.K cA W (srcE n)) :=
  (pi_enum hg hm ha hs).imp fun σ H R h => (bind1 (rep1 := rVs X.K) st_Src h).imp fun vs H1 h => by
    obtain ⟨ρ, S, ds, hS, hr, h⟩ := h
    unfold enumD at h
    split at h
    · rename_i n
      split at h
      · rename_i xs e1
        obtain ⟨v2, rfl, g2⟩ := one_rep hr
        obtain ⟨a, us, rfl, _, h1, r1⟩ := rlst_rep hS g2 e1
        refine ⟨a, us, rfl, SqL.of h1, After.same (rep := rSrc X.K cA) h hS (src_enum fun ρ2 H2 S2 e0 hS2 hk => ?_)⟩
        obtain ⟨a', us', ea, _, h3, r3⟩ := rlst_rep hS2 (g2.ext e0) hk
        cases ea
        exact ⟨us', SqL.of h3, r3⟩
      · exact h.elim
    · exact h.elim
end
/-! ### reversed(range(a, b)) -/
def revFrom (lo : Int) (n : Nat) : List D := (List.range n).map fun i => .int (lo + (i : Nat) * -1)
theorem revFrom_at {lo : Int} {n i : Nat} {d : D} (h : (revFrom lo n)[i]? = some d) : i < n ∧ d = .int (lo + (i : Nat) * -1) := by
  unfold revFrom at h
  rw [List.getElem?_map] at h
  by_cases hi : i < n
  · rw [List.getElem?_range hi] at h
    exact ⟨hi, (Option.some.inj h).symm⟩
  · rw [List.getElem?_eq_none (by simp; omega)] at h
    cases h
def srcRR (m n : ME) : Loc → Store → R Sn := fun l S => (m l S).bind fun d S1 => (n l S1).bind fun e S2 => match intO d, intO e with
  | some a, some b => if -(2 ^ 62) ≤ a ∧ a < 2 ^ 62 ∧ -(2 ^ 62) ≤ b ∧ b < 2 ^ 62 then .ok (revFrom (a + (((b - a).toNat : Nat) : Int) - 1) (b - a).toNat, still) S2 else .bad
  | _, _ => .bad
section
variable {X : Cx} {cA : Nat → Addr} {W : XK} {K : PySem.W.Frag}
theorem src_rev {ρ : List Addr} {H : Hp} {lo : Int} {n : Nat} : SrcOk K cA (Itc lo (-1) n) ρ H (revFrom lo n, still) := by
  have len : (revFrom lo n).length = n := by simp [revFrom]
  refine ⟨fun ρ' H' S e _ _ i d hd => ?_, fun ρ' H' S e _ _ => Nat.le_of_eq len.symm⟩
  obtain ⟨hi, rfl⟩ := revFrom_at hd
  refine ⟨hi, fun y H2 hy => ?_⟩
  obtain ⟨rfl, rfl⟩ := hy
  exact ⟨ext_self.1, ext_self.2, by unfold RepV; rfl⟩
theorem isrcRR {tg a b : Expr} {m n : ME} {p p2 pos pos2 : Pos} (hg : Gl X "reversed") (hm : X.mg "reversed" = none) (hg2 : Gl X "range") (hm2 : X.mg "range" = none) (ha : PE X a (tE X.K cA W m)) (hb : PE X b (tE X.K cA W n))
    (na : starEach [a, b] X.env = (false, eval a X.env) :: starEach [b] X.env := by rfl) (nb : starEach [b] X.env = (false, eval b X.env) :: starEach [] X.env := by rfl) (hp : (backTo pos2 (starEach [b] X.env)).any (·.1) = false := by rfl)
    (hs : starEach [(.Call (.Name "range" p2) [a, b] [] pos2 : Expr)] X.env = (false, eval (.Call (.Name "range" p2) [a, b] [] pos2) X.env) :: starEach [] X.env := by rfl) :
    PI X tg (.Call (.Name "reversed" p) [.Call (.Name "range" p2) [a, b] [] pos2] [] pos) (tSrc X.K cA W (srcRR m n)) :=
  (pi_revR hg hm (prg_2 hg2 hm2 ha hb na nb hp) hs).imp fun σ H R h => tG.imp (bind2 (rep1 := rV X.K) (rep2 := rV X.K) st_Src mo_V h) fun v H1 h => tG.imp h fun u H2 h => by
    obtain ⟨ρ, S, d, e, hS, hr, hr2, h⟩ := h
    split at h
    · rename_i i j e1 e2
      split at h
      · rename_i c
        exact ⟨i, j, intO_rep e1 hr, intO_rep e2 hr2, c.1, c.2.1, c.2.2.1, c.2.2.2, After.same (rep := rSrc X.K cA) h hS src_rev⟩
      · exact h.elim
    · exact h.elim
end
/-! ### sorted of texts -/
def leS (a b : Str) : Bool := decide (a.cps.toList ≤ b.cps.toList)
def sortS (xs : List Str) : List Str := xs.mergeSort leS
theorem leS_trans (a b c : Str) (h1 : leS a b = true) (h2 : leS b c = true) : leS a c = true := decide_eq_true (List.le_trans (of_decide_eq_true h1) (of_decide_eq_true h2))
theorem leS_total (a b : Str) : (leS a b || leS b a) = true := by
  rcases List.le_total a.cps.toList b.cps.toList with h | h
  · rw [leS, decide_eq_true h]; rfl
  · rw [Bool.or_comm, leS, decide_eq_true h]; rfl
theorem leS_anti {a b : Str} (h1 : leS a b = true) (h2 : leS b a = true) : a = b := by
  have e := List.le_antisymm (of_decide_eq_true h1) (of_decide_eq_true h2)
  cases a; cases b
  congr
  exact Array.ext' e
theorem leS_of {a b : Str} (h : ltCps b.cps.toList a.cps.toList = false) : leS a b = true := by
  rw [PyProof.Rows.ltCps_eq] at h
  exact decide_eq_true (of_decide_eq_false h)
theorem rising_pw : ∀ (p : Str) (l : List Str), PyProof.Rows.risingS p l = true → (p :: l).Pairwise fun a b => leS a b = true
  | p, [], _ => by simp
  | p, x :: r, h => by
    have h' : (!ltCps x.cps.toList p.cps.toList && PyProof.Rows.risingS x r) = true := h
    rw [Bool.and_eq_true] at h'
    have h1 := leS_of (a := p) (b := x) (by simpa using h'.1)
    have ih := rising_pw x r h'.2
    refine List.pairwise_cons.mpr ⟨fun y hy => ?_, ih⟩
    rcases List.mem_cons.mp hy with rfl | hy
    · exact h1
    · exact leS_trans _ _ _ h1 ((List.pairwise_cons.mp ih).1 y hy)
theorem sorted_pw : ∀ (l : List Str), PyProof.Rows.sortedS l = true → l.Pairwise fun a b => leS a b = true
  | [], _ => .nil
  | x :: r, h => rising_pw x r h
theorem sortS_pw (xs : List Str) : (sortS xs).Pairwise fun a b => leS a b = true := List.pairwise_mergeSort leS_trans leS_total xs
theorem sortS_eq {xs ys : List Str} (hp : ys.Perm xs) (hs : ys.Pairwise fun a b => leS a b = true) : ys = sortS xs :=
  (hp.trans (List.mergeSort_perm xs leS).symm).eq_of_pairwise (fun a b _ _ h1 h2 => leS_anti h1 h2) hs (sortS_pw xs)
def sortSL (ds : List D) (S : Store) : R (List D) := match mapO strO ds with
  | some xs => if xs.length < 64 then .ok ((sortS xs).map .str) S else .bad
  | none => .bad
section
variable {X : Cx} {cA : Nat → Addr} {W : XK} {K : PySem.W.Frag} {ρ : List Addr} {H : Hp}
theorem RepVs.of_strs : ∀ {ns : List Str}, RepVs K ρ H (ns.map D.str) (ns.map V.str)
  | [] => .nil
  | n :: ns => .cons (by unfold RepV; rfl) RepVs.of_strs
theorem c_sortS : CallR X (.builtin "sorted") (tL1 X.K cA W (rNew X.K) sortSL) := CallR.imp cr_sortedS fun xs H Q h => by
  obtain ⟨ρ, S, ds, p, vs, hS, rfl, h1, h2, h⟩ := h
  unfold sortSL at h
  split at h
  · rename_i bs e
    split at h
    · rename_i c
      have := strs_rep e h2
      subst this
      refine ⟨p, bs, rfl, h1, c, fun ns' q hp hs hq => ?_⟩
      rw [← sortS_eq hp (sorted_pw _ hs)] at h
      exact After.fresh h hS hq RepVs.of_strs
    · exact h.elim
  · exact h.elim
end
/-! ### for over a dict: the dict is locked meanwhile -/
def keysD (d : D) (S : Store) : R Sn := match d with
  | .ref n => match S[n]? with
    | some (.dlk kvs) => .ok (kvs.map fun kv => keyD kv.1, fun S' => S'[n]? = some (.dlk kvs)) S
    | _ => .bad
  | _ => .bad
def srcK (m : ME) : Loc → Store → R Sn := fun l S => (m l S).bind keysD
/-- the dict that me tells, and what it holds -/
def dctOf (me : ME) (l : Loc) (S : Store) : Option (Nat × List (Key × D)) := match me l S with
  | .ok (.ref n) _ => match S[n]? with
    | some (.dct kvs) => some (n, kvs)
    | _ => none
  | _ => none
open Classical in
noncomputable def unlk {α : Type} (n : Nat) (kvs : List (Key × D)) (r : R α) : R α := match r with
  | .ok p S => if S[n]? = some (.dlk kvs) then .ok p (S.set n (.dct kvs)) else .bad
  | _ => .bad
noncomputable def lockM {α : Type} (me : ME) (m : Loc → Store → R α) : Loc → Store → R α := fun l S => match dctOf me l S with
  | some (n, kvs) => unlk n kvs (m l (S.set n (.dlk kvs)))
  | none => .bad
theorem dctOf_some {me : ME} {l : Loc} {S : Store} {n : Nat} {kvs : List (Key × D)} (h : dctOf me l S = some (n, kvs)) : S[n]? = some (.dct kvs) := by
  unfold dctOf at h
  split at h
  · split at h
    · rename_i e
      cases h
      exact e
    · cases h
  · cases h
section
variable {X : Cx} {cA : Nat → Addr} {W : XK} {K : PySem.W.Frag} {ρ ρ' : List Addr} {H H' : Hp} {S S' : Store} {n : Nat} {a : Addr} {od : Obj} {ps : List (Key × V)} {kvs : List (Key × D)}
theorem kV_rep {k : Key} : RepV K ρ H (keyD k) (kV k) := by
  cases k <;> (unfold RepV; rfl)
theorem RepP.at {κ : Type} : ∀ {kvs : List (κ × D)} {ps : List (κ × V)}, RepP K ρ H kvs ps → ps.map (·.1) = kvs.map (·.1)
  | [], ps, h => by unfold RepP at h; rw [h]; rfl
  | (k, x) :: r, ps, h => by
    unfold RepP at h
    obtain ⟨v, q, rfl, _, h2⟩ := h
    rw [List.map_cons, List.map_cons, RepP.at h2]
theorem isrcK {tg e : Expr} {m : ME} (he : PE X e (tE X.K cA W m)) : PI X tg e (tSrc X.K cA W (srcK m)) :=
  (pi_keys he).imp fun σ H R h => (bind1 (rep1 := rV X.K) st_Src h).imp fun v H1 h => by
    obtain ⟨ρ, S, d, hS, hr, h⟩ := h
    unfold keysD at h
    split at h
    · rename_i n
      split at h
      · rename_i kvs e1
        unfold RepV at hr
        obtain ⟨a, ha, rfl⟩ := hr
        obtain ⟨o, ps, h1, h2⟩ := hS.at_ _ _ a e1 ha
        have len : (kvs.map fun kv => keyD kv.1).length = ps.length := by
          have := congrArg List.length (RepP.at h2)
          simpa using this.symm
        refine ⟨a, o, rfl, .inl ⟨ps, h1, After.same (rep := rSrc X.K cA) h hS ⟨fun ρ2 H2 S2 e2 hS2 hk i d hd => ?_, fun ρ2 H2 S2 e2 hS2 hk => ?_⟩⟩⟩
        · have hf := e2.frzs a o _ h1
          have hi : i < ps.length := by rw [← len]; exact (List.getElem?_eq_some_iff.mp hd).1
          refine ⟨⟨hf, hi⟩, fun y H3 hy => ?_⟩
          obtain ⟨rfl, k, v, hk2, rfl⟩ := hy
          refine ⟨ext_self.1, ext_self.2, ?_⟩
          have : d = keyD k := by
            have e3 : (kvs.map (·.1))[i]? = some k := by
              rw [← RepP.at h2, List.getElem?_map, hk2]
              rfl
            rw [List.getElem?_map] at hd e3
            cases e4 : kvs[i]? with
            | none => rw [e4] at hd; cases hd
            | some kv =>
              rw [e4] at hd e3
              cases e3
              exact (Option.some.inj hd).symm
          rw [this]
          exact kV_rep
        · exact ⟨e2.frzs a o _ h1, Nat.le_of_eq len.symm⟩
      · exact h.elim
    · exact h.elim
/-- what holds under the lock holds behind it -/
theorem unlk_tup (h : H' a = some (.frz od (.dK ps))) : ∀ b xs, Rd H' b (.tup xs) → Rd (upd H' a (.dK ps)) b (.tup xs) := fun b xs q => by
  have ne : b ≠ a := by
    rintro rfl
    rcases q with q | ⟨u, q⟩ <;> (rw [h] at q; cases q)
  rcases q with q | ⟨u, q⟩
  · exact .inl (by rw [upd_ne ne]; exact q)
  · exact .inr ⟨u, by rw [upd_ne ne]; exact q⟩
theorem unlk_lst (h : H' a = some (.frz od (.dK ps))) : ∀ b o xs, H' b = some (.frz o (.lst xs)) → (upd H' a (.dK ps)) b = some (.frz o (.lst xs)) := fun b o xs q => by
  have ne : b ≠ a := by
    rintro rfl
    rw [h] at q; cases q
  rw [upd_ne ne]; exact q
theorem unlk_xd (h : H' a = some (.frz od (.dK ps))) : ∀ b xs, H' b = some (.xd xs) → (upd H' a (.dK ps)) b = some (.xd xs) := fun b xs q => by
  have ne : b ≠ a := by
    rintro rfl
    rw [h] at q; cases q
  rw [upd_ne ne]; exact q
theorem unlk_kp (h : H' a = some (.frz od (.dK ps))) : Kp H' (upd H' a (.dK ps)) := ⟨unlk_tup h, unlk_lst h, unlk_xd h⟩
theorem unlk_ext (h0 : H a = some (.dK ps)) (e : Ext ρ (upd H a (.frz od (.dK ps))) ρ' H') (h : H' a = some (.frz od (.dK ps))) : Ext ρ H ρ' (upd H' a (.dK ps)) := by
  have hl : ∀ {b : Addr}, b ≠ a → upd H a (.frz od (.dK ps)) b = H b := fun q => upd_ne q
  obtain ⟨r, er, nr⟩ := e.pre
  refine ⟨⟨r, er, fun b hb => ?_⟩, fun b o q nb => ?_, fun b xs q => ?_, fun b o u q => ?_, fun b q => ?_, fun b xs q => ?_⟩
  · have := nr b hb
    by_cases q : b = a
    · rw [q, upd_same] at this; cases this
    · rwa [hl q] at this
  · by_cases z : b = a
    · subst z
      rw [upd_same, ← h0, q]
    · rw [upd_ne z]
      exact e.keep b o (by rw [hl z]; exact q) nb
  · have ne : b ≠ a := by
      rintro rfl
      rcases q with q | ⟨u, q⟩ <;> (rw [h0] at q; cases q)
    refine unlk_tup h b xs (e.tups b xs ?_)
    rcases q with q | ⟨u, q⟩
    · exact .inl (by rw [hl ne]; exact q)
    · exact .inr ⟨u, by rw [hl ne]; exact q⟩
  · have ne : b ≠ a := by
      rintro rfl
      rw [h0] at q; cases q
    rw [upd_ne ne]
    exact e.frzs b o u (by rw [hl ne]; exact q)
  · by_cases z : b = a
    · rw [z, upd_same]; simp
    · rw [upd_ne z]
      exact e.there b (by rw [hl z]; exact q)
  · have ne : b ≠ a := by
      rintro rfl
      rw [h0] at q; cases q
    exact unlk_xd h b xs (e.xds b xs (by rw [hl ne]; exact q))
theorem unlk_reps (ha : ρ'[n]? = some a) (hS : Reps K cA ρ' H' S') (e : S'[n]? = some (.dlk kvs)) (h : H' a = some (.frz od (.dK ps))) : Reps K cA ρ' (upd H' a (.dK ps)) (S'.set n (.dct kvs)) := by
  have t1 := unlk_kp (od := od) h
  refine ⟨by rw [List.length_set]; exact hS.len, hS.nd, fun m c b hc hb => ?_⟩
  by_cases q : m = n
  · subst q
    rw [ha] at hb
    cases hb
    have hm : m < S'.length := by
      have := (List.getElem?_eq_some_iff.mp hc).1
      rwa [List.length_set] at this
    rw [List.getElem?_set_self hm] at hc
    cases hc
    obtain ⟨o', ps', h1, h2⟩ := hS.at_ _ _ a e ha
    rw [h] at h1
    cases h1
    exact ⟨ps, upd_same, h2.hp t1⟩
  · rw [List.getElem?_set_ne (Ne.symm q)] at hc
    have nb : b ≠ a := fun z => by
      subst z
      have hm : m < ρ'.length := (List.getElem?_eq_some_iff.mp hb).1
      have hn : n < ρ'.length := (List.getElem?_eq_some_iff.mp ha).1
      rw [List.getElem?_eq_getElem hm] at hb
      rw [List.getElem?_eq_getElem hn] at ha
      have eb := (Option.some.inj hb).trans (Option.some.inj ha).symm
      have P := List.pairwise_iff_getElem.mp hS.nd
      rcases Nat.lt_trichotomy m n with z | z | z
      · exact P m n hm hn z eb
      · exact q z
      · exact P n m hn hm z eb.symm
    have r := hS.at_ m c b hc hb
    cases c with
    | lst xs => obtain ⟨vs, h1, h2⟩ := r; exact ⟨vs, by rw [upd_ne nb]; exact h1, h2.hp t1⟩
    | dct xs => obtain ⟨vs, h1, h2⟩ := r; exact ⟨vs, by rw [upd_ne nb]; exact h1, h2.hp t1⟩
    | dlk xs => obtain ⟨u, vs, h1, h2⟩ := r; exact ⟨u, vs, by rw [upd_ne nb]; exact h1, h2.hp t1⟩
    | ins c xs => obtain ⟨dx, vs, h1, h2⟩ := r; exact ⟨dx, vs, by rw [upd_ne nb]; exact h1, h2.hp t1⟩
theorem lock_in {α β : Type} {rep : Rel α β} {me : ME} {m : Loc → Store → R α} {l : Loc} {σ : L2.St} {Q : β → Hp → Prop} (hS : Reps K cA ρ H S) (hl : RepL K ρ H l σ) (h : After K cA W ρ H rep (lockM me m l S) Q)
    (st : ∀ {ρ' : List Addr} {H0 H1 H' : Hp} {x : Addr} {o : Obj} {qs : List (Key × V)} {p : α} {b : β}, H' x = some (.frz o (.dK qs)) → rep H1 ρ' H' p b → rep H0 ρ' (upd H' x (.dK qs)) p b) : ∃ d u, H d = some u ∧ Mut (some u) ∧ ∀ od, tG K cA W rep m σ (upd H d (.frz od u)) fun b H' => H' d = some (.frz od u) ∧ Q b (upd H' d u) := by
  unfold lockM at h
  split at h
  · rename_i n kvs e0
    have e1 := dctOf_some e0
    obtain ⟨a, ha, r⟩ := hS.get e1
    obtain ⟨ps, h1, h2⟩ := r
    refine ⟨a, .dK ps, h1, trivial, fun od => ?_⟩
    have E : Ext ρ H ρ (upd H a (.frz od (.dK ps))) := Ext.write ha h1 trivial
    have hS1 : Reps K cA ρ (upd H a (.frz od (.dK ps))) (S.set n (.dlk kvs)) := hS.write ha h1 trivial ⟨od, ps, upd_same, h2.ext E⟩
    refine ⟨ρ, _, l, hS1, hl.ext E, ?_⟩
    generalize m l (S.set n (.dlk kvs)) = r at h
    cases r with
    | ok p S' =>
      unfold unlk at h
      simp only at h
      split at h
      · rename_i e2
        intro ρ' H' b e hs hr
        obtain ⟨r, er, _⟩ := e.pre
        have ha' : ρ'[n]? = some a := by
          rw [er, List.getElem?_append_left (List.getElem?_eq_some_iff.mp ha).1]
          exact ha
        have hf : H' a = some (.frz od (.dK ps)) := e.frzs a od _ upd_same
        exact ⟨hf, h ρ' _ b (unlk_ext h1 e hf) (unlk_reps ha' hs e2 hf) (st hf hr)⟩
      · exact h.elim
    | ex x S' => exact h.elim
    | bad => exact h.elim
  · exact h.elim
theorem slock {st : Stmt} {me : ME} {m : MS} (h : PS X st (tS X.K cA W m)) : PS X st (tS X.K cA W (lockM me m)) :=
  (ps_lock h).imp fun D σ H q => by
    obtain ⟨ρ, S, l, hS, hl, q⟩ := q
    obtain ⟨d, u, h1, h2, h3⟩ := lock_in hS hl q fun {ρ' H0 H1 H' x o qs p b} hx r => by
      obtain ⟨hl, hf⟩ := r
      refine ⟨⟨hl.len, fun j e hj => ?_⟩, ?_⟩
      · obtain ⟨v, hv, r⟩ := hl.at_ j e hj
        exact ⟨v, hv, r.hp (unlk_kp hx)⟩
      · obtain ⟨f, l⟩ := p
        obtain ⟨g, σ⟩ := b
        cases f <;> cases g <;> first | exact trivial | exact hf | exact RepV.hp (unlk_kp hx) hf
    refine ⟨d, u, h1, h2, fun od => ?_⟩
    refine tG.imp (h3 od) fun b H' q => ?_
    obtain ⟨g, σ'⟩ := b
    cases g <;> exact q
theorem elock {e : Expr} {me m : ME} (h : PE X e (tE X.K cA W m)) : PE X e (tE X.K cA W (lockM me m)) :=
  (pe_lock h).imp fun σ H Q q => by
    obtain ⟨ρ, S, l, hS, hl, q⟩ := q
    exact lock_in hS hl q fun {ρ' H0 H1 H' x o qs p b} hx r => RepV.hp (unlk_kp hx) r
end
end ML

set_option Elab.async false
set_option linter.all false
set_option maxRecDepth 100000
set_option autoImplicit false
/-! ML28: an own exception whose __init__ keeps what it is handed; its fields read where it is caught. -/
namespace ML
open PySem PySem.Spec L2 PyProof.Rows
/-! ### the class -/
def oexB (K : PySem.W.Frag) (C : Addr) : Bool := match K.lookup C with
  | some ⟨.type "type", _, .cls cd, sl⟩ => (match cd.mro, sl.toList with
    | .ref C' :: bm, [_, _, _, _, some (.builtin n), _] => C' == C && n == "ValueError.__new__" && !cd.hasDel && cd.hasDict && PySem.HandSPX.refsVE bm
    | _, _ => false)
  | _ => false
theorem oex_of {K : PySem.W.Frag} {C : Addr} (q : oexB K C = true) (sa : PySem.W.findIn K (.ref C) "__setattr__" = some (some (.builtin "object.__setattr__"))) (s : PySem.W.subIn K (.ref C) (.type "BaseException") = some true)
    (t : PySem.W.typeIn K (.ref C) = some (.type "type")) (k : PySem.W.keepIn K (.ref C) = true) : OexC K C := by
  refine ⟨?_, sa, s, t, k⟩
  unfold oexB at q
  split at q
  · rename_i dd cd sl ho
    split at q
    · rename_i C' bm k0 k1 k2 k3 n k5 hm hs
      simp only [Bool.and_eq_true, beq_iff_eq, Bool.not_eq_true'] at q
      obtain ⟨⟨⟨⟨rfl, rfl⟩, hdel⟩, hdi⟩, ht⟩ := q
      obtain ⟨nm, bs, mro, ns, qn, hd, sn, sub, ab, col, del⟩ := cd
      dsimp only at hm hdel hdi
      subst hm hdel hdi
      have hsl : sl = #[k0, k1, k2, k3, some (.builtin "ValueError.__new__"), k5] := by
        obtain ⟨l⟩ := sl
        simp only at hs
        rw [hs]
      subst hsl
      exact ⟨nm, qn, ns, bs, bm, sn, sub, ab, col, dd, k0, k1, k2, k3, k5, ho, ht⟩
    · cases q
  · cases q
/-! ### its __init__ -/
def fldV (ns : List Str) (us : List V) : List (Str × V) := (ns.zip us).reverse
/-- what the __init__ keeps -/
def spI (C : Addr) (ns : List Str) : Sp := fun vs H Q _ => ∃ a us, vs = .ref a :: us ∧ us.length = ns.length ∧ H a = some (exo a C none) ∧ ∀ d H', H d = none → d ≠ a → H' a = some (exo a C (some d)) → H' d = some (exd d (fldV ns us)) → (∀ b, b ≠ a → b ≠ d → H' b = H b) → Q .non H'
section
variable {X : Cx} {e : Expr} {es : List Expr} {ta : TA} {p1 p2 pos : Pos}
/-- B.__init__(self, ..), B an own class that has none of its own -/
theorem pe_oinit {pl : Sem Bool} {B : Str} {cB : Addr} (hg : Gl X B) (hm : X.mg B = some (.ref cB)) (sp : PySem.W.specialIn X.K (.ref cB) "__getattribute__" = some (some (.builtin "type.__getattribute__"))) (rd : PySem.W.readsIn X.K cB (.type "type") = true)
    (vV : PySem.W.findCls X.K (.ref cB) (.type "type") "__init__" = some (.val (.builtin "ValueError.__init__"))) (ha : PA X (e :: es) ta)
    (hc : eval (.Call (.Attribute (.Name B p1) "__init__" p2) (e :: es) [] pos) X.env = (do
      let ov ← eval (.Name B p1) X.env
      standAt p2.atName
      let (f, first) ← holding [ov] (getMethod ov "__init__" pl)
      callWith pos f first (backTo pos (starEach (e :: es) X.env)) (backToKw pos (keywordEach [] X.env))) := by rfl)
    (hdb : (B == ("__debug__" : Str)) = false := by decide) (he : starEach (e :: es) X.env = (false, eval e X.env) :: starEach es X.env := by rfl) (hpl : (backTo pos (starEach es X.env)).any (·.1) = false := by rfl) :
    PE X (.Call (.Attribute (.Name B p1) "__init__" p2) (e :: es) [] pos) (tVeI X.K ta) := by
  refine ⟨fun pins s σ H Q I h => ?_⟩
  refine PySem.W.methodCall_KW (ld_glob I hg hm ?_ hdb) hc
  refine PySem.W.method_cls I.kIn sp (PySem.W.cls_value I.kIn rd vV (by decide +kernel) ?_)
  show wpAny _ _ (callWith pos (Value.builtin "ValueError.__init__") [] (backTo pos (starEach (e :: es) X.env)) []) _ _ _
  refine PyProof.Rows.callWith_method1 (thn (ha.run pos pins _ σ H _ (I.tok _) h) fun us s1 ⟨vs, H1, I1, r1, a, C, ws, ev, hl, T, ea, q⟩ => ?_) he hpl
  subst ev
  cases r1 with
  | @cons _ u0 _ ur ra rw' =>
    obtain rfl : u0 = Value.ref a := ra
    have hlen : ur.length ≤ sizeLine := by
      rw [← Paired.length rw', sizeLine_eq]
      omega
    exact oinit_ok T I1 ea hlen fun s' J => ⟨.non, H1, J, rfl, q⟩
end
section
variable {P : Program} {w : World} {K : PySem.W.Frag} {mg : Str → Option Value} {base : Heap} {x qual : Str} {st : Stmt} {f : Addr} {fd : FuncData} {N : List Str} {C : Addr}
theorem start1 {a b : Str} (v y : V) : start [a, b] [v, y] = [some v, some y] := rfl
theorem start2 {a b c : Str} (v y z : V) : start [a, b, c] [v, y, z] = [some v, some y, some z] := rfl
theorem okI1 {ps : List Str} {n1 : Str} {m : Str} (F : Fun K x qual st f fd) (S : FnScope N ps (defScope st)) (hp : ps.length = 2) (hN : ∀ v y : V, start N [v, y] = [some v, some y]) (T : OexC K C) (h1 : PySem.W.findIn K (.ref C) n1 = some none)
    (hb : ∀ (cdv : Value) (A : Around) (outer : List Env) (s : Shared) (H : Hp) (E : XK), PSs (cxOf (L2.CX P w) P w K mg base N qual (defScope st) f cdv A outer s H E) (defBody st) (tSeq (tDrop (tVeI K (tCons (tVar 0) (tCons (tC (.str m)) tNil)))) (tOst K n1 (tVar 0) (tVar 1)))) :
    FnOk P w K mg base (L2.CX P w) 1 f fd ps (spI C [n1]) :=
  F.okX S (fun vs H Q E h => by
    obtain ⟨a, us, rfl, hl, _⟩ := h
    simp at hl
    simp [hl, hp]) fun cdv A outer s H vs Q E hr h => by
    obtain ⟨a, us, rfl, hl, ha, h⟩ := h
    match us, hl with
    | [y], _ =>
      refine ⟨_, hb cdv A outer s H E, ?_⟩
      rw [hN]
      refine ⟨.ref a, rfl, a, C, [.str m], rfl, by simp, T, ha, y, rfl, .ref a, rfl, a, C, rfl, T, h1, .inl ⟨ha, fun dx hd hne => ?_⟩⟩
      refine h dx _ hd hne upd_same ?_ fun b b1 b2 => ?_
      · rw [upd_ne hne, upd_same]
        rfl
      · rw [upd_ne b1, upd_ne b2]
theorem okI2 {ps : List Str} {n1 n2 : Str} {m : Str} (F : Fun K x qual st f fd) (S : FnScope N ps (defScope st)) (hp : ps.length = 3) (hN : ∀ v y z : V, start N [v, y, z] = [some v, some y, some z]) (T : OexC K C) (h1 : PySem.W.findIn K (.ref C) n1 = some none) (h2 : PySem.W.findIn K (.ref C) n2 = some none)
    (hb : ∀ (cdv : Value) (A : Around) (outer : List Env) (s : Shared) (H : Hp) (E : XK), PSs (cxOf (L2.CX P w) P w K mg base N qual (defScope st) f cdv A outer s H E) (defBody st) (tSeq (tDrop (tVeI K (tCons (tVar 0) (tCons (tC (.str m)) tNil)))) (tSeq (tOst K n1 (tVar 0) (tVar 1)) (tOst K n2 (tVar 0) (tVar 2))))) :
    FnOk P w K mg base (L2.CX P w) 1 f fd ps (spI C [n1, n2]) :=
  F.okX S (fun vs H Q E h => by
    obtain ⟨a, us, rfl, hl, _⟩ := h
    simp at hl
    simp [hl, hp]) fun cdv A outer s H vs Q E hr h => by
    obtain ⟨a, us, rfl, hl, ha, h⟩ := h
    match us, hl with
    | [y, z], _ =>
      refine ⟨_, hb cdv A outer s H E, ?_⟩
      rw [hN]
      refine ⟨.ref a, rfl, a, C, [.str m], rfl, by simp, T, ha, y, rfl, .ref a, rfl, a, C, rfl, T, h1, .inl ⟨ha, fun dx hd hne => ?_⟩⟩
      have e2 : upd (upd H dx (exd dx [(n1, y)])) a (exo a C (some dx)) dx = some (exd dx [(n1, y)]) := by rw [upd_ne hne, upd_same]
      refine ⟨z, rfl, .ref a, rfl, a, C, rfl, T, h2, .inr ⟨dx, [(n1, y)], upd_same, e2, by simp, ?_⟩⟩
      refine h dx _ hd hne ?_ upd_same fun b b1 b2 => ?_
      · rw [upd_ne (Ne.symm hne), upd_same]
      · rw [upd_ne b2, upd_ne b1, upd_ne b2]
end
/-! ### raised -/
def raiseF (k : Nat) (ns : List Str) (m : MA) : MS := fun l S => (m l S).bind fun ds S1 => if ds.length = ns.length ∧ ns.length ≠ 0 ∧ ns.length ≤ 1000 then .ex ⟨k, (ns.zip ds).reverse⟩ S1 else .bad
structure RaM (P : Program) (w : World) (K : PySem.W.Frag) (mg : Str → Option Value) (base : Heap) (cA : Nat → Addr) (k : Nat) (x : Str) (c : Nat) (ns : List Str) : Prop where
  ex : ∃ fI fd ps, mg x = some (.ref (cA c)) ∧ OexC K (cA c) ∧ PySem.W.findIn K (.ref (cA c)) "__init__" = some (some (.ref fI)) ∧ PySem.W.typeIn K (.ref fI) = some (.type "function") ∧ Binds K fd ps [] ∧ FnOk P w K mg base (L2.CX P w) k fI fd ps (spI (cA c) ns)
section
variable {X : Cx} {cA : Nat → Addr} {W : XK} {K : PySem.W.Frag} {ρ : List Addr} {H : Hp}
theorem RepP.zip : ∀ {ns : List Str} {ds : List D} {vs : List V}, RepVs K ρ H ds vs → RepP K ρ H (ns.zip ds) (ns.zip vs)
  | [], ds, vs, h => by
    show RepP K ρ H ([] : List (Str × D)) []
    unfold RepP; rfl
  | n :: ns, [], vs, h => by
    unfold RepVs at h
    subst h
    show RepP K ρ H ([] : List (Str × D)) []
    unfold RepP; rfl
  | n :: ns, d :: ds, vs, h => by
    unfold RepVs at h
    obtain ⟨v, r, rfl, h1, h2⟩ := h
    show RepP K ρ H ((n, d) :: ns.zip ds) ((n, v) :: ns.zip r)
    unfold RepP
    exact ⟨v, _, rfl, h1, RepP.zip h2⟩
theorem RepP.app {κ : Type} : ∀ {a b : List (κ × D)} {p q : List (κ × V)}, RepP K ρ H a p → RepP K ρ H b q → RepP K ρ H (a ++ b) (p ++ q)
  | [], b, p, q, h, g => by unfold RepP at h; subst h; exact g
  | (k, x) :: a, b, p, q, h, g => by
    unfold RepP at h
    obtain ⟨v, r, rfl, h1, h2⟩ := h
    show RepP K ρ H ((k, x) :: (a ++ b)) ((k, v) :: (r ++ q))
    unfold RepP
    exact ⟨v, _, rfl, h1, RepP.app h2 g⟩
theorem RepP.rev {κ : Type} : ∀ {a : List (κ × D)} {p : List (κ × V)}, RepP K ρ H a p → RepP K ρ H a.reverse p.reverse
  | [], p, h => by unfold RepP at h; subst h; unfold RepP; rfl
  | (k, x) :: a, p, h => by
    unfold RepP at h
    obtain ⟨v, r, rfl, h1, h2⟩ := h
    rw [List.reverse_cons, List.reverse_cons]
    exact RepP.app (RepP.rev h2) (by unfold RepP; exact ⟨v, [], rfl, h1, by unfold RepP; rfl⟩)
theorem sraiseF {x : Str} {e : Expr} {es : List Expr} {k c j : Nat} {p pos pos2 : Pos} {ns : List Str} {m : MA} (M : RaM X.prog X.w X.K X.mg X.base cA k x c ns) (hk : k + 1 ≤ j) (hr : Room j X.A) (tk : Takes X (fun cls d _ H => W cls d H)) (hc : X.calm = true) (hg : Gl X x) (ha : PA X (e :: es) (tAs X.K cA W m))
    (hdb : (x == ("__debug__" : Str)) = false := by decide) (he : starEach (e :: es) X.env = (false, eval e X.env) :: starEach es X.env := by rfl) (hpl : (backTo pos (starEach es X.env)).any (·.1) = false := by rfl) :
    PS X (.Raise (some (.Call (.Name x p) (e :: es) [] pos)) none pos2) (tS X.K cA W (raiseF c ns m)) := by
  obtain ⟨fI, fd, ps, hm, T, iC, tI, B, F⟩ := M.ex
  refine (ps_raise (W := fun cls d _ H => W cls d H) hc tk (pmk_oex T iC tI F (hr.mono hk) B .nil passL hg hm ha hdb he hpl)).imp fun D σ H h => ?_
  refine (bind1 (rep1 := rVs X.K) st_S h).imp fun vs H1 h => ?_
  obtain ⟨ρ, S, ds, hS, hv, h⟩ := h
  split at h
  · rename_i hl
    have hlen := RepVs.length hv
    obtain ⟨hl, hne, hz⟩ := hl
    refine ⟨by rw [hlen, hl]; exact hz, fun a hn => ⟨a, vs, by rw [List.append_nil], by rw [hlen, hl], upd_same, fun d H' hd hda h1 h2 h3 => ⟨rfl, d, fldV ns vs, h1, h2, ?_, ?_⟩⟩⟩
    · rwa [upd_ne hda] at hd
    · have hd1 : H1 d = none := by rwa [upd_ne hda] at hd
      have eH : upd (del H' a) d (.xd (fldV ns vs)) = upd H1 d (.xd (fldV ns vs)) := by
        funext b
        by_cases q : b = d
        · rw [q, upd_same, upd_same]
        · rw [upd_ne q, upd_ne q]
          by_cases z : b = a
          · rw [z, del_same, hn]
          · rw [del_ne z, h3 b z q, upd_ne z]
      rw [eH]
      refine h ρ _ _ _ (Ext.new hd1) (hS.new hd1) ⟨rfl, .inr ⟨?_, d, _, rfl, upd_same, (RepP.rev (RepP.zip hv)).ext (Ext.new hd1)⟩⟩
      intro z
      have := congrArg List.length z
      rw [List.length_reverse, List.length_zip, List.length_nil] at this
      omega
  · exact h.elim
end
/-! ### caught, with its fields -/
def fldO (p : Str × D) : Option (Str × Key) := (keyO p.2).map fun k => (p.1, k)
noncomputable def catchF (hit : Nat → Option Bool) (i : Nat) (mb : MS) (mh : Addr → Option Addr → Exn → MS) : MS := fun l S => match mb l S with
  | .ok p S1 => .ok p S1
  | .ex x S1 => match hit x.c with
    | some true => match x.fs with
      | [] => same fun a => (goneS i (mh a none x (l.set i (some (.exn a))) S1)).noex
      | _ :: _ => match mapO fldO x.fs with
        | some ks => same fun a => same fun dd => (goneS i (mh a (some dd) x (l.set i (some (.exf a dd ks))) S1)).noex
        | none => .bad
    | some false => .ex x S1
    | none => .bad
  | .bad => .bad
section
variable {K : PySem.W.Frag} {cA : Nat → Addr} {W : XK} {ρ : List Addr} {H : Hp}
theorem key_eq {d : D} {k : Key} {v : V} (h : keyO d = some k) (r : RepV K ρ H d v) : v = kV k := by
  unfold keyO at h
  split at h <;> first | (cases h; unfold RepV at r; exact r) | cases h
theorem fldk_rep : ∀ {fs : List (Str × D)} {ps : List (Str × V)} {ks : List (Str × Key)}, mapO fldO fs = some ks → RepP K ρ H fs ps → ps = ks.map fun p => (p.1, kV p.2)
  | [], ps, ks, h, r => by
    cases h
    unfold RepP at r
    exact r
  | (n, x) :: fs, ps, ks, h, r => by
    unfold mapO at h
    split at h
    · rename_i y ys e1 e2
      cases h
      unfold RepP at r
      obtain ⟨v, q, rfl, r1, r2⟩ := r
      unfold fldO at e1
      cases ek : keyO x with
      | none => rw [show keyO (n, x).2 = keyO x from rfl, ek] at e1; cases e1
      | some k =>
        rw [show keyO (n, x).2 = keyO x from rfl, ek] at e1
        cases e1
        rw [List.map_cons, key_eq ek r1, fldk_rep e2 r2]
    · cases h
variable {X : Cx} {x n : Str} {c : Value} {i : Nat} {body suite : List Stmt} {b₀ : Stmt} {np pos pos' : Pos} {mb : MS} {mh : Addr → Option Addr → Exn → MS} {hit : Nat → Option Bool}
theorem stryF (hh : ∀ k b, hit k = some b → PySem.W.exmOne X.K (.ref (cA k)) c = some b) (hN : X.N.Nodup) (hi : X.N[i]? = some n) (hc : Names X x c) (tk : Takes X (fun cls d _ H => W cls d H))
    (hb : ∀ (W' : WX) (pn : List (Addr × Obj)) (xe : Value → Shared → Prop), Takes (X.tr pn xe) W' → PassesOwn (model X.prog X.w) X.A X.env xe → PSs (X.tr pn xe) body (tX X.K cA W' mb))
    (hsu : ∀ (a : Addr) (oe : Obj) (pn : List (Addr × Obj)) (z : Exn) (d : Option Addr), Zc (.ref (cA z.c)) d oe → (∃ vs, oe.data = .fields vs) → PSs (X.suite a ((a, oe) :: pn)) (b₀ :: suite) (tS X.K cA NoX (mh a d z)))
    (hs : X.stack = X.env :: X.outer := by rfl) (hf : X.env.frame = some X.env.locals := by rfl) (hln : X.env.kindOf n = some .local := by rfl) :
    PS X (.Try body [.ExceptHandler (some (.Name x np)) (some n) (b₀ :: suite) pos'] [] [] pos) (tS X.K cA W (catchF hit i mb mh)) := by
  refine (ps_try_as (Wout := fun cls d _ H => W cls d H) (tb := fun W' => tX X.K cA W' mb) (ts := fun a cls d D σ H => ∃ z : Exn, cls = .ref (cA z.c) ∧ tS X.K cA NoX (mh a d z) D σ H) hs hf hN hi hln hc tk hb
    (fun a oe cls d pn hz hv => ⟨fun pins s σ H D I h => ?_⟩)).imp fun D σ H h => ?_
  · obtain ⟨z, rfl, h2⟩ := h
    exact (hsu a oe pn z d hz hv).run pins s σ H D I h2
  · obtain ⟨ρ, S, l, hS, hl, h⟩ := h
    refine ⟨ρ, S, l, hS, hl, ?_⟩
    unfold catchF at h
    generalize mb l S = r at h
    cases r with
    | ok p S1 => exact h
    | bad => exact h.elim
    | ex z S1 =>
      intro ρ' H' cls d e hS' hx
      obtain ⟨rfl, hx⟩ := hx
      simp only at h
      cases eh : hit z.c with
      | none => rw [eh] at h; exact h.elim
      | some b =>
        rw [eh] at h
        cases b with
        | false =>
          refine ⟨false, hh _ _ eh, fun q => ?_, fun _ => h ρ' H' _ _ e hS' ⟨rfl, hx⟩⟩
          cases q
        | true =>
          refine ⟨true, hh _ _ eh, fun _ a ha => ⟨z, rfl, ?_⟩, fun q => nomatch q⟩
          simp only at h
          rcases hx with ⟨h1, rfl⟩ | ⟨h1, dd, ps, rfl, h2, h3⟩
          · rw [h1] at h
            simp only at h
            refine ⟨ρ', S1, l.set i (some (.exn a)), hS', (hl.ext e).set (by unfold RepV; rfl) i, ?_⟩
            rcases same_at (f := fun a => (goneS i (mh a none z (l.set i (some (.exn a))) S1)).noex) a with q | q
            · have h := After.back st_S e h
              rw [q] at h
              exact gone_of h
            · rw [q] at h
              exact h.elim
          · cases ef : z.fs with
            | nil => exact absurd ef h1
            | cons p fs =>
              rw [ef] at h
              simp only at h
              rw [← ef] at h
              cases ek : mapO fldO z.fs with
              | none => rw [ek] at h; exact h.elim
              | some ks =>
                rw [ek] at h
                simp only at h
                have e3 := fldk_rep ek h3
                refine ⟨ρ', S1, l.set i (some (.exf a dd ks)), hS', (hl.ext e).set (by unfold RepV; exact ⟨rfl, by rw [← e3]; exact h2⟩) i, ?_⟩
                rcases same_at (f := fun a => same fun dd => (goneS i (mh a (some dd) z (l.set i (some (.exf a dd ks))) S1)).noex) a with q | q
                · have h := After.back st_S e h
                  rw [q] at h
                  rcases same_at (f := fun dd => (goneS i (mh a (some dd) z (l.set i (some (.exf a dd ks))) S1)).noex) dd with q2 | q2
                  · rw [q2] at h
                    exact gone_of h
                  · rw [q2] at h
                    exact h.elim
                · rw [q] at h
                  exact h.elim
end
/-! ### isinstance of it -/
def kisY (kis : Nat → CN → Option Bool) (z : Exn) : List CN → Option Bool
  | [] => some false
  | n :: r => match kis z.c n with
    | some true => some true
    | some false => kisY kis z r
    | none => none
def isXF (ans : Option Bool) (a : Addr) (d : Option Addr) (m : ME) : MB := match ans with
  | none => fun _ _ => .bad
  | some t => fun l S => (m l S).bind fun e S1 => match e with
    | .exn b => if b = a ∧ d = none then .ok t S1 else .bad
    | .exf b dd _ => if b = a ∧ d = some dd then .ok t S1 else .bad
    | _ => .bad
section
variable {X : Cx} {cA : Nat → Addr} {W : XK} {K : PySem.W.Frag} {kis : Nat → CN → Option Bool} {z : Exn}
theorem kisY_of (F : IsFacts K cA kis) : ∀ {ns : List CN} {b : Bool}, kisY kis z ns = some b → PySem.W.kitAny K (.ref (cA z.c)) (ns.map (CN.val cA)) = some b
  | [], b, h => h
  | n :: ns, b, h => by
    unfold kisY at h
    show (match PySem.W.kitOne K (.ref (cA z.c)) (n.val cA) with
      | some true => some true
      | some false => PySem.W.kitAny K (.ref (cA z.c)) (ns.map (CN.val cA))
      | none => none) = some b
    split at h
    · rename_i e
      rw [(F _ _ _ e).2]
      exact h
    · rename_i e
      rw [(F _ _ _ e).2]
      exact kisY_of F h
    · cases h
theorem kisY_ex (F : IsFacts K cA kis) {n : CN} {ns : List CN} {b : Bool} (h : kisY kis z (n :: ns) = some b) : ExcC K (cA z.c) := by
  unfold kisY at h
  split at h
  · rename_i e; exact (F _ _ _ e).1
  · rename_i e; exact (F _ _ _ e).1
  · cases h
variable {a : Addr} {oe : Obj} {pn : List (Addr × Obj)} {d : Option Addr} {pos p0 p1 : Pos} {e : Expr} {m : ME} {x : Str}
/-- the dict of the exception stands -/
def DOk (d : Option Addr) (H : Hp) : Prop := ∀ dd, d = some dd → ∃ fs, H dd = some (.xd fs)
theorem inst_at {D : Addr} {pins : List (Addr × Obj)} {s : Shared} {σ : L2.St} {H : Hp} (I : Inv (X.suite a ((a, oe) :: pn)) pins σ H s) (hz : Zc (.ref D) d oe) (hf : ∃ vs, oe.data = .fields vs) (hd : DOk d H) : ∃ od, PySem.W.InstAt s.heap a oe D od := by
  obtain ⟨hget, _⟩ := I.pin (a, oe) (List.mem_append.mpr (.inl List.mem_cons_self))
  obtain ⟨vs, hv⟩ := hf
  have hn : PySem.W.notCls oe = true := by unfold PySem.W.notCls; rw [hv]
  cases d with
  | none => exact ⟨none, ⟨hget, hz.1, hn, by rw [hz.2]; trivial⟩⟩
  | some dd =>
    obtain ⟨fs, hx⟩ := hd dd rfl
    have ho : ObjOk X.prog X.w H s.heap dd (.xd fs) := I.hok dd _ hx
    obtain ⟨mA, hns, hr⟩ := ho
    obtain ⟨od, ho, hl⟩ := lookIn_ns hns
    exact ⟨some od, ⟨hget, hz.1, hn, by rw [hz.2]; exact ho⟩⟩
theorem kitx_of' {D : Addr} {od : Option Obj} (C : ExcC K D) : PySem.W.KitX K (.ref a) (.ref D) (fun h => PySem.W.InstAt h a oe D od) :=
  PySem.W.kitx_exc (by obtain ⟨cd, hc, _⟩ := PySem.W.any_some C.hd; rw [hc]; rfl) C.hg C.hk C.hs C.ha C.hn C.ht C.hm
def rIsF (K : PySem.W.Frag) (D a : Addr) (d : Option Addr) : List V → Hp → VK → Prop := fun xs H Q => DOk d H ∧ ∃ (v : V) (u : Value) (b : Bool), xs = [.ref a, v] ∧ ClsV v u ∧ PySem.W.kitOne K (.ref D) u = some b ∧ Q (.bl b) H
theorem call_isF {D : Addr} (C : ExcC X.K D) (hz : Zc (.ref D) d oe) (hf : ∃ vs, oe.data = .fields vs) : CallR (X.suite a ((a, oe) :: pn)) (.builtin "isinstance") (rIsF X.K D a d) := by
  intro pins s σ H xs us Q I r h
  obtain ⟨hd, v, u, b, rfl, cv, e, q⟩ := h
  obtain ⟨u1, u2, rfl, r1, r2⟩ := vals2 r
  cases (show u1 = Value.ref a from r1)
  have e2 := cv.eq r2
  subst e2
  obtain ⟨od, J⟩ := inst_at I hz hf hd
  exact PySem.W.kia_one (kitx_of' C) I.kIn J e (fun z => nomatch z) fun tk => ⟨.bl b, H, I.kept (t' := tk) fun _ _ z => z, rfl, q⟩
def rIsFT (K : PySem.W.Frag) (D a : Addr) (d : Option Addr) : List V → Hp → VK → Prop := fun xs H Q => DOk d H ∧ ∃ (tp : Addr) (cs : List V) (us : List Value) (b : Bool), xs = [.ref a, .ref tp] ∧ H tp = some (.tup cs) ∧ Paired ClsV cs us ∧ PySem.W.kitAny K (.ref D) us = some b ∧ Q (.bl b) H
theorem call_isFT {D : Addr} (C : ExcC X.K D) (hz : Zc (.ref D) d oe) (hf : ∃ vs, oe.data = .fields vs) : CallR (X.suite a ((a, oe) :: pn)) (.builtin "isinstance") (rIsFT X.K D a d) := by
  intro pins s σ H xs us Q I r h
  obtain ⟨hd, tp, cs, ws, b, rfl, hT, k, e, q⟩ := h
  obtain ⟨u1, u2, rfl, r1, r2⟩ := vals2 r
  cases (show u2 = Value.ref tp from r2)
  cases (show u1 = Value.ref a from r1)
  obtain ⟨od, J⟩ := inst_at I hz hf hd
  obtain ⟨_, its, rv, o, h1, h2, n, h3⟩ := (show ObjOk X.prog X.w H s.heap tp (.tup cs) from I.hok tp _ hT)
  have e3 := ClsV.all k rv
  subst e3
  obtain ⟨oc, od', dt, sl⟩ := o
  simp only at h2 h3
  subst h2 h3
  exact PySem.W.kia_tup (kitx_of' C) I.kIn J h1 e (fun z => nomatch z) fun tk => ⟨.bl b, H, I.kept (t' := tk) fun _ _ z => z, rfl, q⟩
theorem isXF_bind {Q : Bool → Hp → Prop} {ρ : List Addr} {H : Hp} {t : Bool} {S : Store} {e : D} {v : V} (hS : Reps X.K cA ρ H S) (hr : RepV X.K ρ H e v) (h : After X.K cA W ρ H rId (match e with
    | .exn b => if b = a ∧ d = none then R.ok t S else .bad
    | .exf b dd _ => if b = a ∧ d = some dd then .ok t S else .bad
    | _ => .bad) Q) : v = .ref a ∧ DOk d H ∧ After X.K cA W ρ H rId (R.ok t S) Q := by
  split at h
  · split at h
    · rename_i c
      obtain ⟨rfl, rfl⟩ := c
      unfold RepV at hr
      exact ⟨hr, (fun dd q => nomatch q), h⟩
    · exact h.elim
  · split at h
    · rename_i c
      obtain ⟨rfl, rfl⟩ := c
      unfold RepV at hr
      exact ⟨hr.1, fun dd q => by cases q; exact ⟨_, hr.2⟩, h⟩
    · exact h.elim
  · exact h.elim
theorem DOk.ext {ρ ρ' : List Addr} {H H' : Hp} (e : Ext ρ H ρ' H') (h : DOk d H) : DOk d H' := fun dd q => by
  obtain ⟨fs, hx⟩ := h dd q
  exact ⟨fs, e.xds _ _ hx⟩
theorem misF {ec : Expr} {n : CN} (F : IsFacts X.K cA kis) (hz : Zc (.ref (cA z.c)) d oe) (hf : ∃ vs, oe.data = .fields vs) (ha : PE (X.suite a ((a, oe) :: pn)) e (tE X.K cA W m)) (hcn : PE (X.suite a ((a, oe) :: pn)) ec (tC (n.v cA)))
    (hg : Gl X "isinstance") (hm : X.mg "isinstance" = none) (hv : bootBuiltins "isinstance" = some (.builtin "isinstance") := by decide +kernel)
    (hs2 : starEach [ec] X.env = (false, eval ec X.env) :: starEach [] X.env := by rfl) (hs : starEach [e, ec] X.env = (false, eval e X.env) :: starEach [ec] X.env := by rfl)
    (hpl : (backTo pos (starEach [ec] X.env)).any (·.1) = false := by rfl) : PE (X.suite a ((a, oe) :: pn)) (.Call (.Name "isinstance" p0) [e, ec] [] pos) (tE X.K cA W (toV (isXF (kis z.c n) a d m))) := by
  cases hk : kis z.c n with
  | none => exact ⟨fun pins s σ H Q I h => by obtain ⟨ρ, S, l, _, _, h⟩ := h; exact h.elim⟩
  | some b =>
    obtain ⟨k2, k3⟩ := F _ _ _ hk
    exact (pe_callB (call_isF k2 hz hf) hg hm hv (pa_cons ha (pa_cons hcn pa_nil hs2) hs) (by decide) (by decide) hs hpl).imp fun σ H Q h0 => by
      refine tG.imp (bind1 (rep1 := rV X.K) st_Id (tE_toV h0)) fun v H1 h => ?_
      obtain ⟨ρ, S, dd, hS, hr, h⟩ := h
      obtain ⟨rfl, hd, h⟩ := isXF_bind hS hr h
      exact ⟨hd, n.v cA, n.val cA, b, rfl, n.clsv, k3, After.same (Q := fun b H' => Q (.bl b) H') (rep := rId) h hS rfl⟩
theorem misFt {es : List Expr} {k : Nat} {n : CN} {ns : List CN} {p2 : Pos} (F : IsFacts X.K cA kis) (hz : Zc (.ref (cA z.c)) d oe) (hf : ∃ vs, oe.data = .fields vs) (ha : PE (X.suite a ((a, oe) :: pn)) e (tE X.K cA W m)) (hcn : PA (X.suite a ((a, oe) :: pn)) es (tVs ((n :: ns).map (CN.v cA))))
    (hlen : (n :: ns).length ≤ sizeLine) (hg : Gl X "isinstance") (hm : X.mg "isinstance" = none) (hv : bootBuiltins "isinstance" = some (.builtin "isinstance") := by decide +kernel)
    (hs2 : starEach [(.Tuple es k p2 : Expr)] X.env = (false, eval (.Tuple es k p2) X.env) :: starEach [] X.env := by rfl) (hs : starEach [e, .Tuple es k p2] X.env = (false, eval e X.env) :: starEach [.Tuple es k p2] X.env := by rfl)
    (hpl : (backTo pos (starEach [(.Tuple es k p2 : Expr)] X.env)).any (·.1) = false := by rfl) : PE (X.suite a ((a, oe) :: pn)) (.Call (.Name "isinstance" p0) [e, .Tuple es k p2] [] pos) (tE X.K cA W (toV (isXF (kisY kis z (n :: ns)) a d m))) := by
  cases hk : kisY kis z (n :: ns) with
  | none => exact ⟨fun pins s σ H Q I h => by obtain ⟨ρ, S, l, _, _, h⟩ := h; exact h.elim⟩
  | some b =>
    have k2 := kisY_ex F hk
    exact (pe_callB (call_isFT k2 hz hf) hg hm hv (pa_cons ha (pa_cons (pe_tup hcn) pa_nil hs2) hs) (by decide) (by decide) hs hpl).imp fun σ H Q h0 => by
      refine tG.imp (bind1 (rep1 := rV X.K) st_Id (tE_toV h0)) fun v H1 h => ?_
      obtain ⟨ρ, S, dd, hS, hr, h⟩ := h
      obtain ⟨rfl, hd, h⟩ := isXF_bind hS hr h
      refine ⟨by rw [List.length_map]; exact hlen, fun tp htp => ⟨hd.ext (ρ := ρ) (Ext.new htp), tp, _, _, b, rfl, upd_same, CN.all (n :: ns), kisY_of F hk, ?_⟩⟩
      exact h ρ _ b (Ext.new htp) (hS.new htp) rfl
/-! ### a field of it -/
def xfE (ok : Bool) (a : Addr) (d : Option Addr) (f : Str) (m : ME) : ME := match ok with
  | false => fun _ _ => .bad
  | true => fun l S => (m l S).bind fun e S1 => match e with
    | .exf b dd fs => if b = a ∧ d = some dd then (match fs.lookup f with
      | some k => .ok (keyD k) S1
      | none => .bad) else .bad
    | _ => .bad
def XfFacts (K : PySem.W.Frag) (cA : Nat → Addr) (xf : Nat → Str → Bool) : Prop := ∀ c n, xf c n = true → XfC K (cA c) ∧ PySem.W.findIn K (.ref (cA c)) n = some none
theorem lookup_keys (f : Str) : ∀ fs : List (Str × Key), (fs.map fun p => (p.1, kV p.2)).lookup f = (fs.lookup f).map kV
  | [] => rfl
  | (g, k) :: fs => by
    rw [List.map_cons, List.lookup_cons, List.lookup_cons]
    cases h : f == g with
    | true => rfl
    | false => exact lookup_keys f fs
theorem mxf {f : Str} {xf : Nat → Str → Bool} (F : XfFacts X.K cA xf) (hz : Zc (.ref (cA z.c)) d oe) (hf : ∃ vs, oe.data = .fields vs) (he : PE (X.suite a ((a, oe) :: pn)) e (tE X.K cA W m)) (hb : attributeBase e f X.env (eval e X.env) = eval e X.env := by rfl) :
    PE (X.suite a ((a, oe) :: pn)) (.Attribute e f pos) (tE X.K cA W (xfE (xf z.c f) a d f m)) := by
  cases hk : xf z.c f with
  | false => exact ⟨fun pins s σ H Q I h => by obtain ⟨ρ, S, l, _, _, h⟩ := h; exact h.elim⟩
  | true =>
    obtain ⟨k1, k2⟩ := F _ _ hk
    exact (pe_xf k1 k2 hz hf he hb).imp fun σ H Q h => (bind1 (rep1 := rV X.K) st_V h).imp fun v H1 h => by
      obtain ⟨ρ, S, e, hS, hr, g⟩ := h
      split at g
      · split at g
        · rename_i c
          obtain ⟨rfl, rfl⟩ := c
          unfold RepV at hr
          split at g
          · rename_i k ek
            refine ⟨hr.1, rfl, _, _, kV k, rfl, hr.2, ?_, After.same (rep := rV X.K) g hS kV_rep⟩
            rw [lookup_keys, ek]
            rfl
          · exact g.elim
        · exact g.elim
      · exact g.elim
end
end ML

set_option Elab.async false
set_option linter.all false
set_option maxRecDepth 100000
set_option autoImplicit false
/-! ML29: in a try's body: a tuple, len(..) of what is called. -/
namespace ML
open PySem PySem.Spec L2
def tAsX (K : PySem.W.Frag) (cA : Nat → Addr) (W : WX) (m : MA) : TA := fun σ H Q => tAs K cA (L2.WE W σ) m σ H Q
section
variable {X : Cx} {cA : Nat → Addr} {W : WX} {pos p0 : Pos} {e : Expr} {es : List Expr} {m : ME} {n : MA}
theorem xanil : PA X [] (tAsX X.K cA W nilA) := pa_nil.imp fun σ H Q h => by
  obtain ⟨ρ, S, l, hS, hl, h⟩ := h
  exact After.same h hS .nil
theorem xacons (ha : PE X e (tEX X.K cA W m)) (hr : PA X es (tAsX X.K cA W n)) (hs : starEach (e :: es) X.env = (false, eval e X.env) :: starEach es X.env := by rfl) : PA X (e :: es) (tAsX X.K cA W (consA m n)) :=
  (pa_cons ha hr hs).imp fun σ H Q h => (bind2 (W := L2.WE W σ) (rep1 := rV X.K) (rep2 := rVs X.K) st_Vs mo_V h).imp fun x H1 h => tG.imp h fun xs H2 h => by
    obtain ⟨ρ, S, a, b, hS, h1, h2, h⟩ := h
    exact After.same h hS (.cons h1 h2)
theorem xtup {k : Nat} (h : PA X es (tAsX X.K cA W n)) : PE X (.Tuple es k pos) (tEX X.K cA W (tupE n)) :=
  (pe_tup h).imp fun σ H Q h => (bind1 (W := L2.WE W σ) (rep1 := rVs X.K) st_V h).imp fun xs H1 h => by
    obtain ⟨ρ, S, ds, hS, hr, h⟩ := h
    split at h
    · rename_i hz
      exact ⟨by rw [RepVs.length hr]; exact hz, fun p hp => h.tup hS hp hr⟩
    · exact h.elim
theorem xcallV {x : Str} {id : String} {f : List D → Store → R D} (hc : ∀ W0 : XK, CallR X (.builtin id) (tN X.K cA W0 (rV X.K) f)) (hg : Gl X x) (hm : X.mg x = none) (hv : bootBuiltins x = some (.builtin id)) (ha : PA X (e :: es) (tAsX X.K cA W n)) (hn : x ≠ "__name__" := by decide) (hdb : (x == ("__debug__" : Str)) = false := by decide)
    (he : starEach (e :: es) X.env = (false, eval e X.env) :: starEach es X.env := by rfl) (hpl : (backTo pos (starEach es X.env)).any (·.1) = false := by rfl) : PE X (.Call (.Name x p0) (e :: es) [] pos) (tEX X.K cA W (newL f n)) := by
  have hc' : CallR X (.builtin id) (fun xs H Q => ∃ W0 : XK, tN X.K cA W0 (rV X.K) f xs H Q) := fun pins s σ H xs us Q I r h => by
    obtain ⟨W0, h⟩ := h
    exact hc W0 pins s σ H xs us Q I r h
  exact (pe_callB hc' hg hm hv ha hn hdb he hpl).imp fun σ H Q h => (bind1 (W := L2.WE W σ) (rep1 := rVs X.K) st_V h).imp fun vs H1 h => ⟨_, h⟩
end
/-! ### how what is new here runs -/
section
variable {l : Loc} {S : Store}
@[simp] theorem x_srcE (r : MA) : srcE r l S = (r l S).bind enumD := (rfl)
@[simp] theorem x_srcK (m : ME) : srcK m l S = (m l S).bind keysD := (rfl)
@[simp] theorem x_srcRR (m n : ME) : srcRR m n l S = (m l S).bind fun d S1 => (n l S1).bind fun e S2 => match intO d, intO e with
  | some a, some b => if -(2 ^ 62) ≤ a ∧ a < 2 ^ 62 ∧ -(2 ^ 62) ≤ b ∧ b < 2 ^ 62 then .ok (revFrom (a + (((b - a).toNat : Nat) : Int) - 1) (b - a).toNat, still) S2 else .bad
  | _, _ => .bad := (rfl)
theorem x_enumD {n : Nat} {xs : List D} (h : lstAt S n = some xs) : enumD [.ref n] S = .ok (enumOf xs, fun S' => lstAt S' n = some xs) S := by
  unfold enumD
  simp only [h]
theorem x_keysD {n : Nat} {kvs : List (Key × D)} (h : S[n]? = some (.dlk kvs)) : keysD (.ref n) S = .ok (kvs.map fun kv => keyD kv.1, fun S' => S'[n]? = some (.dlk kvs)) S := by
  unfold keysD
  simp only [h]
@[simp] theorem x_raiseF (k : Nat) (ns : List Str) (m : MA) : raiseF k ns m l S = (m l S).bind fun ds S1 => if ds.length = ns.length ∧ ns.length ≠ 0 ∧ ns.length ≤ 1000 then .ex ⟨k, (ns.zip ds).reverse⟩ S1 else .bad := (rfl)
theorem x_lock {α : Type} {me : ME} {m : Loc → Store → R α} {n : Nat} {kvs : List (Key × D)} {p : α} {S' : Store} (h1 : me l S = .ok (.ref n) S) (h2 : S[n]? = some (.dct kvs)) (h3 : m l (S.set n (.dlk kvs)) = .ok p S') (h4 : S'[n]? = some (.dlk kvs)) :
    lockM me m l S = .ok p (S'.set n (.dct kvs)) := by
  have e : dctOf me l S = some (n, kvs) := by
    unfold dctOf
    rw [h1]
    simp only [h2]
  unfold lockM
  rw [e]
  simp only [h3]
  unfold unlk
  simp only
  rw [if_pos h4]
theorem catchF_ok {hit : Nat → Option Bool} {i : Nat} {mb : MS} {mh : Addr → Option Addr → Exn → MS} {S1 : Store} {p : Fl × Loc} (h : mb l S = .ok p S1) : catchF hit i mb mh l S = .ok p S1 := by
  unfold catchF
  rw [h]
theorem catchF_ex {hit : Nat → Option Bool} {i : Nat} {mb : MS} {mh : Addr → Option Addr → Exn → MS} {S1 : Store} {x : Exn} {ks : List (Str × Key)} {r : R (Fl × Loc)} (h : mb l S = .ex x S1) (hh : hit x.c = some true) (hf : x.fs ≠ []) (hk : mapO fldO x.fs = some ks)
    (hr : ∀ a dd, (goneS i (mh a (some dd) x (l.set i (some (.exf a dd ks))) S1)).noex = r) : catchF hit i mb mh l S = r := by
  unfold catchF
  rw [h]
  simp only [hh]
  cases e : x.fs with
  | nil => exact absurd e hf
  | cons p fs =>
    rw [e] at hk
    simp only [hk]
    exact same_of fun a => same_of fun dd => hr a dd
theorem catchF_ex0 {hit : Nat → Option Bool} {i : Nat} {mb : MS} {mh : Addr → Option Addr → Exn → MS} {S1 : Store} {x : Exn} {r : R (Fl × Loc)} (h : mb l S = .ex x S1) (hh : hit x.c = some true) (hf : x.fs = [])
    (hr : ∀ a, (goneS i (mh a none x (l.set i (some (.exn a))) S1)).noex = r) : catchF hit i mb mh l S = r := by
  unfold catchF
  rw [h]
  simp only [hh, hf]
  exact same_of fun a => hr a
end
end ML

set_option Elab.async false
set_option linter.all false
set_option maxRecDepth 100000
set_option autoImplicit false
set_option maxHeartbeats 4000000
namespace K09
open PySem PySem.Spec L2 ML
def topS (i : Nat) : Stmt := PySem.Challenge.pw_waitloom_k09_names_refused.main.body.getD i (.Pass ⟨0, 0, 0, 0⟩)
abbrev s__law_brought : Stmt := topS 50
abbrev N__law_brought : List Str := ["_law_body_here", "_law_found", "_law_one", "_law_k"]
theorem sc__law_brought : FnScope N__law_brought ["_law_body_here"] (defScope s__law_brought) := ⟨rfl, rfl, rfl, by decide +kernel, rfl, by decide +kernel, by decide +kernel⟩
abbrev s__law_inner : Stmt := topS 49
abbrev N__law_inner : List Str := ["_law_part", "_law_found", "_law_thing", "_law_is_part", "_law_one"]
theorem sc__law_inner : FnScope N__law_inner ["_law_part"] (defScope s__law_inner) := ⟨rfl, rfl, rfl, by decide +kernel, rfl, by decide +kernel, by decide +kernel⟩
abbrev s__law_used : Stmt := topS 51
abbrev N__law_used : List Str := ["_law_part", "_law_found", "_law_inner_here"]
theorem sc__law_used : FnScope N__law_used ["_law_part"] (defScope s__law_used) := ⟨rfl, rfl, rfl, by decide +kernel, rfl, by decide +kernel, by decide +kernel⟩
abbrev s__law_gathered : Stmt := topS 52
abbrev N__law_gathered : List Str := ["_law_part", "_law_number_here", "_law_found", "_law_inner_here", "_law_here", "_law_uses", "_law_one"]
theorem sc__law_gathered : FnScope N__law_gathered ["_law_part", "_law_number_here", "_law_found"] (defScope s__law_gathered) := ⟨rfl, rfl, rfl, by decide +kernel, rfl, by decide +kernel, by decide +kernel⟩
abbrev s__law_all : Stmt := topS 53
abbrev N__law_all : List Str := ["_law_program_here", "_law_uses", "_law_one", "_law_found"]
theorem sc__law_all : FnScope N__law_all ["_law_program_here"] (defScope s__law_all) := ⟨rfl, rfl, rfl, by decide +kernel, rfl, by decide +kernel, by decide +kernel⟩
abbrev s__law_cell_at : Stmt := topS 41
abbrev N__law_cell_at : List Str := ["_law_script", "_law_k"]
theorem sc__law_cell_at : FnScope N__law_cell_at ["_law_script", "_law_k"] (defScope s__law_cell_at) := ⟨rfl, rfl, rfl, by decide +kernel, rfl, by decide +kernel, by decide +kernel⟩
abbrev s__law_names : Stmt := topS 43
abbrev N__law_names : List Str := ["_law_cell", "_law_many", "_law_letters", "_law_size", "_law_word", "_law_made", "_law_k"]
theorem sc__law_names : FnScope N__law_names ["_law_cell", "_law_many"] (defScope s__law_names) := ⟨rfl, rfl, rfl, by decide +kernel, rfl, by decide +kernel, by decide +kernel⟩
abbrev s__law_next : Stmt := topS 42
abbrev N__law_next : List Str := ["_law_state", "_law_k", "_law_cell"]
theorem sc__law_next : FnScope N__law_next ["_law_state"] (defScope s__law_next) := ⟨rfl, rfl, rfl, by decide +kernel, rfl, by decide +kernel, by decide +kernel⟩
abbrev s__law_number : Stmt := topS 44
abbrev N__law_number : List Str := ["_law_more", "_law_far"]
theorem sc__law_number : FnScope N__law_number ["_law_more"] (defScope s__law_number) := ⟨rfl, rfl, rfl, by decide +kernel, rfl, by decide +kernel, by decide +kernel⟩
abbrev s__law_term : Stmt := topS 45
abbrev N__law_term : List Str := ["_law_state", "_law_deep", "_law_number_here", "_law_kind", "_law_more", "_law_names_here", "_law_params", "_law_maker", "_law_turn"]
theorem sc__law_term : FnScope N__law_term ["_law_state", "_law_deep"] (defScope s__law_term) := ⟨rfl, rfl, rfl, by decide +kernel, rfl, by decide +kernel, by decide +kernel⟩
abbrev s__law_body : Stmt := topS 46
abbrev N__law_body : List Str := ["_law_state", "_law_deep", "_law_may_hand", "_law_turn"]
theorem sc__law_body : FnScope N__law_body ["_law_state", "_law_deep", "_law_may_hand"] (defScope s__law_body) := ⟨rfl, rfl, rfl, by decide +kernel, rfl, by decide +kernel, by decide +kernel⟩
abbrev s__law_statement : Stmt := topS 47
abbrev N__law_statement : List Str := ["_law_state", "_law_deep", "_law_may_hand", "_law_number_here", "_law_kind", "_law_name", "_law_word", "_law_test", "_law_bodies", "_law_turn"]
theorem sc__law_statement : FnScope N__law_statement ["_law_state", "_law_deep", "_law_may_hand"] (defScope s__law_statement) := ⟨rfl, rfl, rfl, by decide +kernel, rfl, by decide +kernel, by decide +kernel⟩
abbrev s__law_program : Stmt := topS 48
abbrev N__law_program : List Str := ["_law_script", "_law_most", "_law_names_here", "_law_state", "_law_body_here"]
theorem sc__law_program : FnScope N__law_program ["_law_script", "_law_most"] (defScope s__law_program) := ⟨rfl, rfl, rfl, by decide +kernel, rfl, by decide +kernel, by decide +kernel⟩
abbrev s_BadNameXX_initXX : Stmt := inClass (topS 4) 0
abbrev N_BadNameXX_initXX : List Str := ["self", "name"]
theorem sc_BadNameXX_initXX : FnScope N_BadNameXX_initXX ["self", "name"] (defScope s_BadNameXX_initXX) := ⟨rfl, rfl, rfl, by decide +kernel, rfl, by decide +kernel, by decide +kernel⟩
abbrev s_inner_of : Stmt := topS 29
abbrev N_inner_of : List Str := ["part", "word"]
theorem sc_inner_of : FnScope N_inner_of ["part"] (defScope s_inner_of) := ⟨rfl, rfl, rfl, by decide +kernel, rfl, by decide +kernel, by decide +kernel⟩
abbrev s_gather : Stmt := topS 32
abbrev N_gather : List Str := ["part", "outer", "found", "inner"]
theorem sc_gather : FnScope N_gather ["part", "outer", "found"] (defScope s_gather) := ⟨rfl, rfl, rfl, by decide +kernel, rfl, by decide +kernel, by decide +kernel⟩
abbrev s_has_word : Stmt := topS 20
abbrev N_has_word : List Str := ["thing", "word", "size"]
theorem sc_has_word : FnScope N_has_word ["thing", "word", "size"] (defScope s_has_word) := ⟨rfl, rfl, rfl, by decide +kernel, rfl, by decide +kernel, by decide +kernel⟩
abbrev s_is_name : Stmt := topS 17
abbrev N_is_name : List Str := ["thing", "sign"]
theorem sc_is_name : FnScope N_is_name ["thing"] (defScope s_is_name) := ⟨rfl, rfl, rfl, by decide +kernel, rfl, by decide +kernel, by decide +kernel⟩
abbrev s_is_names : Stmt := topS 19
abbrev N_is_names : List Str := ["thing", "name"]
theorem sc_is_names : FnScope N_is_names ["thing"] (defScope s_is_names) := ⟨rfl, rfl, rfl, by decide +kernel, rfl, by decide +kernel, by decide +kernel⟩
abbrev s_is_number : Stmt := topS 18
abbrev N_is_number : List Str := ["thing"]
theorem sc_is_number : FnScope N_is_number ["thing"] (defScope s_is_number) := ⟨rfl, rfl, rfl, by decide +kernel, rfl, by decide +kernel, by decide +kernel⟩
abbrev s_is_simple : Stmt := topS 21
abbrev N_is_simple : List Str := ["thing"]
theorem sc_is_simple : FnScope N_is_simple ["thing"] (defScope s_is_simple) := ⟨rfl, rfl, rfl, by decide +kernel, rfl, by decide +kernel, by decide +kernel⟩
abbrev s_is_function : Stmt := topS 22
abbrev N_is_function : List Str := ["thing", "left"]
theorem sc_is_function : FnScope N_is_function ["thing", "left"] (defScope s_is_function) := ⟨rfl, rfl, rfl, by decide +kernel, rfl, by decide +kernel, by decide +kernel⟩
abbrev s_is_term : Stmt := topS 23
abbrev N_is_term : List Str := ["thing", "left", "is_sign", "term"]
theorem sc_is_term : FnScope N_is_term ["thing", "left"] (defScope s_is_term) := ⟨rfl, rfl, rfl, by decide +kernel, rfl, by decide +kernel, by decide +kernel⟩
abbrev s_is_body : Stmt := topS 24
abbrev N_is_body : List Str := ["thing", "left", "may_hand", "one"]
theorem sc_is_body : FnScope N_is_body ["thing", "left", "may_hand"] (defScope s_is_body) := ⟨rfl, rfl, rfl, by decide +kernel, rfl, by decide +kernel, by decide +kernel⟩
abbrev s_is_short : Stmt := topS 25
abbrev N_is_short : List Str := ["thing", "left", "may_hand"]
theorem sc_is_short : FnScope N_is_short ["thing", "left", "may_hand"] (defScope s_is_short) := ⟨rfl, rfl, rfl, by decide +kernel, rfl, by decide +kernel, by decide +kernel⟩
abbrev s_is_statement : Stmt := topS 26
abbrev N_is_statement : List Str := ["thing", "left", "may_hand", "bodies", "body"]
theorem sc_is_statement : FnScope N_is_statement ["thing", "left", "may_hand"] (defScope s_is_statement) := ⟨rfl, rfl, rfl, by decide +kernel, rfl, by decide +kernel, by decide +kernel⟩
abbrev s_size_of : Stmt := topS 30
abbrev N_size_of : List Str := ["part", "inner"]
theorem sc_size_of : FnScope N_size_of ["part"] (defScope s_size_of) := ⟨rfl, rfl, rfl, by decide +kernel, rfl, by decide +kernel, by decide +kernel⟩
abbrev s_is_program : Stmt := topS 27
abbrev N_is_program : List Str := ["thing"]
theorem sc_is_program : FnScope N_is_program ["thing"] (defScope s_is_program) := ⟨rfl, rfl, rfl, by decide +kernel, rfl, by decide +kernel, by decide +kernel⟩
abbrev s_need_program : Stmt := topS 28
abbrev N_need_program : List Str := ["thing"]
theorem sc_need_program : FnScope N_need_program ["thing"] (defScope s_need_program) := ⟨rfl, rfl, rfl, by decide +kernel, rfl, by decide +kernel, by decide +kernel⟩
abbrev s_functions_of : Stmt := topS 33
abbrev N_functions_of : List Str := ["program", "found"]
theorem sc_functions_of : FnScope N_functions_of ["program"] (defScope s_functions_of) := ⟨rfl, rfl, rfl, by decide +kernel, rfl, by decide +kernel, by decide +kernel⟩
abbrev s_has_round : Stmt := topS 37
abbrev N_has_round : List Str := ["functions", "owns", "number", "name"]
theorem sc_has_round : FnScope N_has_round ["functions", "owns", "number", "name"] (defScope s_has_round) := ⟨rfl, rfl, rfl, by decide +kernel, rfl, by decide +kernel, by decide +kernel⟩
abbrev s_brought : Stmt := topS 34
abbrev N_brought : List Str := ["body", "found", "one"]
theorem sc_brought : FnScope N_brought ["body"] (defScope s_brought) := ⟨rfl, rfl, rfl, by decide +kernel, rfl, by decide +kernel, by decide +kernel⟩
abbrev s_own_names : Stmt := topS 38
abbrev N_own_names : List Str := ["functions", "number", "found", "name"]
theorem sc_own_names : FnScope N_own_names ["functions", "number"] (defScope s_own_names) := ⟨rfl, rfl, rfl, by decide +kernel, rfl, by decide +kernel, by decide +kernel⟩
abbrev s_used_in : Stmt := topS 35
abbrev N_used_in : List Str := ["part", "found", "inner"]
theorem sc_used_in : FnScope N_used_in ["part"] (defScope s_used_in) := ⟨rfl, rfl, rfl, by decide +kernel, rfl, by decide +kernel, by decide +kernel⟩
abbrev s_used : Stmt := topS 36
abbrev N_used : List Str := ["body", "found", "one"]
theorem sc_used : FnScope N_used ["body"] (defScope s_used) := ⟨rfl, rfl, rfl, by decide +kernel, rfl, by decide +kernel, by decide +kernel⟩
abbrev s_scopes_of : Stmt := topS 39
abbrev N_scopes_of : List Str := ["program", "functions", "owns", "number", "function", "name", "needs", "taken", "found", "inner", "boxed", "k", "place", "some"]
theorem sc_scopes_of : FnScope N_scopes_of ["program"] (defScope s_scopes_of) := ⟨rfl, rfl, rfl, by decide +kernel, rfl, by decide +kernel, by decide +kernel⟩
abbrev s__law_said : Stmt := topS 56
abbrev N__law_said : List Str := ["_law_program_here", "e", "_law_others"]
theorem sc__law_said : FnScope N__law_said ["_law_program_here"] (defScope s__law_said) := ⟨rfl, rfl, rfl, by decide +kernel, rfl, by decide +kernel, by decide +kernel⟩
abbrev s__law_holder : Stmt := topS 54
abbrev N__law_holder : List Str := ["_law_rows", "_law_number_here", "_law_name"]
theorem sc__law_holder : FnScope N__law_holder ["_law_rows", "_law_number_here", "_law_name"] (defScope s__law_holder) := ⟨rfl, rfl, rfl, by decide +kernel, rfl, by decide +kernel, by decide +kernel⟩
abbrev s__law_wrong_name : Stmt := topS 55
abbrev N__law_wrong_name : List Str := ["_law_rows", "_law_number_here", "_law_names_here", "_law_twice", "_law_lost", "_law_k", "_law_name"]
theorem sc__law_wrong_name : FnScope N__law_wrong_name ["_law_rows"] (defScope s__law_wrong_name) := ⟨rfl, rfl, rfl, by decide +kernel, rfl, by decide +kernel, by decide +kernel⟩
abbrev s_law : Stmt := topS 57
abbrev N_law : List Str := ["_law_script", "_law_most", "_law_program_here", "_law_kept", "_law_rows", "_law_wrong", "_law_due"]
theorem sc_law : FnScope N_law ["_law_script"] (defScope s_law) := ⟨rfl, rfl, rfl, by decide +kernel, rfl, by decide +kernel, by decide +kernel⟩
def hit_LoomError (c : Nat) : Option Bool := match c with
  | 1 => some true
  | 3 => some true
  | _ => none
def kis (c : Nat) (n : CN) : Option Bool := match c, n with
  | 1, .own 4 => some false
  | 1, .own 2 => some false
  | 1, .own 1 => some true
  | 1, .own 6 => some false
  | 1, .own 5 => some false
  | 1, .own 3 => some false
  | 1, .ty "ValueError" => some true
  | 3, .own 4 => some false
  | 3, .own 2 => some false
  | 3, .own 1 => some false
  | 3, .own 6 => some false
  | 3, .own 5 => some false
  | 3, .own 3 => some true
  | 3, .ty "ValueError" => some true
  | _, _ => none
def xf (c : Nat) (n : Str) : Bool := (decide (c = 3) && decide (n = ("name" : Str)))
noncomputable def b__law_brought_1 (r : Nat → List D → Store → R D) : MS := seqS (ifS (andM (cmpM eqD (binE ixD (varE 2) (conE (.int 0))) (conE (.str (Str.ofString "try")))) (cmpM eqD (varE 3) (conE (.int 3)))) (exprS (lmE appendM (varE 1) (consA (binE ixD (varE 2) (conE (.int 3))) (nilA)))) (nilS)) (ifS (andM (cmpM inD (binE ixD (varE 2) (conE (.int 0))) (tupE (consA (conE (.str (Str.ofString "if"))) (consA (conE (.str (Str.ofString "while"))) (consA (conE (.str (Str.ofString "try"))) (nilA)))))) (andM (ofV (toV (isE "tuple" (binE ixD (varE 2) (varE 3))))) (orM (cmpM gtD (varE 3) (conE (.int 1))) (cmpM eqD (binE ixD (varE 2) (conE (.int 0))) (conE (.str (Str.ofString "try"))))))) (setS 1 (binE addD (varE 1) (callE 1 (r 0) (consA (binE ixD (varE 2) (varE 3)) (nilA))))) (nilS))
noncomputable def b__law_brought_0 (r : Nat → List D → Store → R D) : MS := seqS (ifS (cmpM eqD (binE ixD (varE 2) (conE (.int 0))) (conE (.str (Str.ofString "let")))) (exprS (lmE appendM (varE 1) (consA (binE ixD (varE 2) (conE (.int 1))) (nilA)))) (nilS)) (forS (srcR2 (consA (conE (.int 1)) (consA (newL lenV (consA (varE 2) (nilA))) (nilA)))) (nameT 3) ((b__law_brought_1 r)))
noncomputable def m__law_brought (r : Nat → List D → Store → R D) : MS := seqS (setS 1 (allocE (lstN (nilA)))) (seqS (forS (srcV (varE 0)) (nameT 2) ((b__law_brought_0 r))) (retS (varE 1)))
noncomputable def G__law_brought : Nat → Nat → List D → Store → R D
  | 0, _ => badF
  | n + 1, 0 => bodyF N__law_brought.length (m__law_brought (G__law_brought n))
  | _ + 1, _ => badF
noncomputable def F__law_brought : List D → Store → R D := G__law_brought 60 0
theorem G__law_brought_0 (n : Nat) : G__law_brought (n + 1) 0 = bodyF N__law_brought.length (m__law_brought (G__law_brought n)) := (rfl)
noncomputable def b__law_inner_0 : MS := seqS (setS 3 (andV (ofV (toV (isE "tuple" (varE 2)))) (andV (ofV (toV (cmpM neD (varE 2) (tupE (nilA))))) (toV (isE "str" (binE ixD (varE 2) (conE (.int 0)))))))) (ifS (andM (ofV (varE 3)) (cmpM notInD (binE ixD (varE 0) (conE (.int 0))) (tupE (consA (conE (.str (Str.ofString "main"))) (consA (conE (.str (Str.ofString "fun"))) (consA (conE (.str (Str.ofString "loop"))) (nilA))))))) (exprS (lmE appendM (varE 1) (consA (varE 2) (nilA)))) (ifS (ofV (toV (isE "tuple" (varE 2)))) (setS 1 (binE addD (varE 1) (allocE (compN (srcV (varE 2)) (.one 4) (ofV (toV (isE "tuple" (varE 4)))) (varE 4))))) (nilS)))
noncomputable def m__law_inner : MS := seqS (setS 1 (allocE (lstN (nilA)))) (seqS (forS (srcV (sliceE (varE 0) (someO (conE (.int 1))) (noO))) (nameT 2) (b__law_inner_0)) (retS (varE 1)))
noncomputable def F__law_inner : List D → Store → R D := bodyF N__law_inner.length m__law_inner
noncomputable def b__law_used_0 (r : Nat → List D → Store → R D) : MS := setS 1 (binE addD (varE 1) (callE 1 (r 0) (consA (varE 2) (nilA))))
noncomputable def m__law_used (r : Nat → List D → Store → R D) : MS := seqS (ifS (cmpM inD (binE ixD (varE 0) (conE (.int 0))) (tupE (consA (conE (.str (Str.ofString "fun"))) (consA (conE (.str (Str.ofString "loop"))) (nilA))))) (retS (allocE (lstN (nilA)))) (nilS)) (seqS (setS 1 (ifE (cmpM inD (binE ixD (varE 0) (conE (.int 0))) (tupE (consA (conE (.str (Str.ofString "name"))) (consA (conE (.str (Str.ofString "set"))) (nilA))))) (allocE (lstN (consA (binE ixD (varE 0) (conE (.int 1))) (nilA)))) (allocE (lstN (nilA))))) (seqS (forS (srcV (callE 1 F__law_inner (consA (varE 0) (nilA)))) (nameT 2) ((b__law_used_0 r))) (retS (varE 1))))
noncomputable def G__law_used : Nat → Nat → List D → Store → R D
  | 0, _ => badF
  | n + 1, 0 => bodyF N__law_used.length (m__law_used (G__law_used n))
  | _ + 1, _ => badF
noncomputable def F__law_used : List D → Store → R D := G__law_used 60 0
theorem G__law_used_0 (n : Nat) : G__law_used (n + 1) 0 = bodyF N__law_used.length (m__law_used (G__law_used n)) := (rfl)
noncomputable def b__law_gathered_1 (r : Nat → List D → Store → R D) : MS := setS 5 (binE addD (varE 5) (callE 1 F__law_used (consA (varE 6) (nilA))))
noncomputable def b__law_gathered_0 (r : Nat → List D → Store → R D) : MS := seqS (setS 4 (varE 1)) (seqS (ifS (cmpM inD (binE ixD (varE 3) (conE (.int 0))) (tupE (consA (conE (.str (Str.ofString "fun"))) (consA (conE (.str (Str.ofString "loop"))) (nilA))))) (seqS (setS 5 (allocE (lstN (nilA)))) (seqS (forS (srcV (binE ixD (varE 3) (conE (.int 2)))) (nameT 6) ((b__law_gathered_1 r))) (seqS (exprS (lmE appendM (varE 2) (consA (tupE (consA (binE ixD (varE 3) (conE (.int 0))) (consA (binE addD (allocE (newL listV (consA (binE ixD (varE 3) (conE (.int 1))) (nilA)))) (callE 1 F__law_brought (consA (binE ixD (varE 3) (conE (.int 2))) (nilA)))) (consA (varE 5) (consA (varE 1) (nilA)))))) (nilA)))) (setS 4 (binE subD (newL lenV (consA (varE 2) (nilA))) (conE (.int 1))))))) (nilS)) (exprS (callE 3 (r 0) (consA (varE 3) (consA (varE 4) (consA (varE 2) (nilA)))))))
noncomputable def m__law_gathered (r : Nat → List D → Store → R D) : MS := forS (srcV (callE 1 F__law_inner (consA (varE 0) (nilA)))) (nameT 3) ((b__law_gathered_0 r))
noncomputable def G__law_gathered : Nat → Nat → List D → Store → R D
  | 0, _ => badF
  | n + 1, 0 => bodyF N__law_gathered.length (m__law_gathered (G__law_gathered n))
  | _ + 1, _ => badF
noncomputable def F__law_gathered : List D → Store → R D := G__law_gathered 60 0
theorem G__law_gathered_0 (n : Nat) : G__law_gathered (n + 1) 0 = bodyF N__law_gathered.length (m__law_gathered (G__law_gathered n)) := (rfl)
noncomputable def b__law_all_0 : MS := setS 1 (binE addD (varE 1) (callE 1 F__law_used (consA (varE 2) (nilA))))
noncomputable def m__law_all : MS := seqS (setS 1 (allocE (lstN (nilA)))) (seqS (forS (srcV (binE ixD (varE 0) (conE (.int 2)))) (nameT 2) (b__law_all_0)) (seqS (setS 3 (allocE (lstN (consA (tupE (consA (conE (.str (Str.ofString "main"))) (consA (binE addD (allocE (newL listV (consA (binE ixD (varE 0) (conE (.int 1))) (nilA)))) (callE 1 F__law_brought (consA (binE ixD (varE 0) (conE (.int 2))) (nilA)))) (consA (varE 1) (consA (conE .non) (nilA)))))) (nilA))))) (seqS (exprS (callE 3 F__law_gathered (consA (varE 0) (consA (conE (.int 0)) (consA (varE 3) (nilA)))))) (retS (varE 3)))))
noncomputable def F__law_all : List D → Store → R D := bodyF N__law_all.length m__law_all
noncomputable def m__law_cell_at : MS := seqS (ifS (cmpM ltD (varE 1) (newL lenV (consA (varE 0) (nilA)))) (retS (binE ixD (varE 0) (varE 1))) (nilS)) (retS (conE (.int 0)))
noncomputable def F__law_cell_at : List D → Store → R D := bodyF N__law_cell_at.length m__law_cell_at
noncomputable def b__law_names_0 : MS := seqS (asgS (subT (varE 4) (binE modD (binE fdivD (varE 0) (conE (.int 8))) (varE 3))) (binE ixD (varE 2) (binE modD (binE addD (binE fdivD (varE 0) (conE (.int 2048))) (binE mulD (conE (.int 7)) (varE 6))) (conE (.int 26))))) (exprS (lmE appendM (varE 5) (consA (joinV (conE (.str (Str.ofString ""))) (sliceE (varE 4) (noO) (someO (varE 3)))) (nilA))))
noncomputable def m__law_names : MS := seqS (setS 2 (conE (.str (Str.ofString "abcdefghijklmnopqrstuvwxyz")))) (seqS (setS 3 (binE addD (conE (.int 1)) (binE modD (varE 0) (conE (.int 8))))) (seqS (setS 4 (allocE (compN (srcR1 (consA (conE (.int 8)) (nilA))) (.one 6) (yesM) (binE ixD (varE 2) (binE modD (binE addD (binE fdivD (varE 0) (conE (.int 64))) (binE mulD (conE (.int 5)) (varE 6))) (conE (.int 26))))))) (seqS (ifS (cmpM eqD (binE modD (binE fdivD (varE 0) (conE (.int 512))) (conE (.int 4))) (conE (.int 1))) (retS (allocE (compN (srcR1 (consA (varE 1) (nilA))) (.one 6) (yesM) (joinV (conE (.str (Str.ofString ""))) (sliceE (varE 4) (noO) (someO (binE addD (varE 6) (conE (.int 1))))))))) (nilS)) (seqS (setS 5 (allocE (lstN (nilA)))) (seqS (forS (srcR1 (consA (varE 1) (nilA))) (nameT 6) (b__law_names_0)) (retS (varE 5)))))))
noncomputable def F__law_names : List D → Store → R D := bodyF N__law_names.length m__law_names
noncomputable def m__law_next : MS := seqS (asgS (subT (varE 0) (conE (.str (Str.ofString "at")))) (binE addD (binE ixD (varE 0) (conE (.str (Str.ofString "at")))) (conE (.int 1)))) (seqS (setS 1 (binE ixD (varE 0) (conE (.str (Str.ofString "at"))))) (seqS (setS 2 (callE 2 F__law_cell_at (consA (binE ixD (varE 0) (conE (.str (Str.ofString "cells")))) (consA (binE modD (varE 1) (newL maxV (consA (conE (.int 1)) (consA (newL lenV (consA (binE ixD (varE 0) (conE (.str (Str.ofString "cells")))) (nilA))) (nilA))))) (nilA))))) (retS (binE fdivD (binE modD (binE addD (binE mulD (varE 2) (conE (.int 48271))) (binE mulD (binE mulD (varE 1) (varE 1)) (conE (.int 69621)))) (conE (.int 2147483647))) (conE (.int 8))))))
noncomputable def F__law_next : List D → Store → R D := bodyF N__law_next.length m__law_next
noncomputable def m__law_number : MS := seqS (setS 1 (binE subD (binE modD (varE 0) (binE addD (binE mulD (conE (.int 2)) (binE powD (conE (.int 10)) (conE (.int 12)))) (conE (.int 1)))) (binE powD (conE (.int 10)) (conE (.int 12))))) (retS (binE ixD (allocE (lstN (consA (binE modD (binE fdivD (varE 0) (conE (.int 8))) (conE (.int 10))) (consA (binE subD (binE modD (binE fdivD (varE 0) (conE (.int 8))) (conE (.int 2000))) (conE (.int 1000))) (consA (varE 1) (consA (binE ixD (allocE (lstN (consA (binE powD (conE (.int 10)) (conE (.int 12))) (consA (binE subD (conE (.int 0)) (binE powD (conE (.int 10)) (conE (.int 12)))) (consA (conE (.int 0)) (nilA)))))) (binE modD (binE fdivD (varE 0) (conE (.int 8))) (conE (.int 3)))) (nilA))))))) (binE modD (varE 0) (conE (.int 4)))))
noncomputable def F__law_number : List D → Store → R D := bodyF N__law_number.length m__law_number
noncomputable def m__law_term (r : Nat → List D → Store → R D) : MS := seqS (setS 2 (callE 1 F__law_next (consA (varE 0) (nilA)))) (seqS (asgS (subT (varE 0) (conE (.str (Str.ofString "left")))) (binE subD (binE ixD (varE 0) (conE (.str (Str.ofString "left")))) (conE (.int 1)))) (seqS (setS 3 (binE modD (varE 2) (conE (.int 10)))) (seqS (setS 4 (binE fdivD (varE 2) (conE (.int 10)))) (seqS (setS 5 (binE ixD (varE 0) (conE (.str (Str.ofString "names"))))) (seqS (ifS (orM (cmpM ltD (varE 1) (conE (.int 1))) (cmpM ltD (binE ixD (varE 0) (conE (.str (Str.ofString "left")))) (conE (.int 0)))) (setS 3 (binE modD (varE 3) (conE (.int 2)))) (nilS)) (seqS (ifS (cmpM eqD (varE 3) (conE (.int 0))) (retS (tupE (consA (conE (.str (Str.ofString "number"))) (consA (callE 1 F__law_number (consA (varE 4) (nilA))) (nilA))))) (nilS)) (seqS (ifS (cmpM inD (varE 3) (tupE (consA (conE (.int 1)) (consA (conE (.int 8)) (consA (conE (.int 9)) (nilA)))))) (retS (tupE (consA (conE (.str (Str.ofString "name"))) (consA (binE ixD (varE 5) (binE modD (varE 4) (newL lenV (consA (varE 5) (nilA))))) (nilA))))) (nilS)) (seqS (ifS (cmpM ltD (varE 3) (conE (.int 4))) (retS (tupE (consA (conE (.str (Str.ofString "two"))) (consA (binE ixD (conE (.str (Str.ofString "+-*<="))) (binE modD (varE 4) (conE (.int 5)))) (consA (callE 2 (r 0) (consA (varE 0) (consA (binE subD (varE 1) (conE (.int 1))) (nilA)))) (consA (callE 2 (r 0) (consA (varE 0) (consA (binE subD (varE 1) (conE (.int 1))) (nilA)))) (nilA))))))) (nilS)) (seqS (ifS (cmpM ltD (varE 3) (conE (.int 6))) (seqS (setS 6 (newL tupV (consA (sliceE (varE 5) (someO (binE modD (varE 4) (conE (.int 5)))) (someO (binE addD (binE modD (varE 4) (conE (.int 5))) (binE modD (binE fdivD (varE 4) (conE (.int 5))) (conE (.int 4)))))) (nilA)))) (retS (tupE (consA (binE ixD (allocE (lstN (consA (conE (.str (Str.ofString "fun"))) (consA (conE (.str (Str.ofString "loop"))) (nilA))))) (binE subD (varE 3) (conE (.int 4)))) (consA (varE 6) (consA (callE 3 (r 1) (consA (varE 0) (consA (binE subD (varE 1) (conE (.int 1))) (consA (toV (cmpM eqD (varE 3) (conE (.int 5)))) (nilA))))) (nilA))))))) (nilS)) (seqS (ifS (cmpM eqD (varE 3) (conE (.int 6))) (seqS (setS 7 (callE 2 (r 0) (consA (varE 0) (consA (binE subD (varE 1) (conE (.int 1))) (nilA))))) (retS (tupE (consA (conE (.str (Str.ofString "call"))) (consA (varE 7) (consA (newL tupL (compN (srcR1 (consA (binE modD (varE 4) (conE (.int 5))) (nilA))) (.one 8) (yesM) (callE 2 (r 0) (consA (varE 0) (consA (binE subD (varE 1) (conE (.int 1))) (nilA)))))) (nilA))))))) (nilS)) (retS (tupE (consA (conE (.str (Str.ofString "step"))) (consA (callE 2 (r 0) (consA (varE 0) (consA (binE subD (varE 1) (conE (.int 1))) (nilA)))) (consA (callE 2 (r 0) (consA (varE 0) (consA (binE subD (varE 1) (conE (.int 1))) (nilA)))) (nilA))))))))))))))))
noncomputable def m__law_body (r : Nat → List D → Store → R D) : MS := retS (newL tupL (compN (srcR1 (consA (binE modD (callE 1 F__law_next (consA (varE 0) (nilA))) (conE (.int 4))) (nilA))) (.one 3) (yesM) (callE 3 (r 2) (consA (varE 0) (consA (varE 1) (consA (varE 2) (nilA)))))))
noncomputable def m__law_statement (r : Nat → List D → Store → R D) : MS := seqS (setS 3 (callE 1 F__law_next (consA (varE 0) (nilA)))) (seqS (asgS (subT (varE 0) (conE (.str (Str.ofString "left")))) (binE subD (binE ixD (varE 0) (conE (.str (Str.ofString "left")))) (conE (.int 1)))) (seqS (setS 4 (binE modD (varE 3) (conE (.int 10)))) (seqS (setS 5 (binE ixD (binE ixD (varE 0) (conE (.str (Str.ofString "names")))) (binE modD (binE fdivD (varE 3) (conE (.int 10))) (newL lenV (consA (binE ixD (varE 0) (conE (.str (Str.ofString "names")))) (nilA)))))) (seqS (setS 6 (binE ixD (allocE (lstN (consA (conE (.str (Str.ofString "great"))) (consA (conE (.str (Str.ofString "kind"))) (consA (conE (.str (Str.ofString "any"))) (consA (conE (.str (Str.ofString "unset"))) (consA (varE 5) (nilA)))))))) (binE modD (binE fdivD (varE 3) (conE (.int 100))) (conE (.int 5))))) (seqS (ifS (orM (cmpM ltD (varE 1) (conE (.int 2))) (cmpM ltD (binE ixD (varE 0) (conE (.str (Str.ofString "left")))) (conE (.int 0)))) (setS 4 (binE modD (varE 4) (conE (.int 5)))) (nilS)) (seqS (ifS (andM (cmpM eqD (varE 4) (conE (.int 2))) (notM (ofV (varE 2)))) (setS 4 (conE (.int 3))) (nilS)) (seqS (ifS (cmpM ltD (varE 4) (conE (.int 2))) (retS (tupE (consA (binE ixD (allocE (lstN (consA (conE (.str (Str.ofString "let"))) (consA (conE (.str (Str.ofString "set"))) (nilA))))) (varE 4)) (consA (varE 5) (consA (callE 2 (r 0) (consA (varE 0) (consA (binE subD (varE 1) (conE (.int 1))) (nilA)))) (nilA)))))) (nilS)) (seqS (ifS (cmpM ltD (varE 4) (conE (.int 5))) (retS (tupE (consA (binE ixD (allocE (lstN (consA (conE (.str (Str.ofString "hand"))) (consA (conE (.str (Str.ofString "do"))) (consA (conE (.str (Str.ofString "back"))) (nilA)))))) (binE subD (varE 4) (conE (.int 2)))) (consA (callE 2 (r 0) (consA (varE 0) (consA (binE subD (varE 1) (conE (.int 1))) (nilA)))) (nilA))))) (nilS)) (seqS (ifS (cmpM eqD (varE 4) (conE (.int 5))) (retS (tupE (consA (conE (.str (Str.ofString "fault"))) (consA (binE ixD (allocE (lstN (consA (varE 6) (consA (conE (.str (Str.ofString "anya"))) (nilA))))) (newL intV (consA (toV (cmpM eqD (varE 6) (conE (.str (Str.ofString "any"))))) (nilA)))) (consA (callE 2 (r 0) (consA (varE 0) (consA (binE subD (varE 1) (conE (.int 1))) (nilA)))) (nilA)))))) (nilS)) (seqS (ifS (cmpM eqD (varE 4) (conE (.int 6))) (retS (tupE (consA (conE (.str (Str.ofString "while"))) (consA (callE 2 (r 0) (consA (varE 0) (consA (binE subD (varE 1) (conE (.int 1))) (nilA)))) (consA (callE 3 (r 1) (consA (varE 0) (consA (binE subD (varE 1) (conE (.int 1))) (consA (varE 2) (nilA))))) (nilA)))))) (nilS)) (seqS (ifS (cmpM eqD (varE 4) (conE (.int 7))) (seqS (setS 7 (callE 2 (r 0) (consA (varE 0) (consA (binE subD (varE 1) (conE (.int 1))) (nilA))))) (retS (tupE (consA (conE (.str (Str.ofString "if"))) (consA (varE 7) (consA (callE 3 (r 1) (consA (varE 0) (consA (binE subD (varE 1) (conE (.int 1))) (consA (varE 2) (nilA))))) (consA (callE 3 (r 1) (consA (varE 0) (consA (binE subD (varE 1) (conE (.int 1))) (consA (varE 2) (nilA))))) (nilA)))))))) (nilS)) (seqS (setS 8 (allocE (compN (srcR1 (consA (conE (.int 3)) (nilA))) (.one 9) (yesM) (callE 3 (r 1) (consA (varE 0) (consA (binE subD (varE 1) (conE (.int 1))) (consA (varE 2) (nilA)))))))) (retS (tupE (consA (conE (.str (Str.ofString "try"))) (consA (binE ixD (varE 8) (conE (.int 0))) (consA (varE 6) (consA (varE 5) (consA (binE ixD (varE 8) (conE (.int 1))) (consA (binE ixD (varE 8) (conE (.int 2))) (nilA)))))))))))))))))))))
noncomputable def G__law_term : Nat → Nat → List D → Store → R D
  | 0, _ => badF
  | n + 1, 0 => bodyF N__law_term.length (m__law_term (G__law_term n))
  | n + 1, 1 => bodyF N__law_body.length (m__law_body (G__law_term n))
  | n + 1, 2 => bodyF N__law_statement.length (m__law_statement (G__law_term n))
  | _ + 1, _ => badF
noncomputable def F__law_term : List D → Store → R D := G__law_term 60 0
theorem G__law_term_0 (n : Nat) : G__law_term (n + 1) 0 = bodyF N__law_term.length (m__law_term (G__law_term n)) := (rfl)
noncomputable def F__law_body : List D → Store → R D := G__law_term 60 1
theorem G__law_term_1 (n : Nat) : G__law_term (n + 1) 1 = bodyF N__law_body.length (m__law_body (G__law_term n)) := (rfl)
noncomputable def F__law_statement : List D → Store → R D := G__law_term 60 2
theorem G__law_term_2 (n : Nat) : G__law_term (n + 1) 2 = bodyF N__law_statement.length (m__law_statement (G__law_term n)) := (rfl)
noncomputable def b__law_program_0 : MS := exprS (lmE appendM (varE 4) (consA (callE 3 F__law_statement (consA (varE 3) (consA (binE addD (conE (.int 2)) (binE modD (callE 1 F__law_next (consA (varE 3) (nilA))) (conE (.int 6)))) (consA (conE (.bl true)) (nilA))))) (nilA)))
noncomputable def m__law_program : MS := seqS (setS 2 (callE 2 F__law_names (consA (binE modD (binE mulD (callE 2 F__law_cell_at (consA (varE 0) (consA (conE (.int 0)) (nilA)))) (conE (.int 48271))) (conE (.int 2147483647))) (consA (conE (.int 8)) (nilA))))) (seqS (setS 3 (dictE (consP (conE (.str (Str.ofString "cells"))) (varE 0) (consP (conE (.str (Str.ofString "at"))) (conE (.int 0)) (consP (conE (.str (Str.ofString "left"))) (varE 1) (consP (conE (.str (Str.ofString "names"))) (varE 2) (nilP))))))) (seqS (setS 4 (allocE (lstN (nilA)))) (seqS (whileS (andM (cmpM gtD (binE ixD (varE 3) (conE (.str (Str.ofString "left")))) (conE (.int 0))) (cmpM ltD (newL lenV (consA (varE 4) (nilA))) (binE addD (conE (.int 1)) (binE modD (callE 2 F__law_cell_at (consA (varE 0) (consA (conE (.int 1)) (nilA)))) (conE (.int 6)))))) (b__law_program_0) FU) (retS (tupE (consA (conE (.str (Str.ofString "main"))) (consA (newL tupV (consA (sliceE (varE 2) (noO) (someO (binE modD (callE 2 F__law_cell_at (consA (varE 0) (consA (conE (.int 2)) (nilA)))) (conE (.int 5))))) (nilA))) (consA (newL tupV (consA (varE 4) (nilA))) (nilA)))))))))
noncomputable def F__law_program : List D → Store → R D := bodyF N__law_program.length m__law_program
noncomputable def m_inner_of : MS := seqS (setS 1 (binE ixD (varE 0) (conE (.int 0)))) (seqS (ifS (cmpM inD (varE 1) (tupE (consA (conE (.str (Str.ofString "number"))) (consA (conE (.str (Str.ofString "name"))) (nilA))))) (retS (allocE (lstN (nilA)))) (nilS)) (seqS (ifS (cmpM inD (varE 1) (tupE (consA (conE (.str (Str.ofString "do"))) (consA (conE (.str (Str.ofString "hand"))) (consA (conE (.str (Str.ofString "back"))) (nilA)))))) (retS (allocE (lstN (consA (binE ixD (varE 0) (conE (.int 1))) (nilA))))) (nilS)) (seqS (ifS (cmpM inD (varE 1) (tupE (consA (conE (.str (Str.ofString "let"))) (consA (conE (.str (Str.ofString "set"))) (consA (conE (.str (Str.ofString "fault"))) (nilA)))))) (retS (allocE (lstN (consA (binE ixD (varE 0) (conE (.int 2))) (nilA))))) (nilS)) (seqS (ifS (cmpM inD (varE 1) (tupE (consA (conE (.str (Str.ofString "main"))) (consA (conE (.str (Str.ofString "fun"))) (consA (conE (.str (Str.ofString "loop"))) (nilA)))))) (retS (allocE (newL listV (consA (binE ixD (varE 0) (conE (.int 2))) (nilA))))) (nilS)) (seqS (ifS (cmpM inD (varE 1) (tupE (consA (conE (.str (Str.ofString "while"))) (consA (conE (.str (Str.ofString "call"))) (nilA))))) (retS (binE addD (allocE (lstN (consA (binE ixD (varE 0) (conE (.int 1))) (nilA)))) (allocE (newL listV (consA (binE ixD (varE 0) (conE (.int 2))) (nilA)))))) (nilS)) (seqS (ifS (cmpM eqD (varE 1) (conE (.str (Str.ofString "two")))) (retS (allocE (lstN (consA (binE ixD (varE 0) (conE (.int 2))) (consA (binE ixD (varE 0) (conE (.int 3))) (nilA)))))) (nilS)) (seqS (ifS (cmpM eqD (varE 1) (conE (.str (Str.ofString "step")))) (retS (allocE (lstN (consA (binE ixD (varE 0) (conE (.int 1))) (consA (binE ixD (varE 0) (conE (.int 2))) (nilA)))))) (nilS)) (seqS (ifS (cmpM eqD (varE 1) (conE (.str (Str.ofString "if")))) (retS (binE addD (binE addD (allocE (lstN (consA (binE ixD (varE 0) (conE (.int 1))) (nilA)))) (allocE (newL listV (consA (binE ixD (varE 0) (conE (.int 2))) (nilA))))) (allocE (newL listV (consA (binE ixD (varE 0) (conE (.int 3))) (nilA)))))) (nilS)) (retS (binE addD (binE addD (allocE (newL listV (consA (binE ixD (varE 0) (conE (.int 1))) (nilA)))) (allocE (newL listV (consA (binE ixD (varE 0) (conE (.int 4))) (nilA))))) (allocE (newL listV (consA (binE ixD (varE 0) (conE (.int 5))) (nilA))))))))))))))
noncomputable def F_inner_of : List D → Store → R D := bodyF N_inner_of.length m_inner_of
noncomputable def b_gather_0 (r : Nat → List D → Store → R D) : MS := ifS (cmpM inD (binE ixD (varE 3) (conE (.int 0))) (tupE (consA (conE (.str (Str.ofString "fun"))) (consA (conE (.str (Str.ofString "loop"))) (nilA))))) (seqS (exprS (lmE appendM (varE 2) (consA (tupE (consA (binE ixD (varE 3) (conE (.int 0))) (consA (binE ixD (varE 3) (conE (.int 1))) (consA (binE ixD (varE 3) (conE (.int 2))) (consA (varE 1) (nilA)))))) (nilA)))) (exprS (callE 3 (r 0) (consA (varE 3) (consA (binE subD (newL lenV (consA (varE 2) (nilA))) (conE (.int 1))) (consA (varE 2) (nilA))))))) (exprS (callE 3 (r 0) (consA (varE 3) (consA (varE 1) (consA (varE 2) (nilA))))))
noncomputable def m_gather (r : Nat → List D → Store → R D) : MS := forS (srcV (callE 1 F_inner_of (consA (varE 0) (nilA)))) (nameT 3) ((b_gather_0 r))
noncomputable def G_gather : Nat → Nat → List D → Store → R D
  | 0, _ => badF
  | n + 1, 0 => bodyF N_gather.length (m_gather (G_gather n))
  | _ + 1, _ => badF
noncomputable def F_gather : List D → Store → R D := G_gather 60 0
theorem G_gather_0 (n : Nat) : G_gather (n + 1) 0 = bodyF N_gather.length (m_gather (G_gather n)) := (rfl)
noncomputable def m_has_word : MS := retS (andV (ofV (toV (isE "tuple" (varE 0)))) (andV (ofV (toV (cmpM eqD (newL lenV (consA (varE 0) (nilA))) (varE 2)))) (andV (ofV (toV (isE "str" (binE ixD (varE 0) (conE (.int 0)))))) (toV (cmpM eqD (binE ixD (varE 0) (conE (.int 0))) (varE 1))))))
noncomputable def F_has_word : List D → Store → R D := bodyF N_has_word.length m_has_word
noncomputable def m_is_name : MS := seqS (ifS (orM (notM (ofV (toV (isE "str" (varE 0))))) (notM (chainM leD leD (conE (.int 1)) (newL lenV (consA (varE 0) (nilA))) (conE (.int 8))))) (retS (conE (.bl false))) (nilS)) (retS (newL allL (compN (srcV (varE 0)) (.one 1) (yesM) (toV (chainM leD leD (conE (.str (Str.ofString "a"))) (varE 1) (conE (.str (Str.ofString "z"))))))))
noncomputable def F_is_name : List D → Store → R D := bodyF N_is_name.length m_is_name
noncomputable def m_is_names : MS := seqS (ifS (orM (notM (ofV (toV (isE "tuple" (varE 0))))) (orM (cmpM gtD (newL lenV (consA (varE 0) (nilA))) (conE (.int 4))) (notM (ofV (newL allL (compN (srcV (varE 0)) (.one 1) (yesM) (callE 1 F_is_name (consA (varE 1) (nilA))))))))) (retS (conE (.bl false))) (nilS)) (retS (toV (cmpM eqD (lenSetE (varE 0)) (newL lenV (consA (varE 0) (nilA))))))
noncomputable def F_is_names : List D → Store → R D := bodyF N_is_names.length m_is_names
noncomputable def m_is_number : MS := retS (andV (ofV (toV (isE "int" (varE 0)))) (andV (ofV (toV (notM (ofV (toV (isE "bool" (varE 0))))))) (toV (chainM leD leD (binE subD (conE (.int 0)) (conE (.int 1000000000000))) (varE 0) (conE (.int 1000000000000))))))
noncomputable def F_is_number : List D → Store → R D := bodyF N_is_number.length m_is_number
noncomputable def m_is_simple : MS := seqS (ifS (ofV (callE 3 F_has_word (consA (varE 0) (consA (conE (.str (Str.ofString "number"))) (consA (conE (.int 2)) (nilA)))))) (retS (callE 1 F_is_number (consA (binE ixD (varE 0) (conE (.int 1))) (nilA)))) (nilS)) (retS (andV (ofV (callE 3 F_has_word (consA (varE 0) (consA (conE (.str (Str.ofString "name"))) (consA (conE (.int 2)) (nilA)))))) (callE 1 F_is_name (consA (binE ixD (varE 0) (conE (.int 1))) (nilA)))))
noncomputable def F_is_simple : List D → Store → R D := bodyF N_is_simple.length m_is_simple
noncomputable def m_is_function (r : Nat → List D → Store → R D) : MS := seqS (ifS (ofV (callE 3 F_has_word (consA (varE 0) (consA (conE (.str (Str.ofString "fun"))) (consA (conE (.int 3)) (nilA)))))) (retS (andV (ofV (callE 1 F_is_names (consA (binE ixD (varE 0) (conE (.int 1))) (nilA)))) (callE 3 (r 2) (consA (binE ixD (varE 0) (conE (.int 2))) (consA (binE subD (varE 1) (conE (.int 1))) (consA (conE (.bl false)) (nilA))))))) (nilS)) (retS (andV (ofV (callE 3 F_has_word (consA (varE 0) (consA (conE (.str (Str.ofString "loop"))) (consA (conE (.int 3)) (nilA)))))) (andV (ofV (callE 1 F_is_names (consA (binE ixD (varE 0) (conE (.int 1))) (nilA)))) (callE 3 (r 2) (consA (binE ixD (varE 0) (conE (.int 2))) (consA (binE subD (varE 1) (conE (.int 1))) (consA (conE (.bl true)) (nilA))))))))
noncomputable def m_is_term (r : Nat → List D → Store → R D) : MS := seqS (ifS (cmpM ltD (varE 1) (conE (.int 1))) (retS (conE (.bl false))) (nilS)) (seqS (ifS (ofV (callE 3 F_has_word (consA (varE 0) (consA (conE (.str (Str.ofString "two"))) (consA (conE (.int 4)) (nilA)))))) (seqS (setS 2 (andV (ofV (toV (isE "str" (binE ixD (varE 0) (conE (.int 1)))))) (toV (cmpM inD (binE ixD (varE 0) (conE (.int 1))) (conE (.tup [.str (Str.ofString "+"), .str (Str.ofString "-"), .str (Str.ofString "*"), .str (Str.ofString "<"), .str (Str.ofString "=")])))))) (retS (andV (ofV (varE 2)) (andV (ofV (callE 2 (r 1) (consA (binE ixD (varE 0) (conE (.int 2))) (consA (binE subD (varE 1) (conE (.int 1))) (nilA))))) (callE 2 (r 1) (consA (binE ixD (varE 0) (conE (.int 3))) (consA (binE subD (varE 1) (conE (.int 1))) (nilA)))))))) (nilS)) (seqS (ifS (ofV (callE 3 F_has_word (consA (varE 0) (consA (conE (.str (Str.ofString "call"))) (consA (conE (.int 3)) (nilA)))))) (seqS (ifS (orM (notM (ofV (toV (isE "tuple" (binE ixD (varE 0) (conE (.int 2))))))) (orM (cmpM gtD (newL lenV (consA (binE ixD (varE 0) (conE (.int 2))) (nilA))) (conE (.int 4))) (notM (ofV (callE 2 (r 1) (consA (binE ixD (varE 0) (conE (.int 1))) (consA (binE subD (varE 1) (conE (.int 1))) (nilA)))))))) (retS (conE (.bl false))) (nilS)) (retS (newL allL (compN (srcV (binE ixD (varE 0) (conE (.int 2)))) (.one 3) (yesM) (callE 2 (r 1) (consA (varE 3) (consA (binE subD (varE 1) (conE (.int 1))) (nilA)))))))) (nilS)) (seqS (ifS (ofV (callE 3 F_has_word (consA (varE 0) (consA (conE (.str (Str.ofString "step"))) (consA (conE (.int 3)) (nilA)))))) (retS (andV (ofV (callE 2 (r 1) (consA (binE ixD (varE 0) (conE (.int 1))) (consA (binE subD (varE 1) (conE (.int 1))) (nilA))))) (callE 2 (r 1) (consA (binE ixD (varE 0) (conE (.int 2))) (consA (binE subD (varE 1) (conE (.int 1))) (nilA)))))) (nilS)) (retS (orV (ofV (callE 1 F_is_simple (consA (varE 0) (nilA)))) (callE 2 (r 0) (consA (varE 0) (consA (varE 1) (nilA)))))))))
noncomputable def m_is_body (r : Nat → List D → Store → R D) : MS := seqS (ifS (orM (notM (ofV (toV (isE "tuple" (varE 0))))) (cmpM gtD (newL lenV (consA (varE 0) (nilA))) (conE (.int 12)))) (retS (conE (.bl false))) (nilS)) (retS (newL allL (compN (srcV (varE 0)) (.one 3) (yesM) (callE 3 (r 4) (consA (varE 3) (consA (varE 1) (consA (varE 2) (nilA))))))))
noncomputable def m_is_short (r : Nat → List D → Store → R D) : MS := seqS (ifS (orM (ofV (callE 3 F_has_word (consA (varE 0) (consA (conE (.str (Str.ofString "let"))) (consA (conE (.int 3)) (nilA)))))) (ofV (callE 3 F_has_word (consA (varE 0) (consA (conE (.str (Str.ofString "set"))) (consA (conE (.int 3)) (nilA))))))) (retS (andV (ofV (callE 1 F_is_name (consA (binE ixD (varE 0) (conE (.int 1))) (nilA)))) (callE 2 (r 1) (consA (binE ixD (varE 0) (conE (.int 2))) (consA (binE subD (varE 1) (conE (.int 1))) (nilA)))))) (nilS)) (seqS (ifS (ofV (callE 3 F_has_word (consA (varE 0) (consA (conE (.str (Str.ofString "fault"))) (consA (conE (.int 3)) (nilA)))))) (retS (andV (ofV (callE 1 F_is_name (consA (binE ixD (varE 0) (conE (.int 1))) (nilA)))) (andV (ofV (toV (cmpM neD (binE ixD (varE 0) (conE (.int 1))) (conE (.str (Str.ofString "any")))))) (callE 2 (r 1) (consA (binE ixD (varE 0) (conE (.int 2))) (consA (binE subD (varE 1) (conE (.int 1))) (nilA))))))) (nilS)) (seqS (ifS (ofV (callE 3 F_has_word (consA (varE 0) (consA (conE (.str (Str.ofString "hand"))) (consA (conE (.int 2)) (nilA)))))) (retS (andV (ofV (varE 2)) (callE 2 (r 1) (consA (binE ixD (varE 0) (conE (.int 1))) (consA (binE subD (varE 1) (conE (.int 1))) (nilA)))))) (nilS)) (retS (andV (ofV (orV (ofV (callE 3 F_has_word (consA (varE 0) (consA (conE (.str (Str.ofString "do"))) (consA (conE (.int 2)) (nilA)))))) (callE 3 F_has_word (consA (varE 0) (consA (conE (.str (Str.ofString "back"))) (consA (conE (.int 2)) (nilA))))))) (callE 2 (r 1) (consA (binE ixD (varE 0) (conE (.int 1))) (consA (binE subD (varE 1) (conE (.int 1))) (nilA))))))))
noncomputable def m_is_statement (r : Nat → List D → Store → R D) : MS := seqS (ifS (cmpM ltD (varE 1) (conE (.int 1))) (retS (conE (.bl false))) (nilS)) (seqS (ifS (ofV (callE 3 F_has_word (consA (varE 0) (consA (conE (.str (Str.ofString "if"))) (consA (conE (.int 4)) (nilA)))))) (seqS (setS 3 (allocE (lstN (consA (binE ixD (varE 0) (conE (.int 2))) (consA (binE ixD (varE 0) (conE (.int 3))) (nilA)))))) (retS (andV (ofV (callE 2 (r 1) (consA (binE ixD (varE 0) (conE (.int 1))) (consA (binE subD (varE 1) (conE (.int 1))) (nilA))))) (newL allL (compN (srcV (varE 3)) (.one 4) (yesM) (callE 3 (r 2) (consA (varE 4) (consA (binE subD (varE 1) (conE (.int 1))) (consA (varE 2) (nilA)))))))))) (nilS)) (seqS (ifS (ofV (callE 3 F_has_word (consA (varE 0) (consA (conE (.str (Str.ofString "while"))) (consA (conE (.int 3)) (nilA)))))) (retS (andV (ofV (callE 2 (r 1) (consA (binE ixD (varE 0) (conE (.int 1))) (consA (binE subD (varE 1) (conE (.int 1))) (nilA))))) (callE 3 (r 2) (consA (binE ixD (varE 0) (conE (.int 2))) (consA (binE subD (varE 1) (conE (.int 1))) (consA (varE 2) (nilA))))))) (nilS)) (seqS (ifS (ofV (callE 3 F_has_word (consA (varE 0) (consA (conE (.str (Str.ofString "try"))) (consA (conE (.int 6)) (nilA)))))) (seqS (setS 3 (allocE (lstN (consA (binE ixD (varE 0) (conE (.int 1))) (consA (binE ixD (varE 0) (conE (.int 4))) (consA (binE ixD (varE 0) (conE (.int 5))) (nilA))))))) (retS (andV (ofV (callE 1 F_is_name (consA (binE ixD (varE 0) (conE (.int 2))) (nilA)))) (andV (ofV (callE 1 F_is_name (consA (binE ixD (varE 0) (conE (.int 3))) (nilA)))) (newL allL (compN (srcV (varE 3)) (.one 4) (yesM) (callE 3 (r 2) (consA (varE 4) (consA (binE subD (varE 1) (conE (.int 1))) (consA (varE 2) (nilA))))))))))) (nilS)) (retS (callE 3 (r 3) (consA (varE 0) (consA (varE 1) (consA (varE 2) (nilA)))))))))
noncomputable def G_is_function : Nat → Nat → List D → Store → R D
  | 0, _ => badF
  | n + 1, 0 => bodyF N_is_function.length (m_is_function (G_is_function n))
  | n + 1, 1 => bodyF N_is_term.length (m_is_term (G_is_function n))
  | n + 1, 2 => bodyF N_is_body.length (m_is_body (G_is_function n))
  | n + 1, 3 => bodyF N_is_short.length (m_is_short (G_is_function n))
  | n + 1, 4 => bodyF N_is_statement.length (m_is_statement (G_is_function n))
  | _ + 1, _ => badF
noncomputable def F_is_function : List D → Store → R D := G_is_function 60 0
theorem G_is_function_0 (n : Nat) : G_is_function (n + 1) 0 = bodyF N_is_function.length (m_is_function (G_is_function n)) := (rfl)
noncomputable def F_is_term : List D → Store → R D := G_is_function 60 1
theorem G_is_function_1 (n : Nat) : G_is_function (n + 1) 1 = bodyF N_is_term.length (m_is_term (G_is_function n)) := (rfl)
noncomputable def F_is_body : List D → Store → R D := G_is_function 60 2
theorem G_is_function_2 (n : Nat) : G_is_function (n + 1) 2 = bodyF N_is_body.length (m_is_body (G_is_function n)) := (rfl)
noncomputable def F_is_short : List D → Store → R D := G_is_function 60 3
theorem G_is_function_3 (n : Nat) : G_is_function (n + 1) 3 = bodyF N_is_short.length (m_is_short (G_is_function n)) := (rfl)
noncomputable def F_is_statement : List D → Store → R D := G_is_function 60 4
theorem G_is_function_4 (n : Nat) : G_is_function (n + 1) 4 = bodyF N_is_statement.length (m_is_statement (G_is_function n)) := (rfl)
noncomputable def m_size_of (r : Nat → List D → Store → R D) : MS := retS (binE addD (conE (.int 1)) (newL sumL (compN (srcV (callE 1 F_inner_of (consA (varE 0) (nilA)))) (.one 1) (yesM) (callE 1 (r 0) (consA (varE 1) (nilA))))))
noncomputable def G_size_of : Nat → Nat → List D → Store → R D
  | 0, _ => badF
  | n + 1, 0 => bodyF N_size_of.length (m_size_of (G_size_of n))
  | _ + 1, _ => badF
noncomputable def F_size_of : List D → Store → R D := G_size_of 60 0
theorem G_size_of_0 (n : Nat) : G_size_of (n + 1) 0 = bodyF N_size_of.length (m_size_of (G_size_of n)) := (rfl)
noncomputable def m_is_program : MS := seqS (ifS (orM (notM (ofV (callE 3 F_has_word (consA (varE 0) (consA (conE (.str (Str.ofString "main"))) (consA (conE (.int 3)) (nilA))))))) (orM (notM (ofV (callE 1 F_is_names (consA (binE ixD (varE 0) (conE (.int 1))) (nilA))))) (notM (ofV (callE 3 F_is_body (consA (binE ixD (varE 0) (conE (.int 2))) (consA (binE subD (conE (.int 20)) (conE (.int 1))) (consA (conE (.bl true)) (nilA))))))))) (retS (conE (.bl false))) (nilS)) (retS (toV (cmpM leD (callE 1 F_size_of (consA (varE 0) (nilA))) (conE (.int 300)))))
noncomputable def F_is_program : List D → Store → R D := bodyF N_is_program.length m_is_program
noncomputable def m_need_program : MS := ifS (notM (ofV (callE 1 F_is_program (consA (varE 0) (nilA))))) (raiseS 1) (nilS)
noncomputable def F_need_program : List D → Store → R D := bodyF N_need_program.length m_need_program
noncomputable def m_functions_of : MS := seqS (exprS (callE 1 F_need_program (consA (varE 0) (nilA)))) (seqS (setS 1 (allocE (lstN (consA (tupE (consA (conE (.str (Str.ofString "main"))) (consA (binE ixD (varE 0) (conE (.int 1))) (consA (binE ixD (varE 0) (conE (.int 2))) (consA (conE .non) (nilA)))))) (nilA))))) (seqS (exprS (callE 3 F_gather (consA (varE 0) (consA (conE (.int 0)) (consA (varE 1) (nilA)))))) (retS (varE 1))))
noncomputable def F_functions_of : List D → Store → R D := bodyF N_functions_of.length m_functions_of
noncomputable def b_has_round_0 : MS := seqS (ifS (cmpM inD (varE 3) (binE ixD (varE 1) (varE 2))) (retS (conE (.bl true))) (nilS)) (setS 2 (binE ixD (binE ixD (varE 0) (varE 2)) (conE (.int 3))))
noncomputable def m_has_round : MS := seqS (whileS (cmpM isNotD (varE 2) (conE .non)) (b_has_round_0) FU) (retS (conE (.bl false)))
noncomputable def F_has_round : List D → Store → R D := bodyF N_has_round.length m_has_round
noncomputable def b_brought_0 (r : Nat → List D → Store → R D) : MS := ifS (cmpM eqD (binE ixD (varE 2) (conE (.int 0))) (conE (.str (Str.ofString "let")))) (exprS (lmE appendM (varE 1) (consA (binE ixD (varE 2) (conE (.int 1))) (nilA)))) (ifS (cmpM eqD (binE ixD (varE 2) (conE (.int 0))) (conE (.str (Str.ofString "if")))) (setS 1 (binE addD (binE addD (varE 1) (callE 1 (r 0) (consA (binE ixD (varE 2) (conE (.int 2))) (nilA)))) (callE 1 (r 0) (consA (binE ixD (varE 2) (conE (.int 3))) (nilA))))) (ifS (cmpM eqD (binE ixD (varE 2) (conE (.int 0))) (conE (.str (Str.ofString "while")))) (setS 1 (binE addD (varE 1) (callE 1 (r 0) (consA (binE ixD (varE 2) (conE (.int 2))) (nilA))))) (ifS (cmpM eqD (binE ixD (varE 2) (conE (.int 0))) (conE (.str (Str.ofString "try")))) (setS 1 (binE addD (binE addD (binE addD (binE addD (varE 1) (callE 1 (r 0) (consA (binE ixD (varE 2) (conE (.int 1))) (nilA)))) (allocE (lstN (consA (binE ixD (varE 2) (conE (.int 3))) (nilA))))) (callE 1 (r 0) (consA (binE ixD (varE 2) (conE (.int 4))) (nilA)))) (callE 1 (r 0) (consA (binE ixD (varE 2) (conE (.int 5))) (nilA))))) (nilS))))
noncomputable def m_brought (r : Nat → List D → Store → R D) : MS := seqS (setS 1 (allocE (lstN (nilA)))) (seqS (forS (srcV (varE 0)) (nameT 2) ((b_brought_0 r))) (retS (varE 1)))
noncomputable def G_brought : Nat → Nat → List D → Store → R D
  | 0, _ => badF
  | n + 1, 0 => bodyF N_brought.length (m_brought (G_brought n))
  | _ + 1, _ => badF
noncomputable def F_brought : List D → Store → R D := G_brought 60 0
theorem G_brought_0 (n : Nat) : G_brought (n + 1) 0 = bodyF N_brought.length (m_brought (G_brought n)) := (rfl)
noncomputable def b_own_names_0 : MS := seqS (ifS (cmpM inD (varE 3) (varE 2)) (raiseF 3 ["name"] (consA (varE 3) (nilA))) (nilS)) (exprS (lmE appendM (varE 2) (consA (varE 3) (nilA))))
noncomputable def m_own_names : MS := seqS (setS 2 (allocE (lstN (nilA)))) (seqS (forS (srcV (binE addD (allocE (newL listV (consA (binE ixD (binE ixD (varE 0) (varE 1)) (conE (.int 1))) (nilA)))) (callE 1 F_brought (consA (binE ixD (binE ixD (varE 0) (varE 1)) (conE (.int 2))) (nilA))))) (nameT 3) (b_own_names_0)) (retS (varE 2)))
noncomputable def F_own_names : List D → Store → R D := bodyF N_own_names.length m_own_names
noncomputable def b_used_in_0 (r : Nat → List D → Store → R D) : MS := setS 1 (binE addD (varE 1) (callE 1 (r 0) (consA (varE 2) (nilA))))
noncomputable def m_used_in (r : Nat → List D → Store → R D) : MS := seqS (ifS (cmpM inD (binE ixD (varE 0) (conE (.int 0))) (tupE (consA (conE (.str (Str.ofString "fun"))) (consA (conE (.str (Str.ofString "loop"))) (nilA))))) (retS (allocE (lstN (nilA)))) (nilS)) (seqS (setS 1 (allocE (lstN (nilA)))) (seqS (ifS (cmpM inD (binE ixD (varE 0) (conE (.int 0))) (tupE (consA (conE (.str (Str.ofString "name"))) (consA (conE (.str (Str.ofString "set"))) (nilA))))) (exprS (lmE appendM (varE 1) (consA (binE ixD (varE 0) (conE (.int 1))) (nilA)))) (nilS)) (seqS (forS (srcV (callE 1 F_inner_of (consA (varE 0) (nilA)))) (nameT 2) ((b_used_in_0 r))) (retS (varE 1)))))
noncomputable def G_used_in : Nat → Nat → List D → Store → R D
  | 0, _ => badF
  | n + 1, 0 => bodyF N_used_in.length (m_used_in (G_used_in n))
  | _ + 1, _ => badF
noncomputable def F_used_in : List D → Store → R D := G_used_in 60 0
theorem G_used_in_0 (n : Nat) : G_used_in (n + 1) 0 = bodyF N_used_in.length (m_used_in (G_used_in n)) := (rfl)
noncomputable def b_used_0 : MS := setS 1 (binE addD (varE 1) (callE 1 F_used_in (consA (varE 2) (nilA))))
noncomputable def m_used : MS := seqS (setS 1 (allocE (lstN (nilA)))) (seqS (forS (srcV (varE 0)) (nameT 2) (b_used_0)) (retS (varE 1)))
noncomputable def F_used : List D → Store → R D := bodyF N_used.length m_used
noncomputable def b_scopes_of_1 : MS := ifS (notM (ofV (callE 4 F_has_round (consA (varE 1) (consA (varE 2) (consA (varE 3) (consA (varE 5) (nilA)))))))) (raiseF 3 ["name"] (consA (varE 5) (nilA))) (nilS)
noncomputable def b_scopes_of_0 : MS := seqS (exprS (lmE appendM (varE 2) (consA (callE 2 F_own_names (consA (varE 1) (consA (varE 3) (nilA)))) (nilA)))) (forS (srcV (callE 1 F_used (consA (binE ixD (varE 4) (conE (.int 2))) (nilA)))) (nameT 5) (b_scopes_of_1))
noncomputable def b_scopes_of_3 : MS := ifS (cmpM notInD (varE 5) (binE ixD (varE 2) (varE 3))) (asgS (subT (binE ixD (varE 6) (binE ixD (binE ixD (varE 1) (varE 3)) (conE (.int 3)))) (varE 5)) (conE (.bl true))) (nilS)
noncomputable def b_scopes_of_2 : MS := lockM (binE ixD (varE 6) (varE 3)) (forS (srcK (binE ixD (varE 6) (varE 3))) (nameT 5) (b_scopes_of_3))
noncomputable def b_scopes_of_4 : MS := exprS (lmE appendM (varE 7) (consA (lockM (binE ixD (varE 6) (varE 3)) (allocE (newL sortSL (compN (srcK (binE ixD (varE 6) (varE 3))) (.one 5) (cmpM notInD (varE 5) (binE ixD (varE 2) (varE 3))) (varE 5))))) (nilA)))
noncomputable def b_scopes_of_5 : MS := seqS (setS 9 (allocE (compN (srcR1 (consA (newL lenV (consA (varE 1) (nilA))) (nilA))) (.one 11) (cmpM eqD (binE ixD (binE ixD (varE 1) (varE 11)) (conE (.int 3))) (varE 3)) (binE ixD (varE 7) (varE 11))))) (seqS (setS 10 (allocE (compN (srcE (consA (binE ixD (varE 2) (varE 3)) (nilA))) (.many [12, 5]) (ofV (newL anyL (compN (srcV (varE 9)) (.one 13) (yesM) (toV (cmpM inD (varE 5) (varE 13)))))) (varE 12)))) (exprS (lmE appendM (varE 8) (consA (tupE (consA (binE ixD (varE 4) (conE (.int 0))) (consA (newL tupV (consA (binE ixD (varE 2) (varE 3)) (nilA))) (consA (newL tupV (consA (varE 10) (nilA))) (consA (newL tupV (consA (binE ixD (varE 7) (varE 3)) (nilA))) (nilA)))))) (nilA)))))
noncomputable def m_scopes_of : MS := seqS (setS 1 (callE 1 F_functions_of (consA (varE 0) (nilA)))) (seqS (setS 2 (allocE (lstN (nilA)))) (seqS (forS (srcE (consA (varE 1) (nilA))) (namesT [3, 4]) (b_scopes_of_0)) (seqS (setS 6 (allocE (compN (srcV (varE 1)) (.one 4) (yesM) (newL pairsL (compN (srcV (callE 1 F_used (consA (binE ixD (varE 4) (conE (.int 2))) (nilA)))) (.one 5) (yesM) (tupE (consA (varE 5) (consA (conE (.bl true)) (nilA))))))))) (seqS (forS (srcRR (conE (.int 1)) (newL lenV (consA (varE 1) (nilA)))) (nameT 3) (b_scopes_of_2)) (seqS (setS 7 (allocE (lstN (nilA)))) (seqS (forS (srcR1 (consA (newL lenV (consA (varE 1) (nilA))) (nilA))) (nameT 3) (b_scopes_of_4)) (seqS (setS 8 (allocE (lstN (nilA)))) (seqS (forS (srcE (consA (varE 1) (nilA))) (namesT [3, 4]) (b_scopes_of_5)) (retS (varE 8))))))))))
noncomputable def F_scopes_of : List D → Store → R D := bodyF N_scopes_of.length m_scopes_of
noncomputable def m__law_said : MS := catchF hit_LoomError 1 (retS (tupE (consA (conE (.str (Str.ofString "told"))) (consA (newL lenV (consA (callE 1 F_scopes_of (consA (varE 0) (nilA))) (nilA))) (nilA))))) (fun a d z => seqS (setS 2 (orV (ofV (toV (isXF (kisY kis z [(.own 1), (.own 2), (.own 4)]) a d (varE 1)))) (toV (isXF (kisY kis z [(.own 5), (.own 6)]) a d (varE 1))))) (seqS (ifS (orM (ofV (varE 2)) (orM (notM (ofV (toV (isXF (kis z.c (.own 3)) a d (varE 1))))) (notM (ofV (toV (isXF (kis z.c (.ty "ValueError")) a d (varE 1))))))) (retS (tupE (consA (conE (.str (Str.ofString "other"))) (consA (conE .non) (nilA))))) (nilS)) (retS (tupE (consA (conE (.str (Str.ofString "name"))) (consA (xfE (xf z.c "name") a d "name" (varE 1)) (nilA)))))))
noncomputable def F__law_said : List D → Store → R D := bodyF N__law_said.length m__law_said
noncomputable def b__law_holder_0 : MS := setS 1 (binE ixD (binE ixD (varE 0) (varE 1)) (conE (.int 3)))
noncomputable def m__law_holder : MS := seqS (whileS (andM (cmpM isNotD (varE 1) (conE .non)) (cmpM notInD (varE 2) (binE ixD (binE ixD (varE 0) (varE 1)) (conE (.int 1))))) (b__law_holder_0) FU) (retS (varE 1))
noncomputable def F__law_holder : List D → Store → R D := bodyF N__law_holder.length m__law_holder
noncomputable def b__law_wrong_name_0 : MS := seqS (setS 2 (binE ixD (binE ixD (varE 0) (varE 1)) (conE (.int 1)))) (seqS (setS 3 (allocE (compN (srcR1 (consA (newL lenV (consA (varE 2) (nilA))) (nilA))) (.one 5) (cmpM inD (binE ixD (varE 2) (varE 5)) (sliceE (varE 2) (noO) (someO (varE 5)))) (binE ixD (varE 2) (varE 5))))) (seqS (setS 4 (allocE (compN (srcV (binE ixD (binE ixD (varE 0) (varE 1)) (conE (.int 2)))) (.one 6) (cmpM isD (callE 3 F__law_holder (consA (varE 0) (consA (varE 1) (consA (varE 6) (nilA))))) (conE .non)) (varE 6)))) (ifS (cmpM neD (binE addD (varE 3) (varE 4)) (allocE (lstN (nilA)))) (retS (binE ixD (binE addD (varE 3) (varE 4)) (conE (.int 0)))) (nilS))))
noncomputable def m__law_wrong_name : MS := seqS (forS (srcR1 (consA (newL lenV (consA (varE 0) (nilA))) (nilA))) (nameT 1) (b__law_wrong_name_0)) (retS (conE .non))
noncomputable def F__law_wrong_name : List D → Store → R D := bodyF N__law_wrong_name.length m__law_wrong_name
noncomputable def m_law : MS := seqS (setS 1 (binE ixD (allocE (lstN (consA (conE (.int 1)) (consA (conE (.int 3)) (consA (conE (.int 8)) (consA (conE (.int 20)) (nilA))))))) (binE modD (callE 2 F__law_cell_at (consA (varE 0) (consA (conE (.int 3)) (nilA)))) (conE (.int 4))))) (seqS (setS 2 (callE 2 F__law_program (consA (varE 0) (consA (varE 1) (nilA))))) (seqS (setS 3 (newL strT (consA (varE 2) (nilA)))) (seqS (setS 4 (callE 1 F__law_all (consA (varE 2) (nilA)))) (seqS (setS 5 (callE 1 F__law_wrong_name (consA (varE 4) (nilA)))) (seqS (setS 6 (ifE (cmpM isD (varE 5) (conE .non)) (tupE (consA (conE (.str (Str.ofString "told"))) (consA (newL lenV (consA (varE 4) (nilA))) (nilA)))) (tupE (consA (conE (.str (Str.ofString "name"))) (consA (varE 5) (nilA)))))) (retS (andV (ofV (toV (cmpM eqD (callE 1 F__law_said (consA (varE 2) (nilA))) (varE 6)))) (andV (ofV (toV (cmpM eqD (callE 1 F__law_said (consA (varE 2) (nilA))) (varE 6)))) (toV (cmpM eqD (newL strT (consA (varE 2) (nilA))) (varE 3)))))))))))
noncomputable def F_law : List D → Store → R D := bodyF N_law.length m_law
structure Txt (K : PySem.W.Frag) (mg : Str → Option Value) (cA : Nat → Addr) : Prop where
  e_BadTree : ExcK K mg "BadTree" (cA 1)
  o_BadName : OexC K (cA 3)
  of_BadName_name : PySem.W.findIn K (.ref (cA 3)) "name" = some none
  gb_LoomError : PySem.W.specialIn K (.ref (cA 0)) "__getattribute__" = some (some (.builtin "type.__getattribute__"))
  rb_LoomError : PySem.W.readsIn K (cA 0) (.type "type") = true
  vb_LoomError : PySem.W.findCls K (.ref (cA 0)) (.type "type") "__init__" = some (.val (.builtin "ValueError.__init__"))
  n_LoomError : mg "LoomError" = some (.ref (cA 0))
  n_BadCount : mg "BadCount" = some (.ref (cA 4))
  n_BadText : mg "BadText" = some (.ref (cA 2))
  n_BadTree : mg "BadTree" = some (.ref (cA 1))
  n_NoThing : mg "NoThing" = some (.ref (cA 6))
  n_BadCode : mg "BadCode" = some (.ref (cA 5))
  n_BadName : mg "BadName" = some (.ref (cA 3))
  h_LoomError : ∀ k b, hit_LoomError k = some b → PySem.W.exmOne K (.ref (cA k)) (.ref (cA 0)) = some b
  isf : IsFacts K cA kis
  xff : XfFacts K cA xf
  b_ValueError : mg "ValueError" = none
  b_all : mg "all" = none
  b_any : mg "any" = none
  b_bool : mg "bool" = none
  b_dict : mg "dict" = none
  b_enumerate : mg "enumerate" = none
  b_int : mg "int" = none
  b_isinstance : mg "isinstance" = none
  b_len : mg "len" = none
  b_list : mg "list" = none
  b_max : mg "max" = none
  b_range : mg "range" = none
  b_reversed : mg "reversed" = none
  b_set : mg "set" = none
  b_sorted : mg "sorted" = none
  b_str : mg "str" = none
  b_sum : mg "sum" = none
  b_tuple : mg "tuple" = none
  g_GREATEST : ∃ t, mg "GREATEST" = some (.int 1000000000000 t)
  g_MOST_DEPTH : ∃ t, mg "MOST_DEPTH" = some (.int 20 t)
  g_MOST_LETTERS : ∃ t, mg "MOST_LETTERS" = some (.int 8 t)
  g_MOST_NAMES : ∃ t, mg "MOST_NAMES" = some (.int 4 t)
  g_MOST_PARTS : ∃ t, mg "MOST_PARTS" = some (.int 300 t)
  g_MOST_STATEMENTS : ∃ t, mg "MOST_STATEMENTS" = some (.int 12 t)
  g_MOST_TERMS : ∃ t, mg "MOST_TERMS" = some (.int 4 t)
  g_SIGNS : ∃ a, mg "SIGNS" = some (.ref a) ∧ ∀ H, SqT K H a (([Str.ofString "+", Str.ofString "-", Str.ofString "*", Str.ofString "<", Str.ofString "="] : List Str).map V.str)
section
variable {P : Program} {w : World} {K : PySem.W.Frag} {mg : Str → Option Value} {base : Heap} {cA : Nat → Addr}
theorem ok__law_brought {r : Nat → List D → Store → R D} {dd : Nat} (hlev : 0 ≤ dd) {f : Addr} {fd : FuncData} (F : Fun K "_law_brought" "_law_brought" s__law_brought f fd) (T : Txt K mg cA) (C__law_brought : FnM P w K mg base cA dd "_law_brought" 1 (r 0)) : FnOk P w K mg base (L2.CX P w) (dd + 1) f fd ["_law_body_here"] (spM K cA (bodyF N__law_brought.length (m__law_brought r)) 1) :=
  defM F sc__law_brought fun cdv A outer s H E hr => by
    unfold m__law_brought
    exact (scons (sset (i := 1) sc__law_brought.nd rfl (.inl rfl) (malloc (mlst anil))) (scons (sfor own_def rfl (isrc (mvar (i := 0) rfl (.inl rfl))) (gname (i := 2) sc__law_brought.nd rfl (.inl rfl)) (scons (sif (mcmpT (op_eqM hr.units) (mix (hu_of hr) (mvar (i := 2) rfl (.inl rfl)) mint) mstr (nomark _)) (sone (sexpr (mlm PySem.F.slot_list_append PySem.F.type_list_append mt_appendM (mvar (i := 1) rfl (.inl rfl)) (acons (mix (hu_of hr) (mvar (i := 2) rfl (.inl rfl)) mint) anil)))) snil) (sone (sfor own_def rfl (irng2 rfl T.b_range (acons mint (acons (mcallV st_V c_lenV rfl T.b_len bt_len (acons (mvar (i := 2) rfl (.inl rfl)) anil)) anil))) (gname (i := 3) sc__law_brought.nd rfl (.inl rfl)) (scons (sif (PW.pt (mandT (mcmpT (op_eqM hr.units) (mix (hu_of hr) (mvar (i := 2) rfl (.inl rfl)) mint) mstr (nomark _)) (mand1 (mcmpT (op_eqM hr.units) (mvar (i := 3) rfl (.inl rfl)) mint (nomark _))))) (sone (sexpr (mlm PySem.F.slot_list_append PySem.F.type_list_append mt_appendM (mvar (i := 1) rfl (.inl rfl)) (acons (mix (hu_of hr) (mvar (i := 2) rfl (.inl rfl)) mint) anil)))) snil) (sone (sif (PW.pt (mandT (mcmpT (op_inM (hu_of hr)) (mix (hu_of hr) (mvar (i := 2) rfl (.inl rfl)) mint) (mtup (acons mstr (acons mstr (acons mstr anil)))) rfl) (mandT (mval (misi ok_tuple (mix (hu_of hr) (mvar (i := 2) rfl (.inl rfl)) (mvar (i := 3) rfl (.inl rfl))) rfl T.b_isinstance rfl T.b_tuple bt_tuple bt_isinstance)) (mand1 (PW.pt (morT (mcmpT op_gtM (mvar (i := 3) rfl (.inl rfl)) mint (nomark _)) (mor1 (mcmpT (op_eqM hr.units) (mix (hu_of hr) (mvar (i := 2) rfl (.inl rfl)) mint) mstr (nomark _))))))))) (sone (sset (i := 1) sc__law_brought.nd rfl (.inl rfl) (mbin op_addM (mvar (i := 1) rfl (.inl rfl)) (mcall C__law_brought (by omega) hr pass_def rfl (acons (mix (hu_of hr) (mvar (i := 2) rfl (.inl rfl)) (mvar (i := 3) rfl (.inl rfl))) anil))))) snil))))))) (sone (sret (mvar (i := 1) rfl (.inl rfl))))))
theorem rec__law_brought {f__law_brought : Addr} {fd__law_brought : FuncData} (F__law_brought : Fun K "_law_brought" "_law_brought" s__law_brought f__law_brought fd__law_brought) (g__law_brought : mg "_law_brought" = some (.ref f__law_brought)) (B__law_brought : Binds K fd__law_brought ["_law_body_here"] []) (T : Txt K mg cA)  : ∀ n : Nat, FnM P w K mg base cA (0 + n) "_law_brought" 1 (G__law_brought n 0)
  | 0 => ⟨⟨f__law_brought, fd__law_brought, _, g__law_brought, F__law_brought.kp, B__law_brought, ok_bad rfl⟩⟩
  | n + 1 => by
    have ih := rec__law_brought F__law_brought g__law_brought B__law_brought T  n
    have C__law_brought := ih
    exact .mk' F__law_brought g__law_brought B__law_brought (ok__law_brought (r := G__law_brought n) (Nat.le_add_right 0 n) F__law_brought T (C__law_brought := C__law_brought))
theorem ok__law_inner {f : Addr} {fd : FuncData} (F : Fun K "_law_inner" "_law_inner" s__law_inner f fd) (T : Txt K mg cA)  : FnOk P w K mg base (L2.CX P w) 1 f fd ["_law_part"] (spM K cA F__law_inner 1) :=
  defM F sc__law_inner fun cdv A outer s H E hr => by
    unfold m__law_inner
    exact (scons (sset (i := 1) sc__law_inner.nd rfl (.inl rfl) (malloc (mlst anil))) (scons (sfor own_def rfl (isrc (mslice (mvar (i := 0) rfl (.inl rfl)) (osome mint) ono)) (gname (i := 2) sc__law_inner.nd rfl (.inl rfl)) (scons (sset (i := 3) sc__law_inner.nd rfl (.inl rfl) (mand (misi ok_tuple (mvar (i := 2) rfl (.inl rfl)) rfl T.b_isinstance rfl T.b_tuple bt_tuple bt_isinstance) (mand (mcmp (op_neM hr.units) (mvar (i := 2) rfl (.inl rfl)) (mtup anil) (nomark _)) (mone (misi ok_str (mix (hu_of hr) (mvar (i := 2) rfl (.inl rfl)) mint) rfl T.b_isinstance rfl T.b_str bt_str bt_isinstance))))) (sone (sif (PW.pt (mandT (mval (mvar (i := 3) rfl (.inl rfl))) (mand1 (mcmpT (op_notInM (hu_of hr)) (mix (hu_of hr) (mvar (i := 0) rfl (.inl rfl)) mint) (mtup (acons mstr (acons mstr (acons mstr anil)))) rfl)))) (sone (sexpr (mlm PySem.F.slot_list_append PySem.F.type_list_append mt_appendM (mvar (i := 1) rfl (.inl rfl)) (acons (mvar (i := 2) rfl (.inl rfl)) anil)))) (sone (sif (mval (misi ok_tuple (mvar (i := 2) rfl (.inl rfl)) rfl T.b_isinstance rfl T.b_tuple bt_tuple bt_isinstance)) (sone (sset (i := 1) sc__law_inner.nd rfl (.inl rfl) (mbin op_addM (mvar (i := 1) rfl (.inl rfl)) (malloc (mcomp (t := .one 4) (own := [("_law_one", 4)]) rfl rfl sc__law_inner.nd (isrc (mvar (i := 2) rfl (.inl rfl))) (blkOk_by (N := N__law_inner) (sc := defScope s__law_inner) (by decide +kernel)) (fun _ _ _ _ _ => pg_name (i := 4) sc__law_inner.nd rfl (Or.inl rfl)) (fun _ _ _ _ _ => (tone (mval (misi ok_tuple (mvar (i := 4) rfl (.inl rfl)) rfl T.b_isinstance rfl T.b_tuple bt_tuple bt_isinstance)))) (fun _ _ _ _ _ => (mvar (i := 4) rfl (.inl rfl)))))))) snil)))))) (sone (sret (mvar (i := 1) rfl (.inl rfl))))))
theorem ok__law_used {r : Nat → List D → Store → R D} {dd : Nat} (hlev : 1 ≤ dd) {f : Addr} {fd : FuncData} (F : Fun K "_law_used" "_law_used" s__law_used f fd) (T : Txt K mg cA) (C__law_inner : FnM P w K mg base cA 1 "_law_inner" 1 F__law_inner) (C__law_used : FnM P w K mg base cA dd "_law_used" 1 (r 0)) : FnOk P w K mg base (L2.CX P w) (dd + 1) f fd ["_law_part"] (spM K cA (bodyF N__law_used.length (m__law_used r)) 1) :=
  defM F sc__law_used fun cdv A outer s H E hr => by
    unfold m__law_used
    exact (scons (sif (mcmpT (op_inM (hu_of hr)) (mix (hu_of hr) (mvar (i := 0) rfl (.inl rfl)) mint) (mtup (acons mstr (acons mstr anil))) rfl) (sone (sret (malloc (mlst anil)))) snil) (scons (sset (i := 1) sc__law_used.nd rfl (.inl rfl) (mif (mcmpT (op_inM (hu_of hr)) (mix (hu_of hr) (mvar (i := 0) rfl (.inl rfl)) mint) (mtup (acons mstr (acons mstr anil))) rfl) (malloc (mlst (acons (mix (hu_of hr) (mvar (i := 0) rfl (.inl rfl)) mint) anil))) (malloc (mlst anil)))) (scons (sfor own_def rfl (isrc (mcall C__law_inner (by omega) hr pass_def rfl (acons (mvar (i := 0) rfl (.inl rfl)) anil))) (gname (i := 2) sc__law_used.nd rfl (.inl rfl)) (sone (sset (i := 1) sc__law_used.nd rfl (.inl rfl) (mbin op_addM (mvar (i := 1) rfl (.inl rfl)) (mcall C__law_used (by omega) hr pass_def rfl (acons (mvar (i := 2) rfl (.inl rfl)) anil)))))) (sone (sret (mvar (i := 1) rfl (.inl rfl)))))))
theorem rec__law_used {f__law_used : Addr} {fd__law_used : FuncData} (F__law_used : Fun K "_law_used" "_law_used" s__law_used f__law_used fd__law_used) (g__law_used : mg "_law_used" = some (.ref f__law_used)) (B__law_used : Binds K fd__law_used ["_law_part"] []) (T : Txt K mg cA) (C__law_inner : FnM P w K mg base cA 1 "_law_inner" 1 F__law_inner) : ∀ n : Nat, FnM P w K mg base cA (1 + n) "_law_used" 1 (G__law_used n 0)
  | 0 => ⟨⟨f__law_used, fd__law_used, _, g__law_used, F__law_used.kp, B__law_used, ok_bad rfl⟩⟩
  | n + 1 => by
    have ih := rec__law_used F__law_used g__law_used B__law_used T C__law_inner n
    have C__law_used := ih
    exact .mk' F__law_used g__law_used B__law_used (ok__law_used (r := G__law_used n) (Nat.le_add_right 1 n) F__law_used T (C__law_inner := C__law_inner) (C__law_used := C__law_used))
theorem ok__law_gathered {r : Nat → List D → Store → R D} {dd : Nat} (hlev : 61 ≤ dd) {f : Addr} {fd : FuncData} (F : Fun K "_law_gathered" "_law_gathered" s__law_gathered f fd) (T : Txt K mg cA) (C__law_brought : FnM P w K mg base cA 60 "_law_brought" 1 F__law_brought) (C__law_inner : FnM P w K mg base cA 1 "_law_inner" 1 F__law_inner) (C__law_used : FnM P w K mg base cA 61 "_law_used" 1 F__law_used) (C__law_gathered : FnM P w K mg base cA dd "_law_gathered" 3 (r 0)) : FnOk P w K mg base (L2.CX P w) (dd + 1) f fd ["_law_part", "_law_number_here", "_law_found"] (spM K cA (bodyF N__law_gathered.length (m__law_gathered r)) 3) :=
  defM F sc__law_gathered fun cdv A outer s H E hr => by
    unfold m__law_gathered
    exact (sone (sfor own_def rfl (isrc (mcall C__law_inner (by omega) hr pass_def rfl (acons (mvar (i := 0) rfl (.inl rfl)) anil))) (gname (i := 3) sc__law_gathered.nd rfl (.inl rfl)) (scons (sset (i := 4) sc__law_gathered.nd rfl (.inl rfl) (mvar (i := 1) rfl (.inl rfl))) (scons (sif (mcmpT (op_inM (hu_of hr)) (mix (hu_of hr) (mvar (i := 3) rfl (.inl rfl)) mint) (mtup (acons mstr (acons mstr anil))) rfl) (scons (sset (i := 5) sc__law_gathered.nd rfl (.inl rfl) (malloc (mlst anil))) (scons (sfor own_def rfl (isrc (mix (hu_of hr) (mvar (i := 3) rfl (.inl rfl)) mint)) (gname (i := 6) sc__law_gathered.nd rfl (.inl rfl)) (sone (sset (i := 5) sc__law_gathered.nd rfl (.inl rfl) (mbin op_addM (mvar (i := 5) rfl (.inl rfl)) (mcall C__law_used (by omega) hr pass_def rfl (acons (mvar (i := 6) rfl (.inl rfl)) anil)))))) (scons (sexpr (mlm PySem.F.slot_list_append PySem.F.type_list_append mt_appendM (mvar (i := 2) rfl (.inl rfl)) (acons (mtup (acons (mix (hu_of hr) (mvar (i := 3) rfl (.inl rfl)) mint) (acons (mbin op_addM (malloc (mtyV st_New (c_list rfl) rfl T.b_list bt_list (acons (mix (hu_of hr) (mvar (i := 3) rfl (.inl rfl)) mint) anil))) (mcall C__law_brought (by omega) hr pass_def rfl (acons (mix (hu_of hr) (mvar (i := 3) rfl (.inl rfl)) mint) anil))) (acons (mvar (i := 5) rfl (.inl rfl)) (acons (mvar (i := 1) rfl (.inl rfl)) anil))))) anil))) (sone (sset (i := 4) sc__law_gathered.nd rfl (.inl rfl) (mbin op_subM (mcallV st_V c_lenV rfl T.b_len bt_len (acons (mvar (i := 2) rfl (.inl rfl)) anil)) mint)))))) snil) (sone (sexpr (mcall C__law_gathered (by omega) hr pass_def rfl (acons (mvar (i := 3) rfl (.inl rfl)) (acons (mvar (i := 4) rfl (.inl rfl)) (acons (mvar (i := 2) rfl (.inl rfl)) anil))))))))))
theorem rec__law_gathered {f__law_gathered : Addr} {fd__law_gathered : FuncData} (F__law_gathered : Fun K "_law_gathered" "_law_gathered" s__law_gathered f__law_gathered fd__law_gathered) (g__law_gathered : mg "_law_gathered" = some (.ref f__law_gathered)) (B__law_gathered : Binds K fd__law_gathered ["_law_part", "_law_number_here", "_law_found"] []) (T : Txt K mg cA) (C__law_brought : FnM P w K mg base cA 60 "_law_brought" 1 F__law_brought) (C__law_inner : FnM P w K mg base cA 1 "_law_inner" 1 F__law_inner) (C__law_used : FnM P w K mg base cA 61 "_law_used" 1 F__law_used) : ∀ n : Nat, FnM P w K mg base cA (61 + n) "_law_gathered" 3 (G__law_gathered n 0)
  | 0 => ⟨⟨f__law_gathered, fd__law_gathered, _, g__law_gathered, F__law_gathered.kp, B__law_gathered, ok_bad rfl⟩⟩
  | n + 1 => by
    have ih := rec__law_gathered F__law_gathered g__law_gathered B__law_gathered T C__law_brought C__law_inner C__law_used n
    have C__law_gathered := ih
    exact .mk' F__law_gathered g__law_gathered B__law_gathered (ok__law_gathered (r := G__law_gathered n) (Nat.le_add_right 61 n) F__law_gathered T (C__law_brought := C__law_brought) (C__law_gathered := C__law_gathered) (C__law_inner := C__law_inner) (C__law_used := C__law_used))
theorem ok__law_all {f : Addr} {fd : FuncData} (F : Fun K "_law_all" "_law_all" s__law_all f fd) (T : Txt K mg cA) (C__law_brought : FnM P w K mg base cA 60 "_law_brought" 1 F__law_brought) (C__law_gathered : FnM P w K mg base cA 121 "_law_gathered" 3 F__law_gathered) (C__law_used : FnM P w K mg base cA 61 "_law_used" 1 F__law_used) : FnOk P w K mg base (L2.CX P w) 122 f fd ["_law_program_here"] (spM K cA F__law_all 1) :=
  defM F sc__law_all fun cdv A outer s H E hr => by
    unfold m__law_all
    exact (scons (sset (i := 1) sc__law_all.nd rfl (.inl rfl) (malloc (mlst anil))) (scons (sfor own_def rfl (isrc (mix (hu_of hr) (mvar (i := 0) rfl (.inl rfl)) mint)) (gname (i := 2) sc__law_all.nd rfl (.inl rfl)) (sone (sset (i := 1) sc__law_all.nd rfl (.inl rfl) (mbin op_addM (mvar (i := 1) rfl (.inl rfl)) (mcall C__law_used (by decide) hr pass_def rfl (acons (mvar (i := 2) rfl (.inl rfl)) anil)))))) (scons (sset (i := 3) sc__law_all.nd rfl (.inl rfl) (malloc (mlst (acons (mtup (acons mstr (acons (mbin op_addM (malloc (mtyV st_New (c_list rfl) rfl T.b_list bt_list (acons (mix (hu_of hr) (mvar (i := 0) rfl (.inl rfl)) mint) anil))) (mcall C__law_brought (by decide) hr pass_def rfl (acons (mix (hu_of hr) (mvar (i := 0) rfl (.inl rfl)) mint) anil))) (acons (mvar (i := 1) rfl (.inl rfl)) (acons mnon anil))))) anil)))) (scons (sexpr (mcall C__law_gathered (by decide) hr pass_def rfl (acons (mvar (i := 0) rfl (.inl rfl)) (acons mint (acons (mvar (i := 3) rfl (.inl rfl)) anil))))) (sone (sret (mvar (i := 3) rfl (.inl rfl))))))))
theorem ok__law_cell_at {f : Addr} {fd : FuncData} (F : Fun K "_law_cell_at" "_law_cell_at" s__law_cell_at f fd) (T : Txt K mg cA)  : FnOk P w K mg base (L2.CX P w) 1 f fd ["_law_script", "_law_k"] (spM K cA F__law_cell_at 2) :=
  defM F sc__law_cell_at fun cdv A outer s H E hr => by
    unfold m__law_cell_at
    exact (scons (sif (mcmpT op_ltM (mvar (i := 1) rfl (.inl rfl)) (mcallV st_V c_lenV rfl T.b_len bt_len (acons (mvar (i := 0) rfl (.inl rfl)) anil)) (nomark _)) (sone (sret (mix (hu_of hr) (mvar (i := 0) rfl (.inl rfl)) (mvar (i := 1) rfl (.inl rfl))))) snil) (sone (sret mint)))
theorem ok__law_names {f : Addr} {fd : FuncData} (F : Fun K "_law_names" "_law_names" s__law_names f fd) (T : Txt K mg cA)  : FnOk P w K mg base (L2.CX P w) 1 f fd ["_law_cell", "_law_many"] (spM K cA F__law_names 2) :=
  defM F sc__law_names fun cdv A outer s H E hr => by
    unfold m__law_names
    exact (scons (sset (i := 2) sc__law_names.nd rfl (.inr rfl) mstr) (scons (sset (i := 3) sc__law_names.nd rfl (.inl rfl) (mbin op_addM mint (mbin op_modM (mvar (i := 0) rfl (.inr (.inl rfl))) mint))) (scons (sset (i := 4) sc__law_names.nd rfl (.inr rfl) (malloc (mcomp (t := .one 6) (own := [("_law_k", 6)]) rfl rfl sc__law_names.nd (irng1 rfl T.b_range (acons mint anil)) (blkOk_by (N := N__law_names) (sc := defScope s__law_names) (by decide +kernel)) (fun _ _ _ _ _ => pg_name (i := 6) sc__law_names.nd rfl (Or.inl rfl)) (fun _ _ _ _ _ => tyes) (fun _ _ _ _ _ => (mix (hu_of hr) (mvar (i := 2) rfl (by first | exact .inr (.inr rfl) | exact .inr (.inl rfl) | exact .inl rfl)) (mbin op_modM (mbin op_addM (mbin op_fdivM (mvar (i := 0) rfl (by first | exact .inr (.inr rfl) | exact .inr (.inl rfl) | exact .inl rfl)) mint) (mbin op_mulM mint (mvar (i := 6) rfl (.inl rfl)))) mint)))))) (scons (sif (mcmpT (op_eqM hr.units) (mbin op_modM (mbin op_fdivM (mvar (i := 0) rfl (.inr (.inl rfl))) mint) mint) mint (nomark _)) (sone (sret (malloc (mcomp (t := .one 6) (own := [("_law_k", 6)]) rfl rfl sc__law_names.nd (irng1 rfl T.b_range (acons (mvar (i := 1) rfl (.inl rfl)) anil)) (blkOk_by (N := N__law_names) (sc := defScope s__law_names) (by decide +kernel)) (fun _ _ _ _ _ => pg_name (i := 6) sc__law_names.nd rfl (Or.inl rfl)) (fun _ _ _ _ _ => tyes) (fun _ _ _ _ _ => (mjoinV mstr (mslice (mvar (i := 4) rfl (by first | exact .inr (.inr rfl) | exact .inr (.inl rfl) | exact .inl rfl)) ono (osome (mbin op_addM (mvar (i := 6) rfl (.inl rfl)) mint))))))))) snil) (scons (sset (i := 5) sc__law_names.nd rfl (.inl rfl) (malloc (mlst anil))) (scons (sfor own_def rfl (irng1 rfl T.b_range (acons (mvar (i := 1) rfl (.inl rfl)) anil)) (gname (i := 6) sc__law_names.nd rfl (.inl rfl)) (scons (sasg (mix (hu_of hr) (mvar (i := 2) rfl (.inr (.inl rfl))) (mbin op_modM (mbin op_addM (mbin op_fdivM (mvar (i := 0) rfl (.inr (.inl rfl))) mint) (mbin op_mulM mint (mvar (i := 6) rfl (.inl rfl)))) mint)) (gsub (hu_of hr) (mvar (i := 4) rfl (.inr (.inl rfl))) (mbin op_modM (mbin op_fdivM (mvar (i := 0) rfl (.inr (.inl rfl))) mint) (mvar (i := 3) rfl (.inl rfl))))) (sone (sexpr (mlm PySem.F.slot_list_append PySem.F.type_list_append mt_appendM (mvar (i := 5) rfl (.inl rfl)) (acons (mjoinV mstr (mslice (mvar (i := 4) rfl (.inr (.inl rfl))) ono (osome (mvar (i := 3) rfl (.inl rfl))))) anil)))))) (sone (sret (mvar (i := 5) rfl (.inl rfl))))))))))
theorem ok__law_next {f : Addr} {fd : FuncData} (F : Fun K "_law_next" "_law_next" s__law_next f fd) (T : Txt K mg cA) (C__law_cell_at : FnM P w K mg base cA 1 "_law_cell_at" 2 F__law_cell_at) : FnOk P w K mg base (L2.CX P w) 2 f fd ["_law_state"] (spM K cA F__law_next 1) :=
  defM F sc__law_next fun cdv A outer s H E hr => by
    unfold m__law_next
    exact (scons (sasg (mbin op_addM (mix (hu_of hr) (mvar (i := 0) rfl (.inl rfl)) mstr) mint) (gsub (hu_of hr) (mvar (i := 0) rfl (.inl rfl)) mstr)) (scons (sset (i := 1) sc__law_next.nd rfl (.inl rfl) (mix (hu_of hr) (mvar (i := 0) rfl (.inl rfl)) mstr)) (scons (sset (i := 2) sc__law_next.nd rfl (.inl rfl) (mcall C__law_cell_at (by decide) hr pass_def rfl (acons (mix (hu_of hr) (mvar (i := 0) rfl (.inl rfl)) mstr) (acons (mbin op_modM (mvar (i := 1) rfl (.inl rfl)) (mcallV st_V (c_max rfl) rfl T.b_max bt_max (acons mint (acons (mcallV st_V c_lenV rfl T.b_len bt_len (acons (mix (hu_of hr) (mvar (i := 0) rfl (.inl rfl)) mstr) anil)) anil)))) anil)))) (sone (sret (mbin op_fdivM (mbin op_modM (mbin op_addM (mbin op_mulM (mvar (i := 2) rfl (.inl rfl)) mint) (mbin op_mulM (mbin op_mulM (mvar (i := 1) rfl (.inl rfl)) (mvar (i := 1) rfl (.inl rfl))) mint)) mint) mint))))))
theorem ok__law_number {f : Addr} {fd : FuncData} (F : Fun K "_law_number" "_law_number" s__law_number f fd) (T : Txt K mg cA)  : FnOk P w K mg base (L2.CX P w) 1 f fd ["_law_more"] (spM K cA F__law_number 1) :=
  defM F sc__law_number fun cdv A outer s H E hr => by
    unfold m__law_number
    exact (scons (sset (i := 1) sc__law_number.nd rfl (.inl rfl) (mbin op_subM (mbin op_modM (mvar (i := 0) rfl (.inl rfl)) (mbin op_addM (mbin op_mulM mint (mbin op_powM mint mint)) mint)) (mbin op_powM mint mint))) (sone (sret (mix (hu_of hr) (malloc (mlst (acons (mbin op_modM (mbin op_fdivM (mvar (i := 0) rfl (.inl rfl)) mint) mint) (acons (mbin op_subM (mbin op_modM (mbin op_fdivM (mvar (i := 0) rfl (.inl rfl)) mint) mint) mint) (acons (mvar (i := 1) rfl (.inl rfl)) (acons (mix (hu_of hr) (malloc (mlst (acons (mbin op_powM mint mint) (acons (mbin op_subM mint (mbin op_powM mint mint)) (acons mint anil))))) (mbin op_modM (mbin op_fdivM (mvar (i := 0) rfl (.inl rfl)) mint) mint)) anil)))))) (mbin op_modM (mvar (i := 0) rfl (.inl rfl)) mint)))))
theorem ok__law_term {r : Nat → List D → Store → R D} {dd : Nat} (hlev : 2 ≤ dd) {f : Addr} {fd : FuncData} (F : Fun K "_law_term" "_law_term" s__law_term f fd) (T : Txt K mg cA) (C__law_next : FnM P w K mg base cA 2 "_law_next" 1 F__law_next) (C__law_number : FnM P w K mg base cA 1 "_law_number" 1 F__law_number) (C__law_body : FnM P w K mg base cA dd "_law_body" 3 (r 1)) (C__law_term : FnM P w K mg base cA dd "_law_term" 2 (r 0)) : FnOk P w K mg base (L2.CX P w) (dd + 1) f fd ["_law_state", "_law_deep"] (spM K cA (bodyF N__law_term.length (m__law_term r)) 2) :=
  defM F sc__law_term fun cdv A outer s H E hr => by
    unfold m__law_term
    exact (scons (sset (i := 2) sc__law_term.nd rfl (.inl rfl) (mcall C__law_next (by omega) hr pass_def rfl (acons (mvar (i := 0) rfl (.inr (.inl rfl))) anil))) (scons (sasg (mbin op_subM (mix (hu_of hr) (mvar (i := 0) rfl (.inr (.inl rfl))) mstr) mint) (gsub (hu_of hr) (mvar (i := 0) rfl (.inr (.inl rfl))) mstr)) (scons (sset (i := 3) sc__law_term.nd rfl (.inl rfl) (mbin op_modM (mvar (i := 2) rfl (.inl rfl)) mint)) (scons (sset (i := 4) sc__law_term.nd rfl (.inl rfl) (mbin op_fdivM (mvar (i := 2) rfl (.inl rfl)) mint)) (scons (sset (i := 5) sc__law_term.nd rfl (.inl rfl) (mix (hu_of hr) (mvar (i := 0) rfl (.inr (.inl rfl))) mstr)) (scons (sif (PW.pt (morT (mcmpT op_ltM (mvar (i := 1) rfl (.inr (.inl rfl))) mint (nomark _)) (mor1 (mcmpT op_ltM (mix (hu_of hr) (mvar (i := 0) rfl (.inr (.inl rfl))) mstr) mint (nomark _))))) (sone (sset (i := 3) sc__law_term.nd rfl (.inl rfl) (mbin op_modM (mvar (i := 3) rfl (.inl rfl)) mint))) snil) (scons (sif (mcmpT (op_eqM hr.units) (mvar (i := 3) rfl (.inl rfl)) mint (nomark _)) (sone (sret (mtup (acons mstr (acons (mcall C__law_number (by omega) hr pass_def rfl (acons (mvar (i := 4) rfl (.inl rfl)) anil)) anil))))) snil) (scons (sif (mcmpT (op_inM (hu_of hr)) (mvar (i := 3) rfl (.inl rfl)) (mtup (acons mint (acons mint (acons mint anil)))) rfl) (sone (sret (mtup (acons mstr (acons (mix (hu_of hr) (mvar (i := 5) rfl (.inl rfl)) (mbin op_modM (mvar (i := 4) rfl (.inl rfl)) (mcallV st_V c_lenV rfl T.b_len bt_len (acons (mvar (i := 5) rfl (.inl rfl)) anil)))) anil))))) snil) (scons (sif (mcmpT op_ltM (mvar (i := 3) rfl (.inl rfl)) mint (nomark _)) (sone (sret (mtup (acons mstr (acons (mix (hu_of hr) mstr (mbin op_modM (mvar (i := 4) rfl (.inl rfl)) mint)) (acons (mcall C__law_term (by omega) hr pass_def rfl (acons (mvar (i := 0) rfl (.inr (.inl rfl))) (acons (mbin op_subM (mvar (i := 1) rfl (.inr (.inl rfl))) mint) anil))) (acons (mcall C__law_term (by omega) hr pass_def rfl (acons (mvar (i := 0) rfl (.inr (.inl rfl))) (acons (mbin op_subM (mvar (i := 1) rfl (.inr (.inl rfl))) mint) anil))) anil))))))) snil) (scons (sif (mcmpT op_ltM (mvar (i := 3) rfl (.inl rfl)) mint (nomark _)) (scons (sset (i := 6) sc__law_term.nd rfl (.inl rfl) (mtyV st_V c_tupV rfl T.b_tuple bt_tuple (acons (mslice (mvar (i := 5) rfl (.inl rfl)) (osome (mbin op_modM (mvar (i := 4) rfl (.inl rfl)) mint)) (osome (mbin op_addM (mbin op_modM (mvar (i := 4) rfl (.inl rfl)) mint) (mbin op_modM (mbin op_fdivM (mvar (i := 4) rfl (.inl rfl)) mint) mint)))) anil))) (sone (sret (mtup (acons (mix (hu_of hr) (malloc (mlst (acons mstr (acons mstr anil)))) (mbin op_subM (mvar (i := 3) rfl (.inl rfl)) mint)) (acons (mvar (i := 6) rfl (.inl rfl)) (acons (mcall C__law_body (by omega) hr pass_def rfl (acons (mvar (i := 0) rfl (.inr (.inl rfl))) (acons (mbin op_subM (mvar (i := 1) rfl (.inr (.inl rfl))) mint) (acons (mcmp (op_eqM hr.units) (mvar (i := 3) rfl (.inl rfl)) mint (nomark _)) anil)))) anil))))))) snil) (scons (sif (mcmpT (op_eqM hr.units) (mvar (i := 3) rfl (.inl rfl)) mint (nomark _)) (scons (sset (i := 7) sc__law_term.nd rfl (.inl rfl) (mcall C__law_term (by omega) hr pass_def rfl (acons (mvar (i := 0) rfl (.inr (.inl rfl))) (acons (mbin op_subM (mvar (i := 1) rfl (.inr (.inl rfl))) mint) anil)))) (sone (sret (mtup (acons mstr (acons (mvar (i := 7) rfl (.inl rfl)) (acons (mtyN st_V c_tup rfl T.b_tuple bt_tuple (mcomp (t := .one 8) (own := [("_law_turn", 8)]) rfl rfl sc__law_term.nd (irng1 rfl T.b_range (acons (mbin op_modM (mvar (i := 4) rfl (.inl rfl)) mint) anil)) (blkOk_by (N := N__law_term) (sc := defScope s__law_term) (by decide +kernel)) (fun _ _ _ _ _ => pg_name (i := 8) sc__law_term.nd rfl (Or.inl rfl)) (fun _ _ _ _ _ => tyes) (fun _ _ _ _ _ => (mcall C__law_term (by omega) hr passL rfl (acons (mvar (i := 0) rfl (by first | exact .inr (.inr rfl) | exact .inr (.inl rfl) | exact .inl rfl)) (acons (mbin op_subM (mvar (i := 1) rfl (by first | exact .inr (.inr rfl) | exact .inr (.inl rfl) | exact .inl rfl)) mint) anil)))))) anil))))))) snil) (sone (sret (mtup (acons mstr (acons (mcall C__law_term (by omega) hr pass_def rfl (acons (mvar (i := 0) rfl (.inr (.inl rfl))) (acons (mbin op_subM (mvar (i := 1) rfl (.inr (.inl rfl))) mint) anil))) (acons (mcall C__law_term (by omega) hr pass_def rfl (acons (mvar (i := 0) rfl (.inr (.inl rfl))) (acons (mbin op_subM (mvar (i := 1) rfl (.inr (.inl rfl))) mint) anil))) anil)))))))))))))))))
theorem ok__law_body {r : Nat → List D → Store → R D} {dd : Nat} (hlev : 2 ≤ dd) {f : Addr} {fd : FuncData} (F : Fun K "_law_body" "_law_body" s__law_body f fd) (T : Txt K mg cA) (C__law_next : FnM P w K mg base cA 2 "_law_next" 1 F__law_next) (C__law_statement : FnM P w K mg base cA dd "_law_statement" 3 (r 2)) : FnOk P w K mg base (L2.CX P w) (dd + 1) f fd ["_law_state", "_law_deep", "_law_may_hand"] (spM K cA (bodyF N__law_body.length (m__law_body r)) 3) :=
  defM F sc__law_body fun cdv A outer s H E hr => by
    unfold m__law_body
    exact (sone (sret (mtyN st_V c_tup rfl T.b_tuple bt_tuple (mcomp (t := .one 3) (own := [("_law_turn", 3)]) rfl rfl sc__law_body.nd (irng1 rfl T.b_range (acons (mbin op_modM (mcall C__law_next (by omega) hr pass_def rfl (acons (mvar (i := 0) rfl (.inr (.inl rfl))) anil)) mint) anil)) (blkOk_by (N := N__law_body) (sc := defScope s__law_body) (by decide +kernel)) (fun _ _ _ _ _ => pg_name (i := 3) sc__law_body.nd rfl (Or.inl rfl)) (fun _ _ _ _ _ => tyes) (fun _ _ _ _ _ => (mcall C__law_statement (by omega) hr passL rfl (acons (mvar (i := 0) rfl (by first | exact .inr (.inr rfl) | exact .inr (.inl rfl) | exact .inl rfl)) (acons (mvar (i := 1) rfl (by first | exact .inr (.inr rfl) | exact .inr (.inl rfl) | exact .inl rfl)) (acons (mvar (i := 2) rfl (by first | exact .inr (.inr rfl) | exact .inr (.inl rfl) | exact .inl rfl)) anil)))))))))
theorem ok__law_statement {r : Nat → List D → Store → R D} {dd : Nat} (hlev : 2 ≤ dd) {f : Addr} {fd : FuncData} (F : Fun K "_law_statement" "_law_statement" s__law_statement f fd) (T : Txt K mg cA) (C__law_next : FnM P w K mg base cA 2 "_law_next" 1 F__law_next) (C__law_body : FnM P w K mg base cA dd "_law_body" 3 (r 1)) (C__law_term : FnM P w K mg base cA dd "_law_term" 2 (r 0)) : FnOk P w K mg base (L2.CX P w) (dd + 1) f fd ["_law_state", "_law_deep", "_law_may_hand"] (spM K cA (bodyF N__law_statement.length (m__law_statement r)) 3) :=
  defM F sc__law_statement fun cdv A outer s H E hr => by
    unfold m__law_statement
    exact (scons (sset (i := 3) sc__law_statement.nd rfl (.inl rfl) (mcall C__law_next (by omega) hr pass_def rfl (acons (mvar (i := 0) rfl (.inr (.inl rfl))) anil))) (scons (sasg (mbin op_subM (mix (hu_of hr) (mvar (i := 0) rfl (.inr (.inl rfl))) mstr) mint) (gsub (hu_of hr) (mvar (i := 0) rfl (.inr (.inl rfl))) mstr)) (scons (sset (i := 4) sc__law_statement.nd rfl (.inl rfl) (mbin op_modM (mvar (i := 3) rfl (.inl rfl)) mint)) (scons (sset (i := 5) sc__law_statement.nd rfl (.inl rfl) (mix (hu_of hr) (mix (hu_of hr) (mvar (i := 0) rfl (.inr (.inl rfl))) mstr) (mbin op_modM (mbin op_fdivM (mvar (i := 3) rfl (.inl rfl)) mint) (mcallV st_V c_lenV rfl T.b_len bt_len (acons (mix (hu_of hr) (mvar (i := 0) rfl (.inr (.inl rfl))) mstr) anil))))) (scons (sset (i := 6) sc__law_statement.nd rfl (.inl rfl) (mix (hu_of hr) (malloc (mlst (acons mstr (acons mstr (acons mstr (acons mstr (acons (mvar (i := 5) rfl (.inl rfl)) anil))))))) (mbin op_modM (mbin op_fdivM (mvar (i := 3) rfl (.inl rfl)) mint) mint))) (scons (sif (PW.pt (morT (mcmpT op_ltM (mvar (i := 1) rfl (.inr (.inl rfl))) mint (nomark _)) (mor1 (mcmpT op_ltM (mix (hu_of hr) (mvar (i := 0) rfl (.inr (.inl rfl))) mstr) mint (nomark _))))) (sone (sset (i := 4) sc__law_statement.nd rfl (.inl rfl) (mbin op_modM (mvar (i := 4) rfl (.inl rfl)) mint))) snil) (scons (sif (PW.pt (mandT (mcmpT (op_eqM hr.units) (mvar (i := 4) rfl (.inl rfl)) mint (nomark _)) (mand1 (mnotT (mval (mvar (i := 2) rfl (.inr (.inl rfl)))))))) (sone (sset (i := 4) sc__law_statement.nd rfl (.inl rfl) mint)) snil) (scons (sif (mcmpT op_ltM (mvar (i := 4) rfl (.inl rfl)) mint (nomark _)) (sone (sret (mtup (acons (mix (hu_of hr) (malloc (mlst (acons mstr (acons mstr anil)))) (mvar (i := 4) rfl (.inl rfl))) (acons (mvar (i := 5) rfl (.inl rfl)) (acons (mcall C__law_term (by omega) hr pass_def rfl (acons (mvar (i := 0) rfl (.inr (.inl rfl))) (acons (mbin op_subM (mvar (i := 1) rfl (.inr (.inl rfl))) mint) anil))) anil)))))) snil) (scons (sif (mcmpT op_ltM (mvar (i := 4) rfl (.inl rfl)) mint (nomark _)) (sone (sret (mtup (acons (mix (hu_of hr) (malloc (mlst (acons mstr (acons mstr (acons mstr anil))))) (mbin op_subM (mvar (i := 4) rfl (.inl rfl)) mint)) (acons (mcall C__law_term (by omega) hr pass_def rfl (acons (mvar (i := 0) rfl (.inr (.inl rfl))) (acons (mbin op_subM (mvar (i := 1) rfl (.inr (.inl rfl))) mint) anil))) anil))))) snil) (scons (sif (mcmpT (op_eqM hr.units) (mvar (i := 4) rfl (.inl rfl)) mint (nomark _)) (sone (sret (mtup (acons mstr (acons (mix (hu_of hr) (malloc (mlst (acons (mvar (i := 6) rfl (.inl rfl)) (acons mstr anil)))) (mtyV st_V c_int rfl T.b_int bt_int (acons (mcmp (op_eqM hr.units) (mvar (i := 6) rfl (.inl rfl)) mstr (nomark _)) anil))) (acons (mcall C__law_term (by omega) hr pass_def rfl (acons (mvar (i := 0) rfl (.inr (.inl rfl))) (acons (mbin op_subM (mvar (i := 1) rfl (.inr (.inl rfl))) mint) anil))) anil)))))) snil) (scons (sif (mcmpT (op_eqM hr.units) (mvar (i := 4) rfl (.inl rfl)) mint (nomark _)) (sone (sret (mtup (acons mstr (acons (mcall C__law_term (by omega) hr pass_def rfl (acons (mvar (i := 0) rfl (.inr (.inl rfl))) (acons (mbin op_subM (mvar (i := 1) rfl (.inr (.inl rfl))) mint) anil))) (acons (mcall C__law_body (by omega) hr pass_def rfl (acons (mvar (i := 0) rfl (.inr (.inl rfl))) (acons (mbin op_subM (mvar (i := 1) rfl (.inr (.inl rfl))) mint) (acons (mvar (i := 2) rfl (.inr (.inl rfl))) anil)))) anil)))))) snil) (scons (sif (mcmpT (op_eqM hr.units) (mvar (i := 4) rfl (.inl rfl)) mint (nomark _)) (scons (sset (i := 7) sc__law_statement.nd rfl (.inl rfl) (mcall C__law_term (by omega) hr pass_def rfl (acons (mvar (i := 0) rfl (.inr (.inl rfl))) (acons (mbin op_subM (mvar (i := 1) rfl (.inr (.inl rfl))) mint) anil)))) (sone (sret (mtup (acons mstr (acons (mvar (i := 7) rfl (.inl rfl)) (acons (mcall C__law_body (by omega) hr pass_def rfl (acons (mvar (i := 0) rfl (.inr (.inl rfl))) (acons (mbin op_subM (mvar (i := 1) rfl (.inr (.inl rfl))) mint) (acons (mvar (i := 2) rfl (.inr (.inl rfl))) anil)))) (acons (mcall C__law_body (by omega) hr pass_def rfl (acons (mvar (i := 0) rfl (.inr (.inl rfl))) (acons (mbin op_subM (mvar (i := 1) rfl (.inr (.inl rfl))) mint) (acons (mvar (i := 2) rfl (.inr (.inl rfl))) anil)))) anil)))))))) snil) (scons (ssetC (i := 8) (t := .one 9) (own := [("_law_turn", 9)]) rfl rfl sc__law_statement.nd rfl rfl (sw_true rfl rfl rfl (by decide +kernel)) (irng1 rfl T.b_range (acons mint anil)) (blkOk_by (N := N__law_statement) (sc := defScope s__law_statement) (by decide +kernel)) (fun _ _ _ _ _ => pg_name (i := 9) sc__law_statement.nd rfl (Or.inl rfl)) (fun _ _ _ _ _ => tyes) (fun _ _ _ _ _ => (mcall C__law_body (by omega) hr passL rfl (acons (mvar (i := 0) rfl (by first | exact .inr (.inr rfl) | exact .inr (.inl rfl) | exact .inl rfl)) (acons (mbin op_subM (mvar (i := 1) rfl (by first | exact .inr (.inr rfl) | exact .inr (.inl rfl) | exact .inl rfl)) mint) (acons (mvar (i := 2) rfl (by first | exact .inr (.inr rfl) | exact .inr (.inl rfl) | exact .inl rfl)) anil)))))) (sone (sret (mtup (acons mstr (acons (mix (hu_of hr) (mvar (i := 8) rfl (.inl rfl)) mint) (acons (mvar (i := 6) rfl (.inl rfl)) (acons (mvar (i := 5) rfl (.inl rfl)) (acons (mix (hu_of hr) (mvar (i := 8) rfl (.inl rfl)) mint) (acons (mix (hu_of hr) (mvar (i := 8) rfl (.inl rfl)) mint) anil))))))))))))))))))))))
theorem rec__law_term {f__law_term : Addr} {fd__law_term : FuncData} (F__law_term : Fun K "_law_term" "_law_term" s__law_term f__law_term fd__law_term) (g__law_term : mg "_law_term" = some (.ref f__law_term)) (B__law_term : Binds K fd__law_term ["_law_state", "_law_deep"] []) {f__law_body : Addr} {fd__law_body : FuncData} (F__law_body : Fun K "_law_body" "_law_body" s__law_body f__law_body fd__law_body) (g__law_body : mg "_law_body" = some (.ref f__law_body)) (B__law_body : Binds K fd__law_body ["_law_state", "_law_deep", "_law_may_hand"] []) {f__law_statement : Addr} {fd__law_statement : FuncData} (F__law_statement : Fun K "_law_statement" "_law_statement" s__law_statement f__law_statement fd__law_statement) (g__law_statement : mg "_law_statement" = some (.ref f__law_statement)) (B__law_statement : Binds K fd__law_statement ["_law_state", "_law_deep", "_law_may_hand"] []) (T : Txt K mg cA) (C__law_next : FnM P w K mg base cA 2 "_law_next" 1 F__law_next) (C__law_number : FnM P w K mg base cA 1 "_law_number" 1 F__law_number) : ∀ n : Nat, FnM P w K mg base cA (2 + n) "_law_term" 2 (G__law_term n 0) ∧ FnM P w K mg base cA (2 + n) "_law_body" 3 (G__law_term n 1) ∧ FnM P w K mg base cA (2 + n) "_law_statement" 3 (G__law_term n 2)
  | 0 => ⟨⟨⟨f__law_term, fd__law_term, _, g__law_term, F__law_term.kp, B__law_term, ok_bad rfl⟩⟩, ⟨⟨f__law_body, fd__law_body, _, g__law_body, F__law_body.kp, B__law_body, ok_bad rfl⟩⟩, ⟨⟨f__law_statement, fd__law_statement, _, g__law_statement, F__law_statement.kp, B__law_statement, ok_bad rfl⟩⟩⟩
  | n + 1 => by
    have ih := rec__law_term F__law_term g__law_term B__law_term F__law_body g__law_body B__law_body F__law_statement g__law_statement B__law_statement T C__law_next C__law_number n
    obtain ⟨C__law_term, C__law_body, C__law_statement⟩ := ih
    exact ⟨.mk' F__law_term g__law_term B__law_term (ok__law_term (r := G__law_term n) (Nat.le_add_right 2 n) F__law_term T (C__law_body := C__law_body) (C__law_next := C__law_next) (C__law_number := C__law_number) (C__law_term := C__law_term)), .mk' F__law_body g__law_body B__law_body (ok__law_body (r := G__law_term n) (Nat.le_add_right 2 n) F__law_body T (C__law_next := C__law_next) (C__law_statement := C__law_statement)), .mk' F__law_statement g__law_statement B__law_statement (ok__law_statement (r := G__law_term n) (Nat.le_add_right 2 n) F__law_statement T (C__law_body := C__law_body) (C__law_next := C__law_next) (C__law_term := C__law_term))⟩
theorem ok__law_program {f : Addr} {fd : FuncData} (F : Fun K "_law_program" "_law_program" s__law_program f fd) (T : Txt K mg cA) (C__law_cell_at : FnM P w K mg base cA 1 "_law_cell_at" 2 F__law_cell_at) (C__law_names : FnM P w K mg base cA 1 "_law_names" 2 F__law_names) (C__law_next : FnM P w K mg base cA 2 "_law_next" 1 F__law_next) (C__law_statement : FnM P w K mg base cA 62 "_law_statement" 3 F__law_statement) : FnOk P w K mg base (L2.CX P w) 63 f fd ["_law_script", "_law_most"] (spM K cA F__law_program 2) :=
  defM F sc__law_program fun cdv A outer s H E hr => by
    unfold m__law_program
    exact (scons (sset (i := 2) sc__law_program.nd rfl (.inl rfl) (mcall C__law_names (by decide) hr pass_def rfl (acons (mbin op_modM (mbin op_mulM (mcall C__law_cell_at (by decide) hr pass_def rfl (acons (mvar (i := 0) rfl (.inl rfl)) (acons mint anil))) mint) mint) (acons mint anil)))) (scons (sset (i := 3) sc__law_program.nd rfl (.inl rfl) (mdict (pcons mstr (mvar (i := 0) rfl (.inl rfl)) (pcons mstr mint (pcons mstr (mvar (i := 1) rfl (.inl rfl)) (pcons mstr (mvar (i := 2) rfl (.inl rfl)) pnil)))))) (scons (sset (i := 4) sc__law_program.nd rfl (.inl rfl) (malloc (mlst anil))) (scons (swhile FU own_def (PW.pt (mandT (mcmpT op_gtM (mix (hu_of hr) (mvar (i := 3) rfl (.inl rfl)) mstr) mint (nomark _)) (mand1 (mcmpT op_ltM (mcallV st_V c_lenV rfl T.b_len bt_len (acons (mvar (i := 4) rfl (.inl rfl)) anil)) (mbin op_addM mint (mbin op_modM (mcall C__law_cell_at (by decide) hr pass_def rfl (acons (mvar (i := 0) rfl (.inl rfl)) (acons mint anil))) mint)) (nomark _))))) (sone (sexpr (mlm PySem.F.slot_list_append PySem.F.type_list_append mt_appendM (mvar (i := 4) rfl (.inl rfl)) (acons (mcall C__law_statement (by decide) hr pass_def rfl (acons (mvar (i := 3) rfl (.inl rfl)) (acons (mbin op_addM mint (mbin op_modM (mcall C__law_next (by decide) hr pass_def rfl (acons (mvar (i := 3) rfl (.inl rfl)) anil)) mint)) (acons mbl anil)))) anil))))) (sone (sret (mtup (acons mstr (acons (mtyV st_V c_tupV rfl T.b_tuple bt_tuple (acons (mslice (mvar (i := 2) rfl (.inl rfl)) ono (osome (mbin op_modM (mcall C__law_cell_at (by decide) hr pass_def rfl (acons (mvar (i := 0) rfl (.inl rfl)) (acons mint anil))) mint))) anil)) (acons (mtyV st_V c_tupV rfl T.b_tuple bt_tuple (acons (mvar (i := 4) rfl (.inl rfl)) anil)) anil))))))))))
theorem ok_BadNameXX_initXX {f : Addr} {fd : FuncData} (F : Fun K "__init__" "BadName.__init__" s_BadNameXX_initXX f fd) (T : Txt K mg cA) : FnOk P w K mg base (L2.CX P w) 1 f fd ["self", "name"] (spI (cA 3) ["name"]) :=
  okI1 F sc_BadNameXX_initXX rfl (fun _ _ => rfl) T.o_BadName T.of_BadName_name fun cdv A outer s H E => (pss_cons (ps_expr (pe_oinit rfl T.n_LoomError T.gb_LoomError T.rb_LoomError T.vb_LoomError (pa_cons (pe_var (i := 0) rfl (.inl rfl)) (pa_cons pe_str pa_nil)))) (pss_one (ps_ost (pe_var (i := 0) rfl (.inl rfl)) (pe_var (i := 1) rfl (.inl rfl)))))
theorem ok_inner_of {f : Addr} {fd : FuncData} (F : Fun K "inner_of" "inner_of" s_inner_of f fd) (T : Txt K mg cA)  : FnOk P w K mg base (L2.CX P w) 1 f fd ["part"] (spM K cA F_inner_of 1) :=
  defM F sc_inner_of fun cdv A outer s H E hr => by
    unfold m_inner_of
    exact (scons (sset (i := 1) sc_inner_of.nd rfl (.inl rfl) (mix (hu_of hr) (mvar (i := 0) rfl (.inl rfl)) mint)) (scons (sif (mcmpT (op_inM (hu_of hr)) (mvar (i := 1) rfl (.inl rfl)) (mtup (acons mstr (acons mstr anil))) rfl) (sone (sret (malloc (mlst anil)))) snil) (scons (sif (mcmpT (op_inM (hu_of hr)) (mvar (i := 1) rfl (.inl rfl)) (mtup (acons mstr (acons mstr (acons mstr anil)))) rfl) (sone (sret (malloc (mlst (acons (mix (hu_of hr) (mvar (i := 0) rfl (.inl rfl)) mint) anil))))) snil) (scons (sif (mcmpT (op_inM (hu_of hr)) (mvar (i := 1) rfl (.inl rfl)) (mtup (acons mstr (acons mstr (acons mstr anil)))) rfl) (sone (sret (malloc (mlst (acons (mix (hu_of hr) (mvar (i := 0) rfl (.inl rfl)) mint) anil))))) snil) (scons (sif (mcmpT (op_inM (hu_of hr)) (mvar (i := 1) rfl (.inl rfl)) (mtup (acons mstr (acons mstr (acons mstr anil)))) rfl) (sone (sret (malloc (mtyV st_New (c_list rfl) rfl T.b_list bt_list (acons (mix (hu_of hr) (mvar (i := 0) rfl (.inl rfl)) mint) anil))))) snil) (scons (sif (mcmpT (op_inM (hu_of hr)) (mvar (i := 1) rfl (.inl rfl)) (mtup (acons mstr (acons mstr anil))) rfl) (sone (sret (mbin op_addM (malloc (mlst (acons (mix (hu_of hr) (mvar (i := 0) rfl (.inl rfl)) mint) anil))) (malloc (mtyV st_New (c_list rfl) rfl T.b_list bt_list (acons (mix (hu_of hr) (mvar (i := 0) rfl (.inl rfl)) mint) anil)))))) snil) (scons (sif (mcmpT (op_eqM hr.units) (mvar (i := 1) rfl (.inl rfl)) mstr (nomark _)) (sone (sret (malloc (mlst (acons (mix (hu_of hr) (mvar (i := 0) rfl (.inl rfl)) mint) (acons (mix (hu_of hr) (mvar (i := 0) rfl (.inl rfl)) mint) anil)))))) snil) (scons (sif (mcmpT (op_eqM hr.units) (mvar (i := 1) rfl (.inl rfl)) mstr (nomark _)) (sone (sret (malloc (mlst (acons (mix (hu_of hr) (mvar (i := 0) rfl (.inl rfl)) mint) (acons (mix (hu_of hr) (mvar (i := 0) rfl (.inl rfl)) mint) anil)))))) snil) (scons (sif (mcmpT (op_eqM hr.units) (mvar (i := 1) rfl (.inl rfl)) mstr (nomark _)) (sone (sret (mbin op_addM (mbin op_addM (malloc (mlst (acons (mix (hu_of hr) (mvar (i := 0) rfl (.inl rfl)) mint) anil))) (malloc (mtyV st_New (c_list rfl) rfl T.b_list bt_list (acons (mix (hu_of hr) (mvar (i := 0) rfl (.inl rfl)) mint) anil)))) (malloc (mtyV st_New (c_list rfl) rfl T.b_list bt_list (acons (mix (hu_of hr) (mvar (i := 0) rfl (.inl rfl)) mint) anil)))))) snil) (sone (sret (mbin op_addM (mbin op_addM (malloc (mtyV st_New (c_list rfl) rfl T.b_list bt_list (acons (mix (hu_of hr) (mvar (i := 0) rfl (.inl rfl)) mint) anil))) (malloc (mtyV st_New (c_list rfl) rfl T.b_list bt_list (acons (mix (hu_of hr) (mvar (i := 0) rfl (.inl rfl)) mint) anil)))) (malloc (mtyV st_New (c_list rfl) rfl T.b_list bt_list (acons (mix (hu_of hr) (mvar (i := 0) rfl (.inl rfl)) mint) anil)))))))))))))))
theorem ok_gather {r : Nat → List D → Store → R D} {dd : Nat} (hlev : 1 ≤ dd) {f : Addr} {fd : FuncData} (F : Fun K "gather" "gather" s_gather f fd) (T : Txt K mg cA) (C_inner_of : FnM P w K mg base cA 1 "inner_of" 1 F_inner_of) (C_gather : FnM P w K mg base cA dd "gather" 3 (r 0)) : FnOk P w K mg base (L2.CX P w) (dd + 1) f fd ["part", "outer", "found"] (spM K cA (bodyF N_gather.length (m_gather r)) 3) :=
  defM F sc_gather fun cdv A outer s H E hr => by
    unfold m_gather
    exact (sone (sfor own_def rfl (isrc (mcall C_inner_of (by omega) hr pass_def rfl (acons (mvar (i := 0) rfl (.inl rfl)) anil))) (gname (i := 3) sc_gather.nd rfl (.inl rfl)) (sone (sif (mcmpT (op_inM (hu_of hr)) (mix (hu_of hr) (mvar (i := 3) rfl (.inl rfl)) mint) (mtup (acons mstr (acons mstr anil))) rfl) (scons (sexpr (mlm PySem.F.slot_list_append PySem.F.type_list_append mt_appendM (mvar (i := 2) rfl (.inl rfl)) (acons (mtup (acons (mix (hu_of hr) (mvar (i := 3) rfl (.inl rfl)) mint) (acons (mix (hu_of hr) (mvar (i := 3) rfl (.inl rfl)) mint) (acons (mix (hu_of hr) (mvar (i := 3) rfl (.inl rfl)) mint) (acons (mvar (i := 1) rfl (.inl rfl)) anil))))) anil))) (sone (sexpr (mcall C_gather (by omega) hr pass_def rfl (acons (mvar (i := 3) rfl (.inl rfl)) (acons (mbin op_subM (mcallV st_V c_lenV rfl T.b_len bt_len (acons (mvar (i := 2) rfl (.inl rfl)) anil)) mint) (acons (mvar (i := 2) rfl (.inl rfl)) anil))))))) (sone (sexpr (mcall C_gather (by omega) hr pass_def rfl (acons (mvar (i := 3) rfl (.inl rfl)) (acons (mvar (i := 1) rfl (.inl rfl)) (acons (mvar (i := 2) rfl (.inl rfl)) anil))))))))))
theorem rec_gather {f_gather : Addr} {fd_gather : FuncData} (F_gather : Fun K "gather" "gather" s_gather f_gather fd_gather) (g_gather : mg "gather" = some (.ref f_gather)) (B_gather : Binds K fd_gather ["part", "outer", "found"] []) (T : Txt K mg cA) (C_inner_of : FnM P w K mg base cA 1 "inner_of" 1 F_inner_of) : ∀ n : Nat, FnM P w K mg base cA (1 + n) "gather" 3 (G_gather n 0)
  | 0 => ⟨⟨f_gather, fd_gather, _, g_gather, F_gather.kp, B_gather, ok_bad rfl⟩⟩
  | n + 1 => by
    have ih := rec_gather F_gather g_gather B_gather T C_inner_of n
    have C_gather := ih
    exact .mk' F_gather g_gather B_gather (ok_gather (r := G_gather n) (Nat.le_add_right 1 n) F_gather T (C_gather := C_gather) (C_inner_of := C_inner_of))
theorem ok_has_word {f : Addr} {fd : FuncData} (F : Fun K "has_word" "has_word" s_has_word f fd) (T : Txt K mg cA)  : FnOk P w K mg base (L2.CX P w) 1 f fd ["thing", "word", "size"] (spM K cA F_has_word 3) :=
  defM F sc_has_word fun cdv A outer s H E hr => by
    unfold m_has_word
    exact (sone (sret (mand (misi ok_tuple (mvar (i := 0) rfl (.inl rfl)) rfl T.b_isinstance rfl T.b_tuple bt_tuple bt_isinstance) (mand (mcmp (op_eqM hr.units) (mcallV st_V c_lenV rfl T.b_len bt_len (acons (mvar (i := 0) rfl (.inl rfl)) anil)) (mvar (i := 2) rfl (.inl rfl)) (nomark _)) (mand (misi ok_str (mix (hu_of hr) (mvar (i := 0) rfl (.inl rfl)) mint) rfl T.b_isinstance rfl T.b_str bt_str bt_isinstance) (mone (mcmp (op_eqM hr.units) (mix (hu_of hr) (mvar (i := 0) rfl (.inl rfl)) mint) (mvar (i := 1) rfl (.inl rfl)) (nomark _))))))))
theorem ok_is_name {f : Addr} {fd : FuncData} (F : Fun K "is_name" "is_name" s_is_name f fd) (T : Txt K mg cA)  : FnOk P w K mg base (L2.CX P w) 1 f fd ["thing"] (spM K cA F_is_name 1) :=
  defM F sc_is_name fun cdv A outer s H E hr => by
    unfold m_is_name
    exact (scons (sif (PW.pt (morT (mnotT (mval (misi ok_str (mvar (i := 0) rfl (.inl rfl)) rfl T.b_isinstance rfl T.b_str bt_str bt_isinstance))) (mor1 (mnotT (mchainT op_leM op_leM mint (mcallV st_V c_lenV rfl T.b_len bt_len (acons (mvar (i := 0) rfl (.inl rfl)) anil)) (mgint rfl T.g_MOST_LETTERS)))))) (sone (sret mbl)) snil) (sone (sret (mcallN st_V (c_all rfl) rfl T.b_all bt_all (mcomp (t := .one 1) (own := [("sign", 1)]) rfl rfl sc_is_name.nd (isrc (mvar (i := 0) rfl (.inl rfl))) (blkOk_by (N := N_is_name) (sc := defScope s_is_name) (by decide +kernel)) (fun _ _ _ _ _ => pg_name (i := 1) sc_is_name.nd rfl (Or.inl rfl)) (fun _ _ _ _ _ => tyes) (fun _ _ _ _ _ => (mchain op_leM op_leM mstr (mvar (i := 1) rfl (.inl rfl)) mstr)))))))
theorem ok_is_names {f : Addr} {fd : FuncData} (F : Fun K "is_names" "is_names" s_is_names f fd) (T : Txt K mg cA) (C_is_name : FnM P w K mg base cA 1 "is_name" 1 F_is_name) : FnOk P w K mg base (L2.CX P w) 2 f fd ["thing"] (spM K cA F_is_names 1) :=
  defM F sc_is_names fun cdv A outer s H E hr => by
    unfold m_is_names
    exact (scons (sif (PW.pt (morT (mnotT (mval (misi ok_tuple (mvar (i := 0) rfl (.inl rfl)) rfl T.b_isinstance rfl T.b_tuple bt_tuple bt_isinstance))) (morT (mcmpT op_gtM (mcallV st_V c_lenV rfl T.b_len bt_len (acons (mvar (i := 0) rfl (.inl rfl)) anil)) (mgint rfl T.g_MOST_NAMES) (nomark _)) (mor1 (mnotT (mval (mcallN st_V (c_all rfl) rfl T.b_all bt_all (mcomp (t := .one 1) (own := [("name", 1)]) rfl rfl sc_is_names.nd (isrc (mvar (i := 0) rfl (.inl rfl))) (blkOk_by (N := N_is_names) (sc := defScope s_is_names) (by decide +kernel)) (fun _ _ _ _ _ => pg_name (i := 1) sc_is_names.nd rfl (Or.inl rfl)) (fun _ _ _ _ _ => tyes) (fun _ _ _ _ _ => (mcall C_is_name (by decide) hr passL rfl (acons (mvar (i := 1) rfl (.inl rfl)) anil))))))))))) (sone (sret mbl)) snil) (sone (sret (mcmp (op_eqM hr.units) (mlenset rfl rfl T.b_len rfl T.b_set (mvar (i := 0) rfl (.inl rfl))) (mcallV st_V c_lenV rfl T.b_len bt_len (acons (mvar (i := 0) rfl (.inl rfl)) anil)) (nomark _)))))
theorem ok_is_number {f : Addr} {fd : FuncData} (F : Fun K "is_number" "is_number" s_is_number f fd) (T : Txt K mg cA)  : FnOk P w K mg base (L2.CX P w) 1 f fd ["thing"] (spM K cA F_is_number 1) :=
  defM F sc_is_number fun cdv A outer s H E hr => by
    unfold m_is_number
    exact (sone (sret (mand (misi ok_int (mvar (i := 0) rfl (.inl rfl)) rfl T.b_isinstance rfl T.b_int bt_int bt_isinstance) (mand (mnot (misi ok_bool (mvar (i := 0) rfl (.inl rfl)) rfl T.b_isinstance rfl T.b_bool bt_bool bt_isinstance)) (mone (mchain op_leM op_leM (mbin op_subM mint (mgint rfl T.g_GREATEST)) (mvar (i := 0) rfl (.inl rfl)) (mgint rfl T.g_GREATEST)))))))
theorem ok_is_simple {f : Addr} {fd : FuncData} (F : Fun K "is_simple" "is_simple" s_is_simple f fd) (T : Txt K mg cA) (C_has_word : FnM P w K mg base cA 1 "has_word" 3 F_has_word) (C_is_name : FnM P w K mg base cA 1 "is_name" 1 F_is_name) (C_is_number : FnM P w K mg base cA 1 "is_number" 1 F_is_number) : FnOk P w K mg base (L2.CX P w) 2 f fd ["thing"] (spM K cA F_is_simple 1) :=
  defM F sc_is_simple fun cdv A outer s H E hr => by
    unfold m_is_simple
    exact (scons (sif (mval (mcall C_has_word (by decide) hr pass_def rfl (acons (mvar (i := 0) rfl (.inl rfl)) (acons mstr (acons mint anil))))) (sone (sret (mcall C_is_number (by decide) hr pass_def rfl (acons (mix (hu_of hr) (mvar (i := 0) rfl (.inl rfl)) mint) anil)))) snil) (sone (sret (mand (mcall C_has_word (by decide) hr pass_def rfl (acons (mvar (i := 0) rfl (.inl rfl)) (acons mstr (acons mint anil)))) (mone (mcall C_is_name (by decide) hr pass_def rfl (acons (mix (hu_of hr) (mvar (i := 0) rfl (.inl rfl)) mint) anil)))))))
theorem ok_is_function {r : Nat → List D → Store → R D} {dd : Nat} (hlev : 2 ≤ dd) {f : Addr} {fd : FuncData} (F : Fun K "is_function" "is_function" s_is_function f fd) (T : Txt K mg cA) (C_has_word : FnM P w K mg base cA 1 "has_word" 3 F_has_word) (C_is_names : FnM P w K mg base cA 2 "is_names" 1 F_is_names) (C_is_body : FnM P w K mg base cA dd "is_body" 3 (r 2)) : FnOk P w K mg base (L2.CX P w) (dd + 1) f fd ["thing", "left"] (spM K cA (bodyF N_is_function.length (m_is_function r)) 2) :=
  defM F sc_is_function fun cdv A outer s H E hr => by
    unfold m_is_function
    exact (scons (sif (mval (mcall C_has_word (by omega) hr pass_def rfl (acons (mvar (i := 0) rfl (.inl rfl)) (acons mstr (acons mint anil))))) (sone (sret (mand (mcall C_is_names (by omega) hr pass_def rfl (acons (mix (hu_of hr) (mvar (i := 0) rfl (.inl rfl)) mint) anil)) (mone (mcall C_is_body (by omega) hr pass_def rfl (acons (mix (hu_of hr) (mvar (i := 0) rfl (.inl rfl)) mint) (acons (mbin op_subM (mvar (i := 1) rfl (.inl rfl)) mint) (acons mbl anil)))))))) snil) (sone (sret (mand (mcall C_has_word (by omega) hr pass_def rfl (acons (mvar (i := 0) rfl (.inl rfl)) (acons mstr (acons mint anil)))) (mand (mcall C_is_names (by omega) hr pass_def rfl (acons (mix (hu_of hr) (mvar (i := 0) rfl (.inl rfl)) mint) anil)) (mone (mcall C_is_body (by omega) hr pass_def rfl (acons (mix (hu_of hr) (mvar (i := 0) rfl (.inl rfl)) mint) (acons (mbin op_subM (mvar (i := 1) rfl (.inl rfl)) mint) (acons mbl anil))))))))))
theorem ok_is_term {r : Nat → List D → Store → R D} {dd : Nat} (hlev : 2 ≤ dd) {f : Addr} {fd : FuncData} (F : Fun K "is_term" "is_term" s_is_term f fd) (T : Txt K mg cA) (C_has_word : FnM P w K mg base cA 1 "has_word" 3 F_has_word) (C_is_simple : FnM P w K mg base cA 2 "is_simple" 1 F_is_simple) (C_is_function : FnM P w K mg base cA dd "is_function" 2 (r 0)) (C_is_term : FnM P w K mg base cA dd "is_term" 2 (r 1)) : FnOk P w K mg base (L2.CX P w) (dd + 1) f fd ["thing", "left"] (spM K cA (bodyF N_is_term.length (m_is_term r)) 2) :=
  defM F sc_is_term fun cdv A outer s H E hr => by
    unfold m_is_term
    exact (scons (sif (mcmpT op_ltM (mvar (i := 1) rfl (.inr (.inl rfl))) mint (nomark _)) (sone (sret mbl)) snil) (scons (sif (mval (mcall C_has_word (by omega) hr pass_def rfl (acons (mvar (i := 0) rfl (.inl rfl)) (acons mstr (acons mint anil))))) (scons (sset (i := 2) sc_is_term.nd rfl (.inl rfl) (mand (misi ok_str (mix (hu_of hr) (mvar (i := 0) rfl (.inl rfl)) mint) rfl T.b_isinstance rfl T.b_str bt_str bt_isinstance) (mone (mcmp (op_inM (hu_of hr)) (mix (hu_of hr) (mvar (i := 0) rfl (.inl rfl)) mint) (mgstrs [Str.ofString "+", Str.ofString "-", Str.ofString "*", Str.ofString "<", Str.ofString "="] rfl T.g_SIGNS) rfl)))) (sone (sret (mand (mvar (i := 2) rfl (.inl rfl)) (mand (mcall C_is_term (by omega) hr pass_def rfl (acons (mix (hu_of hr) (mvar (i := 0) rfl (.inl rfl)) mint) (acons (mbin op_subM (mvar (i := 1) rfl (.inr (.inl rfl))) mint) anil))) (mone (mcall C_is_term (by omega) hr pass_def rfl (acons (mix (hu_of hr) (mvar (i := 0) rfl (.inl rfl)) mint) (acons (mbin op_subM (mvar (i := 1) rfl (.inr (.inl rfl))) mint) anil))))))))) snil) (scons (sif (mval (mcall C_has_word (by omega) hr pass_def rfl (acons (mvar (i := 0) rfl (.inl rfl)) (acons mstr (acons mint anil))))) (scons (sif (PW.pt (morT (mnotT (mval (misi ok_tuple (mix (hu_of hr) (mvar (i := 0) rfl (.inl rfl)) mint) rfl T.b_isinstance rfl T.b_tuple bt_tuple bt_isinstance))) (morT (mcmpT op_gtM (mcallV st_V c_lenV rfl T.b_len bt_len (acons (mix (hu_of hr) (mvar (i := 0) rfl (.inl rfl)) mint) anil)) (mgint rfl T.g_MOST_TERMS) (nomark _)) (mor1 (mnotT (mval (mcall C_is_term (by omega) hr pass_def rfl (acons (mix (hu_of hr) (mvar (i := 0) rfl (.inl rfl)) mint) (acons (mbin op_subM (mvar (i := 1) rfl (.inr (.inl rfl))) mint) anil))))))))) (sone (sret mbl)) snil) (sone (sret (mcallN st_V (c_all rfl) rfl T.b_all bt_all (mcomp (t := .one 3) (own := [("term", 3)]) rfl rfl sc_is_term.nd (isrc (mix (hu_of hr) (mvar (i := 0) rfl (.inl rfl)) mint)) (blkOk_by (N := N_is_term) (sc := defScope s_is_term) (by decide +kernel)) (fun _ _ _ _ _ => pg_name (i := 3) sc_is_term.nd rfl (Or.inl rfl)) (fun _ _ _ _ _ => tyes) (fun _ _ _ _ _ => (mcall C_is_term (by omega) hr passL rfl (acons (mvar (i := 3) rfl (.inl rfl)) (acons (mbin op_subM (mvar (i := 1) rfl (by first | exact .inr (.inr rfl) | exact .inr (.inl rfl) | exact .inl rfl)) mint) anil))))))))) snil) (scons (sif (mval (mcall C_has_word (by omega) hr pass_def rfl (acons (mvar (i := 0) rfl (.inl rfl)) (acons mstr (acons mint anil))))) (sone (sret (mand (mcall C_is_term (by omega) hr pass_def rfl (acons (mix (hu_of hr) (mvar (i := 0) rfl (.inl rfl)) mint) (acons (mbin op_subM (mvar (i := 1) rfl (.inr (.inl rfl))) mint) anil))) (mone (mcall C_is_term (by omega) hr pass_def rfl (acons (mix (hu_of hr) (mvar (i := 0) rfl (.inl rfl)) mint) (acons (mbin op_subM (mvar (i := 1) rfl (.inr (.inl rfl))) mint) anil))))))) snil) (sone (sret (mor (mcall C_is_simple (by omega) hr pass_def rfl (acons (mvar (i := 0) rfl (.inl rfl)) anil)) (mone (mcall C_is_function (by omega) hr pass_def rfl (acons (mvar (i := 0) rfl (.inl rfl)) (acons (mvar (i := 1) rfl (.inr (.inl rfl))) anil)))))))))))
theorem ok_is_body {r : Nat → List D → Store → R D} {dd : Nat} (hlev : 2 ≤ dd) {f : Addr} {fd : FuncData} (F : Fun K "is_body" "is_body" s_is_body f fd) (T : Txt K mg cA) (C_is_statement : FnM P w K mg base cA dd "is_statement" 3 (r 4)) : FnOk P w K mg base (L2.CX P w) (dd + 1) f fd ["thing", "left", "may_hand"] (spM K cA (bodyF N_is_body.length (m_is_body r)) 3) :=
  defM F sc_is_body fun cdv A outer s H E hr => by
    unfold m_is_body
    exact (scons (sif (PW.pt (morT (mnotT (mval (misi ok_tuple (mvar (i := 0) rfl (.inl rfl)) rfl T.b_isinstance rfl T.b_tuple bt_tuple bt_isinstance))) (mor1 (mcmpT op_gtM (mcallV st_V c_lenV rfl T.b_len bt_len (acons (mvar (i := 0) rfl (.inl rfl)) anil)) (mgint rfl T.g_MOST_STATEMENTS) (nomark _))))) (sone (sret mbl)) snil) (sone (sret (mcallN st_V (c_all rfl) rfl T.b_all bt_all (mcomp (t := .one 3) (own := [("one", 3)]) rfl rfl sc_is_body.nd (isrc (mvar (i := 0) rfl (.inl rfl))) (blkOk_by (N := N_is_body) (sc := defScope s_is_body) (by decide +kernel)) (fun _ _ _ _ _ => pg_name (i := 3) sc_is_body.nd rfl (Or.inl rfl)) (fun _ _ _ _ _ => tyes) (fun _ _ _ _ _ => (mcall C_is_statement (by omega) hr passL rfl (acons (mvar (i := 3) rfl (.inl rfl)) (acons (mvar (i := 1) rfl (by first | exact .inr (.inr rfl) | exact .inr (.inl rfl) | exact .inl rfl)) (acons (mvar (i := 2) rfl (by first | exact .inr (.inr rfl) | exact .inr (.inl rfl) | exact .inl rfl)) anil))))))))))
theorem ok_is_short {r : Nat → List D → Store → R D} {dd : Nat} (hlev : 2 ≤ dd) {f : Addr} {fd : FuncData} (F : Fun K "is_short" "is_short" s_is_short f fd) (T : Txt K mg cA) (C_has_word : FnM P w K mg base cA 1 "has_word" 3 F_has_word) (C_is_name : FnM P w K mg base cA 1 "is_name" 1 F_is_name) (C_is_term : FnM P w K mg base cA dd "is_term" 2 (r 1)) : FnOk P w K mg base (L2.CX P w) (dd + 1) f fd ["thing", "left", "may_hand"] (spM K cA (bodyF N_is_short.length (m_is_short r)) 3) :=
  defM F sc_is_short fun cdv A outer s H E hr => by
    unfold m_is_short
    exact (scons (sif (PW.pt (morT (mval (mcall C_has_word (by omega) hr pass_def rfl (acons (mvar (i := 0) rfl (.inl rfl)) (acons mstr (acons mint anil))))) (mor1 (mval (mcall C_has_word (by omega) hr pass_def rfl (acons (mvar (i := 0) rfl (.inl rfl)) (acons mstr (acons mint anil)))))))) (sone (sret (mand (mcall C_is_name (by omega) hr pass_def rfl (acons (mix (hu_of hr) (mvar (i := 0) rfl (.inl rfl)) mint) anil)) (mone (mcall C_is_term (by omega) hr pass_def rfl (acons (mix (hu_of hr) (mvar (i := 0) rfl (.inl rfl)) mint) (acons (mbin op_subM (mvar (i := 1) rfl (.inl rfl)) mint) anil))))))) snil) (scons (sif (mval (mcall C_has_word (by omega) hr pass_def rfl (acons (mvar (i := 0) rfl (.inl rfl)) (acons mstr (acons mint anil))))) (sone (sret (mand (mcall C_is_name (by omega) hr pass_def rfl (acons (mix (hu_of hr) (mvar (i := 0) rfl (.inl rfl)) mint) anil)) (mand (mcmp (op_neM hr.units) (mix (hu_of hr) (mvar (i := 0) rfl (.inl rfl)) mint) mstr (nomark _)) (mone (mcall C_is_term (by omega) hr pass_def rfl (acons (mix (hu_of hr) (mvar (i := 0) rfl (.inl rfl)) mint) (acons (mbin op_subM (mvar (i := 1) rfl (.inl rfl)) mint) anil)))))))) snil) (scons (sif (mval (mcall C_has_word (by omega) hr pass_def rfl (acons (mvar (i := 0) rfl (.inl rfl)) (acons mstr (acons mint anil))))) (sone (sret (mand (mvar (i := 2) rfl (.inl rfl)) (mone (mcall C_is_term (by omega) hr pass_def rfl (acons (mix (hu_of hr) (mvar (i := 0) rfl (.inl rfl)) mint) (acons (mbin op_subM (mvar (i := 1) rfl (.inl rfl)) mint) anil))))))) snil) (sone (sret (mand (mor (mcall C_has_word (by omega) hr pass_def rfl (acons (mvar (i := 0) rfl (.inl rfl)) (acons mstr (acons mint anil)))) (mone (mcall C_has_word (by omega) hr pass_def rfl (acons (mvar (i := 0) rfl (.inl rfl)) (acons mstr (acons mint anil)))))) (mone (mcall C_is_term (by omega) hr pass_def rfl (acons (mix (hu_of hr) (mvar (i := 0) rfl (.inl rfl)) mint) (acons (mbin op_subM (mvar (i := 1) rfl (.inl rfl)) mint) anil))))))))))
theorem ok_is_statement {r : Nat → List D → Store → R D} {dd : Nat} (hlev : 2 ≤ dd) {f : Addr} {fd : FuncData} (F : Fun K "is_statement" "is_statement" s_is_statement f fd) (T : Txt K mg cA) (C_has_word : FnM P w K mg base cA 1 "has_word" 3 F_has_word) (C_is_name : FnM P w K mg base cA 1 "is_name" 1 F_is_name) (C_is_body : FnM P w K mg base cA dd "is_body" 3 (r 2)) (C_is_short : FnM P w K mg base cA dd "is_short" 3 (r 3)) (C_is_term : FnM P w K mg base cA dd "is_term" 2 (r 1)) : FnOk P w K mg base (L2.CX P w) (dd + 1) f fd ["thing", "left", "may_hand"] (spM K cA (bodyF N_is_statement.length (m_is_statement r)) 3) :=
  defM F sc_is_statement fun cdv A outer s H E hr => by
    unfold m_is_statement
    exact (scons (sif (mcmpT op_ltM (mvar (i := 1) rfl (.inr (.inl rfl))) mint (nomark _)) (sone (sret mbl)) snil) (scons (sif (mval (mcall C_has_word (by omega) hr pass_def rfl (acons (mvar (i := 0) rfl (.inl rfl)) (acons mstr (acons mint anil))))) (scons (sset (i := 3) sc_is_statement.nd rfl (.inl rfl) (malloc (mlst (acons (mix (hu_of hr) (mvar (i := 0) rfl (.inl rfl)) mint) (acons (mix (hu_of hr) (mvar (i := 0) rfl (.inl rfl)) mint) anil))))) (sone (sret (mand (mcall C_is_term (by omega) hr pass_def rfl (acons (mix (hu_of hr) (mvar (i := 0) rfl (.inl rfl)) mint) (acons (mbin op_subM (mvar (i := 1) rfl (.inr (.inl rfl))) mint) anil))) (mone (mcallN st_V (c_all rfl) rfl T.b_all bt_all (mcomp (t := .one 4) (own := [("body", 4)]) rfl rfl sc_is_statement.nd (isrc (mvar (i := 3) rfl (.inl rfl))) (blkOk_by (N := N_is_statement) (sc := defScope s_is_statement) (by decide +kernel)) (fun _ _ _ _ _ => pg_name (i := 4) sc_is_statement.nd rfl (Or.inl rfl)) (fun _ _ _ _ _ => tyes) (fun _ _ _ _ _ => (mcall C_is_body (by omega) hr passL rfl (acons (mvar (i := 4) rfl (.inl rfl)) (acons (mbin op_subM (mvar (i := 1) rfl (by first | exact .inr (.inr rfl) | exact .inr (.inl rfl) | exact .inl rfl)) mint) (acons (mvar (i := 2) rfl (by first | exact .inr (.inr rfl) | exact .inr (.inl rfl) | exact .inl rfl)) anil)))))))))))) snil) (scons (sif (mval (mcall C_has_word (by omega) hr pass_def rfl (acons (mvar (i := 0) rfl (.inl rfl)) (acons mstr (acons mint anil))))) (sone (sret (mand (mcall C_is_term (by omega) hr pass_def rfl (acons (mix (hu_of hr) (mvar (i := 0) rfl (.inl rfl)) mint) (acons (mbin op_subM (mvar (i := 1) rfl (.inr (.inl rfl))) mint) anil))) (mone (mcall C_is_body (by omega) hr pass_def rfl (acons (mix (hu_of hr) (mvar (i := 0) rfl (.inl rfl)) mint) (acons (mbin op_subM (mvar (i := 1) rfl (.inr (.inl rfl))) mint) (acons (mvar (i := 2) rfl (.inr (.inl rfl))) anil)))))))) snil) (scons (sif (mval (mcall C_has_word (by omega) hr pass_def rfl (acons (mvar (i := 0) rfl (.inl rfl)) (acons mstr (acons mint anil))))) (scons (sset (i := 3) sc_is_statement.nd rfl (.inl rfl) (malloc (mlst (acons (mix (hu_of hr) (mvar (i := 0) rfl (.inl rfl)) mint) (acons (mix (hu_of hr) (mvar (i := 0) rfl (.inl rfl)) mint) (acons (mix (hu_of hr) (mvar (i := 0) rfl (.inl rfl)) mint) anil)))))) (sone (sret (mand (mcall C_is_name (by omega) hr pass_def rfl (acons (mix (hu_of hr) (mvar (i := 0) rfl (.inl rfl)) mint) anil)) (mand (mcall C_is_name (by omega) hr pass_def rfl (acons (mix (hu_of hr) (mvar (i := 0) rfl (.inl rfl)) mint) anil)) (mone (mcallN st_V (c_all rfl) rfl T.b_all bt_all (mcomp (t := .one 4) (own := [("body", 4)]) rfl rfl sc_is_statement.nd (isrc (mvar (i := 3) rfl (.inl rfl))) (blkOk_by (N := N_is_statement) (sc := defScope s_is_statement) (by decide +kernel)) (fun _ _ _ _ _ => pg_name (i := 4) sc_is_statement.nd rfl (Or.inl rfl)) (fun _ _ _ _ _ => tyes) (fun _ _ _ _ _ => (mcall C_is_body (by omega) hr passL rfl (acons (mvar (i := 4) rfl (.inl rfl)) (acons (mbin op_subM (mvar (i := 1) rfl (by first | exact .inr (.inr rfl) | exact .inr (.inl rfl) | exact .inl rfl)) mint) (acons (mvar (i := 2) rfl (by first | exact .inr (.inr rfl) | exact .inr (.inl rfl) | exact .inl rfl)) anil))))))))))))) snil) (sone (sret (mcall C_is_short (by omega) hr pass_def rfl (acons (mvar (i := 0) rfl (.inl rfl)) (acons (mvar (i := 1) rfl (.inr (.inl rfl))) (acons (mvar (i := 2) rfl (.inr (.inl rfl))) anil))))))))))
theorem rec_is_function {f_is_function : Addr} {fd_is_function : FuncData} (F_is_function : Fun K "is_function" "is_function" s_is_function f_is_function fd_is_function) (g_is_function : mg "is_function" = some (.ref f_is_function)) (B_is_function : Binds K fd_is_function ["thing", "left"] []) {f_is_term : Addr} {fd_is_term : FuncData} (F_is_term : Fun K "is_term" "is_term" s_is_term f_is_term fd_is_term) (g_is_term : mg "is_term" = some (.ref f_is_term)) (B_is_term : Binds K fd_is_term ["thing", "left"] []) {f_is_body : Addr} {fd_is_body : FuncData} (F_is_body : Fun K "is_body" "is_body" s_is_body f_is_body fd_is_body) (g_is_body : mg "is_body" = some (.ref f_is_body)) (B_is_body : Binds K fd_is_body ["thing", "left", "may_hand"] []) {f_is_short : Addr} {fd_is_short : FuncData} (F_is_short : Fun K "is_short" "is_short" s_is_short f_is_short fd_is_short) (g_is_short : mg "is_short" = some (.ref f_is_short)) (B_is_short : Binds K fd_is_short ["thing", "left", "may_hand"] []) {f_is_statement : Addr} {fd_is_statement : FuncData} (F_is_statement : Fun K "is_statement" "is_statement" s_is_statement f_is_statement fd_is_statement) (g_is_statement : mg "is_statement" = some (.ref f_is_statement)) (B_is_statement : Binds K fd_is_statement ["thing", "left", "may_hand"] []) (T : Txt K mg cA) (C_has_word : FnM P w K mg base cA 1 "has_word" 3 F_has_word) (C_is_name : FnM P w K mg base cA 1 "is_name" 1 F_is_name) (C_is_names : FnM P w K mg base cA 2 "is_names" 1 F_is_names) (C_is_simple : FnM P w K mg base cA 2 "is_simple" 1 F_is_simple) : ∀ n : Nat, FnM P w K mg base cA (2 + n) "is_function" 2 (G_is_function n 0) ∧ FnM P w K mg base cA (2 + n) "is_term" 2 (G_is_function n 1) ∧ FnM P w K mg base cA (2 + n) "is_body" 3 (G_is_function n 2) ∧ FnM P w K mg base cA (2 + n) "is_short" 3 (G_is_function n 3) ∧ FnM P w K mg base cA (2 + n) "is_statement" 3 (G_is_function n 4)
  | 0 => ⟨⟨⟨f_is_function, fd_is_function, _, g_is_function, F_is_function.kp, B_is_function, ok_bad rfl⟩⟩, ⟨⟨f_is_term, fd_is_term, _, g_is_term, F_is_term.kp, B_is_term, ok_bad rfl⟩⟩, ⟨⟨f_is_body, fd_is_body, _, g_is_body, F_is_body.kp, B_is_body, ok_bad rfl⟩⟩, ⟨⟨f_is_short, fd_is_short, _, g_is_short, F_is_short.kp, B_is_short, ok_bad rfl⟩⟩, ⟨⟨f_is_statement, fd_is_statement, _, g_is_statement, F_is_statement.kp, B_is_statement, ok_bad rfl⟩⟩⟩
  | n + 1 => by
    have ih := rec_is_function F_is_function g_is_function B_is_function F_is_term g_is_term B_is_term F_is_body g_is_body B_is_body F_is_short g_is_short B_is_short F_is_statement g_is_statement B_is_statement T C_has_word C_is_name C_is_names C_is_simple n
    obtain ⟨C_is_function, C_is_term, C_is_body, C_is_short, C_is_statement⟩ := ih
    exact ⟨.mk' F_is_function g_is_function B_is_function (ok_is_function (r := G_is_function n) (Nat.le_add_right 2 n) F_is_function T (C_has_word := C_has_word) (C_is_body := C_is_body) (C_is_names := C_is_names)), .mk' F_is_term g_is_term B_is_term (ok_is_term (r := G_is_function n) (Nat.le_add_right 2 n) F_is_term T (C_has_word := C_has_word) (C_is_function := C_is_function) (C_is_simple := C_is_simple) (C_is_term := C_is_term)), .mk' F_is_body g_is_body B_is_body (ok_is_body (r := G_is_function n) (Nat.le_add_right 2 n) F_is_body T (C_is_statement := C_is_statement)), .mk' F_is_short g_is_short B_is_short (ok_is_short (r := G_is_function n) (Nat.le_add_right 2 n) F_is_short T (C_has_word := C_has_word) (C_is_name := C_is_name) (C_is_term := C_is_term)), .mk' F_is_statement g_is_statement B_is_statement (ok_is_statement (r := G_is_function n) (Nat.le_add_right 2 n) F_is_statement T (C_has_word := C_has_word) (C_is_body := C_is_body) (C_is_name := C_is_name) (C_is_short := C_is_short) (C_is_term := C_is_term))⟩
theorem ok_size_of {r : Nat → List D → Store → R D} {dd : Nat} (hlev : 1 ≤ dd) {f : Addr} {fd : FuncData} (F : Fun K "size_of" "size_of" s_size_of f fd) (T : Txt K mg cA) (C_inner_of : FnM P w K mg base cA 1 "inner_of" 1 F_inner_of) (C_size_of : FnM P w K mg base cA dd "size_of" 1 (r 0)) : FnOk P w K mg base (L2.CX P w) (dd + 1) f fd ["part"] (spM K cA (bodyF N_size_of.length (m_size_of r)) 1) :=
  defM F sc_size_of fun cdv A outer s H E hr => by
    unfold m_size_of
    exact (sone (sret (mbin op_addM mint (mcallN st_V (c_sum rfl) rfl T.b_sum bt_sum (mcomp (t := .one 1) (own := [("inner", 1)]) rfl rfl sc_size_of.nd (isrc (mcall C_inner_of (by omega) hr pass_def rfl (acons (mvar (i := 0) rfl (.inl rfl)) anil))) (blkOk_by (N := N_size_of) (sc := defScope s_size_of) (by decide +kernel)) (fun _ _ _ _ _ => pg_name (i := 1) sc_size_of.nd rfl (Or.inl rfl)) (fun _ _ _ _ _ => tyes) (fun _ _ _ _ _ => (mcall C_size_of (by omega) hr passL rfl (acons (mvar (i := 1) rfl (.inl rfl)) anil))))))))
theorem rec_size_of {f_size_of : Addr} {fd_size_of : FuncData} (F_size_of : Fun K "size_of" "size_of" s_size_of f_size_of fd_size_of) (g_size_of : mg "size_of" = some (.ref f_size_of)) (B_size_of : Binds K fd_size_of ["part"] []) (T : Txt K mg cA) (C_inner_of : FnM P w K mg base cA 1 "inner_of" 1 F_inner_of) : ∀ n : Nat, FnM P w K mg base cA (1 + n) "size_of" 1 (G_size_of n 0)
  | 0 => ⟨⟨f_size_of, fd_size_of, _, g_size_of, F_size_of.kp, B_size_of, ok_bad rfl⟩⟩
  | n + 1 => by
    have ih := rec_size_of F_size_of g_size_of B_size_of T C_inner_of n
    have C_size_of := ih
    exact .mk' F_size_of g_size_of B_size_of (ok_size_of (r := G_size_of n) (Nat.le_add_right 1 n) F_size_of T (C_inner_of := C_inner_of) (C_size_of := C_size_of))
theorem ok_is_program {f : Addr} {fd : FuncData} (F : Fun K "is_program" "is_program" s_is_program f fd) (T : Txt K mg cA) (C_has_word : FnM P w K mg base cA 1 "has_word" 3 F_has_word) (C_is_body : FnM P w K mg base cA 62 "is_body" 3 F_is_body) (C_is_names : FnM P w K mg base cA 2 "is_names" 1 F_is_names) (C_size_of : FnM P w K mg base cA 61 "size_of" 1 F_size_of) : FnOk P w K mg base (L2.CX P w) 63 f fd ["thing"] (spM K cA F_is_program 1) :=
  defM F sc_is_program fun cdv A outer s H E hr => by
    unfold m_is_program
    exact (scons (sif (PW.pt (morT (mnotT (mval (mcall C_has_word (by decide) hr pass_def rfl (acons (mvar (i := 0) rfl (.inl rfl)) (acons mstr (acons mint anil)))))) (morT (mnotT (mval (mcall C_is_names (by decide) hr pass_def rfl (acons (mix (hu_of hr) (mvar (i := 0) rfl (.inl rfl)) mint) anil)))) (mor1 (mnotT (mval (mcall C_is_body (by decide) hr pass_def rfl (acons (mix (hu_of hr) (mvar (i := 0) rfl (.inl rfl)) mint) (acons (mbin op_subM (mgint rfl T.g_MOST_DEPTH) mint) (acons mbl anil)))))))))) (sone (sret mbl)) snil) (sone (sret (mcmp op_leM (mcall C_size_of (by decide) hr pass_def rfl (acons (mvar (i := 0) rfl (.inl rfl)) anil)) (mgint rfl T.g_MOST_PARTS) (nomark _)))))
theorem ok_need_program {f : Addr} {fd : FuncData} (F : Fun K "need_program" "need_program" s_need_program f fd) (T : Txt K mg cA) (C_is_program : FnM P w K mg base cA 63 "is_program" 1 F_is_program) : FnOk P w K mg base (L2.CX P w) 64 f fd ["thing"] (spM K cA F_need_program 1) :=
  defM F sc_need_program fun cdv A outer s H E hr => by
    unfold m_need_program
    exact (sone (sif (mnotT (mval (mcall C_is_program (by decide) hr pass_def rfl (acons (mvar (i := 0) rfl (.inl rfl)) anil)))) (sone (sraise (k := 1) T.e_BadTree (takes_of rfl rfl rfl rfl) rfl rfl)) snil))
theorem ok_functions_of {f : Addr} {fd : FuncData} (F : Fun K "functions_of" "functions_of" s_functions_of f fd) (T : Txt K mg cA) (C_gather : FnM P w K mg base cA 61 "gather" 3 F_gather) (C_need_program : FnM P w K mg base cA 64 "need_program" 1 F_need_program) : FnOk P w K mg base (L2.CX P w) 65 f fd ["program"] (spM K cA F_functions_of 1) :=
  defM F sc_functions_of fun cdv A outer s H E hr => by
    unfold m_functions_of
    exact (scons (sexpr (mcall C_need_program (by decide) hr pass_def rfl (acons (mvar (i := 0) rfl (.inl rfl)) anil))) (scons (sset (i := 1) sc_functions_of.nd rfl (.inl rfl) (malloc (mlst (acons (mtup (acons mstr (acons (mix (hu_of hr) (mvar (i := 0) rfl (.inl rfl)) mint) (acons (mix (hu_of hr) (mvar (i := 0) rfl (.inl rfl)) mint) (acons mnon anil))))) anil)))) (scons (sexpr (mcall C_gather (by decide) hr pass_def rfl (acons (mvar (i := 0) rfl (.inl rfl)) (acons mint (acons (mvar (i := 1) rfl (.inl rfl)) anil))))) (sone (sret (mvar (i := 1) rfl (.inl rfl)))))))
theorem ok_has_round {f : Addr} {fd : FuncData} (F : Fun K "has_round" "has_round" s_has_round f fd) (T : Txt K mg cA)  : FnOk P w K mg base (L2.CX P w) 1 f fd ["functions", "owns", "number", "name"] (spM K cA F_has_round 4) :=
  defM F sc_has_round fun cdv A outer s H E hr => by
    unfold m_has_round
    exact (scons (swhile FU own_def (mcmpT op_isNotM (mvar (i := 2) rfl (.inl rfl)) mnon (nomark _)) (scons (sif (mcmpT (op_inM (hu_of hr)) (mvar (i := 3) rfl (.inl rfl)) (mix (hu_of hr) (mvar (i := 1) rfl (.inl rfl)) (mvar (i := 2) rfl (.inl rfl))) rfl) (sone (sret mbl)) snil) (sone (sset (i := 2) sc_has_round.nd rfl (.inl rfl) (mix (hu_of hr) (mix (hu_of hr) (mvar (i := 0) rfl (.inl rfl)) (mvar (i := 2) rfl (.inl rfl))) mint))))) (sone (sret mbl)))
theorem ok_brought {r : Nat → List D → Store → R D} {dd : Nat} (hlev : 0 ≤ dd) {f : Addr} {fd : FuncData} (F : Fun K "brought" "brought" s_brought f fd) (T : Txt K mg cA) (C_brought : FnM P w K mg base cA dd "brought" 1 (r 0)) : FnOk P w K mg base (L2.CX P w) (dd + 1) f fd ["body"] (spM K cA (bodyF N_brought.length (m_brought r)) 1) :=
  defM F sc_brought fun cdv A outer s H E hr => by
    unfold m_brought
    exact (scons (sset (i := 1) sc_brought.nd rfl (.inl rfl) (malloc (mlst anil))) (scons (sfor own_def rfl (isrc (mvar (i := 0) rfl (.inl rfl))) (gname (i := 2) sc_brought.nd rfl (.inl rfl)) (sone (sif (mcmpT (op_eqM hr.units) (mix (hu_of hr) (mvar (i := 2) rfl (.inl rfl)) mint) mstr (nomark _)) (sone (sexpr (mlm PySem.F.slot_list_append PySem.F.type_list_append mt_appendM (mvar (i := 1) rfl (.inl rfl)) (acons (mix (hu_of hr) (mvar (i := 2) rfl (.inl rfl)) mint) anil)))) (sone (sif (mcmpT (op_eqM hr.units) (mix (hu_of hr) (mvar (i := 2) rfl (.inl rfl)) mint) mstr (nomark _)) (sone (sset (i := 1) sc_brought.nd rfl (.inl rfl) (mbin op_addM (mbin op_addM (mvar (i := 1) rfl (.inl rfl)) (mcall C_brought (by omega) hr pass_def rfl (acons (mix (hu_of hr) (mvar (i := 2) rfl (.inl rfl)) mint) anil))) (mcall C_brought (by omega) hr pass_def rfl (acons (mix (hu_of hr) (mvar (i := 2) rfl (.inl rfl)) mint) anil))))) (sone (sif (mcmpT (op_eqM hr.units) (mix (hu_of hr) (mvar (i := 2) rfl (.inl rfl)) mint) mstr (nomark _)) (sone (sset (i := 1) sc_brought.nd rfl (.inl rfl) (mbin op_addM (mvar (i := 1) rfl (.inl rfl)) (mcall C_brought (by omega) hr pass_def rfl (acons (mix (hu_of hr) (mvar (i := 2) rfl (.inl rfl)) mint) anil))))) (sone (sif (mcmpT (op_eqM hr.units) (mix (hu_of hr) (mvar (i := 2) rfl (.inl rfl)) mint) mstr (nomark _)) (sone (sset (i := 1) sc_brought.nd rfl (.inl rfl) (mbin op_addM (mbin op_addM (mbin op_addM (mbin op_addM (mvar (i := 1) rfl (.inl rfl)) (mcall C_brought (by omega) hr pass_def rfl (acons (mix (hu_of hr) (mvar (i := 2) rfl (.inl rfl)) mint) anil))) (malloc (mlst (acons (mix (hu_of hr) (mvar (i := 2) rfl (.inl rfl)) mint) anil)))) (mcall C_brought (by omega) hr pass_def rfl (acons (mix (hu_of hr) (mvar (i := 2) rfl (.inl rfl)) mint) anil))) (mcall C_brought (by omega) hr pass_def rfl (acons (mix (hu_of hr) (mvar (i := 2) rfl (.inl rfl)) mint) anil))))) snil))))))))) (sone (sret (mvar (i := 1) rfl (.inl rfl))))))
theorem rec_brought {f_brought : Addr} {fd_brought : FuncData} (F_brought : Fun K "brought" "brought" s_brought f_brought fd_brought) (g_brought : mg "brought" = some (.ref f_brought)) (B_brought : Binds K fd_brought ["body"] []) (T : Txt K mg cA)  : ∀ n : Nat, FnM P w K mg base cA (0 + n) "brought" 1 (G_brought n 0)
  | 0 => ⟨⟨f_brought, fd_brought, _, g_brought, F_brought.kp, B_brought, ok_bad rfl⟩⟩
  | n + 1 => by
    have ih := rec_brought F_brought g_brought B_brought T  n
    have C_brought := ih
    exact .mk' F_brought g_brought B_brought (ok_brought (r := G_brought n) (Nat.le_add_right 0 n) F_brought T (C_brought := C_brought))
theorem ok_own_names {f : Addr} {fd : FuncData} (F : Fun K "own_names" "own_names" s_own_names f fd) (T : Txt K mg cA) (C_brought : FnM P w K mg base cA 60 "brought" 1 F_brought) (X_BadName : RaM P w K mg base cA 1 "BadName" 3 ["name"]) : FnOk P w K mg base (L2.CX P w) 61 f fd ["functions", "number"] (spM K cA F_own_names 2) :=
  defM F sc_own_names fun cdv A outer s H E hr => by
    unfold m_own_names
    exact (scons (sset (i := 2) sc_own_names.nd rfl (.inl rfl) (malloc (mlst anil))) (scons (sfor own_def rfl (isrc (mbin op_addM (malloc (mtyV st_New (c_list rfl) rfl T.b_list bt_list (acons (mix (hu_of hr) (mix (hu_of hr) (mvar (i := 0) rfl (.inl rfl)) (mvar (i := 1) rfl (.inl rfl))) mint) anil))) (mcall C_brought (by decide) hr pass_def rfl (acons (mix (hu_of hr) (mix (hu_of hr) (mvar (i := 0) rfl (.inl rfl)) (mvar (i := 1) rfl (.inl rfl))) mint) anil)))) (gname (i := 3) sc_own_names.nd rfl (.inl rfl)) (scons (sif (mcmpT (op_inM (hu_of hr)) (mvar (i := 3) rfl (.inl rfl)) (mvar (i := 2) rfl (.inl rfl)) rfl) (sone (sraiseF X_BadName (by decide) hr (takes_of rfl rfl rfl rfl) rfl rfl (acons (mvar (i := 3) rfl (.inl rfl)) anil))) snil) (sone (sexpr (mlm PySem.F.slot_list_append PySem.F.type_list_append mt_appendM (mvar (i := 2) rfl (.inl rfl)) (acons (mvar (i := 3) rfl (.inl rfl)) anil)))))) (sone (sret (mvar (i := 2) rfl (.inl rfl))))))
theorem ok_used_in {r : Nat → List D → Store → R D} {dd : Nat} (hlev : 1 ≤ dd) {f : Addr} {fd : FuncData} (F : Fun K "used_in" "used_in" s_used_in f fd) (T : Txt K mg cA) (C_inner_of : FnM P w K mg base cA 1 "inner_of" 1 F_inner_of) (C_used_in : FnM P w K mg base cA dd "used_in" 1 (r 0)) : FnOk P w K mg base (L2.CX P w) (dd + 1) f fd ["part"] (spM K cA (bodyF N_used_in.length (m_used_in r)) 1) :=
  defM F sc_used_in fun cdv A outer s H E hr => by
    unfold m_used_in
    exact (scons (sif (mcmpT (op_inM (hu_of hr)) (mix (hu_of hr) (mvar (i := 0) rfl (.inl rfl)) mint) (mtup (acons mstr (acons mstr anil))) rfl) (sone (sret (malloc (mlst anil)))) snil) (scons (sset (i := 1) sc_used_in.nd rfl (.inl rfl) (malloc (mlst anil))) (scons (sif (mcmpT (op_inM (hu_of hr)) (mix (hu_of hr) (mvar (i := 0) rfl (.inl rfl)) mint) (mtup (acons mstr (acons mstr anil))) rfl) (sone (sexpr (mlm PySem.F.slot_list_append PySem.F.type_list_append mt_appendM (mvar (i := 1) rfl (.inl rfl)) (acons (mix (hu_of hr) (mvar (i := 0) rfl (.inl rfl)) mint) anil)))) snil) (scons (sfor own_def rfl (isrc (mcall C_inner_of (by omega) hr pass_def rfl (acons (mvar (i := 0) rfl (.inl rfl)) anil))) (gname (i := 2) sc_used_in.nd rfl (.inl rfl)) (sone (sset (i := 1) sc_used_in.nd rfl (.inl rfl) (mbin op_addM (mvar (i := 1) rfl (.inl rfl)) (mcall C_used_in (by omega) hr pass_def rfl (acons (mvar (i := 2) rfl (.inl rfl)) anil)))))) (sone (sret (mvar (i := 1) rfl (.inl rfl))))))))
theorem rec_used_in {f_used_in : Addr} {fd_used_in : FuncData} (F_used_in : Fun K "used_in" "used_in" s_used_in f_used_in fd_used_in) (g_used_in : mg "used_in" = some (.ref f_used_in)) (B_used_in : Binds K fd_used_in ["part"] []) (T : Txt K mg cA) (C_inner_of : FnM P w K mg base cA 1 "inner_of" 1 F_inner_of) : ∀ n : Nat, FnM P w K mg base cA (1 + n) "used_in" 1 (G_used_in n 0)
  | 0 => ⟨⟨f_used_in, fd_used_in, _, g_used_in, F_used_in.kp, B_used_in, ok_bad rfl⟩⟩
  | n + 1 => by
    have ih := rec_used_in F_used_in g_used_in B_used_in T C_inner_of n
    have C_used_in := ih
    exact .mk' F_used_in g_used_in B_used_in (ok_used_in (r := G_used_in n) (Nat.le_add_right 1 n) F_used_in T (C_inner_of := C_inner_of) (C_used_in := C_used_in))
theorem ok_used {f : Addr} {fd : FuncData} (F : Fun K "used" "used" s_used f fd) (T : Txt K mg cA) (C_used_in : FnM P w K mg base cA 61 "used_in" 1 F_used_in) : FnOk P w K mg base (L2.CX P w) 62 f fd ["body"] (spM K cA F_used 1) :=
  defM F sc_used fun cdv A outer s H E hr => by
    unfold m_used
    exact (scons (sset (i := 1) sc_used.nd rfl (.inl rfl) (malloc (mlst anil))) (scons (sfor own_def rfl (isrc (mvar (i := 0) rfl (.inl rfl))) (gname (i := 2) sc_used.nd rfl (.inl rfl)) (sone (sset (i := 1) sc_used.nd rfl (.inl rfl) (mbin op_addM (mvar (i := 1) rfl (.inl rfl)) (mcall C_used_in (by decide) hr pass_def rfl (acons (mvar (i := 2) rfl (.inl rfl)) anil)))))) (sone (sret (mvar (i := 1) rfl (.inl rfl))))))
theorem ok_scopes_of {f : Addr} {fd : FuncData} (F : Fun K "scopes_of" "scopes_of" s_scopes_of f fd) (T : Txt K mg cA) (C_functions_of : FnM P w K mg base cA 65 "functions_of" 1 F_functions_of) (C_has_round : FnM P w K mg base cA 1 "has_round" 4 F_has_round) (C_own_names : FnM P w K mg base cA 61 "own_names" 2 F_own_names) (C_used : FnM P w K mg base cA 62 "used" 1 F_used) (X_BadName : RaM P w K mg base cA 1 "BadName" 3 ["name"]) : FnOk P w K mg base (L2.CX P w) 66 f fd ["program"] (spM K cA F_scopes_of 1) :=
  defM F sc_scopes_of fun cdv A outer s H E hr => by
    unfold m_scopes_of
    exact (scons (sset (i := 1) sc_scopes_of.nd rfl (.inr rfl) (mcall C_functions_of (by decide) hr pass_def rfl (acons (mvar (i := 0) rfl (.inl rfl)) anil))) (scons (sset (i := 2) sc_scopes_of.nd rfl (.inr rfl) (malloc (mlst anil))) (scons (sfor own_def rfl (isrcE rfl T.b_enumerate (acons (mvar (i := 1) rfl (.inr (.inl rfl))) anil)) (gnames rfl (pgs_cons (pg_name (i := 3) sc_scopes_of.nd rfl (.inr rfl)) (pgs_cons (pg_name (i := 4) sc_scopes_of.nd rfl (.inl rfl)) pgs_nil))) (scons (sexpr (mlm PySem.F.slot_list_append PySem.F.type_list_append mt_appendM (mvar (i := 2) rfl (.inr (.inl rfl))) (acons (mcall C_own_names (by decide) hr pass_def rfl (acons (mvar (i := 1) rfl (.inr (.inl rfl))) (acons (mvar (i := 3) rfl (.inr (.inl rfl))) anil))) anil))) (sone (sfor own_def rfl (isrc (mcall C_used (by decide) hr pass_def rfl (acons (mix (hu_of hr) (mvar (i := 4) rfl (.inl rfl)) mint) anil))) (gname (i := 5) sc_scopes_of.nd rfl (.inl rfl)) (sone (sif (mnotT (mval (mcall C_has_round (by decide) hr pass_def rfl (acons (mvar (i := 1) rfl (.inr (.inl rfl))) (acons (mvar (i := 2) rfl (.inr (.inl rfl))) (acons (mvar (i := 3) rfl (.inr (.inl rfl))) (acons (mvar (i := 5) rfl (.inl rfl)) anil))))))) (sone (sraiseF X_BadName (by decide) hr (takes_of rfl rfl rfl rfl) rfl rfl (acons (mvar (i := 5) rfl (.inl rfl)) anil))) snil)))))) (scons (ssetC (i := 6) (t := .one 4) (own := [("function", 4)]) rfl rfl sc_scopes_of.nd rfl rfl (sw_true rfl rfl rfl (by decide +kernel)) (isrc (mvar (i := 1) rfl (.inr (.inl rfl)))) (blkOk_by (N := N_scopes_of) (sc := defScope s_scopes_of) (by decide +kernel)) (fun _ _ _ _ _ => pg_name (i := 4) sc_scopes_of.nd rfl (Or.inl rfl)) (fun _ _ _ _ _ => tyes) (fun _ _ _ _ _ => (mtyN st_V (c_pairs rfl) rfl T.b_dict bt_dict (mcomp (t := .one 5) (own := [("name", 5)]) rfl rfl sc_scopes_of.nd (isrc (mcall C_used (by decide) hr passL rfl (acons (mix (hu_of hr) (mvar (i := 4) rfl (.inl rfl)) mint) anil))) (blkOk_by (N := N_scopes_of) (by kernel_rfl)) (fun _ _ _ _ _ => pg_name (i := 5) sc_scopes_of.nd rfl (Or.inl rfl)) (fun _ _ _ _ _ => tyes) (fun _ _ _ _ _ => (mtup (acons (mvar (i := 5) rfl (.inl rfl)) (acons mbl anil)))))))) (scons (sfor own_def rfl (isrcRR rfl T.b_reversed rfl T.b_range mint (mcallV st_V c_lenV rfl T.b_len bt_len (acons (mvar (i := 1) rfl (.inr (.inl rfl))) anil))) (gname (i := 3) sc_scopes_of.nd rfl (.inr rfl)) (sone (slock (sfor own_def rfl (isrcK (mix (hu_of hr) (mvar (i := 6) rfl (.inl rfl)) (mvar (i := 3) rfl (.inr (.inl rfl))))) (gname (i := 5) sc_scopes_of.nd rfl (.inl rfl)) (sone (sif (mcmpT (op_notInM (hu_of hr)) (mvar (i := 5) rfl (.inl rfl)) (mix (hu_of hr) (mvar (i := 2) rfl (.inr (.inl rfl))) (mvar (i := 3) rfl (.inr (.inl rfl)))) rfl) (sone (sasg mbl (gsub (hu_of hr) (mix (hu_of hr) (mvar (i := 6) rfl (.inl rfl)) (mix (hu_of hr) (mix (hu_of hr) (mvar (i := 1) rfl (.inr (.inl rfl))) (mvar (i := 3) rfl (.inr (.inl rfl)))) mint)) (mvar (i := 5) rfl (.inl rfl))))) snil)))))) (scons (sset (i := 7) sc_scopes_of.nd rfl (.inr rfl) (malloc (mlst anil))) (scons (sfor own_def rfl (irng1 rfl T.b_range (acons (mcallV st_V c_lenV rfl T.b_len bt_len (acons (mvar (i := 1) rfl (.inr (.inl rfl))) anil)) anil)) (gname (i := 3) sc_scopes_of.nd rfl (.inr rfl)) (sone (sexpr (mlm PySem.F.slot_list_append PySem.F.type_list_append mt_appendM (mvar (i := 7) rfl (.inr (.inl rfl))) (acons (elock (malloc (mcallN st_New c_sortS rfl T.b_sorted bt_sorted (mcomp (t := .one 5) (own := [("name", 5)]) rfl rfl sc_scopes_of.nd (isrcK (mix (hu_of hr) (mvar (i := 6) rfl (.inl rfl)) (mvar (i := 3) rfl (.inr (.inl rfl))))) (blkOk_by (N := N_scopes_of) (sc := defScope s_scopes_of) (by decide +kernel)) (fun _ _ _ _ _ => pg_name (i := 5) sc_scopes_of.nd rfl (Or.inl rfl)) (fun _ _ _ _ _ => (tone (mcmpT (op_notInM (hu_of hr)) (mvar (i := 5) rfl (.inl rfl)) (mix (hu_of hr) (mvar (i := 2) rfl (by first | exact .inr (.inr rfl) | exact .inr (.inl rfl) | exact .inl rfl)) (mvar (i := 3) rfl (by first | exact .inr (.inr rfl) | exact .inr (.inl rfl) | exact .inl rfl))) rfl))) (fun _ _ _ _ _ => (mvar (i := 5) rfl (.inl rfl))))))) anil))))) (scons (sset (i := 8) sc_scopes_of.nd rfl (.inl rfl) (malloc (mlst anil))) (scons (sfor own_def rfl (isrcE rfl T.b_enumerate (acons (mvar (i := 1) rfl (.inr (.inl rfl))) anil)) (gnames rfl (pgs_cons (pg_name (i := 3) sc_scopes_of.nd rfl (.inr rfl)) (pgs_cons (pg_name (i := 4) sc_scopes_of.nd rfl (.inl rfl)) pgs_nil))) (scons (sset (i := 9) sc_scopes_of.nd rfl (.inr rfl) (malloc (mcomp (t := .one 11) (own := [("k", 11)]) rfl rfl sc_scopes_of.nd (irng1 rfl T.b_range (acons (mcallV st_V c_lenV rfl T.b_len bt_len (acons (mvar (i := 1) rfl (.inr (.inl rfl))) anil)) anil)) (blkOk_by (N := N_scopes_of) (sc := defScope s_scopes_of) (by decide +kernel)) (fun _ _ _ _ _ => pg_name (i := 11) sc_scopes_of.nd rfl (Or.inl rfl)) (fun _ _ _ _ _ => (tone (mcmpT (op_eqM hr.units) (mix (hu_of hr) (mix (hu_of hr) (mvar (i := 1) rfl (by first | exact .inr (.inr rfl) | exact .inr (.inl rfl) | exact .inl rfl)) (mvar (i := 11) rfl (.inl rfl))) mint) (mvar (i := 3) rfl (by first | exact .inr (.inr rfl) | exact .inr (.inl rfl) | exact .inl rfl)) (nomark _)))) (fun _ _ _ _ _ => (mix (hu_of hr) (mvar (i := 7) rfl (by first | exact .inr (.inr rfl) | exact .inr (.inl rfl) | exact .inl rfl)) (mvar (i := 11) rfl (.inl rfl))))))) (scons (ssetC (i := 10) (t := .many [12, 5]) (own := [("place", 12), ("name", 5)]) rfl rfl sc_scopes_of.nd rfl rfl (sw_true rfl rfl rfl (by decide +kernel)) (isrcE rfl T.b_enumerate (acons (mix (hu_of hr) (mvar (i := 2) rfl (.inr (.inl rfl))) (mvar (i := 3) rfl (.inr (.inl rfl)))) anil)) (blkOk_by (N := N_scopes_of) (sc := defScope s_scopes_of) (by decide +kernel)) (fun _ _ _ _ _ => pg_tup rfl (pgs_cons (pg_name (i := 12) sc_scopes_of.nd rfl (Or.inl rfl)) (pgs_cons (pg_name (i := 5) sc_scopes_of.nd rfl (Or.inr rfl)) (pgs_nil)))) (fun _ _ _ _ _ => (tone (mval (mcallN st_V (c_any rfl) rfl T.b_any bt_any (mcomp (t := .one 13) (own := [("some", 13)]) rfl rfl sc_scopes_of.nd (isrc (mvar (i := 9) rfl (by first | exact .inr (.inr rfl) | exact .inr (.inl rfl) | exact .inl rfl))) (blkOk_by (N := N_scopes_of) (by kernel_rfl)) (fun _ _ _ _ _ => pg_name (i := 13) sc_scopes_of.nd rfl (Or.inl rfl)) (fun _ _ _ _ _ => tyes) (fun _ _ _ _ _ => (mcmp (op_inM (hu_of hr)) (mvar (i := 5) rfl (by first | exact .inr (.inr rfl) | exact .inr (.inl rfl) | exact .inl rfl)) (mvar (i := 13) rfl (.inl rfl)) rfl))))))) (fun _ _ _ _ _ => (mvar (i := 12) rfl (.inl rfl)))) (sone (sexpr (mlm PySem.F.slot_list_append PySem.F.type_list_append mt_appendM (mvar (i := 8) rfl (.inl rfl)) (acons (mtup (acons (mix (hu_of hr) (mvar (i := 4) rfl (.inl rfl)) mint) (acons (mtyV st_V c_tupV rfl T.b_tuple bt_tuple (acons (mix (hu_of hr) (mvar (i := 2) rfl (.inr (.inl rfl))) (mvar (i := 3) rfl (.inr (.inl rfl)))) anil)) (acons (mtyV st_V c_tupV rfl T.b_tuple bt_tuple (acons (mvar (i := 10) rfl (.inl rfl)) anil)) (acons (mtyV st_V c_tupV rfl T.b_tuple bt_tuple (acons (mix (hu_of hr) (mvar (i := 7) rfl (.inr (.inl rfl))) (mvar (i := 3) rfl (.inr (.inl rfl)))) anil)) anil))))) anil))))))) (sone (sret (mvar (i := 8) rfl (.inl rfl)))))))))))))
theorem ok__law_said {f : Addr} {fd : FuncData} (F : Fun K "_law_said" "_law_said" s__law_said f fd) (T : Txt K mg cA) (C_scopes_of : FnM P w K mg base cA 66 "scopes_of" 1 F_scopes_of) : FnOk P w K mg base (L2.CX P w) 67 f fd ["_law_program_here"] (spM K cA F__law_said 1) :=
  defM F sc__law_said fun cdv A outer s H E hr => by
    unfold m__law_said
    exact (sone (stryF (i := 1) T.h_LoomError sc__law_said.nd rfl ⟨rfl, by decide, .inl T.n_LoomError⟩ (takes_of rfl rfl rfl rfl) (fun W1 pn xe tk hp => (xone (xret (xtup (xacons (xof (fun _ => mstr)) (xacons (xcallV (fun _ => c_lenV) rfl T.b_len bt_len (xacons (xcall C_scopes_of (by decide) hr tk rfl (fun _ => (acons (mvar (i := 0) rfl (.inl rfl)) anil))) xanil)) xanil)))))) (fun a oe pn z d hz hf => (scons (sset (i := 2) sc__law_said.nd rfl (.inl rfl) (mor (misFt (n := (.own 1)) (ns := [(.own 2), (.own 4)]) T.isf hz hf (mvar (i := 1) rfl (.inl rfl)) (vcons (cown (j := 1) T.n_BadTree rfl) (vcons (cown (j := 2) T.n_BadText rfl) (vcons (cown (j := 4) T.n_BadCount rfl) vnil))) (by decide) rfl T.b_isinstance) (mone (misFt (n := (.own 5)) (ns := [(.own 6)]) T.isf hz hf (mvar (i := 1) rfl (.inl rfl)) (vcons (cown (j := 5) T.n_BadCode rfl) (vcons (cown (j := 6) T.n_NoThing rfl) vnil)) (by decide) rfl T.b_isinstance)))) (scons (sif (PW.pt (morT (mval (mvar (i := 2) rfl (.inl rfl))) (morT (mnotT (mval (misF T.isf hz hf (mvar (i := 1) rfl (.inl rfl)) (cown (j := 3) T.n_BadName rfl) rfl T.b_isinstance))) (mor1 (mnotT (mval (misF T.isf hz hf (mvar (i := 1) rfl (.inl rfl)) (cty (n := "ValueError") T.b_ValueError (by decide +kernel) rfl) rfl T.b_isinstance))))))) (sone (sret (mtup (acons mstr (acons mnon anil))))) snil) (sone (sret (mtup (acons mstr (acons (mxf T.xff hz hf (mvar (i := 1) rfl (.inl rfl))) anil))))))))))
theorem ok__law_holder {f : Addr} {fd : FuncData} (F : Fun K "_law_holder" "_law_holder" s__law_holder f fd) (T : Txt K mg cA)  : FnOk P w K mg base (L2.CX P w) 1 f fd ["_law_rows", "_law_number_here", "_law_name"] (spM K cA F__law_holder 3) :=
  defM F sc__law_holder fun cdv A outer s H E hr => by
    unfold m__law_holder
    exact (scons (swhile FU own_def (PW.pt (mandT (mcmpT op_isNotM (mvar (i := 1) rfl (.inl rfl)) mnon (nomark _)) (mand1 (mcmpT (op_notInM (hu_of hr)) (mvar (i := 2) rfl (.inl rfl)) (mix (hu_of hr) (mix (hu_of hr) (mvar (i := 0) rfl (.inl rfl)) (mvar (i := 1) rfl (.inl rfl))) mint) rfl)))) (sone (sset (i := 1) sc__law_holder.nd rfl (.inl rfl) (mix (hu_of hr) (mix (hu_of hr) (mvar (i := 0) rfl (.inl rfl)) (mvar (i := 1) rfl (.inl rfl))) mint)))) (sone (sret (mvar (i := 1) rfl (.inl rfl)))))
theorem ok__law_wrong_name {f : Addr} {fd : FuncData} (F : Fun K "_law_wrong_name" "_law_wrong_name" s__law_wrong_name f fd) (T : Txt K mg cA) (C__law_holder : FnM P w K mg base cA 1 "_law_holder" 3 F__law_holder) : FnOk P w K mg base (L2.CX P w) 2 f fd ["_law_rows"] (spM K cA F__law_wrong_name 1) :=
  defM F sc__law_wrong_name fun cdv A outer s H E hr => by
    unfold m__law_wrong_name
    exact (scons (sfor own_def rfl (irng1 rfl T.b_range (acons (mcallV st_V c_lenV rfl T.b_len bt_len (acons (mvar (i := 0) rfl (.inr (.inl rfl))) anil)) anil)) (gname (i := 1) sc__law_wrong_name.nd rfl (.inr rfl)) (scons (sset (i := 2) sc__law_wrong_name.nd rfl (.inr rfl) (mix (hu_of hr) (mix (hu_of hr) (mvar (i := 0) rfl (.inr (.inl rfl))) (mvar (i := 1) rfl (.inr (.inl rfl)))) mint)) (scons (ssetC (i := 3) (t := .one 5) (own := [("_law_k", 5)]) rfl rfl sc__law_wrong_name.nd rfl rfl (sw_true rfl rfl rfl (by decide +kernel)) (irng1 rfl T.b_range (acons (mcallV st_V c_lenV rfl T.b_len bt_len (acons (mvar (i := 2) rfl (.inr (.inl rfl))) anil)) anil)) (blkOk_by (N := N__law_wrong_name) (sc := defScope s__law_wrong_name) (by decide +kernel)) (fun _ _ _ _ _ => pg_name (i := 5) sc__law_wrong_name.nd rfl (Or.inl rfl)) (fun _ _ _ _ _ => (tone (mcmpT (op_inM (hu_of hr)) (mix (hu_of hr) (mvar (i := 2) rfl (by first | exact .inr (.inr rfl) | exact .inr (.inl rfl) | exact .inl rfl)) (mvar (i := 5) rfl (.inl rfl))) (mslice (mvar (i := 2) rfl (by first | exact .inr (.inr rfl) | exact .inr (.inl rfl) | exact .inl rfl)) ono (osome (mvar (i := 5) rfl (.inl rfl)))) rfl))) (fun _ _ _ _ _ => (mix (hu_of hr) (mvar (i := 2) rfl (by first | exact .inr (.inr rfl) | exact .inr (.inl rfl) | exact .inl rfl)) (mvar (i := 5) rfl (.inl rfl))))) (scons (ssetC (i := 4) (t := .one 6) (own := [("_law_name", 6)]) rfl rfl sc__law_wrong_name.nd rfl rfl (sw_true rfl rfl rfl (by decide +kernel)) (isrc (mix (hu_of hr) (mix (hu_of hr) (mvar (i := 0) rfl (.inr (.inl rfl))) (mvar (i := 1) rfl (.inr (.inl rfl)))) mint)) (blkOk_by (N := N__law_wrong_name) (sc := defScope s__law_wrong_name) (by decide +kernel)) (fun _ _ _ _ _ => pg_name (i := 6) sc__law_wrong_name.nd rfl (Or.inl rfl)) (fun _ _ _ _ _ => (tone (mcmpT op_isM (mcall C__law_holder (by decide) hr passL rfl (acons (mvar (i := 0) rfl (by first | exact .inr (.inr rfl) | exact .inr (.inl rfl) | exact .inl rfl)) (acons (mvar (i := 1) rfl (by first | exact .inr (.inr rfl) | exact .inr (.inl rfl) | exact .inl rfl)) (acons (mvar (i := 6) rfl (.inl rfl)) anil)))) mnon (nomark _)))) (fun _ _ _ _ _ => (mvar (i := 6) rfl (.inl rfl)))) (sone (sif (mcmpT (op_neM hr.units) (mbin op_addM (mvar (i := 3) rfl (.inl rfl)) (mvar (i := 4) rfl (.inl rfl))) (malloc (mlst anil)) (nomark _)) (sone (sret (mix (hu_of hr) (mbin op_addM (mvar (i := 3) rfl (.inl rfl)) (mvar (i := 4) rfl (.inl rfl))) mint))) snil)))))) (sone (sret mnon)))
theorem ok_law {f : Addr} {fd : FuncData} (F : Fun K "law" "law" s_law f fd) (T : Txt K mg cA) (C__law_all : FnM P w K mg base cA 122 "_law_all" 1 F__law_all) (C__law_cell_at : FnM P w K mg base cA 1 "_law_cell_at" 2 F__law_cell_at) (C__law_program : FnM P w K mg base cA 63 "_law_program" 2 F__law_program) (C__law_said : FnM P w K mg base cA 67 "_law_said" 1 F__law_said) (C__law_wrong_name : FnM P w K mg base cA 2 "_law_wrong_name" 1 F__law_wrong_name) : TopOk P w K mg base (L2.CX P w) 123 f fd ["_law_script"] (spM K cA F_law 1) :=
  defTop F sc_law fun cdv A outer s H E hgd hr => by
    unfold m_law
    exact (scons (sset (i := 1) sc_law.nd rfl (.inl rfl) (mix (hu_of hr) (malloc (mlst (acons mint (acons mint (acons mint (acons mint anil)))))) (mbin op_modM (mcall C__law_cell_at (by decide) hr pass_def rfl (acons (mvar (i := 0) rfl (.inl rfl)) (acons mint anil))) mint))) (scons (sset (i := 2) sc_law.nd rfl (.inl rfl) (mcall C__law_program (by decide) hr pass_def rfl (acons (mvar (i := 0) rfl (.inl rfl)) (acons (mvar (i := 1) rfl (.inl rfl)) anil)))) (scons (sset (i := 3) sc_law.nd rfl (.inl rfl) (mtyV st_V (c_strT hgd (u100 hr)) rfl T.b_str bt_str (acons (mvar (i := 2) rfl (.inl rfl)) anil))) (scons (sset (i := 4) sc_law.nd rfl (.inl rfl) (mcall C__law_all (by decide) hr pass_def rfl (acons (mvar (i := 2) rfl (.inl rfl)) anil))) (scons (sset (i := 5) sc_law.nd rfl (.inl rfl) (mcall C__law_wrong_name (by decide) hr pass_def rfl (acons (mvar (i := 4) rfl (.inl rfl)) anil))) (scons (sset (i := 6) sc_law.nd rfl (.inl rfl) (mif (mcmpT op_isM (mvar (i := 5) rfl (.inl rfl)) mnon (nomark _)) (mtup (acons mstr (acons (mcallV st_V c_lenV rfl T.b_len bt_len (acons (mvar (i := 4) rfl (.inl rfl)) anil)) anil))) (mtup (acons mstr (acons (mvar (i := 5) rfl (.inl rfl)) anil))))) (sone (sret (mand (mcmp (op_eqM hr.units) (mcall C__law_said (by decide) hr pass_def rfl (acons (mvar (i := 2) rfl (.inl rfl)) anil)) (mvar (i := 6) rfl (.inl rfl)) (nomark _)) (mand (mcmp (op_eqM hr.units) (mcall C__law_said (by decide) hr pass_def rfl (acons (mvar (i := 2) rfl (.inl rfl)) anil)) (mvar (i := 6) rfl (.inl rfl)) (nomark _)) (mone (mcmp (op_eqM hr.units) (mtyV st_V (c_strT hgd (u100 hr)) rfl T.b_str bt_str (acons (mvar (i := 2) rfl (.inl rfl)) anil)) (mvar (i := 3) rfl (.inl rfl)) (nomark _)))))))))))))
end
end K09

set_option Elab.async false
set_option linter.all false
set_option maxRecDepth 100000
set_option autoImplicit false
set_option maxHeartbeats 1000000
namespace K09
open PySem PySem.Spec L2 ML
variable {P : Str → Prop}
def InZ (zs : List Str) (z : Str) : Prop := z ∈ zs
/-! ### what a program is -/
def NmOk (z : Str) : Prop := 1 ≤ (cs z).length ∧ (cs z).length ≤ 8 ∧ ∀ c ∈ cs z, 97 ≤ c ∧ c ≤ 122
abbrev w (s : String) : D := .str (Str.ofString s)
def signs : List String := ["+", "-", "*", "<", "="]
def kw (k : Bool) : String := if k then "loop" else "fun"
mutual
/-- a term: at most n deep, of p parts -/
inductive Tm (P : Str → Prop) : Nat → Nat → D → Prop
  | num {n : Nat} (i : Int) : -1000000000000 ≤ i → i ≤ 1000000000000 → Tm P (n + 1) 1 (.tup [w "number", .int i])
  | nam {n : Nat} (z : Str) : NmOk z → P z → Tm P (n + 1) 1 (.tup [w "name", .str z])
  | two {n p q : Nat} {a b : D} (s : String) : s ∈ signs → Tm P n p a → Tm P n q b → Tm P (n + 1) (1 + p + q) (.tup [w "two", w s, a, b])
  | fn {n p : Nat} {bs : List D} (k : Bool) (ps : List Str) : ps.length ≤ 4 → (∀ z ∈ ps, NmOk z) → ps.Nodup → bs.length ≤ 12 → Bd P n k p bs → Tm P (n + 1) (1 + p) (.tup [w (kw k), .tup (ps.map .str), .tup bs])
  | call {n p q : Nat} {f : D} {as : List D} : Tm P n p f → as.length ≤ 4 → Ts P n q as → Tm P (n + 1) (1 + p + q) (.tup [w "call", f, .tup as])
  | step {n p q : Nat} {a b : D} : Tm P n p a → Tm P n q b → Tm P (n + 1) (1 + p + q) (.tup [w "step", a, b])
inductive Ts (P : Str → Prop) : Nat → Nat → List D → Prop
  | nil {n : Nat} : Ts P n 0 []
  | cons {n p q : Nat} {a : D} {as : List D} : Tm P n p a → Ts P n q as → Ts P n (p + q) (a :: as)
/-- a statement -/
inductive St (P : Str → Prop) : Nat → Bool → Nat → D → Prop
  | lets {n p : Nat} {h : Bool} {t : D} (b : Bool) (z : Str) : NmOk z → P z → Tm P n p t → St P (n + 1) h (1 + p) (.tup [w (if b then "set" else "let"), .str z, t])
  | fault {n p : Nat} {h : Bool} {t : D} (z : Str) : NmOk z → z ≠ Str.ofString "any" → Tm P n p t → St P (n + 1) h (1 + p) (.tup [w "fault", .str z, t])
  | hand {n p : Nat} {t : D} : Tm P n p t → St P (n + 1) true (1 + p) (.tup [w "hand", t])
  | does {n p : Nat} {h : Bool} {t : D} (b : Bool) : Tm P n p t → St P (n + 1) h (1 + p) (.tup [w (if b then "back" else "do"), t])
  | whl {n p q : Nat} {h : Bool} {t : D} {bs : List D} : Tm P n p t → bs.length ≤ 12 → Bd P n h q bs → St P (n + 1) h (1 + p + q) (.tup [w "while", t, .tup bs])
  | ifs {n p q r : Nat} {h : Bool} {t : D} {bs es : List D} : Tm P n p t → bs.length ≤ 12 → Bd P n h q bs → es.length ≤ 12 → Bd P n h r es → St P (n + 1) h (1 + p + q + r) (.tup [w "if", t, .tup bs, .tup es])
  | trys {n p q r : Nat} {h : Bool} {bs es gs : List D} (y z : Str) : NmOk y → NmOk z → bs.length ≤ 12 → Bd P n h p bs → es.length ≤ 12 → Bd P n h q es → gs.length ≤ 12 → Bd P n h r gs → St P (n + 1) h (1 + p + q + r) (.tup [w "try", .tup bs, .str y, .str z, .tup es, .tup gs])
inductive Bd (P : Str → Prop) : Nat → Bool → Nat → List D → Prop
  | nil {n : Nat} {h : Bool} : Bd P n h 0 []
  | cons {n p q : Nat} {h : Bool} {a : D} {as : List D} : St P n h p a → Bd P n h q as → Bd P n h (p + q) (a :: as)
end
theorem Ts.all {n : Nat} : ∀ {q : Nat} {as : List D}, Ts P n q as → ∀ a ∈ as, ∃ p, Tm P n p a
  | _, [], _, a, h => by simp at h
  | _, b :: as, hs, a, h => by
    cases hs with
    | cons h1 h2 =>
      rcases List.mem_cons.mp h with e | e
      · subst e; exact ⟨_, h1⟩
      · exact h2.all a e
theorem Bd.all {n : Nat} {hd : Bool} : ∀ {q : Nat} {as : List D}, Bd P n hd q as → ∀ a ∈ as, ∃ p, St P n hd p a
  | _, [], _, a, h => by simp at h
  | _, b :: as, hs, a, h => by
    cases hs with
    | cons h1 h2 =>
      rcases List.mem_cons.mp h with e | e
      · subst e; exact ⟨_, h1⟩
      · exact h2.all a e
theorem Ts.snoc {n p : Nat} {a : D} : ∀ {as : List D} {q : Nat}, Ts P n q as → Tm P n p a → Ts P n (q + p) (as ++ [a])
  | [], _, h, h2 => by cases h; rw [Nat.zero_add]; exact (Nat.add_zero p) ▸ Ts.cons h2 .nil
  | b :: as, _, h, h2 => by
    cases h with
    | cons h3 h4 => rw [Nat.add_assoc]; exact .cons h3 (h4.snoc h2)
theorem Bd.snoc {n p : Nat} {h : Bool} {a : D} : ∀ {as : List D} {q : Nat}, Bd P n h q as → St P n h p a → Bd P n h (q + p) (as ++ [a])
  | [], _, h, h2 => by cases h; rw [Nat.zero_add]; exact (Nat.add_zero p) ▸ Bd.cons h2 .nil
  | b :: as, _, h, h2 => by
    cases h with
    | cons h3 h4 => rw [Nat.add_assoc]; exact .cons h3 (h4.snoc h2)
mutual
theorem Tm.mono {n m p : Nat} {d : D} (h : Tm P n p d) (le : n ≤ m) : Tm P m p d := by
  obtain ⟨k, rfl⟩ : ∃ k, m = k + 1 := ⟨m - 1, by cases h <;> omega⟩
  cases h with
  | num i a b => exact .num i a b
  | nam z a pz => exact .nam z a pz
  | two s a b c => exact .two s a (b.mono (by omega)) (c.mono (by omega))
  | fn kk ps a b c d e => exact .fn kk ps a b c d (e.mono (by omega))
  | call a b c => exact .call (a.mono (by omega)) b (c.mono (by omega))
  | step a b => exact .step (a.mono (by omega)) (b.mono (by omega))
theorem Ts.mono {n m p : Nat} {d : List D} (h : Ts P n p d) (le : n ≤ m) : Ts P m p d := by
  cases h with
  | nil => exact .nil
  | cons a b => exact .cons (a.mono le) (b.mono le)
theorem St.mono {n m p : Nat} {hd : Bool} {d : D} (h : St P n hd p d) (le : n ≤ m) : St P m hd p d := by
  obtain ⟨k, rfl⟩ : ∃ k, m = k + 1 := ⟨m - 1, by cases h <;> omega⟩
  cases h with
  | lets b z a pz c => exact .lets b z a pz (c.mono (by omega))
  | fault z a b c => exact .fault z a b (c.mono (by omega))
  | hand a => exact .hand (a.mono (by omega))
  | does b a => exact .does b (a.mono (by omega))
  | whl a b c => exact .whl (a.mono (by omega)) b (c.mono (by omega))
  | ifs a b c d e => exact .ifs (a.mono (by omega)) b (c.mono (by omega)) d (e.mono (by omega))
  | trys y z a b c d e f g i => exact .trys y z a b c (d.mono (by omega)) e (f.mono (by omega)) g (i.mono (by omega))
theorem Bd.mono {n m p : Nat} {hd : Bool} {d : List D} (h : Bd P n hd p d) (le : n ≤ m) : Bd P m hd p d := by
  cases h with
  | nil => exact .nil
  | cons a b => exact .cons (a.mono le) (b.mono le)
end
end K09

set_option Elab.async false
set_option linter.all false
set_option maxRecDepth 100000
set_option autoImplicit false
set_option maxHeartbeats 1000000
namespace K09
open PySem PySem.Spec L2 ML
variable {P : Str → Prop}
/-! ### as data: told and laid -/
def PyOk (d : D) (n p : Nat) : Prop := ∃ py, (∀ S k, n ≤ k → toPy S k d = some py) ∧ py.canLay0 = true ∧ PyData.showable py = true ∧ (PyData.shown py).length + 2 ≤ p
def PysOk (as : List D) (n p : Nat) : Prop := ∃ pys, (∀ S k, n ≤ k → mapO (toPy S k) as = some pys) ∧ PyData.canLayAll0 pys = true ∧ PyData.showableAll pys = true ∧ piled (PyData.shownAll pys) ≤ p
theorem PyOk.le {d : D} {n m p q : Nat} (h : PyOk d n p) (h1 : n ≤ m) (h2 : p ≤ q) : PyOk d m q := by
  obtain ⟨py, a, b, c, e⟩ := h
  exact ⟨py, fun S k hk => a S k (by omega), b, c, by omega⟩
theorem PysOk.le {d : List D} {n m p q : Nat} (h : PysOk d n p) (h1 : n ≤ m) (h2 : p ≤ q) : PysOk d m q := by
  obtain ⟨py, a, b, c, e⟩ := h
  exact ⟨py, fun S k hk => a S k (by omega), b, c, by omega⟩
theorem PysOk.nil {n : Nat} : PysOk [] n 0 := ⟨[], fun S k _ => rfl, rfl, rfl, Nat.le_refl _⟩
theorem PysOk.cons {a : D} {as : List D} {n p q : Nat} (h1 : PyOk a n p) (h2 : PysOk as n q) : PysOk (a :: as) n (p + q) := by
  obtain ⟨py, a1, b1, c1, e1⟩ := h1
  obtain ⟨pys, a2, b2, c2, e2⟩ := h2
  refine ⟨py :: pys, fun S k hk => by rw [mapO_cons, a1 S k hk, a2 S k hk], ?_, ?_, ?_⟩
  · rw [PyData.canLayAll0, b1, b2]; rfl
  · rw [PyData.showableAll, c1, c2]; rfl
  · rw [PyData.shownAll, piled_cons]; omega
theorem PyOk.cons {a : D} {as : List D} {n p q : Nat} (h1 : PyOk a n p) (h2 : PysOk as n q) : PysOk (a :: as) n (p + q) := PysOk.cons h1 h2
theorem PyOk.tup {as : List D} {n p : Nat} (h : PysOk as n p) : PyOk (.tup as) (n + 1) (p + 4) := by
  obtain ⟨pys, a, b, c, e⟩ := h
  refine ⟨.tuple pys, fun S k hk => ?_, b, c, ?_⟩
  · obtain ⟨j, rfl⟩ : ∃ j, k = j + 1 := ⟨k - 1, by omega⟩
    rw [toPy_tup, a S j (by omega)]
    rfl
  · have := fmt_text (PyData.shownAll pys)
    show (tupleText (PyData.shownAll pys)).length + 2 ≤ p + 4
    omega
theorem PysOk.tup {as : List D} {n p : Nat} (h : PysOk as n p) : PyOk (.tup as) (n + 1) (p + 4) := PyOk.tup h
theorem PyOk.str {z : Str} (hz : ∀ c ∈ cs z, c < 55296) (n : Nat) : PyOk (.str z) n (10 * (cs z).length + 4) := by
  refine ⟨.str z, fun S k _ => toPy_str S k z, ?_, rfl, ?_⟩
  · rw [← mkS_cs z]
    exact lay_str fun c hc => by have := hz c hc; omega
  · have := StrLaws.reprText_len z fun c hc => by
      have := hz c (by simpa [cs, TL.tl] using hc)
      have : (55296 : Nat) < 16 ^ 8 := by decide
      omega
    show (reprText z).length + 2 ≤ _
    rw [cs_len]
    omega
theorem PyOk.w (s : String) (h : s.toList.all (fun c => decide (c.toNat < 55296)) = true) (n : Nat) : PyOk (w s) n (10 * s.toList.length + 4) := by
  have e : (cs (Str.ofString s)).length = s.toList.length := by rw [cs_of, List.length_map]
  have := PyOk.str (z := Str.ofString s) (fun c hc => by
    rw [cs_of] at hc
    obtain ⟨x, hx, rfl⟩ := List.mem_map.mp hc
    exact of_decide_eq_true (List.all_eq_true.mp h x hx)) n
  rw [e] at this
  exact this
theorem PyOk.int {i : Int} (h1 : -1000000000000 ≤ i) (h2 : i ≤ 1000000000000) (n : Nat) : PyOk (.int i) n 20 := by
  have hn : i.natAbs < 10 ^ 13 := by omega
  have hl := int_text_length_le10 (a := i) (k := 13) (by decide) hn
  refine ⟨.int i, fun S k _ => toPy_int S k i, rfl, ?_, ?_⟩
  · show decide (i.natAbs.log2 < 1920) = true
    refine decide_eq_true ?_
    have : i.natAbs.log2 < 50 := by
      by_cases q : i.natAbs = 0
      · rw [q]; decide
      · rw [Nat.log2_lt q]
        have : (10 : Nat) ^ 13 < 2 ^ 50 := by decide
        omega
    omega
  · show (Str.ofString (toString i)).length + 2 ≤ 20
    have e : (Str.ofString (toString i)).length = (toString i).length := by rw [← cs_len, cs_of, List.length_map]; rfl
    omega
theorem PyOk.nm {z : Str} (h : NmOk z) (n : Nat) : PyOk (.str z) n 84 :=
  (PyOk.str (z := z) (fun c hc => by have := h.2.2 c hc; omega) n).le (Nat.le_refl _) (by have := h.2.1; omega)
theorem PysOk.nms : ∀ {ps : List Str}, (∀ z ∈ ps, NmOk z) → ∀ n, PysOk (ps.map .str) n (84 * ps.length)
  | [], _, n => PysOk.nil
  | z :: ps, h, n => ((PyOk.nm (h z List.mem_cons_self) n).cons (PysOk.nms (fun y hy => h y (List.mem_cons_of_mem _ hy)) n)).le (Nat.le_refl _) (by rw [List.length_cons]; omega)
theorem sign_py {s : String} (h : s ∈ signs) (n : Nat) : PyOk (w s) n 14 := by
  simp [signs] at h
  rcases h with rfl | rfl | rfl | rfl | rfl <;> exact PyOk.w _ (by decide) n
mutual
theorem Tm.py {n p : Nat} {d : D} (h : Tm P n p d) : PyOk d (2 * n) (1000 * p) := by
  cases h with
  | @num n i a b => exact (PyOk.tup (((PyOk.w "number" (by decide) (2 * n)).cons ((PyOk.int a b _).cons .nil)))).le (by omega) (by simp)
  | @nam n z a _ => exact (PyOk.tup (((PyOk.w "name" (by decide) (2 * n)).cons ((PyOk.nm a _).cons .nil)))).le (by omega) (by simp)
  | @two n p q a b s hs h1 h2 => exact (PyOk.tup ((PyOk.w "two" (by decide) (2 * n)).cons ((sign_py hs _).cons (h1.py.cons (h2.py.cons .nil))))).le (by omega) (by simp; omega)
  | @fn n p bs k ps a b c d e =>
    have hk : PyOk (w (kw k)) (2 * n + 1) 44 := by cases k <;> exact (PyOk.w _ (by decide) _).le (Nat.le_refl _) (by decide)
    exact (PyOk.tup (hk.cons (((PysOk.nms b (2 * n)).tup).cons ((e.py.tup).cons .nil)))).le (by omega) (by omega)
  | @call n p q f as h1 h2 h3 => exact (PyOk.tup ((PyOk.w "call" (by decide) (2 * n + 1)).cons ((h1.py.le (by omega) (Nat.le_refl _)).cons ((h3.py.tup).cons .nil)))).le (by omega) (by simp; omega)
  | @step n p q a b h1 h2 => exact (PyOk.tup ((PyOk.w "step" (by decide) (2 * n)).cons (h1.py.cons (h2.py.cons .nil)))).le (by omega) (by simp; omega)
theorem Ts.py {n p : Nat} {d : List D} (h : Ts P n p d) : PysOk d (2 * n) (1000 * p) := by
  cases h with
  | nil => exact PysOk.nil
  | cons a b => exact (a.py.cons b.py).le (Nat.le_refl _) (by omega)
theorem St.py {n p : Nat} {hd : Bool} {d : D} (h : St P n hd p d) : PyOk d (2 * n) (1000 * p) := by
  cases h with
  | @lets n p h t b z a _ c =>
    have hk : ∀ m, PyOk (w (if b then "set" else "let")) m 44 := fun m => by cases b <;> exact (PyOk.w _ (by decide) _).le (Nat.le_refl _) (by decide)
    exact (PyOk.tup ((hk (2 * n)).cons ((PyOk.nm a _).cons (c.py.cons .nil)))).le (by omega) (by omega)
  | @fault n p h t z a b c => exact (PyOk.tup ((PyOk.w "fault" (by decide) (2 * n)).cons ((PyOk.nm a _).cons (c.py.cons .nil)))).le (by omega) (by simp; omega)
  | @hand n p t a => exact (PyOk.tup ((PyOk.w "hand" (by decide) (2 * n)).cons (a.py.cons .nil))).le (by omega) (by simp; omega)
  | @does n p h t b a =>
    have hk : ∀ m, PyOk (w (if b then "back" else "do")) m 44 := fun m => by cases b <;> exact (PyOk.w _ (by decide) _).le (Nat.le_refl _) (by decide)
    exact (PyOk.tup ((hk (2 * n)).cons (a.py.cons .nil))).le (by omega) (by omega)
  | @whl n p q h t bs a b c => exact (PyOk.tup ((PyOk.w "while" (by decide) (2 * n + 1)).cons ((a.py.le (by omega) (Nat.le_refl _)).cons ((c.py.tup).cons .nil)))).le (by omega) (by simp; omega)
  | @ifs n p q r h t bs es a b c d e => exact (PyOk.tup ((PyOk.w "if" (by decide) (2 * n + 1)).cons ((a.py.le (by omega) (Nat.le_refl _)).cons ((c.py.tup).cons ((e.py.tup).cons .nil))))).le (by omega) (by simp; omega)
  | @trys n p q r h bs es gs y z a b c d e f g i =>
    exact (PyOk.tup ((PyOk.w "try" (by decide) (2 * n + 1)).cons ((d.py.tup).cons ((PyOk.nm a _).cons ((PyOk.nm b _).cons ((f.py.tup).cons ((i.py.tup).cons .nil))))))).le (by omega) (by simp; omega)
theorem Bd.py {n p : Nat} {hd : Bool} {d : List D} (h : Bd P n hd p d) : PysOk d (2 * n) (1000 * p) := by
  cases h with
  | nil => exact PysOk.nil
  | cons a b => exact (a.py.cons b.py).le (Nat.le_refl _) (by omega)
end
end K09

set_option Elab.async false
set_option linter.all false
set_option maxRecDepth 100000
set_option autoImplicit false
set_option maxHeartbeats 1000000
namespace K09
open PySem PySem.Spec L2 ML
theorem w_eq (a b : String) (S : Store) : eqD (w a) (w b) S = .ok (decide (a = b)) S := by
  rw [x_eqT]
  simp [ofS_eq]
theorem tlA : cs (Str.ofString "a") = [97] := by rw [cs_of]; rfl
theorem tlZ : cs (Str.ofString "z") = [122] := by rw [cs_of]; rfl
theorem has_word_eq {a b : String} {xs : List D} {n : Int} {S : Store} : F_has_word [.tup (w a :: xs), w b, .int n] S = .ok (.bl (decide ((xs.length : Int) + 1 = n) && decide (a = b))) S := by
  have e := w_eq a b S
  by_cases c : (xs.length : Int) + 1 = n
  · simp [F_has_word, m_has_word, N_has_word, startL, isKind, c, x_ix, at0, ofS_eq]
  · simp [F_has_word, m_has_word, N_has_word, startL, isKind, c]
theorem is_name_eq {z : Str} (h : NmOk z) (S : Store) : F_is_name [.str z] S = .ok (.bl true) S := by
  have h1 : 1 ≤ z.length := by rw [← cs_len]; exact h.1
  have h2 : z.length ≤ 8 := by rw [← cs_len]; exact h.2.1
  have h3 : z.length ≤ sizeLine := by rw [sz]; omega
  simp [F_is_name, m_is_name, N_is_name, startL, isKind, h3, show (1 : Int) ≤ z.length by omega, show (z.length : Int) ≤ 8 by omega]
  rw [compL_mapG sgn (fun _ => .bl true) (cs z)]
  · simp [allL_map (fun _ : Nat => true)]
  · intro c hc
    obtain ⟨a, b⟩ := h.2.2 c hc
    simp [Tgt.own, wipeL, tlA, tlZ, lt1, show ¬ c < 97 by omega, show ¬ 122 < c by omega]
  · rw [cs_len]; exact h3
theorem strO_all (ps : List Str) : mapO strO (ps.map D.str) = some ps := by
  have := mapO_some (f := strO) (g := D.str) (h := fun z : Str => z) (xs := ps) fun i => rfl
  simpa using this
theorem is_names_eq {ps : List Str} (h1 : ps.length ≤ 4) (h2 : ∀ z ∈ ps, NmOk z) (h3 : ps.Nodup) (S : Store) : F_is_names [.tup (ps.map D.str)] S = .ok (.bl true) S := by
  have e : compL still (.one 1) yesM (callE 1 F_is_name (consA (varE 1) nilA)) (wipeL [some (.tup (ps.map D.str)), none] [1]) (ps.map D.str) [] S = .ok (ps.map fun _ => .bl true) S := by
    rw [compL_mapG D.str (fun _ => .bl true) ps]
    · intro z hz
      simp [wipeL, is_name_eq (h2 z hz)]
    · rw [sz]; omega
  have e2 : lenSetD (.tup (ps.map D.str)) S = .ok (.int ps.length) S := by
    unfold lenSetD
    simp only [strO_all]
    rw [if_pos (by omega), uqs_nodup h3]
  simp [F_is_names, m_is_names, N_is_names, startL, isKind, show ¬ (4 : Int) < ps.length by omega, Tgt.own, e, allL_map (fun _ : Str => true), lenSetE, e2]
theorem is_number_eq {i : Int} (h1 : -1000000000000 ≤ i) (h2 : i ≤ 1000000000000) (S : Store) : F_is_number [.int i] S = .ok (.bl true) S := by
  simp [F_is_number, m_is_number, N_is_number, startL, isKind, h1, h2]
end K09

set_option Elab.async false
set_option linter.all false
set_option maxRecDepth 100000
set_option autoImplicit false
set_option maxHeartbeats 1000000
namespace K09
open PySem PySem.Spec L2 ML
variable {P : Str → Prop}
/-- told True, the store may grow -/
def Tr (F : List D → Store → R D) (ds : List D) : Prop := ∀ S, ∃ X, F ds S = .ok (.bl true) (S ++ X)
theorem allL_yes (ds : List D) (S : Store) : allL (ds.map fun _ => .bl true) S = .ok (.bl true) S := by
  rw [allL_map (fun _ : D => true)]
  simp
theorem body_ok {m : Nat} {bs : List D} {left : Int} {h : Bool} (hl : bs.length ≤ 12) (hs : ∀ b ∈ bs, Tr (G_is_function m 4) [b, .int left, .bl h]) : Tr (G_is_function (m + 1) 2) [.tup bs, .int left, .bl h] := fun S => by
  obtain ⟨X, e⟩ := compT (i := 3) (m := callE 3 (G_is_function m 4) (consA (varE 3) (consA (varE 1) (consA (varE 2) (nilA))))) (l := [some (.tup bs), some (.int left), some (.bl h), none]) still_mono bs (fun d hd S => by
    obtain ⟨X, e⟩ := hs d hd S
    exact ⟨X, by simp [e]⟩) S trivial (by omega)
  refine ⟨X, ?_⟩
  rw [G_is_function_2]
  simp [m_is_body, N_is_body, startL, isKind, show ¬ (12 : Int) < bs.length by omega, Tgt.own, wipeL, e, allL_yes]
theorem bodies_ok {m : Nat} {bb : List (List D)} {left : Int} {h : Bool} {l : ML.Loc} {q : Nat} {S : Store} (h1 : l[1]? = some (some (.int left))) (h2 : l[2]? = some (some (.bl h))) (h4 : 4 < l.length) (hq : lstAt S q = some (bb.map .tup)) (hb : ∀ bs ∈ bb, Tr (G_is_function m 2) [.tup bs, .int (left - 1), .bl h]) (hl : bb.length ≤ 3) :
    ∃ X, compL (fun S' => lstAt S' q = some (bb.map .tup)) (.one 4) yesM (callE 3 (G_is_function m 2) (consA (varE 4) (consA (binE subD (varE 1) (conE (.int 1))) (consA (varE 2) (nilA))))) l (bb.map .tup) [] S = .ok ((bb.map D.tup).map fun _ => .bl true) (S ++ X) := by
  refine compT (lst_mono q _) (bb.map .tup) (fun d hd S => ?_) S hq (by simp; omega)
  obtain ⟨bs, hbs, rfl⟩ := List.mem_map.mp hd
  obtain ⟨X, e⟩ := hb bs hbs S
  refine ⟨X, ?_⟩
  have v1 : varE 1 (l.set 4 (some (.tup bs))) S = .ok (.int left) S := by unfold varE; rw [List.getElem?_set_ne (by omega), h1]
  have v2 : varE 2 (l.set 4 (some (.tup bs))) S = .ok (.bl h) S := by unfold varE; rw [List.getElem?_set_ne (by omega), h2]
  have v4 : varE 4 (l.set 4 (some (.tup bs))) S = .ok (.tup bs) S := by unfold varE; rw [List.getElem?_set_self h4]
  simp [v1, v2, v4, e]
mutual
theorem Tm.is {n p : Nat} {d : D} (h : Tm P n p d) : ∀ (m : Nat) (left : Int), 3 * n ≤ m → (n : Int) ≤ left → Tr (G_is_function m 1) [d, .int left] := by
  intro m left hm hlf S
  obtain ⟨k, rfl⟩ : ∃ k, m = k + 1 := ⟨m - 1, by cases h <;> omega⟩
  rw [G_is_function_1]
  cases h with
  | num i a b =>
    have hf : F_is_simple [.tup [w "number", .int i]] S = .ok (.bl true) S := by
      simp [F_is_simple, m_is_simple, N_is_simple, startL, has_word_eq, x_ix, at1, is_number_eq a b]
    refine ⟨[], ?_⟩
    simp [m_is_term, N_is_term, startL, show ¬ left < 1 by omega, has_word_eq, hf]
  | nam z a _ =>
    have hf : F_is_simple [.tup [w "name", .str z]] S = .ok (.bl true) S := by
      simp [F_is_simple, m_is_simple, N_is_simple, startL, has_word_eq, x_ix, at1, is_name_eq a]
    refine ⟨[], ?_⟩
    simp [m_is_term, N_is_term, startL, show ¬ left < 1 by omega, has_word_eq, hf]
  | @two n p q a b s hs h1 h2 =>
    obtain ⟨X, e1⟩ := h1.is k (left - 1) (by omega) (by omega) S
    obtain ⟨Y, e2⟩ := h2.is k (left - 1) (by omega) (by omega) (S ++ X)
    have es : ∀ S, inD (w s) (.tup [w "+", w "-", w "*", w "<", w "="]) S = .ok true S := fun S => by
      simp [signs] at hs
      rcases hs with rfl | rfl | rfl | rfl | rfl <;> rfl
    refine ⟨X ++ Y, ?_⟩
    simp [m_is_term, N_is_term, startL, show ¬ left < 1 by omega, has_word_eq, x_ix, at1, at2, at3, isKind, es, e1, e2]
  | @fn n p bs kk ps a b c d e =>
    obtain ⟨j, rfl⟩ : ∃ j, k = j + 1 := ⟨k - 1, by omega⟩
    obtain ⟨i, rfl⟩ : ∃ i, j = i + 1 := ⟨j - 1, by omega⟩
    have hs : F_is_simple [.tup [w (kw kk), .tup (ps.map .str), .tup bs]] S = .ok (.bl false) S := by
      cases kk <;> simp [kw, F_is_simple, m_is_simple, N_is_simple, startL, has_word_eq]
    obtain ⟨X, e1⟩ := body_ok (m := i) (left := left - 1) d (fun x hx => e.is i (left - 1) (by omega) (by omega) x hx) S
    have hf : G_is_function (i + 1 + 1) 0 [.tup [w (kw kk), .tup (ps.map .str), .tup bs], .int left] S = .ok (.bl true) (S ++ X) := by
      rw [G_is_function_0]
      cases kk <;> simp [kw, m_is_function, N_is_function, startL, has_word_eq, x_ix, at1, at2, is_names_eq a b c, e1]
    refine ⟨X, ?_⟩
    cases kk <;> (simp only [kw, Bool.false_eq_true, if_false, if_true] at hs hf; simp [kw, m_is_term, N_is_term, startL, show ¬ left < 1 by omega, has_word_eq, hs, hf])
  | @call n p q f as h1 h2 h3 =>
    obtain ⟨X, e1⟩ := h1.is k (left - 1) (by omega) (by omega) S
    obtain ⟨Y, e2⟩ := compT (i := 3) (m := callE 2 (G_is_function k 1) (consA (varE 3) (consA (binE subD (varE 1) (conE (.int 1))) (nilA)))) (l := [some (.tup [w "call", f, .tup as]), some (.int left), none, none]) still_mono as (fun d hd S => by
      obtain ⟨X, e⟩ := h3.is k (left - 1) (by omega) (by omega) d hd S
      exact ⟨X, by simp [e]⟩) (S ++ X) trivial (by omega)
    refine ⟨X ++ Y, ?_⟩
    simp [m_is_term, N_is_term, startL, show ¬ left < 1 by omega, has_word_eq, x_ix, at1, at2, isKind, show ¬ (4 : Int) < as.length by omega, e1, Tgt.own, wipeL, e2, allL_yes]
  | @step n p q a b h1 h2 =>
    obtain ⟨X, e1⟩ := h1.is k (left - 1) (by omega) (by omega) S
    obtain ⟨Y, e2⟩ := h2.is k (left - 1) (by omega) (by omega) (S ++ X)
    refine ⟨X ++ Y, ?_⟩
    simp [m_is_term, N_is_term, startL, show ¬ left < 1 by omega, has_word_eq, x_ix, at1, at2, e1, e2]
theorem Ts.is {n p : Nat} {as : List D} (h : Ts P n p as) : ∀ (m : Nat) (left : Int), 3 * n ≤ m → (n : Int) ≤ left → ∀ d ∈ as, Tr (G_is_function m 1) [d, .int left] := by
  intro m left hm hl d hd
  cases h with
  | nil => simp at hd
  | cons a b =>
    rcases List.mem_cons.mp hd with q | q
    · subst q; exact a.is m left hm hl
    · exact b.is m left hm hl d q
theorem St.is {n p : Nat} {hd : Bool} {d : D} (h : St P n hd p d) : ∀ (m : Nat) (left : Int), 3 * n ≤ m → (n : Int) ≤ left → Tr (G_is_function m 4) [d, .int left, .bl hd] := by
  intro m left hm hlf S
  obtain ⟨k, rfl⟩ : ∃ k, m = k + 1 := ⟨m - 1, by cases h <;> omega⟩
  obtain ⟨j, rfl⟩ : ∃ j, k = j + 1 := ⟨k - 1, by cases h <;> omega⟩
  rw [G_is_function_4]
  cases h with
  | @lets n p h t b z a _ c =>
    obtain ⟨X, e1⟩ := c.is j (left - 1) (by omega) (by omega) S
    have hf : G_is_function (j + 1) 3 [.tup [w (if b then "set" else "let"), .str z, t], .int left, .bl hd] S = .ok (.bl true) (S ++ X) := by
      rw [G_is_function_3]
      cases b <;> simp [m_is_short, N_is_short, startL, has_word_eq, x_ix, at1, at2, is_name_eq a, e1]
    refine ⟨X, ?_⟩
    cases b <;> (simp at hf; simp [m_is_statement, N_is_statement, startL, show ¬ left < 1 by omega, has_word_eq, hf])
  | @fault n p h t z a b c =>
    obtain ⟨X, e1⟩ := c.is j (left - 1) (by omega) (by omega) S
    have hf : G_is_function (j + 1) 3 [.tup [w "fault", .str z, t], .int left, .bl hd] S = .ok (.bl true) (S ++ X) := by
      rw [G_is_function_3]
      simp [m_is_short, N_is_short, startL, has_word_eq, x_ix, at1, at2, is_name_eq a, e1, b]
    refine ⟨X, ?_⟩
    simp [m_is_statement, N_is_statement, startL, show ¬ left < 1 by omega, has_word_eq, hf]
  | @hand n p t a =>
    obtain ⟨X, e1⟩ := a.is j (left - 1) (by omega) (by omega) S
    have hf : G_is_function (j + 1) 3 [.tup [w "hand", t], .int left, .bl true] S = .ok (.bl true) (S ++ X) := by
      rw [G_is_function_3]
      simp [m_is_short, N_is_short, startL, has_word_eq, x_ix, at1, at2, e1]
    refine ⟨X, ?_⟩
    simp [m_is_statement, N_is_statement, startL, show ¬ left < 1 by omega, has_word_eq, hf]
  | @does n p h t b a =>
    obtain ⟨X, e1⟩ := a.is j (left - 1) (by omega) (by omega) S
    have hf : G_is_function (j + 1) 3 [.tup [w (if b then "back" else "do"), t], .int left, .bl hd] S = .ok (.bl true) (S ++ X) := by
      rw [G_is_function_3]
      cases b <;> simp [m_is_short, N_is_short, startL, has_word_eq, x_ix, at1, at2, e1]
    refine ⟨X, ?_⟩
    cases b <;> (simp at hf; simp [m_is_statement, N_is_statement, startL, show ¬ left < 1 by omega, has_word_eq, hf])
  | @whl n p q h t bs a b c =>
    obtain ⟨X, e1⟩ := a.is (j + 1) (left - 1) (by omega) (by omega) S
    obtain ⟨Y, e2⟩ := body_ok (m := j) (left := left - 1) b (fun x hx => c.is j (left - 1) (by omega) (by omega) x hx) (S ++ X)
    refine ⟨X ++ Y, ?_⟩
    simp [m_is_statement, N_is_statement, startL, show ¬ left < 1 by omega, has_word_eq, x_ix, at1, at2, e1, e2]
  | @ifs n p q r h t bs es a b c d e =>
    obtain ⟨S1, hS1⟩ : ∃ S1, S ++ [Cell.lst [.tup bs, .tup es]] = S1 := ⟨_, rfl⟩
    have k1 : lstAt S1 S.length = some ([bs, es].map .tup) := by rw [← hS1]; simp
    obtain ⟨X, e1⟩ := a.is (j + 1) (left - 1) (by omega) (by omega) S1
    obtain ⟨Y, e2⟩ := bodies_ok (m := j + 1) (bb := [bs, es]) (left := left) (h := hd) (l := [some (.tup [w "if", t, .tup bs, .tup es]), some (.int left), some (.bl hd), some (.ref S.length), none]) (q := S.length) (S := S1 ++ X) rfl rfl (by simp) (lst_mono _ _ S1 X k1) (fun x hx => by
      simp at hx
      rcases hx with rfl | rfl
      · exact body_ok (m := j) b (fun y hy => c.is j (left - 1) (by omega) (by omega) y hy)
      · exact body_ok (m := j) d (fun y hy => e.is j (left - 1) (by omega) (by omega) y hy)) (by simp)
    have e3 := x_srcR (lstAt_some (lst_mono _ _ S1 X k1))
    simp only [List.map_cons, List.map_nil] at e2 e3
    refine ⟨[Cell.lst [.tup bs, .tup es]] ++ X ++ Y, ?_⟩
    have e4 : S ++ ([Cell.lst [.tup bs, .tup es]] ++ X ++ Y) = S1 ++ X ++ Y := by rw [← hS1]; simp
    rw [e4]
    have e5 := allL_yes [.tup bs, .tup es] (S1 ++ (X ++ Y))
    simp only [List.map_cons, List.map_nil] at e5
    simp [m_is_statement, N_is_statement, startL, show ¬ left < 1 by omega, has_word_eq, x_ix, at1, at2, at3, sz, hS1, e1, e3, Tgt.own, wipeL, e2, e5]
  | @trys n p q r h bs es gs y z a b c d e f g i =>
    obtain ⟨S1, hS1⟩ : ∃ S1, S ++ [Cell.lst [.tup bs, .tup es, .tup gs]] = S1 := ⟨_, rfl⟩
    have k1 : lstAt S1 S.length = some ([bs, es, gs].map .tup) := by rw [← hS1]; simp
    obtain ⟨Y, e2⟩ := bodies_ok (m := j + 1) (bb := [bs, es, gs]) (left := left) (h := hd) (l := [some (.tup [w "try", .tup bs, .str y, .str z, .tup es, .tup gs]), some (.int left), some (.bl hd), some (.ref S.length), none]) (q := S.length) (S := S1) rfl rfl (by simp) k1 (fun x hx => by
      simp at hx
      rcases hx with rfl | rfl | rfl
      · exact body_ok (m := j) c (fun y hy => d.is j (left - 1) (by omega) (by omega) y hy)
      · exact body_ok (m := j) e (fun y hy => f.is j (left - 1) (by omega) (by omega) y hy)
      · exact body_ok (m := j) g (fun y hy => i.is j (left - 1) (by omega) (by omega) y hy)) (by simp)
    have e3 := x_srcR (lstAt_some k1)
    simp only [List.map_cons, List.map_nil] at e2 e3
    refine ⟨[Cell.lst [.tup bs, .tup es, .tup gs]] ++ Y, ?_⟩
    have e4 : S ++ ([Cell.lst [.tup bs, .tup es, .tup gs]] ++ Y) = S1 ++ Y := by rw [← hS1]; simp
    rw [e4]
    have e5 := allL_yes [.tup bs, .tup es, .tup gs] (S1 ++ Y)
    simp only [List.map_cons, List.map_nil] at e5
    simp [m_is_statement, N_is_statement, startL, show ¬ left < 1 by omega, has_word_eq, x_ix, at1, at2, at3, at4, at5, sz, hS1, is_name_eq a, is_name_eq b, e3, Tgt.own, wipeL, e2, e5]
theorem Bd.is {n p : Nat} {hd : Bool} {as : List D} (h : Bd P n hd p as) : ∀ (m : Nat) (left : Int), 3 * n ≤ m → (n : Int) ≤ left → ∀ d ∈ as, Tr (G_is_function m 4) [d, .int left, .bl hd] := by
  intro m left hm hl d hdm
  cases h with
  | nil => simp at hdm
  | cons a b =>
    rcases List.mem_cons.mp hdm with q | q
    · subst q; exact a.is m left hm hl
    · exact b.is m left hm hl d q
end
end K09

set_option Elab.async false
set_option linter.all false
set_option maxRecDepth 100000
set_option autoImplicit false
set_option maxHeartbeats 1000000
namespace K09
open PySem PySem.Spec L2 ML
/-! ### the parts right in one -/
def isT : D → Bool
  | .tup _ => true
  | _ => false
def fnw (z : Str) : Bool := decide (z = Str.ofString "main") || (decide (z = Str.ofString "fun") || decide (z = Str.ofString "loop"))
def innF (b : Bool) : D → List D
  | .tup (.str z :: r) => if b then (D.str z :: r).filter isT else [.tup (.str z :: r)]
  | .tup ys => ys.filter isT
  | _ => []
def inn : D → List D
  | .tup (.str z :: xs) => xs.flatMap (innF (fnw z))
  | _ => []
def Atom (y : D) : Prop := (∃ z, y = .str z) ∨ (∃ i, y = .int i) ∨ ∃ q, y = .tup q
def FdOk (x : D) : Prop := (∃ z, x = .str z) ∨ (∃ i, x = .int i) ∨ ∃ ys, x = .tup ys ∧ ys.length ≤ 20 ∧ (∃ n p, n ≤ 64 ∧ PyOk x n p) ∧ ∀ y ∈ ys, Atom y
theorem ne_empty {ys : List D} {n p : Nat} (h : PyOk (.tup ys) n p) (hn : n ≤ 64) (S : Store) : neD (.tup ys) (.tup []) S = .ok (!decide (ys = [])) S := by
  obtain ⟨py, a, b, _, _⟩ := h
  have e := a S 64 hn
  have e2 : toPy S 64 (.tup []) = some (.tuple []) := rfl
  rw [neD_of e e2 b rfl]
  rw [toPy_tup] at e
  obtain ⟨pys, e3, rfl⟩ := Option.map_eq_some_iff.mp e
  cases ys with
  | nil => cases e3; rfl
  | cons y ys =>
    rw [mapO_cons] at e3
    split at e3
    · cases e3
      simp [PyData.eqv, PyData.eqvAll]
    · cases e3
theorem isE_tup {y : D} (h : Atom y) {m : ME} {l : ML.Loc} {S : Store} (hm : m l S = .ok y S) : isE "tuple" m l S = .ok (isT y) S := by
  rcases h with ⟨z, rfl⟩ | ⟨i, rfl⟩ | ⟨q, rfl⟩ <;> simp [hm, isKind, isT]
theorem fil_comp {ys : List D} (h : ∀ y ∈ ys, Atom y) (hl : ys.length ≤ 20) {l : ML.Loc} (h4 : 4 < l.length) (S : Store) : compL still (.one 4) (ofV (toV (isE "tuple" (varE 4)))) (varE 4) l ys [] S = .ok (ys.filter isT) S := by
  have := compL_filG (chk := still) (i := 4) (c := ofV (toV (isE "tuple" (varE 4)))) (m := varE 4) (l := l) (S := S) (fun d : D => d) isT (fun d : D => d) ys (fun y hy => by
    have v : varE 4 (l.set 4 (some y)) S = .ok y S := by unfold varE; rw [List.getElem?_set_self h4]
    have := isE_tup (h y hy) v
    simp only [x_ofV, x_toV, this, R.bind_ok, x_isBl]) (fun y hy _ => by
    unfold varE; rw [List.getElem?_set_self h4]) (by rw [sz]; omega)
  simpa using this
theorem set_right {S Z : Store} {f : Nat} {c : Cell} (h : S.length ≤ f) : (S ++ Z).set f c = S ++ Z.set (f - S.length) c := List.set_append_right _ _ h
theorem lin_else {ys : List D} (hl : ys.length ≤ 20) (hy : ∀ y ∈ ys, Atom y) {d v : Option D} {acc : List D} {T : Store} {f : Nat} {x4 : Option D} (ha : T[f]? = some (.lst acc)) (hz : acc.length ≤ 100000) :
    setS 1 (binE addD (varE 1) (allocE (compN (srcV (varE 2)) (.one 4) (ofV (toV (isE "tuple" (varE 4)))) (varE 4)))) [d, some (.ref f), some (.tup ys), v, x4] T = .ok (.nx, [d, some (.ref (T.length + 1)), some (.tup ys), v, x4]) (T ++ [.lst (ys.filter isT), .lst (acc ++ ys.filter isT)]) := by
  have e1 := fil_comp hy hl (l := [d, some (.ref f), some (.tup ys), v, none]) (by simp) T
  have hfl : (ys.filter isT).length ≤ 20 := Nat.le_trans (List.length_filter_le _ _) hl
  have e2 := x_addR (S := T ++ [.lst (ys.filter isT)]) (n := f) (m := T.length) (at_app ha) at_end (by omega)
  simp [Tgt.own, wipeL, e1, e2]
/-- one thing of the part -/
theorem lin_step {x : D} (hx : FdOk x) {z : Str} {r acc : List D} {S Z : Store} {f : Nat} {x2 x3 x4 : Option D} (hf : S.length ≤ f) (ha : (S ++ Z)[f]? = some (.lst acc)) (hz : acc.length ≤ 100000) :
    ∃ Z' f' y3, b__law_inner_0 [some (.tup (.str z :: r)), some (.ref f), some x, x3, x4] (S ++ Z) = .ok (.nx, [some (.tup (.str z :: r)), some (.ref f'), some x, y3, x4]) (S ++ Z') ∧ S.length ≤ f' ∧ (S ++ Z')[f']? = some (.lst (acc ++ innF (fnw z) x)) := by
  have la := lt_of_at ha
  have eni : ∀ S, notInD (.str z) (.tup [w "main", w "fun", w "loop"]) S = .ok (!(fnw z)) S := fun S => by
    rw [x_ninD, x_inConsS, x_inConsS, x_inConsS, x_inNilS]
    simp only [R.bind_ok, Bool.or_false]
    have c : ∀ a b : Str, decide (a = b) = decide (b = a) := fun a b => by
      by_cases q : a = b
      · subst q; rfl
      · rw [decide_eq_false q, decide_eq_false fun q' => q q'.symm]
    rw [c _ z, c _ z, c _ z]
    rfl
  rcases hx with ⟨y, rfl⟩ | ⟨y, rfl⟩ | ⟨ys, rfl, h1, ⟨n, p, hn, hp⟩, h3⟩
  · refine ⟨Z, f, some (.bl false), ?_, hf, by simpa [innF] using ha⟩
    simp [b__law_inner_0, isKind]
  · refine ⟨Z, f, some (.bl false), ?_, hf, by simpa [innF] using ha⟩
    simp [b__law_inner_0, isKind]
  · have en := fun S => ne_empty hp hn S
    have el : ∀ v, ∃ Z', setS 1 (binE addD (varE 1) (allocE (compN (srcV (varE 2)) (.one 4) (ofV (toV (isE "tuple" (varE 4)))) (varE 4)))) [some (.tup (.str z :: r)), some (.ref f), some (.tup ys), v, x4] (S ++ Z) = .ok (.nx, [some (.tup (.str z :: r)), some (.ref ((S ++ Z).length + 1)), some (.tup ys), v, x4]) (S ++ Z') ∧ (S ++ Z')[(S ++ Z).length + 1]? = some (.lst (acc ++ ys.filter isT)) := fun v => by
      refine ⟨Z ++ [.lst (ys.filter isT), .lst (acc ++ ys.filter isT)], ?_, ?_⟩
      · rw [lin_else h1 h3 ha hz, List.append_assoc]
      · rw [← List.append_assoc]
        exact get_mid1 (S ++ Z) _ _ []
    have hf2 : S.length ≤ (S ++ Z).length + 1 := by simp; omega
    cases ys with
    | nil =>
      obtain ⟨Z', e, k⟩ := el (some (.bl false))
      refine ⟨Z', _, some (.bl false), ?_, hf2, k⟩
      simp only [b__law_inner_0]
      simp only [decide_true, Bool.not_true] at en
      simp [-x_setS, -x_bin, x_setS 3, isKind, en, e]
    | cons y ys =>
      have hy := h3 y List.mem_cons_self
      have en : ∀ S, neD (.tup (y :: ys)) (.tup []) S = .ok true S := fun S => by rw [en]; simp
      rcases hy with ⟨q, rfl⟩ | ⟨q, rfl⟩ | ⟨q, rfl⟩
      · cases hb : fnw z with
        | true =>
          obtain ⟨Z', e, k⟩ := el (some (.bl true))
          refine ⟨Z', _, some (.bl true), ?_, hf2, by simpa [innF, hb] using k⟩
          simp only [b__law_inner_0]
          simp [-x_setS, -x_bin, x_setS 3, x_bin ixD, isKind, en, x_ix, at0, sz, eni, hb, e]
        | false =>
          have e4 := x_append (d := .tup (.str q :: ys)) (lstAt_of ha) (by omega)
          rw [set_right hf] at e4
          refine ⟨Z.set (f - S.length) (.lst (acc ++ [.tup (.str q :: ys)])), f, some (.bl true), ?_, hf, ?_⟩
          · simp [b__law_inner_0, isKind, en, x_ix, at0, eni, hb, lstAt_of ha, sz, e4]
          · rw [← set_right hf, get_set_at ha]
            simp [innF]
      · obtain ⟨Z', e, k⟩ := el (some (.bl false))
        refine ⟨Z', _, some (.bl false), ?_, hf2, by simpa [innF] using k⟩
        simp only [b__law_inner_0]
        simp [-x_setS, -x_bin, x_setS 3, x_bin ixD, isKind, en, x_ix, at0, e]
      · obtain ⟨Z', e, k⟩ := el (some (.bl false))
        refine ⟨Z', _, some (.bl false), ?_, hf2, by simpa [innF] using k⟩
        simp only [b__law_inner_0]
        simp [-x_setS, -x_bin, x_setS 3, x_bin ixD, isKind, en, x_ix, at0, e]
theorem innF_len {x : D} (hx : FdOk x) (b : Bool) : (innF b x).length ≤ 20 := by
  rcases hx with ⟨y, rfl⟩ | ⟨y, rfl⟩ | ⟨ys, rfl, h1, _, _⟩
  · simp [innF]
  · simp [innF]
  · unfold innF
    split
    · rename_i e
      cases e
      split
      · exact Nat.le_trans (List.length_filter_le _ _) h1
      · simp
    · rename_i e
      cases e
      exact Nat.le_trans (List.length_filter_le _ _) h1
    · simp
theorem lin_loop {z : Str} {r : List D} {S : Store} : ∀ (xs : List D), (∀ x ∈ xs, FdOk x) → ∀ (acc : List D) (Z : Store) (f : Nat) (x2 x3 x4 : Option D), S.length ≤ f → (S ++ Z)[f]? = some (.lst acc) → acc.length + 20 * xs.length ≤ 100000 →
    ∃ Z' f' y2 y3 y4, forL still (nameT 2) b__law_inner_0 xs [some (.tup (.str z :: r)), some (.ref f), x2, x3, x4] (S ++ Z) = .ok (.nx, [some (.tup (.str z :: r)), some (.ref f'), y2, y3, y4]) (S ++ Z') ∧ S.length ≤ f' ∧ (S ++ Z')[f']? = some (.lst (acc ++ xs.flatMap (innF (fnw z))))
  | [], _, acc, Z, f, x2, x3, x4, hf, ha, _ => ⟨Z, f, x2, x3, x4, by rw [forL_nil trivial], hf, by simpa using ha⟩
  | x :: xs, hx, acc, Z, f, x2, x3, x4, hf, ha, hz => by
    have h0 := hx x List.mem_cons_self
    rw [List.length_cons] at hz
    obtain ⟨Z1, f1, y3, e1, hf1, ha1⟩ := lin_step h0 (z := z) (r := r) (x2 := x2) (x3 := x3) (x4 := x4) hf ha (by omega)
    have := innF_len h0 (fnw z)
    obtain ⟨Z2, f2, z2, z3, z4, e2, hf2, ha2⟩ := lin_loop (z := z) (r := r) xs (fun y hy => hx y (List.mem_cons_of_mem _ hy)) (acc ++ innF (fnw z) x) Z1 f1 (some x) y3 x4 hf1 ha1 (by rw [List.length_append]; omega)
    refine ⟨Z2, f2, z2, z3, z4, ?_, hf2, ?_⟩
    · rw [forL_cons trivial]
      simp [e1, e2]
    · rw [ha2]
      simp [List.flatMap_cons]
/-- the law's own -/
def Told (F : List D → Store → R D) (d : D) (ks : List D) : Prop := ∀ S, ∃ X r, F [d] S = .ok (.ref r) (S ++ X) ∧ (S ++ X)[r]? = some (.lst ks) ∧ S.length ≤ r
theorem law_inner_eq {z : Str} {xs : List D} (hx : ∀ x ∈ xs, FdOk x) (hl : xs.length ≤ 20) : Told F__law_inner (.tup (.str z :: xs)) (inn (.tup (.str z :: xs))) := fun S => by
  obtain ⟨Z, f, y2, y3, y4, e, hf, ha⟩ := lin_loop (z := z) (r := xs) (S := S) xs hx [] [.lst []] S.length none none none (Nat.le_refl _) at_end (by simp; omega)
  have ec : cutD (.str z :: xs) (some 1) none = xs := by
    have := cutD_drop (.str z :: xs) 1
    simpa using this
  refine ⟨Z, f, ?_, by simpa [inn] using ha, hf⟩
  simp [F__law_inner, m__law_inner, N__law_inner, startL, sz, ec, e]
end K09

set_option Elab.async false
set_option linter.all false
set_option maxRecDepth 100000
set_option autoImplicit false
set_option maxHeartbeats 1000000
namespace K09
open PySem PySem.Spec L2 ML
variable {P : Str → Prop}
theorem x_listU (xs : List D) (S : Store) : listV [.tup xs] S = .ok xs S := rfl
theorem Tm.form {n p : Nat} {d : D} (h : Tm P n p d) : ∃ z r, d = .tup (.str z :: r) := by
  cases h <;> exact ⟨_, _, rfl⟩
theorem St.form {n p : Nat} {hd : Bool} {d : D} (h : St P n hd p d) : ∃ z r, d = .tup (.str z :: r) := by
  cases h <;> exact ⟨_, _, rfl⟩
theorem atom_s (z : Str) : Atom (.str z) := .inl ⟨z, rfl⟩
theorem Tm.atom {n p : Nat} {d : D} (h : Tm P n p d) : Atom d := by obtain ⟨z, r, rfl⟩ := h.form; exact .inr (.inr ⟨_, rfl⟩)
theorem St.atom {n p : Nat} {hd : Bool} {d : D} (h : St P n hd p d) : Atom d := by obtain ⟨z, r, rfl⟩ := h.form; exact .inr (.inr ⟨_, rfl⟩)
theorem Bd.atom {n p : Nat} {hd : Bool} {bs : List D} (h : Bd P n hd p bs) : ∀ b ∈ bs, Atom b := fun b hb => by obtain ⟨_, q⟩ := h.all b hb; exact q.atom
theorem Bd.isT {n p : Nat} {hd : Bool} {bs : List D} (h : Bd P n hd p bs) : bs.filter isT = bs := List.filter_eq_self.mpr fun b hb => by
  obtain ⟨_, q⟩ := h.all b hb
  obtain ⟨z, r, rfl⟩ := q.form
  rfl
theorem Bd.innF {n p : Nat} {hd : Bool} {bs : List D} (h : Bd P n hd p bs) (b : Bool) : innF b (.tup bs) = bs := by
  have e := h.isT
  cases bs with
  | nil => rfl
  | cons x xs =>
    obtain ⟨_, q⟩ := h.all x List.mem_cons_self
    obtain ⟨z, r, rfl⟩ := q.form
    exact e
theorem Ts.innF {n p : Nat} {bs : List D} (h : Ts P n p bs) (b : Bool) : K09.innF b (.tup bs) = bs := by
  cases bs with
  | nil => rfl
  | cons x xs =>
    have e : (x :: xs).filter isT = x :: xs := List.filter_eq_self.mpr fun y hy => by
      obtain ⟨_, q⟩ := h.all y hy
      obtain ⟨z, r, rfl⟩ := q.form
      rfl
    obtain ⟨_, q⟩ := h.all x List.mem_cons_self
    obtain ⟨z, r, rfl⟩ := q.form
    exact e
theorem Tm.innF {n p : Nat} {d : D} (h : Tm P n p d) : K09.innF false d = [d] := by
  obtain ⟨z, r, rfl⟩ := h.form
  rfl
theorem Tm.fd {n p : Nat} {d : D} (h : Tm P n p d) (hn : n ≤ 30) : FdOk d := by
  have hp := h.py
  have len : ∀ ys, d = .tup ys → ys.length ≤ 20 ∧ ∀ y ∈ ys, Atom y := by
    cases h with
    | num i a b => rintro ys ⟨⟩; exact ⟨by simp, by simp [atom_s]; exact .inr (.inl ⟨i, rfl⟩)⟩
    | nam z a _ => rintro ys ⟨⟩; exact ⟨by simp, by simp [atom_s]⟩
    | two s a b c => rintro ys ⟨⟩; exact ⟨by simp, by simp [atom_s, b.atom, c.atom]⟩
    | fn k ps a b c d e => rintro ys ⟨⟩; exact ⟨by simp, by simp [atom_s]; exact ⟨.inr (.inr ⟨_, rfl⟩), .inr (.inr ⟨_, rfl⟩)⟩⟩
    | call a b c => rintro ys ⟨⟩; exact ⟨by simp, by simp [atom_s, a.atom]; exact .inr (.inr ⟨_, rfl⟩)⟩
    | step a b => rintro ys ⟨⟩; exact ⟨by simp, by simp [atom_s, a.atom, b.atom]⟩
  obtain ⟨z, r, rfl⟩ := h.form
  exact .inr (.inr ⟨_, rfl, (len _ rfl).1, ⟨_, _, by omega, hp⟩, (len _ rfl).2⟩)
theorem Bd.fd {n p : Nat} {hd : Bool} {bs : List D} (h : Bd P n hd p bs) (hn : n ≤ 30) (hl : bs.length ≤ 12) : FdOk (.tup bs) := .inr (.inr ⟨_, rfl, by omega, ⟨_, _, by omega, h.py.tup⟩, h.atom⟩)
theorem Ts.fd {n p : Nat} {bs : List D} (h : Ts P n p bs) (hn : n ≤ 30) (hl : bs.length ≤ 4) : FdOk (.tup bs) := .inr (.inr ⟨_, rfl, by omega, ⟨_, _, by omega, h.py.tup⟩, fun b hb => by obtain ⟨_, q⟩ := h.all b hb; exact q.atom⟩)
theorem nms_fd {ps : List Str} (h : ∀ z ∈ ps, NmOk z) (hl : ps.length ≤ 4) : FdOk (.tup (ps.map .str)) := .inr (.inr ⟨_, rfl, by rw [List.length_map]; omega, ⟨1, _, by omega, (PysOk.nms h 0).tup⟩, fun b hb => by obtain ⟨z, _, rfl⟩ := List.mem_map.mp hb; exact atom_s z⟩)
theorem nms_innF (ps : List Str) : innF true (.tup (ps.map .str)) = [] := by
  cases ps with
  | nil => rfl
  | cons z ps =>
    show (D.str z :: ps.map .str).filter isT = []
    rw [List.filter_eq_nil_iff]
    intro a ha
    have : ∃ q, a = .str q := by
      rcases List.mem_cons.mp ha with e | e
      · exact ⟨z, e⟩
      · obtain ⟨q, _, rfl⟩ := List.mem_map.mp e; exact ⟨q, rfl⟩
    obtain ⟨q, rfl⟩ := this
    simp [isT]
/-! ### parts of a part -/
def Pt (P : Str → Prop) (n p : Nat) (d : D) : Prop := Tm P n p d ∨ ∃ h, St P n h p d
inductive Ps (P : Str → Prop) (n : Nat) : Nat → List D → Prop
  | nil : Ps P n 0 []
  | cons {p q : Nat} {a : D} {as : List D} : Pt P n p a → Ps P n q as → Ps P n (p + q) (a :: as)
theorem Ps.app {n p q : Nat} {as bs : List D} (h1 : Ps P n p as) (h2 : Ps P n q bs) : Ps P n (p + q) (as ++ bs) := by
  induction h1 with
  | nil => rw [Nat.zero_add]; exact h2
  | cons a _ ih => rw [Nat.add_assoc]; exact .cons a ih
theorem Ts.ps {n : Nat} : ∀ {q : Nat} {as : List D}, Ts P n q as → Ps P n q as
  | _, [], h => by cases h; exact .nil
  | _, a :: as, h => by
    cases h with
    | cons a b => exact .cons (.inl a) b.ps
theorem Bd.ps {n : Nat} {hd : Bool} : ∀ {q : Nat} {as : List D}, Bd P n hd q as → Ps P n q as
  | _, [], h => by cases h; exact .nil
  | _, a :: as, h => by
    cases h with
    | cons a b => exact .cons (.inr ⟨_, a⟩) b.ps
theorem Ps.one {n p : Nat} {a : D} (h : Pt P n p a) : Ps P n p [a] := (Nat.add_zero p) ▸ Ps.cons h .nil
structure Part (P : Str → Prop) (n p : Nat) (d : D) : Prop where
  form : ∃ z xs, d = .tup (.str z :: xs) ∧ xs.length ≤ 20 ∧ ∀ x ∈ xs, FdOk x
  kids : ∃ q, Ps P n q (inn d) ∧ p = 1 + q
  told : Told F_inner_of d (inn d)
theorem fnw_of (s : String) : fnw (Str.ofString s) = (decide (s = "main") || (decide (s = "fun") || decide (s = "loop"))) := by
  unfold fnw
  simp [ofS_eq]
theorem told_of {d : D} {ks : List D} (h : ∀ S, F_inner_of [d] S = .ok (.ref S.length) (S ++ [.lst ks])) : Told F_inner_of d ks := fun S => ⟨_, _, h S, at_end, Nat.le_refl _⟩
theorem told_two {d : D} {xs ys : List D} (h : ∀ S, F_inner_of [d] S = .ok (.ref (S.length + 2)) (S ++ [.lst xs, .lst ys, .lst (xs ++ ys)])) : Told F_inner_of d (xs ++ ys) := fun S => ⟨_, _, h S, by simp, by omega⟩
theorem told_three {d : D} {xs ys zs : List D} (h : ∀ S, F_inner_of [d] S = .ok (.ref (S.length + 4)) (S ++ [.lst xs, .lst ys, .lst (xs ++ ys), .lst zs, .lst (xs ++ ys ++ zs)])) : Told F_inner_of d (xs ++ ys ++ zs) := fun S => ⟨_, _, h S, by simp, by omega⟩
theorem add2 {xs ys : List D} {S : Store} (h : xs.length + ys.length ≤ 1000) : addD (.ref S.length) (.ref (S.length + 1)) (S ++ [.lst xs, .lst ys]) = .ok (.ref (S.length + 2)) (S ++ [.lst xs, .lst ys, .lst (xs ++ ys)]) := by
  have := x_addR (S := S ++ [.lst xs, .lst ys]) (n := S.length) (m := S.length + 1) (xs := xs) (ys := ys) (by simp) (by simp) (by omega)
  simpa using this
theorem add4 {xs ys zs : List D} {S : Store} (h : xs.length + ys.length + zs.length ≤ 1000) : addD (.ref (S.length + 2)) (.ref (S.length + 3)) (S ++ [.lst xs, .lst ys, .lst (xs ++ ys), .lst zs]) = .ok (.ref (S.length + 4)) (S ++ [.lst xs, .lst ys, .lst (xs ++ ys), .lst zs, .lst (xs ++ ys ++ zs)]) := by
  have := x_addR (S := S ++ [.lst xs, .lst ys, .lst (xs ++ ys), .lst zs]) (n := S.length + 2) (m := S.length + 3) (xs := xs ++ ys) (ys := zs) (by simp) (by simp) (by simp; omega)
  simpa using this
theorem Tm.part {n p : Nat} {d : D} (h : Tm P (n + 1) p d) (hn : n ≤ 30) : Part P n p d := by
  cases h with
  | num i a b =>
    have e : inn (.tup [w "number", .int i]) = [] := by simp [inn]; rfl
    refine ⟨⟨_, _, rfl, by simp, by simp; exact .inr (.inl ⟨i, rfl⟩)⟩, ⟨0, by rw [e]; exact .nil, rfl⟩, ?_⟩
    rw [e]
    exact told_of fun S => by simp [F_inner_of, m_inner_of, N_inner_of, startL, x_ix, at0, sz, x_inConsS, x_inNilS, ofS_eq]
  | nam z a _ =>
    have e : inn (.tup [w "name", .str z]) = [] := by simp [inn]; rfl
    refine ⟨⟨_, _, rfl, by simp, by simp; exact .inl ⟨z, rfl⟩⟩, ⟨0, by rw [e]; exact .nil, rfl⟩, ?_⟩
    rw [e]
    exact told_of fun S => by simp [F_inner_of, m_inner_of, N_inner_of, startL, x_ix, at0, sz, x_inConsS, x_inNilS, ofS_eq]
  | @two n p q a b s hs h1 h2 =>
    have e : inn (.tup [w "two", w s, a, b]) = [a, b] := by simp [inn, fnw_of, h1.innF, h2.innF]; rfl
    refine ⟨⟨_, _, rfl, by simp, by simp; exact ⟨.inl ⟨_, rfl⟩, h1.fd hn, h2.fd hn⟩⟩, ⟨p + q, by rw [e]; exact .cons (.inl h1) (.one (.inl h2)), by omega⟩, ?_⟩
    rw [e]
    exact told_of fun S => by simp [F_inner_of, m_inner_of, N_inner_of, startL, x_ix, at0, at2, at3, sz, x_inConsS, x_inNilS, ofS_eq]
  | @fn n p bs k ps a b c d e =>
    have e1 : inn (.tup [w (kw k), .tup (ps.map .str), .tup bs]) = bs := by cases k <;> simp [inn, kw, fnw_of, nms_innF, e.innF]
    refine ⟨⟨_, _, rfl, by simp, by simp; exact ⟨nms_fd b a, e.fd hn d⟩⟩, ⟨p, by rw [e1]; exact e.ps, rfl⟩, ?_⟩
    rw [e1]
    exact told_of fun S => by cases k <;> simp [kw, F_inner_of, m_inner_of, N_inner_of, startL, x_ix, at0, at2, sz, x_inConsS, x_inNilS, ofS_eq, x_listU]
  | @call n p q f as h1 h2 h3 =>
    have e : inn (.tup [w "call", f, .tup as]) = [f] ++ as := by simp [inn, fnw_of, h1.innF, h3.innF]
    refine ⟨⟨_, _, rfl, by simp, by simp; exact ⟨h1.fd hn, h3.fd hn h2⟩⟩, ⟨p + q, by rw [e]; exact (Ps.one (.inl h1)).app h3.ps, by omega⟩, ?_⟩
    rw [e]
    exact told_two fun S => by
      have := add2 (S := S) (xs := [f]) (ys := as) (by simp; omega)
      simp at this
      simp [F_inner_of, m_inner_of, N_inner_of, startL, x_ix, at0, at1, at2, sz, x_inConsS, x_inNilS, ofS_eq, x_listU, this]
  | @step n p q a b h1 h2 =>
    have e : inn (.tup [w "step", a, b]) = [a, b] := by simp [inn, fnw_of, h1.innF, h2.innF]
    refine ⟨⟨_, _, rfl, by simp, by simp; exact ⟨h1.fd hn, h2.fd hn⟩⟩, ⟨p + q, by rw [e]; exact .cons (.inl h1) (.one (.inl h2)), by omega⟩, ?_⟩
    rw [e]
    exact told_of fun S => by simp [F_inner_of, m_inner_of, N_inner_of, startL, x_ix, at0, at1, at2, sz, x_inConsS, x_inNilS, ofS_eq]
theorem St.part {n p : Nat} {hd : Bool} {d : D} (h : St P (n + 1) hd p d) (hn : n ≤ 30) : Part P n p d := by
  cases h with
  | @lets n p h t b z a _ c =>
    have e : inn (.tup [w (if b then "set" else "let"), .str z, t]) = [t] := by cases b <;> (simp [inn, fnw_of, c.innF]; rfl)
    refine ⟨⟨_, _, rfl, by simp, by simp; exact ⟨.inl ⟨_, rfl⟩, c.fd hn⟩⟩, ⟨p, by rw [e]; exact .one (.inl c), rfl⟩, ?_⟩
    rw [e]
    exact told_of fun S => by cases b <;> simp [F_inner_of, m_inner_of, N_inner_of, startL, x_ix, at0, at2, sz, x_inConsS, x_inNilS, ofS_eq]
  | @fault n p h t z a b c =>
    have e : inn (.tup [w "fault", .str z, t]) = [t] := by simp [inn, fnw_of, c.innF]; rfl
    refine ⟨⟨_, _, rfl, by simp, by simp; exact ⟨.inl ⟨_, rfl⟩, c.fd hn⟩⟩, ⟨p, by rw [e]; exact .one (.inl c), rfl⟩, ?_⟩
    rw [e]
    exact told_of fun S => by simp [F_inner_of, m_inner_of, N_inner_of, startL, x_ix, at0, at2, sz, x_inConsS, x_inNilS, ofS_eq]
  | @hand n p t a =>
    have e : inn (.tup [w "hand", t]) = [t] := by simp [inn, fnw_of, a.innF]
    refine ⟨⟨_, _, rfl, by simp, by simp; exact a.fd hn⟩, ⟨p, by rw [e]; exact .one (.inl a), rfl⟩, ?_⟩
    rw [e]
    exact told_of fun S => by simp [F_inner_of, m_inner_of, N_inner_of, startL, x_ix, at0, at1, sz, x_inConsS, x_inNilS, ofS_eq]
  | @does n p h t b a =>
    have e : inn (.tup [w (if b then "back" else "do"), t]) = [t] := by cases b <;> simp [inn, fnw_of, a.innF]
    refine ⟨⟨_, _, rfl, by simp, by simp; exact a.fd hn⟩, ⟨p, by rw [e]; exact .one (.inl a), rfl⟩, ?_⟩
    rw [e]
    exact told_of fun S => by cases b <;> simp [F_inner_of, m_inner_of, N_inner_of, startL, x_ix, at0, at1, sz, x_inConsS, x_inNilS, ofS_eq]
  | @whl n p q h t bs a b c =>
    have e : inn (.tup [w "while", t, .tup bs]) = [t] ++ bs := by simp [inn, fnw_of, a.innF, c.innF]
    refine ⟨⟨_, _, rfl, by simp, by simp; exact ⟨a.fd hn, c.fd hn b⟩⟩, ⟨p + q, by rw [e]; exact (Ps.one (.inl a)).app c.ps, by omega⟩, ?_⟩
    rw [e]
    exact told_two fun S => by
      have := add2 (S := S) (xs := [t]) (ys := bs) (by simp; omega)
      simp at this
      simp [F_inner_of, m_inner_of, N_inner_of, startL, x_ix, at0, at1, at2, sz, x_inConsS, x_inNilS, ofS_eq, x_listU, this]
  | @ifs n p q r h t bs es a b c d e =>
    have e1 : inn (.tup [w "if", t, .tup bs, .tup es]) = [t] ++ bs ++ es := by simp [inn, fnw_of, a.innF, c.innF, e.innF]
    refine ⟨⟨_, _, rfl, by simp, by simp; exact ⟨a.fd hn, c.fd hn b, e.fd hn d⟩⟩, ⟨p + q + r, by rw [e1]; exact ((Ps.one (.inl a)).app c.ps).app e.ps, by omega⟩, ?_⟩
    rw [e1]
    exact told_three fun S => by
      have h2 := add2 (S := S) (xs := [t]) (ys := bs) (by simp; omega)
      have h4 := add4 (S := S) (xs := [t]) (ys := bs) (zs := es) (by simp; omega)
      simp at h2 h4
      simp [F_inner_of, m_inner_of, N_inner_of, startL, x_ix, at0, at1, at2, at3, sz, x_inConsS, x_inNilS, ofS_eq, x_listU, h2, h4]
  | @trys n p q r h bs es gs y z a b c d e f g i =>
    have e1 : inn (.tup [w "try", .tup bs, .str y, .str z, .tup es, .tup gs]) = bs ++ es ++ gs := by simp [inn, fnw_of, d.innF, f.innF, i.innF]; rfl
    refine ⟨⟨_, _, rfl, by simp, by simp; exact ⟨d.fd hn c, .inl ⟨_, rfl⟩, .inl ⟨_, rfl⟩, f.fd hn e, i.fd hn g⟩⟩, ⟨p + q + r, by rw [e1]; exact (d.ps.app f.ps).app i.ps, by omega⟩, ?_⟩
    rw [e1]
    exact told_three fun S => by
      have h2 := add2 (S := S) (xs := bs) (ys := es) (by omega)
      have h4 := add4 (S := S) (xs := bs) (ys := es) (zs := gs) (by omega)
      simp at h2 h4
      simp [F_inner_of, m_inner_of, N_inner_of, startL, x_ix, at0, at1, at4, at5, sz, x_inConsS, x_inNilS, ofS_eq, x_listU, h2, h4]
theorem Pt.part {n p : Nat} {d : D} (h : Pt P (n + 1) p d) (hn : n ≤ 30) : Part P n p d := by
  rcases h with h | ⟨_, h⟩
  · exact h.part hn
  · exact h.part hn
end K09

set_option Elab.async false
set_option linter.all false
set_option maxRecDepth 100000
set_option autoImplicit false
set_option maxHeartbeats 1000000
namespace K09
open PySem PySem.Spec L2 ML
variable {P : Str → Prop}
theorem inn_len {z : Str} {xs : List D} (hl : xs.length ≤ 20) (hx : ∀ x ∈ xs, FdOk x) : (inn (.tup (.str z :: xs))).length ≤ 400 := by
  have gen : ∀ xs : List D, (∀ x ∈ xs, FdOk x) → (xs.flatMap (innF (fnw z))).length ≤ 20 * xs.length := by
    intro xs
    induction xs with
    | nil => intro _; simp
    | cons x xs ih =>
      intro hx
      have := ih fun y hy => hx y (List.mem_cons_of_mem _ hy)
      have h1 := innF_len (hx x List.mem_cons_self) (fnw z)
      rw [List.flatMap_cons, List.length_append, List.length_cons]
      omega
  have := gen xs hx
  show (xs.flatMap (innF (fnw z))).length ≤ 400
  omega
theorem Part.len {n p : Nat} {d : D} (h : Part P n p d) : (inn d).length ≤ 400 := by
  obtain ⟨z, xs, rfl, a, b⟩ := h.form
  exact inn_len a b
theorem Part.law {n p : Nat} {d : D} (h : Part P n p d) : Told F__law_inner d (inn d) := by
  obtain ⟨z, xs, rfl, a, b⟩ := h.form
  exact law_inner_eq b a
theorem Pt.zero {p : Nat} {d : D} (h : Pt P 0 p d) : False := by
  rcases h with h | ⟨_, h⟩ <;> cases h
/-! ### size_of -/
theorem sum_ints (ns : List Nat) (S : Store) : sumL (ns.map fun n : Nat => D.int (n : Int)) S = .ok (.int (ns.sum : Nat)) S := by
  unfold sumL
  have e : mapO intO (ns.map fun n : Nat => D.int (n : Int)) = some (ns.map fun n : Nat => (n : Int)) := mapO_some (f := intO) (g := fun n : Nat => D.int (n : Int)) (h := fun n : Nat => (n : Int)) (fun _ => rfl) ns
  rw [e]
  clear e
  have g : ∀ ns : List Nat, (ns.map fun n : Nat => (n : Int)).sum = ((ns.sum : Nat) : Int) := fun ns => by
    induction ns with
    | nil => rfl
    | cons a ns ih => rw [List.map_cons, List.sum_cons, ih, List.sum_cons]; omega
  show R.ok (D.int (ns.map fun n : Nat => (n : Int)).sum) S = _
  rw [g]
theorem size_row {n m r : Nat} {all : List D} {l : ML.Loc} (h1 : 1 < l.length) (ih : ∀ p d, Pt P n p d → ∀ S, ∃ X, G_size_of m 0 [d] S = .ok (.int p) (S ++ X)) {q : Nat} {ks : List D} (h : Ps P n q ks) :
    ∀ (acc : List D) (S : Store), lstAt S r = some all → acc.length + ks.length ≤ 16000000 → ∃ (X : Store) (ns : List Nat), compL (fun S' => lstAt S' r = some all) (.one 1) yesM (callE 1 (G_size_of m 0) (consA (varE 1) nilA)) l ks acc S = .ok (acc ++ (ns.map fun n : Nat => D.int (n : Int))) (S ++ X) ∧ ns.sum = q := by
  induction h with
  | nil => intro acc S hk _; exact ⟨[], [], by rw [compL_nil hk]; simp, rfl⟩
  | @cons p q a as hp _ ihs =>
    intro acc S hk hl
    rw [List.length_cons] at hl
    obtain ⟨X, e1⟩ := ih p a hp S
    obtain ⟨Y, ns, e2, e3⟩ := ihs (acc ++ [.int p]) (S ++ X) (lst_mono r all S X hk) (by simp; omega)
    refine ⟨X ++ Y, p :: ns, ?_, by simp [e3]⟩
    have v : varE 1 (l.set 1 (some a)) S = .ok a S := by unfold varE; rw [List.getElem?_set_self h1]
    have c : callE 1 (G_size_of m 0) (consA (varE 1) nilA) (l.set 1 (some a)) S = .ok (.int p) (S ++ X) := by simp [v, e1]
    rw [compL_cons hk]
    simp only [Tgt.put, x_yes, R.bind_ok, if_true, c]
    rw [if_pos (show _ < sizeLine by rw [sz]; omega), e2]
    simp
theorem Part.size {n m p : Nat} {d : D} (h : Part P n p d) (ih : ∀ p d, Pt P n p d → ∀ S, ∃ X, G_size_of m 0 [d] S = .ok (.int p) (S ++ X)) (S : Store) : ∃ X, G_size_of (m + 1) 0 [d] S = .ok (.int p) (S ++ X) := by
  obtain ⟨X, r, e1, k1, _⟩ := h.told S
  obtain ⟨q, hq, rfl⟩ := h.kids
  have hl := h.len
  obtain ⟨Y, ns, e2, e3⟩ := size_row (r := r) (all := inn d) (l := [some d, none]) (by simp) ih hq [] (S ++ X) (lstAt_of k1) (by simp; omega)
  have e4 := x_srcR k1
  have e5 := sum_ints ns (S ++ X ++ Y)
  rw [e3] at e5
  refine ⟨X ++ Y, ?_⟩
  rw [G_size_of_0, ← List.append_assoc]
  simp only [List.append_assoc] at e1 e2 e4 e5 ⊢
  simp [m_size_of, N_size_of, startL, e1, e4, Tgt.own, wipeL, e2, e5]
theorem size_eq : ∀ (n m p : Nat) (d : D), Pt P n p d → n ≤ 31 → n ≤ m → ∀ S, ∃ X, G_size_of m 0 [d] S = .ok (.int p) (S ++ X)
  | 0, m, p, d, h, _, _ => h.zero.elim
  | n + 1, m, p, d, h, hn, hm => by
    obtain ⟨k, rfl⟩ : ∃ k, m = k + 1 := ⟨m - 1, by omega⟩
    exact (h.part (by omega)).size fun p d h => size_eq n k p d h (by omega) (by omega)
/-! ### the functions, as they begin -/
def fn2 : D → Bool
  | .tup (.str z :: _) => decide (Str.ofString "fun" = z) || (decide (Str.ofString "loop" = z) || false)
  | _ => false
def ent (k : D) (o : Int) : D := match k with
  | .tup [a, b, c] => .tup [a, b, c, .int o]
  | _ => .non
def gst (g : D → Int → List D → List D) (o : Int) (acc : List D) (k : D) : List D := if fn2 k = true then g k acc.length (acc ++ [ent k o]) else g k o acc
def gat : Nat → D → Int → List D → List D
  | 0, _, _, acc => acc
  | n + 1, d, o, acc => (inn d).foldl (gst (gat n) o) acc
theorem Pt.word {n p : Nat} {k : D} (h : Pt P n p k) : ∃ z r, k = .tup (.str z :: r) ∧ (fn2 k = true → ∃ b c, r = [b, c]) := by
  rcases h with h | ⟨_, h⟩
  · cases h <;> refine ⟨_, _, rfl, ?_⟩ <;> intro q <;> first | exact ⟨_, _, rfl⟩ | simp [fn2, ofS_eq] at q
  · cases h with
    | lets b _ _ _ _ => exact ⟨_, _, rfl, fun q => ⟨_, _, rfl⟩⟩
    | fault _ _ _ _ => exact ⟨_, _, rfl, fun q => ⟨_, _, rfl⟩⟩
    | hand _ => exact ⟨_, _, rfl, fun q => by simp [fn2, ofS_eq] at q⟩
    | does b _ => exact ⟨_, _, rfl, fun q => by cases b <;> simp [fn2, ofS_eq] at q⟩
    | whl _ _ _ => exact ⟨_, _, rfl, fun q => ⟨_, _, rfl⟩⟩
    | ifs _ _ _ _ _ => exact ⟨_, _, rfl, fun q => by simp [fn2, ofS_eq] at q⟩
    | trys _ _ _ _ _ _ _ _ _ => exact ⟨_, _, rfl, fun q => by simp [fn2, ofS_eq] at q⟩
theorem fn2_in {z : Str} {r : List D} (S : Store) : inD (.str z) (.tup [w "fun", w "loop"]) S = .ok (fn2 (.tup (.str z :: r))) S := by
  rw [x_inConsS, x_inConsS, x_inNilS]
  rfl
/-- the rest stays -/
def Fr (f : Nat) (S S' : Store) : Prop := S.length ≤ S'.length ∧ ∀ i c, S[i]? = some c → i ≠ f → S'[i]? = some c
theorem Fr.trans {f : Nat} {S T U : Store} (a : Fr f S T) (b : Fr f T U) : Fr f S U := ⟨Nat.le_trans a.1 b.1, fun i c h hi => b.2 i c (a.2 i c h hi) hi⟩
theorem Fr.app (f : Nat) (S X : Store) : Fr f S (S ++ X) := ⟨by simp, fun i c h _ => at_app h⟩
theorem Fr.set {f : Nat} (S : Store) (c : Cell) : Fr f S (S.set f c) := ⟨by simp, fun i c h hi => by rw [get_set_ne (Ne.symm hi)]; exact h⟩
/-- what a gatherer does -/
def Gath (F : List D → Store → R D) (n p : Nat) (d : D) : Prop := ∀ (o : Int) (acc : List D) (S : Store) (f : Nat), S[f]? = some (.lst acc) → acc.length + p ≤ 10001 → ∃ S', F [d, .int o, .ref f] S = .ok .non S' ∧ S'[f]? = some (.lst (gat n d o acc)) ∧ Fr f S S' ∧ (gat n d o acc).length + 1 ≤ acc.length + p
theorem gather_row {n m r f : Nat} {all : List D} {d : D} {o : Int} (hrf : r ≠ f) (ih : ∀ p d, Pt P n p d → Gath (G_gather m 0) n p d) {q : Nat} {ks : List D} (h : Ps P n q ks) :
    ∀ (acc : List D) (S : Store) (x3 : Option D), S[r]? = some (.lst all) → S[f]? = some (.lst acc) → acc.length + q ≤ 10000 →
      ∃ S' y3, forL (fun S' => lstAt S' r = some all) (nameT 3) (b_gather_0 (G_gather m)) ks [some d, some (.int o), some (.ref f), x3] S = .ok (.nx, [some d, some (.int o), some (.ref f), y3]) S' ∧ S'[f]? = some (.lst (ks.foldl (gst (gat n) o) acc)) ∧ Fr f S S' ∧ (ks.foldl (gst (gat n) o) acc).length ≤ acc.length + q := by
  induction h with
  | nil => intro acc S x3 hr hf hl; exact ⟨S, x3, by rw [forL_nil (lstAt_of hr)], hf, ⟨Nat.le_refl _, fun i c h _ => h⟩, by simp⟩
  | @cons p q a as hp _ ihs =>
    intro acc S x3 hr hf hl
    obtain ⟨z, rr, rfl, hw⟩ := hp.word
    have hin := fun S => fn2_in (z := z) (r := rr) S
    by_cases c : fn2 (.tup (.str z :: rr)) = true
    · obtain ⟨b, cc, rfl⟩ := hw c
      have e1 := x_append (d := .tup [.str z, b, cc, .int o]) (lstAt_of hf) (by omega)
      obtain ⟨S1, hS1⟩ : ∃ S1, S.set f (.lst (acc ++ [.tup [.str z, b, cc, .int o]])) = S1 := ⟨_, rfl⟩
      rw [hS1] at e1
      have f1 : Fr f S S1 := by rw [← hS1]; exact Fr.set S _
      have k1 : S1[f]? = some (.lst (acc ++ [.tup [.str z, b, cc, .int o]])) := by rw [← hS1]; exact get_set_at hf
      have e2 : lenV [.ref f] S1 = .ok (.int ((acc.length : Int) + 1)) S1 := by
        rw [x_lenR (lstAt_of k1)]
        simp
      have hg := gat
      obtain ⟨S2, e3, k2, f2, l2⟩ := ih p _ hp (acc.length : Int) (acc ++ [.tup [.str z, b, cc, .int o]]) S1 f k1 (by
        have : 1 ≤ p := by
          rcases hp with h | ⟨_, h⟩ <;> cases h <;> omega
        simp; omega)
      have ee : (acc.length : Int) + 1 - 1 = (acc.length : Int) := by omega
      obtain ⟨S3, y3, e4, k3, f3, l3⟩ := ihs _ S2 (some (.tup [.str z, b, cc])) (f2.2 r _ (f1.2 r _ hr hrf) hrf) k2 (by simp at l2; omega)
      have es : gst (gat n) o acc (.tup [.str z, b, cc]) = gat n (.tup [.str z, b, cc]) (acc.length : Int) (acc ++ [.tup [.str z, b, cc, .int o]]) := by
        unfold gst
        rw [if_pos c]
        rfl
      refine ⟨S3, y3, ?_, by rw [List.foldl_cons, es]; exact k3, (f1.trans f2).trans f3, by rw [List.foldl_cons, es]; simp at l2; omega⟩
      have eb : b_gather_0 (G_gather m) [some d, some (.int o), some (.ref f), some (.tup [.str z, b, cc])] S = .ok (.nx, [some d, some (.int o), some (.ref f), some (.tup [.str z, b, cc])]) S2 := by
        simp [b_gather_0, x_ix, at0, at1, at2, sz, hin, c, lstAt_of hf, e1, e2, ee, e3]
      rw [forL_cons (lstAt_of hr)]
      simp [eb, e4]
    · obtain ⟨S2, e3, k2, f2, l2⟩ := ih p _ hp o acc S f hf (by omega)
      obtain ⟨S3, y3, e4, k3, f3, l3⟩ := ihs _ S2 (some (.tup (.str z :: rr))) (f2.2 r _ hr hrf) k2 (by omega)
      have es : gst (gat n) o acc (.tup (.str z :: rr)) = gat n (.tup (.str z :: rr)) o acc := by
        unfold gst
        rw [if_neg c]
      refine ⟨S3, y3, ?_, by rw [List.foldl_cons, es]; exact k3, f2.trans f3, by rw [List.foldl_cons, es]; omega⟩
      have eb : b_gather_0 (G_gather m) [some d, some (.int o), some (.ref f), some (.tup (.str z :: rr))] S = .ok (.nx, [some d, some (.int o), some (.ref f), some (.tup (.str z :: rr))]) S2 := by
        simp [b_gather_0, x_ix, at0, sz, hin, c, e3]
      rw [forL_cons (lstAt_of hr)]
      simp [eb, e4]
theorem Part.gather {n m p : Nat} {d : D} (h : Part P n p d) (ih : ∀ p d, Pt P n p d → Gath (G_gather m 0) n p d) : Gath (G_gather (m + 1) 0) (n + 1) p d := fun o acc S f hf hl => by
  obtain ⟨X, r, e1, k1, hr⟩ := h.told S
  obtain ⟨q, hq, rfl⟩ := h.kids
  have lf := lt_of_at hf
  obtain ⟨S', y3, e2, k2, f2, l2⟩ := gather_row (d := d) (o := o) (r := r) (f := f) (all := inn d) (by omega) ih hq acc (S ++ X) none k1 (at_app hf) (by omega)
  have e4 := x_srcR k1
  refine ⟨S', ?_, k2, (Fr.app f S X).trans f2, by show (List.foldl (gst (gat n) o) acc (inn d)).length + 1 ≤ _; omega⟩
  rw [G_gather_0]
  simp [m_gather, N_gather, startL, e1, e4, e2]
theorem gather_eq : ∀ (n m p : Nat) (d : D), Pt P n p d → n ≤ 31 → n ≤ m → Gath (G_gather m 0) n p d
  | 0, m, p, d, h, _, _ => h.zero.elim
  | n + 1, m, p, d, h, hn, hm => by
    obtain ⟨k, rfl⟩ : ∃ k, m = k + 1 := ⟨m - 1, by omega⟩
    exact (h.part (by omega)).gather fun p d h => gather_eq n k p d h (by omega) (by omega)
end K09

set_option Elab.async false
set_option linter.all false
set_option maxRecDepth 100000
set_option autoImplicit false
set_option maxHeartbeats 1000000
namespace K09
open PySem PySem.Spec L2 ML
/-! ### what is drawn -/
def cellAt (ns : List Int) (k : Nat) : Int := (ns[k]?).getD 0
theorem cell_at_eq (ns : List Int) (k : Nat) (S : Store) : F__law_cell_at [.lis (ns.map .int), .int k] S = .ok (.int (cellAt ns k)) S := by
  simp [F__law_cell_at, m__law_cell_at, N__law_cell_at, startL]
  by_cases h : k < ns.length
  · simp [h, cellAt, x_ixD (S := S) (show ixO S (.lis (ns.map D.int)) (.int (k : Nat)) = some (.int ns[k]) from atI_nat (by simp [h]))]
  · simp [h, cellAt]
theorem cell_int (ns : List Int) (i : Int) (hi : 0 ≤ i) : ∃ z : Int, ∀ S, F__law_cell_at [.lis (ns.map .int), .int i] S = .ok (.int z) S :=
  ⟨cellAt ns i.toNat, fun S => by
    have := cell_at_eq ns i.toNat S
    rwa [show ((i.toNat : Nat) : Int) = i by omega] at this⟩
def stL (ns : List Int) (a L : Int) (nr : Nat) : List (Key × D) := [(.inr (Str.ofString "cells"), .lis (ns.map .int)), (.inr (Str.ofString "at"), .int a), (.inr (Str.ofString "left"), .int L), (.inr (Str.ofString "names"), .ref nr)]
def stC (ns : List Int) (a L : Int) (nr : Nat) : Cell := .dct (stL ns a L nr)
section
variable {ns : List Int} {a L : Int} {nr s : Nat} {S : Store}
theorem st_cells (h : S[s]? = some (stC ns a L nr)) : ixO S (.ref s) (.str (Str.ofString "cells")) = some (.lis (ns.map .int)) := by rw [x_ixK (kvAt_of h)]; rfl
theorem st_at (h : S[s]? = some (stC ns a L nr)) : ixO S (.ref s) (.str (Str.ofString "at")) = some (.int a) := by rw [x_ixK (kvAt_of h)]; rfl
theorem st_left (h : S[s]? = some (stC ns a L nr)) : ixO S (.ref s) (.str (Str.ofString "left")) = some (.int L) := by rw [x_ixK (kvAt_of h)]; rfl
theorem st_names (h : S[s]? = some (stC ns a L nr)) : ixO S (.ref s) (.str (Str.ofString "names")) = some (.ref nr) := by rw [x_ixK (kvAt_of h)]; rfl
theorem set_dS {n : Nat} {z : Str} {kvs : List (Key × D)} {v : D} (h : S[n]? = some (.dct kvs)) (hz : kvs.length < 16777216) : setO S (.ref n) (.str z) v = some (S.set n (.dct (dPut kvs (.inr z) v))) := by
  unfold setO
  simp only [h, keyO]
  rw [if_pos (by rw [sz]; exact hz)]
theorem put_at (h : S[s]? = some (stC ns a L nr)) (b : Int) : setO S (.ref s) (.str (Str.ofString "at")) (.int b) = some (S.set s (stC ns b L nr)) := by
  rw [set_dS h (show (4 : Nat) < 16777216 by decide)]
  rfl
theorem put_left (h : S[s]? = some (stC ns a L nr)) (M : Int) : setO S (.ref s) (.str (Str.ofString "left")) (.int M) = some (S.set s (stC ns a M nr)) := by
  rw [set_dS h (show (4 : Nat) < 16777216 by decide)]
  rfl
theorem next_eq (h : S[s]? = some (stC ns a L nr)) (h0 : 0 ≤ a) (h1 : a ≤ 100000) : ∃ y : Int, 0 ≤ y ∧ F__law_next [.ref s] S = .ok (.int y) (S.set s (stC ns (a + 1) L nr)) := by
  obtain ⟨m, e1, hm⟩ : ∃ m : Int, max 1 (ns.length : Int) = m ∧ 0 < m := ⟨_, rfl, by omega⟩
  obtain ⟨b, eb, hb⟩ : ∃ b : Int, a + 1 = b ∧ 0 ≤ b ∧ b ≤ 100001 := ⟨_, rfl, by omega, by omega⟩
  obtain ⟨k, e2⟩ : ∃ k : Nat, b % m = (k : Int) := ⟨(b % m).toNat, by have := Int.emod_nonneg b (show m ≠ 0 by omega); omega⟩
  have e3 : b.natAbs < 18446744073709551616 := by omega
  have p := put_at h b
  have h' : (S.set s (stC ns b L nr))[s]? = some (stC ns b L nr) := get_set_at h
  have q1 := st_at h'
  have q2 := st_cells h'
  have q3 := st_at h
  rw [eb]
  obtain ⟨S1, hS1⟩ : ∃ S1, S.set s (stC ns b L nr) = S1 := ⟨_, rfl⟩
  rw [hS1] at p q1 q2 ⊢
  refine ⟨(cellAt ns k * 48271 + b * b * 69621) % 2147483647 / 8, by have := Int.emod_nonneg (cellAt ns k * 48271 + b * b * 69621) (show (2147483647 : Int) ≠ 0 by decide); omega, ?_⟩
  simp [F__law_next, m__law_next, N__law_next, startL, x_ix, q3, eb, p, q1, q2, e1, hm, e2, cell_at_eq]
  generalize cellAt ns k = c
  simp [e3]
end
theorem four_at (a b c d : D) (i : Int) (h0 : 0 ≤ i) (h1 : i < 4) : atI [a, b, c, d] i = some a ∨ atI [a, b, c, d] i = some b ∨ atI [a, b, c, d] i = some c ∨ atI [a, b, c, d] i = some d := by
  have : i = 0 ∨ i = 1 ∨ i = 2 ∨ i = 3 := by omega
  rcases this with rfl | rfl | rfl | rfl
  · exact .inl (at0 _ _)
  · exact .inr (.inl (at1 _ _ _))
  · exact .inr (.inr (.inl (at2 _ _ _ _)))
  · exact .inr (.inr (.inr (at3 _ _ _ _ _)))
theorem number_eq (y : Int) (hy : 0 ≤ y) : ∃ i : Int, -1000000000000 ≤ i ∧ i ≤ 1000000000000 ∧ ∀ S, ∃ X, F__law_number [.int y] S = .ok (.int i) (S ++ X) := by
  obtain ⟨b, hb, e1⟩ : ∃ b : Int, (b = 1000000000000 ∨ b = -1000000000000 ∨ b = 0) ∧ atI [D.int 1000000000000, .int (-1000000000000), .int 0] (y / 8 % 3) = some (.int b) := by
    have : y / 8 % 3 = 0 ∨ y / 8 % 3 = 1 ∨ y / 8 % 3 = 2 := by omega
    rcases this with e | e | e <;> rw [e]
    · exact ⟨_, .inl rfl, at0 _ _⟩
    · exact ⟨_, .inr (.inl rfl), at1 _ _ _⟩
    · exact ⟨_, .inr (.inr rfl), at2 _ _ _ _⟩
  obtain ⟨i, hi, e2⟩ : ∃ i : Int, (-1000000000000 ≤ i ∧ i ≤ 1000000000000) ∧ atI [D.int (y / 8 % 10), .int (y / 8 % 2000 - 1000), .int (y % 2000000000001 - 1000000000000), .int b] (y % 4) = some (.int i) := by
    rcases four_at (D.int (y / 8 % 10)) (.int (y / 8 % 2000 - 1000)) (.int (y % 2000000000001 - 1000000000000)) (.int b) (y % 4) (by omega) (by omega) with e | e | e | e
    · exact ⟨_, ⟨by omega, by omega⟩, e⟩
    · exact ⟨_, ⟨by omega, by omega⟩, e⟩
    · exact ⟨_, ⟨by omega, by omega⟩, e⟩
    · exact ⟨_, by rcases hb with q | q | q <;> subst q <;> omega, e⟩
  refine ⟨i, hi.1, hi.2, fun S => ⟨[.lst [.int 1000000000000, .int (-1000000000000), .int 0], .lst [.int (y / 8 % 10), .int (y / 8 % 2000 - 1000), .int (y % 2000000000001 - 1000000000000), .int b]], ?_⟩⟩
  obtain ⟨S1, hS1⟩ : ∃ S1, S ++ [Cell.lst [.int 1000000000000, .int (-1000000000000), .int 0]] = S1 := ⟨_, rfl⟩
  have k1 : ixO S1 (.ref S.length) (.int (y / 8 % 3)) = some (.int b) := by
    rw [x_ixR (lstAt_of (by rw [← hS1]; exact at_end))]
    exact e1
  obtain ⟨S2, hS2⟩ : ∃ S2, S1 ++ [Cell.lst [.int (y / 8 % 10), .int (y / 8 % 2000 - 1000), .int (y % 2000000000001 - 1000000000000), .int b]] = S2 := ⟨_, rfl⟩
  have k2 : ixO S2 (.ref S1.length) (.int (y % 4)) = some (.int i) := by
    rw [x_ixR (lstAt_of (by rw [← hS2]; exact at_end))]
    exact e2
  have e3 : S ++ [Cell.lst [.int 1000000000000, .int (-1000000000000), .int 0], .lst [.int (y / 8 % 10), .int (y / 8 % 2000 - 1000), .int (y % 2000000000001 - 1000000000000), .int b]] = S2 := by rw [← hS2, ← hS1]; simp
  rw [e3]
  simp [F__law_number, m__law_number, N__law_number, startL, sz, hS1, hS2, x_ix, k1, k2]
end K09

set_option Elab.async false
set_option linter.all false
set_option maxRecDepth 100000
set_option autoImplicit false
set_option maxHeartbeats 1000000
namespace K09
open PySem PySem.Spec L2 ML
/-! ### the names -/
def ltr (i : Int) : Nat := 97 + (i % 26).toNat
theorem ltr_ok (i : Int) : 97 ≤ ltr i ∧ ltr i ≤ 122 := by
  have := Int.emod_nonneg i (show (26 : Int) ≠ 0 by decide)
  have := Int.emod_lt_of_pos i (show (0 : Int) < 26 by decide)
  unfold ltr
  omega
theorem letters_at (i : Int) (S : Store) : ixO S (.str (Str.ofString "abcdefghijklmnopqrstuvwxyz")) (.int (i % 26)) = some (sgn (ltr i)) := by
  have h0 := Int.emod_nonneg i (show (26 : Int) ≠ 0 by decide)
  have h1 := Int.emod_lt_of_pos i (show (0 : Int) < 26 by decide)
  have e : cs (Str.ofString "abcdefghijklmnopqrstuvwxyz") = (List.range 26).map (97 + ·) := by rw [cs_of]; rfl
  have el : (Str.ofString "abcdefghijklmnopqrstuvwxyz").length = 26 := by rw [← cs_len, e]; rfl
  rw [x_ixT, el, if_pos (by rw [sz]; omega), e]
  obtain ⟨k, hk⟩ : ∃ k : Nat, i % 26 = (k : Int) := ⟨(i % 26).toNat, by omega⟩
  have hk2 : k < 26 := by omega
  rw [hk, L2.atI_nat (v := 97 + k)]
  · unfold ltr
    rw [hk]
    rfl
  · rw [List.getElem?_map, List.getElem?_range hk2]
    rfl
def wordB (c : Int) : List Nat := (List.range 8).map fun k : Nat => ltr (c / 64 + 5 * (k : Int))
theorem wordB_len (c : Int) : (wordB c).length = 8 := by simp [wordB]
theorem wordB_ok (c : Int) : ∀ x ∈ wordB c, 97 ≤ x ∧ x ≤ 122 := fun x hx => by
  unfold wordB at hx
  obtain ⟨k, _, rfl⟩ := List.mem_map.mp hx
  exact ltr_ok _
theorem nm_mk {w : List Nat} (h1 : 1 ≤ w.length) (h2 : w.length ≤ 8) (h3 : ∀ x ∈ w, 97 ≤ x ∧ x ≤ 122) : NmOk (mkS w) := by
  unfold NmOk
  rw [cs_mkS]
  exact ⟨h1, h2, h3⟩
structure Names (zs : List Str) : Prop where
  len : zs.length = 8
  ok : ∀ z ∈ zs, NmOk z
  nd : zs.Nodup
theorem names_of {f : Nat → List Nat} (h1 : ∀ k, k < 8 → 1 ≤ (f k).length ∧ (f k).length ≤ 8 ∧ ∀ x ∈ f k, 97 ≤ x ∧ x ≤ 122) (h2 : ∀ i j, i < j → j < 8 → f i ≠ f j) : Names ((List.range 8).map fun k => mkS (f k)) := by
  refine ⟨by simp, fun z hz => ?_, ?_⟩
  · obtain ⟨k, hk, rfl⟩ := List.mem_map.mp hz
    have := h1 k (List.mem_range.mp hk)
    exact nm_mk this.1 this.2.1 this.2.2
  · unfold List.Nodup
    rw [List.pairwise_map]
    refine List.Pairwise.imp_of_mem (R := (· < ·)) (fun {a b} ha hb hab => ?_) List.pairwise_lt_range
    rw [Ne, mkS_inj]
    exact h2 a b hab (List.mem_range.mp hb)
/-- the beginnings of one -/
theorem names_one (c : Int) : Names ((List.range 8).map fun k => mkS ((wordB c).take (k + 1))) := by
  refine names_of (fun k hk => ⟨by rw [List.length_take, wordB_len]; omega, by rw [List.length_take, wordB_len]; omega, fun x hx => wordB_ok c x (List.mem_of_mem_take hx)⟩) fun i j hij hj e => ?_
  have := congrArg List.length e
  rw [List.length_take, List.length_take, wordB_len] at this
  omega
/-- alike but for one letter -/
theorem names_two (c : Int) {p n : Nat} (hp : p < n) (hn : n ≤ 8) : Names ((List.range 8).map fun k : Nat => mkS (((wordB c).set p (ltr (c / 2048 + 7 * (k : Int)))).take n)) := by
  have hl : ∀ k : Nat, ((wordB c).set p (ltr (c / 2048 + 7 * (k : Int)))).length = 8 := fun k => by rw [List.length_set, wordB_len]
  refine names_of (f := fun k : Nat => ((wordB c).set p (ltr (c / 2048 + 7 * (k : Int)))).take n) (fun k hk => ⟨by rw [List.length_take, hl]; omega, by rw [List.length_take, hl]; omega, fun x hx => ?_⟩) fun i j hij hj e => ?_
  · rcases List.mem_or_eq_of_mem_set (List.mem_of_mem_take hx) with q | q
    · exact wordB_ok c x q
    · subst q; exact ltr_ok _
  · have e1 : ∀ k : Nat, (((wordB c).set p (ltr (c / 2048 + 7 * (k : Int)))).take n)[p]? = some (ltr (c / 2048 + 7 * (k : Int))) := fun k => by
      rw [List.getElem?_take_of_lt hp, List.getElem?_set_self (by rw [wordB_len]; omega)]
    have e2 := e1 i
    rw [e, e1 j] at e2
    have e3 : ltr (c / 2048 + 7 * (j : Int)) = ltr (c / 2048 + 7 * (i : Int)) := Option.some.inj e2
    unfold ltr at e3
    generalize c / 2048 = x at e3
    omega
theorem cut_take1 {S : Store} {n k : Nat} {xs : List D} (h : lstAt S n = some xs) : sliceD (.ref n) none (some ((k : Int) + 1)) S = .ok (.ref S.length) (S ++ [.lst (xs.take (k + 1))]) := by
  have := x_slR (S := S) (n := n) (k := k + 1) h
  simpa using this
theorem names_eq (c : Int) (hc : 0 ≤ c) (S : Store) : ∃ X r zs, F__law_names [.int c, .int 8] S = .ok (.ref r) (S ++ X) ∧ S.length ≤ r ∧ (S ++ X)[r]? = some (.lst (zs.map .str)) ∧ Names zs := by
  have hr : ∀ S, rng1 [.int 8] S = .ok (intsD (List.range 8), still) S := fun S => by
    have := x_rng1 (S := S) (j := 8) (by omega) (by omega)
    rw [this, ← rng_ints]
    rfl
  -- the word
  have e1 : compL still (.one 6) yesM (binE ixD (varE 2) (binE modD (binE addD (binE fdivD (varE 0) (conE (.int 64))) (binE mulD (conE (.int 5)) (varE 6))) (conE (.int 26)))) [some (.int c), some (.int 8), some (.str (Str.ofString "abcdefghijklmnopqrstuvwxyz")), some (.int (1 + c % 8)), none, none, none] (intsD (List.range 8)) [] S = .ok ((wordB c).map sgn) S := by
    unfold intsD wordB
    rw [compL_mapG (fun k : Nat => D.int (k : Int)) (fun k : Nat => sgn (ltr (c / 64 + 5 * (k : Int)))) (List.range 8)]
    · rw [List.map_map]; rfl
    · intro k hk
      have h5 : (5 * (k : Int)) = 5 * (k : Int) := rfl
      simp [-x_ixT, x_ix, letters_at]
    · rw [sz]; simp
  obtain ⟨S1, hS1⟩ : ∃ S1, S ++ [Cell.lst ((wordB c).map sgn)] = S1 := ⟨_, rfl⟩
  have k1 : S1[S.length]? = some (.lst ((wordB c).map sgn)) := by rw [← hS1]; exact at_end
  by_cases w1 : c / 512 % 4 = 1
  · obtain ⟨X, e2⟩ := compXI (chk := still) (Inv := fun T => lstAt T S.length = some ((wordB c).map sgn)) still_mono (lst_mono _ _) (i := 6) (m := joinV (conE (.str (Str.ofString ""))) (sliceE (varE 4) noO (someO (binE addD (varE 6) (conE (.int 1)))))) (l := [some (.int c), some (.int 8), some (.str (Str.ofString "abcdefghijklmnopqrstuvwxyz")), some (.int (1 + c % 8)), some (.ref S.length), none, none])
      (fun d => match d with | .int i => strD ((wordB c).take (i.toNat + 1)) | d => d) (intsD (List.range 8)) (fun d hd T hT => by
        unfold intsD at hd
        obtain ⟨k, hk, rfl⟩ := List.mem_map.mp hd
        have hk := List.mem_range.mp hk
        refine ⟨[.lst ((wordB c).take (k + 1) |>.map sgn)], ?_⟩
        refine joinV_eq (q := T.length) (by simp) ?_ (lstAt_of at_end) (by rw [List.length_take]; omega)
        have := cut_take1 (k := k) hT
        rw [← List.map_take] at this
        simp [this]) [] S1 trivial (lstAt_of k1) (by simp [intsD])
    have e3 : (intsD (List.range 8)).map (fun d => match d with | .int i => strD ((wordB c).take (i.toNat + 1)) | d => d) = ((List.range 8).map fun k => mkS ((wordB c).take (k + 1))).map D.str := by
      unfold intsD
      rw [List.map_map, List.map_map]
      exact List.map_congr_left fun k _ => by simp [strD]
    rw [e3, List.nil_append] at e2
    refine ⟨[.lst ((wordB c).map sgn)] ++ X ++ [.lst (((List.range 8).map fun k => mkS ((wordB c).take (k + 1))).map D.str)], (S1 ++ X).length, _, ?_, by rw [← hS1]; simp, ?_, names_one c⟩
    · have e4 : S ++ ([Cell.lst ((wordB c).map sgn)] ++ X ++ [.lst (((List.range 8).map fun k => mkS ((wordB c).take (k + 1))).map D.str)]) = S1 ++ X ++ [.lst (((List.range 8).map fun k => mkS ((wordB c).take (k + 1))).map D.str)] := by rw [← hS1]; simp
      rw [e4]
      simp [F__law_names, m__law_names, N__law_names, startL, hr, Tgt.own, wipeL, e1, hS1, w1, e2]
    · have e4 : S ++ ([Cell.lst ((wordB c).map sgn)] ++ X ++ [.lst (((List.range 8).map fun k => mkS ((wordB c).take (k + 1))).map D.str)]) = S1 ++ X ++ [.lst (((List.range 8).map fun k => mkS ((wordB c).take (k + 1))).map D.str)] := by rw [← hS1]; simp
      rw [e4]
      exact at_end
  · obtain ⟨n, hn⟩ : ∃ n : Nat, 1 + c % 8 = (n : Int) := ⟨(1 + c % 8).toNat, by omega⟩
    have hn0 : 0 < n := by omega
    rw [hn] at e1
    have hn8 : n ≤ 8 := by omega
    obtain ⟨p, hp⟩ : ∃ p : Nat, c / 8 % (n : Int) = (p : Int) := ⟨(c / 8 % (n : Int)).toNat, by have := Int.emod_nonneg (c / 8) (show (n : Int) ≠ 0 by omega); omega⟩
    have hpn : p < n := by have := Int.emod_lt_of_pos (c / 8) (show (0 : Int) < (n : Int) by omega); omega
    obtain ⟨S2, hS2⟩ : ∃ S2, S1 ++ [Cell.lst []] = S2 := ⟨_, rfl⟩
    have l1 : S1.length = S.length + 1 := by rw [← hS1]; simp
    -- the turns
    have turn : ∀ (Z : Store) (ws : List Nat) (made : List D) (k : Nat) (x6 : Option D), ws.length = 8 → made.length ≤ 8 → (S ++ Z)[S.length]? = some (.lst (ws.map sgn)) → (S ++ Z)[S.length + 1]? = some (.lst made) →
        ∃ Z', b__law_names_0 [some (.int c), some (.int 8), some (.str (Str.ofString "abcdefghijklmnopqrstuvwxyz")), some (.int (n : Int)), some (.ref S.length), some (.ref (S.length + 1)), some (.int (k : Int))] (S ++ Z) = .ok (.nx, [some (.int c), some (.int 8), some (.str (Str.ofString "abcdefghijklmnopqrstuvwxyz")), some (.int (n : Int)), some (.ref S.length), some (.ref (S.length + 1)), some (.int (k : Int))]) (S ++ Z') ∧ (S ++ Z')[S.length]? = some (.lst ((ws.set p (ltr (c / 2048 + 7 * (k : Int)))).map sgn)) ∧ (S ++ Z')[S.length + 1]? = some (.lst (made ++ [.str (mkS ((ws.set p (ltr (c / 2048 + 7 * (k : Int)))).take n))])) := by
      intro Z ws made k x6 hw hm hk1 hk2
      have f1 := x_setLst (k := p) (v := sgn (ltr (c / 2048 + 7 * (k : Int)))) hk1 (by simp [hw]; omega)
      rw [← List.map_set] at f1
      obtain ⟨T, hT⟩ : ∃ T, (S ++ Z).set S.length (.lst ((ws.set p (ltr (c / 2048 + 7 * (k : Int)))).map sgn)) = T := ⟨_, rfl⟩
      rw [hT] at f1
      have t1 : T[S.length]? = some (.lst ((ws.set p (ltr (c / 2048 + 7 * (k : Int)))).map sgn)) := by rw [← hT]; exact get_set_at hk1
      have t2 : T[S.length + 1]? = some (.lst made) := by rw [← hT, get_set_ne (by omega)]; exact hk2
      have f2 := x_slR (S := T) (n := S.length) (k := n) (lstAt_of t1)
      rw [← List.map_take] at f2
      obtain ⟨U, hU⟩ : ∃ U, T ++ [Cell.lst (((ws.set p (ltr (c / 2048 + 7 * (k : Int)))).take n).map sgn)] = U := ⟨_, rfl⟩
      rw [hU] at f2
      have u1 : U[S.length]? = some (.lst ((ws.set p (ltr (c / 2048 + 7 * (k : Int)))).map sgn)) := by rw [← hU]; exact at_app t1
      have u2 : U[S.length + 1]? = some (.lst made) := by rw [← hU]; exact at_app t2
      have u3 : U[T.length]? = some (.lst (((ws.set p (ltr (c / 2048 + 7 * (k : Int)))).take n).map sgn)) := by rw [← hU]; exact at_end
      have f3 : ∀ l : ML.Loc, varE 4 l T = .ok (.ref S.length) T → varE 3 l T = .ok (.int (n : Int)) T → joinV (conE (.str (Str.ofString ""))) (sliceE (varE 4) noO (someO (varE 3))) l T = .ok (strD ((ws.set p (ltr (c / 2048 + 7 * (k : Int)))).take n)) U := fun l v4 v3 => joinV_eq (q := T.length) (by simp) (by simp [v4, v3, f2]) (lstAt_of u3) (by rw [List.length_take]; omega)
      have f3 := f3 [some (.int c), some (.int 8), some (.str (Str.ofString "abcdefghijklmnopqrstuvwxyz")), some (.int (n : Int)), some (.ref S.length), some (.ref (S.length + 1)), some (.int (k : Int))] (by simp) (by simp)
      have f4 := x_append (d := strD ((ws.set p (ltr (c / 2048 + 7 * (k : Int)))).take n)) (lstAt_of u2) (by omega)
      have t2' := lstAt_of t2
      obtain ⟨V, hV⟩ : ∃ V, U.set (S.length + 1) (.lst (made ++ [strD ((ws.set p (ltr (c / 2048 + 7 * (k : Int)))).take n)])) = V := ⟨_, rfl⟩
      rw [hV] at f4
      obtain ⟨Z', hZ⟩ : ∃ Z', V = S ++ Z' := by
        rw [← hV, ← hU, ← hT, set_right (Nat.le_refl _), List.append_assoc, set_right (by omega)]
        exact ⟨_, rfl⟩
      refine ⟨Z', ?_, ?_, ?_⟩
      · rw [← hZ]
        simp [b__law_names_0, -x_ixT, x_ix, letters_at, hn0, hp, f1, t2', f3, f4]
      · rw [← hZ, ← hV, get_set_ne (by omega)]; exact u1
      · rw [← hZ, ← hV]; exact get_set_at u2
    have := forS_inv (chk := still) (t := nameT 6) (b := b__law_names_0) (ds := intsD (List.range 8)) (l := [some (.int c), some (.int 8), some (.str (Str.ofString "abcdefghijklmnopqrstuvwxyz")), some (.int (n : Int)), some (.ref S.length), some (.ref (S.length + 1)), none]) (S := S2)
      (Q := fun q T => q.1 = .nx ∧ ∃ Z y6, q.2 = [some (.int c), some (.int 8), some (.str (Str.ofString "abcdefghijklmnopqrstuvwxyz")), some (.int (n : Int)), some (.ref S.length), some (.ref (S.length + 1)), y6] ∧ T = S ++ Z ∧ T[S.length + 1]? = some (.lst (((List.range 8).map fun k : Nat => mkS (((wordB c).set p (ltr (c / 2048 + 7 * (k : Int)))).take n)).map .str)))
      (fun k l T => k ≤ 8 ∧ ∃ Z y6 ws, l = [some (.int c), some (.int 8), some (.str (Str.ofString "abcdefghijklmnopqrstuvwxyz")), some (.int (n : Int)), some (.ref S.length), some (.ref (S.length + 1)), y6] ∧ T = S ++ Z ∧ ws.length = 8 ∧ (∀ x, ws.set p x = (wordB c).set p x) ∧ T[S.length]? = some (.lst (ws.map sgn)) ∧ T[S.length + 1]? = some (.lst (((List.range k).map fun k : Nat => mkS (((wordB c).set p (ltr (c / 2048 + 7 * (k : Int)))).take n)).map .str)))
      ⟨by omega, [.lst ((wordB c).map sgn), .lst []], none, wordB c, rfl, by rw [← hS2, ← hS1]; simp, wordB_len c, fun _ => rfl, by rw [← hS2]; exact at_app k1, by rw [← hS2, ← l1]; exact at_end⟩ (fun _ _ _ _ => trivial) (by
        rintro k d l T ⟨hk, Z, y6, ws, rfl, rfl, hw, hws, hk1, hk2⟩ hd
        unfold intsD at hd
        rw [List.getElem?_map] at hd
        obtain ⟨j, ej, rfl⟩ := Option.map_eq_some_iff.mp hd
        have hj : k < 8 := by have := (List.getElem?_eq_some_iff.mp ej).1; simpa using this
        rw [List.getElem?_range hj] at ej
        cases ej
        obtain ⟨Z', e, g1, g2⟩ := turn Z ws _ k y6 hw (by simp; omega) hk1 hk2
        simp
        rw [e]
        refine ⟨by omega, ⟨_, rfl⟩, ⟨Z', rfl⟩, ws.set p (ltr (c / 2048 + 7 * (k : Int))), by simpa using hw, fun x => by rw [List.set_set]; exact hws x, g1, ?_⟩
        rw [g2, hws, List.range_succ]
        simp) (by
        rintro l T ⟨_, Z, y6, ws, rfl, rfl, _, _, _, h2⟩
        have : (intsD (List.range 8)).length = 8 := by simp [intsD]
        rw [this] at h2
        exact ⟨rfl, Z, y6, rfl, rfl, h2⟩)
    obtain ⟨⟨fl, l'⟩, T, e, e5, Z, y6, e6, e7, e8⟩ := this.of
    subst e5
    simp only at e6
    subst e6
    refine ⟨Z, S.length + 1, _, ?_, by omega, by rw [← e7]; exact e8, names_two c hpn hn8⟩
    rw [← e7]
    simp [F__law_names, m__law_names, N__law_names, startL, hr, Tgt.own, wipeL, e1, hS1, w1, sz, hS2, hn, l1, e]
end K09

set_option Elab.async false
set_option linter.all false
set_option maxRecDepth 100000
set_option autoImplicit false
set_option maxHeartbeats 1000000
namespace K09
open PySem PySem.Spec L2 ML
noncomputable def tT (r : Nat → List D → Store → R D) : MS := seqS (ifS (cmpM eqD (varE 3) (conE (.int 0))) (retS (tupE (consA (conE (.str (Str.ofString "number"))) (consA (callE 1 F__law_number (consA (varE 4) (nilA))) (nilA))))) (nilS)) (seqS (ifS (cmpM inD (varE 3) (tupE (consA (conE (.int 1)) (consA (conE (.int 8)) (consA (conE (.int 9)) (nilA)))))) (retS (tupE (consA (conE (.str (Str.ofString "name"))) (consA (binE ixD (varE 5) (binE modD (varE 4) (newL lenV (consA (varE 5) (nilA))))) (nilA))))) (nilS)) (seqS (ifS (cmpM ltD (varE 3) (conE (.int 4))) (retS (tupE (consA (conE (.str (Str.ofString "two"))) (consA (binE ixD (conE (.str (Str.ofString "+-*<="))) (binE modD (varE 4) (conE (.int 5)))) (consA (callE 2 (r 0) (consA (varE 0) (consA (binE subD (varE 1) (conE (.int 1))) (nilA)))) (consA (callE 2 (r 0) (consA (varE 0) (consA (binE subD (varE 1) (conE (.int 1))) (nilA)))) (nilA))))))) (nilS)) (seqS (ifS (cmpM ltD (varE 3) (conE (.int 6))) (seqS (setS 6 (newL tupV (consA (sliceE (varE 5) (someO (binE modD (varE 4) (conE (.int 5)))) (someO (binE addD (binE modD (varE 4) (conE (.int 5))) (binE modD (binE fdivD (varE 4) (conE (.int 5))) (conE (.int 4)))))) (nilA)))) (retS (tupE (consA (binE ixD (allocE (lstN (consA (conE (.str (Str.ofString "fun"))) (consA (conE (.str (Str.ofString "loop"))) (nilA))))) (binE subD (varE 3) (conE (.int 4)))) (consA (varE 6) (consA (callE 3 (r 1) (consA (varE 0) (consA (binE subD (varE 1) (conE (.int 1))) (consA (toV (cmpM eqD (varE 3) (conE (.int 5)))) (nilA))))) (nilA))))))) (nilS)) (seqS (ifS (cmpM eqD (varE 3) (conE (.int 6))) (seqS (setS 7 (callE 2 (r 0) (consA (varE 0) (consA (binE subD (varE 1) (conE (.int 1))) (nilA))))) (retS (tupE (consA (conE (.str (Str.ofString "call"))) (consA (varE 7) (consA (newL tupL (compN (srcR1 (consA (binE modD (varE 4) (conE (.int 5))) (nilA))) (.one 8) (yesM) (callE 2 (r 0) (consA (varE 0) (consA (binE subD (varE 1) (conE (.int 1))) (nilA)))))) (nilA))))))) (nilS)) (retS (tupE (consA (conE (.str (Str.ofString "step"))) (consA (callE 2 (r 0) (consA (varE 0) (consA (binE subD (varE 1) (conE (.int 1))) (nilA)))) (consA (callE 2 (r 0) (consA (varE 0) (consA (binE subD (varE 1) (conE (.int 1))) (nilA)))) (nilA))))))))))
theorem tT_eq (r : Nat → List D → Store → R D) : m__law_term r = seqS (setS 2 (callE 1 F__law_next (consA (varE 0) (nilA)))) (seqS (asgS (subT (varE 0) (conE (.str (Str.ofString "left")))) (binE subD (binE ixD (varE 0) (conE (.str (Str.ofString "left")))) (conE (.int 1)))) (seqS (setS 3 (binE modD (varE 2) (conE (.int 10)))) (seqS (setS 4 (binE fdivD (varE 2) (conE (.int 10)))) (seqS (setS 5 (binE ixD (varE 0) (conE (.str (Str.ofString "names"))))) (seqS (ifS (orM (cmpM ltD (varE 1) (conE (.int 1))) (cmpM ltD (binE ixD (varE 0) (conE (.str (Str.ofString "left")))) (conE (.int 0)))) (setS 3 (binE modD (varE 3) (conE (.int 2)))) (nilS)) (tT r)))))) := rfl
noncomputable def tS (r : Nat → List D → Store → R D) : MS := seqS (ifS (cmpM ltD (varE 4) (conE (.int 2))) (retS (tupE (consA (binE ixD (allocE (lstN (consA (conE (.str (Str.ofString "let"))) (consA (conE (.str (Str.ofString "set"))) (nilA))))) (varE 4)) (consA (varE 5) (consA (callE 2 (r 0) (consA (varE 0) (consA (binE subD (varE 1) (conE (.int 1))) (nilA)))) (nilA)))))) (nilS)) (seqS (ifS (cmpM ltD (varE 4) (conE (.int 5))) (retS (tupE (consA (binE ixD (allocE (lstN (consA (conE (.str (Str.ofString "hand"))) (consA (conE (.str (Str.ofString "do"))) (consA (conE (.str (Str.ofString "back"))) (nilA)))))) (binE subD (varE 4) (conE (.int 2)))) (consA (callE 2 (r 0) (consA (varE 0) (consA (binE subD (varE 1) (conE (.int 1))) (nilA)))) (nilA))))) (nilS)) (seqS (ifS (cmpM eqD (varE 4) (conE (.int 5))) (retS (tupE (consA (conE (.str (Str.ofString "fault"))) (consA (binE ixD (allocE (lstN (consA (varE 6) (consA (conE (.str (Str.ofString "anya"))) (nilA))))) (newL intV (consA (toV (cmpM eqD (varE 6) (conE (.str (Str.ofString "any"))))) (nilA)))) (consA (callE 2 (r 0) (consA (varE 0) (consA (binE subD (varE 1) (conE (.int 1))) (nilA)))) (nilA)))))) (nilS)) (seqS (ifS (cmpM eqD (varE 4) (conE (.int 6))) (retS (tupE (consA (conE (.str (Str.ofString "while"))) (consA (callE 2 (r 0) (consA (varE 0) (consA (binE subD (varE 1) (conE (.int 1))) (nilA)))) (consA (callE 3 (r 1) (consA (varE 0) (consA (binE subD (varE 1) (conE (.int 1))) (consA (varE 2) (nilA))))) (nilA)))))) (nilS)) (seqS (ifS (cmpM eqD (varE 4) (conE (.int 7))) (seqS (setS 7 (callE 2 (r 0) (consA (varE 0) (consA (binE subD (varE 1) (conE (.int 1))) (nilA))))) (retS (tupE (consA (conE (.str (Str.ofString "if"))) (consA (varE 7) (consA (callE 3 (r 1) (consA (varE 0) (consA (binE subD (varE 1) (conE (.int 1))) (consA (varE 2) (nilA))))) (consA (callE 3 (r 1) (consA (varE 0) (consA (binE subD (varE 1) (conE (.int 1))) (consA (varE 2) (nilA))))) (nilA)))))))) (nilS)) (seqS (setS 8 (allocE (compN (srcR1 (consA (conE (.int 3)) (nilA))) (.one 9) (yesM) (callE 3 (r 1) (consA (varE 0) (consA (binE subD (varE 1) (conE (.int 1))) (consA (varE 2) (nilA)))))))) (retS (tupE (consA (conE (.str (Str.ofString "try"))) (consA (binE ixD (varE 8) (conE (.int 0))) (consA (varE 6) (consA (varE 5) (consA (binE ixD (varE 8) (conE (.int 1))) (consA (binE ixD (varE 8) (conE (.int 2))) (nilA))))))))))))))
theorem tS_eq (r : Nat → List D → Store → R D) : m__law_statement r = seqS (setS 3 (callE 1 F__law_next (consA (varE 0) (nilA)))) (seqS (asgS (subT (varE 0) (conE (.str (Str.ofString "left")))) (binE subD (binE ixD (varE 0) (conE (.str (Str.ofString "left")))) (conE (.int 1)))) (seqS (setS 4 (binE modD (varE 3) (conE (.int 10)))) (seqS (setS 5 (binE ixD (binE ixD (varE 0) (conE (.str (Str.ofString "names")))) (binE modD (binE fdivD (varE 3) (conE (.int 10))) (newL lenV (consA (binE ixD (varE 0) (conE (.str (Str.ofString "names")))) (nilA)))))) (seqS (setS 6 (binE ixD (allocE (lstN (consA (conE (.str (Str.ofString "great"))) (consA (conE (.str (Str.ofString "kind"))) (consA (conE (.str (Str.ofString "any"))) (consA (conE (.str (Str.ofString "unset"))) (consA (varE 5) (nilA)))))))) (binE modD (binE fdivD (varE 3) (conE (.int 100))) (conE (.int 5))))) (seqS (ifS (orM (cmpM ltD (varE 1) (conE (.int 2))) (cmpM ltD (binE ixD (varE 0) (conE (.str (Str.ofString "left")))) (conE (.int 0)))) (setS 4 (binE modD (varE 4) (conE (.int 5)))) (nilS)) (seqS (ifS (andM (cmpM eqD (varE 4) (conE (.int 2))) (notM (ofV (varE 2)))) (setS 4 (conE (.int 3))) (nilS)) (tS r))))))) := rfl
/-! ### one state to the next -/
structure Pre (ns : List Int) (nr s : Nat) (zs : List Str) (a L : Int) (S : Store) : Prop where
  st : S[s]? = some (stC ns a L nr)
  nm : S[nr]? = some (.lst (zs.map .str))
  a0 : 0 ≤ a
  pot : a + 4 * L ≤ 80000
  low : -1000 ≤ L
structure Out (ns : List Int) (nr s : Nat) (o j e : Int) (a L : Int) (S : Store) (p : Nat) (a' : Int) (S' : Store) : Prop where
  st : S'[s]? = some (stC ns a' (L - p) nr)
  a0 : 0 ≤ a'
  pot : a' + 4 * (L - p) ≤ a + 4 * L + e
  fr : Fr s S S'
  b1 : L ≤ 0 → (p : Int) ≤ 2 * j
  b2 : 0 < L → -(o + 2 * j) ≤ L - p
section
variable {ns : List Int} {nr s : Nat} {zs : List Str} {o i j e f a b c L : Int} {S T U : Store} {p q : Nat}
theorem Out.seq (hi : 0 ≤ i) (h1 : Out ns nr s o i e a L S p b T) (h2 : Out ns nr s o j f b (L - p) T q c U) : Out ns nr s o (i + j) (e + f) a L S (p + q) c U := by
  have e1 : L - ((p + q : Nat) : Int) = L - p - q := by omega
  have a1 := h1.pot; have a2 := h2.pot; have a3 := h1.b1; have a4 := h2.b1; have a5 := h1.b2; have a6 := h2.b2
  refine ⟨by rw [e1]; exact h2.st, h2.a0, by rw [e1]; omega, h1.fr.trans h2.fr, fun h => ?_, fun h => ?_⟩
  · have := a3 h
    have := a4 (by omega)
    omega
  · have := a5 h
    by_cases q1 : 0 < L - p
    · have := a6 q1
      omega
    · have := a4 (by omega)
      omega
theorem Pre.next (h : Pre ns nr s zs a L S) (hne : nr ≠ s) (o' : Out ns nr s o j e a L S p b T) (h1 : b + 4 * (L - p) ≤ 80000) (h2 : -1000 ≤ L - p) : Pre ns nr s zs b (L - p) T :=
  ⟨o'.st, o'.fr.2 nr _ h.nm hne, o'.a0, h1, h2⟩
theorem Out.nil (h : Pre ns nr s zs a L S) (ho : 0 ≤ o) : Out ns nr s o 0 0 a L S 0 a S := ⟨by have := h.st; simpa using this, h.a0, by simp, ⟨Nat.le_refl _, fun i c h _ => h⟩, fun h => by simp, fun h => by omega⟩
end
end K09

set_option Elab.async false
set_option linter.all false
set_option maxRecDepth 100000
set_option autoImplicit false
set_option maxHeartbeats 1000000
namespace K09
open PySem PySem.Spec L2 ML
section
variable {ns : List Int} {nr s : Nat} {zs : List Str} {o i j e f a b c L : Int} {S T U : Store} {p q : Nat}
theorem Out.app (h : Out ns nr s o j e a L S p b T) (X : Store) : Out ns nr s o j e a L S p b (T ++ X) := ⟨at_app h.st, h.a0, h.pot, h.fr.trans (Fr.app s T X), h.b1, h.b2⟩
theorem Out.le {o' j' e' : Int} (h : Out ns nr s o j e a L S p b T) (h1 : o + 2 * j ≤ o' + 2 * j') (h2 : j ≤ j') (h3 : e ≤ e') : Out ns nr s o' j' e' a L S p b T :=
  ⟨h.st, h.a0, by have := h.pot; omega, h.fr, fun q => by have := h.b1 q; omega, fun q => by have := h.b2 q; omega⟩
theorem own (h : Pre ns nr s zs a L S) (ho : 0 ≤ o) : ∃ y : Int, 0 ≤ y ∧ F__law_next [.ref s] S = .ok (.int y) (S.set s (stC ns (a + 1) L nr)) ∧ Out ns nr s o 1 (-3) a L S 1 (a + 1) ((S.set s (stC ns (a + 1) L nr)).set s (stC ns (a + 1) (L - 1) nr)) := by
  have hp := h.pot
  have hl := h.low
  have h0 := h.a0
  obtain ⟨y, hy, e⟩ := next_eq h.st h.a0 (by omega)
  refine ⟨y, hy, e, ?_, by omega, by omega, (Fr.set S _).trans (Fr.set _ _), fun q => by omega, fun q => by omega⟩
  have e2 : L - ((1 : Nat) : Int) = L - 1 := by omega
  rw [e2]
  exact get_set_at (get_set_at h.st)
theorem term_pre (h : Pre ns nr s zs a L S) (ho : 0 ≤ o) (hne : nr ≠ s) (d : Int) : ∃ y T, 0 ≤ y ∧ Out ns nr s o 1 (-3) a L S 1 (a + 1) T ∧ ∀ r, m__law_term r [some (.ref s), some (.int d), none, none, none, none, none, none, none] S = tT r [some (.ref s), some (.int d), some (.int y), some (.int (if d < 1 ∨ L - 1 < 0 then y % 10 % 2 else y % 10)), some (.int (y / 10)), some (.ref nr), none, none, none] T := by
  obtain ⟨y, hy, e1, out⟩ := own (o := o) h ho
  have h1 : (S.set s (stC ns (a + 1) L nr))[s]? = some (stC ns (a + 1) L nr) := get_set_at h.st
  have q1 := st_left h1
  have q2 := put_left h1 (L - 1)
  have h2 := out.st
  have e2 : L - ((1 : Nat) : Int) = L - 1 := by omega
  rw [e2] at h2
  have q3 := st_left h2
  have q4 := st_names h2
  obtain ⟨S1, hS1⟩ : ∃ S1, S.set s (stC ns (a + 1) L nr) = S1 := ⟨_, rfl⟩
  rw [hS1] at e1 out q1 q2 q3 q4
  obtain ⟨S2, hS2⟩ : ∃ S2, S1.set s (stC ns (a + 1) (L - 1) nr) = S2 := ⟨_, rfl⟩
  rw [hS2] at out q2 q3 q4
  refine ⟨y, S2, hy, out, fun r => ?_⟩
  rw [tT_eq]
  by_cases c1 : d < 1
  · simp [e1, x_ix, q1, q2, q3, q4, c1]
  · by_cases c2 : L - 1 < 0
    · simp [e1, x_ix, q1, q2, q3, q4, c1, c2]
    · simp [e1, x_ix, q1, q2, q3, q4, c1, c2]
theorem stmt_pre (h : Pre ns nr s zs a L S) (hz : Names zs) (ho : 0 ≤ o) (hne : nr ≠ s) (d : Int) (hd : Bool) : ∃ y k T z wd q8, 0 ≤ y ∧ (NmOk z ∧ InZ zs z) ∧ NmOk wd ∧ Out ns nr s o 1 (-3) a L S 1 (a + 1) T ∧ (0 ≤ k ∧ k < 10) ∧ ((d < 2 ∨ L - 1 < 0) → k < 5) ∧ (k = 2 → hd = true) ∧ ∀ r, m__law_statement r [some (.ref s), some (.int d), some (.bl hd), none, none, none, none, none, none, none] S = tS r [some (.ref s), some (.int d), some (.bl hd), some (.int y), some (.int k), some (.str z), some (.str wd), none, q8, none] T := by
  obtain ⟨y, hy, e1, out⟩ := own (o := o) h ho
  have h1 : (S.set s (stC ns (a + 1) L nr))[s]? = some (stC ns (a + 1) L nr) := get_set_at h.st
  have q1 := st_left h1
  have q2 := put_left h1 (L - 1)
  have h2 := out.st
  have e2 : L - ((1 : Nat) : Int) = L - 1 := by omega
  rw [e2] at h2
  have q3 := st_left h2
  have q4 := st_names h2
  have n2 := out.fr.2 nr _ h.nm hne
  obtain ⟨S1, hS1⟩ : ∃ S1, S.set s (stC ns (a + 1) L nr) = S1 := ⟨_, rfl⟩
  rw [hS1] at e1 out q1 q2 q3 q4 n2 h2
  obtain ⟨S2, hS2⟩ : ∃ S2, S1.set s (stC ns (a + 1) (L - 1) nr) = S2 := ⟨_, rfl⟩
  rw [hS2] at out q2 q3 q4 n2 h2
  have ln : lenV [.ref nr] S2 = .ok (.int 8) S2 := by
    rw [x_lenR (lstAt_of n2), List.length_map, hz.len]
    rfl
  obtain ⟨z, hzm, ez⟩ : ∃ z, z ∈ zs ∧ ixO S2 (.ref nr) (.int (y / 10 % 8)) = some (.str z) := by
    obtain ⟨u, hu, eu⟩ := atI_mem (xs := zs.map D.str) (i := y / 10 % 8) (by omega) (by rw [List.length_map, hz.len]; omega)
    obtain ⟨z, hz', rfl⟩ := List.mem_map.mp hu
    exact ⟨z, hz', by rw [x_ixR (lstAt_of n2)]; exact eu⟩
  obtain ⟨S3, hS3⟩ : ∃ S3, S2 ++ [Cell.lst [w "great", w "kind", w "any", w "unset", .str z]] = S3 := ⟨_, rfl⟩
  have k3 : S3[S2.length]? = some (.lst [w "great", w "kind", w "any", w "unset", .str z]) := by rw [← hS3]; exact at_end
  have h3 : S3[s]? = some (stC ns (a + 1) (L - 1) nr) := by rw [← hS3]; exact at_app h2
  have q5 := st_left h3
  have nm_w : ∀ t : String, t.toList.all (fun c => decide (97 ≤ c.toNat) && decide (c.toNat ≤ 122)) = true → 1 ≤ t.toList.length → t.toList.length ≤ 8 → NmOk (Str.ofString t) := fun t a b c => by
    unfold NmOk
    rw [cs_of, List.length_map]
    refine ⟨b, c, fun x hx => ?_⟩
    obtain ⟨y, hy, rfl⟩ := List.mem_map.mp hx
    have := List.all_eq_true.mp a y hy
    simp at this
    exact this
  obtain ⟨wd, hwd, ew⟩ : ∃ wd, NmOk wd ∧ ixO S3 (.ref S2.length) (.int (y / 100 % 5)) = some (.str wd) := by
    rw [x_ixR (lstAt_of k3)]
    have : y / 100 % 5 = 0 ∨ y / 100 % 5 = 1 ∨ y / 100 % 5 = 2 ∨ y / 100 % 5 = 3 ∨ y / 100 % 5 = 4 := by omega
    rcases this with e | e | e | e | e <;> rw [e]
    · exact ⟨_, nm_w "great" (by decide) (by decide) (by decide), at0 _ _⟩
    · exact ⟨_, nm_w "kind" (by decide) (by decide) (by decide), at1 _ _ _⟩
    · exact ⟨_, nm_w "any" (by decide) (by decide) (by decide), at2 _ _ _ _⟩
    · exact ⟨_, nm_w "unset" (by decide) (by decide) (by decide), at3 _ _ _ _ _⟩
    · exact ⟨_, hz.ok z hzm, at4 _ _ _ _ _ _⟩
  have out3 : Out ns nr s o 1 (-3) a L S 1 (a + 1) S3 := by rw [← hS3]; exact out.app _
  obtain ⟨k1, hk1⟩ : ∃ k1, (if d < 2 ∨ L - 1 < 0 then y % 10 % 5 else y % 10) = k1 := ⟨_, rfl⟩
  obtain ⟨k2, hk2⟩ : ∃ k2, (if k1 = 2 ∧ hd = false then 3 else k1) = k2 := ⟨_, rfl⟩
  refine ⟨y, k2, S3, z, wd, none, hy, ⟨hz.ok z hzm, hzm⟩, hwd, out3, ?_, ?_, ?_, fun r => ?_⟩
  · rw [← hk2]
    split
    · omega
    · rw [← hk1]; split <;> omega
  · intro q
    rw [if_pos q] at hk1
    rw [← hk2]
    split <;> omega
  · intro q
    cases hd with
    | true => rfl
    | false =>
      rw [← hk2] at q
      split at q
      · omega
      · rename_i x; exact absurd ⟨q, rfl⟩ x
  · rw [tS_eq]
    have pre : ∀ k0 : Int, (ifS (andM (cmpM eqD (varE 4) (conE (.int 2))) (notM (ofV (varE 2)))) (setS 4 (conE (.int 3))) nilS) [some (.ref s), some (.int d), some (.bl hd), some (.int y), some (.int k0), some (.str z), some (.str wd), none, none, none] S3 = .ok (.nx, [some (.ref s), some (.int d), some (.bl hd), some (.int y), some (.int (if k0 = 2 ∧ hd = false then 3 else k0)), some (.str z), some (.str wd), none, none, none]) S3 := fun k0 => by
      by_cases c : k0 = 2
      · cases hd <;> simp [c]
      · simp [c]
    by_cases c1 : d < 2
    · rw [if_pos (.inl c1)] at hk1
      simp [-x_ifS, e1, x_ix, q1, q2, q3, q4, ln, ez, sz, hS3, ew]
      simp [x_ifS (orM _ _), q5, x_ix, c1, -x_ifS, hk1, pre, hk2]
    · by_cases c2 : L - 1 < 0
      · rw [if_pos (.inr c2)] at hk1
        simp [-x_ifS, e1, x_ix, q1, q2, q3, q4, ln, ez, sz, hS3, ew]
        simp [x_ifS (orM _ _), q5, x_ix, c1, c2, -x_ifS, hk1, pre, hk2]
      · rw [if_neg (by omega)] at hk1
        simp [-x_ifS, e1, x_ix, q1, q2, q3, q4, ln, ez, sz, hS3, ew]
        simp [x_ifS (orM _ _), q5, x_ix, c1, c2, -x_ifS, hk1, pre, hk2]
end
end K09

set_option Elab.async false
set_option linter.all false
set_option maxRecDepth 100000
set_option autoImplicit false
set_option maxHeartbeats 1000000
namespace K09
open PySem PySem.Spec L2 ML
section
variable {ns : List Int} {nr s : Nat} {zs : List Str}
def TGen (ns : List Int) (nr s : Nat) (zs : List Str) (n : Nat) : Prop := ∀ (m : Nat) (a L : Int) (S : Store), 2 * n ≤ m → Pre ns nr s zs a L S → ∃ S' d p a', G__law_term m 0 [.ref s, .int ((n : Int) - 2)] S = .ok d S' ∧ Tm (InZ zs) n p d ∧ Out ns nr s (20 * n) 1 0 a L S p a' S' ∧ (L ≤ 0 → p ≤ 1)
def SGen (ns : List Int) (nr s : Nat) (zs : List Str) (n : Nat) : Prop := ∀ (m : Nat) (h : Bool) (a L : Int) (S : Store), 2 * n ≤ m → -900 ≤ L → Pre ns nr s zs a L S → ∃ S' d p a', G__law_term m 2 [.ref s, .int ((n : Int) - 2), .bl h] S = .ok d S' ∧ St (InZ zs) n h p d ∧ Out ns nr s (20 * n) 1 0 a L S p a' S'
/-- statements in a row -/
theorem st_row {n m : Nat} {h : Bool} (hne : nr ≠ s) (hn : n ≤ 12) (hm : 2 * n ≤ m) (g : SGen ns nr s zs n) {l : ML.Loc} (l0 : l[0]? = some (some (.ref s))) (l1 : l[1]? = some (some (.int ((n : Int) - 2)))) (l2 : l[2]? = some (some (.bl h))) (l3 : 3 < l.length) :
    ∀ (ks : List D) (acc : List D) (a L : Int) (S : Store), Pre ns nr s zs a L S → ks.length ≤ 20 → -500 ≤ L - 2 * ks.length → acc.length + ks.length ≤ 100 → ∃ S' bs p a', compL still (.one 3) yesM (callE 3 (G__law_term m 2) (consA (varE 0) (consA (varE 1) (consA (varE 2) nilA)))) l ks acc S = .ok (acc ++ bs) S' ∧ bs.length = ks.length ∧ Bd (InZ zs) n h p bs ∧ Out ns nr s (20 * n) ks.length 0 a L S p a' S'
  | [], acc, a, L, S, hp, _, _, _ => ⟨S, [], 0, a, by rw [compL_nil trivial]; simp, rfl, .nil, Out.nil hp (by omega)⟩
  | k :: ks, acc, a, L, S, hp, hk, hl, ha => by
    rw [List.length_cons] at hk hl ha
    obtain ⟨S1, d, p, a1, e1, h1, o1⟩ := g m h a L S hm (by omega) hp
    have b1 := o1.b1
    have b2 := o1.b2
    have pp := hp.pot
    have p1 := o1.pot
    have hp1 := hp.next hne o1 (by omega) (by by_cases q : 0 < L <;> omega)
    obtain ⟨S2, bs, q, a2, e2, h2, h3, o2⟩ := st_row hne hn hm g l0 l1 l2 l3 ks (acc ++ [d]) a1 (L - p) S1 hp1 (by omega) (by by_cases q : 0 < L <;> omega) (by simp; omega)
    refine ⟨S2, d :: bs, p + q, a2, ?_, by simp [h2], .cons h1 h3, (Out.seq (by omega) o1 o2).le (by simp; omega) (by simp; omega) (by omega)⟩
    have v0 : varE 0 (l.set 3 (some k)) S = .ok (.ref s) S := by unfold varE; rw [List.getElem?_set_ne (by omega), l0]
    have v1 : varE 1 (l.set 3 (some k)) S = .ok (.int ((n : Int) - 2)) S := by unfold varE; rw [List.getElem?_set_ne (by omega), l1]
    have v2 : varE 2 (l.set 3 (some k)) S = .ok (.bl h) S := by unfold varE; rw [List.getElem?_set_ne (by omega), l2]
    have c : callE 3 (G__law_term m 2) (consA (varE 0) (consA (varE 1) (consA (varE 2) nilA))) (l.set 3 (some k)) S = .ok d S1 := by simp [v0, v1, v2, e1]
    rw [compL_cons trivial]
    simp only [Tgt.put, x_yes, R.bind_ok, if_true, c]
    rw [if_pos (show _ < sizeLine by rw [sz]; omega), e2]
    simp
/-- a body -/
theorem bd_gen {n m : Nat} {h : Bool} (hne : nr ≠ s) (hn : n ≤ 12) (hm : 2 * n + 1 ≤ m) (g : SGen ns nr s zs n) {a L : Int} {S : Store} (hp : Pre ns nr s zs a L S) (h1 : a + 4 * L ≤ 79999) (h2 : -400 ≤ L) :
    ∃ S' bs p a', G__law_term m 1 [.ref s, .int ((n : Int) - 2), .bl h] S = .ok (.tup bs) S' ∧ bs.length ≤ 3 ∧ Bd (InZ zs) n h p bs ∧ Out ns nr s (20 * n) 3 1 a L S p a' S' := by
  obtain ⟨k, rfl⟩ : ∃ k, m = k + 1 := ⟨m - 1, by omega⟩
  have h0 := hp.a0
  obtain ⟨y, hy, e⟩ := next_eq hp.st hp.a0 (by omega)
  obtain ⟨S1, hS1⟩ : ∃ S1, S.set s (stC ns (a + 1) L nr) = S1 := ⟨_, rfl⟩
  rw [hS1] at e
  have f1 : Fr s S S1 := by rw [← hS1]; exact Fr.set S _
  have hp1 : Pre ns nr s zs (a + 1) L S1 := ⟨by rw [← hS1]; exact get_set_at hp.st, f1.2 nr _ hp.nm hne, by omega, by omega, hp.low⟩
  obtain ⟨j, ej, hj⟩ : ∃ j : Nat, y % 4 = (j : Int) ∧ j ≤ 3 := ⟨(y % 4).toNat, by omega, by omega⟩
  have hr : rng1 [.int (j : Int)] S1 = .ok (ML.intsFrom 0 j, still) S1 := by rw [x_rng1 (by omega) (by omega), Int.toNat_natCast]
  have hl : (ML.intsFrom 0 j).length = j := by simp [ML.intsFrom]
  obtain ⟨S2, bs, p, a2, e2, b1, b2, o2⟩ := st_row (l := [some (.ref s), some (.int ((n : Int) - 2)), some (.bl h), none]) hne hn (by omega : 2 * n ≤ k) g rfl rfl rfl (by simp) (ML.intsFrom 0 j) [] (a + 1) L S1 hp1 (by omega) (by omega) (by simp; omega)
  rw [hl] at b1 o2
  refine ⟨S2, bs, p, a2, ?_, by omega, b2, o2.st, o2.a0, by have := o2.pot; omega, f1.trans o2.fr, fun q => by have := o2.b1 q; omega, fun q => by have := o2.b2 q; omega⟩
  rw [G__law_term_1]
  rw [List.nil_append] at e2
  simp [m__law_body, N__law_body, startL, e, ej, hr, Tgt.own, wipeL, e2, tupL]
/-- terms in a row -/
theorem tm_row {n m : Nat} {c : Int} (hne : nr ≠ s) (hn : n ≤ 12) (hm : 2 * n ≤ m) (g : TGen ns nr s zs n) {l : ML.Loc} (l0 : l[0]? = some (some (.ref s))) (l1 : l[1]? = some (some (.int c))) (hc : c - 1 = (n : Int) - 2) (l3 : 8 < l.length) :
    ∀ (ks : List D) (acc : List D) (a L : Int) (S : Store), Pre ns nr s zs a L S → ks.length ≤ 20 → -500 ≤ L - 2 * ks.length → acc.length + ks.length ≤ 100 → ∃ S' bs p a', compL still (.one 8) yesM (callE 2 (G__law_term m 0) (consA (varE 0) (consA (binE subD (varE 1) (conE (.int 1))) nilA))) l ks acc S = .ok (acc ++ bs) S' ∧ bs.length = ks.length ∧ Ts (InZ zs) n p bs ∧ Out ns nr s (20 * n) ks.length 0 a L S p a' S'
  | [], acc, a, L, S, hp, _, _, _ => ⟨S, [], 0, a, by rw [compL_nil trivial]; simp, rfl, .nil, Out.nil hp (by omega)⟩
  | k :: ks, acc, a, L, S, hp, hk, hl, ha => by
    rw [List.length_cons] at hk hl ha
    obtain ⟨S1, d, p, a1, e1, h1, o1, _⟩ := g m a L S hm hp
    have b1 := o1.b1
    have b2 := o1.b2
    have pp := hp.pot
    have p1 := o1.pot
    have hp1 := hp.next hne o1 (by omega) (by by_cases q : 0 < L <;> omega)
    obtain ⟨S2, bs, q, a2, e2, h2, h3, o2⟩ := tm_row hne hn hm g l0 l1 hc l3 ks (acc ++ [d]) a1 (L - p) S1 hp1 (by omega) (by by_cases q : 0 < L <;> omega) (by simp; omega)
    refine ⟨S2, d :: bs, p + q, a2, ?_, by simp [h2], .cons h1 h3, (Out.seq (by omega) o1 o2).le (by simp; omega) (by simp; omega) (by omega)⟩
    have v0 : varE 0 (l.set 8 (some k)) S = .ok (.ref s) S := by unfold varE; rw [List.getElem?_set_ne (by omega), l0]
    have v1 : varE 1 (l.set 8 (some k)) S = .ok (.int c) S := by unfold varE; rw [List.getElem?_set_ne (by omega), l1]
    have cc : callE 2 (G__law_term m 0) (consA (varE 0) (consA (binE subD (varE 1) (conE (.int 1))) nilA)) (l.set 8 (some k)) S = .ok d S1 := by simp [v0, v1, hc, e1]
    rw [compL_cons trivial]
    simp only [Tgt.put, x_yes, R.bind_ok, if_true, cc]
    rw [if_pos (show _ < sizeLine by rw [sz]; omega), e2]
    simp
/-- three bodies -/
theorem bd_three {n m : Nat} {h : Bool} {c : Int} (hne : nr ≠ s) (hn : n ≤ 12) (hm : 2 * n + 1 ≤ m) (g : SGen ns nr s zs n) {l : ML.Loc} (l0 : l[0]? = some (some (.ref s))) (l1 : l[1]? = some (some (.int c))) (hc : c - 1 = (n : Int) - 2) (l2 : l[2]? = some (some (.bl h))) (l3 : 9 < l.length) {a L : Int} {S : Store} (hp : Pre ns nr s zs a L S) (h1 : a + 4 * L ≤ 79997) (h2 : -300 ≤ L) (k0 k1 k2 : D) :
    ∃ S' bs es gs p q r a', compL still (.one 9) yesM (callE 3 (G__law_term m 1) (consA (varE 0) (consA (binE subD (varE 1) (conE (.int 1))) (consA (varE 2) nilA)))) l [k0, k1, k2] [] S = .ok [.tup bs, .tup es, .tup gs] S' ∧ bs.length ≤ 3 ∧ es.length ≤ 3 ∧ gs.length ≤ 3 ∧ Bd (InZ zs) n h p bs ∧ Bd (InZ zs) n h q es ∧ Bd (InZ zs) n h r gs ∧ Out ns nr s (20 * n) 9 3 a L S (p + q + r) a' S' := by
  have st : ∀ (k : D) (l : ML.Loc), l[0]? = some (some (.ref s)) → l[1]? = some (some (.int c)) → l[2]? = some (some (.bl h)) → ∀ (S : Store) (R : R D), G__law_term m 1 [.ref s, .int ((n : Int) - 2), .bl h] S = R → callE 3 (G__law_term m 1) (consA (varE 0) (consA (binE subD (varE 1) (conE (.int 1))) (consA (varE 2) nilA))) (l.set 9 (some k)) S = R := fun k l l0 l1 l2 S R hR => by
    have v0 : varE 0 (l.set 9 (some k)) S = .ok (.ref s) S := by unfold varE; rw [List.getElem?_set_ne (by omega), l0]
    have v1 : varE 1 (l.set 9 (some k)) S = .ok (.int c) S := by unfold varE; rw [List.getElem?_set_ne (by omega), l1]
    have v2 : varE 2 (l.set 9 (some k)) S = .ok (.bl h) S := by unfold varE; rw [List.getElem?_set_ne (by omega), l2]
    simp [v0, v1, v2, hc, hR]
  obtain ⟨S1, bs, p, a1, e1, b1, g1, o1⟩ := bd_gen (h := h) hne hn hm g hp (by omega) (by omega)
  have q1 := o1.pot; have q2 := o1.b1; have q3 := o1.b2; have q0 := hp.pot
  have hp1 := hp.next hne o1 (by omega) (by by_cases q : 0 < L <;> omega)
  obtain ⟨S2, es, q, a2, e2, b2, g2, o2⟩ := bd_gen (h := h) hne hn hm g hp1 (by omega) (by by_cases q : 0 < L <;> omega)
  have r1 := o2.pot; have r2 := o2.b1; have r3 := o2.b2
  have hp2 := hp1.next hne o2 (by omega) (by by_cases q : 0 < L <;> by_cases q' : 0 < L - (p : Int) <;> omega)
  obtain ⟨S3, gs, r, a3, e3, b3, g3, o3⟩ := bd_gen (h := h) hne hn hm g hp2 (by omega) (by by_cases q : 0 < L <;> by_cases q' : 0 < L - (p : Int) <;> omega)
  refine ⟨S3, bs, es, gs, p, q, r, a3, ?_, b1, b2, b3, g1, g2, g3, ?_⟩
  · rw [compL_cons trivial]
    simp only [Tgt.put, x_yes, R.bind_ok, if_true, st k0 l l0 l1 l2 _ _ e1]
    rw [if_pos (show _ < sizeLine by rw [sz]; simp)]
    have l0' : (l.set 9 (some k0))[0]? = some (some (.ref s)) := by rw [List.getElem?_set_ne (by omega), l0]
    have l1' : (l.set 9 (some k0))[1]? = some (some (.int c)) := by rw [List.getElem?_set_ne (by omega), l1]
    have l2' : (l.set 9 (some k0))[2]? = some (some (.bl h)) := by rw [List.getElem?_set_ne (by omega), l2]
    rw [compL_cons trivial]
    simp only [Tgt.put, x_yes, R.bind_ok, if_true, st k1 _ l0 l1 l2 _ _ e2, st k1 _ l0' l1' l2' _ _ e2]
    rw [if_pos (show _ < sizeLine by rw [sz]; simp)]
    have l0'' : ((l.set 9 (some k0)).set 9 (some k1))[0]? = some (some (.ref s)) := by rw [List.getElem?_set_ne (by omega), l0']
    have l1'' : ((l.set 9 (some k0)).set 9 (some k1))[1]? = some (some (.int c)) := by rw [List.getElem?_set_ne (by omega), l1']
    have l2'' : ((l.set 9 (some k0)).set 9 (some k1))[2]? = some (some (.bl h)) := by rw [List.getElem?_set_ne (by omega), l2']
    rw [compL_cons trivial]
    simp only [Tgt.put, x_yes, R.bind_ok, if_true, st k2 _ l0 l1 l2 _ _ e3, st k2 _ l0'' l1'' l2'' _ _ e3]
    rw [if_pos (show _ < sizeLine by rw [sz]; simp), compL_nil trivial]
    rfl
  · have oo := (o1.seq (by omega) (o2.seq (by omega) o3)).le (o' := 20 * n) (j' := 9) (e' := 3) (by omega) (by omega) (by omega)
    rw [← Nat.add_assoc] at oo
    exact oo
theorem sign_at (i : Int) (h0 : 0 ≤ i) (h1 : i < 5) : ∃ t, t ∈ signs ∧ ∀ S, ixO S (.str (Str.ofString "+-*<=")) (.int i) = some (w t) := by
  have : i = 0 ∨ i = 1 ∨ i = 2 ∨ i = 3 ∨ i = 4 := by omega
  rcases this with rfl | rfl | rfl | rfl | rfl
  · exact ⟨"+", by simp [signs], fun S => rfl⟩
  · exact ⟨"-", by simp [signs], fun S => rfl⟩
  · exact ⟨"*", by simp [signs], fun S => rfl⟩
  · exact ⟨"<", by simp [signs], fun S => rfl⟩
  · exact ⟨"=", by simp [signs], fun S => rfl⟩
theorem cut_names (hz : Names zs) {x : Int} (hx : 0 ≤ x) : ∃ ps : List Str, cutD (zs.map D.str) (some (x % 5)) (some (x % 5 + x / 5 % 4)) = ps.map D.str ∧ ps.length ≤ 4 ∧ (∀ z ∈ ps, NmOk z) ∧ ps.Nodup := by
  obtain ⟨i, ei, hi⟩ : ∃ i : Nat, x % 5 = (i : Int) ∧ i < 5 := ⟨(x % 5).toNat, by omega, by omega⟩
  obtain ⟨j, ej, hj⟩ : ∃ j : Nat, x / 5 % 4 = (j : Int) ∧ j < 4 := ⟨(x / 5 % 4).toNat, by omega, by omega⟩
  refine ⟨(zs.drop i).take j, ?_, by rw [List.length_take]; omega, fun z h => hz.ok z (List.mem_of_mem_drop (List.mem_of_mem_take h)), (hz.nd.sublist (List.drop_sublist i zs)).sublist (List.take_sublist j _)⟩
  unfold cutD
  rw [ei, ej, show ((i : Int) + (j : Int)) = ((i + j : Nat) : Int) by omega, sIx_of, sIx_of, List.length_map, hz.len, Nat.min_eq_left (by omega), Nat.min_eq_left (by omega), show i + j - i = j by omega, List.map_take, List.map_drop]
end
end K09

set_option Elab.async false
set_option linter.all false
set_option maxRecDepth 100000
set_option autoImplicit false
set_option maxHeartbeats 1000000
namespace K09
open PySem PySem.Spec L2 ML
section
variable {ns : List Int} {nr s : Nat} {zs : List Str}
theorem Out.pos {o j e o' j' e' a L a' : Int} {S S' : Store} {p : Nat} (h : Out ns nr s o j e a L S p a' S') (hL : 0 < L) (h1 : o + 2 * j ≤ o' + 2 * j') (h3 : e ≤ e') : Out ns nr s o' j' e' a L S p a' S' :=
  ⟨h.st, h.a0, by have := h.pot; omega, h.fr, fun q => by omega, fun q => by have := h.b2 q; omega⟩
theorem name_at (hz : Names zs) {S : Store} (h : S[nr]? = some (.lst (zs.map .str))) {x : Int} (hx : 0 ≤ x) : ∃ z, (NmOk z ∧ InZ zs z) ∧ ixO S (.ref nr) (.int (x % 8)) = some (.str z) := by
  obtain ⟨u, hu, eu⟩ := atI_mem (xs := zs.map D.str) (i := x % 8) (by omega) (by rw [List.length_map, hz.len]; omega)
  obtain ⟨z, hz', rfl⟩ := List.mem_map.mp hu
  exact ⟨z, ⟨hz.ok z hz', hz'⟩, by rw [x_ixR (lstAt_of h)]; exact eu⟩
theorem len_names (hz : Names zs) {S : Store} (h : S[nr]? = some (.lst (zs.map .str))) : lenV [.ref nr] S = .ok (.int 8) S := by
  rw [x_lenR (lstAt_of h), List.length_map, hz.len]
  rfl
theorem nm_word (t : String) (a : t.toList.all (fun c => decide (97 ≤ c.toNat) && decide (c.toNat ≤ 122)) = true) (b : 1 ≤ t.toList.length) (c : t.toList.length ≤ 8) : NmOk (Str.ofString t) := by
  unfold NmOk
  rw [cs_of, List.length_map]
  refine ⟨b, c, fun x hx => ?_⟩
  obtain ⟨y, hy, rfl⟩ := List.mem_map.mp hx
  have := List.all_eq_true.mp a y hy
  simp at this
  exact this
/-- a term without inner ones -/
theorem t_leaf (hz : Names zs) {r : Nat → List D → Store → R D} {a L : Int} {S T : Store} {o : Int} {d y k b : Int} {q5 q6 q7 q8 : Option D} (hn : T[nr]? = some (.lst (zs.map .str))) (o1 : Out ns nr s o 1 (-3) a L S 1 b T) (hy : 0 ≤ y) (hk : k = 0 ∨ k = 1 ∨ k = 8 ∨ k = 9) :
    ∃ S' dd, bodyF 9 (fun _ S => tT r [some (.ref s), some (.int d), some (.int y), some (.int k), some (.int (y / 10)), some (.ref nr), q6, q7, q8] T) [] S = .ok dd S' ∧ (∀ n, Tm (InZ zs) (n + 1) 1 dd) ∧ Out ns nr s o 1 (-3) a L S 1 b S' := by
  by_cases c : k = 0
  · obtain ⟨i, h1, h2, e⟩ := number_eq (y / 10) (by omega)
    obtain ⟨X, e⟩ := e T
    refine ⟨T ++ X, _, ?_, fun n => .num i h1 h2, o1.app X⟩
    simp [bodyF, tT, c, sz, e]
  · obtain ⟨z, ⟨h1, h1z⟩, e1⟩ := name_at hz hn (x := y / 10) (by omega)
    have e2 := len_names hz hn
    refine ⟨T, _, ?_, fun n => .nam z h1 h1z, o1⟩
    have hk : k = 1 ∨ k = 8 ∨ k = 9 := by omega
    rcases hk with rfl | rfl | rfl <;> simp [bodyF, tT, sz, x_inConsI, x_inNilI, e2, x_ix, e1]
theorem gen (hz : Names zs) (hne : nr ≠ s) : ∀ n : Nat, n ≤ 12 → (1 ≤ n → TGen ns nr s zs n) ∧ (2 ≤ n → SGen ns nr s zs n)
  | 0, _ => ⟨fun h => by omega, fun h => by omega⟩
  | n + 1, hn => by
    obtain ⟨it, is⟩ := gen hz hne n (by omega)
    have dn : (((n + 1 : Nat) : Int) - 2) - 1 = (n : Int) - 2 := by omega
    have dn2 : (n : Int) + 1 - 2 - 1 = (n : Int) - 2 := by omega
    refine ⟨fun _ m a L S hm hp => ?_, fun hn2 m h a L S hm hlow hp => ?_⟩
    · -- a term
      obtain ⟨k, rfl⟩ : ∃ k, m = k + 1 := ⟨m - 1, by omega⟩
      obtain ⟨y, T, hy, o1, e1⟩ := term_pre (o := 20 * (n : Int)) hp (by omega) hne (((n + 1 : Nat) : Int) - 2)
      have e1 := e1 (G__law_term k)
      have hnT := o1.fr.2 nr _ hp.nm hne
      have pp := hp.pot
      have pl := hp.low
      have p1 := o1.pot
      rw [G__law_term_0]
      have bf : ∀ kk : Int, (if ((n + 1 : Nat) : Int) - 2 < 1 ∨ L - 1 < 0 then y % 10 % 2 else y % 10) = kk → ∀ (Z : R D), bodyF 9 (fun _ S => tT (G__law_term k) [some (.ref s), some (.int (((n + 1 : Nat) : Int) - 2)), some (.int y), some (.int kk), some (.int (y / 10)), some (.ref nr), none, none, none] T) [] S = Z → bodyF N__law_term.length (m__law_term (G__law_term k)) [.ref s, .int (((n + 1 : Nat) : Int) - 2)] S = Z := fun kk hkk Z hR => by
        rw [← hR, ← hkk]
        unfold bodyF
        show ((m__law_term (G__law_term k) [some (.ref s), some (.int (((n + 1 : Nat) : Int) - 2)), none, none, none, none, none, none, none] S).bind _) = _
        rw [e1]
      by_cases cl : ((n + 1 : Nat) : Int) - 2 < 1 ∨ L - 1 < 0
      · obtain ⟨S', dd, e2, h2, o2⟩ := t_leaf (r := G__law_term k) (d := (((n + 1 : Nat) : Int) - 2)) (k := y % 10 % 2) (q5 := none) (q6 := none) (q7 := none) (q8 := none) hz hnT o1 hy (by omega)
        exact ⟨S', dd, 1, _, bf _ (if_pos cl) _ e2, h2 n, o2.le (by omega) (by omega) (by omega), fun _ => Nat.le_refl 1⟩
      · have bf := bf _ (if_neg cl)
        have hL : 0 < L := by omega
        have hn1 : 1 ≤ n := by omega
        have hn2 : 2 ≤ n := by omega
        have tg := it hn1
        have hpT : Pre ns nr s zs _ _ T := hp.next hne o1 (by omega) (by omega)
        by_cases c1 : y % 10 = 0 ∨ y % 10 = 1 ∨ y % 10 = 8 ∨ y % 10 = 9
        · obtain ⟨S', dd, e2, h2, o2⟩ := t_leaf (r := G__law_term k) (d := (((n + 1 : Nat) : Int) - 2)) (k := y % 10) (q5 := none) (q6 := none) (q7 := none) (q8 := none) hz hnT o1 hy c1
          exact ⟨S', dd, 1, _, bf _ e2, h2 n, o2.le (by omega) (by omega) (by omega), fun _ => Nat.le_refl 1⟩
        · by_cases c2 : y % 10 < 4
          · obtain ⟨t, ht, et⟩ := sign_at (y / 10 % 5) (by omega) (by omega)
            obtain ⟨S1, d1, p1', a1, f1, g1, w1, _⟩ := tg k _ _ T (by omega) hpT
            have q1 := w1.pot; have q2 := w1.b1; have q3 := w1.b2
            have hp1 := hpT.next hne w1 (by omega) (by by_cases q : 0 < L - ((1 : Nat) : Int) <;> omega)
            obtain ⟨S2, d2, p2', a2, f2, g2, w2, _⟩ := tg k _ _ S1 (by omega) hp1
            refine ⟨S2, _, 1 + p1' + p2', a2, bf (.ok (.tup [w "two", w t, d1, d2]) S2) ?_, .two t ht g1 g2, ?_, fun q => by omega⟩
            · have c3 : y % 10 = 2 ∨ y % 10 = 3 := by omega
              rcases c3 with c3 | c3 <;> simp [bodyF, tT, c3, sz, x_inConsI, x_inNilI, x_ix, et, dn, dn2, f1, f2, -x_ixT]
            · have oo := o1.seq (by omega) (w1.seq (by omega) w2)
              rw [← Nat.add_assoc] at oo
              exact oo.pos hL (by omega) (by omega)
          · by_cases c4 : y % 10 < 6
            · -- a fun, a loop
              have sg := is hn2
              obtain ⟨ps, ec, hp4, hpn, hpd⟩ := cut_names hz (x := y / 10) (by omega)
              have sl : sliceD (.ref nr) (some (y / 10 % 5)) (some (y / 10 % 5 + y / 10 / 5 % 4)) T = .ok (.ref T.length) (T ++ [.lst (ps.map D.str)]) := by
                unfold sliceD
                simp only [x_lstOfR, lstAt_of hnT, ec]
                rfl
              obtain ⟨T1, hT1⟩ : ∃ T1, T ++ [Cell.lst (ps.map D.str)] = T1 := ⟨_, rfl⟩
              rw [hT1] at sl
              have tv : tupV [.ref T.length] T1 = .ok (.tup (ps.map D.str)) T1 := by
                unfold tupV
                simp only [x_lstOfR, lstAt_of (show T1[T.length]? = some (.lst (ps.map D.str)) by rw [← hT1]; exact at_end)]
              obtain ⟨T2, hT2⟩ : ∃ T2, T1 ++ [Cell.lst [w "fun", w "loop"]] = T2 := ⟨_, rfl⟩
              have k2 : T2[T1.length]? = some (.lst [w "fun", w "loop"]) := by rw [← hT2]; exact at_end
              have o2 : Out ns nr s (20 * (n : Int)) 1 (-3) a L S 1 (a + 1) T2 := by rw [← hT2, ← hT1]; exact (o1.app _).app _
              have hpT2 := hp.next hne o2 (by omega) (by omega)
              obtain ⟨hh, eh⟩ : ∃ hh : Bool, decide (y % 10 = 5) = hh := ⟨_, rfl⟩
              obtain ⟨S2, bs, p2', a2, f2, g1, g2, w2⟩ := bd_gen (h := hh) hne (by omega) (by omega : 2 * n + 1 ≤ k) sg hpT2 (by omega) (by omega)
              refine ⟨S2, _, 1 + p2', a2, bf (.ok (.tup [w (kw hh), .tup (ps.map .str), .tup bs]) S2) ?_, .fn hh ps hp4 hpn hpd (by omega) g2, ?_, fun q => by omega⟩
              · have c5 : y % 10 = 4 ∨ y % 10 = 5 := by omega
                rcases c5 with c5 | c5
                · have i0 : ixO T2 (.ref T1.length) (.int 0) = some (w "fun") := by rw [x_ixR (lstAt_of k2)]; exact at0 _ _
                  rw [c5] at eh
                  have eh : hh = false := eh.symm
                  subst eh
                  simp [bodyF, tT, c5, sz, x_inConsI, x_inNilI, x_ix, sl, tv, hT2, i0, dn, dn2, f2, kw]
                · have i0 : ixO T2 (.ref T1.length) (.int 1) = some (w "loop") := by rw [x_ixR (lstAt_of k2)]; exact at1 _ _ _
                  rw [c5] at eh
                  have eh : hh = true := eh.symm
                  subst eh
                  simp [bodyF, tT, c5, sz, x_inConsI, x_inNilI, x_ix, sl, tv, hT2, i0, dn, dn2, f2, kw]
              · exact (o2.seq (by omega) w2).pos hL (by omega) (by omega)
            · by_cases c5 : y % 10 = 6
              · -- a call
                obtain ⟨S1, d1, p1', a1, f1, g1, w1, _⟩ := tg k _ _ T (by omega) hpT
                have q1 := w1.pot; have q2 := w1.b1; have q3 := w1.b2
                have hp1 := hpT.next hne w1 (by omega) (by by_cases q : 0 < L - ((1 : Nat) : Int) <;> omega)
                obtain ⟨j, ej, hj⟩ : ∃ j : Nat, y / 10 % 5 = (j : Int) ∧ j ≤ 4 := ⟨(y / 10 % 5).toNat, by omega, by omega⟩
                have hr : rng1 [.int (j : Int)] S1 = .ok (ML.intsFrom 0 j, still) S1 := by rw [x_rng1 (by omega) (by omega), Int.toNat_natCast]
                have hl : (ML.intsFrom 0 j).length = j := by simp [ML.intsFrom]
                obtain ⟨S2, as, p2', a2, f2, g2, g3, w2⟩ := tm_row (l := [some (.ref s), some (.int (((n + 1 : Nat) : Int) - 2)), some (.int y), some (.int 6), some (.int (y / 10)), some (.ref nr), none, some d1, none]) (c := (((n + 1 : Nat) : Int) - 2)) hne (by omega) (by omega : 2 * n ≤ k) tg rfl rfl dn (by simp) (ML.intsFrom 0 j) [] _ _ S1 hp1 (by omega) (by by_cases q : 0 < L - ((1 : Nat) : Int) <;> omega) (by simp; omega)
                rw [hl] at g2 w2
                rw [List.nil_append] at f2
                refine ⟨S2, _, 1 + p1' + p2', a2, bf (.ok (.tup [w "call", d1, .tup as]) S2) ?_, .call g1 (by omega) g3, ?_, fun q => by omega⟩
                · simp only [tT, c5]
                  simp at f2
                  simp [bodyF, sz, x_inConsI, x_inNilI, dn, dn2, f1, ej, hr, Tgt.own, wipeL, f2, tupL]
                · have oo := o1.seq (by omega) (w1.seq (by omega) w2)
                  rw [← Nat.add_assoc] at oo
                  exact oo.pos hL (by omega) (by omega)
              · have c6 : y % 10 = 7 := by omega
                obtain ⟨S1, d1, p1', a1, f1, g1, w1, _⟩ := tg k _ _ T (by omega) hpT
                have q1 := w1.pot; have q2 := w1.b1; have q3 := w1.b2
                have hp1 := hpT.next hne w1 (by omega) (by by_cases q : 0 < L - ((1 : Nat) : Int) <;> omega)
                obtain ⟨S2, d2, p2', a2, f2, g2, w2, _⟩ := tg k _ _ S1 (by omega) hp1
                refine ⟨S2, _, 1 + p1' + p2', a2, bf (.ok (.tup [w "step", d1, d2]) S2) ?_, .step g1 g2, ?_, fun q => by omega⟩
                · simp [bodyF, tT, c6, sz, x_inConsI, x_inNilI, dn, dn2, f1, f2]
                · have oo := o1.seq (by omega) (w1.seq (by omega) w2)
                  rw [← Nat.add_assoc] at oo
                  exact oo.pos hL (by omega) (by omega)
    · -- a statement
      obtain ⟨k, rfl⟩ : ∃ k, m = k + 1 := ⟨m - 1, by omega⟩
      obtain ⟨y, kk, T, z, wd, q8, hy, hz1, hw1, o1, hk, hlf, hhd, e1⟩ := stmt_pre (o := 20 * (n : Int)) hp hz (by omega) hne (((n + 1 : Nat) : Int) - 2) h
      have e1 := e1 (G__law_term k)
      have pp := hp.pot
      have pl := hp.low
      have p1 := o1.pot
      have tg := it (by omega)
      rw [G__law_term_2]
      have bf : ∀ (Z : R D), bodyF 10 (fun _ S => tS (G__law_term k) [some (.ref s), some (.int (((n + 1 : Nat) : Int) - 2)), some (.bl h), some (.int y), some (.int kk), some (.str z), some (.str wd), none, q8, none] T) [] S = Z → bodyF N__law_statement.length (m__law_statement (G__law_term k)) [.ref s, .int (((n + 1 : Nat) : Int) - 2), .bl h] S = Z := fun Z hR => by
        rw [← hR]
        unfold bodyF
        show ((m__law_statement (G__law_term k) [some (.ref s), some (.int (((n + 1 : Nat) : Int) - 2)), some (.bl h), none, none, none, none, none, none, none] S).bind _) = _
        rw [e1]
      have one : ∀ (X : List D), ∃ S' d p a', G__law_term k 0 [.ref s, .int ((n : Int) - 2)] (T ++ [.lst X]) = .ok d S' ∧ Tm (InZ zs) n p d ∧ Out ns nr s (20 * ((n + 1 : Nat) : Int)) 1 0 a L S (1 + p) a' S' := fun X => by
        have o2 := o1.app [.lst X]
        obtain ⟨S', d, p, a', f1, g1, w1, w2⟩ := tg k _ _ _ (by omega) (hp.next hne o2 (by omega) (by omega))
        have oo := o2.seq (by omega) w1
        have b2 := oo.b2
        have po := oo.pot
        exact ⟨S', d, p, a', f1, g1, oo.st, oo.a0, by omega, oo.fr, fun q => by have := w2 (by omega); omega, fun q => by have := b2 q; omega⟩
      by_cases c1 : kk < 2
      · obtain ⟨S', d, p, a', f1, g1, w1⟩ := one [w "let", w "set"]
        obtain ⟨T2, hT2⟩ : ∃ T2, T ++ [Cell.lst [w "let", w "set"]] = T2 := ⟨_, rfl⟩
        have k2 : T2[T.length]? = some (.lst [w "let", w "set"]) := by rw [← hT2]; exact at_end
        rw [hT2] at f1
        have c2 : kk = 0 ∨ kk = 1 := by omega
        rcases c2 with c2 | c2
        · have i0 : ixO T2 (.ref T.length) (.int 0) = some (w "let") := by rw [x_ixR (lstAt_of k2)]; exact at0 _ _
          exact ⟨S', _, 1 + p, a', bf (.ok (.tup [w "let", .str z, d]) S') (by simp [bodyF, tS, c2, sz, x_ix, hT2, i0, dn, dn2, f1]), .lets false z hz1.1 hz1.2 g1, w1⟩
        · have i0 : ixO T2 (.ref T.length) (.int 1) = some (w "set") := by rw [x_ixR (lstAt_of k2)]; exact at1 _ _ _
          exact ⟨S', _, 1 + p, a', bf (.ok (.tup [w "set", .str z, d]) S') (by simp [bodyF, tS, c2, sz, x_ix, hT2, i0, dn, dn2, f1]), .lets true z hz1.1 hz1.2 g1, w1⟩
      · by_cases c3 : kk < 5
        · obtain ⟨S', d, p, a', f1, g1, w1⟩ := one [w "hand", w "do", w "back"]
          obtain ⟨T2, hT2⟩ : ∃ T2, T ++ [Cell.lst [w "hand", w "do", w "back"]] = T2 := ⟨_, rfl⟩
          have k2 : T2[T.length]? = some (.lst [w "hand", w "do", w "back"]) := by rw [← hT2]; exact at_end
          rw [hT2] at f1
          have c2 : kk = 2 ∨ kk = 3 ∨ kk = 4 := by omega
          rcases c2 with c2 | c2 | c2
          · have i0 : ixO T2 (.ref T.length) (.int 0) = some (w "hand") := by rw [x_ixR (lstAt_of k2)]; exact at0 _ _
            have hh := hhd c2
            subst hh
            exact ⟨S', _, 1 + p, a', bf (.ok (.tup [w "hand", d]) S') (by simp [bodyF, tS, c2, sz, x_ix, hT2, i0, dn, dn2, f1]), .hand g1, w1⟩
          · have i0 : ixO T2 (.ref T.length) (.int 1) = some (w "do") := by rw [x_ixR (lstAt_of k2)]; exact at1 _ _ _
            exact ⟨S', _, 1 + p, a', bf (.ok (.tup [w "do", d]) S') (by simp [bodyF, tS, c2, sz, x_ix, hT2, i0, dn, dn2, f1]), .does false g1, w1⟩
          · have i0 : ixO T2 (.ref T.length) (.int 2) = some (w "back") := by rw [x_ixR (lstAt_of k2)]; exact at2 _ _ _ _
            exact ⟨S', _, 1 + p, a', bf (.ok (.tup [w "back", d]) S') (by simp [bodyF, tS, c2, sz, x_ix, hT2, i0, dn, dn2, f1]), .does true g1, w1⟩
        · by_cases c4 : kk = 5
          · obtain ⟨S', d, p, a', f1, g1, w1⟩ := one [.str wd, w "anya"]
            obtain ⟨T2, hT2⟩ : ∃ T2, T ++ [Cell.lst [.str wd, w "anya"]] = T2 := ⟨_, rfl⟩
            have k2 : T2[T.length]? = some (.lst [.str wd, w "anya"]) := by rw [← hT2]; exact at_end
            rw [hT2] at f1
            by_cases c2 : wd = Str.ofString "any"
            · have i0 : ixO T2 (.ref T.length) (.int 1) = some (w "anya") := by rw [x_ixR (lstAt_of k2)]; exact at1 _ _ _
              refine ⟨S', _, 1 + p, a', bf (.ok (.tup [w "fault", w "anya", d]) S') ?_, .fault (Str.ofString "anya") ?_ ?_ g1, w1⟩
              · subst c2
                simp [bodyF, tS, c4, sz, x_ix, hT2, i0, dn, dn2, f1]
              · exact nm_word "anya" (by decide) (by decide) (by decide)
              · intro q
                have := congrArg cs q
                rw [cs_of, cs_of] at this
                exact absurd this (by decide)
            · have i0 : ixO T2 (.ref T.length) (.int 0) = some (.str wd) := by rw [x_ixR (lstAt_of k2)]; exact at0 _ _
              refine ⟨S', _, 1 + p, a', bf (.ok (.tup [w "fault", .str wd, d]) S') ?_, .fault wd hw1 c2 g1, w1⟩
              simp [bodyF, tS, c4, c2, sz, x_ix, hT2, i0, dn, dn2, f1]
          · -- not at a leaf
            have hnl : ¬ ((((n + 1 : Nat) : Int) - 2) < 2 ∨ L - 1 < 0) := fun q => by have := hlf q; omega
            have hL : 0 < L := by omega
            have hn2 : 2 ≤ n := by omega
            have sg := is hn2
            have hpT : Pre ns nr s zs _ _ T := hp.next hne o1 (by omega) (by omega)
            by_cases c5 : kk < 8
            · obtain ⟨S1, d1, p1', a1, f1, g1, w1, _⟩ := tg k _ _ T (by omega) hpT
              have q1 := w1.pot; have q2 := w1.b1; have q3 := w1.b2
              have hp1 := hpT.next hne w1 (by omega) (by by_cases q : 0 < L - ((1 : Nat) : Int) <;> omega)
              obtain ⟨S2, bs, p2', a2, f2, b2, g2, w2⟩ := bd_gen (h := h) hne (by omega) (by omega : 2 * n + 1 ≤ k) sg hp1 (by omega) (by by_cases q : 0 < L - ((1 : Nat) : Int) <;> omega)
              by_cases c6 : kk = 6
              · refine ⟨S2, _, 1 + p1' + p2', a2, bf (.ok (.tup [w "while", d1, .tup bs]) S2) ?_, .whl g1 (by omega) g2, ?_⟩
                · simp [bodyF, tS, c6, sz, dn, dn2, f1, f2]
                · have oo := o1.seq (by omega) (w1.seq (by omega) w2)
                  rw [← Nat.add_assoc] at oo
                  exact oo.pos hL (by omega) (by omega)
              · have c7 : kk = 7 := by omega
                have r1 := w2.pot; have r2 := w2.b1; have r3 := w2.b2
                have hp2 := hp1.next hne w2 (by omega) (by by_cases q : 0 < L - ((1 : Nat) : Int) <;> by_cases q' : 0 < L - ((1 : Nat) : Int) - (p1' : Int) <;> omega)
                obtain ⟨S3, es, p3', a3, f3, b3, g3, w3⟩ := bd_gen (h := h) hne (by omega) (by omega : 2 * n + 1 ≤ k) sg hp2 (by omega) (by by_cases q : 0 < L - ((1 : Nat) : Int) <;> by_cases q' : 0 < L - ((1 : Nat) : Int) - (p1' : Int) <;> omega)
                refine ⟨S3, _, 1 + p1' + p2' + p3', a3, bf (.ok (.tup [w "if", d1, .tup bs, .tup es]) S3) ?_, .ifs g1 (by omega) g2 (by omega) g3, ?_⟩
                · simp [bodyF, tS, c7, sz, dn, dn2, f1, f2, f3]
                · have oo := o1.seq (by omega) (w1.seq (by omega) (w2.seq (by omega) w3))
                  rw [← Nat.add_assoc, ← Nat.add_assoc] at oo
                  exact oo.pos hL (by omega) (by omega)
            · have c6 : kk = 8 ∨ kk = 9 := by omega
              have hr : rng1 [.int 3] T = .ok ([.int 0, .int 1, .int 2], still) T := by rw [x_rng1 (by omega) (by omega)]; rfl
              obtain ⟨S1, bs, es, gs, p, q, r, a1, f1, b1, b2, b3, g1, g2, g3, w1⟩ := bd_three (h := h) (l := [some (.ref s), some (.int (((n + 1 : Nat) : Int) - 2)), some (.bl h), some (.int y), some (.int kk), some (.str z), some (.str wd), none, q8, none]) (c := (((n + 1 : Nat) : Int) - 2)) hne (by omega) (by omega : 2 * n + 1 ≤ k) sg rfl rfl dn rfl (by simp) hpT (by omega) (by omega) (.int 0) (.int 1) (.int 2)
              obtain ⟨S2, hS2⟩ : ∃ S2, S1 ++ [Cell.lst [.tup bs, .tup es, .tup gs]] = S2 := ⟨_, rfl⟩
              have k2 : S2[S1.length]? = some (.lst [.tup bs, .tup es, .tup gs]) := by rw [← hS2]; exact at_end
              have i0 : ixO S2 (.ref S1.length) (.int 0) = some (.tup bs) := by rw [x_ixR (lstAt_of k2)]; exact at0 _ _
              have i1 : ixO S2 (.ref S1.length) (.int 1) = some (.tup es) := by rw [x_ixR (lstAt_of k2)]; exact at1 _ _ _
              have i2 : ixO S2 (.ref S1.length) (.int 2) = some (.tup gs) := by rw [x_ixR (lstAt_of k2)]; exact at2 _ _ _ _
              have w2 := w1.app [.lst [.tup bs, .tup es, .tup gs]]
              rw [hS2] at w2
              refine ⟨S2, _, 1 + p + q + r, a1, bf (.ok (.tup [w "try", .tup bs, .str wd, .str z, .tup es, .tup gs]) S2) ?_, .trys wd z hw1 hz1.1 (by omega) g1 (by omega) g2 (by omega) g3, ?_⟩
              · rcases c6 with c6 | c6
                · subst c6
                  simp at f1
                  simp [bodyF, tS, sz, hr, Tgt.own, wipeL, f1, hS2, x_ix, i0, i1, i2]
                · subst c6
                  simp at f1
                  simp [bodyF, tS, sz, hr, Tgt.own, wipeL, f1, hS2, x_ix, i0, i1, i2]
              · have oo := o1.seq (by omega) w2
                have e3 : 1 + (p + q + r) = 1 + p + q + r := by omega
                rw [e3] at oo
                exact oo.pos hL (by omega) (by omega)
end
end K09

set_option Elab.async false
set_option linter.all false
set_option maxRecDepth 100000
set_option autoImplicit false
set_option maxHeartbeats 1000000
namespace K09
open PySem PySem.Spec L2 ML
section
variable {ns : List Int} {nr s b : Nat} {zs : List Str}
/-- the statements of a program -/
theorem prog_loop {M : Int} (hM : M ≤ 40) (hz : Names zs) (hne : nr ≠ s) (hbs : b ≠ s) (hbn : b ≠ nr) {c1 : Int} (hc : ∀ S, F__law_cell_at [.lis (ns.map .int), .int 1] S = .ok (.int c1) S) : ∀ (j fuel : Nat) (bs : List D) (p : Nat) (a L : Int) (S : Store), 6 ≤ j + bs.length → bs.length ≤ 6 → Pre ns nr s zs a L S → S[b]? = some (.lst bs) → Bd (InZ zs) 9 true p bs → L + p = M → -182 ≤ L → a + 4 * L ≤ 200 + bs.length → j + 1 ≤ fuel →
    ∃ S' bs' p', whileS (andM (cmpM gtD (binE ixD (varE 3) (conE (.str (Str.ofString "left")))) (conE (.int 0))) (cmpM ltD (newL lenV (consA (varE 4) (nilA))) (binE addD (conE (.int 1)) (binE modD (callE 2 F__law_cell_at (consA (varE 0) (consA (conE (.int 1)) (nilA)))) (conE (.int 6)))))) b__law_program_0 fuel [some (.lis (ns.map .int)), some (.int M), some (.ref nr), some (.ref s), some (.ref b)] S = .ok (.nx, [some (.lis (ns.map .int)), some (.int M), some (.ref nr), some (.ref s), some (.ref b)]) S' ∧ S'[b]? = some (.lst bs') ∧ S'[nr]? = some (.lst (zs.map .str)) ∧ bs'.length ≤ 6 ∧ Bd (InZ zs) 9 true p' bs' ∧ p' ≤ 222
  | j, 0, bs, p, a, L, S, _, _, _, _, _, _, _, _, hf => by omega
  | j, fuel + 1, bs, p, a, L, S, hj, hl, hp, hb, hB, hL, hL2, hpot, hf => by
    have q1 := st_left hp.st
    have q2 : lenV [.ref b] S = .ok (.int bs.length) S := x_lenR (lstAt_of hb)
    rw [x_while]
    by_cases c : 0 < L ∧ (bs.length : Int) < 1 + c1 % 6
    · have hb6 : bs.length < 6 := by omega
      obtain ⟨y, hy, e1⟩ := next_eq hp.st hp.a0 (by omega)
      obtain ⟨S1, hS1⟩ : ∃ S1, S.set s (stC ns (a + 1) L nr) = S1 := ⟨_, rfl⟩
      rw [hS1] at e1
      have f1 : Fr s S S1 := by rw [← hS1]; exact Fr.set S _
      have hp1 : Pre ns nr s zs (a + 1) L S1 := ⟨by rw [← hS1]; exact get_set_at hp.st, f1.2 nr _ hp.nm hne, by have := hp.a0; omega, by omega, hp.low⟩
      obtain ⟨n, hn, hn9, hn4⟩ : ∃ n : Nat, (n : Int) - 2 = 2 + y % 6 ∧ n ≤ 9 ∧ 4 ≤ n := ⟨(4 + y % 6).toNat, by omega, by omega, by omega⟩
      obtain ⟨S2, d, p', a', e2, g2, w2⟩ := (gen hz hne n (by omega)).2 (by omega) 60 true (a + 1) L S1 (by omega) (by omega) hp1
      rw [hn] at e2
      have b2 := f1.2 b _ hb hbs
      have b3 := w2.fr.2 b _ b2 hbs
      have r1 := w2.pot; have r2 := w2.b2 c.1
      have e3 := x_append (d := d) (lstAt_of b3) (by omega)
      obtain ⟨S3, hS3⟩ : ∃ S3, S2.set b (.lst (bs ++ [d])) = S3 := ⟨_, rfl⟩
      rw [hS3] at e3
      have hp3 : Pre ns nr s zs a' (L - p') S3 := ⟨by rw [← hS3, get_set_ne hbs]; exact w2.st, by rw [← hS3, get_set_ne hbn]; exact w2.fr.2 nr _ hp1.nm hne, w2.a0, by omega, by omega⟩
      have eb : b__law_program_0 [some (.lis (ns.map .int)), some (.int M), some (.ref nr), some (.ref s), some (.ref b)] S = .ok (.nx, [some (.lis (ns.map .int)), some (.int M), some (.ref nr), some (.ref s), some (.ref b)]) S3 := by
        simp [b__law_program_0, e1, F__law_statement, e2, e3, lstAt_of hb]
      obtain ⟨j', rfl⟩ : ∃ j', j = j' + 1 := ⟨j - 1, by omega⟩
      obtain ⟨S', bs', p'', e4, h1, h2, h3, h4, h5⟩ := prog_loop hM hz hne hbs hbn hc j' fuel (bs ++ [d]) (p + p') a' (L - p') S3 (by simp; omega) (by simp; omega) hp3 (by rw [← hS3]; exact get_set_at b3) (hB.snoc (g2.mono hn9)) (by omega) (by omega) (by simp; omega) (by omega)
      refine ⟨S', bs', p'', ?_, h1, h2, h3, h4, h5⟩
      simp [x_ix, q1, q2, hc, c.1, c.2, eb, e4]
    · refine ⟨S, bs, p, ?_, hb, hp.nm, hl, hB, by omega⟩
      by_cases c0 : 0 < L
      · have c2 : ¬ (bs.length : Int) < 1 + c1 % 6 := fun q => c ⟨c0, q⟩
        simp [x_ix, q1, q2, hc, c0, c2]
      · simp [x_ix, q1, q2, hc, c0]
end
/-- what the law's maker gives -/
def Main (P : Str → Prop) (d : D) : Prop := ∃ (ps : List Str) (bs : List D) (p : Nat), d = .tup [w "main", .tup (ps.map .str), .tup bs] ∧ ps.length ≤ 4 ∧ (∀ z ∈ ps, NmOk z) ∧ ps.Nodup ∧ bs.length ≤ 6 ∧ Bd P 9 true p bs ∧ p ≤ 222
theorem program_eq (ns : List Int) {M : Int} (hM0 : 0 ≤ M) (hM : M ≤ 40) (S0 : Store) : ∃ S d zs, F__law_program [.lis (ns.map .int), .int M] S0 = .ok d S ∧ Names zs ∧ Main (InZ zs) d := by
  obtain ⟨c0, hc0⟩ := cell_int ns 0 (by omega)
  obtain ⟨c1, hc1⟩ := cell_int ns 1 (by omega)
  obtain ⟨c2, hc2⟩ := cell_int ns 2 (by omega)
  obtain ⟨u, hu, hu0⟩ : ∃ u, c0 * 48271 % 2147483647 = u ∧ 0 ≤ u := ⟨_, rfl, Int.emod_nonneg _ (by decide)⟩
  obtain ⟨X, nr, zs, e1, hnr, k1, hz⟩ := names_eq u hu0 S0
  obtain ⟨X, eX⟩ : ∃ Y, S0 ++ X = Y := ⟨_, rfl⟩
  rw [eX] at e1 k1
  have hlt : nr < X.length := lt_of_at k1
  obtain ⟨S2, hS2⟩ : ∃ S2, X ++ [stC ns 0 M nr] ++ [Cell.lst []] = S2 := ⟨_, rfl⟩
  have s2 : S2[X.length]? = some (stC ns 0 M nr) := by rw [← hS2]; simp
  have b2 : S2[X.length + 1]? = some (.lst []) := by rw [← hS2]; simp
  have n2 : S2[nr]? = some (.lst (zs.map .str)) := by rw [← hS2]; exact at_app (at_app k1)
  obtain ⟨fu, hfu⟩ : ∃ fu, FU = fu + 7 := ⟨999993, by unfold FU; rfl⟩
  obtain ⟨S3, bs, p, e3, b3, n3, hl, hB, hp⟩ := prog_loop (M := M) hM (s := X.length) (b := X.length + 1) hz (by omega) (by omega) (by omega) hc1 6 FU [] 0 0 M S2 (by simp) (by simp) ⟨s2, n2, by omega, by omega, by omega⟩ b2 .nil (by omega) (by omega) (by simp; omega) (by rw [hfu]; omega)
  obtain ⟨i, ei, hi⟩ : ∃ i : Nat, c2 % 5 = (i : Int) ∧ i ≤ 4 := ⟨(c2 % 5).toNat, by omega, by omega⟩
  have sl : sliceD (.ref nr) none (some (c2 % 5)) S3 = .ok (.ref S3.length) (S3 ++ [.lst ((zs.take i).map D.str)]) := by
    unfold sliceD
    simp only [x_lstOfR, lstAt_of n3]
    unfold cutD
    rw [ei, sIx_of, List.length_map, hz.len, Nat.min_eq_left (by omega)]
    simp [List.map_take, show HT.sIx 8 0 none = 0 from rfl]
  obtain ⟨S4, hS4⟩ : ∃ S4, S3 ++ [Cell.lst ((zs.take i).map D.str)] = S4 := ⟨_, rfl⟩
  have t4 : tupV [.ref S3.length] S4 = .ok (.tup ((zs.take i).map D.str)) S4 := by
    unfold tupV
    simp only [x_lstOfR, lstAt_of (show S4[S3.length]? = some (.lst ((zs.take i).map D.str)) by rw [← hS4]; exact at_end)]
  have b4 : S4[X.length + 1]? = some (.lst bs) := by rw [← hS4]; exact at_app b3
  have t5 : tupV [.ref (X.length + 1)] S4 = .ok (.tup bs) S4 := by
    unfold tupV
    simp only [x_lstOfR, lstAt_of b4]
  refine ⟨S4, .tup [w "main", .tup ((zs.take i).map .str), .tup bs], zs, ?_, hz, zs.take i, bs, p, rfl, by rw [List.length_take]; omega, fun z h => hz.ok z (List.mem_of_mem_take h), hz.nd.sublist (List.take_sublist i zs), hl, hB, hp⟩
  rw [hS4] at sl
  have ed : (X ++ [Cell.dct []]).set X.length (stC ns 0 M nr) = X ++ [stC ns 0 M nr] := by simp
  have hk : keysO [(D.str (Str.ofString "cells"), D.lis (ns.map D.int)), (D.str (Str.ofString "at"), D.int 0), (D.str (Str.ofString "left"), D.int M), (D.str (Str.ofString "names"), D.ref nr)] = some (stL ns 0 M nr) := rfl
  have hmg : mergeD [] (stL ns 0 M nr) = stL ns 0 M nr := rfl
  have hsl : (stL ns 0 M nr).length = 4 := rfl
  have hda : dctAt (X ++ [Cell.dct []]) X.length = some [] := by
    unfold dctAt
    simp
  unfold F__law_program
  simp only [x_bodyF, m__law_program, N__law_program, startL]
  unfold stC at hS2
  simp [-x_ixT, hc0, hu, e1, sz, hk, hmg, hda, hsl, hS2, e3, hc2, sl, t4, t5]
end K09

set_option Elab.async false
set_option linter.all false
set_option maxRecDepth 100000
set_option autoImplicit false
set_option maxHeartbeats 1000000
namespace K09
open PySem PySem.Spec L2 ML
variable {P : Str → Prop}
theorem Main.fields {ps : List Str} {bs : List D} {p : Nat} (h1 : ps.length ≤ 4) (h2 : ∀ z ∈ ps, NmOk z) (h3 : bs.length ≤ 6) (h4 : Bd P 9 true p bs) : inn (.tup [w "main", .tup (ps.map .str), .tup bs]) = bs := by
  simp [inn, fnw_of, nms_innF, h4.innF]
theorem Main.part {d : D} (h : Main P d) : ∃ q, Part P 9 (1 + q) d ∧ q ≤ 222 := by
  obtain ⟨ps, bs, p, rfl, h1, h2, hn, h3, h4, h5⟩ := h
  have e := Main.fields h1 h2 h3 h4
  refine ⟨p, ⟨⟨_, _, rfl, by simp, ?_⟩, ⟨p, by rw [e]; exact h4.ps, rfl⟩, ?_⟩, h5⟩
  · intro x hx
    simp at hx
    rcases hx with rfl | rfl
    · exact nms_fd h2 h1
    · exact h4.fd (by omega) (by omega)
  · rw [e]
    exact told_of fun S => by simp [F_inner_of, m_inner_of, N_inner_of, startL, x_ix, at0, at2, sz, x_inConsS, x_inNilS, ofS_eq, x_listU]
theorem Main.py {d : D} (h : Main P d) : PyOk d 64 300000 := by
  obtain ⟨ps, bs, p, rfl, h1, h2, hn, h3, h4, h5⟩ := h
  exact (PyOk.tup ((PyOk.w "main" (by decide) 19).cons (((PysOk.nms h2 18).tup).cons ((h4.py.tup).cons .nil)))).le (by omega) (by simp; omega)
theorem Main.size {d : D} (h : Main P d) (S : Store) : ∃ X p, F_size_of [d] S = .ok (.int p) (S ++ X) ∧ p ≤ 300 := by
  obtain ⟨q, hp, hq⟩ := h.part
  obtain ⟨X, e⟩ := hp.size (m := 59) (fun p d h S => size_eq 9 59 p d h (by omega) (by omega) S) S
  exact ⟨X, _, e, by omega⟩
theorem Main.is {d : D} (h : Main P d) (S : Store) : ∃ X, F_is_program [d] S = .ok (.bl true) (S ++ X) := by
  have hs := h.size
  obtain ⟨ps, bs, p, rfl, h1, h2, hn, h3, h4, h5⟩ := h
  obtain ⟨X, e⟩ := body_ok (m := 59) (left := 19) (h := true) (by omega) (fun b hb => h4.is 59 19 (by omega) (by omega) b hb) S
  obtain ⟨Y, q, e2, hq⟩ := hs (S ++ X)
  have hw := fun S => has_word_eq (a := "main") (b := "main") (xs := [.tup (ps.map .str), .tup bs]) (n := 3) (S := S)
  have hnm := is_names_eq h1 h2 hn
  refine ⟨X ++ Y, ?_⟩
  rw [← List.append_assoc]
  simp at hw
  have e19 : (20 : Int) - 1 = 19 := rfl
  simp [F_is_program, m_is_program, N_is_program, startL, x_ix, at1, at2, sz, hw, hnm, F_is_body, e, e2, hq]
theorem Main.need {d : D} (h : Main P d) (S : Store) : ∃ X, F_need_program [d] S = .ok .non (S ++ X) := by
  obtain ⟨X, e⟩ := h.is S
  exact ⟨X, by simp [F_need_program, m_need_program, N_need_program, startL, e]⟩
/-! ### what is found -/
def Lay (d : D) : Prop := ∃ py, (∀ S k, 30 ≤ k → toPy S k d = some py) ∧ py.canLay0 = true
theorem PyOk.lay {d : D} {n p : Nat} (h : PyOk d n p) (hn : n ≤ 30) : Lay d := by
  obtain ⟨py, a, b, _, _⟩ := h
  exact ⟨py, fun S k hk => a S k (by omega), b⟩
def Lays (as : List D) : Prop := ∃ pys, (∀ S k, 30 ≤ k → mapO (toPy S k) as = some pys) ∧ PyData.canLayAll0 pys = true
theorem Lays.nil : Lays [] := ⟨[], fun S k _ => rfl, rfl⟩
theorem Lays.cons {a : D} {as : List D} (h1 : Lay a) (h2 : Lays as) : Lays (a :: as) := by
  obtain ⟨py, a1, b1⟩ := h1
  obtain ⟨pys, a2, b2⟩ := h2
  exact ⟨py :: pys, fun S k hk => by rw [mapO_cons, a1 S k hk, a2 S k hk], by rw [PyData.canLayAll0, b1, b2]; rfl⟩
theorem Lays.of : ∀ {as : List D}, (∀ a ∈ as, Lay a) → Lays as
  | [], _ => .nil
  | a :: as, h => .cons (h a List.mem_cons_self) (.of fun b hb => h b (List.mem_cons_of_mem _ hb))
/-- an entry of what is found -/
def Ent (e : D) : Prop := ∃ (z : Str) (a b : D) (o : Int), e = .tup [.str z, a, b, .int o] ∧ Lay e
theorem lay_tup {as : List D} (h : ∃ pys, (∀ S k, 29 ≤ k → mapO (toPy S k) as = some pys) ∧ PyData.canLayAll0 pys = true) : Lay (.tup as) := by
  obtain ⟨pys, a, b⟩ := h
  refine ⟨.tuple pys, fun S k hk => ?_, b⟩
  obtain ⟨j, rfl⟩ : ∃ j, k = j + 1 := ⟨k - 1, by omega⟩
  rw [toPy_tup, a S j (by omega)]
  rfl
theorem ent_of {n p : Nat} {k : D} (h : Pt P n p k) (hn : n ≤ 10) (hf : fn2 k = true) (o : Int) : Ent (ent k o) := by
  rcases h with h | ⟨_, h⟩
  · cases h with
    | @fn n p bs kk ps a b c d e =>
      refine ⟨_, _, _, o, rfl, lay_tup ?_⟩
      have hk : PyOk (w (kw kk)) 29 44 := by cases kk <;> exact (PyOk.w _ (by decide) _).le (Nat.le_refl _) (by decide)
      obtain ⟨py, a1, b1, _, _⟩ := hk
      obtain ⟨py2, a2, b2, _, _⟩ := (PysOk.nms b 28).tup
      obtain ⟨py3, a3, b3, _, _⟩ := e.py.tup
      refine ⟨[py, py2, py3, .int o], fun S k hk => ?_, ?_⟩
      · rw [mapO_cons, mapO_cons, mapO_cons, mapO_cons, mapO_nil, a1 S k (by omega), a2 S k (by omega), a3 S k (by omega), toPy_int]
      · simp only [PyData.canLayAll0, b1, b2, b3, Bool.true_and, Bool.and_true]
        rfl
    | call _ _ _ => simp [fn2, ofS_eq] at hf
    | num _ _ _ => simp [fn2, ofS_eq] at hf
    | nam _ _ _ => simp [fn2, ofS_eq] at hf
    | two _ _ _ _ => simp [fn2, ofS_eq] at hf
    | step _ _ => simp [fn2, ofS_eq] at hf
  · cases h with
    | lets b _ _ _ _ => cases b <;> simp [fn2, ofS_eq] at hf
    | fault _ _ _ _ => simp [fn2, ofS_eq] at hf
    | hand _ => simp [fn2, ofS_eq] at hf
    | does b _ => cases b <;> simp [fn2, ofS_eq] at hf
    | whl _ _ _ => simp [fn2, ofS_eq] at hf
    | ifs _ _ _ _ _ => simp [fn2, ofS_eq] at hf
    | trys _ _ _ _ _ _ _ _ _ => simp [fn2, ofS_eq] at hf
def Grow (acc r : List D) : Prop := ∃ new, r = acc ++ new ∧ ∀ e ∈ new, Ent e
theorem Grow.refl (acc : List D) : Grow acc acc := ⟨[], by simp, by simp⟩
theorem Grow.trans {a b c : List D} (h1 : Grow a b) (h2 : Grow b c) : Grow a c := by
  obtain ⟨n1, rfl, g1⟩ := h1
  obtain ⟨n2, rfl, g2⟩ := h2
  refine ⟨n1 ++ n2, by rw [List.append_assoc], fun e he => ?_⟩
  rcases List.mem_append.mp he with h | h
  · exact g1 e h
  · exact g2 e h
theorem row_grow {n : Nat} (hn : n ≤ 10) {o : Int} (ih : ∀ p d, Pt P n p d → ∀ o acc, Grow acc (gat n d o acc)) {q : Nat} {ks : List D} (h : Ps P n q ks) : ∀ acc, Grow acc (ks.foldl (gst (gat n) o) acc) := by
  induction h with
  | nil => exact fun acc => Grow.refl acc
  | @cons p q a as hp _ ihs =>
    intro acc
    rw [List.foldl_cons]
    refine Grow.trans ?_ (ihs _)
    unfold gst
    by_cases c : fn2 a = true
    · rw [if_pos c]
      exact Grow.trans ⟨[ent a o], rfl, fun e he => by rw [List.mem_singleton.mp he]; exact ent_of hp hn c o⟩ (ih _ _ hp _ _)
    · rw [if_neg c]
      exact ih _ _ hp _ _
theorem gat_grow : ∀ (n : Nat), n ≤ 10 → ∀ p d, Pt P n p d → ∀ o acc, Grow acc (gat n d o acc)
  | 0, _, p, d, h, _, _ => h.zero.elim
  | n + 1, hn, p, d, h, o, acc => by
    obtain ⟨q, hq, _⟩ := (h.part (by omega)).kids
    exact row_grow (by omega) (fun p d h => gat_grow n (by omega) p d h) hq acc
theorem Main.grow {d : D} (h : Main P d) (o : Int) (acc : List D) : Grow acc (gat 10 d o acc) := by
  obtain ⟨q, hp, _⟩ := h.part
  obtain ⟨q, hq, _⟩ := hp.kids
  exact row_grow (by omega) (fun p d h => gat_grow 9 (by omega) p d h) hq acc
theorem Main.gather {d : D} (h : Main P d) (acc : List D) (S : Store) (f : Nat) (hf : S[f]? = some (.lst acc)) (hl : acc.length ≤ 10) : ∃ S', F_gather [d, .int 0, .ref f] S = .ok .non S' ∧ S'[f]? = some (.lst (gat 10 d 0 acc)) ∧ Fr f S S' ∧ (gat 10 d 0 acc).length ≤ 300 := by
  obtain ⟨q, hp, hq⟩ := h.part
  obtain ⟨S', a, b, c, e⟩ := hp.gather (m := 59) (fun p d h => gather_eq 9 59 p d h (by omega) (by omega)) 0 acc S f hf (by omega)
  have e' : (gat 10 d 0 acc).length + 1 ≤ acc.length + (1 + q) := e
  exact ⟨S', a, b, c, by omega⟩
/-- the first entry, and the whole list -/
def head (d : D) : D := match d with
  | .tup [a, b, c] => .tup [a, b, c, .non]
  | _ => .non
def all (d : D) : List D := gat 10 d 0 [head d]
theorem Main.all_eq {d : D} (h : Main P d) : ∃ new, all d = head d :: new ∧ ∀ e ∈ new, Ent e := by
  obtain ⟨new, e, g⟩ := h.grow 0 [head d]
  exact ⟨new, e, g⟩
theorem Main.head_lay {d : D} (h : Main P d) : Lay (head d) := by
  obtain ⟨ps, bs, p, rfl, h1, h2, hn, h3, h4, h5⟩ := h
  refine lay_tup ?_
  obtain ⟨py, a1, b1, _, _⟩ := PyOk.w "main" (by decide) 29
  obtain ⟨py2, a2, b2, _, _⟩ := (PysOk.nms h2 28).tup
  obtain ⟨py3, a3, b3, _, _⟩ := h4.py.tup
  refine ⟨[py, py2, py3, .none], fun S k hk => ?_, ?_⟩
  · rw [mapO_cons, mapO_cons, mapO_cons, mapO_cons, mapO_nil, a1 S k (by omega), a2 S k (by omega), a3 S k (by omega), toPy_non]
  · simp only [PyData.canLayAll0, b1, b2, b3, Bool.true_and, Bool.and_true]
    rfl
theorem Main.lays {d : D} (h : Main P d) : Lays (all d) := by
  obtain ⟨new, e, g⟩ := h.all_eq
  rw [e]
  exact .cons h.head_lay (.of fun x hx => by obtain ⟨_, _, _, _, _, q⟩ := g x hx; exact q)
theorem Main.functions {d : D} (h : Main P d) (S : Store) : ∃ (S' : Store) (r : Nat), F_functions_of [d] S = .ok (.ref r) S' ∧ S'[r]? = some (.lst (all d)) ∧ (∀ (i : Nat) (c : Cell), S[i]? = some c → S'[i]? = some c) ∧ S.length ≤ r := by
  obtain ⟨X, e1⟩ := h.need S
  obtain ⟨S1, hS1⟩ : ∃ S1, S ++ X = S1 := ⟨_, rfl⟩
  obtain ⟨S2, hS2⟩ : ∃ S2, S1 ++ [Cell.lst [head d]] = S2 := ⟨_, rfl⟩
  have k2 : S2[S1.length]? = some (.lst [head d]) := by rw [← hS2]; exact at_end
  obtain ⟨S3, e3, k3, f3, _⟩ := h.gather [head d] S2 S1.length k2 (by simp)
  have hlen : S.length ≤ S1.length := by rw [← hS1]; simp
  refine ⟨S3, S1.length, ?_, k3, fun i c hi => ?_, hlen⟩
  · obtain ⟨ps, bs, p, rfl, _⟩ := h
    simp [F_functions_of, m_functions_of, N_functions_of, startL, e1, hS1, x_ix, at1, at2, sz]
    unfold head at hS2
    simp [hS2, e3]
  · have := lt_of_at hi
    refine f3.2 i c ?_ (by omega)
    rw [← hS2, ← hS1]
    exact at_app (at_app hi)
end K09

set_option Elab.async false
set_option linter.all false
set_option maxRecDepth 100000
set_option autoImplicit false
set_option maxHeartbeats 1000000
namespace K09
open PySem PySem.Spec L2 ML
variable {P : Str → Prop}
/-! ### a name in a list of names -/
theorem in_tup (z : Str) (S : Store) : ∀ xs : List Str, inD (.str z) (.tup (xs.map .str)) S = .ok (decide (z ∈ xs)) S
  | [] => by rw [List.map_nil, x_inNilS]; simp
  | x :: xs => by
    rw [List.map_cons, x_inConsS, in_tup z S xs]
    show R.ok (decide (x = z) || decide (z ∈ xs)) S = _
    congr 1
    by_cases h : z = x
    · subst h; simp
    · have : ¬ x = z := fun e => h e.symm
      simp [h, this]
theorem in_list {S : Store} {n : Nat} {xs : List Str} (h : S[n]? = some (.lst (xs.map .str))) (z : Str) : inD (.str z) (.ref n) S = .ok (decide (z ∈ xs)) S := by
  rw [← in_tup z S xs]
  have e1 : seqOf S (.ref n) = some (xs.map .str) := lstAt_of h
  have e2 : seqOf S (.tup (xs.map .str)) = some (xs.map D.str) := rfl
  have e : inO S (.str z) (.ref n) = inO S (.str z) (.tup (xs.map .str)) := by
    unfold inO
    simp only [e1, e2]
  unfold inD
  rw [e]
/-! ### found = found + f(x), for x in a list -/
theorem loc_get {l : ML.Loc} {i : Nat} {d : D} (h : l[i]? = some (some d)) (S : Store) : varE i l S = .ok d S := by
  unfold varE
  rw [h]
theorem sum_loop {F : List D → Store → R D} {i j : Nat} (hij : i ≠ j) {g : D → List Str} {chk : Store → Prop} (hchk : ∀ S X, chk S → chk (S ++ X)) : ∀ (ks : List D) (acc : List Str) (l : ML.Loc) (S : Store) (a : Nat), (∀ k ∈ ks, Told F k ((g k).map .str)) → l[i]? = some (some (.ref a)) → j < l.length → S[a]? = some (.lst (acc.map .str)) → chk S → acc.length + (ks.flatMap g).length ≤ 16000000 →
    ∃ X a' l', forL chk (nameT j) (setS i (binE addD (varE i) (callE 1 F (consA (varE j) nilA)))) ks l S = .ok (.nx, l') (S ++ X) ∧ l'[i]? = some (some (.ref a')) ∧ (S ++ X)[a']? = some (.lst ((acc ++ ks.flatMap g).map .str)) ∧ (∀ q, q ≠ i → q ≠ j → l'[q]? = l[q]?) ∧ l'.length = l.length ∧ (a' = a ∨ S.length ≤ a')
  | [], acc, l, S, a, h, hi, hj, ha, hc, hz => ⟨[], a, l, by rw [forL_nil hc]; simp, hi, by simpa using ha, fun q _ _ => rfl, rfl, .inl rfl⟩
  | k :: ks, acc, l, S, a, h, hi, hj, ha, hc, hz => by
    have hi' := (List.getElem?_eq_some_iff.mp hi).1
    rw [List.flatMap_cons, List.length_append] at hz
    obtain ⟨X, r, e1, k1, _⟩ := h k List.mem_cons_self S
    have k0 : (S ++ X)[a]? = some (.lst (acc.map .str)) := at_app ha
    have e2 := x_addR k0 k1 (by rw [List.length_map, List.length_map]; omega)
    rw [← List.map_append] at e2
    obtain ⟨Y, a', l', e3, q1, q2, q3, q4, q5⟩ := sum_loop (F := F) hij hchk ks (acc ++ g k) ((l.set j (some k)).set i (some (.ref (S ++ X).length))) (S ++ X ++ [.lst ((acc ++ g k).map .str)]) (S ++ X).length (fun y hy => h y (List.mem_cons_of_mem _ hy)) (by rw [List.getElem?_set_self]; simpa using hi') (by simpa using hj) at_end (hchk _ _ (hchk _ _ hc)) (by rw [List.length_append]; omega)
    refine ⟨X ++ [.lst ((acc ++ g k).map .str)] ++ Y, a', l', ?_, q1, by rw [List.flatMap_cons, ← List.append_assoc]; simpa using q2, fun q a b => by rw [q3 q a b, List.getElem?_set_ne (Ne.symm a), List.getElem?_set_ne (Ne.symm b)], by rw [q4]; simp, ?_⟩
    · rw [forL_cons hc]
      have v1 : varE i (l.set j (some k)) S = .ok (.ref a) S := loc_get (by rw [List.getElem?_set_ne (Ne.symm hij)]; exact hi) S
      have v2 : varE j (l.set j (some k)) S = .ok k S := loc_get (List.getElem?_set_self hj) S
      have eb : setS i (binE addD (varE i) (callE 1 F (consA (varE j) nilA))) (l.set j (some k)) S = .ok (.nx, (l.set j (some k)).set i (some (.ref (S ++ X).length))) (S ++ X ++ [.lst ((acc ++ g k).map .str)]) := by
        unfold setS
        simp only [x_bin, v1, R.bind_ok]
        unfold callE
        simp only [x_consA, x_nilA, v2, R.bind_ok, List.length_cons, List.length_nil]
        rw [if_pos trivial, e1]
        simp only [R.bind_ok, e2]
      show ((R.ok (l.set j (some k)) S).bind fun l1 S1 => _) = _
      simp only [R.bind_ok, eb]
      show forL chk _ _ ks _ _ = _
      rw [e3]
      simp
    · rcases q5 with q5 | q5
      · right; rw [q5]; simp
      · right
        simp at q5
        omega
/-! ### names used -/
def nmOf : D → List Str
  | .tup (.str k :: .str z :: _) => if k = Str.ofString "name" ∨ k = Str.ofString "set" then [z] else []
  | _ => []
def useF : Nat → D → List Str
  | 0, _ => []
  | n + 1, d => if fn2 d = true then [] else nmOf d ++ (inn d).flatMap (useF n)
theorem told_nil {F : List D → Store → R D} {d : D} (h : ∀ S, F [d] S = .ok (.ref S.length) (S ++ [.lst []])) : Told F d (([] : List Str).map .str) := fun S => ⟨_, _, h S, at_end, Nat.le_refl _⟩
/-- the word of a part, and its name -/
theorem Pt.names {n p : Nat} {k : D} (h : Pt P n p k) : ∃ z r, k = .tup (.str z :: r) ∧ nmOf k = nmOf k ∧ (decide (Str.ofString "name" = z) || (decide (Str.ofString "set" = z) || false)) = decide (nmOf k ≠ []) ∧ (nmOf k ≠ [] → ∃ y q, r = .str y :: q ∧ nmOf k = [y] ∧ P y) := by
  rcases h with h | ⟨_, h⟩
  · cases h with
    | nam z a pz => exact ⟨_, _, rfl, rfl, by simp [nmOf, ofS_eq], fun _ => ⟨z, _, rfl, by simp [nmOf, ofS_eq], pz⟩⟩
    | num i a b => exact ⟨_, _, rfl, rfl, by simp [nmOf, ofS_eq], fun q => by simp [nmOf] at q⟩
    | two s a b c => exact ⟨_, _, rfl, rfl, by simp [nmOf, ofS_eq], fun q => by simp [nmOf, ofS_eq] at q⟩
    | fn k ps a b c d e => exact ⟨_, _, rfl, rfl, by cases k <;> simp [nmOf, kw, ofS_eq], fun q => by simp [nmOf] at q⟩
    | @call n p q f as a b c =>
      obtain ⟨z, r, rfl⟩ := a.form
      exact ⟨_, _, rfl, rfl, by simp [nmOf, ofS_eq], fun q => by simp [nmOf] at q⟩
    | @step n p q f g a b =>
      obtain ⟨z, r, rfl⟩ := a.form
      exact ⟨_, _, rfl, rfl, by simp [nmOf, ofS_eq], fun q => by simp [nmOf] at q⟩
  · cases h with
    | lets b z a pz c =>
      cases b with
      | false => exact ⟨_, _, rfl, rfl, by simp [nmOf, ofS_eq], fun q => by simp [nmOf, ofS_eq] at q⟩
      | true => exact ⟨_, _, rfl, rfl, by simp [nmOf, ofS_eq], fun _ => ⟨z, _, rfl, by simp [nmOf, ofS_eq], pz⟩⟩
    | fault z a b c => exact ⟨_, _, rfl, rfl, by simp [nmOf, ofS_eq], fun q => by simp [nmOf, ofS_eq] at q⟩
    | hand a =>
      obtain ⟨z, r, rfl⟩ := a.form
      exact ⟨_, _, rfl, rfl, by simp [nmOf, ofS_eq], fun q => by simp [nmOf] at q⟩
    | does b a =>
      obtain ⟨z, r, rfl⟩ := a.form
      exact ⟨_, _, rfl, rfl, by cases b <;> simp [nmOf, ofS_eq], fun q => by simp [nmOf] at q⟩
    | whl a b c =>
      obtain ⟨z, r, rfl⟩ := a.form
      exact ⟨_, _, rfl, rfl, by simp [nmOf, ofS_eq], fun q => by simp [nmOf] at q⟩
    | ifs a b c d e =>
      obtain ⟨z, r, rfl⟩ := a.form
      exact ⟨_, _, rfl, rfl, by simp [nmOf, ofS_eq], fun q => by simp [nmOf] at q⟩
    | trys y z a b c d e f g i => exact ⟨_, _, rfl, rfl, by simp [nmOf, ofS_eq], fun q => by simp [nmOf] at q⟩
theorem Ps.all {n : Nat} {q : Nat} {ks : List D} (h : Ps P n q ks) : ∀ k ∈ ks, ∃ p, Pt P n p k := by
  induction h with
  | nil => intro k hk; simp at hk
  | @cons p q a as hp _ ih =>
    intro k hk
    rcases List.mem_cons.mp hk with rfl | hk
    · exact ⟨p, hp⟩
    · exact ih k hk
theorem row_len {n : Nat} {f : D → List Str} (h : ∀ p k, Pt P n p k → (f k).length ≤ p) {q : Nat} {ks : List D} (hk : Ps P n q ks) : (ks.flatMap f).length ≤ q := by
  induction hk with
  | nil => simp
  | @cons p q a as hp _ ih =>
    rw [List.flatMap_cons, List.length_append]
    have := h p a hp
    omega
theorem use_len : ∀ (n p : Nat) (d : D), Pt P n p d → n ≤ 31 → (useF n d).length ≤ p
  | 0, p, d, h, _ => h.zero.elim
  | n + 1, p, d, h, hn => by
    obtain ⟨q, hq, rfl⟩ := (h.part (by omega)).kids
    have := row_len (f := useF n) (fun p k hk => use_len n p k hk (by omega)) hq
    obtain ⟨z, r, rfl, _, _, h2⟩ := h.names
    unfold useF
    split
    · simp
    · rw [List.length_append]
      by_cases e : nmOf (.tup (.str z :: r)) = []
      · rw [e, List.length_nil]; omega
      · obtain ⟨y, q, _, e2, _⟩ := h2 e
        rw [e2, List.length_singleton]; omega
theorem use_in : ∀ (n p : Nat) (d : D), Pt P n p d → n ≤ 31 → ∀ z ∈ useF n d, P z
  | 0, p, d, h, _ => h.zero.elim
  | n + 1, p, d, h, hn => fun z hz => by
    obtain ⟨q, hq, rfl⟩ := (h.part (by omega)).kids
    obtain ⟨w, r, rfl, _, _, h2⟩ := h.names
    unfold useF at hz
    split at hz
    · simp at hz
    · rcases List.mem_append.mp hz with hz | hz
      · by_cases e : nmOf (.tup (.str w :: r)) = []
        · rw [e] at hz; simp at hz
        · obtain ⟨y, q, _, e2, py⟩ := h2 e
          rw [e2] at hz
          rw [List.mem_singleton.mp hz]
          exact py
      · obtain ⟨k, hk, hz⟩ := List.mem_flatMap.mp hz
        obtain ⟨p, hp⟩ := hq.all k hk
        exact use_in n p k hp (by omega) z hz
end K09

set_option Elab.async false
set_option linter.all false
set_option maxRecDepth 100000
set_option autoImplicit false
set_option maxHeartbeats 1000000
namespace K09
open PySem PySem.Spec L2 ML
variable {P : Str → Prop}
/-! ### used_in, _law_used -/
theorem chk_app (r : Nat) (xs : List D) (S X : Store) (h : lstAt S r = some xs) : lstAt (S ++ X) r = some xs := lst_mono r xs S X h
theorem Part.used {n m p : Nat} {d : D} (hp : Pt P (n + 1) p d) (h : Part P n p d) (hl : (useF (n + 1) d).length ≤ 10000) (ih : ∀ k ∈ inn d, Told (G_used_in m 0) k ((useF n k).map .str)) : Told (G_used_in (m + 1) 0) d ((useF (n + 1) d).map .str) := fun S => by
  obtain ⟨z, rr, rfl, _, hn, hn2⟩ := hp.names
  have hin := fn2_in (z := z) (r := rr) S
  have hnm : inD (.str z) (.tup [w "name", w "set"]) = fun S => .ok (decide (nmOf (.tup (.str z :: rr)) ≠ [])) S := by
    funext S
    rw [x_inConsS, x_inConsS, x_inNilS]
    show R.ok (decide (Str.ofString "name" = z) || (decide (Str.ofString "set" = z) || false)) S = _
    rw [hn]
  by_cases c : fn2 (.tup (.str z :: rr)) = true
  · have e0 : useF (n + 1) (.tup (.str z :: rr)) = [] := by unfold useF; rw [if_pos c]
    rw [e0, G_used_in_0]
    refine ⟨[.lst []], S.length, ?_, at_end, Nat.le_refl _⟩
    simp [m_used_in, N_used_in, startL, x_ix, at0, sz, hin, c]
  · have e0 : useF (n + 1) (.tup (.str z :: rr)) = nmOf (.tup (.str z :: rr)) ++ (inn (.tup (.str z :: rr))).flatMap (useF n) := by rw [useF, if_neg c]
    rw [e0] at hl ⊢
    obtain ⟨S1, hS1⟩ : ∃ S1, S ++ [Cell.lst ((nmOf (.tup (.str z :: rr))).map .str)] = S1 := ⟨_, rfl⟩
    have k1 : S1[S.length]? = some (.lst ((nmOf (.tup (.str z :: rr))).map .str)) := by rw [← hS1]; exact at_end
    obtain ⟨X, r, e1, kr, _⟩ := h.told S1
    have e4 := x_srcR kr
    obtain ⟨Y, a', l', e2, q1, q2, _, _, q5⟩ := sum_loop (F := G_used_in m 0) (i := 1) (j := 2) (by omega) (g := useF n) (chk := fun S' => lstAt S' r = some (inn (.tup (.str z :: rr)))) (chk_app r _) (inn (.tup (.str z :: rr))) (nmOf (.tup (.str z :: rr))) [some (.tup (.str z :: rr)), some (.ref S.length), none] (S1 ++ X) S.length ih rfl (by simp) (at_app k1) (lstAt_of kr) (by rw [← List.length_append]; omega)
    refine ⟨[Cell.lst ((nmOf (.tup (.str z :: rr))).map .str)] ++ X ++ Y, a', ?_, by
      have : S ++ ([Cell.lst ((nmOf (.tup (.str z :: rr))).map .str)] ++ X ++ Y) = S1 ++ X ++ Y := by rw [← hS1]; simp
      rw [this]; exact q2, by
      have : S.length ≤ S1.length := by rw [← hS1]; simp
      rcases q5 with q5 | q5
      · omega
      · simp at q5; omega⟩
    have eS : S ++ ([Cell.lst ((nmOf (.tup (.str z :: rr))).map .str)] ++ X ++ Y) = S1 ++ X ++ Y := by rw [← hS1]; simp
    rw [eS, G_used_in_0]
    have hv := loc_get q1 (S1 ++ X ++ Y)
    have eb : b_used_in_0 (G_used_in m) = setS 1 (binE addD (varE 1) (callE 1 (G_used_in m 0) (consA (varE 2) nilA))) := rfl
    by_cases cn : nmOf (.tup (.str z :: rr)) = []
    · rw [cn] at hS1 hnm
      rw [List.map_nil] at hS1
      simp [-List.append_assoc, m_used_in, N_used_in, startL, x_ix, at0, sz, hin, c, hnm, hS1, e1, e4, eb, e2, hv]
    · obtain ⟨y, q, rfl, e5, _⟩ := hn2 cn
      rw [e5] at hS1
      have ea : appendM (.ref S.length) [.str y] (S ++ [Cell.lst []]) = .ok .non S1 := by
        rw [x_append (xs := []) (lstAt_of at_end) (by simp), set_end, ← hS1]
        rfl
      simp [-List.append_assoc, m_used_in, N_used_in, startL, x_ix, at0, at1, sz, hin, c, hnm, cn, ea, e1, e4, eb, e2, hv]
theorem Part.lused {n m p : Nat} {d : D} (hp : Pt P (n + 1) p d) (h : Part P n p d) (hl : (useF (n + 1) d).length ≤ 10000) (ih : ∀ k ∈ inn d, Told (G__law_used m 0) k ((useF n k).map .str)) : Told (G__law_used (m + 1) 0) d ((useF (n + 1) d).map .str) := fun S => by
  obtain ⟨z, rr, rfl, _, hn, hn2⟩ := hp.names
  have hin := fn2_in (z := z) (r := rr) S
  have hnm : inD (.str z) (.tup [w "name", w "set"]) = fun S => .ok (decide (nmOf (.tup (.str z :: rr)) ≠ [])) S := by
    funext S
    rw [x_inConsS, x_inConsS, x_inNilS]
    show R.ok (decide (Str.ofString "name" = z) || (decide (Str.ofString "set" = z) || false)) S = _
    rw [hn]
  by_cases c : fn2 (.tup (.str z :: rr)) = true
  · have e0 : useF (n + 1) (.tup (.str z :: rr)) = [] := by unfold useF; rw [if_pos c]
    rw [e0, G__law_used_0]
    refine ⟨[.lst []], S.length, ?_, at_end, Nat.le_refl _⟩
    simp [m__law_used, N__law_used, startL, x_ix, at0, sz, hin, c]
  · have e0 : useF (n + 1) (.tup (.str z :: rr)) = nmOf (.tup (.str z :: rr)) ++ (inn (.tup (.str z :: rr))).flatMap (useF n) := by rw [useF, if_neg c]
    rw [e0] at hl ⊢
    obtain ⟨S1, hS1⟩ : ∃ S1, S ++ [Cell.lst ((nmOf (.tup (.str z :: rr))).map .str)] = S1 := ⟨_, rfl⟩
    have k1 : S1[S.length]? = some (.lst ((nmOf (.tup (.str z :: rr))).map .str)) := by rw [← hS1]; exact at_end
    obtain ⟨X, r, e1, kr, _⟩ := h.law S1
    have e4 := x_srcR kr
    obtain ⟨Y, a', l', e2, q1, q2, _, _, q5⟩ := sum_loop (F := G__law_used m 0) (i := 1) (j := 2) (by omega) (g := useF n) (chk := fun S' => lstAt S' r = some (inn (.tup (.str z :: rr)))) (chk_app r _) (inn (.tup (.str z :: rr))) (nmOf (.tup (.str z :: rr))) [some (.tup (.str z :: rr)), some (.ref S.length), none] (S1 ++ X) S.length ih rfl (by simp) (at_app k1) (lstAt_of kr) (by rw [← List.length_append]; omega)
    have eS : S ++ ([Cell.lst ((nmOf (.tup (.str z :: rr))).map .str)] ++ X ++ Y) = S1 ++ X ++ Y := by rw [← hS1]; simp
    refine ⟨[Cell.lst ((nmOf (.tup (.str z :: rr))).map .str)] ++ X ++ Y, a', ?_, by
      rw [eS]; exact q2, by
      have : S.length ≤ S1.length := by rw [← hS1]; simp
      rcases q5 with q5 | q5
      · omega
      · simp at q5; omega⟩
    rw [eS, G__law_used_0]
    have hv := loc_get q1 (S1 ++ X ++ Y)
    have eb : b__law_used_0 (G__law_used m) = setS 1 (binE addD (varE 1) (callE 1 (G__law_used m 0) (consA (varE 2) nilA))) := rfl
    by_cases cn : nmOf (.tup (.str z :: rr)) = []
    · rw [cn] at hS1 hnm
      rw [List.map_nil] at hS1
      simp [-List.append_assoc, m__law_used, N__law_used, startL, x_ix, at0, sz, hin, c, hnm, hS1, e1, e4, eb, e2, hv]
    · obtain ⟨y, q, rfl, e5, _⟩ := hn2 cn
      rw [e5] at hS1
      rw [List.map_cons, List.map_nil] at hS1
      simp [-List.append_assoc, m__law_used, N__law_used, startL, x_ix, at0, at1, sz, hin, c, hnm, cn, hS1, e1, e4, eb, e2, hv]
theorem used_eq : ∀ (n m p : Nat) (d : D), Pt P n p d → n ≤ 31 → n ≤ m → p ≤ 10000 → Told (G_used_in m 0) d ((useF n d).map .str) ∧ Told (G__law_used m 0) d ((useF n d).map .str)
  | 0, m, p, d, h, _, _, _ => h.zero.elim
  | n + 1, m, p, d, h, hn, hm, hp => by
    obtain ⟨k, rfl⟩ : ∃ k, m = k + 1 := ⟨m - 1, by omega⟩
    have hh := h.part (by omega)
    obtain ⟨q, hq, e⟩ := hh.kids
    have hl : (useF (n + 1) d).length ≤ 10000 := by have := use_len (n + 1) p d h (by omega); omega
    have key : ∀ x ∈ inn d, Told (G_used_in k 0) x ((useF n x).map .str) ∧ Told (G__law_used k 0) x ((useF n x).map .str) := fun x hx => by
      have : ∀ {q : Nat} {ks : List D}, Ps P n q ks → ∀ x ∈ ks, ∃ p, Pt P n p x ∧ p ≤ q := by
        intro q ks h
        induction h with
        | nil => intro k hk; simp at hk
        | @cons p q a as hp _ ih =>
          intro k hk
          rcases List.mem_cons.mp hk with rfl | hk
          · exact ⟨p, hp, by omega⟩
          · obtain ⟨p', h1, h2⟩ := ih k hk
            exact ⟨p', h1, by omega⟩
      obtain ⟨p', hp', hle⟩ := this hq x hx
      exact used_eq n k p' x hp' (by omega) (by omega) (by omega)
    exact ⟨hh.used h hl fun x hx => (key x hx).1, hh.lused h hl fun x hx => (key x hx).2⟩
end K09

set_option Elab.async false
set_option linter.all false
set_option maxRecDepth 100000
set_option autoImplicit false
set_option maxHeartbeats 1000000
namespace K09
open PySem PySem.Spec L2 ML
variable {P : Str → Prop}
/-! ### brought, _law_brought -/
def brS (f : List D → List Str) : D → List Str
  | .tup [.str k, .str z, _] => if k = Str.ofString "let" then [z] else []
  | .tup [_, _, .tup bs] => f bs
  | .tup [_, _, .tup bs, .tup es] => f bs ++ f es
  | .tup [_, .tup bs, _, .str z, .tup es, .tup gs] => f bs ++ [z] ++ f es ++ f gs
  | _ => []
def brF : Nat → List D → List Str
  | 0, _ => []
  | n + 1, bs => bs.flatMap (brS (brF n))
theorem bd_len {n : Nat} {f : D → List Str} (h : ∀ (hd : Bool) p k, St P n hd p k → (f k).length ≤ p) : ∀ {hd : Bool} {q : Nat} (ks : List D), Bd P n hd q ks → (ks.flatMap f).length ≤ q
  | _, _, [], hk => by simp
  | _, _, k :: ks, hk => by
    cases hk with
    | cons a b =>
      rw [List.flatMap_cons, List.length_append]
      have := h _ _ k a
      have := bd_len h ks b
      omega
theorem br_len : ∀ (n : Nat) (hd : Bool) (p : Nat) (bs : List D), Bd P n hd p bs → (brF n bs).length ≤ p
  | 0, hd, p, bs, h => by simp [brF]
  | n + 1, hd, p, bs, h => by
    rw [brF]
    refine bd_len (P := P) (fun hd p k hs => ?_) bs h
    cases hs with
    | lets b z a pz c => cases b <;> simp [brS, ofS_eq] <;> omega
    | fault z a b c => simp [brS, ofS_eq]
    | hand a =>
      obtain ⟨z, r, rfl⟩ := a.form
      simp [brS]
    | does b a =>
      obtain ⟨z, r, rfl⟩ := a.form
      simp [brS]
    | @whl n p q h t bs a b c =>
      obtain ⟨z, r, rfl⟩ := a.form
      have := br_len n _ _ _ c
      simp only [brS]
      omega
    | @ifs n p q r h t bs es a b c d e =>
      obtain ⟨z, r, rfl⟩ := a.form
      have := br_len n _ _ _ c
      have := br_len n _ _ _ e
      simp only [brS, List.length_append]
      omega
    | trys y z a b c d e f g i =>
      have := br_len n _ _ _ d
      have := br_len n _ _ _ f
      have := br_len n _ _ _ i
      simp only [brS, List.length_append, List.length_singleton]
      omega
/-- a list told, then added -/
theorem add_told {F : List D → Store → R D} {d : D} {l : List Str} (h : Told F d (l.map .str)) {S : Store} {a : Nat} {acc : List Str} (ha : S[a]? = some (.lst (acc.map .str))) (hz : acc.length + l.length ≤ 16000000) :
    ∃ X r a', F [d] S = .ok (.ref r) (S ++ X) ∧ addD (.ref a) (.ref r) (S ++ X) = .ok (.ref a') (S ++ X ++ [.lst ((acc ++ l).map .str)]) ∧ (S ++ X ++ [Cell.lst ((acc ++ l).map .str)])[a']? = some (.lst ((acc ++ l).map .str)) ∧ S.length ≤ a' := by
  obtain ⟨X, r, e1, k1, _⟩ := h S
  have e2 := x_addR (at_app ha) k1 (by rw [List.length_map, List.length_map]; omega)
  rw [← List.map_append] at e2
  exact ⟨X, r, _, e1, e2, at_end, by simp⟩
def Brs (F : List D → Store → R D) (n : Nat) : Prop := ∀ (bs : List D) (hd : Bool) (p : Nat), Bd P n hd p bs → p ≤ 10000 → Told F (.tup bs) ((brF n bs).map .str)
theorem br_step {n m p : Nat} {hd : Bool} {one b0 : D} (hs : St P (n + 1) hd p one) (hp : p ≤ 10000) (ih : Brs (P := P) (G_brought m 0) n) {S0 Y : Store} {a : Nat} {acc : List Str} (ha : (S0 ++ Y)[a]? = some (.lst (acc.map .str))) (h0 : S0.length ≤ a) (hz : acc.length ≤ 10000) :
    ∃ Y' a', b_brought_0 (G_brought m) [some b0, some (.ref a), some one] (S0 ++ Y) = .ok (.nx, [some b0, some (.ref a'), some one]) (S0 ++ Y') ∧ (S0 ++ Y')[a']? = some (.lst ((acc ++ brS (brF n) one).map .str)) ∧ S0.length ≤ a' := by
  have same : brS (brF n) one = [] → b_brought_0 (G_brought m) [some b0, some (.ref a), some one] (S0 ++ Y) = .ok (.nx, [some b0, some (.ref a), some one]) (S0 ++ Y) → ∃ Y' a', b_brought_0 (G_brought m) [some b0, some (.ref a), some one] (S0 ++ Y) = .ok (.nx, [some b0, some (.ref a'), some one]) (S0 ++ Y') ∧ (S0 ++ Y')[a']? = some (.lst ((acc ++ brS (brF n) one).map .str)) ∧ S0.length ≤ a' := fun e h => ⟨Y, a, h, by rw [e, List.append_nil]; exact ha, h0⟩
  cases hs with
  | @lets n p h t b z x pz c =>
    cases b with
    | true => exact same (by simp [brS, ofS_eq]) (by simp [b_brought_0, x_ix, at0, sz, ofS_eq])
    | false =>
      have e1 := x_append (d := .str z) (lstAt_of ha) (by rw [List.length_map]; omega)
      have eY : (S0 ++ Y).set a (.lst (acc.map .str ++ [.str z])) = S0 ++ Y.set (a - S0.length) (.lst (acc.map .str ++ [.str z])) := List.set_append_right _ _ h0
      have k := get_set_at (c := .lst (acc.map .str ++ [.str z])) ha
      rw [eY] at e1 k
      refine ⟨_, a, ?_, by
        rw [k]
        simp [brS, ofS_eq], h0⟩
      simp [-List.append_assoc, b_brought_0, x_ix, at0, at1, sz, ofS_eq, lstAt_of ha, e1]
  | fault z x y c => exact same (by simp [brS, ofS_eq]) (by simp [b_brought_0, x_ix, at0, sz, ofS_eq])
  | hand x =>
    obtain ⟨z, r, rfl⟩ := x.form
    exact same (by simp [brS]) (by simp [b_brought_0, x_ix, at0, sz, ofS_eq])
  | does b x =>
    obtain ⟨z, r, rfl⟩ := x.form
    exact same (by simp [brS]) (by cases b <;> simp [b_brought_0, x_ix, at0, sz, ofS_eq])
  | @whl n p q h t bs x b c =>
    obtain ⟨z, r, rfl⟩ := x.form
    have l1 := br_len n _ _ _ c
    obtain ⟨X, r1, a1, e1, e2, k1, q1⟩ := add_told (ih bs _ _ c (by omega)) ha (by omega)
    refine ⟨Y ++ X ++ [.lst ((acc ++ brF n bs).map .str)], a1, ?_, by simpa [brS] using k1, by simp at q1; omega⟩
    have eS : S0 ++ (Y ++ X ++ [Cell.lst ((acc ++ brF n bs).map .str)]) = S0 ++ Y ++ X ++ [.lst ((acc ++ brF n bs).map .str)] := by simp
    rw [eS]
    simp [-List.append_assoc, -List.map_append, b_brought_0, x_ix, at0, at2, sz, ofS_eq, e1, e2]
  | @ifs n p q r h t bs es x b c d e =>
    obtain ⟨z, r, rfl⟩ := x.form
    have l1 := br_len n _ _ _ c
    have l2 := br_len n _ _ _ e
    obtain ⟨X, r1, a1, e1, e2, k1, q1⟩ := add_told (ih bs _ _ c (by omega)) ha (by omega)
    obtain ⟨Z, r2, a2, e3, e4, k2, q2⟩ := add_told (ih es _ _ e (by omega)) k1 (by simp; omega)
    refine ⟨Y ++ X ++ [.lst ((acc ++ brF n bs).map .str)] ++ Z ++ [.lst ((acc ++ brF n bs ++ brF n es).map .str)], a2, ?_, by simpa [brS] using k2, by simp at q2; omega⟩
    have eS : S0 ++ (Y ++ X ++ [.lst ((acc ++ brF n bs).map .str)] ++ Z ++ [.lst ((acc ++ brF n bs ++ brF n es).map .str)]) = S0 ++ Y ++ X ++ [.lst ((acc ++ brF n bs).map .str)] ++ Z ++ [.lst ((acc ++ brF n bs ++ brF n es).map .str)] := by simp
    rw [eS]
    simp [-List.append_assoc, -List.map_append, b_brought_0, x_ix, at0, at2, at3, sz, ofS_eq, e1, e2, e3, e4]
  | @trys n p q r h bs es gs y z x b c d e f g i =>
    have l1 := br_len n _ _ _ d
    have l2 := br_len n _ _ _ f
    have l3 := br_len n _ _ _ i
    obtain ⟨X, r1, a1, e1, e2, k1, q1⟩ := add_told (ih bs _ _ d (by omega)) ha (by omega)
    obtain ⟨S1, hS1⟩ : ∃ S1, S0 ++ Y ++ X ++ [Cell.lst ((acc ++ brF n bs).map .str)] = S1 := ⟨_, rfl⟩
    rw [hS1] at e2 k1
    obtain ⟨S2, hS2⟩ : ∃ S2, S1 ++ [Cell.lst [D.str z]] = S2 := ⟨_, rfl⟩
    have kz : S2[S1.length]? = some (.lst (([z] : List Str).map .str)) := by rw [← hS2]; exact at_end
    have k1' : S2[a1]? = some (.lst ((acc ++ brF n bs).map .str)) := by rw [← hS2]; exact at_app k1
    have e3 := x_addR k1' kz (by simp; omega)
    rw [← List.map_append] at e3
    obtain ⟨S3, hS3⟩ : ∃ S3, S2 ++ [Cell.lst ((acc ++ brF n bs ++ [z]).map .str)] = S3 := ⟨_, rfl⟩
    have e3 : addD (.ref a1) (.ref S1.length) S2 = .ok (.ref S2.length) S3 := by rw [← hS3]; exact e3
    have k3 : S3[S2.length]? = some (.lst ((acc ++ brF n bs ++ [z]).map .str)) := by rw [← hS3]; exact at_end
    obtain ⟨Z, r2, a2, e4, e5, k4, q2⟩ := add_told (ih es _ _ f (by omega)) k3 (by simp; omega)
    obtain ⟨S4, hS4⟩ : ∃ S4, S3 ++ Z ++ [Cell.lst ((acc ++ brF n bs ++ [z] ++ brF n es).map .str)] = S4 := ⟨_, rfl⟩
    rw [hS4] at e5 k4
    obtain ⟨V, r3, a3, e6, e7, k5, q3⟩ := add_told (ih gs _ _ i (by omega)) k4 (by simp; omega)
    refine ⟨Y ++ X ++ [.lst ((acc ++ brF n bs).map .str)] ++ [.lst [D.str z]] ++ [.lst ((acc ++ brF n bs ++ [z]).map .str)] ++ Z ++ [.lst ((acc ++ brF n bs ++ [z] ++ brF n es).map .str)] ++ V ++ [.lst ((acc ++ brF n bs ++ [z] ++ brF n es ++ brF n gs).map .str)], a3, ?_, ?_, ?_⟩
    · have eS : S0 ++ (Y ++ X ++ [.lst ((acc ++ brF n bs).map .str)] ++ [.lst [D.str z]] ++ [.lst ((acc ++ brF n bs ++ [z]).map .str)] ++ Z ++ [.lst ((acc ++ brF n bs ++ [z] ++ brF n es).map .str)] ++ V ++ [.lst ((acc ++ brF n bs ++ [z] ++ brF n es ++ brF n gs).map .str)]) = S4 ++ V ++ [.lst ((acc ++ brF n bs ++ [z] ++ brF n es ++ brF n gs).map .str)] := by
        rw [← hS4, ← hS3, ← hS2, ← hS1]
        simp
      rw [eS]
      simp [-List.append_assoc, -List.map_append, b_brought_0, x_ix, at0, at1, at3, at4, at5, sz, ofS_eq, e1, e2, hS2, e3, e4, e5, e6, e7]
    · have eS : S0 ++ (Y ++ X ++ [.lst ((acc ++ brF n bs).map .str)] ++ [.lst [D.str z]] ++ [.lst ((acc ++ brF n bs ++ [z]).map .str)] ++ Z ++ [.lst ((acc ++ brF n bs ++ [z] ++ brF n es).map .str)] ++ V ++ [.lst ((acc ++ brF n bs ++ [z] ++ brF n es ++ brF n gs).map .str)]) = S4 ++ V ++ [.lst ((acc ++ brF n bs ++ [z] ++ brF n es ++ brF n gs).map .str)] := by
        rw [← hS4, ← hS3, ← hS2, ← hS1]
        simp
      rw [eS, k5]
      simp [brS]
    · have : S0.length ≤ S4.length := by
        rw [← hS4, ← hS3, ← hS2, ← hS1]
        simp
      omega
theorem br_loop {n m : Nat} {b0 : D} (ih : Brs (P := P) (G_brought m 0) n) {S0 : Store} : ∀ (bs : List D) (hd : Bool) (p : Nat) (acc : List Str) (Y : Store) (a : Nat) (x2 : Option D), Bd P (n + 1) hd p bs → p ≤ 10000 → (S0 ++ Y)[a]? = some (.lst (acc.map .str)) → S0.length ≤ a → acc.length + p ≤ 10000 →
    ∃ Y' a' y2, forL still (nameT 2) (b_brought_0 (G_brought m)) bs [some b0, some (.ref a), x2] (S0 ++ Y) = .ok (.nx, [some b0, some (.ref a'), y2]) (S0 ++ Y') ∧ (S0 ++ Y')[a']? = some (.lst ((acc ++ bs.flatMap (brS (brF n))).map .str)) ∧ S0.length ≤ a'
  | [], hd, p, acc, Y, a, x2, h, hp, ha, h0, hz => ⟨Y, a, x2, by rw [forL_nil (chk := still) trivial], by simpa using ha, h0⟩
  | one :: bs, hd, p, acc, Y, a, x2, h, hp, ha, h0, hz => by
    cases h with
    | @cons _ p q _ _ _ a1 b1 =>
      obtain ⟨Y1, r1, e1, k1, q1⟩ := br_step (b0 := b0) a1 (by omega) ih ha h0 (by omega)
      have l1 : (brS (brF n) one).length ≤ p := by
        have := br_len (n + 1) hd (p + 0) [one] (.cons a1 .nil)
        rw [brF] at this
        simpa using this
      obtain ⟨Y2, r2, y2, e2, k2, q2⟩ := br_loop (b0 := b0) ih bs hd q (acc ++ brS (brF n) one) Y1 r1 (some one) b1 (by omega) k1 q1 (by rw [List.length_append]; omega)
      refine ⟨Y2, r2, y2, ?_, by rw [List.flatMap_cons, ← List.append_assoc]; exact k2, q2⟩
      rw [forL_cons (chk := still) trivial]
      simp only [nameT]
      simp [-List.append_assoc, e1, e2]
theorem brs_succ {n m : Nat} (ih : Brs (P := P) (G_brought m 0) n) : Brs (P := P) (G_brought (m + 1) 0) (n + 1) := fun bs hd p h hp S => by
  obtain ⟨Y, a, y2, e, k, q⟩ := br_loop (b0 := .tup bs) ih (S0 := S) bs hd p [] [.lst []] S.length none h hp at_end (Nat.le_refl _) (by simp; omega)
  refine ⟨Y, a, ?_, by rw [brF]; exact k, q⟩
  rw [G_brought_0]
  simp [-List.append_assoc, m_brought, N_brought, startL, sz, e]
theorem brs_eq : ∀ (n m : Nat), n ≤ m → Brs (P := P) (G_brought (m + 1) 0) n
  | 0, m, _ => fun bs hd p h hp S => by
    cases h with
    | nil =>
      refine ⟨[.lst []], S.length, ?_, at_end, Nat.le_refl _⟩
      rw [G_brought_0]
      simp [m_brought, N_brought, startL, sz, forL_nil (chk := still) trivial]
    | cons a b => cases a
  | n + 1, m, h => by
    obtain ⟨k, rfl⟩ : ∃ k, m = k + 1 := ⟨m - 1, by omega⟩
    exact brs_succ (brs_eq n k (by omega))
end K09

set_option Elab.async false
set_option linter.all false
set_option maxRecDepth 100000
set_option autoImplicit false
set_option maxHeartbeats 4000000
namespace K09
open PySem PySem.Spec L2 ML
variable {P : Str → Prop}
theorem rg2 : ML.intsFrom 1 1 = [.int 1] := rfl
theorem rg3 : ML.intsFrom 1 2 = [.int 1, .int 2] := rfl
theorem rg4 : ML.intsFrom 1 3 = [.int 1, .int 2, .int 3] := rfl
theorem rg6 : ML.intsFrom 1 5 = [.int 1, .int 2, .int 3, .int 4, .int 5] := rfl
theorem kT (S : Store) (xs : List D) : kindO S (.tup xs) = some "tuple" := rfl
theorem kS (S : Store) (z : Str) : kindO S (.str z) = some "str" := rfl
theorem kTT : isKind "tuple" "tuple" = true := rfl
theorem kTS : isKind "tuple" "str" = false := rfl
theorem lbr_step {n m p : Nat} {hd : Bool} {one b0 : D} (hs : St P (n + 1) hd p one) (hp : p ≤ 10000) (ih : Brs (P := P) (G__law_brought m 0) n) {S0 Y : Store} {a : Nat} {acc : List Str} {x3 : Option D} (ha : (S0 ++ Y)[a]? = some (.lst (acc.map .str))) (h0 : S0.length ≤ a) (hz : acc.length ≤ 10000) :
    ∃ Y' a' y3, b__law_brought_0 (G__law_brought m) [some b0, some (.ref a), some one, x3] (S0 ++ Y) = .ok (.nx, [some b0, some (.ref a'), some one, y3]) (S0 ++ Y') ∧ (S0 ++ Y')[a']? = some (.lst ((acc ++ brS (brF n) one).map .str)) ∧ S0.length ≤ a' := by
  have same : brS (brF n) one = [] → (∃ y3, b__law_brought_0 (G__law_brought m) [some b0, some (.ref a), some one, x3] (S0 ++ Y) = .ok (.nx, [some b0, some (.ref a), some one, y3]) (S0 ++ Y)) → ∃ Y' a' y3, b__law_brought_0 (G__law_brought m) [some b0, some (.ref a), some one, x3] (S0 ++ Y) = .ok (.nx, [some b0, some (.ref a'), some one, y3]) (S0 ++ Y') ∧ (S0 ++ Y')[a']? = some (.lst ((acc ++ brS (brF n) one).map .str)) ∧ S0.length ≤ a' := fun e h => by
    obtain ⟨y3, h⟩ := h
    exact ⟨Y, a, y3, h, by rw [e, List.append_nil]; exact ha, h0⟩
  cases hs with
  | @lets n p h t b z x pz c =>
    cases b with
    | true => exact same (by simp [brS, ofS_eq]) ⟨_, by simp [b__law_brought_0, b__law_brought_1, rg2, rg3, rg4, rg6, kT, kS, kTT, kTS, x_inConsS, x_inNilS, forL_cons (chk := still) trivial, forL_nil (chk := still) trivial, x_ix, at0, at1, at2, sz, ofS_eq]; rfl⟩
    | false =>
      have e1 := x_append (d := .str z) (lstAt_of ha) (by rw [List.length_map]; omega)
      have eY : (S0 ++ Y).set a (.lst (acc.map .str ++ [.str z])) = S0 ++ Y.set (a - S0.length) (.lst (acc.map .str ++ [.str z])) := List.set_append_right _ _ h0
      have k := get_set_at (c := .lst (acc.map .str ++ [.str z])) ha
      rw [eY] at e1 k
      refine ⟨_, a, some (.int 2), ?_, by
        rw [k]
        simp [brS, ofS_eq], h0⟩
      simp [-List.append_assoc, b__law_brought_0, b__law_brought_1, rg2, rg3, rg4, rg6, kT, kS, kTT, kTS, x_inConsS, x_inNilS, forL_cons (chk := still) trivial, forL_nil (chk := still) trivial, x_ix, at0, at1, at2, at3, at4, at5, sz, ofS_eq, lstAt_of ha, e1]
  | fault z x y c => exact same (by simp [brS, ofS_eq]) ⟨_, by simp [b__law_brought_0, b__law_brought_1, rg2, rg3, rg4, rg6, kT, kS, kTT, kTS, x_inConsS, x_inNilS, forL_cons (chk := still) trivial, forL_nil (chk := still) trivial, x_ix, at0, at1, at2, sz, ofS_eq]; rfl⟩
  | hand x =>
    obtain ⟨z, r, rfl⟩ := x.form
    exact same (by simp [brS]) ⟨_, by simp [b__law_brought_0, b__law_brought_1, rg2, rg3, rg4, rg6, kT, kS, kTT, kTS, x_inConsS, x_inNilS, forL_cons (chk := still) trivial, forL_nil (chk := still) trivial, x_ix, at0, at1, at2, sz, ofS_eq]; rfl⟩
  | does b x =>
    obtain ⟨z, r, rfl⟩ := x.form
    exact same (by simp [brS]) (by cases b <;> exact ⟨_, by simp [b__law_brought_0, b__law_brought_1, rg2, rg3, rg4, rg6, kT, kS, kTT, kTS, x_inConsS, x_inNilS, forL_cons (chk := still) trivial, forL_nil (chk := still) trivial, x_ix, at0, at1, at2, sz, ofS_eq]; rfl⟩)
  | @whl n p q h t bs x b c =>
    obtain ⟨z, r, rfl⟩ := x.form
    have l1 := br_len n _ _ _ c
    obtain ⟨X, r1, a1, e1, e2, k1, q1⟩ := add_told (ih bs _ _ c (by omega)) ha (by omega)
    refine ⟨Y ++ X ++ [.lst ((acc ++ brF n bs).map .str)], a1, some (.int 2), ?_, by simpa [brS] using k1, by simp at q1; omega⟩
    have eS : S0 ++ (Y ++ X ++ [Cell.lst ((acc ++ brF n bs).map .str)]) = S0 ++ Y ++ X ++ [.lst ((acc ++ brF n bs).map .str)] := by simp
    rw [eS]
    simp [-List.append_assoc, -List.map_append, b__law_brought_0, b__law_brought_1, rg2, rg3, rg4, rg6, kT, kS, kTT, kTS, x_inConsS, x_inNilS, forL_cons (chk := still) trivial, forL_nil (chk := still) trivial, x_ix, at0, at1, at2, at3, at4, at5, sz, ofS_eq, e1, e2]
  | @ifs n p q r h t bs es x b c d e =>
    obtain ⟨z, r, rfl⟩ := x.form
    have l1 := br_len n _ _ _ c
    have l2 := br_len n _ _ _ e
    obtain ⟨X, r1, a1, e1, e2, k1, q1⟩ := add_told (ih bs _ _ c (by omega)) ha (by omega)
    obtain ⟨Z, r2, a2, e3, e4, k2, q2⟩ := add_told (ih es _ _ e (by omega)) k1 (by simp; omega)
    refine ⟨Y ++ X ++ [.lst ((acc ++ brF n bs).map .str)] ++ Z ++ [.lst ((acc ++ brF n bs ++ brF n es).map .str)], a2, some (.int 3), ?_, by simpa [brS] using k2, by simp at q2; omega⟩
    have eS : S0 ++ (Y ++ X ++ [.lst ((acc ++ brF n bs).map .str)] ++ Z ++ [.lst ((acc ++ brF n bs ++ brF n es).map .str)]) = S0 ++ Y ++ X ++ [.lst ((acc ++ brF n bs).map .str)] ++ Z ++ [.lst ((acc ++ brF n bs ++ brF n es).map .str)] := by simp
    rw [eS]
    simp [-List.append_assoc, -List.map_append, b__law_brought_0, b__law_brought_1, rg2, rg3, rg4, rg6, kT, kS, kTT, kTS, x_inConsS, x_inNilS, forL_cons (chk := still) trivial, forL_nil (chk := still) trivial, x_ix, at0, at1, at2, at3, at4, at5, sz, ofS_eq, e1, e2, e3, e4]
  | @trys n p q r h bs es gs y z x b c d e f g i =>
    have l1 := br_len n _ _ _ d
    have l2 := br_len n _ _ _ f
    have l3 := br_len n _ _ _ i
    obtain ⟨X, r1, a1, e1, e2, k1, q1⟩ := add_told (ih bs _ _ d (by omega)) ha (by omega)
    obtain ⟨Z1, hZ1⟩ : ∃ Z1, Y ++ X ++ [Cell.lst ((acc ++ brF n bs).map .str)] = Z1 := ⟨_, rfl⟩
    have hS1 : S0 ++ Y ++ X ++ [Cell.lst ((acc ++ brF n bs).map .str)] = S0 ++ Z1 := by rw [← hZ1]; simp
    rw [hS1] at e2 k1
    have q1' : S0.length ≤ a1 := by simp at q1; omega
    have ea := x_append (d := .str z) (lstAt_of k1) (by rw [List.length_map, List.length_append]; omega)
    have eY : (S0 ++ Z1).set a1 (.lst ((acc ++ brF n bs).map .str ++ [.str z])) = S0 ++ Z1.set (a1 - S0.length) (.lst ((acc ++ brF n bs).map .str ++ [.str z])) := List.set_append_right _ _ q1'
    have k2 := get_set_at (c := .lst ((acc ++ brF n bs).map .str ++ [.str z])) k1
    rw [eY] at ea k2
    obtain ⟨Z2, hZ2⟩ : ∃ Z2, Z1.set (a1 - S0.length) (.lst ((acc ++ brF n bs).map .str ++ [.str z])) = Z2 := ⟨_, rfl⟩
    rw [hZ2] at ea k2
    have k2' : (S0 ++ Z2)[a1]? = some (.lst ((acc ++ brF n bs ++ [z]).map .str)) := by rw [k2]; simp
    obtain ⟨U, r2, a2, e4, e5, k4, q2⟩ := add_told (ih es _ _ f (by omega)) k2' (by simp; omega)
    obtain ⟨S4, hS4⟩ : ∃ S4, S0 ++ Z2 ++ U ++ [Cell.lst ((acc ++ brF n bs ++ [z] ++ brF n es).map .str)] = S4 := ⟨_, rfl⟩
    rw [hS4] at e5 k4
    obtain ⟨V, r3, a3, e6, e7, k5, q3⟩ := add_told (ih gs _ _ i (by omega)) k4 (by simp; omega)
    have eS : S0 ++ (Z2 ++ U ++ [.lst ((acc ++ brF n bs ++ [z] ++ brF n es).map .str)] ++ V ++ [.lst ((acc ++ brF n bs ++ [z] ++ brF n es ++ brF n gs).map .str)]) = S4 ++ V ++ [.lst ((acc ++ brF n bs ++ [z] ++ brF n es ++ brF n gs).map .str)] := by
      rw [← hS4]
      simp
    refine ⟨Z2 ++ U ++ [.lst ((acc ++ brF n bs ++ [z] ++ brF n es).map .str)] ++ V ++ [.lst ((acc ++ brF n bs ++ [z] ++ brF n es ++ brF n gs).map .str)], a3, some (.int 5), ?_, ?_, ?_⟩
    · rw [eS]
      simp [-List.append_assoc, -List.map_append, b__law_brought_0, b__law_brought_1, rg2, rg3, rg4, rg6, kT, kS, kTT, kTS, x_inConsS, x_inNilS, forL_cons (chk := still) trivial, forL_nil (chk := still) trivial, x_ix, at0, at1, at2, at3, at4, at5, sz, ofS_eq, e1, e2, hS1, lstAt_of k1, ea, e4, e5, e6, e7]
    · rw [eS, k5]
      simp [brS]
    · have : S0.length ≤ S4.length := by
        rw [← hS4]
        simp
      omega
theorem lbr_loop {n m : Nat} {b0 : D} (ih : Brs (P := P) (G__law_brought m 0) n) {S0 : Store} : ∀ (bs : List D) (hd : Bool) (p : Nat) (acc : List Str) (Y : Store) (a : Nat) (x2 x3 : Option D), Bd P (n + 1) hd p bs → p ≤ 10000 → (S0 ++ Y)[a]? = some (.lst (acc.map .str)) → S0.length ≤ a → acc.length + p ≤ 10000 →
    ∃ Y' a' y2 y3, forL still (nameT 2) (b__law_brought_0 (G__law_brought m)) bs [some b0, some (.ref a), x2, x3] (S0 ++ Y) = .ok (.nx, [some b0, some (.ref a'), y2, y3]) (S0 ++ Y') ∧ (S0 ++ Y')[a']? = some (.lst ((acc ++ bs.flatMap (brS (brF n))).map .str)) ∧ S0.length ≤ a'
  | [], hd, p, acc, Y, a, x2, x3, h, hp, ha, h0, hz => ⟨Y, a, x2, x3, by rw [forL_nil (chk := still) trivial], by simpa using ha, h0⟩
  | one :: bs, hd, p, acc, Y, a, x2, x3, h, hp, ha, h0, hz => by
    cases h with
    | @cons _ p q _ _ _ a1 b1 =>
      obtain ⟨Y1, r1, z3, e1, k1, q1⟩ := lbr_step (b0 := b0) (x3 := x3) a1 (by omega) ih ha h0 (by omega)
      have l1 : (brS (brF n) one).length ≤ p := by
        have := br_len (n + 1) hd (p + 0) [one] (.cons a1 .nil)
        rw [brF] at this
        simpa using this
      obtain ⟨Y2, r2, y2, y3, e2, k2, q2⟩ := lbr_loop (b0 := b0) ih bs hd q (acc ++ brS (brF n) one) Y1 r1 (some one) z3 b1 (by omega) k1 q1 (by rw [List.length_append]; omega)
      refine ⟨Y2, r2, y2, y3, ?_, by rw [List.flatMap_cons, ← List.append_assoc]; exact k2, q2⟩
      rw [forL_cons (chk := still) trivial]
      simp only [nameT]
      simp [-List.append_assoc, e1, e2]
theorem lbrs_succ {n m : Nat} (ih : Brs (P := P) (G__law_brought m 0) n) : Brs (P := P) (G__law_brought (m + 1) 0) (n + 1) := fun bs hd p h hp S => by
  obtain ⟨Y, a, y2, y3, e, k, q⟩ := lbr_loop (b0 := .tup bs) ih (S0 := S) bs hd p [] [.lst []] S.length none none h hp at_end (Nat.le_refl _) (by simp; omega)
  refine ⟨Y, a, ?_, by rw [brF]; exact k, q⟩
  rw [G__law_brought_0]
  simp [-List.append_assoc, m__law_brought, N__law_brought, startL, sz, e]
theorem lbrs_eq : ∀ (n m : Nat), n ≤ m → Brs (P := P) (G__law_brought (m + 1) 0) n
  | 0, m, _ => fun bs hd p h hp S => by
    cases h with
    | nil =>
      refine ⟨[.lst []], S.length, ?_, at_end, Nat.le_refl _⟩
      rw [G__law_brought_0]
      simp [m__law_brought, N__law_brought, startL, sz, forL_nil (chk := still) trivial]
    | cons a b => cases a
  | n + 1, m, h => by
    obtain ⟨k, rfl⟩ : ∃ k, m = k + 1 := ⟨m - 1, by omega⟩
    exact lbrs_succ (lbrs_eq n k (by omega))
end K09

set_option Elab.async false
set_option linter.all false
set_option maxRecDepth 100000
set_option autoImplicit false
set_option maxHeartbeats 1000000
namespace K09
open PySem PySem.Spec L2 ML
variable {P : Str → Prop}
/-! ### what an entry says -/
def strOf : D → Option Str
  | .str z => some z
  | _ => none
def ownE : D → List Str
  | .tup [_, .tup ps, .tup bs, _] => ps.filterMap strOf ++ brF 10 bs
  | _ => []
def useE : D → List Str
  | .tup [_, _, .tup bs, _] => bs.flatMap (useF 10)
  | _ => []
def outE : D → D
  | .tup [_, _, _, o] => o
  | _ => .non
def kindE : D → D
  | .tup [k, _, _, _] => k
  | _ => .non
theorem strs_of (ps : List Str) : (ps.map D.str).filterMap strOf = ps := by
  induction ps with
  | nil => rfl
  | cons z ps ih => simp [strOf, ih]
structure EntOk (P : Str → Prop) (e : D) : Prop where
  ex : ∃ (z : Str) (ps : List Str) (bs : List D) (o : D) (hd : Bool) (p : Nat), e = .tup [.str z, .tup (ps.map .str), .tup bs, o] ∧ ps.length ≤ 4 ∧ (∀ z ∈ ps, NmOk z) ∧ Bd P 10 hd p bs ∧ p ≤ 300 ∧ bs.length ≤ 12
theorem EntOk.use {e : D} (h : EntOk P e) : (useE e).length ≤ 300 ∧ ∀ z ∈ useE e, P z := by
  obtain ⟨z, ps, bs, o, hd, p, rfl, h1, h2, h3, h4, h5⟩ := h.ex
  refine ⟨Nat.le_trans (row_len (P := P) (n := 10) (fun p k hk => use_len 10 p k hk (by omega)) h3.ps) h4, fun x hx => ?_⟩
  obtain ⟨k, hk, hx⟩ := List.mem_flatMap.mp hx
  obtain ⟨p, hp⟩ := h3.ps.all k hk
  exact use_in 10 p k hp (by omega) x hx
theorem EntOk.own {e : D} (h : EntOk P e) : (ownE e).length ≤ 304 := by
  obtain ⟨z, ps, bs, o, hd, p, rfl, h1, h2, h3, h4, h5⟩ := h.ex
  have := br_len 10 _ _ _ h3
  show ((ps.map D.str).filterMap strOf ++ brF 10 bs).length ≤ 304
  rw [strs_of, List.length_append]
  omega
theorem told_body {hd : Bool} {p : Nat} {bs : List D} (h : Bd P 10 hd p bs) (hp : p ≤ 10000) : ∀ k ∈ bs, Told F_used_in k ((useF 10 k).map .str) ∧ Told F__law_used k ((useF 10 k).map .str) := by
  have : ∀ {q : Nat} {ks : List D}, Ps P 10 q ks → ∀ x ∈ ks, ∃ p, Pt P 10 p x ∧ p ≤ q := by
    intro q ks h
    induction h with
    | nil => intro k hk; simp at hk
    | @cons p q a as hp _ ih =>
      intro k hk
      rcases List.mem_cons.mp hk with rfl | hk
      · exact ⟨p, hp, by omega⟩
      · obtain ⟨p', h1, h2⟩ := ih k hk
        exact ⟨p', h1, by omega⟩
  intro k hk
  obtain ⟨q, hq, hle⟩ := this h.ps k hk
  exact used_eq 10 60 q k hq (by omega) (by omega) (by omega)
/-! ### the law's rows -/
def LRow (f : Nat) (S : Store) (r e : D) : Prop := ∃ a b, r = .tup [kindE e, .ref a, .ref b, outE e] ∧ a ≠ f ∧ b ≠ f ∧ S[a]? = some (.lst ((ownE e).map .str)) ∧ S[b]? = some (.lst ((useE e).map .str))
def LRows (f : Nat) (S : Store) (rs es : List D) : Prop := rs.length = es.length ∧ ∀ (i : Nat) (e : D), es[i]? = some e → ∃ r, rs[i]? = some r ∧ LRow f S r e
theorem LRow.fr {f : Nat} {S S' : Store} {r e : D} (h : LRow f S r e) (q : Fr f S S') : LRow f S' r e := by
  obtain ⟨a, b, h1, h2, h3, h4, h5⟩ := h
  exact ⟨a, b, h1, h2, h3, q.2 a _ h4 h2, q.2 b _ h5 h3⟩
theorem LRows.fr {f : Nat} {S S' : Store} {rs es : List D} (h : LRows f S rs es) (q : Fr f S S') : LRows f S' rs es := ⟨h.1, fun i e he => by
  obtain ⟨r, h1, h2⟩ := h.2 i e he
  exact ⟨r, h1, h2.fr q⟩⟩
theorem LRows.snoc {f : Nat} {S : Store} {rs es : List D} {r e : D} (h : LRows f S rs es) (q : LRow f S r e) : LRows f S (rs ++ [r]) (es ++ [e]) := by
  refine ⟨by rw [List.length_append, List.length_append, h.1]; rfl, fun i x hx => ?_⟩
  by_cases hi : i < es.length
  · rw [List.getElem?_append_left hi] at hx
    obtain ⟨y, h1, h2⟩ := h.2 i x hx
    exact ⟨y, by rw [List.getElem?_append_left (by rw [h.1]; exact hi)]; exact h1, h2⟩
  · have hl : i = es.length := by
      have := (List.getElem?_eq_some_iff.mp hx).1
      rw [List.length_append, List.length_singleton] at this
      omega
    subst hl
    rw [List.getElem?_append_right (Nat.le_refl _), Nat.sub_self] at hx
    cases hx
    exact ⟨r, by rw [← h.1, List.getElem?_append_right (Nat.le_refl _), Nat.sub_self]; rfl, q⟩
/-- own names and used ones of a function, by the law -/
theorem law_own {S : Store} {ps : List Str} {bs : List D} {hd : Bool} {p : Nat} (h3 : Bd P 10 hd p bs) (hp : p ≤ 300) (hps : ps.length ≤ 4) : ∃ X r a, F__law_brought [.tup bs] (S ++ [.lst (ps.map .str)]) = .ok (.ref r) (S ++ [.lst (ps.map .str)] ++ X) ∧ addD (.ref S.length) (.ref r) (S ++ [.lst (ps.map .str)] ++ X) = .ok (.ref a) (S ++ [.lst (ps.map .str)] ++ X ++ [.lst ((ps ++ brF 10 bs).map .str)]) ∧ (S ++ [.lst (ps.map .str)] ++ X ++ [Cell.lst ((ps ++ brF 10 bs).map .str)])[a]? = some (.lst ((ps ++ brF 10 bs).map .str)) ∧ S.length ≤ a := by
  have l1 := br_len 10 _ _ _ h3
  obtain ⟨X, r, a, e1, e2, k, q⟩ := add_told (lbrs_eq (P := P) 10 59 (by omega) bs hd p h3 (by omega)) (S := S ++ [.lst (ps.map .str)]) (a := S.length) (acc := ps) at_end (by omega)
  exact ⟨X, r, a, e1, e2, k, by simp at q; omega⟩
end K09

set_option Elab.async false
set_option linter.all false
set_option maxRecDepth 100000
set_option autoImplicit false
set_option maxHeartbeats 1000000
namespace K09
open PySem PySem.Spec L2 ML
variable {P : Str → Prop}
theorem ent_ok {n p : Nat} {k : D} (h : Pt P n p k) (hn : n ≤ 10) (hp : p ≤ 300) (hf : fn2 k = true) (o : Int) : EntOk P (ent k o) ∧ ∃ (z : Str) (ps : List Str) (bs : List D) (hd : Bool) (q : Nat), k = .tup [.str z, .tup (ps.map .str), .tup bs] ∧ ps.length ≤ 4 ∧ Bd P 10 hd q bs ∧ q ≤ 300 ∧ bs.length ≤ 12 := by
  rcases h with h | ⟨_, h⟩
  · cases h with
    | @fn n p bs kk ps a b c d e =>
      have e' := e.mono (show n ≤ 10 by omega)
      exact ⟨⟨⟨_, ps, bs, _, _, _, rfl, a, b, e', by omega, d⟩⟩, _, ps, bs, _, _, rfl, a, e', by omega, d⟩
    | call _ _ _ => simp [fn2, ofS_eq] at hf
    | num _ _ _ => simp [fn2, ofS_eq] at hf
    | nam _ _ _ => simp [fn2, ofS_eq] at hf
    | two _ _ _ _ => simp [fn2, ofS_eq] at hf
    | step _ _ => simp [fn2, ofS_eq] at hf
  · cases h with
    | lets b _ _ _ _ => cases b <;> simp [fn2, ofS_eq] at hf
    | fault _ _ _ _ => simp [fn2, ofS_eq] at hf
    | hand _ => simp [fn2, ofS_eq] at hf
    | does b _ => cases b <;> simp [fn2, ofS_eq] at hf
    | whl _ _ _ => simp [fn2, ofS_eq] at hf
    | ifs _ _ _ _ _ => simp [fn2, ofS_eq] at hf
    | trys _ _ _ _ _ _ _ _ _ => simp [fn2, ofS_eq] at hf
def LGath (F : List D → Store → R D) (n p : Nat) (d : D) : Prop := ∀ (o : Int) (acc rs : List D) (S : Store) (f : Nat), S[f]? = some (.lst rs) → LRows f S rs acc → acc.length + p ≤ 10001 → p ≤ 300 → ∃ S' rs', F [d, .int o, .ref f] S = .ok .non S' ∧ S'[f]? = some (.lst rs') ∧ LRows f S' rs' (gat n d o acc) ∧ Fr f S S' ∧ (gat n d o acc).length + 1 ≤ acc.length + p
theorem lgather_row {n m r f : Nat} (hn10 : n ≤ 10) {all : List D} {d : D} {o : Int} (hrf : r ≠ f) (ih : ∀ p d, Pt P n p d → LGath (G__law_gathered m 0) n p d) {q : Nat} {ks : List D} (h : Ps P n q ks) :
    ∀ (acc rs : List D) (S : Store) (x3 x4 x5 x6 : Option D), S[r]? = some (.lst all) → S[f]? = some (.lst rs) → LRows f S rs acc → acc.length + q ≤ 10000 → q ≤ 300 →
      ∃ S' rs' y3 y4 y5 y6, forL (fun S' => lstAt S' r = some all) (nameT 3) (b__law_gathered_0 (G__law_gathered m)) ks [some d, some (.int o), some (.ref f), x3, x4, x5, x6] S = .ok (.nx, [some d, some (.int o), some (.ref f), y3, y4, y5, y6]) S' ∧ S'[f]? = some (.lst rs') ∧ LRows f S' rs' (ks.foldl (gst (gat n) o) acc) ∧ Fr f S S' ∧ (ks.foldl (gst (gat n) o) acc).length ≤ acc.length + q := by
  induction h with
  | nil => intro acc rs S x3 x4 x5 x6 hr hf hl hz hq; exact ⟨S, rs, x3, x4, x5, x6, by rw [forL_nil (lstAt_of hr)], hf, hl, ⟨Nat.le_refl _, fun i c h _ => h⟩, by simp⟩
  | @cons p q a as hp _ ihs =>
    intro acc rs S x3 x4 x5 x6 hr hf hl hz hq
    obtain ⟨z, rr, rfl, hw⟩ := hp.word
    have hin := fun S => fn2_in (z := z) (r := rr) S
    have p1 : 1 ≤ p := by
      rcases hp with h | ⟨_, h⟩ <;> cases h <;> omega
    by_cases c : fn2 (.tup (.str z :: rr)) = true
    · obtain ⟨hent, z', ps, bs, hd, q', e0, h1, h3, h4, h5⟩ := ent_ok hp hn10 (by omega) c o
      cases e0
      have lf := lt_of_at hf
      -- the uses
      obtain ⟨S1, hS1⟩ : ∃ S1, S ++ [Cell.lst []] = S1 := ⟨_, rfl⟩
      have k1 : S1[S.length]? = some (.lst (([] : List Str).map .str)) := by rw [← hS1]; exact at_end
      have ul : (bs.flatMap (useF 10)).length ≤ 300 := hent.use.1
      obtain ⟨X, ua, l', e1, g1, ku, g3, g4, g5⟩ := sum_loop (F := F__law_used) (i := 5) (j := 6) (by omega) (g := useF 10) (chk := still) (fun _ _ _ => trivial) bs [] [some d, some (.int o), some (.ref f), some (.tup [.str z, .tup (ps.map .str), .tup bs]), some (.int o), some (.ref S.length), x6] S1 S.length (fun k hk => (told_body h3 (by omega) k hk).2) rfl (by simp) k1 trivial (by simp; simp at ul; omega)
      obtain ⟨y0, y1, y2, y3, y4, y5, y6, rfl⟩ : ∃ y0 y1 y2 y3 y4 y5 y6, l' = [y0, y1, y2, y3, y4, y5, y6] := by
        match l', g4 with
        | [a, b, c, d, e, f, g], _ => exact ⟨_, _, _, _, _, _, _, rfl⟩
      have t0 := g3 0 (by omega) (by omega); have t1 := g3 1 (by omega) (by omega); have t2 := g3 2 (by omega) (by omega); have t3 := g3 3 (by omega) (by omega); have t4 := g3 4 (by omega) (by omega)
      simp at t0 t1 t2 t3 t4 g1
      subst t0 t1 t2 t3 t4 g1
      rw [List.nil_append] at ku
      obtain ⟨S2, hS2⟩ : ∃ S2, S1 ++ X = S2 := ⟨_, rfl⟩
      rw [hS2] at e1 ku
      -- the names
      obtain ⟨Y, r2, oa, e2, e3, ko, q3⟩ := law_own (S := S2) (ps := ps) h3 h4 h1
      obtain ⟨S3, hS3⟩ : ∃ S3, S2 ++ [Cell.lst (ps.map .str)] ++ Y ++ [Cell.lst ((ps ++ brF 10 bs).map .str)] = S3 := ⟨_, rfl⟩
      rw [hS3] at e3 ko
      have f3 : Fr f S S3 := by
        rw [← hS3, ← hS2, ← hS1]
        simp only [List.append_assoc]
        exact Fr.app f S _
      have lS : S.length ≤ S2.length := by rw [← hS2, ← hS1]; simp
      have uf : ua ≠ f := by rcases g5 with g5 | g5
                             · omega
                             · have : S1.length = S.length + 1 := by rw [← hS1]; simp
                               omega
      have ku3 : S3[ua]? = some (.lst ((bs.flatMap (useF 10)).map .str)) := by rw [← hS3]; exact at_app (at_app (at_app ku))
      have kf2 : S2[f]? = some (.lst rs) := by rw [← hS2, ← hS1]; exact at_app (at_app hf)
      have kf3 : S3[f]? = some (.lst rs) := by rw [← hS3, ← hS2, ← hS1]; exact at_app (at_app (at_app (at_app (at_app hf))))
      have hrow : LRow f S3 (.tup [.str z, .ref oa, .ref ua, .int o]) (.tup [.str z, .tup (ps.map .str), .tup bs, .int o]) := by
        refine ⟨oa, ua, rfl, by omega, uf, ?_, ku3⟩
        show S3[oa]? = some (.lst (((ps.map D.str).filterMap strOf ++ brF 10 bs).map .str))
        rw [strs_of]
        exact ko
      have e4 := x_append (d := .tup [.str z, .ref oa, .ref ua, .int o]) (lstAt_of kf3) (by rw [hl.1]; omega)
      obtain ⟨S4, hS4⟩ : ∃ S4, S3.set f (.lst (rs ++ [.tup [.str z, .ref oa, .ref ua, .int o]])) = S4 := ⟨_, rfl⟩
      rw [hS4] at e4
      have f4 : Fr f S3 S4 := by rw [← hS4]; exact Fr.set S3 _
      have kf4 : S4[f]? = some (.lst (rs ++ [.tup [.str z, .ref oa, .ref ua, .int o]])) := by rw [← hS4]; exact get_set_at kf3
      have rows4 : LRows f S4 (rs ++ [.tup [.str z, .ref oa, .ref ua, .int o]]) (acc ++ [ent (.tup [.str z, .tup (ps.map .str), .tup bs]) o]) := ((hl.fr f3).fr f4).snoc (hrow.fr f4)
      have e5 : lenV [.ref f] S4 = .ok (.int ((acc.length : Int) + 1)) S4 := by
        rw [x_lenR (lstAt_of kf4), List.length_append, hl.1]
        simp
      have ee : (acc.length : Int) + 1 - 1 = (acc.length : Int) := by omega
      obtain ⟨S5, rs5, e6, k5, rows5, f5, l5⟩ := ih p _ hp (acc.length : Int) _ _ S4 f kf4 rows4 (by simp; omega) (by omega)
      have es : gst (gat n) o acc (.tup [.str z, .tup (ps.map .str), .tup bs]) = gat n (.tup [.str z, .tup (ps.map .str), .tup bs]) (acc.length : Int) (acc ++ [ent (.tup [.str z, .tup (ps.map .str), .tup bs]) o]) := by
        unfold gst
        rw [if_pos c]
      rw [← es] at rows5 l5
      obtain ⟨S6, rs6, z3, z4, z5, z6, e7, k6, rows6, f6, l6⟩ := ihs _ rs5 S5 (some (.tup [.str z, .tup (ps.map .str), .tup bs])) (some (.int (acc.length : Int))) (some (.ref ua)) y6 (f5.2 r _ (f4.2 r _ (f3.2 r _ hr hrf) hrf) hrf) k5 rows5 (by simp at l5; omega) (by omega)
      refine ⟨S6, rs6, z3, z4, z5, z6, ?_, k6, by rw [List.foldl_cons]; exact rows6, ((f3.trans f4).trans f5).trans f6, by rw [List.foldl_cons]; simp at l5; omega⟩
      have e1' : forL still (nameT 6) (b__law_gathered_1 (G__law_gathered m)) bs [some d, some (.int o), some (.ref f), some (.tup [.str z, .tup (ps.map .str), .tup bs]), some (.int o), some (.ref S.length), x6] S1 = .ok (.nx, [some d, some (.int o), some (.ref f), some (.tup [.str z, .tup (ps.map .str), .tup bs]), some (.int o), some (.ref ua), y6]) S2 := e1
      have eb : b__law_gathered_0 (G__law_gathered m) [some d, some (.int o), some (.ref f), some (.tup [.str z, .tup (ps.map .str), .tup bs]), x4, x5, x6] S = .ok (.nx, [some d, some (.int o), some (.ref f), some (.tup [.str z, .tup (ps.map .str), .tup bs]), some (.int (acc.length : Int)), some (.ref ua), y6]) S5 := by
        simp [-List.append_assoc, -List.map_append, b__law_gathered_0, x_ix, at0, at1, at2, sz, hin, c, hS1, e1', x_listU, e2, e3, lstAt_of kf2, lstAt_of kf3, e4, e5, ee, e6, show ps.length ≤ 16777216 by omega]
      rw [forL_cons (lstAt_of hr)]
      simp only [nameT]
      simp [-List.append_assoc, eb, e7]
    · obtain ⟨S2, rs2, e3, k2, rows2, f2, l2⟩ := ih p _ hp o acc rs S f hf hl (by omega) (by omega)
      have es : gst (gat n) o acc (.tup (.str z :: rr)) = gat n (.tup (.str z :: rr)) o acc := by
        unfold gst
        rw [if_neg c]
      rw [← es] at rows2 l2
      obtain ⟨S3, rs3, y3, y4, y5, y6, e4, k3, rows3, f3, l3⟩ := ihs _ rs2 S2 (some (.tup (.str z :: rr))) (some (.int o)) x5 x6 (f2.2 r _ hr hrf) k2 rows2 (by omega) (by omega)
      refine ⟨S3, rs3, y3, y4, y5, y6, ?_, k3, by rw [List.foldl_cons]; exact rows3, f2.trans f3, by rw [List.foldl_cons]; omega⟩
      have eb : b__law_gathered_0 (G__law_gathered m) [some d, some (.int o), some (.ref f), some (.tup (.str z :: rr)), x4, x5, x6] S = .ok (.nx, [some d, some (.int o), some (.ref f), some (.tup (.str z :: rr)), some (.int o), x5, x6]) S2 := by
        simp [b__law_gathered_0, x_ix, at0, sz, hin, c, e3]
      rw [forL_cons (lstAt_of hr)]
      simp only [nameT]
      simp [eb, e4]
theorem Part.lgather {n m p : Nat} {d : D} (hn : n ≤ 10) (h : Part P n p d) (ih : ∀ p d, Pt P n p d → LGath (G__law_gathered m 0) n p d) : LGath (G__law_gathered (m + 1) 0) (n + 1) p d := fun o acc rs S f hf hrows hl hp => by
  obtain ⟨X, r, e1, k1, hr⟩ := h.law S
  obtain ⟨q, hq, rfl⟩ := h.kids
  have lf := lt_of_at hf
  obtain ⟨S', rs', y3, y4, y5, y6, e2, k2, rows2, f2, l2⟩ := lgather_row hn (d := d) (o := o) (r := r) (f := f) (all := inn d) (by omega) ih hq acc rs (S ++ X) none none none none k1 (at_app hf) (hrows.fr (Fr.app f S X)) (by omega) (by omega)
  have e4 := x_srcR k1
  refine ⟨S', rs', ?_, k2, rows2, (Fr.app f S X).trans f2, by show (List.foldl (gst (gat n) o) acc (inn d)).length + 1 ≤ _; omega⟩
  rw [G__law_gathered_0]
  simp [m__law_gathered, N__law_gathered, startL, e1, e4, e2]
theorem lgather_eq : ∀ (n m p : Nat) (d : D), Pt P n p d → n ≤ 10 → n ≤ m → LGath (G__law_gathered m 0) n p d
  | 0, m, p, d, h, _, _ => h.zero.elim
  | n + 1, m, p, d, h, hn, hm => by
    obtain ⟨k, rfl⟩ : ∃ k, m = k + 1 := ⟨m - 1, by omega⟩
    exact (h.part (by omega)).lgather (by omega) fun p d h => lgather_eq n k p d h (by omega) (by omega)
end K09

set_option Elab.async false
set_option linter.all false
set_option maxRecDepth 100000
set_option autoImplicit false
set_option maxHeartbeats 1000000
namespace K09
open PySem PySem.Spec L2 ML
variable {P : Str → Prop}
/-! ### what the functions' list is -/
def OkL (P : Str → Prop) (L : List D) : Prop := ∀ (i : Nat) (e : D), L[i]? = some e → EntOk P e ∧ (i = 0 → outE e = .non) ∧ (0 < i → ∃ j : Nat, j < i ∧ outE e = .int j)
theorem OkL.snoc {L : List D} {e : D} {o : Nat} (h : OkL P L) (he : EntOk P e) (ho : o < L.length) (q : outE e = .int o) : OkL P (L ++ [e]) := fun i x hx => by
  by_cases hi : i < L.length
  · rw [List.getElem?_append_left hi] at hx
    exact h i x hx
  · have hl : i = L.length := by
      have := (List.getElem?_eq_some_iff.mp hx).1
      rw [List.length_append, List.length_singleton] at this
      omega
    subst hl
    rw [List.getElem?_append_right (Nat.le_refl _), Nat.sub_self] at hx
    cases hx
    exact ⟨he, fun z => by omega, fun _ => ⟨o, ho, q⟩⟩
theorem gat_len {n p : Nat} {d : D} (h : Pt P n p d) (hn : n ≤ 10) (o : Int) (acc : List D) : acc.length ≤ (gat n d o acc).length := by
  obtain ⟨new, e, _⟩ := gat_grow n hn p d h o acc
  rw [e, List.length_append]
  omega
theorem row_ok {n : Nat} (hn : n ≤ 10) (ih : ∀ p d, Pt P n p d → p ≤ 300 → ∀ (o : Nat) acc, o < acc.length → OkL P acc → OkL P (gat n d o acc)) {o : Nat} {q : Nat} {ks : List D} (h : Ps P n q ks) : q ≤ 300 → ∀ acc, o < acc.length → OkL P acc → OkL P (ks.foldl (gst (gat n) o) acc) := by
  induction h with
  | nil => exact fun _ acc _ h => h
  | @cons p q a as hp _ ihs =>
    intro hq acc ho hL
    rw [List.foldl_cons]
    by_cases c : fn2 a = true
    · obtain ⟨he, z, ps, bs, hd, q', e0, _⟩ := ent_ok hp hn (by omega) c o
      have e : gst (gat n) o acc a = gat n a acc.length (acc ++ [ent a o]) := by unfold gst; rw [if_pos c]
      have h1 : OkL P (acc ++ [ent a o]) := hL.snoc he ho (by rw [e0]; rfl)
      have l1 := gat_len hp hn acc.length (acc ++ [ent a o])
      rw [List.length_append, List.length_singleton] at l1
      rw [e]
      exact ihs (by omega) _ (by omega) (ih p a hp (by omega) acc.length _ (by rw [List.length_append, List.length_singleton]; omega) h1)
    · have e : gst (gat n) o acc a = gat n a o acc := by unfold gst; rw [if_neg c]
      have l1 := gat_len hp hn o acc
      rw [e]
      exact ihs (by omega) _ (by omega) (ih p a hp (by omega) o _ ho hL)
theorem gat_ok : ∀ (n : Nat), n ≤ 10 → ∀ p d, Pt P n p d → p ≤ 300 → ∀ (o : Nat) acc, o < acc.length → OkL P acc → OkL P (gat n d o acc)
  | 0, _, p, d, h, _, _, _, _, _ => h.zero.elim
  | n + 1, hn, p, d, h, hp, o, acc, ho, hL => by
    obtain ⟨q, hq, e⟩ := (h.part (by omega)).kids
    exact row_ok (by omega) (fun p d h hp => gat_ok n (by omega) p d h hp) hq (by omega) acc ho hL
theorem Main.okL {d : D} (h : Main P d) : OkL P (all d) := by
  obtain ⟨q, hp, hq⟩ := h.part
  obtain ⟨q', hk, e⟩ := hp.kids
  refine row_ok (n := 9) (by omega) (fun p d h hp => gat_ok 9 (by omega) p d h hp) (o := 0) hk (by omega) [head d] (by simp) fun i x hx => ?_
  have hi : i = 0 := by
    have := (List.getElem?_eq_some_iff.mp hx).1
    simp at this
    exact this
  subst hi
  cases hx
  obtain ⟨ps, bs, p, rfl, h1, h2, hn, h3, h4, h5⟩ := h
  exact ⟨⟨⟨_, ps, bs, _, _, _, rfl, h1, h2, h4.mono (by omega), by omega, by omega⟩⟩, fun _ => rfl, fun z => by omega⟩
/-! ### _law_all -/
theorem Main.law_all {d : D} (h : Main P d) (S : Store) : ∃ S' r rs, F__law_all [d] S = .ok (.ref r) S' ∧ S'[r]? = some (.lst rs) ∧ LRows r S' rs (all d) ∧ (all d).length ≤ 300 ∧ ∀ (i : Nat) (c : Cell), S[i]? = some c → S'[i]? = some c := by
  obtain ⟨q, hp, hq⟩ := h.part
  have hm := h
  obtain ⟨ps, bs, p, rfl, h1, h2, hn, h3, h4, h5⟩ := h
  have h4' := h4.mono (show 9 ≤ 10 by omega)
  have ul : (bs.flatMap (useF 10)).length ≤ 300 := Nat.le_trans (row_len (P := P) (n := 10) (fun p k hk => use_len 10 p k hk (by omega)) h4'.ps) (by omega)
  obtain ⟨S1, hS1⟩ : ∃ S1, S ++ [Cell.lst []] = S1 := ⟨_, rfl⟩
  have k1 : S1[S.length]? = some (.lst (([] : List Str).map .str)) := by rw [← hS1]; exact at_end
  obtain ⟨X, ua, l', e1, g1, ku, g3, g4, g5⟩ := sum_loop (F := F__law_used) (i := 1) (j := 2) (by omega) (g := useF 10) (chk := still) (fun _ _ _ => trivial) bs [] [some (.tup [w "main", .tup (ps.map .str), .tup bs]), some (.ref S.length), none, none] S1 S.length (fun k hk => (told_body h4' (by omega) k hk).2) rfl (by simp) k1 trivial (by rw [List.length_nil]; omega)
  obtain ⟨y0, y1, y2, y3, rfl⟩ : ∃ y0 y1 y2 y3, l' = [y0, y1, y2, y3] := by
    match l', g4 with
    | [a, b, c, d], _ => exact ⟨_, _, _, _, rfl⟩
  have t0 := g3 0 (by omega) (by omega); have t3 := g3 3 (by omega) (by omega)
  simp at t0 t3 g1
  subst t0 t3 g1
  rw [List.nil_append] at ku
  obtain ⟨S2, hS2⟩ : ∃ S2, S1 ++ X = S2 := ⟨_, rfl⟩
  rw [hS2] at e1 ku
  obtain ⟨Y, r2, oa, e2, e3, ko, q3⟩ := law_own (S := S2) (ps := ps) h4' (by omega) h1
  obtain ⟨S3, hS3⟩ : ∃ S3, S2 ++ [Cell.lst (ps.map .str)] ++ Y ++ [Cell.lst ((ps ++ brF 10 bs).map .str)] = S3 := ⟨_, rfl⟩
  rw [hS3] at e3 ko
  have ku3 : S3[ua]? = some (.lst ((bs.flatMap (useF 10)).map .str)) := by rw [← hS3]; exact at_app (at_app (at_app ku))
  obtain ⟨S4, hS4⟩ : ∃ S4, S3 ++ [Cell.lst [.tup [w "main", .ref oa, .ref ua, .non]]] = S4 := ⟨_, rfl⟩
  have k4 : S4[S3.length]? = some (.lst [.tup [w "main", .ref oa, .ref ua, .non]]) := by rw [← hS4]; exact at_end
  have ko4 : S4[oa]? = some (.lst ((ps ++ brF 10 bs).map .str)) := by rw [← hS4]; exact at_app ko
  have ku4 : S4[ua]? = some (.lst ((bs.flatMap (useF 10)).map .str)) := by rw [← hS4]; exact at_app ku3
  have la := lt_of_at ko
  have lu := lt_of_at ku3
  have rows4 : LRows S3.length S4 [.tup [w "main", .ref oa, .ref ua, .non]] [head (.tup [w "main", .tup (ps.map .str), .tup bs])] := ⟨rfl, fun i e he => by
    have hi : i = 0 := by
      have := (List.getElem?_eq_some_iff.mp he).1
      simp at this
      exact this
    subst hi
    cases he
    refine ⟨_, rfl, oa, ua, rfl, by omega, by omega, ?_, ku4⟩
    show S4[oa]? = some (.lst (((ps.map D.str).filterMap strOf ++ brF 10 bs).map .str))
    rw [strs_of]
    exact ko4⟩
  obtain ⟨S5, rs5, e5, k5, rows5, f5, l5⟩ := hp.lgather (m := 59) (by omega) (fun p d h => lgather_eq 9 59 p d h (by omega) (by omega)) 0 _ _ S4 S3.length k4 rows4 (by simp; omega) (by omega)
  have l5' : (all (.tup [w "main", .tup (ps.map .str), .tup bs])).length + 1 ≤ 1 + (1 + q) := l5
  refine ⟨S5, S3.length, rs5, ?_, k5, rows5, by omega, fun i c hi => ?_⟩
  · have e1' : forL still (nameT 2) b__law_all_0 bs [some (.tup [w "main", .tup (ps.map .str), .tup bs]), some (.ref S.length), none, none] S1 = .ok (.nx, [some (.tup [w "main", .tup (ps.map .str), .tup bs]), some (.ref ua), y2, none]) S2 := e1
    have e5' : F__law_gathered [.tup [w "main", .tup (ps.map .str), .tup bs], .int 0, .ref S3.length] S4 = .ok .non S5 := e5
    simp [-List.append_assoc, -List.map_append, F__law_all, m__law_all, N__law_all, startL, x_ix, at1, at2, sz, hS1, e1', x_listU, e2, e3, hS4, e5', show ps.length ≤ 16777216 by omega]
  · have lt := lt_of_at hi
    have : S.length ≤ S3.length := by rw [← hS3, ← hS2, ← hS1]; simp
    refine f5.2 i c ?_ (by omega)
    rw [← hS4, ← hS3, ← hS2, ← hS1]
    exact at_app (at_app (at_app (at_app (at_app (at_app hi)))))
/-! ### used -/
theorem used_told {hd : Bool} {p : Nat} {bs : List D} (h : Bd P 10 hd p bs) (hp : p ≤ 300) : Told F_used (.tup bs) ((bs.flatMap (useF 10)).map .str) := fun S => by
  have ul : (bs.flatMap (useF 10)).length ≤ 300 := Nat.le_trans (row_len (P := P) (n := 10) (fun p k hk => use_len 10 p k hk (by omega)) h.ps) (by omega)
  obtain ⟨S1, hS1⟩ : ∃ S1, S ++ [Cell.lst []] = S1 := ⟨_, rfl⟩
  have k1 : S1[S.length]? = some (.lst (([] : List Str).map .str)) := by rw [← hS1]; exact at_end
  obtain ⟨X, ua, l', e1, g1, ku, g3, g4, g5⟩ := sum_loop (F := F_used_in) (i := 1) (j := 2) (by omega) (g := useF 10) (chk := still) (fun _ _ _ => trivial) bs [] [some (.tup bs), some (.ref S.length), none] S1 S.length (fun k hk => (told_body h (by omega) k hk).1) rfl (by simp) k1 trivial (by rw [List.length_nil]; omega)
  have eS : S ++ ([Cell.lst []] ++ X) = S1 ++ X := by rw [← hS1]; simp
  refine ⟨[Cell.lst []] ++ X, ua, ?_, by rw [eS]; exact ku, by
    have : S1.length = S.length + 1 := by rw [← hS1]; simp
    omega⟩
  have e1' : forL still (nameT 2) b_used_0 bs [some (.tup bs), some (.ref S.length), none] S1 = .ok (.nx, l') (S1 ++ X) := e1
  have hv := loc_get g1 (S1 ++ X)
  rw [eS]
  simp [-List.append_assoc, F_used, m_used, N_used, startL, sz, hS1, e1', hv]
end K09

set_option Elab.async false
set_option linter.all false
set_option maxRecDepth 100000
set_option autoImplicit false
set_option maxHeartbeats 1000000
namespace K09
open PySem PySem.Spec L2 ML
variable {P : Str → Prop}
/-! ### own_names -/
def dup : List Str → List Str → Option Str
  | _, [] => none
  | seen, x :: r => if x ∈ seen then some x else dup (seen ++ [x]) r
def bn (z : Str) : Exn := ⟨3, [("name", .str z)]⟩
theorem own_loop {x0 x1 : D} {r a : Nat} (hra : r ≠ a) {all : List D} : ∀ (rest seen : List Str) (S : Store) (x3 : Option D), S[r]? = some (.lst all) → S[a]? = some (.lst (seen.map .str)) → seen.length + rest.length ≤ 10000 →
    ∃ S' y3, Fr a S S' ∧ (match dup seen rest with
      | none => forL (fun S' => lstAt S' r = some all) (nameT 3) b_own_names_0 (rest.map .str) [some x0, some x1, some (.ref a), x3] S = .ok (.nx, [some x0, some x1, some (.ref a), y3]) S' ∧ S'[a]? = some (.lst ((seen ++ rest).map .str))
      | some z => forL (fun S' => lstAt S' r = some all) (nameT 3) b_own_names_0 (rest.map .str) [some x0, some x1, some (.ref a), x3] S = .ex (bn z) S')
  | [], seen, S, x3, hr, ha, hz => ⟨S, x3, ⟨Nat.le_refl _, fun i c h _ => h⟩, by
      show _ ∧ _
      exact ⟨by rw [List.map_nil, forL_nil (lstAt_of hr)], by simpa using ha⟩⟩
  | x :: rest, seen, S, x3, hr, ha, hz => by
    have hi := in_list ha x
    rw [List.map_cons, forL_cons (lstAt_of hr)]
    simp only [nameT]
    by_cases c : x ∈ seen
    · refine ⟨S, x3, ⟨Nat.le_refl _, fun i c h _ => h⟩, ?_⟩
      have e : dup seen (x :: rest) = some x := by rw [dup, if_pos c]
      rw [e]
      show _ = R.ex (bn x) S
      simp [b_own_names_0, hi, c, bn]
    · have e : dup seen (x :: rest) = dup (seen ++ [x]) rest := by rw [dup, if_neg c]
      have e1 := x_append (d := .str x) (lstAt_of ha) (by rw [List.length_map]; omega)
      have em : seen.map D.str ++ [.str x] = (seen ++ [x]).map D.str := by simp
      rw [em] at e1
      obtain ⟨S1, hS1⟩ : ∃ S1, S.set a (.lst ((seen ++ [x]).map .str)) = S1 := ⟨_, rfl⟩
      rw [hS1] at e1
      have f1 : Fr a S S1 := by rw [← hS1]; exact Fr.set S _
      have k1 : S1[a]? = some (.lst ((seen ++ [x]).map .str)) := by rw [← hS1]; exact get_set_at ha
      obtain ⟨S2, y3, f2, h2⟩ := own_loop (x0 := x0) (x1 := x1) hra rest (seen ++ [x]) S1 (some (.str x)) (f1.2 r _ hr hra) k1 (by rw [List.length_append, List.length_singleton]; simp at hz; omega)
      refine ⟨S2, y3, f1.trans f2, ?_⟩
      have eb : b_own_names_0 [some x0, some x1, some (.ref a), some (.str x)] S = .ok (.nx, [some x0, some x1, some (.ref a), some (.str x)]) S1 := by
        simp [b_own_names_0, hi, c, lstAt_of ha, e1]
      rw [e]
      cases ed : dup (seen ++ [x]) rest with
      | none =>
        rw [ed] at h2
        show _ ∧ _
        refine ⟨?_, by rw [h2.2]; simp⟩
        simp [eb, h2.1]
      | some z =>
        rw [ed] at h2
        show _ = R.ex (bn z) S2
        simp [eb, h2]
theorem own_eq {L : List D} {fr i : Nat} {e : D} (he : EntOk P e) (hi : L[i]? = some e) {S : Store} (hS : S[fr]? = some (.lst L)) : ∃ S', (∀ (j : Nat) (c : Cell), S[j]? = some c → S'[j]? = some c) ∧ (match dup [] (ownE e) with
      | none => ∃ a, F_own_names [.ref fr, .int (i : Int)] S = .ok (.ref a) S' ∧ S'[a]? = some (.lst ((ownE e).map .str)) ∧ S.length ≤ a
      | some z => F_own_names [.ref fr, .int (i : Int)] S = .ex (bn z) S') := by
  have hown := he.own
  obtain ⟨z, ps, bs, o, hd, p, rfl, h1, h2, h3, h4, h5⟩ := he.ex
  have eo : ownE (.tup [.str z, .tup (ps.map .str), .tup bs, o]) = ps ++ brF 10 bs := by
    show (ps.map D.str).filterMap strOf ++ brF 10 bs = _
    rw [strs_of]
  rw [eo] at hown ⊢
  obtain ⟨S1, hS1⟩ : ∃ S1, S ++ [Cell.lst []] = S1 := ⟨_, rfl⟩
  have k1 : S1[S.length]? = some (.lst []) := by rw [← hS1]; exact at_end
  have l1 := br_len 10 _ _ _ h3
  obtain ⟨S2, hS2⟩ : ∃ S2, S1 ++ [Cell.lst (ps.map .str)] = S2 := ⟨_, rfl⟩
  have k2 : S2[S1.length]? = some (.lst (ps.map .str)) := by rw [← hS2]; exact at_end
  obtain ⟨X, r, q, e1, e2, k3, q3⟩ := add_told (brs_eq (P := P) 10 59 (by omega) bs hd p h3 (by omega)) (S := S2) (a := S1.length) (acc := ps) k2 (by omega)
  obtain ⟨S3, hS3⟩ : ∃ S3, S2 ++ X ++ [Cell.lst ((ps ++ brF 10 bs).map .str)] = S3 := ⟨_, rfl⟩
  rw [hS3] at e2 k3
  have e1 : F_brought [.tup bs] S2 = .ok (.ref r) (S2 ++ X) := e1
  have lS1 : S1.length = S.length + 1 := by rw [← hS1]; simp
  have lS2 : S2.length = S1.length + 1 := by rw [← hS2]; simp
  have k1' : S3[S.length]? = some (.lst (([] : List Str).map .str)) := by rw [← hS3, ← hS2]; exact at_app (at_app (at_app k1))
  have fa : ∀ (j : Nat) (c : Cell), S[j]? = some c → S3[j]? = some c := fun j c h => by rw [← hS3, ← hS2, ← hS1]; exact at_app (at_app (at_app (at_app h)))
  obtain ⟨S4, y3, f4, h4⟩ := own_loop (x0 := .ref fr) (x1 := .int (i : Int)) (r := q) (a := S.length) (by omega) (ps ++ brF 10 bs) [] S3 none k3 k1' (by rw [List.length_nil]; omega)
  refine ⟨S4, fun j c h => f4.2 j c (fa j c h) (by have := lt_of_at h; omega), ?_⟩
  have i0 : ∀ T : Store, T[fr]? = some (.lst L) → ixO T (.ref fr) (.int (i : Int)) = some (.tup [.str z, .tup (ps.map .str), .tup bs, o]) := fun T hT => by
    rw [x_ixR (lstAt_of hT), L2.atI_nat hi]
  have i1 := i0 S1 (by rw [← hS1]; exact at_app hS)
  have i2 := i0 S2 (by rw [← hS2, ← hS1]; exact at_app (at_app hS))
  have e4 := x_srcR k3
  cases ed : dup [] (ps ++ brF 10 bs) with
  | none =>
    rw [ed] at h4
    obtain ⟨h4, h5⟩ := h4
    refine ⟨S.length, ?_, by rw [h5]; simp, Nat.le_refl _⟩
    simp [-List.append_assoc, -List.map_append, F_own_names, m_own_names, N_own_names, startL, sz, hS1, x_ix, i1, at1, at2, x_listU, hS2, i2, e1, e2, e4, h4, show ps.length ≤ 16777216 by omega]
  | some w =>
    rw [ed] at h4
    simp [-List.append_assoc, -List.map_append, F_own_names, m_own_names, N_own_names, startL, sz, hS1, x_ix, i1, at1, at2, x_listU, hS2, i2, e1, e2, e4, h4, show ps.length ≤ 16777216 by omega]
end K09

set_option Elab.async false
set_option linter.all false
set_option maxRecDepth 100000
set_option autoImplicit false
set_option maxHeartbeats 1000000
namespace K09
open PySem PySem.Spec L2 ML
variable {P : Str → Prop}
/-! ### who has a name -/
def rdF (L : List D) (z : Str) : Nat → Nat → Bool
  | 0, _ => false
  | k + 1, i => match L[i]? with
    | none => false
    | some e => decide (z ∈ ownE e) || (match outE e with
      | .int j => rdF L z k j.toNat
      | _ => false)
def OwnsOk (rr : Nat) (S : Store) (os L : List D) (k : Nat) : Prop := os.length = k ∧ ∀ (j : Nat) (e : D), j < k → L[j]? = some e → ∃ a, os[j]? = some (.ref a) ∧ S[a]? = some (.lst ((ownE e).map .str)) ∧ a ≠ rr
theorem entOut {e : D} (h : EntOk P e) : ∃ z ps bs, e = .tup [z, ps, bs, outE e] := by
  obtain ⟨z, ps, bs, o, hd, p, rfl, _⟩ := h.ex
  exact ⟨_, _, _, rfl⟩
theorem round_loop {L os : List D} {fr rr n : Nat} {z : Str} (hL : OkL P L) {S : Store} (hf : S[fr]? = some (.lst L)) (ho : S[rr]? = some (.lst os)) (hos : OwnsOk rr S os L n) : ∀ (i : Nat), i < L.length → i < n → ∀ (k fuel : Nat), i < k → i + 2 ≤ fuel → ∃ l', whileS (cmpM isNotD (varE 2) (conE .non)) b_has_round_0 fuel [some (.ref fr), some (.ref rr), some (.int (i : Int)), some (.str z)] S = (if rdF L z k i = true then .ok (.rt (.bl true), l') S else .ok (.nx, l') S) := by
  intro i
  induction i using Nat.strongRecOn with
  | ind i ih =>
    intro hi hin k fuel hk hfu
    obtain ⟨k', rfl⟩ : ∃ k', k = k' + 1 := ⟨k - 1, by omega⟩
    obtain ⟨fu, rfl⟩ : ∃ fu, fuel = fu + 1 := ⟨fuel - 1, by omega⟩
    have he : L[i]? = some L[i] := List.getElem?_eq_getElem hi
    obtain ⟨h1, h2, h3⟩ := hL i _ he
    obtain ⟨a, ha, hn, _⟩ := hos.2 i _ hin he
    obtain ⟨x, y, w, ee⟩ := entOut h1
    have i1 : ixO S (.ref rr) (.int (i : Int)) = some (.ref a) := by rw [x_ixR (lstAt_of ho), L2.atI_nat ha]
    have i2 : ixO S (.ref fr) (.int (i : Int)) = some L[i] := by rw [x_ixR (lstAt_of hf), L2.atI_nat he]
    have hin' := in_list hn z
    have e0 : rdF L z (k' + 1) i = (decide (z ∈ ownE L[i]) || (match outE L[i] with
      | .int j => rdF L z k' j.toNat
      | _ => false)) := by
      rw [rdF]
      simp only [he]
    have c0 : isNotD (.int (i : Int)) .non S = .ok true S := rfl
    rw [x_while, e0]
    by_cases c : z ∈ ownE L[i]
    · refine ⟨[some (.ref fr), some (.ref rr), some (.int (i : Int)), some (.str z)], ?_⟩
      simp [c0, b_has_round_0, x_ix, i1, hin', c]
    · have i3 : ixO S L[i] (.int 3) = some (outE L[i]) := by
        conv => lhs; rw [ee]
        rw [x_ixU]
        exact at3 _ _ _ _ _
      have eb : b_has_round_0 [some (.ref fr), some (.ref rr), some (.int (i : Int)), some (.str z)] S = .ok (.nx, [some (.ref fr), some (.ref rr), some (outE L[i]), some (.str z)]) S := by
        simp [b_has_round_0, x_ix, i1, hin', c, i2, i3]
      by_cases i0 : i = 0
      · have eo := h2 i0
        rw [eo] at eb
        refine ⟨[some (.ref fr), some (.ref rr), some .non, some (.str z)], ?_⟩
        obtain ⟨fu', rfl⟩ : ∃ fu', fu = fu' + 1 := ⟨fu - 1, by omega⟩
        have c1 : isNotD .non .non S = .ok false S := rfl
        simp [c0, eb, eo, c, x_while, c1]
      · obtain ⟨j, hj, eo⟩ := h3 (by omega)
        obtain ⟨l', hl'⟩ := ih j hj (by omega) (by omega) k' fu (by omega) (by omega)
        rw [eo] at eb
        refine ⟨l', ?_⟩
        simp [c0, eb, eo, c, hl']
theorem round_eq {L os : List D} {fr rr n i : Nat} {z : Str} (hL : OkL P L) (hz : L.length ≤ 1000) {S : Store} (hf : S[fr]? = some (.lst L)) (ho : S[rr]? = some (.lst os)) (hos : OwnsOk rr S os L n) (hi : i < L.length) (hn : i < n) : F_has_round [.ref fr, .ref rr, .int (i : Int), .str z] S = .ok (.bl (rdF L z L.length i)) S := by
  obtain ⟨l', e⟩ := round_loop (z := z) hL hf ho hos i hi hn L.length FU hi (by unfold FU; omega)
  cases hr : rdF L z L.length i with
  | true =>
    rw [hr, if_pos rfl] at e
    simp [F_has_round, m_has_round, N_has_round, startL, e]
  | false =>
    rw [hr, if_neg (by simp)] at e
    simp [F_has_round, m_has_round, N_has_round, startL, e]
theorem hold_loop {L rs : List D} {lr : Nat} {z : Str} (hL : OkL P L) {S : Store} (hf : S[lr]? = some (.lst rs)) (hr : LRows lr S rs L) : ∀ (i : Nat), i < L.length → ∀ (k fuel : Nat), i < k → i + 2 ≤ fuel → ∃ d, whileS (ML.andM (cmpM isNotD (varE 1) (conE .non)) (cmpM notInD (varE 2) (binE ixD (binE ixD (varE 0) (varE 1)) (conE (.int 1))))) b__law_holder_0 fuel [some (.ref lr), some (.int (i : Int)), some (.str z)] S = .ok (.nx, [some (.ref lr), some d, some (.str z)]) S ∧ isD d .non S = .ok (!rdF L z k i) S := by
  intro i
  induction i using Nat.strongRecOn with
  | ind i ih =>
    intro hi k fuel hk hfu
    obtain ⟨k', rfl⟩ : ∃ k', k = k' + 1 := ⟨k - 1, by omega⟩
    obtain ⟨fu, rfl⟩ : ∃ fu, fuel = fu + 1 := ⟨fuel - 1, by omega⟩
    have he : L[i]? = some L[i] := List.getElem?_eq_getElem hi
    obtain ⟨h1, h2, h3⟩ := hL i _ he
    obtain ⟨r, hr1, a, b, rfl, _, _, hn, hu⟩ := hr.2 i _ he
    have i2 : ixO S (.ref lr) (.int (i : Int)) = some (.tup [kindE L[i], .ref a, .ref b, outE L[i]]) := by rw [x_ixR (lstAt_of hf), L2.atI_nat hr1]
    have hin' := in_list hn z
    have e0 : rdF L z (k' + 1) i = (decide (z ∈ ownE L[i]) || (match outE L[i] with
      | .int j => rdF L z k' j.toNat
      | _ => false)) := by
      rw [rdF]
      simp only [he]
    have c0 : isNotD (.int (i : Int)) .non S = .ok true S := rfl
    rw [x_while, e0]
    by_cases c : z ∈ ownE L[i]
    · refine ⟨.int (i : Int), ?_, ?_⟩
      · simp [c0, x_ix, i2, at1, x_ninD, hin', c]
      · show R.ok false S = _
        simp [c]
    · have eb : b__law_holder_0 [some (.ref lr), some (.int (i : Int)), some (.str z)] S = .ok (.nx, [some (.ref lr), some (outE L[i]), some (.str z)]) S := by
        simp [b__law_holder_0, x_ix, i2, at3]
      by_cases i0 : i = 0
      · have eo := h2 i0
        rw [eo] at eb
        refine ⟨.non, ?_, ?_⟩
        · obtain ⟨fu', rfl⟩ : ∃ fu', fu = fu' + 1 := ⟨fu - 1, by omega⟩
          have c1 : isNotD .non .non S = .ok false S := rfl
          simp [c0, x_ix, i2, at1, x_ninD, hin', eb, c, x_while, c1]
        · show R.ok true S = _
          simp [c, eo]
      · obtain ⟨j, hj, eo⟩ := h3 (by omega)
        obtain ⟨d, hl', hd⟩ := ih j hj (by omega) k' fu (by omega) (by omega)
        rw [eo] at eb
        refine ⟨d, ?_, ?_⟩
        · simp [c0, x_ix, i2, at1, x_ninD, hin', eb, c, hl']
        · rw [hd]
          simp [c, eo]
theorem hold_eq {L rs : List D} {lr i : Nat} {z : Str} (hL : OkL P L) (hz : L.length ≤ 1000) {S : Store} (hf : S[lr]? = some (.lst rs)) (hr : LRows lr S rs L) (hi : i < L.length) : ∃ d, F__law_holder [.ref lr, .int (i : Int), .str z] S = .ok d S ∧ isD d .non S = .ok (!rdF L z L.length i) S := by
  obtain ⟨d, e, h⟩ := hold_loop (z := z) hL hf hr i hi L.length FU hi (by unfold FU; omega)
  exact ⟨d, by simp [F__law_holder, m__law_holder, N__law_holder, startL, e], h⟩
end K09

set_option Elab.async false
set_option linter.all false
set_option maxRecDepth 100000
set_option autoImplicit false
set_option maxHeartbeats 1000000
namespace K09
open PySem PySem.Spec L2 ML
variable {P : Str → Prop}
/-! ### the first name that is wrong -/
def bad (L : List D) (i : Nat) : Option Str := match L[i]? with
  | none => none
  | some e => match dup [] (ownE e) with
    | some z => some z
    | none => (useE e).find? fun z => !rdF L z L.length i
def fb (L : List D) : Nat → Nat → Option Str
  | _, 0 => none
  | i, m + 1 => match bad L i with
    | some z => some z
    | none => fb L (i + 1) m
theorem enum_drop {L : List D} {i : Nat} (h : i < L.length) : (enumOf L).drop i = .tup [.int (i : Int), L[i]] :: (enumOf L).drop (i + 1) := by
  have hl : i < (enumOf L).length := by rw [enum_len]; exact h
  rw [List.drop_eq_getElem_cons hl]
  congr 1
  obtain ⟨x, hx, e⟩ := enum_at (List.getElem?_eq_getElem hl)
  rw [e, List.getElem?_eq_getElem h] at *
  cases hx
  rfl
theorem OwnsOk.fr {rr k : Nat} {S S' : Store} {os L : List D} (h : OwnsOk rr S os L k) (f : Fr rr S S') : OwnsOk rr S' os L k := ⟨h.1, fun j e hj he => by
  obtain ⟨a, h1, h2, h3⟩ := h.2 j e hj he
  exact ⟨a, h1, f.2 a _ h2 h3, h3⟩⟩
theorem OwnsOk.snoc {rr k a : Nat} {S : Store} {os L : List D} {e : D} (h : OwnsOk rr S os L k) (he : L[k]? = some e) (ha : S[a]? = some (.lst ((ownE e).map .str))) (hr : a ≠ rr) : OwnsOk rr S (os ++ [.ref a]) L (k + 1) := by
  refine ⟨by rw [List.length_append, h.1]; rfl, fun j x hj hx => ?_⟩
  by_cases q : j < k
  · obtain ⟨b, h1, h2, h3⟩ := h.2 j x q hx
    exact ⟨b, by rw [List.getElem?_append_left (by rw [h.1]; exact q)]; exact h1, h2, h3⟩
  · have e2 : j = k := by omega
    subst e2
    rw [he] at hx
    cases hx
    exact ⟨a, by rw [← h.1, List.getElem?_append_right (Nat.le_refl _), Nat.sub_self]; rfl, ha, hr⟩
section
variable {L os : List D} {fr rr i r : Nat} {d x4 : D} {all : List D}
def lc (d : D) (fr rr : Nat) (x3 x4 x5 : Option D) : ML.Loc := [some d, some (.ref fr), some (.ref rr), x3, x4, x5, none, none, none, none, none, none, none, none]
theorem names_loop (hL : OkL P L) (hz : L.length ≤ 1000) {S : Store} (hf : S[fr]? = some (.lst L)) (ho : S[rr]? = some (.lst os)) (hos : OwnsOk rr S os L (i + 1)) (hi : i < L.length) (hr : S[r]? = some (.lst all)) : ∀ (rest : List Str) (x5 : Option D), ∃ y5, forL (fun S' => lstAt S' r = some all) (nameT 5) b_scopes_of_1 (rest.map .str) (lc d fr rr (some (.int (i : Int))) (some x4) x5) S = (match rest.find? fun z => !rdF L z L.length i with
    | none => .ok (.nx, lc d fr rr (some (.int (i : Int))) (some x4) y5) S
    | some z => .ex (bn z) S)
  | [], x5 => ⟨x5, by rw [List.map_nil, forL_nil (lstAt_of hr)]; rfl⟩
  | z :: rest, x5 => by
    have e1 := round_eq (z := z) hL hz hf ho hos hi (by omega)
    obtain ⟨y5, ih⟩ := names_loop hL hz hf ho hos hi hr rest (some (.str z))
    refine ⟨y5, ?_⟩
    rw [List.map_cons, forL_cons (lstAt_of hr)]
    cases c : rdF L z L.length i with
    | true =>
      rw [c] at e1
      rw [List.find?_cons_of_neg (by simp [c]), ← ih]
      simp [nameT, lc, b_scopes_of_1, e1]
    | false =>
      rw [c] at e1
      rw [List.find?_cons_of_pos (by simp [c])]
      simp [nameT, lc, b_scopes_of_1, e1, bn]
end
theorem scope_loop {L : List D} {fr rr : Nat} {d : D} (hfr : fr ≠ rr) (hL : OkL P L) (hz : L.length ≤ 1000) : ∀ (m i : Nat) (os : List D) (S : Store) (x3 x4 x5 : Option D), i + m = L.length → S[fr]? = some (.lst L) → S[rr]? = some (.lst os) → OwnsOk rr S os L i →
    ∃ S' y3 y4 y5 os', Fr rr S S' ∧ (match fb L i m with
      | none => forL (fun S' => lstAt S' fr = some L) (namesT [3, 4]) b_scopes_of_0 ((enumOf L).drop i) (lc d fr rr x3 x4 x5) S = .ok (.nx, lc d fr rr y3 y4 y5) S' ∧ S'[rr]? = some (.lst os') ∧ OwnsOk rr S' os' L L.length
      | some z => forL (fun S' => lstAt S' fr = some L) (namesT [3, 4]) b_scopes_of_0 ((enumOf L).drop i) (lc d fr rr x3 x4 x5) S = .ex (bn z) S')
  | 0, i, os, S, x3, x4, x5, hm, hf, ho, hos => by
    have e : (enumOf L).drop i = [] := List.drop_eq_nil_of_le (by rw [enum_len]; omega)
    refine ⟨S, x3, x4, x5, os, ⟨Nat.le_refl _, fun i c h _ => h⟩, ?_⟩
    show _ ∧ _ ∧ _
    have hi : i = L.length := by omega
    rw [e]
    exact ⟨forL_nil (lstAt_of hf), ho, hi ▸ hos⟩
  | m + 1, i, os, S, x3, x4, x5, hm, hf, ho, hos => by
    have hi : i < L.length := by omega
    have he : L[i]? = some L[i] := List.getElem?_eq_getElem hi
    obtain ⟨hE, _, _⟩ := hL i _ he
    obtain ⟨S1, k1, h1⟩ := own_eq hE he hf
    have lr := lt_of_at ho
    rw [enum_drop hi, forL_cons (lstAt_of hf)]
    have eb : bad L i = (match dup [] (ownE L[i]) with
      | some z => some z
      | none => (useE L[i]).find? fun z => !rdF L z L.length i) := by
      unfold bad
      simp only [he]
    have et : ∀ S, namesT [3, 4] (.tup [.int (i : Int), L[i]]) (lc d fr rr x3 x4 x5) S = .ok (lc d fr rr (some (.int (i : Int))) (some L[i]) x5) S := fun S => rfl
    rw [et, R.bind_ok]
    cases ed : dup [] (ownE L[i]) with
    | some z =>
      rw [ed] at h1 eb
      have ef : fb L i (m + 1) = some z := by unfold fb; rw [eb]
      rw [ef]
      refine ⟨S1, x3, x4, x5, os, ⟨?_, fun j c h _ => k1 j c h⟩, ?_⟩
      · by_cases hS : S.length = 0
        · omega
        · have := k1 (S.length - 1) _ (List.getElem?_eq_getElem (by omega))
          have := lt_of_at this
          omega
      show _ = R.ex (bn z) S1
      simp [b_scopes_of_0, lc, lstAt_of ho, h1]
    | none =>
      rw [ed] at h1 eb
      obtain ⟨a, h1, ha, hla⟩ := h1
      have ho1 := k1 rr _ ho
      have ea := x_append (d := .ref a) (lstAt_of ho1) (by rw [hos.1]; omega)
      obtain ⟨S2, hS2⟩ : ∃ S2, S1.set rr (.lst (os ++ [.ref a])) = S2 := ⟨_, rfl⟩
      rw [hS2] at ea
      have f1 : Fr rr S S1 := ⟨by have := lt_of_at ha; omega, fun j c h _ => k1 j c h⟩
      have f2 : Fr rr S1 S2 := by rw [← hS2]; exact Fr.set S1 _
      have ho2 : S2[rr]? = some (.lst (os ++ [.ref a])) := by rw [← hS2]; exact get_set_at ho1
      have hf2 := f2.2 fr _ (f1.2 fr _ hf hfr) hfr
      have ha2 := f2.2 a _ ha (by omega)
      have hos2 : OwnsOk rr S2 (os ++ [.ref a]) L (i + 1) := ((hos.fr f1).fr f2).snoc he ha2 (by omega)
      obtain ⟨z, ps, bs, o, hd, p, eL, g1, g2, g3, g4, g5⟩ := hE.ex
      obtain ⟨X, r, e3, k3, _⟩ := used_told g3 g4 S2
      have eu : useE L[i] = bs.flatMap (useF 10) := by rw [eL]; rfl
      rw [← eu] at k3
      have f3 := Fr.app rr S2 X
      obtain ⟨y5, e4⟩ := names_loop (i := i) (d := d) (x4 := L[i]) hL hz (f3.2 fr _ hf2 hfr) (at_app ho2) (hos2.fr f3) hi k3 (useE L[i]) x5
      have e5 := x_srcR k3
      have i2 : ixO S2 L[i] (.int 2) = some (.tup bs) := by rw [eL, x_ixU]; exact at2 _ _ _ _
      cases ef : (useE L[i]).find? fun z => !rdF L z L.length i with
      | some z =>
        rw [ef] at e4 eb
        have efb : fb L i (m + 1) = some z := by unfold fb; rw [eb]
        rw [efb]
        refine ⟨S2 ++ X, x3, x4, x5, os, (f1.trans f2).trans f3, ?_⟩
        show _ = R.ex (bn z) (S2 ++ X)
        unfold lc at e4 ⊢
        simp [-List.append_assoc, -List.map_append, b_scopes_of_0, lstAt_of ho, lstAt_of ho1, h1, ea, x_ix, i2, e3, e5, e4]
      | none =>
        rw [ef] at e4 eb
        have efb : fb L i (m + 1) = fb L (i + 1) m := by rw [fb, eb]
        obtain ⟨S', z3, z4, z5, os', ff, h6⟩ := scope_loop hfr hL hz m (i + 1) (os ++ [.ref a]) (S2 ++ X) (some (.int (i : Int))) (some L[i]) y5 (by omega) (f3.2 fr _ hf2 hfr) (at_app ho2) (hos2.fr f3)
        refine ⟨S', z3, z4, z5, os', ((f1.trans f2).trans f3).trans ff, ?_⟩
        have ebb : b_scopes_of_0 (lc d fr rr (some (.int (i : Int))) (some L[i]) x5) S = .ok (.nx, lc d fr rr (some (.int (i : Int))) (some L[i]) y5) (S2 ++ X) := by
          unfold lc at e4 ⊢
          simp [-List.append_assoc, -List.map_append, b_scopes_of_0, lstAt_of ho, lstAt_of ho1, h1, ea, x_ix, i2, e3, e5, e4]
        rw [efb, ebb, R.bind_ok]
        exact h6
end K09

set_option Elab.async false
set_option linter.all false
set_option maxRecDepth 100000
set_option autoImplicit false
set_option maxHeartbeats 1000000
namespace K09
open PySem PySem.Spec L2 ML
variable {P : Str → Prop}
/-! ### what is needed -/
structure NeedOk (P : Str → Prop) (kvs : List (Key × D)) : Prop where
  nd : (kvs.map (·.1)).Nodup
  ks : ∀ kv ∈ kvs, ∃ z, kv.1 = .inr z ∧ P z
theorem NeedOk.nil : NeedOk P [] := ⟨by simp, by simp⟩
theorem NeedOk.put {kvs : List (Key × D)} {z : Str} {v : D} (h : NeedOk P kvs) (hz : P z) : NeedOk P (dPut kvs (.inr z) v) := by
  unfold dPut
  split
  · have e : (kvs.map fun kv => if kv.1 = .inr z then (kv.1, v) else kv).map (·.1) = kvs.map (·.1) := by
      rw [List.map_map]
      refine List.map_congr_left fun kv _ => ?_
      show (if kv.1 = Sum.inr z then (kv.1, v) else kv).1 = kv.1
      split <;> rfl
    refine ⟨by rw [e]; exact h.nd, fun kv hk => ?_⟩
    obtain ⟨kv0, h0, rfl⟩ := List.mem_map.mp hk
    obtain ⟨y, e1, e2⟩ := h.ks kv0 h0
    refine ⟨y, ?_, e2⟩
    split <;> exact e1
  · rename_i c
    refine ⟨?_, fun kv hk => ?_⟩
    · rw [List.map_append]
      refine List.nodup_append.mpr ⟨h.nd, by simp, ?_⟩
      intro a ha b hb
      simp at hb
      subst hb
      rintro rfl
      refine c ?_
      obtain ⟨kv, h1, h2⟩ := List.mem_map.mp ha
      exact List.any_eq_true.mpr ⟨kv, h1, by simpa using h2⟩
    · rcases List.mem_append.mp hk with hk | hk
      · exact h.ks kv hk
      · rw [List.mem_singleton.mp hk]
        exact ⟨z, rfl, hz⟩
theorem NeedOk.merge : ∀ (us : List Str) (kvs : List (Key × D)), NeedOk P kvs → (∀ z ∈ us, P z) → NeedOk P (mergeD kvs (us.map fun z => (.inr z, .bl true)))
  | [], kvs, h, _ => h
  | u :: us, kvs, h, hu => NeedOk.merge us _ (h.put (hu u List.mem_cons_self)) fun z hz => hu z (List.mem_cons_of_mem _ hz)
theorem nd_len {α : Type} [DecidableEq α] : ∀ (l m : List α), l.Nodup → (∀ x ∈ l, x ∈ m) → l.length ≤ m.length
  | [], _, _, _ => by simp
  | a :: l, m, h, hs => by
    have h' := List.nodup_cons.mp h
    have ha := hs a List.mem_cons_self
    have := nd_len l (m.erase a) h'.2 fun x hx => (List.mem_erase_of_ne (fun e => h'.1 (by rw [← e]; exact hx))).mpr (hs x (List.mem_cons_of_mem _ hx))
    have e := List.length_erase_of_mem ha
    have := List.length_pos_of_mem ha
    rw [List.length_cons]
    omega
theorem NeedOk.len {zs : List Str} {kvs : List (Key × D)} (h : NeedOk (InZ zs) kvs) : kvs.length ≤ zs.length := by
  have := nd_len (kvs.map (·.1)) (zs.map Sum.inr) h.nd fun k hk => by
    obtain ⟨kv, h1, rfl⟩ := List.mem_map.mp hk
    obtain ⟨z, e, hz⟩ := h.ks kv h1
    rw [e]
    exact List.mem_map.mpr ⟨z, hz, rfl⟩
  rwa [List.length_map, List.length_map] at this
/-- what stands meanwhile -/
structure Wd (P : Str → Prop) (L : List D) (fr rr : Nat) (as : List Nat) (S : Store) : Prop where
  f : S[fr]? = some (.lst L)
  o : ∃ os, S[rr]? = some (.lst os) ∧ OwnsOk rr S os L L.length
  len : as.length ≤ L.length
  nd : as.Nodup
  ds : ∀ a ∈ as, ∃ kvs, S[a]? = some (.dct kvs) ∧ NeedOk P kvs
theorem Wd.app {L : List D} {fr rr : Nat} {as : List Nat} {S : Store} (h : Wd P L fr rr as S) (X : Store) : Wd P L fr rr as (S ++ X) := by
  obtain ⟨os, h1, h2⟩ := h.o
  exact ⟨at_app h.f, ⟨os, at_app h1, h2.fr (Fr.app rr S X)⟩, h.len, h.nd, fun a ha => by
    obtain ⟨kvs, q1, q2⟩ := h.ds a ha
    exact ⟨kvs, at_app q1, q2⟩⟩
theorem pairs_new (us : List Str) (S : Store) : pairsL (us.map fun z => D.tup [.str z, .bl true]) S = .ok (.ref S.length) (S ++ [.dct (mergeD [] (us.map fun z => (.inr z, .bl true)))]) := by
  have e : mapO pairO (us.map fun z => D.tup [.str z, .bl true]) = some (us.map fun z => ((.inr z, .bl true) : Key × D)) := mapO_some (f := pairO) (g := fun z => D.tup [.str z, .bl true]) (h := fun z => ((.inr z, .bl true) : Key × D)) (fun _ => rfl) us
  unfold pairsL
  rw [e]
  rfl
noncomputable abbrev needE : ME := newL pairsL (compN (srcV (callE 1 F_used (consA (binE ixD (varE 4) (conE (.int 2))) (nilA)))) (.one 5) (yesM) (tupE (consA (varE 5) (consA (conE (.bl true)) (nilA)))))
theorem need_one {e : D} (hE : EntOk P e) (x0 x1 x2 x3 x5 x6 : Option D) (S : Store) : ∃ X, needE [x0, x1, x2, x3, some e, x5, x6, none, none, none, none, none, none, none] S = .ok (.ref (S ++ X).length) (S ++ X ++ [.dct (mergeD [] ((useE e).map fun z => (.inr z, .bl true)))]) := by
  obtain ⟨hu, _⟩ := hE.use
  obtain ⟨z, ps, bs, o, hd, p, rfl, g1, g2, g3, g4, g5⟩ := hE.ex
  obtain ⟨X, r, e3, k3, _⟩ := used_told g3 g4 S
  have e5 := x_srcR k3
  have eu : useE (.tup [.str z, .tup (ps.map .str), .tup bs, o]) = bs.flatMap (useF 10) := rfl
  rw [eu] at hu ⊢
  have e6 : compL (fun S' => lstAt S' r = some ((bs.flatMap (useF 10)).map .str)) (.one 5) yesM (tupE (consA (varE 5) (consA (conE (.bl true)) nilA))) [x0, x1, x2, x3, some (.tup [.str z, .tup (ps.map .str), .tup bs, o]), none, x6, none, none, none, none, none, none, none] ((bs.flatMap (useF 10)).map D.str) [] (S ++ X) = .ok ((bs.flatMap (useF 10)).map fun z => D.tup [.str z, .bl true]) (S ++ X) :=
    compL_mapG D.str (fun z => D.tup [.str z, .bl true]) (bs.flatMap (useF 10)) (fun b hb => by simp [sz]) (by rw [sz]; omega) (lstAt_of k3)
  refine ⟨X, ?_⟩
  simp [-List.append_assoc, x_ix, at2, e3, e5, Tgt.own, wipeL, e6, pairs_new]
theorem need_loop {L : List D} {fr rr : Nat} (hL : OkL P L) (hz : L.length ≤ 1000) (x0 x1 x2 x3 x5 x6 : Option D) : ∀ (ks : List D) (as : List Nat) (S : Store), (∀ e ∈ ks, EntOk P e) → Wd P L fr rr as S → as.length + ks.length ≤ L.length →
    ∃ X as', compL (fun S' => lstAt S' fr = some L) (.one 4) yesM needE [x0, x1, x2, x3, none, x5, x6, none, none, none, none, none, none, none] ks (as.map .ref) S = .ok (as'.map .ref) (S ++ X) ∧ Wd P L fr rr as' (S ++ X) ∧ as'.length = as.length + ks.length
  | [], as, S, hk, h, hl => ⟨[], as, by rw [compL_nil (lstAt_of h.f)]; simp, by simpa using h, by simp⟩
  | e :: ks, as, S, hk, h, hl => by
    rw [List.length_cons] at hl
    have hE := hk e List.mem_cons_self
    obtain ⟨X, e1⟩ := need_one hE x0 x1 x2 x3 x5 x6 S
    have h1 := h.app X
    have h2 := h1.app [.dct (mergeD [] ((useE e).map fun z => (.inr z, .bl true)))]
    have h3 : Wd P L fr rr (as ++ [(S ++ X).length]) (S ++ X ++ [.dct (mergeD [] ((useE e).map fun z => (.inr z, .bl true)))]) := ⟨h2.f, h2.o, by rw [List.length_append, List.length_singleton]; omega, by
      refine List.nodup_append.mpr ⟨h.nd, by simp, ?_⟩
      intro a ha b hb
      rw [List.mem_singleton.mp hb]
      obtain ⟨kvs, q, _⟩ := h1.ds a ha
      have := lt_of_at q
      omega, fun a ha => by
      rcases List.mem_append.mp ha with ha | ha
      · exact h2.ds a ha
      · rw [List.mem_singleton.mp ha]
        exact ⟨_, at_end, NeedOk.merge _ _ .nil hE.use.2⟩⟩
    obtain ⟨Y, as', e2, h4, hl'⟩ := need_loop hL hz x0 x1 x2 x3 x5 x6 ks (as ++ [(S ++ X).length]) _ (fun k hk' => hk k (List.mem_cons_of_mem _ hk')) h3 (by rw [List.length_append, List.length_singleton]; omega)
    rw [List.map_append] at e2
    refine ⟨X ++ [.dct (mergeD [] ((useE e).map fun z => (.inr z, .bl true)))] ++ Y, as', ?_, by
      have : S ++ (X ++ [.dct (mergeD [] ((useE e).map fun z => (.inr z, .bl true)))] ++ Y) = S ++ X ++ [.dct (mergeD [] ((useE e).map fun z => (.inr z, .bl true)))] ++ Y := by simp
      rw [this]; exact h4, by rw [hl', List.length_append, List.length_singleton, List.length_cons]; omega⟩
    rw [compL_cons (lstAt_of h.f)]
    show ((yesM _ S).bind fun b S1 => if b = true then (needE [x0, x1, x2, x3, some e, x5, x6, none, none, none, none, none, none, none] S1).bind _ else _) = _
    simp only [x_yes, R.bind_ok, if_true, e1]
    rw [if_pos (by rw [sz, List.length_map]; have := h.len; omega)]
    have : S ++ (X ++ [.dct (mergeD [] ((useE e).map fun z => (.inr z, .bl true)))] ++ Y) = S ++ X ++ [.dct (mergeD [] ((useE e).map fun z => (.inr z, .bl true)))] ++ Y := by simp
    rw [this]
    exact e2
end K09

set_option Elab.async false
set_option linter.all false
set_option maxRecDepth 100000
set_option autoImplicit false
set_option maxHeartbeats 1000000
namespace K09
open PySem PySem.Spec L2 ML
theorem lst_set {S : Store} {a b : Nat} {k : List (Key × D)} {c : Cell} {l : List D} (ha : S[a]? = some (.dct k)) (hb : S[b]? = some (.lst l)) : (S.set a c)[b]? = some (.lst l) := by
  have : a ≠ b := fun e => by rw [e, hb] at ha; cases ha
  rw [get_set_ne this]
  exact hb
section
variable {zs : List Str} {L : List D} {fr rr nn : Nat} {as : List Nat}
theorem Wd.put {S : Store} {a : Nat} {kvs : List (Key × D)} (h : Wd (InZ zs) L fr rr as S) (ha : a ∈ as) (hn : NeedOk (InZ zs) kvs) : Wd (InZ zs) L fr rr as (S.set a (.dct kvs)) := by
  obtain ⟨k0, e0, _⟩ := h.ds a ha
  obtain ⟨os, h1, h2⟩ := h.o
  refine ⟨lst_set e0 h.f, ⟨os, lst_set e0 h1, h2.1, fun j e hj he => ?_⟩, h.len, h.nd, fun b hb => ?_⟩
  · obtain ⟨q, q1, q2, q3⟩ := h2.2 j e hj he
    exact ⟨q, q1, lst_set e0 q2, q3⟩
  · by_cases e : a = b
    · subst e
      exact ⟨kvs, get_set_at e0, hn⟩
    · obtain ⟨k1, e1, n1⟩ := h.ds b hb
      exact ⟨k1, by rw [get_set_ne e]; exact e1, n1⟩
def lk (d : D) (fr rr nn : Nat) (x3 x4 x5 : Option D) : ML.Loc := [some d, some (.ref fr), some (.ref rr), x3, x4, x5, some (.ref nn), none, none, none, none, none, none, none]
theorem key_loop {d : D} {ai i : Nat} {kvs : List (Key × D)} (hz : Names zs) (hL : OkL (InZ zs) L) (h0 : 0 < i) (hi : i < L.length) (hai : as[i]? = some ai) (hlen : as.length = L.length) : ∀ (rest : List Str) (S : Store) (x4 x5 : Option D), (∀ z ∈ rest, InZ zs z) → Wd (InZ zs) L fr rr as (S.set ai (.dct kvs)) → S[ai]? = some (.dlk kvs) → S[nn]? = some (.lst (as.map .ref)) →
    ∃ S' y5, forL (fun S' => S'[ai]? = some (.dlk kvs)) (nameT 5) b_scopes_of_3 (rest.map .str) (lk d fr rr nn (some (.int (i : Int))) x4 x5) S = .ok (.nx, lk d fr rr nn (some (.int (i : Int))) x4 y5) S' ∧ Wd (InZ zs) L fr rr as (S'.set ai (.dct kvs)) ∧ S'[ai]? = some (.dlk kvs) ∧ S'[nn]? = some (.lst (as.map .ref))
  | [], S, x4, x5, hr, hw, hk, hn => ⟨S, x5, by rw [List.map_nil, forL_nil hk], hw, hk, hn⟩
  | z :: rest, S, x4, x5, hr, hw, hk, hn => by
    have he : L[i]? = some L[i] := List.getElem?_eq_getElem hi
    obtain ⟨hE, _, h3⟩ := hL i _ he
    obtain ⟨j, hj, eo⟩ := h3 h0
    have back : ∀ {b : Nat} {l : List D}, (S.set ai (.dct kvs))[b]? = some (.lst l) → S[b]? = some (.lst l) := fun {b l} h => by
      by_cases e : ai = b
      · subst e
        rw [get_set_at hk] at h
        cases h
      · rwa [get_set_ne e] at h
    have hf := back hw.f
    obtain ⟨os, h1, h2⟩ := hw.o
    have ho := back h1
    obtain ⟨q, q1, q2, q3⟩ := h2.2 i _ hi he
    have hin := in_list (back q2) z
    have i1 : ixO S (.ref rr) (.int (i : Int)) = some (.ref q) := by rw [x_ixR (lstAt_of ho), L2.atI_nat q1]
    have i2 : ixO S (.ref fr) (.int (i : Int)) = some L[i] := by rw [x_ixR (lstAt_of hf), L2.atI_nat he]
    obtain ⟨x, y, w, ee⟩ := entOut hE
    have i3 : ixO S L[i] (.int 3) = some (.int (j : Int)) := by
      rw [← eo]
      conv => lhs; rw [ee]
      rw [x_ixU]
      exact at3 _ _ _ _ _
    have hjl : j < as.length := by omega
    have haj : as[j]? = some as[j] := List.getElem?_eq_getElem hjl
    have i4 : ixO S (.ref nn) (.int (j : Int)) = some (.ref as[j]) := by rw [x_ixR (lstAt_of hn), L2.atI_nat (v := .ref as[j]) (by rw [List.getElem?_map, haj]; rfl)]
    rw [List.map_cons, forL_cons hk]
    have en : ∀ S, nameT 5 (.str z) (lk d fr rr nn (some (.int (i : Int))) x4 x5) S = .ok (lk d fr rr nn (some (.int (i : Int))) x4 (some (.str z))) S := fun S => rfl
    rw [en, R.bind_ok]
    have hr' : ∀ z ∈ rest, InZ zs z := fun y hy => hr y (List.mem_cons_of_mem _ hy)
    by_cases c : z ∈ ownE L[i]
    · have eb : b_scopes_of_3 (lk d fr rr nn (some (.int (i : Int))) x4 (some (.str z))) S = .ok (.nx, lk d fr rr nn (some (.int (i : Int))) x4 (some (.str z))) S := by
        simp [b_scopes_of_3, lk, x_ix, i1, x_ninD, hin, c]
      obtain ⟨S', y5, h⟩ := key_loop (d := d) hz hL h0 hi hai hlen rest S x4 (some (.str z)) hr' hw hk hn
      refine ⟨S', y5, ?_, h.2⟩
      rw [eb, R.bind_ok]
      exact h.1
    · have hm : as[j] ∈ as := List.getElem_mem hjl
      obtain ⟨k0, e0, n0⟩ := hw.ds _ hm
      have ne : ai ≠ as[j] := fun e => by
        have hil : i < as.length := by omega
        have : as[i] = as[j] := by rw [← e]; exact (List.getElem?_eq_some_iff.mp hai).2
        exact List.pairwise_iff_getElem.mp hw.nd j i hjl hil hj this.symm
      rw [get_set_ne ne] at e0
      have i5 := set_dS (z := z) (v := .bl true) e0 (by have := n0.len; have := hz.len; omega)
      obtain ⟨S1, hS1⟩ : ∃ S1, S.set as[j] (.dct (dPut k0 (.inr z) (.bl true))) = S1 := ⟨_, rfl⟩
      rw [hS1] at i5
      have eb : b_scopes_of_3 (lk d fr rr nn (some (.int (i : Int))) x4 (some (.str z))) S = .ok (.nx, lk d fr rr nn (some (.int (i : Int))) x4 (some (.str z))) S1 := by
        simp [b_scopes_of_3, lk, x_ix, i1, x_ninD, hin, c, i2, i3, i4, i5]
      have hw1 : Wd (InZ zs) L fr rr as (S1.set ai (.dct kvs)) := by
        rw [← hS1, List.set_comm _ _ (fun e => ne e.symm)]
        exact hw.put hm (n0.put (hr z List.mem_cons_self))
      obtain ⟨S', y5, h⟩ := key_loop (d := d) hz hL h0 hi hai hlen rest S1 x4 (some (.str z)) hr' hw1 (by rw [← hS1, get_set_ne (fun e => ne e.symm)]; exact hk) (by rw [← hS1]; exact lst_set e0 hn)
      refine ⟨S', y5, ?_, h.2⟩
      rw [eb, R.bind_ok]
      exact h.1
end
end K09

set_option Elab.async false
set_option linter.all false
set_option maxRecDepth 100000
set_option autoImplicit false
set_option maxHeartbeats 1000000
namespace K09
open PySem PySem.Spec L2 ML
section
variable {zs : List Str} {L : List D} {fr rr nn : Nat} {as : List Nat}
theorem NeedOk.keys {P : Str → Prop} {kvs : List (Key × D)} (h : NeedOk P kvs) : ∃ us : List Str, (kvs.map fun kv => keyD kv.1) = us.map .str ∧ (∀ z ∈ us, P z) ∧ us.length = kvs.length := by
  have : ∀ kvs : List (Key × D), (∀ kv ∈ kvs, ∃ z, kv.1 = .inr z ∧ P z) → ∃ us : List Str, (kvs.map fun kv => keyD kv.1) = us.map .str ∧ (∀ z ∈ us, P z) ∧ us.length = kvs.length := by
    intro kvs
    induction kvs with
    | nil => intro _; exact ⟨[], rfl, by simp, rfl⟩
    | cons kv r ih =>
      intro hk
      obtain ⟨us, h1, h2, h3⟩ := ih fun x hx => hk x (List.mem_cons_of_mem _ hx)
      obtain ⟨z, e, hz⟩ := hk kv List.mem_cons_self
      refine ⟨z :: us, by rw [List.map_cons, List.map_cons, h1, e]; rfl, fun y hy => ?_, by rw [List.length_cons, List.length_cons, h3]⟩
      rcases List.mem_cons.mp hy with rfl | hy
      · exact hz
      · exact h2 y hy
  exact this kvs h.ks
theorem set_self {S : Store} {a : Nat} {c : Cell} (h : S[a]? = some c) : S.set a c = S := by
  refine List.ext_getElem? fun i => ?_
  by_cases e : a = i
  · subst e
    rw [get_set_at h, h]
  · rw [get_set_ne e]
theorem rev_succ (m : Nat) : revFrom ((m + 1 : Nat) : Int) (m + 1) = .int ((m + 1 : Nat) : Int) :: revFrom (m : Int) m := by
  unfold revFrom
  rw [List.range_succ_eq_map, List.map_cons, List.map_map]
  refine congr (congrArg List.cons ?_) (List.map_congr_left fun i _ => ?_)
  · show D.int _ = D.int _
    congr 1
  · show D.int _ = D.int _
    congr 1
    simp only [Nat.succ_eq_add_one]
    omega
theorem lst_setk {S : Store} {a b : Nat} {k : List (Key × D)} {c : Cell} {l : List D} (ha : S[a]? = some (.dlk k)) (hb : S[b]? = some (.lst l)) : (S.set a c)[b]? = some (.lst l) := by
  have : a ≠ b := fun e => by rw [e, hb] at ha; cases ha
  rw [get_set_ne this]
  exact hb
theorem to_body {d : D} (hz : Names zs) (hL : OkL (InZ zs) L) (hlen : as.length = L.length) {i : Nat} {S : Store} {x4 x5 : Option D} (h0 : 0 < i) (hi : i < L.length) (hw : Wd (InZ zs) L fr rr as S) (hn : S[nn]? = some (.lst (as.map .ref))) :
    ∃ S' y5, b_scopes_of_2 (lk d fr rr nn (some (.int (i : Int))) x4 x5) S = .ok (.nx, lk d fr rr nn (some (.int (i : Int))) x4 y5) S' ∧ Wd (InZ zs) L fr rr as S' ∧ S'[nn]? = some (.lst (as.map .ref)) := by
  have hil : i < as.length := by omega
  have hai : as[i]? = some as[i] := List.getElem?_eq_getElem hil
  generalize as[i] = ai at hai
  have hmem : ai ∈ as := List.mem_of_getElem? hai
  obtain ⟨kvs, e0, n0⟩ := hw.ds ai hmem
  obtain ⟨us, u1, u2, u3⟩ := n0.keys
  obtain ⟨T, hT⟩ : ∃ T, S.set ai (.dlk kvs) = T := ⟨_, rfl⟩
  have eT : T.set ai (.dct kvs) = S := by rw [← hT, List.set_set, set_self e0]
  have kT : T[ai]? = some (.dlk kvs) := by rw [← hT]; exact get_set_at e0
  have nT : T[nn]? = some (.lst (as.map .ref)) := by rw [← hT]; exact lst_set e0 hn
  obtain ⟨S', y5, h1, h2, h3, h4⟩ := key_loop (d := d) (nn := nn) hz hL h0 hi hai hlen us T x4 x5 u2 (by rw [eT]; exact hw) kT nT
  have i1 : ixO S (.ref nn) (.int (i : Int)) = some (.ref ai) := by rw [x_ixR (lstAt_of hn), L2.atI_nat (v := .ref ai) (by rw [List.getElem?_map, hai]; rfl)]
  have i1' : ixO T (.ref nn) (.int (i : Int)) = some (.ref ai) := by rw [x_ixR (lstAt_of nT), L2.atI_nat (v := .ref ai) (by rw [List.getElem?_map, hai]; rfl)]
  refine ⟨S'.set ai (.dct kvs), y5, ?_, h2, lst_setk h3 h4⟩
  refine x_lock ?_ e0 ?_ h3
  · simp [lk, x_ix, i1]
  · rw [hT]
    have : srcK (binE ixD (varE 6) (varE 3)) (lk d fr rr nn (some (.int (i : Int))) x4 x5) T = .ok (us.map .str, fun S' => S'[ai]? = some (.dlk kvs)) T := by
      rw [← u1, ← x_keysD kT, x_srcK]
      simp [lk, x_ix, i1']
    rw [x_forS, this]
    exact h1
theorem to_loop {d : D} (hz : Names zs) (hL : OkL (InZ zs) L) (hlen : as.length = L.length) : ∀ (m : Nat) (S : Store) (x3 x4 x5 : Option D), (m = 0 ∨ m < L.length) → Wd (InZ zs) L fr rr as S → S[nn]? = some (.lst (as.map .ref)) →
    ∃ S' y3 y5, forL still (nameT 3) b_scopes_of_2 (revFrom (m : Int) m) (lk d fr rr nn x3 x4 x5) S = .ok (.nx, lk d fr rr nn y3 x4 y5) S' ∧ Wd (InZ zs) L fr rr as S' ∧ S'[nn]? = some (.lst (as.map .ref))
  | 0, S, x3, x4, x5, hm, hw, hn => ⟨S, x3, x5, by
    have : revFrom ((0 : Nat) : Int) 0 = [] := rfl
    rw [this]; exact forL_nil trivial, hw, hn⟩
  | m + 1, S, x3, x4, x5, hm, hw, hn => by
    obtain ⟨S1, y5, eb, h2, h4⟩ := to_body (d := d) (x4 := x4) (x5 := x5) hz hL hlen (by omega : 0 < m + 1) (by omega) hw hn
    obtain ⟨S2, z3, z5, g1, g2, g3⟩ := to_loop (d := d) hz hL hlen m S1 (some (.int ((m + 1 : Nat) : Int))) x4 y5 (by omega) h2 h4
    refine ⟨S2, z3, z5, ?_, g2, g3⟩
    have en : ∀ S, nameT 3 (.int ((m + 1 : Nat) : Int)) (lk d fr rr nn x3 x4 x5) S = .ok (lk d fr rr nn (some (.int ((m + 1 : Nat) : Int))) x4 x5) S := fun S => rfl
    rw [rev_succ, forL_cons trivial, en, R.bind_ok, eb, R.bind_ok]
    exact g1
end
end K09

set_option Elab.async false
set_option linter.all false
set_option maxRecDepth 100000
set_option autoImplicit false
set_option maxHeartbeats 1000000
namespace K09
open PySem PySem.Spec L2 ML
section
variable {zs : List Str} {L : List D} {fr rr nn tt : Nat} {as : List Nat}
theorem Wd.kept {P : Str → Prop} {S S' : Store} (h : Wd P L fr rr as S) (e : S.length ≤ tt) (f : Fr tt S S') : Wd P L fr rr as S' := by
  have g : ∀ {b : Nat} {c : Cell}, S[b]? = some c → S'[b]? = some c := fun {b c} hb => f.2 b c hb (by have := lt_of_at hb; omega)
  obtain ⟨os, h1, h2⟩ := h.o
  exact ⟨g h.f, ⟨os, g h1, h2.1, fun j x hj hx => by
    obtain ⟨a, q1, q2, q3⟩ := h2.2 j x hj hx
    exact ⟨a, q1, g q2, q3⟩⟩, h.len, h.nd, fun a ha => by
    obtain ⟨k, q1, q2⟩ := h.ds a ha
    exact ⟨k, g q1, q2⟩⟩
def TakOk (tt : Nat) (S : Store) (ts : List D) : Prop := S[tt]? = some (.lst ts) ∧ ∀ t ∈ ts, ∃ (a : Nat) (ws : List Str), t = .ref a ∧ S[a]? = some (.lst (ws.map .str)) ∧ a ≠ tt
def lt5 (d : D) (fr rr nn tt : Nat) (x3 x4 x5 : Option D) : ML.Loc := [some d, some (.ref fr), some (.ref rr), x3, x4, x5, some (.ref nn), some (.ref tt), none, none, none, none, none, none]
noncomputable abbrev takE : ME := allocE (newL sortSL (compN (srcK (binE ixD (varE 6) (varE 3))) (.one 5) (cmpM notInD (varE 5) (binE ixD (varE 2) (varE 3))) (varE 5)))
theorem tak_one {d : D} {i : Nat} {S : Store} (hz : Names zs) (hi : i < L.length) (hlen : as.length = L.length) (hw : Wd (InZ zs) L fr rr as S) (hn : S[nn]? = some (.lst (as.map .ref))) (x4 x5 : Option D) :
    ∃ ws : List Str, lockM (binE ixD (varE 6) (varE 3)) takE (lt5 d fr rr nn tt (some (.int (i : Int))) x4 x5) S = .ok (.ref S.length) (S ++ [.lst (ws.map .str)]) := by
  have hil : i < as.length := by omega
  have hai : as[i]? = some as[i] := List.getElem?_eq_getElem hil
  generalize as[i] = ai at hai
  have hmem : ai ∈ as := List.mem_of_getElem? hai
  obtain ⟨kvs, e0, n0⟩ := hw.ds ai hmem
  obtain ⟨us, u1, u2, u3⟩ := n0.keys
  have ul : us.length ≤ 8 := by have := n0.len; have := hz.len; omega
  obtain ⟨T, hT⟩ : ∃ T, S.set ai (.dlk kvs) = T := ⟨_, rfl⟩
  have lT : T.length = S.length := by rw [← hT, List.length_set]
  have eT : T.set ai (.dct kvs) = S := by rw [← hT, List.set_set, set_self e0]
  have kT : T[ai]? = some (.dlk kvs) := by rw [← hT]; exact get_set_at e0
  have nT : T[nn]? = some (.lst (as.map .ref)) := by rw [← hT]; exact lst_set e0 hn
  have i1 : ∀ {S : Store}, S[nn]? = some (.lst (as.map .ref)) → ixO S (.ref nn) (.int (i : Int)) = some (.ref ai) := fun {S} hn => by rw [x_ixR (lstAt_of hn), L2.atI_nat (v := .ref ai) (by rw [List.getElem?_map, hai]; rfl)]
  obtain ⟨os, h1, h2⟩ := hw.o
  have he : L[i]? = some L[i] := List.getElem?_eq_getElem hi
  obtain ⟨q, q1, q2, q3⟩ := h2.2 i _ hi he
  have oT : T[rr]? = some (.lst os) := by rw [← hT]; exact lst_set e0 h1
  have qT : T[q]? = some (.lst ((ownE L[i]).map .str)) := by rw [← hT]; exact lst_set e0 q2
  have i2 : ixO T (.ref rr) (.int (i : Int)) = some (.ref q) := by rw [x_ixR (lstAt_of oT), L2.atI_nat q1]
  refine ⟨sortS (us.filter fun z => !decide (z ∈ ownE L[i])), ?_⟩
  have e3 : srcK (binE ixD (varE 6) (varE 3)) (lt5 d fr rr nn tt (some (.int (i : Int))) x4 x5) T = .ok (us.map .str, fun S' => S'[ai]? = some (.dlk kvs)) T := by
    rw [← u1, ← x_keysD kT, x_srcK]
    simp [lt5, x_ix, i1 nT]
  have e4 : compL (fun S' => S'[ai]? = some (.dlk kvs)) (.one 5) (cmpM notInD (varE 5) (binE ixD (varE 2) (varE 3))) (varE 5) (lt5 d fr rr nn tt (some (.int (i : Int))) x4 none) (us.map .str) [] T = .ok ((us.filter fun z => !decide (z ∈ ownE L[i])).map .str) T :=
    compL_filG D.str (fun z => !decide (z ∈ ownE L[i])) D.str us (fun b hb => by simp [lt5, x_ix, i2, x_ninD, in_list qT]) (fun b hb _ => by simp [lt5]) (by rw [sz]; omega) kT
  have e5 : sortSL ((us.filter fun z => !decide (z ∈ ownE L[i])).map .str) T = .ok ((sortS (us.filter fun z => !decide (z ∈ ownE L[i]))).map .str) T := by
    unfold sortSL
    rw [mapO_some (f := strO) (g := D.str) (h := fun z : Str => z) (fun _ => rfl)]
    simp only [List.map_id']
    rw [if_pos (by have := List.length_filter_le (fun z => !decide (z ∈ ownE L[i])) us; omega)]
  have e6 := x_lock (me := binE ixD (varE 6) (varE 3)) (m := takE) (l := lt5 d fr rr nn tt (some (.int (i : Int))) x4 x5) (S := S) (n := ai) (kvs := kvs) (p := .ref S.length) (S' := T ++ [.lst ((sortS (us.filter fun z => !decide (z ∈ ownE L[i]))).map .str)]) (by simp [lt5, x_ix, i1 hn]) e0 (by
    rw [hT]
    show allocE _ _ _ = _
    rw [x_allocE, x_newL, x_compN, e3]
    have : wipeL (lt5 d fr rr nn tt (some (.int (i : Int))) x4 x5) (Tgt.own (.one 5)) = lt5 d fr rr nn tt (some (.int (i : Int))) x4 none := rfl
    rw [R.bind_ok, this]
    show (((compL (fun S' => S'[ai]? = some (.dlk kvs)) (.one 5) (cmpM notInD (varE 5) (binE ixD (varE 2) (varE 3))) (varE 5) (lt5 d fr rr nn tt (some (.int (i : Int))) x4 none) (us.map .str) [] T).noex.bind sortSL).bind _) = _
    rw [e4]
    show ((sortSL _ T).bind _) = _
    rw [e5]
    show R.ok (D.ref T.length) _ = _
    rw [lT]) (at_app kT)
  rw [e6, List.set_append_left _ _ (lt_of_at kT), eT]
theorem tak_loop {d : D} {S0 : Store} (hz : Names zs) (hlen : as.length = L.length) (hL : L.length ≤ 1000) (hw : Wd (InZ zs) L fr rr as S0) (hn : S0[nn]? = some (.lst (as.map .ref))) (htt : S0.length ≤ tt) : ∀ (m i : Nat) (S : Store) (ts : List D) (x3 x4 x5 : Option D), i + m = L.length → Fr tt S0 S → TakOk tt S ts → ts.length = i →
    ∃ S' ts' y3, forL still (nameT 3) b_scopes_of_4 (intsD (List.range' i m)) (lt5 d fr rr nn tt x3 x4 x5) S = .ok (.nx, lt5 d fr rr nn tt y3 x4 x5) S' ∧ Fr tt S0 S' ∧ TakOk tt S' ts' ∧ ts'.length = L.length
  | 0, i, S, ts, x3, x4, x5, hm, hf, ht, hl => ⟨S, ts, x3, forL_nil trivial, hf, ht, by omega⟩
  | m + 1, i, S, ts, x3, x4, x5, hm, hf, ht, hl => by
    have hn' : S[nn]? = some (.lst (as.map .ref)) := hf.2 _ _ hn (by have := lt_of_at hn; omega)
    obtain ⟨ws, e1⟩ := tak_one (d := d) (tt := tt) hz (by omega : i < L.length) hlen (hw.kept htt hf) hn' x4 x5
    obtain ⟨t1, t2⟩ := ht
    obtain ⟨T, hT⟩ : ∃ T, S ++ [.lst (ws.map .str)] = T := ⟨_, rfl⟩
    rw [hT] at e1
    have tT : T[tt]? = some (.lst ts) := by rw [← hT]; exact at_app t1
    have wT : T[S.length]? = some (.lst (ws.map .str)) := by rw [← hT]; exact at_end
    have fT : Fr tt S T := by rw [← hT]; exact Fr.app tt S _
    have ea := x_append (d := .ref S.length) (lstAt_of tT) (by omega)
    obtain ⟨U, hU⟩ : ∃ U, T.set tt (.lst (ts ++ [.ref S.length])) = U := ⟨_, rfl⟩
    rw [hU] at ea
    have fU : Fr tt T U := by rw [← hU]; exact Fr.set T _
    have eb : b_scopes_of_4 (lt5 d fr rr nn tt (some (.int (i : Int))) x4 x5) S = .ok (.nx, lt5 d fr rr nn tt (some (.int (i : Int))) x4 x5) U := by
      show exprS (lmE appendM (varE 7) (consA (lockM (binE ixD (varE 6) (varE 3)) takE) nilA)) _ _ = _
      have e7 : varE 7 (lt5 d fr rr nn tt (some (.int (i : Int))) x4 x5) S = .ok (.ref tt) S := rfl
      simp [e7, lstAt_of t1, e1, ea]
    have tU : TakOk tt U (ts ++ [.ref S.length]) := by
      refine ⟨by rw [← hU]; exact get_set_at tT, fun t ht => ?_⟩
      rcases List.mem_append.mp ht with ht | ht
      · obtain ⟨a, v, q1, q2, q3⟩ := t2 t ht
        exact ⟨a, v, q1, fU.2 _ _ (fT.2 _ _ q2 q3) q3, q3⟩
      · have hne : S.length ≠ tt := by have := lt_of_at t1; omega
        exact ⟨S.length, ws, List.mem_singleton.mp ht, fU.2 _ _ wT hne, hne⟩
    obtain ⟨S', ts', y3, g1, g2⟩ := tak_loop (d := d) hz hlen hL hw hn htt m (i + 1) U _ (some (.int (i : Int))) x4 x5 (by omega) (hf.trans (fT.trans fU)) tU (by rw [List.length_append, hl]; rfl)
    refine ⟨S', ts', y3, ?_, g2⟩
    have er : intsD (List.range' i (m + 1)) = .int (i : Int) :: intsD (List.range' (i + 1) m) := rfl
    have en : ∀ S, nameT 3 (.int (i : Int)) (lt5 d fr rr nn tt x3 x4 x5) S = .ok (lt5 d fr rr nn tt (some (.int (i : Int))) x4 x5) S := fun S => rfl
    rw [er, forL_cons trivial, en, R.bind_ok, eb, R.bind_ok]
    exact g1
end
end K09

set_option Elab.async false
set_option linter.all false
set_option maxRecDepth 100000
set_option autoImplicit false
set_option maxHeartbeats 1000000
namespace K09
open PySem PySem.Spec L2 ML
/-- a comprehension of any target that changes nothing -/
theorem compL_pureT {β : Type} {chk : Store → Prop} {t : Tgt} {c : MB} {m : ME} {l : ML.Loc} {S : Store} (hk : chk S) (g : β → D) (lf : β → ML.Loc) (p : β → Bool) (f : β → D) : ∀ (bs : List β) (acc : List D), (∀ b ∈ bs, t.put (g b) l = some (lf b)) → (∀ b ∈ bs, c (lf b) S = .ok (p b) S) → (∀ b ∈ bs, p b = true → m (lf b) S = .ok (f b) S) → acc.length + bs.length ≤ sizeLine →
    compL chk t c m l (bs.map g) acc S = .ok (acc ++ (bs.filter p).map f) S
  | [], acc, _, _, _, _ => by rw [List.map_nil, compL_nil hk]; simp
  | d :: ds, acc, hp, hc, hm, hz => by
    have h0 := hp d List.mem_cons_self
    have h1 := hc d List.mem_cons_self
    have h2 := hm d List.mem_cons_self
    rw [List.length_cons] at hz
    rw [List.map_cons, compL_cons hk]
    simp only [h0, h1, R.bind_ok]
    cases e : p d with
    | true =>
      simp only [if_true, h2 e, R.bind_ok]
      rw [if_pos (by omega), compL_pureT hk g lf p f ds (acc ++ [f d]) (fun x hx => hp x (List.mem_cons_of_mem _ hx)) (fun x hx => hc x (List.mem_cons_of_mem _ hx)) (fun x hx => hm x (List.mem_cons_of_mem _ hx)) (by rw [List.length_append, List.length_singleton]; omega)]
      simp [e]
    | false =>
      simp only [if_false, Bool.false_eq_true]
      rw [compL_pureT hk g lf p f ds acc (fun x hx => hp x (List.mem_cons_of_mem _ hx)) (fun x hx => hc x (List.mem_cons_of_mem _ hx)) (fun x hx => hm x (List.mem_cons_of_mem _ hx)) (by omega)]
      simp [e]
section
variable {P : Str → Prop} {L : List D} {fr rr nn tt ff : Nat} {os ts : List D}
structure Fd (L : List D) (fr rr tt : Nat) (os ts : List D) (S : Store) : Prop where
  f : S[fr]? = some (.lst L)
  o : S[rr]? = some (.lst os)
  oo : OwnsOk rr S os L L.length
  t : TakOk tt S ts
  tl : ts.length = L.length
theorem Fd.kept {S S' : Store} (h : Fd L fr rr tt os ts S) (e : S.length ≤ ff) (f : Fr ff S S') : Fd L fr rr tt os ts S' := by
  have g : ∀ {b : Nat} {c : Cell}, S[b]? = some c → S'[b]? = some c := fun {b c} hb => f.2 b c hb (by have := lt_of_at hb; omega)
  exact ⟨g h.f, g h.o, ⟨h.oo.1, fun j x hj hx => by
    obtain ⟨a, q1, q2, q3⟩ := h.oo.2 j x hj hx
    exact ⟨a, q1, g q2, q3⟩⟩, ⟨g h.t.1, fun t ht => by
    obtain ⟨a, ws, q1, q2, q3⟩ := h.t.2 t ht
    exact ⟨a, ws, q1, g q2, q3⟩⟩, h.tl⟩
theorem Fd.app {S : Store} (h : Fd L fr rr tt os ts S) (X : Store) : Fd L fr rr tt os ts (S ++ X) := h.kept (ff := S.length) (Nat.le_refl _) (Fr.app _ S X)
def lf8 (d : D) (fr rr nn tt ff : Nat) (x3 x4 x5 x9 x10 : Option D) : ML.Loc := [some d, some (.ref fr), some (.ref rr), x3, x4, x5, some (.ref nn), some (.ref tt), some (.ref ff), x9, x10, none, none, none]
noncomputable abbrev innE : ME := allocE (compN (srcR1 (consA (newL lenV (consA (varE 1) (nilA))) (nilA))) (.one 11) (cmpM eqD (binE ixD (binE ixD (varE 1) (varE 11)) (conE (.int 3))) (varE 3)) (binE ixD (varE 7) (varE 11)))
noncomputable abbrev boxE : ME := allocE (compN (srcE (consA (binE ixD (varE 2) (varE 3)) (nilA))) (.many [12, 5]) (ofV (newL anyL (compN (srcV (varE 9)) (.one 13) (yesM) (toV (cmpM inD (varE 5) (varE 13)))))) (varE 12))
def outIs (L : List D) (i k : Nat) : Bool := match outE (L.getD k .non) with
  | .int j => decide (j = (i : Int))
  | _ => false
theorem eq_out {L : List D} {k i : Nat} {e : D} (hL : OkL P L) (he : L[k]? = some e) (S : Store) : eqD (outE e) (.int (i : Int)) S = .ok (outIs L i k) S := by
  have eg : L.getD k .non = e := by rw [List.getD_eq_getElem?_getD, he]; rfl
  obtain ⟨h1, h2, h3⟩ := hL k e he
  unfold outIs
  rw [eg]
  by_cases c : k = 0
  · rw [h2 c]; rfl
  · obtain ⟨j, hj, e2⟩ := h3 (by omega)
    rw [e2]
    rfl
theorem inn_one {d : D} {i : Nat} {S : Store} (hL : OkL P L) (hz : L.length ≤ 1000) (h : Fd L fr rr tt os ts S) (x4 x5 x9 x10 : Option D) :
    ∃ vs : List D, innE (lf8 d fr rr nn tt ff (some (.int (i : Int))) x4 x5 x9 x10) S = .ok (.ref S.length) (S ++ [.lst vs]) ∧ vs.length ≤ L.length ∧ ∀ v ∈ vs, v ∈ ts := by
  have e1 : srcR1 (consA (newL lenV (consA (varE 1) (nilA))) (nilA)) (lf8 d fr rr nn tt ff (some (.int (i : Int))) x4 x5 x9 x10) S = .ok (intsD (List.range L.length), still) S := by
    have hl : lenV [.ref fr] S = .ok (.int L.length) S := x_lenR (lstAt_of h.f)
    have hr : rng1 [.int (L.length : Int)] S = .ok (intsD (List.range L.length), still) S := by
      rw [x_rng1 (by omega) (by omega), ← rng_ints, Int.toNat_natCast]
    simp [lf8, hl, hr]
  have e2 : compL still (.one 11) (cmpM eqD (binE ixD (binE ixD (varE 1) (varE 11)) (conE (.int 3))) (varE 3)) (binE ixD (varE 7) (varE 11)) (lf8 d fr rr nn tt ff (some (.int (i : Int))) x4 x5 x9 x10) (intsD (List.range L.length)) [] S = .ok (((List.range L.length).filter (outIs L i)).map fun k => ts.getD k .non) S := by
    refine compL_filG (fun k : Nat => D.int (k : Int)) (outIs L i) (fun k => ts.getD k .non) (List.range L.length) (fun k hk => ?_) (fun k hk _ => ?_) (by rw [sz, List.length_range]; omega) trivial
    · have hkl := List.mem_range.mp hk
      have he : L[k]? = some L[k] := List.getElem?_eq_getElem hkl
      have i2 : ixO S (.ref fr) (.int (k : Int)) = some L[k] := by rw [x_ixR (lstAt_of h.f), L2.atI_nat he]
      obtain ⟨x, y, w, ee⟩ := entOut (hL k _ he).1
      have i3 : ixO S L[k] (.int 3) = some (outE L[k]) := by
        conv => lhs; rw [ee]
        rw [x_ixU]
        exact at3 _ _ _ _ _
      simp [lf8, x_ix, i2, i3, eq_out hL he]
    · have hkl := List.mem_range.mp hk
      have hkt : k < ts.length := by rw [h.tl]; exact hkl
      have i2 : ixO S (.ref tt) (.int (k : Int)) = some (ts.getD k .non) := by rw [x_ixR (lstAt_of h.t.1), L2.atI_nat (v := ts.getD k .non) (by rw [List.getD_eq_getElem?_getD, List.getElem?_eq_getElem hkt]; rfl)]
      simp [lf8, x_ix, i2]
  refine ⟨((List.range L.length).filter (outIs L i)).map fun k => ts.getD k .non, ?_, by rw [List.length_map]; exact Nat.le_trans (List.length_filter_le _ _) (by rw [List.length_range]; exact Nat.le_refl _), fun v hv => ?_⟩
  · show allocE _ _ _ = _
    rw [x_allocE, x_compN, e1, R.bind_ok]
    have : wipeL (lf8 d fr rr nn tt ff (some (.int (i : Int))) x4 x5 x9 x10) (Tgt.own (.one 11)) = lf8 d fr rr nn tt ff (some (.int (i : Int))) x4 x5 x9 x10 := rfl
    rw [this]
    show (((compL still (.one 11) _ _ (lf8 d fr rr nn tt ff (some (.int (i : Int))) x4 x5 x9 x10) (intsD (List.range L.length)) [] S).noex).bind _) = _
    rw [e2]
    rfl
  · obtain ⟨k, hk, rfl⟩ := List.mem_map.mp hv
    have hkl : k < ts.length := by rw [h.tl]; exact List.mem_range.mp (List.mem_filter.mp hk).1
    rw [List.getD_eq_getElem?_getD, List.getElem?_eq_getElem hkl]
    exact List.getElem_mem hkl
def stl (S : Store) (d : D) : List Str := match d with
  | .ref a => match lstAt S a with
    | some xs => xs.filterMap strO
    | none => []
  | _ => []
theorem stl_of {S : Store} {a : Nat} {ws : List Str} (h : S[a]? = some (.lst (ws.map .str))) : stl S (.ref a) = ws := by
  unfold stl
  simp only [lstAt_of h]
  rw [List.filterMap_map]
  have : (strO ∘ D.str) = some := rfl
  rw [this, List.filterMap_some]
theorem box_one {d : D} {i vr : Nat} {S : Store} {vs : List D} (hL : OkL P L) (hz : L.length ≤ 1000) (hi : i < L.length) (h : Fd L fr rr tt os ts S) (hv : S[vr]? = some (.lst vs)) (hvs : ∀ v ∈ vs, v ∈ ts) (hvl : vs.length ≤ 1000) (x4 x5 x10 : Option D) :
    ∃ bs : List D, boxE (lf8 d fr rr nn tt ff (some (.int (i : Int))) x4 x5 (some (.ref vr)) x10) S = .ok (.ref S.length) (S ++ [.lst bs]) := by
  have he : L[i]? = some L[i] := List.getElem?_eq_getElem hi
  obtain ⟨hE, _⟩ := hL i _ he
  obtain ⟨q, q1, q2, q3⟩ := h.oo.2 i _ hi he
  have i1 : ixO S (.ref rr) (.int (i : Int)) = some (.ref q) := by rw [x_ixR (lstAt_of h.o), L2.atI_nat q1]
  have hol := hE.own
  have e1 : srcE (consA (binE ixD (varE 2) (varE 3)) (nilA)) (lf8 d fr rr nn tt ff (some (.int (i : Int))) x4 x5 (some (.ref vr)) x10) S = .ok (enumOf ((ownE L[i]).map .str), fun S' => lstAt S' q = some ((ownE L[i]).map .str)) S := by
    rw [x_srcE]
    simp [lf8, x_ix, i1, x_enumD (lstAt_of q2)]
  have eg : enumOf ((ownE L[i]).map .str) = (ownE L[i]).zipIdx.map fun p => .tup [.int (p.2 : Int), .str p.1] := by
    unfold enumOf
    rw [List.zipIdx_map, List.map_map]
    rfl
  have e2 : compL (fun S' => lstAt S' q = some ((ownE L[i]).map .str)) (.many [12, 5]) (ofV (newL anyL (compN (srcV (varE 9)) (.one 13) (yesM) (toV (cmpM inD (varE 5) (varE 13)))))) (varE 12) (lf8 d fr rr nn tt ff (some (.int (i : Int))) x4 none (some (.ref vr)) x10) (enumOf ((ownE L[i]).map .str)) [] S = .ok (([] : List D) ++ (((ownE L[i]).zipIdx.filter fun p => vs.any fun v => decide (p.1 ∈ stl S v)).map fun p => .int (p.2 : Int))) S := by
    rw [eg]
    refine compL_pureT (lstAt_of q2) (fun p : Str × Nat => .tup [.int (p.2 : Int), .str p.1]) (fun p => [some d, some (.ref fr), some (.ref rr), some (.int (i : Int)), x4, some (.str p.1), some (.ref nn), some (.ref tt), some (.ref ff), some (.ref vr), x10, none, some (.int (p.2 : Int)), none]) (fun p => vs.any fun v => decide (p.1 ∈ stl S v)) (fun p => .int (p.2 : Int)) _ [] (fun p _ => rfl) (fun p _ => ?_) (fun p _ _ => by simp) (by rw [sz, List.length_zipIdx]; simp; omega)
    have e4 : compL (fun S' => lstAt S' vr = some vs) (.one 13) yesM (toV (cmpM inD (varE 5) (varE 13))) [some d, some (.ref fr), some (.ref rr), some (.int (i : Int)), x4, some (.str p.1), some (.ref nn), some (.ref tt), some (.ref ff), some (.ref vr), x10, none, some (.int (p.2 : Int)), none] vs [] S = .ok (vs.map fun v => .bl (decide (p.1 ∈ stl S v))) S := by
      refine compL_map (fun v => .bl (decide (p.1 ∈ stl S v))) vs (fun v hv' => ?_) (by rw [sz]; omega) (lstAt_of hv)
      obtain ⟨a, ws, rfl, w2, _⟩ := h.t.2 v (hvs v hv')
      have := in_list w2 p.1
      simp [this, stl_of w2]
    have e5 : srcV (varE 9) [some d, some (.ref fr), some (.ref rr), some (.int (i : Int)), x4, some (.str p.1), some (.ref nn), some (.ref tt), some (.ref ff), some (.ref vr), x10, none, some (.int (p.2 : Int)), none] S = .ok (vs, fun S' => lstAt S' vr = some vs) S := by
      have := x_srcR hv
      simp [this]
    have e6 : anyL (vs.map fun v => .bl (decide (p.1 ∈ stl S v))) S = .ok (.bl (vs.any fun v => decide (p.1 ∈ stl S v))) S := anyL_map _ vs S
    simp [-x_srcV, e5, Tgt.own, wipeL, e4, e6]
  refine ⟨((ownE L[i]).zipIdx.filter fun p => vs.any fun v => decide (p.1 ∈ stl S v)).map fun p => .int (p.2 : Int), ?_⟩
  show allocE _ _ _ = _
  rw [x_allocE, x_compN, e1, R.bind_ok]
  have : wipeL (lf8 d fr rr nn tt ff (some (.int (i : Int))) x4 x5 (some (.ref vr)) x10) (Tgt.own (.many [12, 5])) = lf8 d fr rr nn tt ff (some (.int (i : Int))) x4 none (some (.ref vr)) x10 := rfl
  rw [this]
  show (((compL (fun S' => lstAt S' q = some ((ownE L[i]).map .str)) (.many [12, 5]) _ _ (lf8 d fr rr nn tt ff (some (.int (i : Int))) x4 none (some (.ref vr)) x10) (enumOf ((ownE L[i]).map .str)) [] S).noex).bind _) = _
  rw [e2]
  rfl
end
end K09

set_option Elab.async false
set_option linter.all false
set_option maxRecDepth 100000
set_option autoImplicit false
set_option maxHeartbeats 1000000
namespace K09
open PySem PySem.Spec L2 ML
theorem seq_nx {a b : MS} {l l1 : ML.Loc} {S S1 : Store} (h : a l S = .ok (.nx, l1) S1) : seqS a b l S = b l1 S1 := by
  rw [x_seqS, h]; rfl
theorem seq_ex {a b : MS} {l : ML.Loc} {S S1 : Store} {x : Exn} (h : a l S = .ex x S1) : seqS a b l S = .ex x S1 := by
  rw [x_seqS, h]; rfl
theorem tupV_ref {S : Store} {a : Nat} {xs : List D} (h : S[a]? = some (.lst xs)) : tupV [.ref a] S = .ok (.tup xs) S := by
  have e : lstOf S (.ref a) = some xs := lstAt_of h
  unfold tupV
  simp only [e]
section
variable {P : Str → Prop} {L : List D} {fr rr nn tt ff : Nat} {os ts : List D}
theorem found_body {d : D} {i : Nat} {S : Store} {fs : List D} (hL : OkL P L) (hz : L.length ≤ 1000) (hi : i < L.length) (h : Fd L fr rr tt os ts S) (hf : S[ff]? = some (.lst fs)) (hl : fs.length ≤ 1000) (x5 x9 x10 : Option D) :
    ∃ S' e y9 y10, b_scopes_of_5 (lf8 d fr rr nn tt ff (some (.int (i : Int))) (some L[i]) x5 x9 x10) S = .ok (.nx, lf8 d fr rr nn tt ff (some (.int (i : Int))) (some L[i]) x5 y9 y10) S' ∧ Fr ff S S' ∧ S'[ff]? = some (.lst (fs ++ [e])) := by
  have he : L[i]? = some L[i] := List.getElem?_eq_getElem hi
  have hE := (hL i _ he).1
  obtain ⟨vs, e1, hvl, hvs⟩ := inn_one (d := d) (nn := nn) (ff := ff) (i := i) hL hz h (some L[i]) x5 x9 x10
  obtain ⟨S1, hS1⟩ : ∃ S1, S ++ [Cell.lst vs] = S1 := ⟨_, rfl⟩
  rw [hS1] at e1
  have h1 : Fd L fr rr tt os ts S1 := by rw [← hS1]; exact h.app _
  have k1 : S1[S.length]? = some (.lst vs) := by rw [← hS1]; exact at_end
  have f1 : S1[ff]? = some (.lst fs) := by rw [← hS1]; exact at_app hf
  obtain ⟨bs, e2⟩ := box_one (d := d) (nn := nn) (ff := ff) hL hz hi h1 k1 hvs (by omega) (some L[i]) x5 x10
  obtain ⟨S2, hS2⟩ : ∃ S2, S1 ++ [Cell.lst bs] = S2 := ⟨_, rfl⟩
  rw [hS2] at e2
  have h2 : Fd L fr rr tt os ts S2 := by rw [← hS2]; exact h1.app _
  have k2 : S2[S1.length]? = some (.lst bs) := by rw [← hS2]; exact at_end
  have f2 : S2[ff]? = some (.lst fs) := by rw [← hS2]; exact at_app f1
  obtain ⟨q, q1, q2, q3⟩ := h2.oo.2 i _ hi he
  have i1 : ixO S2 (.ref rr) (.int (i : Int)) = some (.ref q) := by rw [x_ixR (lstAt_of h2.o), L2.atI_nat q1]
  have hit : i < ts.length := by rw [h2.tl]; exact hi
  have ht : ts[i]? = some ts[i] := List.getElem?_eq_getElem hit
  obtain ⟨a, ws, ea, a2, a3⟩ := h2.t.2 ts[i] (List.getElem_mem hit)
  rw [ea] at ht
  have i2 : ixO S2 (.ref tt) (.int (i : Int)) = some (.ref a) := by rw [x_ixR (lstAt_of h2.t.1), L2.atI_nat ht]
  obtain ⟨z, ps, bz, o, hd, p, eL, g1, g2, g3, g4, g5⟩ := hE.ex
  have i3 : ixO S2 L[i] (.int 0) = some (.str z) := by rw [eL, x_ixU]; rfl
  have t1 := tupV_ref q2
  have t2 := tupV_ref k2
  have t3 := tupV_ref a2
  obtain ⟨e, hee⟩ : ∃ e, D.tup [.str z, .tup ((ownE L[i]).map .str), .tup bs, .tup (ws.map .str)] = e := ⟨_, rfl⟩
  have e3 := x_append (d := e) (lstAt_of f2) (by omega)
  have c1 : b_scopes_of_5 = seqS (setS 9 innE) (seqS (setS 10 boxE) (exprS (lmE appendM (varE 8) (consA (tupE (consA (binE ixD (varE 4) (conE (.int 0))) (consA (newL tupV (consA (binE ixD (varE 2) (varE 3)) (nilA))) (consA (newL tupV (consA (varE 10) (nilA))) (consA (newL tupV (consA (binE ixD (varE 7) (varE 3)) (nilA))) (nilA)))))) (nilA))))) := rfl
  refine ⟨S2.set ff (.lst (fs ++ [e])), e, some (.ref S.length), some (.ref S1.length), ?_, ?_, get_set_at f2⟩
  · rw [c1, seq_nx (l1 := lf8 d fr rr nn tt ff (some (.int (i : Int))) (some L[i]) x5 (some (.ref S.length)) x10) (S1 := S1) (by rw [x_setS, e1]; rfl), seq_nx (l1 := lf8 d fr rr nn tt ff (some (.int (i : Int))) (some L[i]) x5 (some (.ref S.length)) (some (.ref S1.length))) (S1 := S2) (by rw [x_setS, e2]; rfl)]
    simp [lf8, lstAt_of f2, x_ix, i1, i2, i3, t1, t2, t3, hee, sz, e3]
  · have g1 : Fr ff S S1 := by rw [← hS1]; exact Fr.app ff S _
    have g2 : Fr ff S1 S2 := by rw [← hS2]; exact Fr.app ff S1 _
    exact (g1.trans g2).trans (Fr.set S2 _)
theorem found_loop {d : D} {S0 : Store} (hL : OkL P L) (hz : L.length ≤ 1000) (h0 : Fd L fr rr tt os ts S0) (hff : S0.length ≤ ff) : ∀ (m i : Nat) (S : Store) (fs : List D) (x3 x4 x5 x9 x10 : Option D), i + m = L.length → Fr ff S0 S → S[ff]? = some (.lst fs) → fs.length = i →
    ∃ S' fs' y3 y4 y9 y10, forL (fun S' => lstAt S' fr = some L) (namesT [3, 4]) b_scopes_of_5 ((enumOf L).drop i) (lf8 d fr rr nn tt ff x3 x4 x5 x9 x10) S = .ok (.nx, lf8 d fr rr nn tt ff y3 y4 x5 y9 y10) S' ∧ S'[ff]? = some (.lst fs') ∧ fs'.length = L.length
  | 0, i, S, fs, x3, x4, x5, x9, x10, hm, hf, hk, hl => by
    have e : (enumOf L).drop i = [] := List.drop_eq_nil_of_le (by rw [enum_len]; omega)
    refine ⟨S, fs, x3, x4, x9, x10, ?_, hk, by omega⟩
    rw [e]
    exact forL_nil (lstAt_of (h0.kept hff hf).f)
  | m + 1, i, S, fs, x3, x4, x5, x9, x10, hm, hf, hk, hl => by
    have hi : i < L.length := by omega
    have h := h0.kept hff hf
    obtain ⟨S1, e, y9, y10, e1, f1, k1⟩ := found_body (d := d) (nn := nn) hL hz hi h hk (by omega) x5 x9 x10
    obtain ⟨S', fs', y3, y4, z9, z10, g1, g2⟩ := found_loop (d := d) hL hz h0 hff m (i + 1) S1 (fs ++ [e]) (some (.int (i : Int))) (some L[i]) x5 y9 y10 (by omega) (hf.trans f1) k1 (by rw [List.length_append, hl]; rfl)
    refine ⟨S', fs', y3, y4, z9, z10, ?_, g2⟩
    have et : ∀ S, namesT [3, 4] (.tup [.int (i : Int), L[i]]) (lf8 d fr rr nn tt ff x3 x4 x5 x9 x10) S = .ok (lf8 d fr rr nn tt ff (some (.int (i : Int))) (some L[i]) x5 x9 x10) S := fun S => rfl
    rw [enum_drop hi, forL_cons (lstAt_of h.f), et, R.bind_ok, e1, R.bind_ok]
    exact g1
end
end K09

set_option Elab.async false
set_option linter.all false
set_option maxRecDepth 100000
set_option autoImplicit false
set_option maxHeartbeats 1000000
namespace K09
open PySem PySem.Spec L2 ML
theorem seq_rt {a b : MS} {l l1 : ML.Loc} {S S1 : Store} {d : D} (h : a l S = .ok (.rt d, l1) S1) : seqS a b l S = .ok (.rt d, l1) S1 := by
  rw [x_seqS, h]; rfl
theorem fn_rt {n : Nat} {m : MS} {ds : List D} {l1 : ML.Loc} {S S1 : Store} {d : D} (h : m (startL n ds) S = .ok (.rt d, l1) S1) : bodyF n m ds S = .ok d S1 := by
  rw [x_bodyF, h]; rfl
theorem fn_ex {n : Nat} {m : MS} {ds : List D} {S S1 : Store} {x : Exn} (h : m (startL n ds) S = .ex x S1) : bodyF n m ds S = .ex x S1 := by
  rw [x_bodyF, h]; rfl
theorem for_nx {src : ML.Loc → Store → R Sn} {t : MT} {b : MS} {l l1 : ML.Loc} {S S1 : Store} {xs : List D} {chk : Store → Prop} (h : src l S = .ok (xs, chk) S) (h1 : forL chk t b xs l S = .ok (.nx, l1) S1) : forS src t b l S = .ok (.nx, l1) S1 := by
  rw [x_forS, h]; exact h1
theorem for_ex {src : ML.Loc → Store → R Sn} {t : MT} {b : MS} {l : ML.Loc} {S S1 : Store} {xs : List D} {chk : Store → Prop} {x : Exn} (h : src l S = .ok (xs, chk) S) (h1 : forL chk t b xs l S = .ex x S1) : forS src t b l S = .ex x S1 := by
  rw [x_forS, h]; exact h1
section
variable {zs : List Str} {L : List D}
/-- what follows the first loop -/
theorem scopes_rest {d : D} {fr rr : Nat} {S3 : Store} {os : List D} (hz : Names zs) (hL : OkL (InZ zs) L) (hl : L.length ≤ 300) (h1 : 1 ≤ L.length) (hf : S3[fr]? = some (.lst L)) (ho : S3[rr]? = some (.lst os)) (hos : OwnsOk rr S3 os L L.length) (x3 x4 x5 : Option D) :
    ∃ S' r l' fs, (seqS (setS 6 (allocE (compN (srcV (varE 1)) (.one 4) (yesM) needE))) (seqS (forS (srcRR (conE (.int 1)) (newL lenV (consA (varE 1) (nilA)))) (nameT 3) (b_scopes_of_2)) (seqS (setS 7 (allocE (lstN (nilA)))) (seqS (forS (srcR1 (consA (newL lenV (consA (varE 1) (nilA))) (nilA))) (nameT 3) (b_scopes_of_4)) (seqS (setS 8 (allocE (lstN (nilA)))) (seqS (forS (srcE (consA (varE 1) (nilA))) (namesT [3, 4]) (b_scopes_of_5)) (retS (varE 8)))))))) (lc d fr rr x3 x4 x5) S3 = .ok (.rt (.ref r), l') S' ∧ S'[r]? = some (.lst fs) ∧ fs.length = L.length := by
  have w0 : Wd (InZ zs) L fr rr [] S3 := ⟨hf, ⟨os, ho, hos⟩, by simp, by simp, by simp⟩
  obtain ⟨X, as, c1, w1, l1⟩ := need_loop hL (by omega) (some d) (some (.ref fr)) (some (.ref rr)) x3 x5 none L [] S3 (fun e he => by
    obtain ⟨i, hi, e2⟩ := List.getElem_of_mem he
    exact (hL i e (by rw [← e2]; exact List.getElem?_eq_getElem hi)).1) w0 (by simp)
  rw [List.length_nil, Nat.zero_add] at l1
  obtain ⟨T, hT⟩ : ∃ T, S3 ++ X = T := ⟨_, rfl⟩
  rw [hT] at c1 w1
  obtain ⟨S4, hS4⟩ : ∃ S4, T ++ [Cell.lst (as.map .ref)] = S4 := ⟨_, rfl⟩
  have n4 : S4[T.length]? = some (.lst (as.map .ref)) := by rw [← hS4]; exact at_end
  have w4 : Wd (InZ zs) L fr rr as S4 := by rw [← hS4]; exact w1.app _
  have s1 : srcV (varE 1) (lc d fr rr x3 x4 x5) S3 = .ok (L, fun S' => lstAt S' fr = some L) S3 := by
    have := x_srcR hf
    simp [lc, this]
  have e1 : setS 6 (allocE (compN (srcV (varE 1)) (.one 4) (yesM) needE)) (lc d fr rr x3 x4 x5) S3 = .ok (.nx, lk d fr rr T.length x3 x4 x5) S4 := by
    rw [x_setS, x_allocE, x_compN, s1, R.bind_ok]
    show (((compL (fun S' => lstAt S' fr = some L) (.one 4) yesM needE [some d, some (.ref fr), some (.ref rr), x3, none, x5, none, none, none, none, none, none, none, none] L ([].map .ref) S3).noex.bind _).bind _) = _
    rw [c1, ← hS4]
    rfl
  obtain ⟨S5, y3, y5, e2, w5, n5⟩ := to_loop (d := d) hz hL l1 (L.length - 1) S4 x3 x4 x5 (by omega) w4 n4
  have s2 : srcRR (conE (.int 1)) (newL lenV (consA (varE 1) (nilA))) (lk d fr rr T.length x3 x4 x5) S4 = .ok (revFrom ((L.length - 1 : Nat) : Int) (L.length - 1), still) S4 := by
    have hlen : lenV [.ref fr] S4 = .ok (.int L.length) S4 := x_lenR (lstAt_of w4.f)
    have et : ((L.length : Int) - 1).toNat = L.length - 1 := by omega
    simp only [x_srcRR, x_con, R.bind_ok, x_newL, x_consA, x_nilA, lk, x_varS, x_var0, hlen]
    show (match some (1 : Int), some (L.length : Int) with
      | some a, some b => if -(2 ^ 62) ≤ a ∧ a < 2 ^ 62 ∧ -(2 ^ 62) ≤ b ∧ b < 2 ^ 62 then R.ok (revFrom (a + (((b - a).toNat : Nat) : Int) - 1) (b - a).toNat, still) S4 else .bad
      | _, _ => .bad) = _
    simp only [et]
    rw [if_pos ⟨by omega, by omega, by omega, by omega⟩]
    congr 3
    omega
  obtain ⟨S6, hS6⟩ : ∃ S6, S5 ++ [Cell.lst []] = S6 := ⟨_, rfl⟩
  have k6 : S6[S5.length]? = some (.lst []) := by rw [← hS6]; exact at_end
  have f6 : Fr S5.length S5 S6 := by rw [← hS6]; exact Fr.app _ S5 _
  have e3 : setS 7 (allocE (lstN (nilA))) (lk d fr rr T.length y3 x4 y5) S5 = .ok (.nx, lt5 d fr rr T.length S5.length y3 x4 y5) S6 := by
    rw [← hS6]
    simp [lk, lt5, newC]
  obtain ⟨S7, ts, z3, e4, f7, t7, l7⟩ := tak_loop (d := d) (tt := S5.length) hz l1 (by omega) w5 n5 (Nat.le_refl _) L.length 0 S6 [] y3 x4 y5 (by omega) f6 ⟨k6, by simp⟩ rfl
  have w6 := w5.kept (Nat.le_refl _) f6
  have s3 : srcR1 (consA (newL lenV (consA (varE 1) (nilA))) (nilA)) (lt5 d fr rr T.length S5.length y3 x4 y5) S6 = .ok (intsD (List.range' 0 L.length), still) S6 := by
    have hlen : lenV [.ref fr] S6 = .ok (.int L.length) S6 := x_lenR (lstAt_of w6.f)
    have hr : rng1 [.int (L.length : Int)] S6 = .ok (intsD (List.range' 0 L.length), still) S6 := by
      rw [x_rng1 (by omega) (by omega), ← List.range_eq_range', ← rng_ints, Int.toNat_natCast]
    simp [lt5, hlen, hr]
  have w7 := w5.kept (Nat.le_refl _) f7
  obtain ⟨os7, o7, oo7⟩ := w7.o
  have fd7 : Fd L fr rr S5.length os7 ts S7 := ⟨w7.f, o7, oo7, t7, l7⟩
  obtain ⟨S8, hS8⟩ : ∃ S8, S7 ++ [Cell.lst []] = S8 := ⟨_, rfl⟩
  have k8 : S8[S7.length]? = some (.lst []) := by rw [← hS8]; exact at_end
  have f8 : Fr S7.length S7 S8 := by rw [← hS8]; exact Fr.app _ S7 _
  have e5 : setS 8 (allocE (lstN (nilA))) (lt5 d fr rr T.length S5.length z3 x4 y5) S7 = .ok (.nx, lf8 d fr rr T.length S5.length S7.length z3 x4 y5 none none) S8 := by
    rw [← hS8]
    simp [lt5, lf8, newC]
  obtain ⟨S9, fs, v3, v4, v9, v10, e6, k9, l9⟩ := found_loop (d := d) (nn := T.length) hL (by omega) fd7 (Nat.le_refl _) L.length 0 S8 [] z3 x4 y5 none none (by omega) f8 k8 rfl
  rw [List.drop_zero] at e6
  have s4 : srcE (consA (varE 1) (nilA)) (lf8 d fr rr T.length S5.length S7.length z3 x4 y5 none none) S8 = .ok (enumOf L, fun S' => lstAt S' fr = some L) S8 := by
    have := x_enumD (lstAt_of (fd7.kept (Nat.le_refl _) f8).f)
    rw [x_srcE]
    simp [lf8, this]
  refine ⟨S9, S7.length, lf8 d fr rr T.length S5.length S7.length v3 v4 y5 v9 v10, fs, ?_, k9, l9⟩
  rw [seq_nx e1, seq_nx (for_nx s2 e2), seq_nx e3, seq_nx (for_nx s3 e4), seq_nx e5, seq_nx (for_nx s4 e6)]
  simp [lf8]
theorem scopes_eq {d : D} (h : Main (InZ zs) d) (hz : Names zs) (S : Store) : ∃ S', (match fb (all d) 0 (all d).length with
    | none => ∃ r fs, F_scopes_of [d] S = .ok (.ref r) S' ∧ S'[r]? = some (.lst fs) ∧ fs.length = (all d).length
    | some z => F_scopes_of [d] S = .ex (bn z) S') := by
  have hL := h.okL
  obtain ⟨_, _, _, _, _, _, hl, _⟩ := h.law_all S
  have h1 : 1 ≤ (all d).length := by
    obtain ⟨new, e, _⟩ := h.all_eq
    rw [e, List.length_cons]
    omega
  obtain ⟨S1, fr, e1, k1, _, _⟩ := h.functions S
  generalize all d = L at hL hl h1 k1 ⊢
  obtain ⟨S2, hS2⟩ : ∃ S2, S1 ++ [Cell.lst []] = S2 := ⟨_, rfl⟩
  have k2 : S2[S1.length]? = some (.lst []) := by rw [← hS2]; exact at_end
  have f2 : S2[fr]? = some (.lst L) := by rw [← hS2]; exact at_app k1
  have hne : fr ≠ S1.length := by have := lt_of_at k1; omega
  have q1 : setS 1 (callE 1 F_functions_of (consA (varE 0) (nilA))) (startL N_scopes_of.length [d]) S = .ok (.nx, [some d, some (.ref fr), none, none, none, none, none, none, none, none, none, none, none, none]) S1 := by
    simp [startL, N_scopes_of, e1]
  have q2 : setS 2 (allocE (lstN (nilA))) [some d, some (.ref fr), none, none, none, none, none, none, none, none, none, none, none, none] S1 = .ok (.nx, lc d fr S1.length none none none) S2 := by
    rw [← hS2]
    simp [lc, newC]
  have q3 : srcE (consA (varE 1) (nilA)) (lc d fr S1.length none none none) S2 = .ok (enumOf L, fun S' => lstAt S' fr = some L) S2 := by
    have := x_enumD (lstAt_of f2)
    rw [x_srcE]
    simp [lc, this]
  obtain ⟨S3, y3, y4, y5, os, f3, hm⟩ := scope_loop (d := d) hne hL (by omega) L.length 0 [] S2 none none none (by omega) f2 k2 ⟨rfl, fun j e hj => by omega⟩
  rw [List.drop_zero] at hm
  cases c : fb L 0 L.length with
  | none =>
    rw [c] at hm
    obtain ⟨e3, o3, oo3⟩ := hm
    obtain ⟨S', r, l', fs, e4, k4, l4⟩ := scopes_rest (d := d) hz hL hl h1 (f3.2 fr _ f2 hne) o3 oo3 y3 y4 y5
    refine ⟨S', r, fs, ?_, k4, l4⟩
    refine fn_rt (m := m_scopes_of) (l1 := l') ?_
    show seqS _ _ _ _ = _
    rw [seq_nx q1, seq_nx q2, seq_nx (for_nx q3 e3)]
    exact e4
  | some z =>
    rw [c] at hm
    refine ⟨S3, ?_⟩
    refine fn_ex (m := m_scopes_of) ?_
    show seqS _ _ _ _ = _
    rw [seq_nx q1, seq_nx q2, seq_ex (for_ex q3 hm)]
end
end K09

set_option Elab.async false
set_option linter.all false
set_option maxRecDepth 100000
set_option autoImplicit false
set_option maxHeartbeats 1000000
namespace K09
open PySem PySem.Spec L2 ML
variable {P : Str → Prop}
/-! ### the law's own first wrong name -/
theorem br_in : ∀ (n : Nat) (hd : Bool) (p : Nat) (bs : List D), Bd P n hd p bs → ∀ z ∈ brF n bs, NmOk z
  | 0, hd, p, bs, h => by simp [brF]
  | n + 1, hd, p, bs, h => by
    rw [brF]
    intro z hz
    obtain ⟨k, hk, hz⟩ := List.mem_flatMap.mp hz
    obtain ⟨p', hs⟩ := h.all k hk
    cases hs with
    | lets b x a pz c => cases b <;> simp [brS, ofS_eq] at hz; subst hz; exact a
    | fault x a b c => simp [brS, ofS_eq] at hz
    | hand a =>
      obtain ⟨x, r, rfl⟩ := a.form
      simp [brS] at hz
    | does b a =>
      obtain ⟨x, r, rfl⟩ := a.form
      simp [brS] at hz
    | @whl n p q h t bs a b c =>
      obtain ⟨x, r, rfl⟩ := a.form
      simp only [brS] at hz
      exact br_in n _ _ _ c z hz
    | @ifs n p q r h t bs es a b c d e =>
      obtain ⟨x, r, rfl⟩ := a.form
      simp only [brS, List.mem_append] at hz
      rcases hz with hz | hz
      · exact br_in n _ _ _ c z hz
      · exact br_in n _ _ _ e z hz
    | trys y x a b c d e f g i =>
      simp only [brS, List.mem_append, List.mem_singleton] at hz
      rcases hz with ((hz | hz) | hz) | hz
      · exact br_in n _ _ _ d z hz
      · subst hz; exact b
      · exact br_in n _ _ _ f z hz
      · exact br_in n _ _ _ i z hz
theorem EntOk.own_in {e : D} (h : EntOk P e) : ∀ z ∈ ownE e, NmOk z := by
  obtain ⟨z, ps, bs, o, hd, p, rfl, h1, h2, h3, h4, h5⟩ := h.ex
  intro x hx
  have e1 : ownE (.tup [.str z, .tup (ps.map .str), .tup bs, o]) = ps ++ brF 10 bs := by
    show (ps.map D.str).filterMap strOf ++ brF 10 bs = _
    rw [strs_of]
  rw [e1] at hx
  rcases List.mem_append.mp hx with hx | hx
  · exact h2 x hx
  · exact br_in 10 _ _ _ h3 x hx
theorem NmOk.lay {z : Str} (h : NmOk z) : (PyData.str z).canLay0 = true := by
  rw [← mkS_cs z]
  exact lay_str fun c hc => by have := h.2.2 c hc; omega
theorem lay_all : ∀ {xs : List Str}, (∀ z ∈ xs, NmOk z) → PyData.canLayAll0 (xs.map PyData.str) = true
  | [], _ => rfl
  | z :: xs, h => by
    rw [List.map_cons, PyData.canLayAll0, (h z List.mem_cons_self).lay, lay_all fun v hv => h v (List.mem_cons_of_mem _ hv)]
    rfl
theorem ne_nil {S : Store} {a b : Nat} {xs : List Str} (h : S[a]? = some (.lst (xs.map .str))) (hb : S[b]? = some (.lst [])) (hx : ∀ z ∈ xs, NmOk z) : neD (.ref a) (.ref b) S = .ok (!xs.isEmpty) S := by
  have t1 : toPy S 64 (.ref a) = some (.list (xs.map PyData.str)) := by
    rw [toPy_ref h, mapO_some (f := toPy S 63) (g := D.str) (h := PyData.str) (fun z => toPy_str S 63 z)]
    rfl
  have t2 : toPy S 64 (.ref b) = some (.list []) := by
    rw [toPy_ref hb]
    rfl
  rw [neD_of t1 t2 (by rw [PyData.canLay0]; exact lay_all hx) rfl, PyData.eqv, eqvAll_nil]
  cases xs <;> rfl
def tws : List Str → List Str → List Str
  | _, [] => []
  | seen, x :: r => if x ∈ seen then x :: tws (seen ++ [x]) r else tws (seen ++ [x]) r
theorem tws_head : ∀ (r seen : List Str), (tws seen r).head? = dup seen r
  | [], _ => rfl
  | x :: r, seen => by
    rw [tws, dup]
    by_cases c : x ∈ seen
    · rw [if_pos c, if_pos c]; rfl
    · rw [if_neg c, if_neg c]
      exact tws_head r _
theorem tws_in : ∀ (r seen : List Str), ∀ z ∈ tws seen r, z ∈ r
  | [], _, z, h => by simp [tws] at h
  | x :: r, seen, z, h => by
    rw [tws] at h
    split at h
    · rcases List.mem_cons.mp h with h | h
      · exact List.mem_cons.mpr (.inl h)
      · exact List.mem_cons_of_mem _ (tws_in r _ z h)
    · exact List.mem_cons_of_mem _ (tws_in r _ z h)
theorem tws_len : ∀ (r seen : List Str), (tws seen r).length ≤ r.length
  | [], _ => by simp [tws]
  | x :: r, seen => by
    have := tws_len r (seen ++ [x])
    rw [tws]
    split
    · rw [List.length_cons, List.length_cons]; omega
    · rw [List.length_cons]; omega
theorem twice_loop {a : Nat} {x0 x1 x3 x4 x6 : Option D} : ∀ (rest seen acc : List Str) (S : Store), S[a]? = some (.lst ((seen ++ rest).map .str)) → acc.length + rest.length ≤ 10000 →
    ∃ X, compL still (.one 5) (cmpM inD (binE ixD (varE 2) (varE 5)) (sliceE (varE 2) (noO) (someO (varE 5)))) (binE ixD (varE 2) (varE 5)) [x0, x1, some (.ref a), x3, x4, none, x6] (intsD (List.range' seen.length rest.length)) (acc.map .str) S = .ok ((acc ++ tws seen rest).map .str) (S ++ X)
  | [], seen, acc, S, ha, hz => ⟨[], by
    have e : intsD (List.range' seen.length ([] : List Str).length) = [] := rfl
    rw [e, compL_nil trivial]
    simp [tws]⟩
  | x :: rest, seen, acc, S, ha, hz => by
    rw [List.length_cons] at hz
    have e : intsD (List.range' seen.length (x :: rest).length) = .int (seen.length : Int) :: intsD (List.range' (seen.length + 1) rest.length) := rfl
    have hat : ∀ {S : Store}, S[a]? = some (.lst ((seen ++ x :: rest).map .str)) → ixO S (.ref a) (.int (seen.length : Int)) = some (.str x) := fun {S} h => by
      rw [x_ixR (lstAt_of h), L2.atI_nat (v := .str x) (by rw [List.getElem?_map, List.getElem?_append_right (Nat.le_refl _), Nat.sub_self]; rfl)]
    have et : ((seen ++ x :: rest).map D.str).take seen.length = seen.map D.str := by
      rw [List.map_append, List.take_left' (by rw [List.length_map])]
    have es := x_slR (k := seen.length) (lstAt_of ha)
    rw [et] at es
    obtain ⟨T, hT⟩ : ∃ T, S ++ [Cell.lst (seen.map .str)] = T := ⟨_, rfl⟩
    rw [hT] at es
    have kT : T[S.length]? = some (.lst (seen.map .str)) := by rw [← hT]; exact at_end
    have aT : T[a]? = some (.lst ((seen ++ x :: rest).map .str)) := by rw [← hT]; exact at_app ha
    have ei := in_list kT x
    have e1 : cmpM inD (binE ixD (varE 2) (varE 5)) (sliceE (varE 2) (noO) (someO (varE 5))) [x0, x1, some (.ref a), x3, x4, some (.int (seen.length : Int)), x6] S = .ok (decide (x ∈ seen)) T := by
      simp [x_ix, hat ha, es, ei]
    have e2 : binE ixD (varE 2) (varE 5) [x0, x1, some (.ref a), x3, x4, some (.int (seen.length : Int)), x6] T = .ok (.str x) T := by
      simp [x_ix, hat aT]
    rw [e, compL_cons trivial]
    show ∃ X, ((cmpM inD (binE ixD (varE 2) (varE 5)) (sliceE (varE 2) (noO) (someO (varE 5))) [x0, x1, some (.ref a), x3, x4, some (.int (seen.length : Int)), x6] S).bind fun b S1 => if b = true then (binE ixD (varE 2) (varE 5) [x0, x1, some (.ref a), x3, x4, some (.int (seen.length : Int)), x6] S1).bind _ else _) = _
    rw [e1, R.bind_ok]
    have aT' : T[a]? = some (.lst (((seen ++ [x]) ++ rest).map .str)) := by rw [aT]; simp
    have ln : seen.length + 1 = (seen ++ [x]).length := by simp
    by_cases c : x ∈ seen
    · obtain ⟨X, ih⟩ := twice_loop (x0 := x0) (x1 := x1) (x3 := x3) (x4 := x4) (x6 := x6) rest (seen ++ [x]) (acc ++ [x]) T aT' (by rw [List.length_append, List.length_singleton]; omega)
      refine ⟨[Cell.lst (seen.map .str)] ++ X, ?_⟩
      rw [decide_eq_true c, if_pos rfl, e2, R.bind_ok, if_pos (by rw [sz, List.length_map]; omega), tws, if_pos c, ← List.append_assoc, hT, ln]
      have ea : acc.map D.str ++ [.str x] = (acc ++ [x]).map D.str := by simp
      rw [ea, ih]
      simp
    · obtain ⟨X, ih⟩ := twice_loop (x0 := x0) (x1 := x1) (x3 := x3) (x4 := x4) (x6 := x6) rest (seen ++ [x]) acc T aT' (by omega)
      refine ⟨[Cell.lst (seen.map .str)] ++ X, ?_⟩
      rw [decide_eq_false c, if_neg (by simp), tws, if_neg c, ← List.append_assoc, hT, ln]
      exact ih
end K09

set_option Elab.async false
set_option linter.all false
set_option maxRecDepth 100000
set_option autoImplicit false
set_option maxHeartbeats 1000000
namespace K09
open PySem PySem.Spec L2 ML
variable {P : Str → Prop}
section
variable {L rs : List D} {lr i : Nat}
def lostL (L : List D) (i : Nat) : List Str := match L[i]? with
  | none => []
  | some e => (useE e).filter fun z => !rdF L z L.length i
theorem bad_eq {e : D} (he : L[i]? = some e) : bad L i = (tws [] (ownE e) ++ lostL L i).head? := by
  unfold bad lostL
  simp only [he]
  rw [List.head?_append, tws_head, List.head?_filter]
  cases dup [] (ownE e) <;> rfl
def lw (lr i : Nat) (x2 x3 x4 x5 x6 : Option D) : ML.Loc := [some (.ref lr), some (.int (i : Int)), x2, x3, x4, x5, x6]
theorem wn_body {S : Store} (hL : OkL P L) (hP : ∀ z, P z → NmOk z) (hz : L.length ≤ 1000) (hi : i < L.length) (hf : S[lr]? = some (.lst rs)) (hr : LRows lr S rs L) (x2 x3 x4 x5 x6 : Option D) :
    ∃ X y2 y3 y4, b__law_wrong_name_0 (lw lr i x2 x3 x4 x5 x6) S = (match bad L i with
      | none => .ok (.nx, lw lr i y2 y3 y4 x5 x6) (S ++ X)
      | some z => .ok (.rt (.str z), lw lr i y2 y3 y4 x5 x6) (S ++ X)) := by
  have he : L[i]? = some L[i] := List.getElem?_eq_getElem hi
  obtain ⟨hE, _⟩ := hL i _ he
  obtain ⟨r, hr1, a, b, rfl, ha, hb, hn, hu⟩ := hr.2 i _ he
  rw [bad_eq he]
  have i1 : ∀ {T : Store}, T[lr]? = some (.lst rs) → ixO T (.ref lr) (.int (i : Int)) = some (.tup [kindE L[i], .ref a, .ref b, outE L[i]]) := fun {T} h => by rw [x_ixR (lstAt_of h), L2.atI_nat hr1]
  have ol := hE.own
  have ul := hE.use
  have e1 : setS 2 (binE ixD (binE ixD (varE 0) (varE 1)) (conE (.int 1))) (lw lr i x2 x3 x4 x5 x6) S = .ok (.nx, lw lr i (some (.ref a)) x3 x4 x5 x6) S := by
    simp [lw, x_ix, i1 hf, at1]
  obtain ⟨X, e2⟩ := twice_loop (a := a) (x0 := some (.ref lr)) (x1 := some (.int (i : Int))) (x3 := x3) (x4 := x4) (x6 := x6) (ownE L[i]) [] [] S (by simpa using hn) (by rw [List.length_nil]; omega)
  obtain ⟨S0, hS0⟩ : ∃ S0, S ++ X = S0 := ⟨_, rfl⟩
  rw [hS0] at e2
  obtain ⟨S1, hS1⟩ : ∃ S1, S0 ++ [Cell.lst ((tws [] (ownE L[i])).map .str)] = S1 := ⟨_, rfl⟩
  have k1 : S1[S0.length]? = some (.lst ((tws [] (ownE L[i])).map .str)) := by rw [← hS1]; exact at_end
  have s2 : srcR1 (consA (newL lenV (consA (varE 2) (nilA))) (nilA)) (lw lr i (some (.ref a)) x3 x4 x5 x6) S = .ok (intsD (List.range' 0 (ownE L[i]).length), still) S := by
    have hl : lenV [.ref a] S = .ok (.int (ownE L[i]).length) S := by rw [x_lenR (lstAt_of hn), List.length_map]
    have hr : rng1 [.int ((ownE L[i]).length : Int)] S = .ok (intsD (List.range' 0 (ownE L[i]).length), still) S := by
      rw [x_rng1 (by omega) (by omega), ← List.range_eq_range', ← rng_ints, Int.toNat_natCast]
    simp [lw, hl, hr]
  have e3 : setS 3 (allocE (compN (srcR1 (consA (newL lenV (consA (varE 2) (nilA))) (nilA))) (.one 5) (cmpM inD (binE ixD (varE 2) (varE 5)) (sliceE (varE 2) (noO) (someO (varE 5)))) (binE ixD (varE 2) (varE 5)))) (lw lr i (some (.ref a)) x3 x4 x5 x6) S = .ok (.nx, lw lr i (some (.ref a)) (some (.ref S0.length)) x4 x5 x6) S1 := by
    rw [x_setS, x_allocE, x_compN, s2, R.bind_ok]
    show (((compL still (.one 5) (cmpM inD (binE ixD (varE 2) (varE 5)) (sliceE (varE 2) (noO) (someO (varE 5)))) (binE ixD (varE 2) (varE 5)) [some (.ref lr), some (.int (i : Int)), some (.ref a), x3, x4, none, x6] (intsD (List.range' ([] : List Str).length (ownE L[i]).length)) (([] : List Str).map .str) S).noex.bind _).bind _) = _
    rw [e2, ← hS1]
    rfl
  have g1 : ∀ {n : Nat} {c : Cell}, S[n]? = some c → S1[n]? = some c := fun {n c} h => by rw [← hS1, ← hS0]; exact at_app (at_app h)
  have f1 := g1 hf
  have u1 := g1 hu
  have r1 : LRows lr S1 rs L := hr.fr ⟨by rw [← hS1, ← hS0]; simp, fun n c h _ => g1 h⟩
  have el : lostL L i = (useE L[i]).filter fun z => !rdF L z L.length i := by
    unfold lostL
    simp only [he]
  have e4 : compL (fun S' => lstAt S' b = some ((useE L[i]).map .str)) (.one 6) (cmpM isD (callE 3 F__law_holder (consA (varE 0) (consA (varE 1) (consA (varE 6) (nilA))))) (conE .non)) (varE 6) [some (.ref lr), some (.int (i : Int)), some (.ref a), some (.ref S0.length), x4, x5, none] ((useE L[i]).map .str) [] S1 = .ok ((lostL L i).map .str) S1 := by
    rw [el]
    refine compL_filG D.str (fun z => !rdF L z L.length i) D.str (useE L[i]) (fun z hz' => ?_) (fun z _ _ => by simp) (by rw [sz]; omega) (lstAt_of u1)
    obtain ⟨dd, h1, h2⟩ := hold_eq (z := z) hL hz f1 r1 hi
    simp [h1, h2]
  obtain ⟨S2, hS2⟩ : ∃ S2, S1 ++ [Cell.lst ((lostL L i).map .str)] = S2 := ⟨_, rfl⟩
  have k2 : S2[S1.length]? = some (.lst ((lostL L i).map .str)) := by rw [← hS2]; exact at_end
  have k12 : S2[S0.length]? = some (.lst ((tws [] (ownE L[i])).map .str)) := by rw [← hS2]; exact at_app k1
  have e5 : setS 4 (allocE (compN (srcV (binE ixD (binE ixD (varE 0) (varE 1)) (conE (.int 2)))) (.one 6) (cmpM isD (callE 3 F__law_holder (consA (varE 0) (consA (varE 1) (consA (varE 6) (nilA))))) (conE .non)) (varE 6))) (lw lr i (some (.ref a)) (some (.ref S0.length)) x4 x5 x6) S1 = .ok (.nx, lw lr i (some (.ref a)) (some (.ref S0.length)) (some (.ref S1.length)) x5 x6) S2 := by
    have s3 : srcV (binE ixD (binE ixD (varE 0) (varE 1)) (conE (.int 2))) (lw lr i (some (.ref a)) (some (.ref S0.length)) x4 x5 x6) S1 = .ok ((useE L[i]).map .str, fun S' => lstAt S' b = some ((useE L[i]).map .str)) S1 := by
      have := x_srcR u1
      simp [lw, x_ix, i1 f1, at2, this]
    rw [x_setS, x_allocE, x_compN, s3, R.bind_ok]
    show (((compL (fun S' => lstAt S' b = some ((useE L[i]).map .str)) (.one 6) (cmpM isD (callE 3 F__law_holder (consA (varE 0) (consA (varE 1) (consA (varE 6) (nilA))))) (conE .non)) (varE 6) [some (.ref lr), some (.int (i : Int)), some (.ref a), some (.ref S0.length), x4, x5, none] ((useE L[i]).map .str) [] S1).noex.bind _).bind _) = _
    rw [e4, ← hS2]
    rfl
  have ll : (lostL L i).length ≤ 300 := by rw [el]; exact Nat.le_trans (List.length_filter_le _ _) ul.1
  have tl := tws_len (ownE L[i]) []
  have in1 : ∀ z ∈ tws [] (ownE L[i]) ++ lostL L i, NmOk z := fun z hz' => by
    rcases List.mem_append.mp hz' with h | h
    · exact hE.own_in z (tws_in _ _ z h)
    · rw [el] at h
      exact hP z (ul.2 z (List.mem_filter.mp h).1)
  have a1 := x_addR k12 k2 (by rw [List.length_map, List.length_map]; omega)
  rw [← List.map_append] at a1
  obtain ⟨bs, hbs⟩ : ∃ bs, tws [] (ownE L[i]) ++ lostL L i = bs := ⟨_, rfl⟩
  rw [hbs] at a1 in1 ⊢
  obtain ⟨S3, hS3⟩ : ∃ S3, S2 ++ [Cell.lst (bs.map .str)] = S3 := ⟨_, rfl⟩
  rw [hS3] at a1
  have k3 : S3[S2.length]? = some (.lst (bs.map .str)) := by rw [← hS3]; exact at_end
  obtain ⟨S4, hS4⟩ : ∃ S4, S3 ++ [Cell.lst []] = S4 := ⟨_, rfl⟩
  have k4 : S4[S3.length]? = some (.lst []) := by rw [← hS4]; exact at_end
  have k34 : S4[S2.length]? = some (.lst (bs.map .str)) := by rw [← hS4]; exact at_app k3
  have nn := ne_nil k34 k4 in1
  have e6 : cmpM neD (binE addD (varE 3) (varE 4)) (allocE (lstN (nilA))) (lw lr i (some (.ref a)) (some (.ref S0.length)) (some (.ref S1.length)) x5 x6) S2 = .ok (!bs.isEmpty) S4 := by
    have : newC (.lst []) S3 = .ok (.ref S3.length) S4 := by rw [← hS4]; rfl
    simp [lw, a1, hS4, nn]
  have c1 : b__law_wrong_name_0 = seqS (setS 2 (binE ixD (binE ixD (varE 0) (varE 1)) (conE (.int 1)))) (seqS (setS 3 (allocE (compN (srcR1 (consA (newL lenV (consA (varE 2) (nilA))) (nilA))) (.one 5) (cmpM inD (binE ixD (varE 2) (varE 5)) (sliceE (varE 2) (noO) (someO (varE 5)))) (binE ixD (varE 2) (varE 5))))) (seqS (setS 4 (allocE (compN (srcV (binE ixD (binE ixD (varE 0) (varE 1)) (conE (.int 2)))) (.one 6) (cmpM isD (callE 3 F__law_holder (consA (varE 0) (consA (varE 1) (consA (varE 6) (nilA))))) (conE .non)) (varE 6)))) (ifS (cmpM neD (binE addD (varE 3) (varE 4)) (allocE (lstN (nilA)))) (retS (binE ixD (binE addD (varE 3) (varE 4)) (conE (.int 0)))) (nilS)))) := rfl
  have gS : ∃ Y, S4 = S ++ Y := ⟨X ++ [Cell.lst ((tws [] (ownE L[i])).map .str)] ++ [Cell.lst ((lostL L i).map .str)] ++ [Cell.lst (bs.map .str)] ++ [Cell.lst []], by
    rw [← hS4, ← hS3, ← hS2, ← hS1, ← hS0]; simp⟩
  rw [c1, seq_nx e1, seq_nx e3, seq_nx e5, x_ifS, e6, R.bind_ok]
  obtain ⟨Y, hY⟩ := gS
  cases bs with
  | nil =>
    refine ⟨Y, some (.ref a), some (.ref S0.length), some (.ref S1.length), ?_⟩
    rw [hY]
    rfl
  | cons z bs =>
    have k12' : S4[S0.length]? = some (.lst ((tws [] (ownE L[i])).map .str)) := by rw [← hS4, ← hS3]; exact at_app (at_app k12)
    have k2' : S4[S1.length]? = some (.lst ((lostL L i).map .str)) := by rw [← hS4, ← hS3]; exact at_app (at_app k2)
    have a2 := x_addR k12' k2' (by rw [List.length_map, List.length_map]; omega)
    rw [← List.map_append, hbs] at a2
    refine ⟨Y ++ [Cell.lst ((z :: bs).map .str)], some (.ref a), some (.ref S0.length), some (.ref S1.length), ?_⟩
    have k5 : (S4 ++ [Cell.lst ((z :: bs).map .str)])[S4.length]? = some (.lst ((z :: bs).map .str)) := at_end
    have i5 : ixO (S4 ++ [Cell.lst ((z :: bs).map .str)]) (.ref S4.length) (.int 0) = some (.str z) := by
      rw [x_ixR (lstAt_of k5)]
      exact at0 _ _
    obtain ⟨S5, hS5⟩ : ∃ S5, S4 ++ [Cell.lst ((z :: bs).map .str)] = S5 := ⟨_, rfl⟩
    rw [hS5] at a2 i5
    rw [← List.append_assoc, ← hY, hS5]
    simp [lw, a2, x_ix, i5]
theorem wn_loop (hL : OkL P L) (hP : ∀ z, P z → NmOk z) (hz : L.length ≤ 1000) : ∀ (m i : Nat) (S : Store) (x1 x2 x3 x4 x5 x6 : Option D), i + m = L.length → S[lr]? = some (.lst rs) → LRows lr S rs L →
    ∃ X l', forL still (nameT 1) b__law_wrong_name_0 (intsD (List.range' i m)) [some (.ref lr), x1, x2, x3, x4, x5, x6] S = (match fb L i m with
      | none => .ok (.nx, l') (S ++ X)
      | some z => .ok (.rt (.str z), l') (S ++ X))
  | 0, i, S, x1, x2, x3, x4, x5, x6, hm, hf, hr => ⟨[], [some (.ref lr), x1, x2, x3, x4, x5, x6], by
    have e : intsD (List.range' i 0) = [] := rfl
    rw [e, forL_nil trivial, List.append_nil]
    rfl⟩
  | m + 1, i, S, x1, x2, x3, x4, x5, x6, hm, hf, hr => by
    obtain ⟨X, y2, y3, y4, e1⟩ := wn_body hL hP hz (by omega : i < L.length) hf hr x2 x3 x4 x5 x6
    have er : intsD (List.range' i (m + 1)) = .int (i : Int) :: intsD (List.range' (i + 1) m) := rfl
    have en : ∀ S, nameT 1 (.int (i : Int)) [some (.ref lr), x1, x2, x3, x4, x5, x6] S = .ok (lw lr i x2 x3 x4 x5 x6) S := fun S => rfl
    rw [er, forL_cons trivial, en, R.bind_ok]
    cases c : bad L i with
    | some z =>
      rw [c] at e1
      have ef : fb L i (m + 1) = some z := by unfold fb; rw [c]
      refine ⟨X, lw lr i y2 y3 y4 x5 x6, ?_⟩
      rw [ef, e1]
      rfl
    | none =>
      rw [c] at e1
      have ef : fb L i (m + 1) = fb L (i + 1) m := by rw [fb, c]
      obtain ⟨Y, l', e2⟩ := wn_loop hL hP hz m (i + 1) (S ++ X) (some (.int (i : Int))) y2 y3 y4 x5 x6 (by omega) (at_app hf) (hr.fr (Fr.app _ S X))
      refine ⟨X ++ Y, l', ?_⟩
      rw [ef, e1, R.bind_ok, ← List.append_assoc]
      exact e2
def wrD (o : Option Str) : D := match o with
  | none => .non
  | some z => .str z
theorem wrong_eq {S : Store} (hL : OkL P L) (hP : ∀ z, P z → NmOk z) (hz : L.length ≤ 1000) (hf : S[lr]? = some (.lst rs)) (hr : LRows lr S rs L) :
    ∃ X, F__law_wrong_name [.ref lr] S = .ok (wrD (fb L 0 L.length)) (S ++ X) := by
  obtain ⟨X, l', e⟩ := wn_loop hL hP hz L.length 0 S none none none none none none (by omega) hf hr
  have s : srcR1 (consA (newL lenV (consA (varE 0) (nilA))) (nilA)) [some (.ref lr), none, none, none, none, none, none] S = .ok (intsD (List.range' 0 L.length), still) S := by
    have hl : lenV [.ref lr] S = .ok (.int L.length) S := by rw [x_lenR (lstAt_of hf), hr.1]
    have hr : rng1 [.int (L.length : Int)] S = .ok (intsD (List.range' 0 L.length), still) S := by
      rw [x_rng1 (by omega) (by omega), ← List.range_eq_range', ← rng_ints, Int.toNat_natCast]
    simp [hl, hr]
  refine ⟨X, ?_⟩
  have sl : startL N__law_wrong_name.length [.ref lr] = [some (.ref lr), none, none, none, none, none, none] := rfl
  have ef : forS (srcR1 (consA (newL lenV (consA (varE 0) (nilA))) (nilA))) (nameT 1) (b__law_wrong_name_0) [some (.ref lr), none, none, none, none, none, none] S = (match fb L 0 L.length with
    | none => .ok (.nx, l') (S ++ X)
    | some z => .ok (.rt (.str z), l') (S ++ X)) := by rw [x_forS, s, R.bind_ok]; exact e
  cases c : fb L 0 L.length with
  | none =>
    rw [c] at ef
    refine fn_rt (m := m__law_wrong_name) (l1 := l') ?_
    rw [sl]
    show seqS _ _ _ _ = _
    rw [seq_nx ef]
    rfl
  | some z =>
    rw [c] at ef
    refine fn_rt (m := m__law_wrong_name) (l1 := l') ?_
    rw [sl]
    show seqS _ _ _ _ = _
    rw [seq_rt ef]
    rfl
end
end K09

set_option Elab.async false
set_option linter.all false
set_option maxRecDepth 100000
set_option autoImplicit false
set_option maxHeartbeats 1000000
namespace K09
open PySem PySem.Spec L2 ML
variable {P : Str → Prop}
/-! ### the law's word of it -/
def dueD (o : Option Str) (n : Nat) : D := match o with
  | none => .tup [w "told", .int (n : Int)]
  | some z => .tup [w "name", .str z]
theorem fb_ok {L : List D} (hL : OkL P L) (hP : ∀ z, P z → NmOk z) : ∀ (m i : Nat) (z : Str), fb L i m = some z → NmOk z
  | 0, i, z, h => by cases h
  | m + 1, i, z, h => by
    cases c : bad L i with
    | none =>
      rw [fb, c] at h
      exact fb_ok hL hP m (i + 1) z h
    | some y =>
      rw [fb, c] at h
      cases h
      cases he : L[i]? with
      | none => unfold bad at c; simp only [he] at c; cases c
      | some e =>
        rw [bad_eq he] at c
        obtain ⟨hE, _⟩ := hL i e he
        have := List.mem_of_mem_head? (Option.mem_def.mpr c)
        rcases List.mem_append.mp this with q | q
        · exact hE.own_in z (tws_in _ _ z q)
        · unfold lostL at q
          simp only [he] at q
          exact hP z (hE.use.2 z (List.mem_filter.mp q).1)
theorem due_eq {o : Option Str} {n : Nat} (h : ∀ z, o = some z → NmOk z) (S : Store) : eqD (dueD o n) (dueD o n) S = .ok true S := by
  have lw' : ∀ s : String, s.toList.all (fun c => decide (c.toNat < 55296)) = true → (PyData.str (Str.ofString s)).canLay0 = true := fun s hs => by
    obtain ⟨py, a, b, _, _⟩ := PyOk.w s hs 3
    have := a [] 3 (by omega)
    rw [show w s = D.str (Str.ofString s) from rfl, toPy_str] at this
    cases this
    exact b
  cases o with
  | none =>
    have t : toPy S 64 (dueD none n) = some (.tuple [.str (Str.ofString "told"), .int (n : Int)]) := rfl
    have c : (PyData.tuple [.str (Str.ofString "told"), .int (n : Int)]).canLay0 = true := by
      simp only [PyData.canLay0, PyData.canLayAll0, Bool.and_true]
      exact lw' "told" (by decide)
    rw [eqD_of t t c c, eqv_self _ c]
  | some z =>
    have t : toPy S 64 (dueD (some z) n) = some (.tuple [.str (Str.ofString "name"), .str z]) := rfl
    have c : (PyData.tuple [.str (Str.ofString "name"), .str z]).canLay0 = true := by
      have h1 := lw' "name" (by decide)
      have h2 := (h z rfl).lay
      rw [PyData.canLay0, PyData.canLayAll0, PyData.canLayAll0, h1, h2]
      rfl
    rw [eqD_of t t c c, eqv_self _ c]
theorem said_eq {zs : List Str} {d : D} (h : Main (InZ zs) d) (hz : Names zs) (S : Store) : ∃ S', F__law_said [d] S = .ok (dueD (fb (all d) 0 (all d).length) (all d).length) S' := by
  obtain ⟨S1, hs⟩ := scopes_eq h hz S
  cases c : fb (all d) 0 (all d).length with
  | none =>
    rw [c] at hs
    obtain ⟨r, fs, e1, k1, l1⟩ := hs
    have hl : lenV [.ref r] S1 = .ok (.int ((all d).length : Int)) S1 := by rw [x_lenR (lstAt_of k1), l1]
    refine ⟨S1, fn_rt (m := m__law_said) (l1 := [some d, none, none]) ?_⟩
    refine catchF_ok ?_
    simp [startL, N__law_said, e1, hl, dueD, sz]
  | some z =>
    rw [c] at hs
    refine ⟨S1, fn_rt (m := m__law_said) (l1 := [some d, none, some (.bl false)]) ?_⟩
    have hb : retS (tupE (consA (conE (.str (Str.ofString "told"))) (consA (newL lenV (consA (callE 1 F_scopes_of (consA (varE 0) (nilA))) (nilA))) (nilA)))) (startL N__law_said.length [d]) S = .ex (bn z) S1 := by
      simp [startL, N__law_said, hs]
    refine catchF_ex hb rfl (by simp [bn]) (ks := [("name", .inr z)]) rfl fun a dd => ?_
    have k1 : kisY kis (bn z) [(.own 1), (.own 2), (.own 4)] = some false := rfl
    have k2 : kisY kis (bn z) [(.own 5), (.own 6)] = some false := rfl
    have k3 : kis (bn z).c (.own 3) = some true := rfl
    have k4 : kis (bn z).c (.ty "ValueError") = some true := rfl
    have k5 : xf (bn z).c "name" = true := rfl
    have lk : ([(("name" : Str), (Sum.inr z : Key))]).lookup ("name" : Str) = some (.inr z) := by simp [List.lookup]
    simp [startL, N__law_said, k1, k2, k3, k4, k5, isXF, xfE, lk, goneS, dueD, keyD, sz]
theorem Main.text {d : D} (h : Main P d) : ∃ t, ∀ S, strT [d] S = .ok (.str t) S := by
  obtain ⟨py, a, b, c, e⟩ := h.py
  obtain ⟨ps, bs, p, rfl, _⟩ := h
  refine ⟨PyData.shown py, fun S => ?_⟩
  have dp : py.depth ≤ 64 := toPy_dep 64 _ _ (a S 64 (by omega))
  unfold strT
  simp only [a S 64 (by omega)]
  rw [if_pos ⟨b, dp, c, by rw [sz]; omega⟩]
theorem most_eq (ns : List Int) : ∃ M : Int, 0 ≤ M ∧ M ≤ 40 ∧ binE ixD (allocE (lstN (consA (conE (.int 1)) (consA (conE (.int 3)) (consA (conE (.int 8)) (consA (conE (.int 20)) (nilA))))))) (binE modD (callE 2 F__law_cell_at (consA (varE 0) (consA (conE (.int 3)) (nilA)))) (conE (.int 4))) [some (.lis (ns.map D.int)), none, none, none, none, none, none] [] = .ok (.int M) [.lst [.int 1, .int 3, .int 8, .int 20]] := by
  obtain ⟨c, hc⟩ := cell_int ns 3 (by omega)
  obtain ⟨u, hu⟩ : ∃ u, c % 4 = u := ⟨_, rfl⟩
  have h0 : 0 ≤ u := by omega
  have h4 : u < 4 := by omega
  have e : ∀ v M : Int, u = v → ixO [.lst [.int 1, .int 3, .int 8, .int 20]] (.ref 0) (.int v) = some (.int M) → binE ixD (allocE (lstN (consA (conE (.int 1)) (consA (conE (.int 3)) (consA (conE (.int 8)) (consA (conE (.int 20)) (nilA))))))) (binE modD (callE 2 F__law_cell_at (consA (varE 0) (consA (conE (.int 3)) (nilA)))) (conE (.int 4))) [some (.lis (ns.map D.int)), none, none, none, none, none, none] [] = .ok (.int M) [.lst [.int 1, .int 3, .int 8, .int 20]] := fun v M hv hx => by
    subst hv
    subst hu
    simp [newC, hc, x_ix, hx, sz]
  rcases (by omega : u = 0 ∨ u = 1 ∨ u = 2 ∨ u = 3) with q | q | q | q
  · exact ⟨1, by omega, by omega, e _ _ q rfl⟩
  · exact ⟨3, by omega, by omega, e _ _ q rfl⟩
  · exact ⟨8, by omega, by omega, e _ _ q rfl⟩
  · exact ⟨20, by omega, by omega, e _ _ q rfl⟩
theorem law_true : ∀ ns : List Int, ns.length ≤ 63 → ∃ S', F_law [.lis (ns.map D.int)] [] = .ok (.bl true) S' := by
  intro ns _
  obtain ⟨M, hM0, hM, e0⟩ := most_eq ns
  obtain ⟨S1, d, zs, e1, hz, hm⟩ := program_eq ns hM0 hM [.lst [.int 1, .int 3, .int 8, .int 20]]
  obtain ⟨t, et⟩ := hm.text
  obtain ⟨S2, r, rs, e2, k2, r2, l2, _⟩ := hm.law_all S1
  have hP : ∀ z, InZ zs z → NmOk z := fun z h => hz.ok z h
  obtain ⟨X, e3⟩ := wrong_eq hm.okL hP (by omega) k2 r2
  obtain ⟨S3, hS3⟩ : ∃ S3, S2 ++ X = S3 := ⟨_, rfl⟩
  rw [hS3] at e3
  have k3 : S3[r]? = some (.lst rs) := by rw [← hS3]; exact at_app k2
  have hlen : lenV [.ref r] S3 = .ok (.int ((all d).length : Int)) S3 := by rw [x_lenR (lstAt_of k3), r2.1]
  obtain ⟨S4, e4⟩ := said_eq hm hz S3
  obtain ⟨S5, e5⟩ := said_eq hm hz S4
  have q1 := fun S => due_eq (o := fb (all d) 0 (all d).length) (n := (all d).length) (fun z h => fb_ok hm.okL hP _ _ z h) S
  have qt : eqD (.str t) (.str t) S5 = .ok true S5 := by simp
  obtain ⟨L1, hL1⟩ : ∃ L1 : ML.Loc, L1 = [some (.lis (ns.map D.int)), some (.int M), none, none, none, none, none] := ⟨_, rfl⟩
  have b1 : setS 1 (binE ixD (allocE (lstN (consA (conE (.int 1)) (consA (conE (.int 3)) (consA (conE (.int 8)) (consA (conE (.int 20)) (nilA))))))) (binE modD (callE 2 F__law_cell_at (consA (varE 0) (consA (conE (.int 3)) (nilA)))) (conE (.int 4)))) [some (.lis (ns.map D.int)), none, none, none, none, none, none] [] = .ok (.nx, L1) [.lst [.int 1, .int 3, .int 8, .int 20]] := by
    rw [x_setS, e0, hL1]
    rfl
  have b2 : setS 2 (callE 2 F__law_program (consA (varE 0) (consA (varE 1) (nilA)))) L1 [.lst [.int 1, .int 3, .int 8, .int 20]] = .ok (.nx, [some (.lis (ns.map D.int)), some (.int M), some d, none, none, none, none]) S1 := by
    rw [hL1]
    simp [e1]
  have b6 : ifE (cmpM isD (varE 5) (conE .non)) (tupE (consA (conE (.str (Str.ofString "told"))) (consA (newL lenV (consA (varE 4) (nilA))) (nilA)))) (tupE (consA (conE (.str (Str.ofString "name"))) (consA (varE 5) (nilA)))) [some (.lis (ns.map D.int)), some (.int M), some d, some (.str t), some (.ref r), some (wrD (fb (all d) 0 (all d).length)), none] S3 = .ok (dueD (fb (all d) 0 (all d).length) (all d).length) S3 := by
    cases fb (all d) 0 (all d).length with
    | none =>
      have i1 : isD .non .non S3 = .ok true S3 := rfl
      simp [wrD, i1, hlen, dueD, sz]
    | some z =>
      have i1 : isD (.str z) .non S3 = .ok false S3 := rfl
      simp [wrD, i1, dueD, sz]
  refine ⟨S5, fn_rt (m := m_law) (l1 := [some (.lis (ns.map D.int)), some (.int M), some d, some (.str t), some (.ref r), some (wrD (fb (all d) 0 (all d).length)), some (dueD (fb (all d) 0 (all d).length) (all d).length)]) ?_⟩
  have sl : startL N_law.length [.lis (ns.map D.int)] = [some (.lis (ns.map D.int)), none, none, none, none, none, none] := rfl
  rw [sl]
  show seqS _ _ _ _ = _
  rw [seq_nx b1, seq_nx b2]
  generalize (match fb (all d) 0 (all d).length with
      | none => D.non
      | some z => .str z) = wd at e3 b6 ⊢
  generalize dueD (fb (all d) 0 (all d).length) (all d).length = due at b6 e4 e5 q1 ⊢
  simp only [x_seqS, x_setS, x_newL, x_consA, x_nilA, x_varS, x_var0, R.bind_ok, et, List.set, x_then_nx, x_call, e2, e3, List.length_cons, List.length_nil, if_true, b6]
  simp [e4, e5, q1, et, qt]
end K09

set_option Elab.async false
set_option linter.all false
set_option maxRecDepth 100000
set_option autoImplicit false
set_option maxHeartbeats 4000000
namespace K09
open PySem PySem.Spec L2 ML
theorem all_mk {l : PySem.W.OpenLaw} {w : World} {K : PySem.W.Frag} {h : Heap} {mg : Str → Option Value} {fa : Addr} (X : K.In h) (G : h.Ns mainGlobals mg) (hfa : mg "law" = some (.ref fa))
    {C_BadName : Addr}
    {f1 : Addr} {od1 an1 : Option Addr} {sl1 : Array (Option Value)} {oc1 kV1 dc1 pm1 cd1 ct1 : Value}
    {f2 : Addr} {od2 an2 : Option Addr} {sl2 : Array (Option Value)} {oc2 kV2 dc2 pm2 cd2 ct2 : Value}
    {f3 : Addr} {od3 an3 : Option Addr} {sl3 : Array (Option Value)} {oc3 kV3 dc3 pm3 cd3 ct3 : Value}
    {f4 : Addr} {od4 an4 : Option Addr} {sl4 : Array (Option Value)} {oc4 kV4 dc4 pm4 cd4 ct4 : Value}
    {f5 : Addr} {od5 an5 : Option Addr} {sl5 : Array (Option Value)} {oc5 kV5 dc5 pm5 cd5 ct5 : Value}
    {f6 : Addr} {od6 an6 : Option Addr} {sl6 : Array (Option Value)} {oc6 kV6 dc6 pm6 cd6 ct6 : Value}
    {f7 : Addr} {od7 an7 : Option Addr} {sl7 : Array (Option Value)} {oc7 kV7 dc7 pm7 cd7 ct7 : Value}
    {f8 : Addr} {od8 an8 : Option Addr} {sl8 : Array (Option Value)} {oc8 kV8 dc8 pm8 cd8 ct8 : Value}
    {f9 : Addr} {od9 an9 : Option Addr} {sl9 : Array (Option Value)} {oc9 kV9 dc9 pm9 cd9 ct9 : Value}
    {f10 : Addr} {od10 an10 : Option Addr} {sl10 : Array (Option Value)} {oc10 kV10 dc10 pm10 cd10 ct10 : Value}
    {f11 : Addr} {od11 an11 : Option Addr} {sl11 : Array (Option Value)} {oc11 kV11 dc11 pm11 cd11 ct11 : Value}
    {f12 : Addr} {od12 an12 : Option Addr} {sl12 : Array (Option Value)} {oc12 kV12 dc12 pm12 cd12 ct12 : Value}
    {f13 : Addr} {od13 an13 : Option Addr} {sl13 : Array (Option Value)} {oc13 kV13 dc13 pm13 cd13 ct13 : Value}
    {f14 : Addr} {od14 an14 : Option Addr} {sl14 : Array (Option Value)} {oc14 kV14 dc14 pm14 cd14 ct14 : Value}
    {f15 : Addr} {od15 an15 : Option Addr} {sl15 : Array (Option Value)} {oc15 kV15 dc15 pm15 cd15 ct15 : Value}
    {f16 : Addr} {od16 an16 : Option Addr} {sl16 : Array (Option Value)} {oc16 kV16 dc16 pm16 cd16 ct16 : Value}
    {f17 : Addr} {od17 an17 : Option Addr} {sl17 : Array (Option Value)} {oc17 kV17 dc17 pm17 cd17 ct17 : Value}
    {f18 : Addr} {od18 an18 : Option Addr} {sl18 : Array (Option Value)} {oc18 kV18 dc18 pm18 cd18 ct18 : Value}
    {f19 : Addr} {od19 an19 : Option Addr} {sl19 : Array (Option Value)} {oc19 kV19 dc19 pm19 cd19 ct19 : Value}
    {f20 : Addr} {od20 an20 : Option Addr} {sl20 : Array (Option Value)} {oc20 kV20 dc20 pm20 cd20 ct20 : Value}
    {f21 : Addr} {od21 an21 : Option Addr} {sl21 : Array (Option Value)} {oc21 kV21 dc21 pm21 cd21 ct21 : Value}
    {f22 : Addr} {od22 an22 : Option Addr} {sl22 : Array (Option Value)} {oc22 kV22 dc22 pm22 cd22 ct22 : Value}
    {f23 : Addr} {od23 an23 : Option Addr} {sl23 : Array (Option Value)} {oc23 kV23 dc23 pm23 cd23 ct23 : Value}
    {f24 : Addr} {od24 an24 : Option Addr} {sl24 : Array (Option Value)} {oc24 kV24 dc24 pm24 cd24 ct24 : Value}
    {f25 : Addr} {od25 an25 : Option Addr} {sl25 : Array (Option Value)} {oc25 kV25 dc25 pm25 cd25 ct25 : Value}
    {f26 : Addr} {od26 an26 : Option Addr} {sl26 : Array (Option Value)} {oc26 kV26 dc26 pm26 cd26 ct26 : Value}
    {f27 : Addr} {od27 an27 : Option Addr} {sl27 : Array (Option Value)} {oc27 kV27 dc27 pm27 cd27 ct27 : Value}
    {f28 : Addr} {od28 an28 : Option Addr} {sl28 : Array (Option Value)} {oc28 kV28 dc28 pm28 cd28 ct28 : Value}
    {f29 : Addr} {od29 an29 : Option Addr} {sl29 : Array (Option Value)} {oc29 kV29 dc29 pm29 cd29 ct29 : Value}
    {f30 : Addr} {od30 an30 : Option Addr} {sl30 : Array (Option Value)} {oc30 kV30 dc30 pm30 cd30 ct30 : Value}
    {f31 : Addr} {od31 an31 : Option Addr} {sl31 : Array (Option Value)} {oc31 kV31 dc31 pm31 cd31 ct31 : Value}
    {f32 : Addr} {od32 an32 : Option Addr} {sl32 : Array (Option Value)} {oc32 kV32 dc32 pm32 cd32 ct32 : Value}
    {f33 : Addr} {od33 an33 : Option Addr} {sl33 : Array (Option Value)} {oc33 kV33 dc33 pm33 cd33 ct33 : Value}
    {f34 : Addr} {od34 an34 : Option Addr} {sl34 : Array (Option Value)} {oc34 kV34 dc34 pm34 cd34 ct34 : Value}
    {f35 : Addr} {od35 an35 : Option Addr} {sl35 : Array (Option Value)} {oc35 kV35 dc35 pm35 cd35 ct35 : Value}
    {f36 : Addr} {od36 an36 : Option Addr} {sl36 : Array (Option Value)} {oc36 kV36 dc36 pm36 cd36 ct36 : Value}
    {f37 : Addr} {od37 an37 : Option Addr} {sl37 : Array (Option Value)} {oc37 kV37 dc37 pm37 cd37 ct37 : Value}
    {f38 : Addr} {od38 an38 : Option Addr} {sl38 : Array (Option Value)} {oc38 kV38 dc38 pm38 cd38 ct38 : Value}
    {f39 : Addr} {od39 an39 : Option Addr} {sl39 : Array (Option Value)} {oc39 kV39 dc39 pm39 cd39 ct39 : Value}
    {f40 : Addr} {od40 an40 : Option Addr} {sl40 : Array (Option Value)} {oc40 kV40 dc40 pm40 cd40 ct40 : Value}
    {t_GREATEST : Tok}
    {t_MOST_DEPTH : Tok}
    {t_MOST_LETTERS : Tok}
    {t_MOST_NAMES : Tok}
    {t_MOST_PARTS : Tok}
    {t_MOST_STATEMENTS : Tok}
    {t_MOST_TERMS : Tok}
    {a_SIGNS : Addr} {n_SIGNS : Nat} {z_SIGNS : Array (Option Value)} {d_SIGNS : Option Addr} {t_SIGNS_0 : Tok} {t_SIGNS_1 : Tok} {t_SIGNS_2 : Tok} {t_SIGNS_3 : Tok} {t_SIGNS_4 : Tok}
    {C_BadTree : Addr}
    {C_LoomError : Addr}
    {C_BadCount : Addr}
    {C_BadText : Addr}
    {C_NoThing : Addr}
    {C_BadCode : Addr}
    (n_BadName : PySem.W.nsIn K mainGlobals "BadName" = some (some (.ref C_BadName)))
    (a1 : PySem.W.nsIn K mainGlobals "_law_brought" = some (some (.ref f1)))
    (l1 : K.lookup f1 = some ⟨oc1, od1, .func (PySem.W.fnOf "_law_brought" "_law_brought" (defArgs s__law_brought) (defBody s__law_brought) (defScope s__law_brought) .none kV1 dc1 pm1 an1 cd1 ct1), sl1⟩)
    (c1 : PySem.W.codeIn K cd1 "_law_brought" = true)
    (k1 : PySem.W.keepIn K (.ref f1) = true)
    (a2 : PySem.W.nsIn K mainGlobals "_law_inner" = some (some (.ref f2)))
    (l2 : K.lookup f2 = some ⟨oc2, od2, .func (PySem.W.fnOf "_law_inner" "_law_inner" (defArgs s__law_inner) (defBody s__law_inner) (defScope s__law_inner) .none kV2 dc2 pm2 an2 cd2 ct2), sl2⟩)
    (c2 : PySem.W.codeIn K cd2 "_law_inner" = true)
    (k2 : PySem.W.keepIn K (.ref f2) = true)
    (a3 : PySem.W.nsIn K mainGlobals "_law_used" = some (some (.ref f3)))
    (l3 : K.lookup f3 = some ⟨oc3, od3, .func (PySem.W.fnOf "_law_used" "_law_used" (defArgs s__law_used) (defBody s__law_used) (defScope s__law_used) .none kV3 dc3 pm3 an3 cd3 ct3), sl3⟩)
    (c3 : PySem.W.codeIn K cd3 "_law_used" = true)
    (k3 : PySem.W.keepIn K (.ref f3) = true)
    (a4 : PySem.W.nsIn K mainGlobals "_law_gathered" = some (some (.ref f4)))
    (l4 : K.lookup f4 = some ⟨oc4, od4, .func (PySem.W.fnOf "_law_gathered" "_law_gathered" (defArgs s__law_gathered) (defBody s__law_gathered) (defScope s__law_gathered) .none kV4 dc4 pm4 an4 cd4 ct4), sl4⟩)
    (c4 : PySem.W.codeIn K cd4 "_law_gathered" = true)
    (k4 : PySem.W.keepIn K (.ref f4) = true)
    (a5 : PySem.W.nsIn K mainGlobals "_law_all" = some (some (.ref f5)))
    (l5 : K.lookup f5 = some ⟨oc5, od5, .func (PySem.W.fnOf "_law_all" "_law_all" (defArgs s__law_all) (defBody s__law_all) (defScope s__law_all) .none kV5 dc5 pm5 an5 cd5 ct5), sl5⟩)
    (c5 : PySem.W.codeIn K cd5 "_law_all" = true)
    (k5 : PySem.W.keepIn K (.ref f5) = true)
    (a6 : PySem.W.nsIn K mainGlobals "_law_cell_at" = some (some (.ref f6)))
    (l6 : K.lookup f6 = some ⟨oc6, od6, .func (PySem.W.fnOf "_law_cell_at" "_law_cell_at" (defArgs s__law_cell_at) (defBody s__law_cell_at) (defScope s__law_cell_at) .none kV6 dc6 pm6 an6 cd6 ct6), sl6⟩)
    (c6 : PySem.W.codeIn K cd6 "_law_cell_at" = true)
    (k6 : PySem.W.keepIn K (.ref f6) = true)
    (a7 : PySem.W.nsIn K mainGlobals "_law_names" = some (some (.ref f7)))
    (l7 : K.lookup f7 = some ⟨oc7, od7, .func (PySem.W.fnOf "_law_names" "_law_names" (defArgs s__law_names) (defBody s__law_names) (defScope s__law_names) .none kV7 dc7 pm7 an7 cd7 ct7), sl7⟩)
    (c7 : PySem.W.codeIn K cd7 "_law_names" = true)
    (k7 : PySem.W.keepIn K (.ref f7) = true)
    (a8 : PySem.W.nsIn K mainGlobals "_law_next" = some (some (.ref f8)))
    (l8 : K.lookup f8 = some ⟨oc8, od8, .func (PySem.W.fnOf "_law_next" "_law_next" (defArgs s__law_next) (defBody s__law_next) (defScope s__law_next) .none kV8 dc8 pm8 an8 cd8 ct8), sl8⟩)
    (c8 : PySem.W.codeIn K cd8 "_law_next" = true)
    (k8 : PySem.W.keepIn K (.ref f8) = true)
    (a9 : PySem.W.nsIn K mainGlobals "_law_number" = some (some (.ref f9)))
    (l9 : K.lookup f9 = some ⟨oc9, od9, .func (PySem.W.fnOf "_law_number" "_law_number" (defArgs s__law_number) (defBody s__law_number) (defScope s__law_number) .none kV9 dc9 pm9 an9 cd9 ct9), sl9⟩)
    (c9 : PySem.W.codeIn K cd9 "_law_number" = true)
    (k9 : PySem.W.keepIn K (.ref f9) = true)
    (a10 : PySem.W.nsIn K mainGlobals "_law_term" = some (some (.ref f10)))
    (l10 : K.lookup f10 = some ⟨oc10, od10, .func (PySem.W.fnOf "_law_term" "_law_term" (defArgs s__law_term) (defBody s__law_term) (defScope s__law_term) .none kV10 dc10 pm10 an10 cd10 ct10), sl10⟩)
    (c10 : PySem.W.codeIn K cd10 "_law_term" = true)
    (k10 : PySem.W.keepIn K (.ref f10) = true)
    (a11 : PySem.W.nsIn K mainGlobals "_law_body" = some (some (.ref f11)))
    (l11 : K.lookup f11 = some ⟨oc11, od11, .func (PySem.W.fnOf "_law_body" "_law_body" (defArgs s__law_body) (defBody s__law_body) (defScope s__law_body) .none kV11 dc11 pm11 an11 cd11 ct11), sl11⟩)
    (c11 : PySem.W.codeIn K cd11 "_law_body" = true)
    (k11 : PySem.W.keepIn K (.ref f11) = true)
    (a12 : PySem.W.nsIn K mainGlobals "_law_statement" = some (some (.ref f12)))
    (l12 : K.lookup f12 = some ⟨oc12, od12, .func (PySem.W.fnOf "_law_statement" "_law_statement" (defArgs s__law_statement) (defBody s__law_statement) (defScope s__law_statement) .none kV12 dc12 pm12 an12 cd12 ct12), sl12⟩)
    (c12 : PySem.W.codeIn K cd12 "_law_statement" = true)
    (k12 : PySem.W.keepIn K (.ref f12) = true)
    (a13 : PySem.W.nsIn K mainGlobals "_law_program" = some (some (.ref f13)))
    (l13 : K.lookup f13 = some ⟨oc13, od13, .func (PySem.W.fnOf "_law_program" "_law_program" (defArgs s__law_program) (defBody s__law_program) (defScope s__law_program) .none kV13 dc13 pm13 an13 cd13 ct13), sl13⟩)
    (c13 : PySem.W.codeIn K cd13 "_law_program" = true)
    (k13 : PySem.W.keepIn K (.ref f13) = true)
    (in_BadName : PySem.W.findIn K (.ref C_BadName) "__init__" = some (some (.ref f14)))
    (l14 : K.lookup f14 = some ⟨oc14, od14, .func (PySem.W.fnOf "__init__" "BadName.__init__" (defArgs s_BadNameXX_initXX) (defBody s_BadNameXX_initXX) (defScope s_BadNameXX_initXX) .none kV14 dc14 pm14 an14 cd14 ct14), sl14⟩)
    (c14 : PySem.W.codeIn K cd14 "BadName.__init__" = true)
    (k14 : PySem.W.keepIn K (.ref f14) = true)
    (a15 : PySem.W.nsIn K mainGlobals "inner_of" = some (some (.ref f15)))
    (l15 : K.lookup f15 = some ⟨oc15, od15, .func (PySem.W.fnOf "inner_of" "inner_of" (defArgs s_inner_of) (defBody s_inner_of) (defScope s_inner_of) .none kV15 dc15 pm15 an15 cd15 ct15), sl15⟩)
    (c15 : PySem.W.codeIn K cd15 "inner_of" = true)
    (k15 : PySem.W.keepIn K (.ref f15) = true)
    (a16 : PySem.W.nsIn K mainGlobals "gather" = some (some (.ref f16)))
    (l16 : K.lookup f16 = some ⟨oc16, od16, .func (PySem.W.fnOf "gather" "gather" (defArgs s_gather) (defBody s_gather) (defScope s_gather) .none kV16 dc16 pm16 an16 cd16 ct16), sl16⟩)
    (c16 : PySem.W.codeIn K cd16 "gather" = true)
    (k16 : PySem.W.keepIn K (.ref f16) = true)
    (a17 : PySem.W.nsIn K mainGlobals "has_word" = some (some (.ref f17)))
    (l17 : K.lookup f17 = some ⟨oc17, od17, .func (PySem.W.fnOf "has_word" "has_word" (defArgs s_has_word) (defBody s_has_word) (defScope s_has_word) .none kV17 dc17 pm17 an17 cd17 ct17), sl17⟩)
    (c17 : PySem.W.codeIn K cd17 "has_word" = true)
    (k17 : PySem.W.keepIn K (.ref f17) = true)
    (a18 : PySem.W.nsIn K mainGlobals "is_name" = some (some (.ref f18)))
    (l18 : K.lookup f18 = some ⟨oc18, od18, .func (PySem.W.fnOf "is_name" "is_name" (defArgs s_is_name) (defBody s_is_name) (defScope s_is_name) .none kV18 dc18 pm18 an18 cd18 ct18), sl18⟩)
    (c18 : PySem.W.codeIn K cd18 "is_name" = true)
    (k18 : PySem.W.keepIn K (.ref f18) = true)
    (a19 : PySem.W.nsIn K mainGlobals "is_names" = some (some (.ref f19)))
    (l19 : K.lookup f19 = some ⟨oc19, od19, .func (PySem.W.fnOf "is_names" "is_names" (defArgs s_is_names) (defBody s_is_names) (defScope s_is_names) .none kV19 dc19 pm19 an19 cd19 ct19), sl19⟩)
    (c19 : PySem.W.codeIn K cd19 "is_names" = true)
    (k19 : PySem.W.keepIn K (.ref f19) = true)
    (a20 : PySem.W.nsIn K mainGlobals "is_number" = some (some (.ref f20)))
    (l20 : K.lookup f20 = some ⟨oc20, od20, .func (PySem.W.fnOf "is_number" "is_number" (defArgs s_is_number) (defBody s_is_number) (defScope s_is_number) .none kV20 dc20 pm20 an20 cd20 ct20), sl20⟩)
    (c20 : PySem.W.codeIn K cd20 "is_number" = true)
    (k20 : PySem.W.keepIn K (.ref f20) = true)
    (a21 : PySem.W.nsIn K mainGlobals "is_simple" = some (some (.ref f21)))
    (l21 : K.lookup f21 = some ⟨oc21, od21, .func (PySem.W.fnOf "is_simple" "is_simple" (defArgs s_is_simple) (defBody s_is_simple) (defScope s_is_simple) .none kV21 dc21 pm21 an21 cd21 ct21), sl21⟩)
    (c21 : PySem.W.codeIn K cd21 "is_simple" = true)
    (k21 : PySem.W.keepIn K (.ref f21) = true)
    (a22 : PySem.W.nsIn K mainGlobals "is_function" = some (some (.ref f22)))
    (l22 : K.lookup f22 = some ⟨oc22, od22, .func (PySem.W.fnOf "is_function" "is_function" (defArgs s_is_function) (defBody s_is_function) (defScope s_is_function) .none kV22 dc22 pm22 an22 cd22 ct22), sl22⟩)
    (c22 : PySem.W.codeIn K cd22 "is_function" = true)
    (k22 : PySem.W.keepIn K (.ref f22) = true)
    (a23 : PySem.W.nsIn K mainGlobals "is_term" = some (some (.ref f23)))
    (l23 : K.lookup f23 = some ⟨oc23, od23, .func (PySem.W.fnOf "is_term" "is_term" (defArgs s_is_term) (defBody s_is_term) (defScope s_is_term) .none kV23 dc23 pm23 an23 cd23 ct23), sl23⟩)
    (c23 : PySem.W.codeIn K cd23 "is_term" = true)
    (k23 : PySem.W.keepIn K (.ref f23) = true)
    (a24 : PySem.W.nsIn K mainGlobals "is_body" = some (some (.ref f24)))
    (l24 : K.lookup f24 = some ⟨oc24, od24, .func (PySem.W.fnOf "is_body" "is_body" (defArgs s_is_body) (defBody s_is_body) (defScope s_is_body) .none kV24 dc24 pm24 an24 cd24 ct24), sl24⟩)
    (c24 : PySem.W.codeIn K cd24 "is_body" = true)
    (k24 : PySem.W.keepIn K (.ref f24) = true)
    (a25 : PySem.W.nsIn K mainGlobals "is_short" = some (some (.ref f25)))
    (l25 : K.lookup f25 = some ⟨oc25, od25, .func (PySem.W.fnOf "is_short" "is_short" (defArgs s_is_short) (defBody s_is_short) (defScope s_is_short) .none kV25 dc25 pm25 an25 cd25 ct25), sl25⟩)
    (c25 : PySem.W.codeIn K cd25 "is_short" = true)
    (k25 : PySem.W.keepIn K (.ref f25) = true)
    (a26 : PySem.W.nsIn K mainGlobals "is_statement" = some (some (.ref f26)))
    (l26 : K.lookup f26 = some ⟨oc26, od26, .func (PySem.W.fnOf "is_statement" "is_statement" (defArgs s_is_statement) (defBody s_is_statement) (defScope s_is_statement) .none kV26 dc26 pm26 an26 cd26 ct26), sl26⟩)
    (c26 : PySem.W.codeIn K cd26 "is_statement" = true)
    (k26 : PySem.W.keepIn K (.ref f26) = true)
    (a27 : PySem.W.nsIn K mainGlobals "size_of" = some (some (.ref f27)))
    (l27 : K.lookup f27 = some ⟨oc27, od27, .func (PySem.W.fnOf "size_of" "size_of" (defArgs s_size_of) (defBody s_size_of) (defScope s_size_of) .none kV27 dc27 pm27 an27 cd27 ct27), sl27⟩)
    (c27 : PySem.W.codeIn K cd27 "size_of" = true)
    (k27 : PySem.W.keepIn K (.ref f27) = true)
    (a28 : PySem.W.nsIn K mainGlobals "is_program" = some (some (.ref f28)))
    (l28 : K.lookup f28 = some ⟨oc28, od28, .func (PySem.W.fnOf "is_program" "is_program" (defArgs s_is_program) (defBody s_is_program) (defScope s_is_program) .none kV28 dc28 pm28 an28 cd28 ct28), sl28⟩)
    (c28 : PySem.W.codeIn K cd28 "is_program" = true)
    (k28 : PySem.W.keepIn K (.ref f28) = true)
    (a29 : PySem.W.nsIn K mainGlobals "need_program" = some (some (.ref f29)))
    (l29 : K.lookup f29 = some ⟨oc29, od29, .func (PySem.W.fnOf "need_program" "need_program" (defArgs s_need_program) (defBody s_need_program) (defScope s_need_program) .none kV29 dc29 pm29 an29 cd29 ct29), sl29⟩)
    (c29 : PySem.W.codeIn K cd29 "need_program" = true)
    (k29 : PySem.W.keepIn K (.ref f29) = true)
    (a30 : PySem.W.nsIn K mainGlobals "functions_of" = some (some (.ref f30)))
    (l30 : K.lookup f30 = some ⟨oc30, od30, .func (PySem.W.fnOf "functions_of" "functions_of" (defArgs s_functions_of) (defBody s_functions_of) (defScope s_functions_of) .none kV30 dc30 pm30 an30 cd30 ct30), sl30⟩)
    (c30 : PySem.W.codeIn K cd30 "functions_of" = true)
    (k30 : PySem.W.keepIn K (.ref f30) = true)
    (a31 : PySem.W.nsIn K mainGlobals "has_round" = some (some (.ref f31)))
    (l31 : K.lookup f31 = some ⟨oc31, od31, .func (PySem.W.fnOf "has_round" "has_round" (defArgs s_has_round) (defBody s_has_round) (defScope s_has_round) .none kV31 dc31 pm31 an31 cd31 ct31), sl31⟩)
    (c31 : PySem.W.codeIn K cd31 "has_round" = true)
    (k31 : PySem.W.keepIn K (.ref f31) = true)
    (a32 : PySem.W.nsIn K mainGlobals "brought" = some (some (.ref f32)))
    (l32 : K.lookup f32 = some ⟨oc32, od32, .func (PySem.W.fnOf "brought" "brought" (defArgs s_brought) (defBody s_brought) (defScope s_brought) .none kV32 dc32 pm32 an32 cd32 ct32), sl32⟩)
    (c32 : PySem.W.codeIn K cd32 "brought" = true)
    (k32 : PySem.W.keepIn K (.ref f32) = true)
    (a33 : PySem.W.nsIn K mainGlobals "own_names" = some (some (.ref f33)))
    (l33 : K.lookup f33 = some ⟨oc33, od33, .func (PySem.W.fnOf "own_names" "own_names" (defArgs s_own_names) (defBody s_own_names) (defScope s_own_names) .none kV33 dc33 pm33 an33 cd33 ct33), sl33⟩)
    (c33 : PySem.W.codeIn K cd33 "own_names" = true)
    (k33 : PySem.W.keepIn K (.ref f33) = true)
    (a34 : PySem.W.nsIn K mainGlobals "used_in" = some (some (.ref f34)))
    (l34 : K.lookup f34 = some ⟨oc34, od34, .func (PySem.W.fnOf "used_in" "used_in" (defArgs s_used_in) (defBody s_used_in) (defScope s_used_in) .none kV34 dc34 pm34 an34 cd34 ct34), sl34⟩)
    (c34 : PySem.W.codeIn K cd34 "used_in" = true)
    (k34 : PySem.W.keepIn K (.ref f34) = true)
    (a35 : PySem.W.nsIn K mainGlobals "used" = some (some (.ref f35)))
    (l35 : K.lookup f35 = some ⟨oc35, od35, .func (PySem.W.fnOf "used" "used" (defArgs s_used) (defBody s_used) (defScope s_used) .none kV35 dc35 pm35 an35 cd35 ct35), sl35⟩)
    (c35 : PySem.W.codeIn K cd35 "used" = true)
    (k35 : PySem.W.keepIn K (.ref f35) = true)
    (a36 : PySem.W.nsIn K mainGlobals "scopes_of" = some (some (.ref f36)))
    (l36 : K.lookup f36 = some ⟨oc36, od36, .func (PySem.W.fnOf "scopes_of" "scopes_of" (defArgs s_scopes_of) (defBody s_scopes_of) (defScope s_scopes_of) .none kV36 dc36 pm36 an36 cd36 ct36), sl36⟩)
    (c36 : PySem.W.codeIn K cd36 "scopes_of" = true)
    (k36 : PySem.W.keepIn K (.ref f36) = true)
    (a37 : PySem.W.nsIn K mainGlobals "_law_said" = some (some (.ref f37)))
    (l37 : K.lookup f37 = some ⟨oc37, od37, .func (PySem.W.fnOf "_law_said" "_law_said" (defArgs s__law_said) (defBody s__law_said) (defScope s__law_said) .none kV37 dc37 pm37 an37 cd37 ct37), sl37⟩)
    (c37 : PySem.W.codeIn K cd37 "_law_said" = true)
    (k37 : PySem.W.keepIn K (.ref f37) = true)
    (a38 : PySem.W.nsIn K mainGlobals "_law_holder" = some (some (.ref f38)))
    (l38 : K.lookup f38 = some ⟨oc38, od38, .func (PySem.W.fnOf "_law_holder" "_law_holder" (defArgs s__law_holder) (defBody s__law_holder) (defScope s__law_holder) .none kV38 dc38 pm38 an38 cd38 ct38), sl38⟩)
    (c38 : PySem.W.codeIn K cd38 "_law_holder" = true)
    (k38 : PySem.W.keepIn K (.ref f38) = true)
    (a39 : PySem.W.nsIn K mainGlobals "_law_wrong_name" = some (some (.ref f39)))
    (l39 : K.lookup f39 = some ⟨oc39, od39, .func (PySem.W.fnOf "_law_wrong_name" "_law_wrong_name" (defArgs s__law_wrong_name) (defBody s__law_wrong_name) (defScope s__law_wrong_name) .none kV39 dc39 pm39 an39 cd39 ct39), sl39⟩)
    (c39 : PySem.W.codeIn K cd39 "_law_wrong_name" = true)
    (k39 : PySem.W.keepIn K (.ref f39) = true)
    (a40 : PySem.W.nsIn K mainGlobals "law" = some (some (.ref f40)))
    (l40 : K.lookup f40 = some ⟨oc40, od40, .func (PySem.W.fnOf "law" "law" (defArgs s_law) (defBody s_law) (defScope s_law) .none kV40 dc40 pm40 an40 cd40 ct40), sl40⟩)
    (c40 : PySem.W.codeIn K cd40 "law" = true)
    (k40 : PySem.W.keepIn K (.ref f40) = true)
    (b_ValueError : PySem.W.nsIn K mainGlobals "ValueError" = some none)
    (b_all : PySem.W.nsIn K mainGlobals "all" = some none)
    (b_any : PySem.W.nsIn K mainGlobals "any" = some none)
    (b_bool : PySem.W.nsIn K mainGlobals "bool" = some none)
    (b_dict : PySem.W.nsIn K mainGlobals "dict" = some none)
    (b_enumerate : PySem.W.nsIn K mainGlobals "enumerate" = some none)
    (b_int : PySem.W.nsIn K mainGlobals "int" = some none)
    (b_isinstance : PySem.W.nsIn K mainGlobals "isinstance" = some none)
    (b_len : PySem.W.nsIn K mainGlobals "len" = some none)
    (b_list : PySem.W.nsIn K mainGlobals "list" = some none)
    (b_max : PySem.W.nsIn K mainGlobals "max" = some none)
    (b_range : PySem.W.nsIn K mainGlobals "range" = some none)
    (b_reversed : PySem.W.nsIn K mainGlobals "reversed" = some none)
    (b_set : PySem.W.nsIn K mainGlobals "set" = some none)
    (b_sorted : PySem.W.nsIn K mainGlobals "sorted" = some none)
    (b_str : PySem.W.nsIn K mainGlobals "str" = some none)
    (b_sum : PySem.W.nsIn K mainGlobals "sum" = some none)
    (b_tuple : PySem.W.nsIn K mainGlobals "tuple" = some none)
    (g_GREATEST : PySem.W.nsIn K mainGlobals "GREATEST" = some (some (.int 1000000000000 t_GREATEST)))
    (g_MOST_DEPTH : PySem.W.nsIn K mainGlobals "MOST_DEPTH" = some (some (.int 20 t_MOST_DEPTH)))
    (g_MOST_LETTERS : PySem.W.nsIn K mainGlobals "MOST_LETTERS" = some (some (.int 8 t_MOST_LETTERS)))
    (g_MOST_NAMES : PySem.W.nsIn K mainGlobals "MOST_NAMES" = some (some (.int 4 t_MOST_NAMES)))
    (g_MOST_PARTS : PySem.W.nsIn K mainGlobals "MOST_PARTS" = some (some (.int 300 t_MOST_PARTS)))
    (g_MOST_STATEMENTS : PySem.W.nsIn K mainGlobals "MOST_STATEMENTS" = some (some (.int 12 t_MOST_STATEMENTS)))
    (g_MOST_TERMS : PySem.W.nsIn K mainGlobals "MOST_TERMS" = some (some (.int 4 t_MOST_TERMS)))
    (g_SIGNS : PySem.W.nsIn K mainGlobals "SIGNS" = some (some (.ref a_SIGNS)))
    (l_SIGNS : K.lookup a_SIGNS = some ⟨.type "tuple", d_SIGNS, .seq #[.str (Str.ofString "+") t_SIGNS_0, .str (Str.ofString "-") t_SIGNS_1, .str (Str.ofString "*") t_SIGNS_2, .str (Str.ofString "<") t_SIGNS_3, .str (Str.ofString "=") t_SIGNS_4] n_SIGNS, z_SIGNS⟩)
    (n_BadTree : PySem.W.nsIn K mainGlobals "BadTree" = some (some (.ref C_BadTree)))
    (n_LoomError : PySem.W.nsIn K mainGlobals "LoomError" = some (some (.ref C_LoomError)))
    (n_BadCount : PySem.W.nsIn K mainGlobals "BadCount" = some (some (.ref C_BadCount)))
    (n_BadText : PySem.W.nsIn K mainGlobals "BadText" = some (some (.ref C_BadText)))
    (n_NoThing : PySem.W.nsIn K mainGlobals "NoThing" = some (some (.ref C_NoThing)))
    (n_BadCode : PySem.W.nsIn K mainGlobals "BadCode" = some (some (.ref C_BadCode)))
    (q_BadTree : PySem.W.excIn K C_BadTree [.type "ValueError", .type "Exception", .type "BaseException", .type "object"] "ValueError.__new__" = true)
    (k_BadTree : PySem.W.keepIn K (.ref C_BadTree) = true)
    (s_BadTree : PySem.W.subIn K (.ref C_BadTree) (.type "BaseException") = some true)
    (t_BadTree : PySem.W.typeIn K (.ref C_BadTree) = some (.type "type"))
    (ox_BadName : oexB K C_BadName = true)
    (sa_BadName : PySem.W.findIn K (.ref C_BadName) "__setattr__" = some (some (.builtin "object.__setattr__")))
    (k_BadName : PySem.W.keepIn K (.ref C_BadName) = true)
    (s_BadName : PySem.W.subIn K (.ref C_BadName) (.type "BaseException") = some true)
    (t_BadName : PySem.W.typeIn K (.ref C_BadName) = some (.type "type"))
    (ti_BadName : PySem.W.typeIn K (.ref f14) = some (.type "function"))
    (of_BadName_name : PySem.W.findIn K (.ref C_BadName) "name" = some none)
    (gb_LoomError : PySem.W.specialIn K (.ref C_LoomError) "__getattribute__" = some (some (.builtin "type.__getattribute__")))
    (rb_LoomError : PySem.W.readsIn K C_LoomError (.type "type") = true)
    (vb_LoomError : PySem.W.findCls K (.ref C_LoomError) (.type "type") "__init__" = some (.val (.builtin "ValueError.__init__")))
    (xd_LoomError : PySem.W.hasDictIn K C_LoomError = true)
    (s_LoomError : PySem.W.subIn K (.ref C_LoomError) (.type "BaseException") = some true)
    (t_LoomError : PySem.W.typeIn K (.ref C_LoomError) = some (.type "type"))
    (xd_BadCount : PySem.W.hasDictIn K C_BadCount = true)
    (s_BadCount : PySem.W.subIn K (.ref C_BadCount) (.type "BaseException") = some true)
    (t_BadCount : PySem.W.typeIn K (.ref C_BadCount) = some (.type "type"))
    (xd_BadText : PySem.W.hasDictIn K C_BadText = true)
    (s_BadText : PySem.W.subIn K (.ref C_BadText) (.type "BaseException") = some true)
    (t_BadText : PySem.W.typeIn K (.ref C_BadText) = some (.type "type"))
    (xd_BadTree : PySem.W.hasDictIn K C_BadTree = true)
    (xd_NoThing : PySem.W.hasDictIn K C_NoThing = true)
    (s_NoThing : PySem.W.subIn K (.ref C_NoThing) (.type "BaseException") = some true)
    (t_NoThing : PySem.W.typeIn K (.ref C_NoThing) = some (.type "type"))
    (xd_BadCode : PySem.W.hasDictIn K C_BadCode = true)
    (s_BadCode : PySem.W.subIn K (.ref C_BadCode) (.type "BaseException") = some true)
    (t_BadCode : PySem.W.typeIn K (.ref C_BadCode) = some (.type "type"))
    (xd_BadName : PySem.W.hasDictIn K C_BadName = true)
    (i_BadTree_LoomError : PySem.W.subIn K (.ref C_BadTree) (.ref C_LoomError) = some true)
    (i_BadTree_BadCount : PySem.W.subIn K (.ref C_BadTree) (.ref C_BadCount) = some false)
    (i_BadTree_BadText : PySem.W.subIn K (.ref C_BadTree) (.ref C_BadText) = some false)
    (i_BadTree_BadTree : PySem.W.subIn K (.ref C_BadTree) (.ref C_BadTree) = some true)
    (i_BadTree_NoThing : PySem.W.subIn K (.ref C_BadTree) (.ref C_NoThing) = some false)
    (i_BadTree_BadCode : PySem.W.subIn K (.ref C_BadTree) (.ref C_BadCode) = some false)
    (i_BadTree_BadName : PySem.W.subIn K (.ref C_BadTree) (.ref C_BadName) = some false)
    (i_BadTree_ValueError : PySem.W.subIn K (.ref C_BadTree) (.type "ValueError") = some true)
    (i_BadName_LoomError : PySem.W.subIn K (.ref C_BadName) (.ref C_LoomError) = some true)
    (i_BadName_BadCount : PySem.W.subIn K (.ref C_BadName) (.ref C_BadCount) = some false)
    (i_BadName_BadText : PySem.W.subIn K (.ref C_BadName) (.ref C_BadText) = some false)
    (i_BadName_BadTree : PySem.W.subIn K (.ref C_BadName) (.ref C_BadTree) = some false)
    (i_BadName_NoThing : PySem.W.subIn K (.ref C_BadName) (.ref C_NoThing) = some false)
    (i_BadName_BadCode : PySem.W.subIn K (.ref C_BadName) (.ref C_BadCode) = some false)
    (i_BadName_BadName : PySem.W.subIn K (.ref C_BadName) (.ref C_BadName) = some true)
    (i_BadName_ValueError : PySem.W.subIn K (.ref C_BadName) (.type "ValueError") = some true)
    (xg_BadTree : PySem.W.findIn K (.ref C_BadTree) "__getattribute__" = some (some (.builtin "BaseException.__getattribute__")))
    (xk_BadTree : PySem.W.findIn K (.ref C_BadTree) "__getattr__" = some none)
    (xa_BadTree : PySem.W.findIn K (.ref C_BadTree) "__class__" = some (some (.builtin "object.__class__")))
    (xm_BadTree : PySem.W.mroIn K C_BadTree (.type "object") = some true)
    (xg_BadName : PySem.W.findIn K (.ref C_BadName) "__getattribute__" = some (some (.builtin "BaseException.__getattribute__")))
    (xk_BadName : PySem.W.findIn K (.ref C_BadName) "__getattr__" = some none)
    (xa_BadName : PySem.W.findIn K (.ref C_BadName) "__class__" = some (some (.builtin "object.__class__")))
    (xm_BadName : PySem.W.mroIn K C_BadName (.type "object") = some true)
    (xn : PySem.W.specialIn K (.builtin "object.__class__") "__get__" = some (some (.builtin "getset_descriptor.__get__")))
    (xt : PySem.W.takesIn K (.builtin "object.__class__") = some true)
    : ∃ fd : FuncData, (∀ (s : Shared) (v : Value), BindsTo s fd ⟨[v], []⟩ [("_law_script", v)]) ∧ ∀ base : Heap, K.In base → base.Ns mainGlobals mg → TopOk l.prog w K mg base (L2.CX l.prog w) 123 fa fd ["_law_script"] (spA K F_law 1) := by
  have e := hfa.symm.trans (PySem.W.mg_of X G a40)
  cases e
  have T : Txt K mg (tabA [C_LoomError, C_BadTree, C_BadText, C_BadName, C_BadCount, C_BadCode, C_NoThing]) := ⟨⟨PySem.W.mg_of X G n_BadTree, q_BadTree, k_BadTree, s_BadTree, t_BadTree⟩, oex_of ox_BadName sa_BadName s_BadName t_BadName k_BadName, of_BadName_name, gb_LoomError, rb_LoomError, vb_LoomError, PySem.W.mg_of X G n_LoomError, PySem.W.mg_of X G n_BadCount, PySem.W.mg_of X G n_BadText, PySem.W.mg_of X G n_BadTree, PySem.W.mg_of X G n_NoThing, PySem.W.mg_of X G n_BadCode, PySem.W.mg_of X G n_BadName, (fun k b h => by unfold hit_LoomError at h; split at h <;> first | (cases h; first | exact PySem.W.exm_ref s_LoomError xd_LoomError t_LoomError i_BadTree_LoomError | exact PySem.W.exm_ref s_LoomError xd_LoomError t_LoomError i_BadName_LoomError) | cases h), (fun c n b h => by unfold kis at h; split at h <;> first | (cases h; first | exact ⟨⟨xg_BadTree, xk_BadTree, s_BadTree, xd_BadTree, xa_BadTree, xn, xt, xm_BadTree⟩, kit_own i_BadTree_BadCount xd_BadCount t_BadCount i_BadTree_BadTree⟩ | exact ⟨⟨xg_BadTree, xk_BadTree, s_BadTree, xd_BadTree, xa_BadTree, xn, xt, xm_BadTree⟩, kit_own i_BadTree_BadText xd_BadText t_BadText i_BadTree_BadTree⟩ | exact ⟨⟨xg_BadTree, xk_BadTree, s_BadTree, xd_BadTree, xa_BadTree, xn, xt, xm_BadTree⟩, kit_own i_BadTree_BadTree xd_BadTree t_BadTree i_BadTree_BadTree⟩ | exact ⟨⟨xg_BadTree, xk_BadTree, s_BadTree, xd_BadTree, xa_BadTree, xn, xt, xm_BadTree⟩, kit_own i_BadTree_NoThing xd_NoThing t_NoThing i_BadTree_BadTree⟩ | exact ⟨⟨xg_BadTree, xk_BadTree, s_BadTree, xd_BadTree, xa_BadTree, xn, xt, xm_BadTree⟩, kit_own i_BadTree_BadCode xd_BadCode t_BadCode i_BadTree_BadTree⟩ | exact ⟨⟨xg_BadTree, xk_BadTree, s_BadTree, xd_BadTree, xa_BadTree, xn, xt, xm_BadTree⟩, kit_own i_BadTree_BadName xd_BadName t_BadName i_BadTree_BadTree⟩ | exact ⟨⟨xg_BadTree, xk_BadTree, s_BadTree, xd_BadTree, xa_BadTree, xn, xt, xm_BadTree⟩, kit_bt i_BadTree_ValueError (by decide +kernel)⟩ | exact ⟨⟨xg_BadName, xk_BadName, s_BadName, xd_BadName, xa_BadName, xn, xt, xm_BadName⟩, kit_own i_BadName_BadCount xd_BadCount t_BadCount i_BadName_BadName⟩ | exact ⟨⟨xg_BadName, xk_BadName, s_BadName, xd_BadName, xa_BadName, xn, xt, xm_BadName⟩, kit_own i_BadName_BadText xd_BadText t_BadText i_BadName_BadName⟩ | exact ⟨⟨xg_BadName, xk_BadName, s_BadName, xd_BadName, xa_BadName, xn, xt, xm_BadName⟩, kit_own i_BadName_BadTree xd_BadTree t_BadTree i_BadName_BadName⟩ | exact ⟨⟨xg_BadName, xk_BadName, s_BadName, xd_BadName, xa_BadName, xn, xt, xm_BadName⟩, kit_own i_BadName_NoThing xd_NoThing t_NoThing i_BadName_BadName⟩ | exact ⟨⟨xg_BadName, xk_BadName, s_BadName, xd_BadName, xa_BadName, xn, xt, xm_BadName⟩, kit_own i_BadName_BadCode xd_BadCode t_BadCode i_BadName_BadName⟩ | exact ⟨⟨xg_BadName, xk_BadName, s_BadName, xd_BadName, xa_BadName, xn, xt, xm_BadName⟩, kit_own i_BadName_BadName xd_BadName t_BadName i_BadName_BadName⟩ | exact ⟨⟨xg_BadName, xk_BadName, s_BadName, xd_BadName, xa_BadName, xn, xt, xm_BadName⟩, kit_bt i_BadName_ValueError (by decide +kernel)⟩) | cases h), (fun c n h => by simp only [xf, Bool.or_eq_true, Bool.and_eq_true, decide_eq_true_eq] at h; rcases h with ⟨rfl, rfl⟩ <;> first | exact ⟨⟨xg_BadName, xk_BadName, s_BadName, xd_BadName⟩, of_BadName_name⟩), PySem.W.mg_none_of X G b_ValueError, PySem.W.mg_none_of X G b_all, PySem.W.mg_none_of X G b_any, PySem.W.mg_none_of X G b_bool, PySem.W.mg_none_of X G b_dict, PySem.W.mg_none_of X G b_enumerate, PySem.W.mg_none_of X G b_int, PySem.W.mg_none_of X G b_isinstance, PySem.W.mg_none_of X G b_len, PySem.W.mg_none_of X G b_list, PySem.W.mg_none_of X G b_max, PySem.W.mg_none_of X G b_range, PySem.W.mg_none_of X G b_reversed, PySem.W.mg_none_of X G b_set, PySem.W.mg_none_of X G b_sorted, PySem.W.mg_none_of X G b_str, PySem.W.mg_none_of X G b_sum, PySem.W.mg_none_of X G b_tuple, ⟨_, PySem.W.mg_of X G g_GREATEST⟩, ⟨_, PySem.W.mg_of X G g_MOST_DEPTH⟩, ⟨_, PySem.W.mg_of X G g_MOST_LETTERS⟩, ⟨_, PySem.W.mg_of X G g_MOST_NAMES⟩, ⟨_, PySem.W.mg_of X G g_MOST_PARTS⟩, ⟨_, PySem.W.mg_of X G g_MOST_STATEMENTS⟩, ⟨_, PySem.W.mg_of X G g_MOST_TERMS⟩, ⟨_, PySem.W.mg_of X G g_SIGNS, sqt_strs l_SIGNS _ (show (5 : Nat) ≤ sizeLine by decide) (.cons ⟨_, rfl⟩ (.cons ⟨_, rfl⟩ (.cons ⟨_, rfl⟩ (.cons ⟨_, rfl⟩ (.cons ⟨_, rfl⟩ .nil)))))⟩⟩
  have F1 := fun_mk (st := s__law_brought) l1 c1 k1
  have B1 := F1.binds (ps := ["_law_body_here"]) fun _ _ _ _ _ _ us hl => match us, hl with | [_], _ => rfl
  have F2 := fun_mk (st := s__law_inner) l2 c2 k2
  have B2 := F2.binds (ps := ["_law_part"]) fun _ _ _ _ _ _ us hl => match us, hl with | [_], _ => rfl
  have F3 := fun_mk (st := s__law_used) l3 c3 k3
  have B3 := F3.binds (ps := ["_law_part"]) fun _ _ _ _ _ _ us hl => match us, hl with | [_], _ => rfl
  have F4 := fun_mk (st := s__law_gathered) l4 c4 k4
  have B4 := F4.binds (ps := ["_law_part", "_law_number_here", "_law_found"]) fun _ _ _ _ _ _ us hl => match us, hl with | [_, _, _], _ => rfl
  have F5 := fun_mk (st := s__law_all) l5 c5 k5
  have B5 := F5.binds (ps := ["_law_program_here"]) fun _ _ _ _ _ _ us hl => match us, hl with | [_], _ => rfl
  have F6 := fun_mk (st := s__law_cell_at) l6 c6 k6
  have B6 := F6.binds (ps := ["_law_script", "_law_k"]) fun _ _ _ _ _ _ us hl => match us, hl with | [_, _], _ => rfl
  have F7 := fun_mk (st := s__law_names) l7 c7 k7
  have B7 := F7.binds (ps := ["_law_cell", "_law_many"]) fun _ _ _ _ _ _ us hl => match us, hl with | [_, _], _ => rfl
  have F8 := fun_mk (st := s__law_next) l8 c8 k8
  have B8 := F8.binds (ps := ["_law_state"]) fun _ _ _ _ _ _ us hl => match us, hl with | [_], _ => rfl
  have F9 := fun_mk (st := s__law_number) l9 c9 k9
  have B9 := F9.binds (ps := ["_law_more"]) fun _ _ _ _ _ _ us hl => match us, hl with | [_], _ => rfl
  have F10 := fun_mk (st := s__law_term) l10 c10 k10
  have B10 := F10.binds (ps := ["_law_state", "_law_deep"]) fun _ _ _ _ _ _ us hl => match us, hl with | [_, _], _ => rfl
  have F11 := fun_mk (st := s__law_body) l11 c11 k11
  have B11 := F11.binds (ps := ["_law_state", "_law_deep", "_law_may_hand"]) fun _ _ _ _ _ _ us hl => match us, hl with | [_, _, _], _ => rfl
  have F12 := fun_mk (st := s__law_statement) l12 c12 k12
  have B12 := F12.binds (ps := ["_law_state", "_law_deep", "_law_may_hand"]) fun _ _ _ _ _ _ us hl => match us, hl with | [_, _, _], _ => rfl
  have F13 := fun_mk (st := s__law_program) l13 c13 k13
  have B13 := F13.binds (ps := ["_law_script", "_law_most"]) fun _ _ _ _ _ _ us hl => match us, hl with | [_, _], _ => rfl
  have F14 := fun_mk (st := s_BadNameXX_initXX) l14 c14 k14
  have B14 := F14.binds (ps := ["self", "name"]) fun _ _ _ _ _ _ us hl => match us, hl with | [_, _], _ => rfl
  have F15 := fun_mk (st := s_inner_of) l15 c15 k15
  have B15 := F15.binds (ps := ["part"]) fun _ _ _ _ _ _ us hl => match us, hl with | [_], _ => rfl
  have F16 := fun_mk (st := s_gather) l16 c16 k16
  have B16 := F16.binds (ps := ["part", "outer", "found"]) fun _ _ _ _ _ _ us hl => match us, hl with | [_, _, _], _ => rfl
  have F17 := fun_mk (st := s_has_word) l17 c17 k17
  have B17 := F17.binds (ps := ["thing", "word", "size"]) fun _ _ _ _ _ _ us hl => match us, hl with | [_, _, _], _ => rfl
  have F18 := fun_mk (st := s_is_name) l18 c18 k18
  have B18 := F18.binds (ps := ["thing"]) fun _ _ _ _ _ _ us hl => match us, hl with | [_], _ => rfl
  have F19 := fun_mk (st := s_is_names) l19 c19 k19
  have B19 := F19.binds (ps := ["thing"]) fun _ _ _ _ _ _ us hl => match us, hl with | [_], _ => rfl
  have F20 := fun_mk (st := s_is_number) l20 c20 k20
  have B20 := F20.binds (ps := ["thing"]) fun _ _ _ _ _ _ us hl => match us, hl with | [_], _ => rfl
  have F21 := fun_mk (st := s_is_simple) l21 c21 k21
  have B21 := F21.binds (ps := ["thing"]) fun _ _ _ _ _ _ us hl => match us, hl with | [_], _ => rfl
  have F22 := fun_mk (st := s_is_function) l22 c22 k22
  have B22 := F22.binds (ps := ["thing", "left"]) fun _ _ _ _ _ _ us hl => match us, hl with | [_, _], _ => rfl
  have F23 := fun_mk (st := s_is_term) l23 c23 k23
  have B23 := F23.binds (ps := ["thing", "left"]) fun _ _ _ _ _ _ us hl => match us, hl with | [_, _], _ => rfl
  have F24 := fun_mk (st := s_is_body) l24 c24 k24
  have B24 := F24.binds (ps := ["thing", "left", "may_hand"]) fun _ _ _ _ _ _ us hl => match us, hl with | [_, _, _], _ => rfl
  have F25 := fun_mk (st := s_is_short) l25 c25 k25
  have B25 := F25.binds (ps := ["thing", "left", "may_hand"]) fun _ _ _ _ _ _ us hl => match us, hl with | [_, _, _], _ => rfl
  have F26 := fun_mk (st := s_is_statement) l26 c26 k26
  have B26 := F26.binds (ps := ["thing", "left", "may_hand"]) fun _ _ _ _ _ _ us hl => match us, hl with | [_, _, _], _ => rfl
  have F27 := fun_mk (st := s_size_of) l27 c27 k27
  have B27 := F27.binds (ps := ["part"]) fun _ _ _ _ _ _ us hl => match us, hl with | [_], _ => rfl
  have F28 := fun_mk (st := s_is_program) l28 c28 k28
  have B28 := F28.binds (ps := ["thing"]) fun _ _ _ _ _ _ us hl => match us, hl with | [_], _ => rfl
  have F29 := fun_mk (st := s_need_program) l29 c29 k29
  have B29 := F29.binds (ps := ["thing"]) fun _ _ _ _ _ _ us hl => match us, hl with | [_], _ => rfl
  have F30 := fun_mk (st := s_functions_of) l30 c30 k30
  have B30 := F30.binds (ps := ["program"]) fun _ _ _ _ _ _ us hl => match us, hl with | [_], _ => rfl
  have F31 := fun_mk (st := s_has_round) l31 c31 k31
  have B31 := F31.binds (ps := ["functions", "owns", "number", "name"]) fun _ _ _ _ _ _ us hl => match us, hl with | [_, _, _, _], _ => rfl
  have F32 := fun_mk (st := s_brought) l32 c32 k32
  have B32 := F32.binds (ps := ["body"]) fun _ _ _ _ _ _ us hl => match us, hl with | [_], _ => rfl
  have F33 := fun_mk (st := s_own_names) l33 c33 k33
  have B33 := F33.binds (ps := ["functions", "number"]) fun _ _ _ _ _ _ us hl => match us, hl with | [_, _], _ => rfl
  have F34 := fun_mk (st := s_used_in) l34 c34 k34
  have B34 := F34.binds (ps := ["part"]) fun _ _ _ _ _ _ us hl => match us, hl with | [_], _ => rfl
  have F35 := fun_mk (st := s_used) l35 c35 k35
  have B35 := F35.binds (ps := ["body"]) fun _ _ _ _ _ _ us hl => match us, hl with | [_], _ => rfl
  have F36 := fun_mk (st := s_scopes_of) l36 c36 k36
  have B36 := F36.binds (ps := ["program"]) fun _ _ _ _ _ _ us hl => match us, hl with | [_], _ => rfl
  have F37 := fun_mk (st := s__law_said) l37 c37 k37
  have B37 := F37.binds (ps := ["_law_program_here"]) fun _ _ _ _ _ _ us hl => match us, hl with | [_], _ => rfl
  have F38 := fun_mk (st := s__law_holder) l38 c38 k38
  have B38 := F38.binds (ps := ["_law_rows", "_law_number_here", "_law_name"]) fun _ _ _ _ _ _ us hl => match us, hl with | [_, _, _], _ => rfl
  have F39 := fun_mk (st := s__law_wrong_name) l39 c39 k39
  have B39 := F39.binds (ps := ["_law_rows"]) fun _ _ _ _ _ _ us hl => match us, hl with | [_], _ => rfl
  have F40 := fun_mk (st := s_law) l40 c40 k40
  refine ⟨PySem.W.fnOf "law" "law" (defArgs s_law) (defBody s_law) (defScope s_law) .none kV40 dc40 pm40 an40 cd40 ct40, fun s v => .of_eq rfl, fun base _ _ => ?_⟩
  have R__law_brought := rec__law_brought (P := l.prog) (w := w) (base := base) F1 (PySem.W.mg_of X G a1) B1 T 
  have C1 : FnM l.prog w K mg base (tabA [C_LoomError, C_BadTree, C_BadText, C_BadName, C_BadCount, C_BadCode, C_NoThing]) 60 "_law_brought" 1 F__law_brought := (R__law_brought 60)
  have C2 : FnM l.prog w K mg base (tabA [C_LoomError, C_BadTree, C_BadText, C_BadName, C_BadCount, C_BadCode, C_NoThing]) 1 "_law_inner" 1 F__law_inner := .mk' F2 (PySem.W.mg_of X G a2) B2 (ok__law_inner F2 T )
  have R__law_used := rec__law_used (P := l.prog) (w := w) (base := base) F3 (PySem.W.mg_of X G a3) B3 T C2
  have C3 : FnM l.prog w K mg base (tabA [C_LoomError, C_BadTree, C_BadText, C_BadName, C_BadCount, C_BadCode, C_NoThing]) 61 "_law_used" 1 F__law_used := (R__law_used 60)
  have R__law_gathered := rec__law_gathered (P := l.prog) (w := w) (base := base) F4 (PySem.W.mg_of X G a4) B4 T C1 C2 C3
  have C4 : FnM l.prog w K mg base (tabA [C_LoomError, C_BadTree, C_BadText, C_BadName, C_BadCount, C_BadCode, C_NoThing]) 121 "_law_gathered" 3 F__law_gathered := (R__law_gathered 60)
  have C5 : FnM l.prog w K mg base (tabA [C_LoomError, C_BadTree, C_BadText, C_BadName, C_BadCount, C_BadCode, C_NoThing]) 122 "_law_all" 1 F__law_all := .mk' F5 (PySem.W.mg_of X G a5) B5 (ok__law_all F5 T C1 C4 C3)
  have C6 : FnM l.prog w K mg base (tabA [C_LoomError, C_BadTree, C_BadText, C_BadName, C_BadCount, C_BadCode, C_NoThing]) 1 "_law_cell_at" 2 F__law_cell_at := .mk' F6 (PySem.W.mg_of X G a6) B6 (ok__law_cell_at F6 T )
  have C7 : FnM l.prog w K mg base (tabA [C_LoomError, C_BadTree, C_BadText, C_BadName, C_BadCount, C_BadCode, C_NoThing]) 1 "_law_names" 2 F__law_names := .mk' F7 (PySem.W.mg_of X G a7) B7 (ok__law_names F7 T )
  have C8 : FnM l.prog w K mg base (tabA [C_LoomError, C_BadTree, C_BadText, C_BadName, C_BadCount, C_BadCode, C_NoThing]) 2 "_law_next" 1 F__law_next := .mk' F8 (PySem.W.mg_of X G a8) B8 (ok__law_next F8 T C6)
  have C9 : FnM l.prog w K mg base (tabA [C_LoomError, C_BadTree, C_BadText, C_BadName, C_BadCount, C_BadCode, C_NoThing]) 1 "_law_number" 1 F__law_number := .mk' F9 (PySem.W.mg_of X G a9) B9 (ok__law_number F9 T )
  have R__law_term := rec__law_term (P := l.prog) (w := w) (base := base) F10 (PySem.W.mg_of X G a10) B10 F11 (PySem.W.mg_of X G a11) B11 F12 (PySem.W.mg_of X G a12) B12 T C8 C9
  have C10 : FnM l.prog w K mg base (tabA [C_LoomError, C_BadTree, C_BadText, C_BadName, C_BadCount, C_BadCode, C_NoThing]) 62 "_law_term" 2 F__law_term := (R__law_term 60).1
  have C11 : FnM l.prog w K mg base (tabA [C_LoomError, C_BadTree, C_BadText, C_BadName, C_BadCount, C_BadCode, C_NoThing]) 62 "_law_body" 3 F__law_body := (R__law_term 60).2.1
  have C12 : FnM l.prog w K mg base (tabA [C_LoomError, C_BadTree, C_BadText, C_BadName, C_BadCount, C_BadCode, C_NoThing]) 62 "_law_statement" 3 F__law_statement := (R__law_term 60).2.2
  have C13 : FnM l.prog w K mg base (tabA [C_LoomError, C_BadTree, C_BadText, C_BadName, C_BadCount, C_BadCode, C_NoThing]) 63 "_law_program" 2 F__law_program := .mk' F13 (PySem.W.mg_of X G a13) B13 (ok__law_program F13 T C6 C7 C8 C12)
  have X_BadName : RaM l.prog w K mg base (tabA [C_LoomError, C_BadTree, C_BadText, C_BadName, C_BadCount, C_BadCode, C_NoThing]) 1 "BadName" 3 ["name"] := ⟨⟨_, _, _, PySem.W.mg_of X G n_BadName, oex_of ox_BadName sa_BadName s_BadName t_BadName k_BadName, in_BadName, ti_BadName, B14, ok_BadNameXX_initXX F14 T⟩⟩
  have C15 : FnM l.prog w K mg base (tabA [C_LoomError, C_BadTree, C_BadText, C_BadName, C_BadCount, C_BadCode, C_NoThing]) 1 "inner_of" 1 F_inner_of := .mk' F15 (PySem.W.mg_of X G a15) B15 (ok_inner_of F15 T )
  have R_gather := rec_gather (P := l.prog) (w := w) (base := base) F16 (PySem.W.mg_of X G a16) B16 T C15
  have C16 : FnM l.prog w K mg base (tabA [C_LoomError, C_BadTree, C_BadText, C_BadName, C_BadCount, C_BadCode, C_NoThing]) 61 "gather" 3 F_gather := (R_gather 60)
  have C17 : FnM l.prog w K mg base (tabA [C_LoomError, C_BadTree, C_BadText, C_BadName, C_BadCount, C_BadCode, C_NoThing]) 1 "has_word" 3 F_has_word := .mk' F17 (PySem.W.mg_of X G a17) B17 (ok_has_word F17 T )
  have C18 : FnM l.prog w K mg base (tabA [C_LoomError, C_BadTree, C_BadText, C_BadName, C_BadCount, C_BadCode, C_NoThing]) 1 "is_name" 1 F_is_name := .mk' F18 (PySem.W.mg_of X G a18) B18 (ok_is_name F18 T )
  have C19 : FnM l.prog w K mg base (tabA [C_LoomError, C_BadTree, C_BadText, C_BadName, C_BadCount, C_BadCode, C_NoThing]) 2 "is_names" 1 F_is_names := .mk' F19 (PySem.W.mg_of X G a19) B19 (ok_is_names F19 T C18)
  have C20 : FnM l.prog w K mg base (tabA [C_LoomError, C_BadTree, C_BadText, C_BadName, C_BadCount, C_BadCode, C_NoThing]) 1 "is_number" 1 F_is_number := .mk' F20 (PySem.W.mg_of X G a20) B20 (ok_is_number F20 T )
  have C21 : FnM l.prog w K mg base (tabA [C_LoomError, C_BadTree, C_BadText, C_BadName, C_BadCount, C_BadCode, C_NoThing]) 2 "is_simple" 1 F_is_simple := .mk' F21 (PySem.W.mg_of X G a21) B21 (ok_is_simple F21 T C17 C18 C20)
  have R_is_function := rec_is_function (P := l.prog) (w := w) (base := base) F22 (PySem.W.mg_of X G a22) B22 F23 (PySem.W.mg_of X G a23) B23 F24 (PySem.W.mg_of X G a24) B24 F25 (PySem.W.mg_of X G a25) B25 F26 (PySem.W.mg_of X G a26) B26 T C17 C18 C19 C21
  have C22 : FnM l.prog w K mg base (tabA [C_LoomError, C_BadTree, C_BadText, C_BadName, C_BadCount, C_BadCode, C_NoThing]) 62 "is_function" 2 F_is_function := (R_is_function 60).1
  have C23 : FnM l.prog w K mg base (tabA [C_LoomError, C_BadTree, C_BadText, C_BadName, C_BadCount, C_BadCode, C_NoThing]) 62 "is_term" 2 F_is_term := (R_is_function 60).2.1
  have C24 : FnM l.prog w K mg base (tabA [C_LoomError, C_BadTree, C_BadText, C_BadName, C_BadCount, C_BadCode, C_NoThing]) 62 "is_body" 3 F_is_body := (R_is_function 60).2.2.1
  have C25 : FnM l.prog w K mg base (tabA [C_LoomError, C_BadTree, C_BadText, C_BadName, C_BadCount, C_BadCode, C_NoThing]) 62 "is_short" 3 F_is_short := (R_is_function 60).2.2.2.1
  have C26 : FnM l.prog w K mg base (tabA [C_LoomError, C_BadTree, C_BadText, C_BadName, C_BadCount, C_BadCode, C_NoThing]) 62 "is_statement" 3 F_is_statement := (R_is_function 60).2.2.2.2
  have R_size_of := rec_size_of (P := l.prog) (w := w) (base := base) F27 (PySem.W.mg_of X G a27) B27 T C15
  have C27 : FnM l.prog w K mg base (tabA [C_LoomError, C_BadTree, C_BadText, C_BadName, C_BadCount, C_BadCode, C_NoThing]) 61 "size_of" 1 F_size_of := (R_size_of 60)
  have C28 : FnM l.prog w K mg base (tabA [C_LoomError, C_BadTree, C_BadText, C_BadName, C_BadCount, C_BadCode, C_NoThing]) 63 "is_program" 1 F_is_program := .mk' F28 (PySem.W.mg_of X G a28) B28 (ok_is_program F28 T C17 C24 C19 C27)
  have C29 : FnM l.prog w K mg base (tabA [C_LoomError, C_BadTree, C_BadText, C_BadName, C_BadCount, C_BadCode, C_NoThing]) 64 "need_program" 1 F_need_program := .mk' F29 (PySem.W.mg_of X G a29) B29 (ok_need_program F29 T C28)
  have C30 : FnM l.prog w K mg base (tabA [C_LoomError, C_BadTree, C_BadText, C_BadName, C_BadCount, C_BadCode, C_NoThing]) 65 "functions_of" 1 F_functions_of := .mk' F30 (PySem.W.mg_of X G a30) B30 (ok_functions_of F30 T C16 C29)
  have C31 : FnM l.prog w K mg base (tabA [C_LoomError, C_BadTree, C_BadText, C_BadName, C_BadCount, C_BadCode, C_NoThing]) 1 "has_round" 4 F_has_round := .mk' F31 (PySem.W.mg_of X G a31) B31 (ok_has_round F31 T )
  have R_brought := rec_brought (P := l.prog) (w := w) (base := base) F32 (PySem.W.mg_of X G a32) B32 T 
  have C32 : FnM l.prog w K mg base (tabA [C_LoomError, C_BadTree, C_BadText, C_BadName, C_BadCount, C_BadCode, C_NoThing]) 60 "brought" 1 F_brought := (R_brought 60)
  have C33 : FnM l.prog w K mg base (tabA [C_LoomError, C_BadTree, C_BadText, C_BadName, C_BadCount, C_BadCode, C_NoThing]) 61 "own_names" 2 F_own_names := .mk' F33 (PySem.W.mg_of X G a33) B33 (ok_own_names F33 T C32 X_BadName)
  have R_used_in := rec_used_in (P := l.prog) (w := w) (base := base) F34 (PySem.W.mg_of X G a34) B34 T C15
  have C34 : FnM l.prog w K mg base (tabA [C_LoomError, C_BadTree, C_BadText, C_BadName, C_BadCount, C_BadCode, C_NoThing]) 61 "used_in" 1 F_used_in := (R_used_in 60)
  have C35 : FnM l.prog w K mg base (tabA [C_LoomError, C_BadTree, C_BadText, C_BadName, C_BadCount, C_BadCode, C_NoThing]) 62 "used" 1 F_used := .mk' F35 (PySem.W.mg_of X G a35) B35 (ok_used F35 T C34)
  have C36 : FnM l.prog w K mg base (tabA [C_LoomError, C_BadTree, C_BadText, C_BadName, C_BadCount, C_BadCode, C_NoThing]) 66 "scopes_of" 1 F_scopes_of := .mk' F36 (PySem.W.mg_of X G a36) B36 (ok_scopes_of F36 T C30 C31 C33 C35 X_BadName)
  have C37 : FnM l.prog w K mg base (tabA [C_LoomError, C_BadTree, C_BadText, C_BadName, C_BadCount, C_BadCode, C_NoThing]) 67 "_law_said" 1 F__law_said := .mk' F37 (PySem.W.mg_of X G a37) B37 (ok__law_said F37 T C36)
  have C38 : FnM l.prog w K mg base (tabA [C_LoomError, C_BadTree, C_BadText, C_BadName, C_BadCount, C_BadCode, C_NoThing]) 1 "_law_holder" 3 F__law_holder := .mk' F38 (PySem.W.mg_of X G a38) B38 (ok__law_holder F38 T )
  have C39 : FnM l.prog w K mg base (tabA [C_LoomError, C_BadTree, C_BadText, C_BadName, C_BadCount, C_BadCode, C_NoThing]) 2 "_law_wrong_name" 1 F__law_wrong_name := .mk' F39 (PySem.W.mg_of X G a39) B39 (ok__law_wrong_name F39 T C38)
  exact topA_of (ok_law F40 T C5 C6 C13 C37 C39)
end K09
open PySem PySem.W PyProof.Rows
set_option maxHeartbeats 0 in
theorem PySem.Challenge.cw_waitloom_k09_names_refused_holds : PySem.Challenge.rw_waitloom_k09_names_refused.Holds := by
  w_on; o_law; k_head; (case hw => w_witness2)
  k_fill
  refine ML.walk_top (l := PySem.Challenge.rw_waitloom_k09_names_refused) (n := 63) (k := 123) (x := "_law_script") (CX := fun w => L2.CX PySem.Challenge.rw_waitloom_k09_names_refused.prog w) (sp := fun w => ML.spA _ K09.F_law 1) rfl (by decide) rfl ⟨rfl, by decide, by decide⟩ (fun w h Y => PySem.W.kIn_of Y) ?F (fun w H a ns hn hO hS => ML.law_spA K09.law_true hn hO hS) (fun _ _ _ _ _ h => ML.cx_end h)
  case F =>
    intro w mg fa h KX G hmg
    refine' K09.all_mk KX G hmg ?n_BadName ?a1 ?l1 ?c1 ?k1 ?a2 ?l2 ?c2 ?k2 ?a3 ?l3 ?c3 ?k3 ?a4 ?l4 ?c4 ?k4 ?a5 ?l5 ?c5 ?k5 ?a6 ?l6 ?c6 ?k6 ?a7 ?l7 ?c7 ?k7 ?a8 ?l8 ?c8 ?k8 ?a9 ?l9 ?c9 ?k9 ?a10 ?l10 ?c10 ?k10 ?a11 ?l11 ?c11 ?k11 ?a12 ?l12 ?c12 ?k12 ?a13 ?l13 ?c13 ?k13 ?in_BadName ?l14 ?c14 ?k14 ?a15 ?l15 ?c15 ?k15 ?a16 ?l16 ?c16 ?k16 ?a17 ?l17 ?c17 ?k17 ?a18 ?l18 ?c18 ?k18 ?a19 ?l19 ?c19 ?k19 ?a20 ?l20 ?c20 ?k20 ?a21 ?l21 ?c21 ?k21 ?a22 ?l22 ?c22 ?k22 ?a23 ?l23 ?c23 ?k23 ?a24 ?l24 ?c24 ?k24 ?a25 ?l25 ?c25 ?k25 ?a26 ?l26 ?c26 ?k26 ?a27 ?l27 ?c27 ?k27 ?a28 ?l28 ?c28 ?k28 ?a29 ?l29 ?c29 ?k29 ?a30 ?l30 ?c30 ?k30 ?a31 ?l31 ?c31 ?k31 ?a32 ?l32 ?c32 ?k32 ?a33 ?l33 ?c33 ?k33 ?a34 ?l34 ?c34 ?k34 ?a35 ?l35 ?c35 ?k35 ?a36 ?l36 ?c36 ?k36 ?a37 ?l37 ?c37 ?k37 ?a38 ?l38 ?c38 ?k38 ?a39 ?l39 ?c39 ?k39 ?a40 ?l40 ?c40 ?k40 ?b_ValueError ?b_all ?b_any ?b_bool ?b_dict ?b_enumerate ?b_int ?b_isinstance ?b_len ?b_list ?b_max ?b_range ?b_reversed ?b_set ?b_sorted ?b_str ?b_sum ?b_tuple ?g_GREATEST ?g_MOST_DEPTH ?g_MOST_LETTERS ?g_MOST_NAMES ?g_MOST_PARTS ?g_MOST_STATEMENTS ?g_MOST_TERMS ?g_SIGNS ?l_SIGNS ?n_BadTree ?n_LoomError ?n_BadCount ?n_BadText ?n_NoThing ?n_BadCode ?q_BadTree ?k_BadTree ?s_BadTree ?t_BadTree ?ox_BadName ?sa_BadName ?k_BadName ?s_BadName ?t_BadName ?ti_BadName ?of_BadName_name ?gb_LoomError ?rb_LoomError ?vb_LoomError ?xd_LoomError ?s_LoomError ?t_LoomError ?xd_BadCount ?s_BadCount ?t_BadCount ?xd_BadText ?s_BadText ?t_BadText ?xd_BadTree ?xd_NoThing ?s_NoThing ?t_NoThing ?xd_BadCode ?s_BadCode ?t_BadCode ?xd_BadName ?i_BadTree_LoomError ?i_BadTree_BadCount ?i_BadTree_BadText ?i_BadTree_BadTree ?i_BadTree_NoThing ?i_BadTree_BadCode ?i_BadTree_BadName ?i_BadTree_ValueError ?i_BadName_LoomError ?i_BadName_BadCount ?i_BadName_BadText ?i_BadName_BadTree ?i_BadName_NoThing ?i_BadName_BadCode ?i_BadName_BadName ?i_BadName_ValueError ?xg_BadTree ?xk_BadTree ?xa_BadTree ?xm_BadTree ?xg_BadName ?xk_BadName ?xa_BadName ?xm_BadName ?xn ?xt
    (case n_BadName => k_is)
    (case a1 => k_is)
    (case l1 => k_is)
    (case c1 => k_is)
    (case k1 => k_is)
    (case a2 => k_is)
    (case l2 => k_is)
    (case c2 => k_is)
    (case k2 => k_is)
    (case a3 => k_is)
    (case l3 => k_is)
    (case c3 => k_is)
    (case k3 => k_is)
    (case a4 => k_is)
    (case l4 => k_is)
    (case c4 => k_is)
    (case k4 => k_is)
    (case a5 => k_is)
    (case l5 => k_is)
    (case c5 => k_is)
    (case k5 => k_is)
    (case a6 => k_is)
    (case l6 => k_is)
    (case c6 => k_is)
    (case k6 => k_is)
    (case a7 => k_is)
    (case l7 => k_is)
    (case c7 => k_is)
    (case k7 => k_is)
    (case a8 => k_is)
    (case l8 => k_is)
    (case c8 => k_is)
    (case k8 => k_is)
    (case a9 => k_is)
    (case l9 => k_is)
    (case c9 => k_is)
    (case k9 => k_is)
    (case a10 => k_is)
    (case l10 => k_is)
    (case c10 => k_is)
    (case k10 => k_is)
    (case a11 => k_is)
    (case l11 => k_is)
    (case c11 => k_is)
    (case k11 => k_is)
    (case a12 => k_is)
    (case l12 => k_is)
    (case c12 => k_is)
    (case k12 => k_is)
    (case a13 => k_is)
    (case l13 => k_is)
    (case c13 => k_is)
    (case k13 => k_is)
    (case in_BadName => k_is)
    (case l14 => k_is)
    (case c14 => k_is)
    (case k14 => k_is)
    (case a15 => k_is)
    (case l15 => k_is)
    (case c15 => k_is)
    (case k15 => k_is)
    (case a16 => k_is)
    (case l16 => k_is)
    (case c16 => k_is)
    (case k16 => k_is)
    (case a17 => k_is)
    (case l17 => k_is)
    (case c17 => k_is)
    (case k17 => k_is)
    (case a18 => k_is)
    (case l18 => k_is)
    (case c18 => k_is)
    (case k18 => k_is)
    (case a19 => k_is)
    (case l19 => k_is)
    (case c19 => k_is)
    (case k19 => k_is)
    (case a20 => k_is)
    (case l20 => k_is)
    (case c20 => k_is)
    (case k20 => k_is)
    (case a21 => k_is)
    (case l21 => k_is)
    (case c21 => k_is)
    (case k21 => k_is)
    (case a22 => k_is)
    (case l22 => k_is)
    (case c22 => k_is)
    (case k22 => k_is)
    (case a23 => k_is)
    (case l23 => k_is)
    (case c23 => k_is)
    (case k23 => k_is)
    (case a24 => k_is)
    (case l24 => k_is)
    (case c24 => k_is)
    (case k24 => k_is)
    (case a25 => k_is)
    (case l25 => k_is)
    (case c25 => k_is)
    (case k25 => k_is)
    (case a26 => k_is)
    (case l26 => k_is)
    (case c26 => k_is)
    (case k26 => k_is)
    (case a27 => k_is)
    (case l27 => k_is)
    (case c27 => k_is)
    (case k27 => k_is)
    (case a28 => k_is)
    (case l28 => k_is)
    (case c28 => k_is)
    (case k28 => k_is)
    (case a29 => k_is)
    (case l29 => k_is)
    (case c29 => k_is)
    (case k29 => k_is)
    (case a30 => k_is)
    (case l30 => k_is)
    (case c30 => k_is)
    (case k30 => k_is)
    (case a31 => k_is)
    (case l31 => k_is)
    (case c31 => k_is)
    (case k31 => k_is)
    (case a32 => k_is)
    (case l32 => k_is)
    (case c32 => k_is)
    (case k32 => k_is)
    (case a33 => k_is)
    (case l33 => k_is)
    (case c33 => k_is)
    (case k33 => k_is)
    (case a34 => k_is)
    (case l34 => k_is)
    (case c34 => k_is)
    (case k34 => k_is)
    (case a35 => k_is)
    (case l35 => k_is)
    (case c35 => k_is)
    (case k35 => k_is)
    (case a36 => k_is)
    (case l36 => k_is)
    (case c36 => k_is)
    (case k36 => k_is)
    (case a37 => k_is)
    (case l37 => k_is)
    (case c37 => k_is)
    (case k37 => k_is)
    (case a38 => k_is)
    (case l38 => k_is)
    (case c38 => k_is)
    (case k38 => k_is)
    (case a39 => k_is)
    (case l39 => k_is)
    (case c39 => k_is)
    (case k39 => k_is)
    (case a40 => k_is)
    (case l40 => k_is)
    (case c40 => k_is)
    (case k40 => k_is)
    (case b_ValueError => k_is)
    (case b_all => k_is)
    (case b_any => k_is)
    (case b_bool => k_is)
    (case b_dict => k_is)
    (case b_enumerate => k_is)
    (case b_int => k_is)
    (case b_isinstance => k_is)
    (case b_len => k_is)
    (case b_list => k_is)
    (case b_max => k_is)
    (case b_range => k_is)
    (case b_reversed => k_is)
    (case b_set => k_is)
    (case b_sorted => k_is)
    (case b_str => k_is)
    (case b_sum => k_is)
    (case b_tuple => k_is)
    (case g_GREATEST => k_is)
    (case g_MOST_DEPTH => k_is)
    (case g_MOST_LETTERS => k_is)
    (case g_MOST_NAMES => k_is)
    (case g_MOST_PARTS => k_is)
    (case g_MOST_STATEMENTS => k_is)
    (case g_MOST_TERMS => k_is)
    (case g_SIGNS => k_is)
    (case l_SIGNS => k_is)
    (case n_BadTree => k_is)
    (case n_LoomError => k_is)
    (case n_BadCount => k_is)
    (case n_BadText => k_is)
    (case n_NoThing => k_is)
    (case n_BadCode => k_is)
    (case q_BadTree => k_exc)
    (case k_BadTree => k_is)
    (case s_BadTree => k_is)
    (case t_BadTree => k_is)
    (case ox_BadName => kernel_rfl)
    (case sa_BadName => k_is)
    (case k_BadName => k_is)
    (case s_BadName => k_is)
    (case t_BadName => k_is)
    (case ti_BadName => k_is)
    (case of_BadName_name => k_is)
    (case gb_LoomError => first | k_is | kernel_rfl)
    (case rb_LoomError => first | k_is | kernel_rfl)
    (case vb_LoomError => first | k_is | kernel_rfl)
    (case xd_LoomError => k_is)
    (case s_LoomError => k_is)
    (case t_LoomError => k_is)
    (case xd_BadCount => k_is)
    (case s_BadCount => k_is)
    (case t_BadCount => k_is)
    (case xd_BadText => k_is)
    (case s_BadText => k_is)
    (case t_BadText => k_is)
    (case xd_BadTree => k_is)
    (case xd_NoThing => k_is)
    (case s_NoThing => k_is)
    (case t_NoThing => k_is)
    (case xd_BadCode => k_is)
    (case s_BadCode => k_is)
    (case t_BadCode => k_is)
    (case xd_BadName => k_is)
    (case i_BadTree_LoomError => k_is)
    (case i_BadTree_BadCount => k_is)
    (case i_BadTree_BadText => k_is)
    (case i_BadTree_BadTree => k_is)
    (case i_BadTree_NoThing => k_is)
    (case i_BadTree_BadCode => k_is)
    (case i_BadTree_BadName => k_is)
    (case i_BadTree_ValueError => k_is)
    (case i_BadName_LoomError => k_is)
    (case i_BadName_BadCount => k_is)
    (case i_BadName_BadText => k_is)
    (case i_BadName_BadTree => k_is)
    (case i_BadName_NoThing => k_is)
    (case i_BadName_BadCode => k_is)
    (case i_BadName_BadName => k_is)
    (case i_BadName_ValueError => k_is)
    (case xg_BadTree => k_is)
    (case xk_BadTree => k_is)
    (case xa_BadTree => k_is)
    (case xm_BadTree => k_is)
    (case xg_BadName => k_is)
    (case xk_BadName => k_is)
    (case xa_BadName => k_is)
    (case xm_BadName => k_is)
    (case xn => k_is)
    (case xt => k_is)
