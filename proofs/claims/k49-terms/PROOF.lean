import PyProof.Rows.All
import Wide.All
import OpenK.AllK
import Wide.FinOn
import HandS.ForMost
import HandS.Wide
import HandS.TupAny
import HandS.Zip
import HandS.Rev
import HandS.IsInst
import HandS.EndBits
import HandS.Conv
import HandS.More
import HandS.Deep
import KE.KDictPairs
import PySem.Challenge.RW_courtwide_k49_terms_by_lines
set_option Elab.async false
set_option linter.all false
set_option maxRecDepth 100000
/-! Mp1: data, stores, what an evaluation answers, and how data stand in the abstract heap. -/
namespace Mp
open PySem L2
open PyProof.Rows hiding St

/-- data: numbers, texts, tuples by value; lists, dicts, instances by their place in the store -/
inductive D where
  | non | bl (b : Bool) | int (i : Int) | str (x : Str) | tup (ds : List D) | frz (ds : List D) | ref (n : Nat)
  deriving Inhabited

/-- what stands at a place of the store -/
inductive MO where
  | lst (ds : List D)
  | frz (ds : List D)
  | dK (kvs : List (Key × D))
  deriving Inhabited

abbrev Store := List MO
abbrev Env := List (Option D)

inductive R (α : Type) where
  | ok (a : α) (S : Store)
  | stuck

def R.bind {α β : Type} (x : R α) (f : α → Store → R β) : R β :=
  match x with
  | .ok a S => f a S
  | .stuck => .stuck
theorem R.bind_ok {α β : Type} {x : R α} {f : α → Store → R β} {b : β} {S : Store} (h : x.bind f = .ok b S) : ∃ a S1, x = .ok a S1 ∧ f a S1 = .ok b S := by
  cases x with
  | ok a S1 => exact ⟨a, S1, rfl, h⟩
  | stuck => cases h

/-! ### how data stand -/
/-- a tuple that is known to the object and has no dict of its own -/
def SqP (K : PySem.W.Frag) (H : Hp) (a : Addr) (vs : List V) : Prop :=
  (∃ o : Obj, H a = some (.frz o (.tup vs)) ∧ o.dict = none) ∨
    ∃ (o : Obj) (its : Array Value) (n : Nat), K.lookup a = some o ∧ o.cls = .type "tuple" ∧ o.dict = none ∧ o.data = .seq its n ∧ its.size ≤ sizeLine ∧ Vals vs its.toList
theorem SqP.sqT {K : PySem.W.Frag} {H : Hp} {a : Addr} {vs : List V} (h : SqP K H a vs) : SqT K H a vs := by
  rcases h with ⟨o, h, _⟩ | ⟨o, its, n, h1, h2, _, h3⟩
  · exact .inl (.inr ⟨o, h⟩)
  · exact .inr ⟨o, its, n, h1, h2, h3⟩
/-- a list that stays as it is -/
def SqF (K : PySem.W.Frag) (H : Hp) (a : Addr) (vs : List V) : Prop :=
  (∃ o : Obj, H a = some (.frz o (.lst vs))) ∨
    ∃ (o : Obj) (its : Array Value) (n : Nat), K.lookup a = some o ∧ o.cls = .type "list" ∧ o.dict = none ∧ o.data = .seq its n ∧ its.size ≤ sizeLine ∧ Vals vs its.toList
theorem SqF.sqL {K : PySem.W.Frag} {H : Hp} {a : Addr} {vs : List V} (h : SqF K H a vs) : SqL K H a vs := by
  rcases h with ⟨o, h⟩ | h
  · exact .inl (.inr ⟨o, h⟩)
  · exact .inr h
mutual
def RepV (K : PySem.W.Frag) (H : Hp) (m : List Addr) : D → V → Prop
  | .non, v => v = .non
  | .bl b, v => v = .bl b
  | .int i, v => v = .int i
  | .str x, v => v = .str x
  | .tup ds, v => ∃ a vs, v = .ref a ∧ SqP K H a vs ∧ RepL K H m ds vs
  | .frz ds, v => ds.length ≤ sizeLine ∧ ∃ a vs, v = .ref a ∧ SqF K H a vs ∧ RepL K H m ds vs
  | .ref n, v => ∃ a, m[n]? = some a ∧ v = .ref a
def RepL (K : PySem.W.Frag) (H : Hp) (m : List Addr) : List D → List V → Prop
  | [], vs => vs = []
  | d :: ds, vs => ∃ v r, vs = v :: r ∧ RepV K H m d v ∧ RepL K H m ds r
end

/-- what an evaluation does to the abstract heap: places of the store are added, all that is tracked elsewhere stands -/
structure Ext (m : List Addr) (H : Hp) (m' : List Addr) (H' : Hp) : Prop where
  pre : ∃ t, m' = m ++ t ∧ ∀ a ∈ t, H a = none
  out : ∀ a o, H a = some o → a ∉ m → H' a = some o
  tups : ∀ a xs, H a = some (.tup xs) → H' a = some (.tup xs)
  frzs : ∀ a o u, H a = some (.frz o u) → H' a = some (.frz o u)

theorem Ext.refl (m : List Addr) (H : Hp) : Ext m H m H := ⟨⟨[], by simp, by simp⟩, fun _ _ h _ => h, fun _ _ h => h, fun _ _ _ h => h⟩
theorem Ext.notin {m m' : List Addr} {H H' : Hp} (e : Ext m H m' H') {a : Addr} {o : HO} (h : H a = some o) (n : a ∉ m) : a ∉ m' := by
  obtain ⟨t, rfl, ht⟩ := e.pre
  intro hm
  rcases List.mem_append.mp hm with q | q
  · exact n q
  · rw [ht a q] at h; cases h
theorem Ext.trans {m m1 m2 : List Addr} {H H1 H2 : Hp} (a : Ext m H m1 H1) (b : Ext m1 H1 m2 H2) (k : ∀ x o, H x = some o → ∃ o', H1 x = some o') : Ext m H m2 H2 := by
  obtain ⟨t, rfl, ht⟩ := id a.pre
  obtain ⟨u, rfl, hu⟩ := id b.pre
  refine ⟨⟨t ++ u, by simp, fun x hx => ?_⟩, fun x o h n => ?_, fun x xs h => b.tups _ _ (a.tups _ _ h), fun x o u h => b.frzs _ _ _ (a.frzs _ _ _ h)⟩
  · rcases List.mem_append.mp hx with q | q
    · exact ht x q
    · cases e : H x with
      | none => rfl
      | some o =>
        obtain ⟨o', e'⟩ := k x o e
        rw [hu x q] at e'; cases e'
  · exact b.out x o (a.out x o h n) (a.notin h n)

/-- what data need to stand as they stood -/
structure Kp (m : List Addr) (H : Hp) (m' : List Addr) (H' : Hp) : Prop where
  pre : ∃ t, m' = m ++ t
  tups : ∀ a xs, H a = some (.tup xs) → H' a = some (.tup xs)
  frzs : ∀ a o u, H a = some (.frz o u) → H' a = some (.frz o u)
theorem Ext.kp {m m' : List Addr} {H H' : Hp} (e : Ext m H m' H') : Kp m H m' H' := ⟨let ⟨t, h, _⟩ := e.pre; ⟨t, h⟩, e.tups, e.frzs⟩

theorem SqT.kp {K : PySem.W.Frag} {m m' : List Addr} {H H' : Hp} {a : Addr} {xs : List V} (e : Kp m H m' H') (h : SqT K H a xs) : SqT K H' a xs := by
  rcases h with (h | ⟨o, h⟩) | h
  · exact .inl (.inl (e.tups _ _ h))
  · exact .inl (.inr ⟨o, e.frzs _ _ _ h⟩)
  · exact .inr h

theorem SqP.kp {K : PySem.W.Frag} {m m' : List Addr} {H H' : Hp} {a : Addr} {xs : List V} (e : Kp m H m' H') (h : SqP K H a xs) : SqP K H' a xs := by
  rcases h with ⟨o, h, d⟩ | h
  · exact .inl ⟨o, e.frzs _ _ _ h, d⟩
  · exact .inr h

theorem SqF.kp {K : PySem.W.Frag} {m m' : List Addr} {H H' : Hp} {a : Addr} {xs : List V} (e : Kp m H m' H') (h : SqF K H a xs) : SqF K H' a xs := by
  rcases h with ⟨o, h⟩ | h
  · exact .inl ⟨o, e.frzs _ _ _ h⟩
  · exact .inr h
mutual
theorem RepV.kp {K : PySem.W.Frag} {m m' : List Addr} {H H' : Hp} (e : Kp m H m' H') : ∀ (d : D) (v : V), RepV K H m d v → RepV K H' m' d v
  | .non, _, h => by simpa [RepV] using h
  | .bl _, _, h => by simpa [RepV] using h
  | .int _, _, h => by simpa [RepV] using h
  | .str _, _, h => by simpa [RepV] using h
  | .tup ds, v, h => by
    simp only [RepV] at h ⊢
    obtain ⟨a, vs, rfl, q, r⟩ := h
    exact ⟨a, vs, rfl, SqP.kp e q, RepL.kp e ds vs r⟩
  | .frz ds, v, h => by
    simp only [RepV] at h ⊢
    obtain ⟨z, a, vs, rfl, q, r⟩ := h
    exact ⟨z, a, vs, rfl, SqF.kp e q, RepL.kp e ds vs r⟩
  | .ref n, v, h => by
    simp only [RepV] at h ⊢
    obtain ⟨a, q, rfl⟩ := h
    obtain ⟨t, rfl⟩ := e.pre
    exact ⟨a, by rw [List.getElem?_append_left (List.getElem?_eq_some_iff.mp q).1]; exact q, rfl⟩
theorem RepL.kp {K : PySem.W.Frag} {m m' : List Addr} {H H' : Hp} (e : Kp m H m' H') : ∀ (ds : List D) (vs : List V), RepL K H m ds vs → RepL K H' m' ds vs
  | [], vs, h => by simpa [RepL] using h
  | d :: ds, vs, h => by
    simp only [RepL] at h ⊢
    obtain ⟨v, r, rfl, q, t⟩ := h
    exact ⟨v, r, rfl, RepV.kp e d v q, RepL.kp e ds r t⟩
end
theorem RepV.ext {K : PySem.W.Frag} {m m' : List Addr} {H H' : Hp} (e : Ext m H m' H') (d : D) (v : V) (h : RepV K H m d v) : RepV K H' m' d v := RepV.kp e.kp d v h
theorem RepL.ext {K : PySem.W.Frag} {m m' : List Addr} {H H' : Hp} (e : Ext m H m' H') (ds : List D) (vs : List V) (h : RepL K H m ds vs) : RepL K H' m' ds vs := RepL.kp e.kp ds vs h

section
variable {K : PySem.W.Frag} {H H' : Hp} {m m' : List Addr}
theorem RepL.nil : RepL K H m [] [] := by simp [RepL]
theorem RepL.cons {d : D} {v : V} {ds : List D} {vs : List V} (a : RepV K H m d v) (b : RepL K H m ds vs) : RepL K H m (d :: ds) (v :: vs) := by
  simp only [RepL]; exact ⟨v, vs, rfl, a, b⟩
theorem RepL.nil_inv {vs : List V} (h : RepL K H m [] vs) : vs = [] := by simpa [RepL] using h
theorem RepL.cons_inv {d : D} {ds : List D} {vs : List V} (h : RepL K H m (d :: ds) vs) : ∃ v r, vs = v :: r ∧ RepV K H m d v ∧ RepL K H m ds r := by simpa [RepL] using h
theorem RepL.length : ∀ {ds : List D} {vs : List V}, RepL K H m ds vs → ds.length = vs.length
  | [], _, h => by rw [h.nil_inv]; rfl
  | d :: ds, _, h => by
    obtain ⟨v, r, rfl, _, t⟩ := h.cons_inv
    simp [RepL.length t]
theorem RepL.get : ∀ {ds : List D} {vs : List V} {i : Nat} {d : D}, RepL K H m ds vs → ds[i]? = some d → ∃ v, vs[i]? = some v ∧ RepV K H m d v
  | [], _, _, _, _, e => by simp at e
  | d :: ds, _, 0, x, h, e => by
    obtain ⟨v, r, rfl, q, _⟩ := h.cons_inv
    simp at e; subst e
    exact ⟨v, rfl, q⟩
  | d :: ds, _, i + 1, x, h, e => by
    obtain ⟨v, r, rfl, _, t⟩ := h.cons_inv
    obtain ⟨u, h1, h2⟩ := RepL.get (i := i) (d := x) t (by simpa using e)
    exact ⟨u, by simpa using h1, h2⟩
theorem RepL.append : ∀ {ds es : List D} {vs us : List V}, RepL K H m ds vs → RepL K H m es us → RepL K H m (ds ++ es) (vs ++ us)
  | [], _, _, _, h, q => by rw [h.nil_inv]; exact q
  | d :: ds, _, _, _, h, q => by
    obtain ⟨v, r, rfl, p, t⟩ := h.cons_inv
    exact RepL.cons p (RepL.append t q)
theorem RepL.take : ∀ {ds : List D} {vs : List V} (n : Nat), RepL K H m ds vs → RepL K H m (ds.take n) (vs.take n)
  | _, _, 0, _ => by simpa using RepL.nil
  | [], _, _ + 1, h => by rw [h.nil_inv]; simpa using RepL.nil
  | d :: ds, _, n + 1, h => by
    obtain ⟨v, r, rfl, p, t⟩ := h.cons_inv
    exact RepL.cons p (RepL.take n t)
theorem RepL.drop : ∀ {ds : List D} {vs : List V} (n : Nat), RepL K H m ds vs → RepL K H m (ds.drop n) (vs.drop n)
  | _, _, 0, h => by simpa using h
  | [], _, _ + 1, h => by rw [h.nil_inv]; simpa using RepL.nil
  | d :: ds, _, n + 1, h => by
    obtain ⟨v, r, rfl, p, t⟩ := h.cons_inv
    exact RepL.drop n t
theorem RepL.set : ∀ {ds : List D} {vs : List V} {d : D} {v : V} (n : Nat), RepL K H m ds vs → RepV K H m d v → RepL K H m (ds.set n d) (vs.set n v)
  | [], _, _, _, n, h, _ => by rw [h.nil_inv]; simpa using RepL.nil
  | d :: ds, _, _, _, 0, h, q => by
    obtain ⟨v, r, rfl, p, t⟩ := h.cons_inv
    exact RepL.cons q t
  | d :: ds, _, _, _, n + 1, h, q => by
    obtain ⟨v, r, rfl, p, t⟩ := h.cons_inv
    exact RepL.cons p (RepL.set n t q)
theorem RepL.eraseIdx : ∀ {ds : List D} {vs : List V} (n : Nat), RepL K H m ds vs → RepL K H m (ds.eraseIdx n) (vs.eraseIdx n)
  | [], _, n, h => by rw [h.nil_inv]; simpa using RepL.nil
  | d :: ds, _, 0, h => by
    obtain ⟨v, r, rfl, p, t⟩ := h.cons_inv
    exact t
  | d :: ds, _, n + 1, h => by
    obtain ⟨v, r, rfl, p, t⟩ := h.cons_inv
    exact RepL.cons p (RepL.eraseIdx n t)
end

/-! ### keys and dicts -/
def KRep (K : PySem.W.Frag) (H : Hp) (m : List Addr) : List (Key × D) → List (Key × V) → Prop
  | [], us => us = []
  | (k, d) :: r, us => ∃ v t, us = (k, v) :: t ∧ RepV K H m d v ∧ KRep K H m r t
theorem KRep.kp {K : PySem.W.Frag} {m m' : List Addr} {H H' : Hp} (e : Kp m H m' H') : ∀ {ks : List (Key × D)} {us : List (Key × V)}, KRep K H m ks us → KRep K H' m' ks us
  | [], _, h => h
  | (k, d) :: r, _, h => by
    obtain ⟨v, t, rfl, q, s⟩ := h
    exact ⟨v, t, rfl, RepV.kp e d v q, KRep.kp e s⟩
theorem KRep.ext {K : PySem.W.Frag} {m m' : List Addr} {H H' : Hp} (e : Ext m H m' H') {ks : List (Key × D)} {us : List (Key × V)} (h : KRep K H m ks us) : KRep K H' m' ks us := KRep.kp e.kp h

/-- what stands at the place's address -/
def RepO (K : PySem.W.Frag) (H : Hp) (m : List Addr) (a : Addr) : MO → Prop
  | .lst ds => ds.length ≤ sizeLine ∧ ∃ vs, H a = some (.lst vs) ∧ RepL K H m ds vs
  | .frz ds => ds.length ≤ sizeLine ∧ ∃ o vs, H a = some (.frz o (.lst vs)) ∧ RepL K H m ds vs
  | .dK kvs => kvs.length ≤ sizeLine ∧ ∃ us, H a = some (.dK us) ∧ KRep K H m kvs us

/-- the store stands in the abstract heap, by the addresses m -/
structure SOk (K : PySem.W.Frag) (H : Hp) (m : List Addr) (S : Store) : Prop where
  len : m.length = S.length
  nd : m.Nodup
  at_ : ∀ (n : Nat) (o : MO), S[n]? = some o → ∃ a, m[n]? = some a ∧ RepO K H m a o

theorem RepO.isAt {K : PySem.W.Frag} {H : Hp} {m : List Addr} {a : Addr} {o : MO} (h : RepO K H m a o) : ∃ u, H a = some u ∧ (∀ xs, u ≠ .tup xs) ∧ (∀ b p, u ≠ .frz b (.tup p)) := by
  cases o with
  | lst ds => obtain ⟨_, vs, e, _⟩ := h; exact ⟨_, e, by simp, by simp⟩
  | frz ds => obtain ⟨_, o, vs, e, _⟩ := h; exact ⟨_, e, by simp, by simp⟩
  | dK kvs => obtain ⟨_, us, e, _⟩ := h; exact ⟨_, e, by simp, by simp⟩

section
variable {K : PySem.W.Frag} {H H' : Hp} {m m' : List Addr} {S : Store}
theorem SOk.mem (h : SOk K H m S) {a : Addr} (ha : a ∈ m) : ∃ u, H a = some u ∧ ∀ xs, u ≠ .tup xs := by
  obtain ⟨n, hn, e⟩ := List.mem_iff_getElem.mp ha
  have hn' : n < S.length := by rw [← h.len]; exact hn
  obtain ⟨b, e1, e2⟩ := h.at_ n S[n] (List.getElem?_eq_getElem hn')
  rw [List.getElem?_eq_getElem hn, e] at e1
  cases e1
  obtain ⟨u, q, r, _⟩ := e2.isAt
  exact ⟨u, q, r⟩
theorem SOk.fresh (h : SOk K H m S) {p : Addr} (hp : H p = none) : p ∉ m := fun q => by
  obtain ⟨u, e, _⟩ := h.mem q
  rw [hp] at e; cases e
/-- a new object that is not of the store: a tuple -/
theorem Ext.updT {p : Addr} {o : HO} (hp : H p = none) : Ext m H m (upd H p o) :=
  ⟨⟨[], by simp, by simp⟩, fun a u h _ => by rw [upd_ne (ne_of_none h hp)]; exact h, fun a xs h => by rw [upd_ne (ne_of_none h hp)]; exact h, fun a b u h => by rw [upd_ne (ne_of_none h hp)]; exact h⟩
theorem Ext.all (k : ∀ a u, H a = some u → H' a = some u) : Ext m H m H' := ⟨⟨[], by simp, by simp⟩, fun a u h _ => k a u h, fun a xs h => k _ _ h, fun a b u h => k _ _ h⟩
theorem RepO.kp {a : Addr} {o : MO} (e : Kp m H m' H') (hk : ∀ u, H a = some u → H' a = some u) (h : RepO K H m a o) : RepO K H' m' a o := by
  cases o with
  | lst ds => obtain ⟨z, vs, q, r⟩ := h; exact ⟨z, vs, hk _ q, RepL.kp e _ _ r⟩
  | frz ds => obtain ⟨z, o, vs, q, r⟩ := h; exact ⟨z, o, vs, hk _ q, RepL.kp e _ _ r⟩
  | dK kvs => obtain ⟨z, us, q, r⟩ := h; exact ⟨z, us, hk _ q, KRep.kp e r⟩
theorem RepO.ext {a : Addr} {o : MO} (e : Ext m H m' H') (hk : ∀ u, H a = some u → H' a = some u) (h : RepO K H m a o) : RepO K H' m' a o := RepO.kp e.kp hk h
theorem SOk.keep (h : SOk K H m S) (k : ∀ a u, H a = some u → H' a = some u) : SOk K H' m S :=
  ⟨h.len, h.nd, fun n o e => let ⟨a, e1, e2⟩ := h.at_ n o e; ⟨a, e1, e2.ext (Ext.all k) (k a)⟩⟩
theorem SOk.updT (h : SOk K H m S) {p : Addr} {o : HO} (hp : H p = none) : SOk K (upd H p o) m S :=
  h.keep fun a u e => by rw [upd_ne (ne_of_none e hp)]; exact e
theorem keep_upd {p : Addr} {o : HO} (hp : H p = none) : ∀ a u, H a = some u → (upd H p o) a = some u := fun a u e => by rw [upd_ne (ne_of_none e hp)]; exact e

/-- a new object of the store -/
theorem Ext.push {p : Addr} {o : HO} (hp : H p = none) : Ext m H (m ++ [p]) (upd H p o) :=
  ⟨⟨[p], rfl, fun a ha => by rw [List.mem_singleton.mp ha]; exact hp⟩, fun a u h _ => keep_upd hp a u h, fun a xs h => keep_upd hp _ _ h, fun a b u h => keep_upd hp _ _ h⟩
theorem SOk.push (h : SOk K H m S) {p : Addr} {o : HO} {x : MO} (hp : H p = none) (hx : RepO K (upd H p o) (m ++ [p]) p x) : SOk K (upd H p o) (m ++ [p]) (S ++ [x]) := by
  refine ⟨by simp [h.len], ?_, fun n y e => ?_⟩
  · rw [List.nodup_append]
    refine ⟨h.nd, by simp, fun a ha b hb => ?_⟩
    rw [List.mem_singleton.mp hb]
    rintro rfl
    exact h.fresh hp ha
  · by_cases hn : n < S.length
    · rw [List.getElem?_append_left hn] at e
      obtain ⟨a, e1, e2⟩ := h.at_ n y e
      exact ⟨a, by rw [List.getElem?_append_left (by rw [h.len]; exact hn)]; exact e1, e2.ext (Ext.push hp) (keep_upd hp a)⟩
    · have hn2 : n = S.length := by
        have := (List.getElem?_eq_some_iff.mp e).1
        simp at this
        omega
      subst hn2
      simp at e
      subst e
      refine ⟨p, ?_, hx⟩
      rw [← h.len]; simp
theorem RepV.push_ref (h : SOk K H m S) {p : Addr} {H' : Hp} : RepV K H' (m ++ [p]) (.ref S.length) (.ref p) := by
  simp only [RepV]
  exact ⟨p, by rw [← h.len]; simp, rfl⟩

/-- an object of the store is written -/
theorem Ext.write {a : Addr} {o : HO} (ha : a ∈ m) (ht : ∀ xs, H a ≠ some (.tup xs)) (hf : ∀ b u, H a ≠ some (.frz b u)) : Ext m H m (upd H a o) :=
  ⟨⟨[], by simp, by simp⟩, fun b u h n => by rw [upd_ne (by rintro rfl; exact n ha)]; exact h,
    fun b xs h => by rw [upd_ne (by rintro rfl; exact ht xs h)]; exact h, fun b x u h => by rw [upd_ne (by rintro rfl; exact hf x u h)]; exact h⟩
theorem SOk.write (h : SOk K H m S) {n : Nat} {a : Addr} {o : HO} {x : MO} (ha : m[n]? = some a) (ht : ∀ xs, H a ≠ some (.tup xs)) (hf : ∀ b u, H a ≠ some (.frz b u)) (hx : RepO K (upd H a o) m a x) : SOk K (upd H a o) m (S.set n x) := by
  have hm : a ∈ m := List.mem_of_getElem? ha
  refine ⟨by simp [h.len], h.nd, fun k y e => ?_⟩
  by_cases hk : k = n
  · subst hk
    have hl : k < S.length := by
      have := (List.getElem?_eq_some_iff.mp e).1
      simpa using this
    rw [List.getElem?_set_self hl] at e
    cases e
    exact ⟨a, ha, hx⟩
  · rw [List.getElem?_set_ne (Ne.symm hk)] at e
    obtain ⟨b, e1, e2⟩ := h.at_ k y e
    have hne : b ≠ a := by
      rintro rfl
      have h1 := (List.getElem?_eq_some_iff.mp e1).1
      have h2 := (List.getElem?_eq_some_iff.mp ha).1
      have q : m[k] = m[n] := by
        have a1 := (List.getElem?_eq_some_iff.mp e1).2
        have a2 := (List.getElem?_eq_some_iff.mp ha).2
        rw [a1, a2]
      exact hk ((List.getElem_inj h.nd).mp q)
    exact ⟨b, e1, e2.ext (Ext.write hm ht hf) fun u hu => by rw [upd_ne hne]; exact hu⟩

/-! ### one object left out (a dict or a list that is being made) -/
def mask (p : Addr) (H : Hp) : Hp := fun a => if a = p then none else H a
theorem mask_self {p : Addr} : mask p H p = none := by simp [mask]
theorem mask_ne {p a : Addr} (h : a ≠ p) : mask p H a = H a := by simp [mask, h]
theorem mask_some {p a : Addr} {o : HO} (h : mask p H a = some o) : a ≠ p ∧ H a = some o := by
  by_cases e : a = p
  · subst e; rw [mask_self] at h; cases h
  · rw [mask_ne e] at h; exact ⟨e, h⟩
theorem mask_upd {p : Addr} {o : HO} : upd (mask p H) p o = upd H p o := by
  funext a
  by_cases e : a = p
  · subst e; rw [upd_same, upd_same]
  · rw [upd_ne e, upd_ne e, mask_ne e]
theorem mask_fresh {p : Addr} {o : HO} (h : H p = none) : mask p (upd H p o) = H := by
  funext a
  by_cases e : a = p
  · subst e; rw [mask_self, h]
  · rw [mask_ne e, upd_ne e]
/-- neither a tuple nor a frozen thing -/
def Plain (o : Option HO) : Prop := (∀ xs, o ≠ some (.tup xs)) ∧ ∀ b u, o ≠ some (.frz b u)
theorem Kp.mask {p : Addr} (h : Plain (H p)) : Kp m H m (mask p H) := by
  refine ⟨⟨[], by simp⟩, fun a xs e => ?_, fun a o u e => ?_⟩
  · rw [mask_ne (by rintro rfl; exact h.1 xs e)]; exact e
  · rw [mask_ne (by rintro rfl; exact h.2 o u e)]; exact e
theorem Kp.unmask {p : Addr} : Kp m (Mp.mask p H) m H := ⟨⟨[], by simp⟩, fun a xs e => (mask_some e).2, fun a o u e => (mask_some e).2⟩
theorem SOk.mask (s : SOk K H m S) {p : Addr} (h : Plain (H p)) (n : p ∉ m) : SOk K (Mp.mask p H) m S :=
  ⟨s.len, s.nd, fun k o e => let ⟨a, e1, e2⟩ := s.at_ k o e; ⟨a, e1, e2.kp (Kp.mask h) fun u q => by rw [mask_ne (by rintro rfl; exact n (List.mem_of_getElem? e1))]; exact q⟩⟩
theorem SOk.unmask {p : Addr} (s : SOk K (Mp.mask p H) m S) : SOk K H m S := s.keep fun a u e => (mask_some e).2
theorem Ext.mask {p : Addr} (e : Ext m H m' H') : Ext m (Mp.mask p H) m' (Mp.mask p H') := by
  refine ⟨?_, fun a o q n => ?_, fun a xs q => ?_, fun a o u q => ?_⟩
  · obtain ⟨t, h, k⟩ := e.pre
    refine ⟨t, h, fun a ha => ?_⟩
    by_cases ep : a = p
    · subst ep; exact mask_self
    · rw [mask_ne ep]; exact k a ha
  · obtain ⟨h1, h2⟩ := mask_some q
    rw [mask_ne h1]; exact e.out a o h2 n
  · obtain ⟨h1, h2⟩ := mask_some q
    rw [mask_ne h1]; exact e.tups a xs h2
  · obtain ⟨h1, h2⟩ := mask_some q
    rw [mask_ne h1]; exact e.frzs a o u h2
end
end Mp

set_option Elab.async false
set_option linter.all false
set_option maxRecDepth 100000
set_option maxHeartbeats 4000000
/-! Mp2: readings by an evaluation, rules for expressions. -/
namespace Mp
open PySem L2
open PyProof.Rows hiding St

theorem Ext.then {K : PySem.W.Frag} {m m1 m2 : List Addr} {H H1 H2 : Hp} {S1 : Store} (a : Ext m H m1 H1) (s : SOk K H1 m1 S1) (b : Ext m1 H1 m2 H2) : Ext m H m2 H2 := by
  refine a.trans b fun x o e => ?_
  by_cases hx : x ∈ m
  · obtain ⟨t, rfl, _⟩ := id a.pre
    obtain ⟨u, q, _⟩ := s.mem (List.mem_append_left _ hx)
    exact ⟨u, q⟩
  · exact ⟨o, a.out x o e hx⟩

/-- the names' values -/
structure RepE (K : PySem.W.Frag) (H : Hp) (m : List Addr) (ρ : Env) (σ : St) : Prop where
  len : ρ.length = σ.length
  at_ : ∀ (i : Nat) (d : D), ρ[i]? = some (some d) → ∃ v, σ[i]? = some (some v) ∧ RepV K H m d v
theorem RepE.ext {K : PySem.W.Frag} {m m' : List Addr} {H H' : Hp} {ρ : Env} {σ : St} (r : RepE K H m ρ σ) (e : Ext m H m' H') : RepE K H' m' ρ σ :=
  ⟨r.len, fun i d h => let ⟨v, a, b⟩ := r.at_ i d h; ⟨v, a, RepV.ext e d v b⟩⟩
theorem RepE.set {K : PySem.W.Frag} {m : List Addr} {H : Hp} {ρ : Env} {σ : St} {d : D} {v : V} (r : RepE K H m ρ σ) (i : Nat) (h : RepV K H m d v) : RepE K H m (ρ.set i (some d)) (σ.set i (some v)) := by
  refine ⟨by simp [r.len], fun j x e => ?_⟩
  by_cases hj : i = j
  · subst hj
    by_cases hi : i < ρ.length
    · rw [List.getElem?_set_self hi] at e
      cases e
      exact ⟨v, List.getElem?_set_self (by rw [← r.len]; exact hi), h⟩
    · rw [List.getElem?_eq_none (by simpa using hi)] at e; cases e
  · rw [List.getElem?_set_ne hj] at e
    obtain ⟨u, a, b⟩ := r.at_ j x e
    exact ⟨u, by rw [List.getElem?_set_ne hj]; exact a, b⟩
/-- names forgotten -/
def wipeD (ρ : Env) : List Nat → Env
  | [] => ρ
  | v :: vs => (wipeD ρ vs).set v none
theorem RepE.wipe {K : PySem.W.Frag} {m : List Addr} {H : Hp} {ρ : Env} {σ : St} (r : RepE K H m ρ σ) : ∀ vs : List Nat, RepE K H m (wipeD ρ vs) (L2.wipe σ vs)
  | [] => r
  | v :: vs => by
    have ih := RepE.wipe r vs
    refine ⟨by simp [wipeD, L2.wipe, ih.len], fun j x e => ?_⟩
    unfold wipeD at e
    by_cases hj : v = j
    · subst hj
      by_cases hi : v < (wipeD ρ vs).length
      · rw [List.getElem?_set_self hi] at e; cases e
      · rw [List.getElem?_eq_none (by simpa using hi)] at e; cases e
    · rw [List.getElem?_set_ne hj] at e
      obtain ⟨u, a, b⟩ := ih.at_ j x e
      exact ⟨u, by unfold L2.wipe; rw [List.getElem?_set_ne hj]; exact a, b⟩

abbrev DE := Env → Store → R D
abbrev DA := Env → Store → R (List D)
abbrev DT := Env → Store → R Bool

def tD (K : PySem.W.Frag) (f : DE) : TE := fun σ H Q => ∃ m S ρ d S', SOk K H m S ∧ RepE K H m ρ σ ∧ f ρ S = .ok d S' ∧
  ∀ v H' m', Ext m H m' H' → SOk K H' m' S' → RepV K H' m' d v → Q v H'
def tDA (K : PySem.W.Frag) (f : DA) : TA := fun σ H Q => ∃ m S ρ ds S', SOk K H m S ∧ RepE K H m ρ σ ∧ f ρ S = .ok ds S' ∧
  ∀ vs H' m', Ext m H m' H' → SOk K H' m' S' → RepL K H' m' ds vs → Q vs H'
def tDT (K : PySem.W.Frag) (f : DT) : TT := fun σ H Q => ∃ m S ρ b S', SOk K H m S ∧ RepE K H m ρ σ ∧ f ρ S = .ok b S' ∧
  ∀ H' m', Ext m H m' H' → SOk K H' m' S' → Q b H'

section
variable {X : Cx}
theorem PE.imp {e : Expr} {t t' : TE} (h : PE X e t) (k : ∀ σ H Q, t' σ H Q → t σ H Q) : PE X e t' := ⟨fun pins s σ H Q I q => h.run pins s σ H Q I (k σ H Q q)⟩
theorem PE.or {e : Expr} {t t' : TE} (h : PE X e t) (h' : PE X e t') : PE X e (fun σ H Q => t σ H Q ∨ t' σ H Q) :=
  ⟨fun pins s σ H Q I q => q.elim (h.run pins s σ H Q I) (h'.run pins s σ H Q I)⟩
theorem PT.imp {e : Expr} {t t' : TT} (h : PT X e t) (k : ∀ σ H Q, t' σ H Q → t σ H Q) : PT X e t' := ⟨fun pins s σ H Q I q => h.run pins s σ H Q I (k σ H Q q)⟩
theorem PW.imp {e : Expr} {t t' : TT} (h : PW X e t) (k : ∀ σ H Q, t' σ H Q → t σ H Q) : PW X e t' := ⟨fun wh pins s σ H Q I q => h.run wh pins s σ H Q I (k σ H Q q)⟩
theorem PA.imp {es : List Expr} {t t' : TA} (h : PA X es t) (k : ∀ σ H Q, t' σ H Q → t σ H Q) : PA X es t' := ⟨fun pos pins s σ H Q I q => h.run pos pins s σ H Q I (k σ H Q q)⟩
theorem PC.imp {op : CmpOp} {a b : Expr} {t t' : TE} (h : PC X op a b t) (k : ∀ σ H Q, t' σ H Q → t σ H Q) : PC X op a b t' := ⟨fun pins s σ H Q I q => h.run pins s σ H Q I (k σ H Q q)⟩
theorem PC.or {op : CmpOp} {a b : Expr} {t t' : TE} (h : PC X op a b t) (h' : PC X op a b t') : PC X op a b (fun σ H Q => t σ H Q ∨ t' σ H Q) :=
  ⟨fun pins s σ H Q I q => q.elim (h.run pins s σ H Q I) (h'.run pins s σ H Q I)⟩
theorem PS.imp {st : Stmt} {t t' : TS} (h : PS X st t) (k : ∀ D σ H, t' D σ H → t D σ H) : PS X st t' := ⟨fun pins s σ H D I q => h.run pins s σ H D I (k D σ H q)⟩
theorem PSs.imp {st : List Stmt} {t t' : TS} (h : PSs X st t) (k : ∀ D σ H, t' D σ H → t D σ H) : PSs X st t' := ⟨fun pins s σ H D I q => h.run pins s σ H D I (k D σ H q)⟩
end

/-! ### the evaluation's words -/
def eSlot (i : Nat) : DE := fun ρ S => match ρ[i]? with
  | some (some d) => .ok d S
  | _ => .stuck
def eConst (d : D) : DE := fun _ S => .ok d S
def eUn (f : D → Store → R D) (a : DE) : DE := fun ρ S => (a ρ S).bind f
def eBin (f : D → D → Store → R D) (a b : DE) : DE := fun ρ S => (a ρ S).bind fun x S1 => (b ρ S1).bind fun y S2 => f x y S2
def aNil : DA := fun _ S => .ok [] S
def aCons (a : DE) (r : DA) : DA := fun ρ S => (a ρ S).bind fun x S1 => (r ρ S1).bind fun xs S2 => .ok (x :: xs) S2
def eTup (a : DA) : DE := fun ρ S => (a ρ S).bind fun ds S1 => .ok (.tup ds) S1
def eLst (a : DA) : DE := fun ρ S => (a ρ S).bind fun ds S1 => .ok (.ref S1.length) (S1 ++ [.lst ds])
def eApp (f : List D → Store → R D) (a : DA) : DE := fun ρ S => (a ρ S).bind f
def eIf (t : DT) (a b : DE) : DE := fun ρ S => (t ρ S).bind fun c S1 => if c = true then a ρ S1 else b ρ S1
def eBool (t : DT) : DE := fun ρ S => (t ρ S).bind fun c S1 => .ok (.bl c) S1
def tOfE (a : DE) : DT := fun ρ S => (a ρ S).bind fun x S1 => match x with
  | .bl c => .ok c S1
  | _ => .stuck
def tAndD (a b : DT) : DT := fun ρ S => (a ρ S).bind fun c S1 => if c = true then b ρ S1 else .ok false S1
def tOrD (a b : DT) : DT := fun ρ S => (a ρ S).bind fun c S1 => if c = true then .ok true S1 else b ρ S1
def tNotD (a : DT) : DT := fun ρ S => (a ρ S).bind fun c S1 => .ok (!c) S1
/-- and, or as values: all but the last True or False -/
def eAnd (a b : DE) : DE := fun ρ S => (a ρ S).bind fun x S1 => match x with
  | .bl true => b ρ S1
  | .bl false => .ok (.bl false) S1
  | _ => .stuck
def eOr (a b : DE) : DE := fun ρ S => (a ρ S).bind fun x S1 => match x with
  | .bl true => .ok (.bl true) S1
  | .bl false => b ρ S1
  | _ => .stuck
def eNot (a : DE) : DE := fun ρ S => (a ρ S).bind fun x S1 => match x with
  | .bl c => .ok (.bl (!c)) S1
  | _ => .stuck

/-! ### an operation by data, over a reading by values -/
def Op1 (K : PySem.W.Frag) (r : V → Hp → VK → Prop) (f : D → Store → R D) : Prop := ∀ (H : Hp) (m : List Addr) (S : Store) (x : V) (d c : D) (S' : Store) (Q : VK), SOk K H m S → RepV K H m d x → f d S = .ok c S' →
  (∀ v H' m', Ext m H m' H' → SOk K H' m' S' → RepV K H' m' c v → Q v H') → r x H Q
def Op2 (K : PySem.W.Frag) (r : R2) (f : D → D → Store → R D) : Prop := ∀ (H : Hp) (m : List Addr) (S : Store) (x y : V) (d e c : D) (S' : Store) (Q : VK), SOk K H m S → RepV K H m d x → RepV K H m e y → f d e S = .ok c S' →
  (∀ v H' m', Ext m H m' H' → SOk K H' m' S' → RepV K H' m' c v → Q v H') → r x y H Q
def OpL (K : PySem.W.Frag) (r : List V → Hp → VK → Prop) (f : List D → Store → R D) : Prop := ∀ (H : Hp) (m : List Addr) (S : Store) (xs : List V) (ds : List D) (c : D) (S' : Store) (Q : VK), SOk K H m S → RepL K H m ds xs → f ds S = .ok c S' →
  (∀ v H' m', Ext m H m' H' → SOk K H' m' S' → RepV K H' m' c v → Q v H') → r xs H Q
def OpM (K : PySem.W.Frag) (r : V → List V → Hp → VK → Prop) (f : D → List D → Store → R D) : Prop := ∀ (H : Hp) (m : List Addr) (S : Store) (x : V) (xs : List V) (d : D) (ds : List D) (c : D) (S' : Store) (Q : VK), SOk K H m S → RepV K H m d x → RepL K H m ds xs → f d ds S = .ok c S' →
  (∀ v H' m', Ext m H m' H' → SOk K H' m' S' → RepV K H' m' c v → Q v H') → r x xs H Q

/-! ### readings in a row -/
theorem tD_mk {K : PySem.W.Frag} {f : DE} {σ : St} {H : Hp} {Q : VK} {m : List Addr} {S S' : Store} {ρ : Env} {d : D} (s : SOk K H m S) (r : RepE K H m ρ σ) (e : f ρ S = .ok d S')
    (k : ∀ v H' m', Ext m H m' H' → SOk K H' m' S' → RepE K H' m' ρ σ → RepV K H' m' d v → Q v H') : tD K f σ H Q :=
  ⟨m, S, ρ, d, S', s, r, e, fun v H' m' x s' rv => k v H' m' x s' (r.ext x) rv⟩
theorem tDA_mk {K : PySem.W.Frag} {f : DA} {σ : St} {H : Hp} {Q : List V → Hp → Prop} {m : List Addr} {S S' : Store} {ρ : Env} {d : List D} (s : SOk K H m S) (r : RepE K H m ρ σ) (e : f ρ S = .ok d S')
    (k : ∀ v H' m', Ext m H m' H' → SOk K H' m' S' → RepE K H' m' ρ σ → RepL K H' m' d v → Q v H') : tDA K f σ H Q :=
  ⟨m, S, ρ, d, S', s, r, e, fun v H' m' x s' rv => k v H' m' x s' (r.ext x) rv⟩
theorem tDT_mk {K : PySem.W.Frag} {f : DT} {σ : St} {H : Hp} {Q : Bool → Hp → Prop} {m : List Addr} {S S' : Store} {ρ : Env} {d : Bool} (s : SOk K H m S) (r : RepE K H m ρ σ) (e : f ρ S = .ok d S')
    (k : ∀ H' m', Ext m H m' H' → SOk K H' m' S' → RepE K H' m' ρ σ → Q d H') : tDT K f σ H Q :=
  ⟨m, S, ρ, d, S', s, r, e, fun H' m' x s' => k H' m' x s' (r.ext x)⟩

section
variable {X : Cx} {a b : Expr} {da db : DE} {pos : Pos}
theorem snd_slot {i : Nat} {x : Str} (hN : X.N[i]? = some x) (hv : Vis X.env.scope x) (hd : (x == ("__debug__" : Str)) = false) (hcd : (x == ("__classdict__" : Str)) = false) : PE X (.Name x pos) (tD X.K (eSlot i)) := by
  refine PE.imp (pe_var (i := i) hN hv hd hcd) fun σ H Q h => ?_
  obtain ⟨m, S, ρ, d, S', s, r, e, k⟩ := h
  unfold eSlot at e
  cases h' : ρ[i]? with
  | none => rw [h'] at e; cases e
  | some o =>
    rw [h'] at e
    cases o with
    | none => cases e
    | some x =>
      cases e
      obtain ⟨v, e1, e2⟩ := r.at_ i _ h'
      exact ⟨v, e1, k v H m (Ext.refl _ _) s e2⟩
theorem snd_const {e : Expr} {d : D} {v : V} (h : PE X e (tC v)) (hr : ∀ H m, RepV X.K H m d v) : PE X e (tD X.K (eConst d)) := by
  refine PE.imp h fun σ H Q h => ?_
  obtain ⟨m, S, ρ, d, S', s, r, e, k⟩ := h
  cases e
  exact k v H m (Ext.refl _ _) s (hr _ _)
theorem snd_un {op : UnaryOp} {r : V → Hp → VK → Prop} {f : D → Store → R D} (ho : UnR X (unaryOp op) r) (hf : Op1 X.K r f) (ha : PE X a (tD X.K da)) : PE X (.UnaryOp op a pos) (tD X.K (eUn f da)) := by
  refine PE.imp (pe_un ho ha) fun σ H Q h => ?_
  obtain ⟨m, S, ρ, d, S', s, r, e, k⟩ := h
  obtain ⟨x, S1, e1, e2⟩ := R.bind_ok e
  refine tD_mk s r e1 fun v H1 m1 x1 s1 r1 rv => ?_
  exact hf _ _ _ _ _ _ _ _ s1 rv e2 fun v2 H2 m2 x2 s2 rv2 => k v2 H2 m2 (x1.then s1 x2) s2 rv2
theorem snd_op {op : Operator} {r : R2} {f : D → D → Store → R D} (ho : OpR X (binaryOp op) r) (hf : Op2 X.K r f) (ha : PE X a (tD X.K da)) (hb : PE X b (tD X.K db)) : PE X (.BinOp a op b pos) (tD X.K (eBin f da db)) := by
  refine PE.imp (pe_op ho ha hb) fun σ H Q h => ?_
  obtain ⟨m, S, ρ, d, S', s, r, e, k⟩ := h
  obtain ⟨x, S1, e1, e⟩ := R.bind_ok e
  obtain ⟨y, S2, e2, e3⟩ := R.bind_ok e
  refine tD_mk s r e1 fun v H1 m1 x1 s1 r1 rv => tD_mk s1 r1 e2 fun u H2 m2 x2 s2 r2 ru => ?_
  exact hf _ _ _ _ _ _ _ _ _ _ s2 (RepV.ext x2 _ _ rv) ru e3 fun v3 H3 m3 x3 s3 rv3 => k v3 H3 m3 ((x1.then s1 x2).then s2 x3) s3 rv3
theorem pc_op {op : CmpOp} {r : R2} {ta tb : TE} (ho : OpR X (compareOp op) r) (ha : PE X a ta) (hb : PE X b tb) : PC X op a b (tOp r ta tb) :=
  ⟨fun pins s σ H Q I h => binT ha hb I h fun v u s2 x y H2 I2 rx ry q => ho pins s2 σ H2 x y v u Q I2 rx ry q⟩
theorem snd_cmp {op : CmpOp} {r : R2} {f : D → D → Store → R D} (ho : OpR X (compareOp op) r) (hf : Op2 X.K r f) (ha : PE X a (tD X.K da)) (hb : PE X b (tD X.K db)) : PC X op a b (tD X.K (eBin f da db)) := by
  refine PC.imp (pc_op ho ha hb) fun σ H Q h => ?_
  obtain ⟨m, S, ρ, d, S', s, r, e, k⟩ := h
  obtain ⟨x, S1, e1, e⟩ := R.bind_ok e
  obtain ⟨y, S2, e2, e3⟩ := R.bind_ok e
  refine tD_mk s r e1 fun v H1 m1 x1 s1 r1 rv => tD_mk s1 r1 e2 fun u H2 m2 x2 s2 r2 ru => ?_
  exact hf _ _ _ _ _ _ _ _ _ _ s2 (RepV.ext x2 _ _ rv) ru e3 fun v3 H3 m3 x3 s3 rv3 => k v3 H3 m3 ((x1.then s1 x2).then s2 x3) s3 rv3
/-- a bool as a test -/
theorem tB_of {da : DE} {σ : St} {H : Hp} {Q : Bool → Hp → Prop} (h : tDT X.K (tOfE da) σ H Q) : tB (tD X.K da) σ H Q := by
  obtain ⟨m, S, ρ, c, S', s, r, e, k⟩ := h
  obtain ⟨x, S1, e1, e2⟩ := R.bind_ok e
  refine tD_mk s r e1 fun v H1 m1 x1 s1 r1 rv => ?_
  split at e2
  · cases e2
    simp only [RepV] at rv
    exact ⟨_, rv, k H1 m1 x1 s1⟩
  · cases e2
theorem snd_cmpT {op : CmpOp} (h : PC X op a b (tD X.K da)) (h1 : behindInMarks op b = false) : PT X (.Compare a [op] [b] pos) (tDT X.K (tOfE da)) :=
  PT.imp (pt_cmp h h1) fun _ _ _ q => tB_of q
theorem snd_cmpE {op : CmpOp} (h : PC X op a b (tD X.K da)) (h1 : behindInMarks op b = false) : PE X (.Compare a [op] [b] pos) (tD X.K da) := pe_cmp h h1

theorem snd_aNil : PA X [] (tDA X.K aNil) := PA.imp pa_nil fun σ H Q h => by
  obtain ⟨m, S, ρ, ds, S', s, r, e, k⟩ := h
  cases e
  exact k [] H m (Ext.refl _ _) s RepL.nil
theorem snd_aCons {e : Expr} {es : List Expr} {d : DE} {ds : DA} (ha : PE X e (tD X.K d)) (hr : PA X es (tDA X.K ds)) (hs : starEach (e :: es) X.env = (false, eval e X.env) :: starEach es X.env) : PA X (e :: es) (tDA X.K (aCons d ds)) := by
  refine PA.imp (pa_cons ha hr hs) fun σ H Q h => ?_
  obtain ⟨m, S, ρ, xs, S', s, r, e, k⟩ := h
  obtain ⟨x, S1, e1, e⟩ := R.bind_ok e
  obtain ⟨y, S2, e2, e3⟩ := R.bind_ok e
  cases e3
  refine tD_mk s r e1 fun v H1 m1 x1 s1 r1 rv => tDA_mk s1 r1 e2 fun u H2 m2 x2 s2 r2 ru => ?_
  exact k (v :: u) H2 m2 (x1.then s1 x2) s2 (RepL.cons (RepV.ext x2 _ _ rv) ru)
/-- a tuple of written items, known to its object -/
theorem pe_tupP {es : List Expr} {t : TA} {x1} (h : PA X es t) : PE X (.Tuple es x1 pos) (fun σ H Q => t σ H fun xs H1 => xs.length ≤ sizeLine ∧ ∀ p o, o.dict = none → H1 p = none → Q (.ref p) (upd H1 p (.frz o (.tup xs)))) := by
  refine ⟨fun pins s σ H Q I hq => wpAny_Tuple_spliced (thn (h.run pos pins s σ H _ I hq) fun us s1 ⟨xs, H1, I1, r, z, q⟩ => ⟨by rw [← r.length]; exact z, ?_⟩)⟩
  have fr : H1 s1.heap.objs.size = none := I1.hok.fresh (Nat.le_refl _)
  let ob : Obj := { cls := .type "tuple", data := .seq us.toArray }
  have I2 : Inv X pins σ (upd H1 s1.heap.objs.size (.frz ob (.tup xs))) { s1 with heap := s1.heap.push ob } :=
    I1.laid (t' := s1.toks) (fun b u e => Heap.get?_push_of_some _ e) (Nat.le_refl _) ⟨Heap.get?_push_size _ rfl, z, us, r, IsTup.new _ _⟩
  exact ⟨.ref s1.heap.objs.size, _, I2, rfl, q _ ob rfl fr⟩
theorem snd_tup {es : List Expr} {ds : DA} {x1} (h : PA X es (tDA X.K ds)) (hl : ∀ ρ S xs S', ds ρ S = .ok xs S' → xs.length ≤ 1000) : PE X (.Tuple es x1 pos) (tD X.K (eTup ds)) := by
  refine PE.imp (pe_tupP h) fun σ H Q h => ?_
  obtain ⟨m, S, ρ, xs, S', s, r, e, k⟩ := h
  obtain ⟨x, S1, e1, e⟩ := R.bind_ok e
  cases e
  refine tDA_mk s r e1 fun u H1 m1 x1 s1 r1 ru => ⟨?_, fun p o ho hp => ?_⟩
  · rw [← ru.length]; exact Nat.le_trans (hl _ _ _ _ e1) (by rw [sizeLine_eq]; decide)
  · refine k (.ref p) _ m1 (x1.then s1 (Ext.updT hp)) (s1.updT hp) ?_
    simp only [RepV]
    exact ⟨p, u, rfl, .inl ⟨o, upd_same, ho⟩, RepL.ext (Ext.updT hp) _ _ ru⟩
theorem snd_lst {es : List Expr} {ds : DA} (h : PA X es (tDA X.K ds)) (hl : ∀ ρ S xs S', ds ρ S = .ok xs S' → xs.length ≤ 1000) : PE X (.List es pos) (tD X.K (eLst ds)) := by
  refine PE.imp (pe_lst h) fun σ H Q h => ?_
  obtain ⟨m, S, ρ, xs, S', s, r, e, k⟩ := h
  obtain ⟨x, S1, e1, e⟩ := R.bind_ok e
  cases e
  have hz : x.length ≤ sizeLine := Nat.le_trans (hl _ _ _ _ e1) (by rw [sizeLine_eq]; decide)
  refine tDA_mk s r e1 fun u H1 m1 x1 s1 r1 ru => ⟨?_, fun p hp => ?_⟩
  · rw [← ru.length]; exact hz
  · exact k (.ref p) _ (m1 ++ [p]) (x1.then s1 (Ext.push hp)) (s1.push hp ⟨hz, u, upd_same, RepL.ext (Ext.push hp) _ _ ru⟩) (RepV.push_ref s1)

/-! ### tests -/
theorem snd_boolT {e : Expr} (h : PE X e (tD X.K da)) (he : ∀ whole, isTrue e X.env whole = (do let v ← whole; standAt e.pos; holding [v] (truthy v))) : PT X e (tDT X.K (tOfE da)) :=
  PT.imp (pt_val h he) fun _ _ _ q => tB_of q
variable {ta tb : DT} {rest : List Expr}
theorem tAnd_of {σ : St} {H : Hp} {Q : Bool → Hp → Prop} (h : tDT X.K (tAndD ta tb) σ H Q) : tAnd (tDT X.K ta) (tDT X.K tb) σ H Q := by
  obtain ⟨m, S, ρ, c, S', s, r, e, k⟩ := h
  obtain ⟨x, S1, e1, e2⟩ := R.bind_ok e
  refine tDT_mk s r e1 fun H1 m1 x1 s1 r1 => ?_
  cases x with
  | true =>
    rw [if_pos rfl] at e2 ⊢
    exact tDT_mk s1 r1 e2 fun H2 m2 x2 s2 _ => k H2 m2 (x1.then s1 x2) s2
  | false =>
    rw [if_neg (by simp)] at e2 ⊢
    cases e2
    exact k H1 m1 x1 s1
theorem tOr_of {σ : St} {H : Hp} {Q : Bool → Hp → Prop} (h : tDT X.K (tOrD ta tb) σ H Q) : tOr (tDT X.K ta) (tDT X.K tb) σ H Q := by
  obtain ⟨m, S, ρ, c, S', s, r, e, k⟩ := h
  obtain ⟨x, S1, e1, e2⟩ := R.bind_ok e
  refine tDT_mk s r e1 fun H1 m1 x1 s1 r1 => ?_
  cases x with
  | true =>
    rw [if_pos rfl] at e2 ⊢
    cases e2
    exact k H1 m1 x1 s1
  | false =>
    rw [if_neg (by simp)] at e2 ⊢
    exact tDT_mk s1 r1 e2 fun H2 m2 x2 s2 _ => k H2 m2 (x1.then s1 x2) s2
theorem snd_and (ha : PT X a (tDT X.K ta)) (hb : PW X (.BoolOp .And (b :: rest) pos) (tDT X.K tb)) : PW X (.BoolOp .And (a :: b :: rest) pos) (tDT X.K (tAndD ta tb)) := PW.imp (pw_and ha hb) fun _ _ _ q => tAnd_of q
theorem snd_or (ha : PT X a (tDT X.K ta)) (hb : PW X (.BoolOp .Or (b :: rest) pos) (tDT X.K tb)) : PW X (.BoolOp .Or (a :: b :: rest) pos) (tDT X.K (tOrD ta tb)) := PW.imp (pw_or ha hb) fun _ _ _ q => tOr_of q
theorem snd_notT (ha : PT X a (tDT X.K ta)) : PT X (.UnaryOp .Not a pos) (tDT X.K (tNotD ta)) := by
  refine PT.imp (pt_not ha) fun σ H Q h => ?_
  obtain ⟨m, S, ρ, c, S', s, r, e, k⟩ := h
  obtain ⟨x, S1, e1, e2⟩ := R.bind_ok e
  cases e2
  exact tDT_mk s r e1 fun H1 m1 x1 s1 r1 => k H1 m1 x1 s1
theorem snd_andE (ha : PE X a (tD X.K da)) (hb : PE X (.BoolOp .And (b :: rest) pos) (tD X.K db)) : PE X (.BoolOp .And (a :: b :: rest) pos) (tD X.K (eAnd da db)) := by
  refine PE.imp (pe_and ha hb) fun σ H Q h => ?_
  obtain ⟨m, S, ρ, c, S', s, r, e, k⟩ := h
  obtain ⟨x, S1, e1, e2⟩ := R.bind_ok e
  refine tD_mk s r e1 fun v H1 m1 x1 s1 r1 rv => ?_
  split at e2
  · simp only [RepV] at rv
    refine ⟨_, rv, ?_⟩
    rw [if_pos rfl]
    exact tD_mk s1 r1 e2 fun v H2 m2 x2 s2 _ rv => k v H2 m2 (x1.then s1 x2) s2 rv
  · simp only [RepV] at rv
    refine ⟨_, rv, ?_⟩
    rw [if_neg (by simp)]
    cases e2
    exact k _ H1 m1 x1 s1 (by simp [RepV])
  · cases e2
theorem snd_orE (ha : PE X a (tD X.K da)) (hb : PE X (.BoolOp .Or (b :: rest) pos) (tD X.K db)) : PE X (.BoolOp .Or (a :: b :: rest) pos) (tD X.K (eOr da db)) := by
  refine PE.imp (pe_or ha hb) fun σ H Q h => ?_
  obtain ⟨m, S, ρ, c, S', s, r, e, k⟩ := h
  obtain ⟨x, S1, e1, e2⟩ := R.bind_ok e
  refine tD_mk s r e1 fun v H1 m1 x1 s1 r1 rv => ?_
  split at e2
  · simp only [RepV] at rv
    refine ⟨_, rv, ?_⟩
    rw [if_pos rfl]
    cases e2
    exact k _ H1 m1 x1 s1 (by simp [RepV])
  · simp only [RepV] at rv
    refine ⟨_, rv, ?_⟩
    rw [if_neg (by simp)]
    exact tD_mk s1 r1 e2 fun v H2 m2 x2 s2 _ rv => k v H2 m2 (x1.then s1 x2) s2 rv
  · cases e2
theorem snd_notE (ha : PE X a (tD X.K da)) : PE X (.UnaryOp .Not a pos) (tD X.K (eNot da)) := by
  refine PE.imp (pe_not ha) fun σ H Q h => ?_
  obtain ⟨m, S, ρ, c, S', s, r, e, k⟩ := h
  obtain ⟨x, S1, e1, e2⟩ := R.bind_ok e
  refine tD_mk s r e1 fun v H1 m1 x1 s1 r1 rv => ?_
  split at e2
  · simp only [RepV] at rv
    cases e2
    exact ⟨_, rv, k _ H1 m1 x1 s1 (by simp [RepV])⟩
  · cases e2
theorem snd_ifE {c : Expr} (hc : PT X c (tDT X.K ta)) (ha : PE X a (tD X.K da)) (hb : PE X b (tD X.K db)) : PE X (.IfExp c a b pos) (tD X.K (eIf ta da db)) := by
  refine PE.imp (pe_ifExp hc ha hb) fun σ H Q h => ?_
  obtain ⟨m, S, ρ, c, S', s, r, e, k⟩ := h
  obtain ⟨x, S1, e1, e2⟩ := R.bind_ok e
  refine tDT_mk s r e1 fun H1 m1 x1 s1 r1 => ?_
  cases x with
  | true =>
    rw [if_pos rfl] at e2 ⊢
    exact tD_mk s1 r1 e2 fun v H2 m2 x2 s2 _ rv => k v H2 m2 (x1.then s1 x2) s2 rv
  | false =>
    rw [if_neg (by simp)] at e2 ⊢
    exact tD_mk s1 r1 e2 fun v H2 m2 x2 s2 _ rv => k v H2 m2 (x1.then s1 x2) s2 rv

/-! ### calls -/
theorem snd_app {x : Str} {p : Pos} {e : Expr} {es : List Expr} {r : List V → Hp → VK → Prop} {f : List D → Store → R D} {ds : DA} (ha : PA X (e :: es) (tDA X.K ds)) (hf : OpL X.K r f) (h : PE X (.Call (.Name x p) (e :: es) [] pos) (tCB r (tDA X.K ds))) :
    PE X (.Call (.Name x p) (e :: es) [] pos) (tD X.K (eApp f ds)) := by
  refine PE.imp h fun σ H Q h => ?_
  obtain ⟨m, S, ρ, c, S', s, r, e, k⟩ := h
  obtain ⟨x, S1, e1, e2⟩ := R.bind_ok e
  refine tDA_mk s r e1 fun v H1 m1 x1 s1 r1 rv => ?_
  exact hf _ _ _ _ _ _ _ _ s1 rv e2 fun v2 H2 m2 x2 s2 rv2 => k v2 H2 m2 (x1.then s1 x2) s2 rv2
/-- a def's promise by an evaluation -/
def spD (K : PySem.W.Frag) (f : List D → Store → R D) : Sp := fun vs H Q _ => ∃ m S ds d S', SOk K H m S ∧ RepL K H m ds vs ∧ f ds S = .ok d S' ∧ ∀ v H' m', Ext m H m' H' → SOk K H' m' S' → RepV K H' m' d v → Q v H'
theorem tCall_of {f : List D → Store → R D} {ds : DA} {σ : St} {H : Hp} {Q : VK} {E : XK} (h : tD X.K (eApp f ds) σ H Q) : tCall (spD X.K f) [] E (tDA X.K ds) σ H Q := by
  obtain ⟨m, S, ρ, c, S', s, r, e, k⟩ := h
  obtain ⟨x, S1, e1, e2⟩ := R.bind_ok e
  refine tDA_mk s r e1 fun v H1 m1 x1 s1 r1 rv => ?_
  refine ⟨m1, S1, x, c, S', s1, by rw [List.append_nil]; exact rv, e2, fun v2 H2 m2 x2 s2 rv2 => k v2 H2 m2 (x1.then s1 x2) s2 rv2⟩
end
end Mp

set_option Elab.async false
set_option linter.all false
set_option maxRecDepth 100000
set_option maxHeartbeats 4000000
/-! Mp3: operations by data. -/
namespace Mp
open PySem L2
open PyProof.Rows hiding St

section
variable {K : PySem.W.Frag} {H : Hp} {m : List Addr} {S : Store}
theorem rep_int {i : Int} {v : V} : RepV K H m (.int i) v ↔ v = .int i := by simp [RepV]
theorem rep_str {i : Str} {v : V} : RepV K H m (.str i) v ↔ v = .str i := by simp [RepV]
theorem rep_bl {i : Bool} {v : V} : RepV K H m (.bl i) v ↔ v = .bl i := by simp [RepV]
theorem rep_non {v : V} : RepV K H m .non v ↔ v = .non := by simp [RepV]
theorem rep_tup {ds : List D} {v : V} : RepV K H m (.tup ds) v ↔ ∃ a vs, v = .ref a ∧ SqP K H a vs ∧ RepL K H m ds vs := by simp [RepV]
theorem rep_frz {ds : List D} {v : V} : RepV K H m (.frz ds) v ↔ ds.length ≤ sizeLine ∧ ∃ a vs, v = .ref a ∧ SqF K H a vs ∧ RepL K H m ds vs := by simp [RepV]
theorem rep_ref {n : Nat} {v : V} : RepV K H m (.ref n) v ↔ ∃ a, m[n]? = some a ∧ v = .ref a := by simp [RepV]

/-- the list at a place of the store -/
def getL (S : Store) (n : Nat) : Option (List D) := match S[n]? with
  | some (.lst ds) => some ds
  | some (.frz ds) => some ds
  | _ => none
theorem SOk.list (s : SOk K H m S) {n : Nat} {ds : List D} {v : V} (r : RepV K H m (.ref n) v) (h : getL S n = some ds) : ∃ a vs, v = .ref a ∧ SqL K H a vs ∧ RepL K H m ds vs ∧ ds.length ≤ sizeLine := by
  obtain ⟨a, e, rfl⟩ := rep_ref.mp r
  unfold getL at h
  cases q : S[n]? with
  | none => rw [q] at h; cases h
  | some o =>
    rw [q] at h
    obtain ⟨b, e1, e2⟩ := s.at_ n o q
    rw [e] at e1; cases e1
    cases o with
    | lst es => cases h; obtain ⟨z, vs, e3, e4⟩ := e2; exact ⟨a, vs, rfl, SqL.of e3, e4, z⟩
    | frz es => cases h; obtain ⟨z, ob, vs, e3, e4⟩ := e2; exact ⟨a, vs, rfl, .inl (.inr ⟨ob, e3⟩), e4, z⟩
    | dK _ => cases h
theorem SOk.lst (s : SOk K H m S) {n : Nat} {ds : List D} {v : V} (r : RepV K H m (.ref n) v) (h : S[n]? = some (.lst ds)) : ∃ a vs, m[n]? = some a ∧ v = .ref a ∧ H a = some (.lst vs) ∧ RepL K H m ds vs ∧ ds.length ≤ sizeLine := by
  obtain ⟨a, e, rfl⟩ := rep_ref.mp r
  obtain ⟨b, e1, z, vs, e3, e4⟩ := s.at_ n _ h
  rw [e] at e1; cases e1
  exact ⟨a, vs, e, rfl, e3, e4, z⟩
theorem SOk.dK (s : SOk K H m S) {n : Nat} {ks : List (Key × D)} {v : V} (r : RepV K H m (.ref n) v) (h : S[n]? = some (.dK ks)) : ∃ a us, m[n]? = some a ∧ v = .ref a ∧ H a = some (.dK us) ∧ KRep K H m ks us ∧ ks.length ≤ sizeLine := by
  obtain ⟨a, e, rfl⟩ := rep_ref.mp r
  obtain ⟨b, e1, z, vs, e3, e4⟩ := s.at_ n _ h
  rw [e] at e1; cases e1
  exact ⟨a, vs, e, rfl, e3, e4, z⟩
/-- the list is written -/
theorem SOk.setL (s : SOk K H m S) {n : Nat} {a : Addr} {ds ds' : List D} {vs vs' : List V} (e : m[n]? = some a) (h : H a = some (.lst vs)) (hz : ds'.length ≤ sizeLine) (r : RepL K H m ds' vs') :
    Ext m H m (upd H a (.lst vs')) ∧ SOk K (upd H a (.lst vs')) m (S.set n (.lst ds')) := by
  have ht : ∀ xs, H a ≠ some (.tup xs) := fun xs q => by rw [h] at q; cases q
  have hf : ∀ b u, H a ≠ some (.frz b u) := fun b u q => by rw [h] at q; cases q
  have x : Ext m H m (upd H a (.lst vs')) := Ext.write (List.mem_of_getElem? e) ht hf
  exact ⟨x, s.write e ht hf ⟨hz, vs', upd_same, RepL.ext x _ _ r⟩⟩
theorem SOk.setK (s : SOk K H m S) {n : Nat} {a : Addr} {ks' : List (Key × D)} {us us' : List (Key × V)} (e : m[n]? = some a) (h : H a = some (.dK us)) (hz : ks'.length ≤ sizeLine) (r : KRep K H m ks' us') :
    Ext m H m (upd H a (.dK us')) ∧ SOk K (upd H a (.dK us')) m (S.set n (.dK ks')) := by
  have ht : ∀ xs, H a ≠ some (.tup xs) := fun xs q => by rw [h] at q; cases q
  have hf : ∀ b u, H a ≠ some (.frz b u) := fun b u q => by rw [h] at q; cases q
  have x : Ext m H m (upd H a (.dK us')) := Ext.write (List.mem_of_getElem? e) ht hf
  exact ⟨x, s.write e ht hf ⟨hz, us', upd_same, KRep.ext x r⟩⟩
/-- a new list, dict, tuple as an answer -/
theorem SOk.newL {ds : List D} {vs : List V} {p : Addr} (s : SOk K H m S) (hp : H p = none) (hz : ds.length ≤ sizeLine) (r : RepL K H m ds vs) :
    Ext m H (m ++ [p]) (upd H p (.lst vs)) ∧ SOk K (upd H p (.lst vs)) (m ++ [p]) (S ++ [.lst ds]) ∧ RepV K (upd H p (.lst vs)) (m ++ [p]) (.ref S.length) (.ref p) :=
  ⟨Ext.push hp, s.push hp ⟨hz, vs, upd_same, RepL.ext (Ext.push hp) _ _ r⟩, RepV.push_ref s⟩
theorem SOk.newK {ks : List (Key × D)} {us : List (Key × V)} {p : Addr} (s : SOk K H m S) (hp : H p = none) (hz : ks.length ≤ sizeLine) (r : KRep K H m ks us) :
    Ext m H (m ++ [p]) (upd H p (.dK us)) ∧ SOk K (upd H p (.dK us)) (m ++ [p]) (S ++ [.dK ks]) ∧ RepV K (upd H p (.dK us)) (m ++ [p]) (.ref S.length) (.ref p) :=
  ⟨Ext.push hp, s.push hp ⟨hz, us, upd_same, KRep.ext (Ext.push hp) r⟩, RepV.push_ref s⟩
theorem SOk.newT {ds : List D} {vs : List V} {p : Addr} {o : Obj} (s : SOk K H m S) (ho : o.dict = none) (hp : H p = none) (r : RepL K H m ds vs) :
    Ext m H m (upd H p (.frz o (.tup vs))) ∧ SOk K (upd H p (.frz o (.tup vs))) m S ∧ RepV K (upd H p (.frz o (.tup vs))) m (.tup ds) (.ref p) :=
  ⟨Ext.updT hp, s.updT hp, rep_tup.mpr ⟨p, vs, rfl, .inl ⟨o, upd_same, ho⟩, RepL.ext (Ext.updT hp) _ _ r⟩⟩
end

/-! ### arithmetic -/
def dAdd (d e : D) (S : Store) : R D := match d, e with
  | .int i, .int j => .ok (.int (i + j)) S
  | .str a, .str b => if a.length + b.length ≤ sizeLine then .ok (.str (a ++ b)) S else .stuck
  | .tup a, .tup b => if a.length + b.length ≤ sizeLine then .ok (.tup (a ++ b)) S else .stuck
  | .ref a, .ref b => match S[a]?, S[b]? with
    | some (.lst x), some (.lst y) => if x.length + y.length ≤ sizeLine then .ok (.ref S.length) (S ++ [.lst (x ++ y)]) else .stuck
    | _, _ => .stuck
  | _, _ => .stuck
def dSub (d e : D) (S : Store) : R D := match d, e with
  | .int i, .int j => .ok (.int (i - j)) S
  | _, _ => .stuck
def dMul (d e : D) (S : Store) : R D := match d, e with
  | .int i, .int j => if (-(2 ^ 64) < i ∧ i < 2 ^ 64) ∨ (-(2 ^ 64) < j ∧ j < 2 ^ 64) then .ok (.int (i * j)) S else .stuck
  | _, _ => .stuck
def dFdiv (d e : D) (S : Store) : R D := match d, e with
  | .int i, .int j => if 0 < j ∧ j < 2 ^ 200 then .ok (.int (i / j)) S else .stuck
  | _, _ => .stuck
def dMod (d e : D) (S : Store) : R D := match d, e with
  | .int i, .int j => if 0 < j then .ok (.int (i % j)) S else .stuck
  | _, _ => .stuck
def dPow (d e : D) (S : Store) : R D := match d, e with
  | .int i, .int j => if (0 ≤ j ∧ j ≤ 1000000) ∧ (-(2 ^ 64) < i ∧ i < 2 ^ 64) then .ok (.int (i ^ j.toNat)) S else .stuck
  | _, _ => .stuck
def dNeg (d : D) (S : Store) : R D := match d with
  | .int i => .ok (.int (-i)) S
  | _ => .stuck

section
variable {K : PySem.W.Frag}
/-- t + u, the new tuple known to its object -/
def rCatP (K : PySem.W.Frag) : R2 := fun x y H Q => ∃ a b xs ys, x = .ref a ∧ y = .ref b ∧ SqT K H a xs ∧ SqT K H b ys ∧ xs.length + ys.length ≤ sizeLine ∧
  (xs = [] → Q (.ref b) H) ∧ (xs ≠ [] → ys = [] → Q (.ref a) H) ∧ (xs ≠ [] → ys ≠ [] → ∀ p o, o.dict = none → H p = none → Q (.ref p) (upd H p (.frz o (.tup (xs ++ ys)))))
theorem op_catP {X : Cx} : OpR X (binaryOp .Add) (rCatP X.K) := by
  intro pins s σ H x y v u Q I rx ry h
  obtain ⟨a, b, xs, ys, rfl, rfl, ha, hb, hz, q0, q1, q2⟩ := h
  by_cases hx : xs = []
  · exact op_catA pins s σ H (.ref a) (.ref b) v u Q I rx ry ⟨a, b, xs, ys, rfl, rfl, ha, hb, hz, q0, fun z => absurd hx z, fun z => absurd hx z⟩
  · cases rx
    cases ry
    obtain ⟨ia, r1, p1, _⟩ := I.tuple ha
    obtain ⟨ib, r2, p2, _⟩ := I.tuple hb
    refine HT.cat_tup p1 p2 (fun z => hx (r1.nil_iff.mp z)) (fun z => ⟨.ref a, H, I, rfl, q1 hx (r2.nil_iff.mp z)⟩) (fun z => ?_) (by rw [← r1.length, ← r2.length]; exact hz)
    have fr : H s.heap.objs.size = none := I.hok.fresh (Nat.le_refl _)
    refine ⟨.ref s.heap.objs.size, _, I.laid (t' := s.toks) (o := .frz { cls := .type "tuple", data := .seq (ia ++ ib).toArray } (.tup (xs ++ ys))) (fun b' u' e => Heap.get?_push_of_some _ e) (Nat.le_refl _) ?_, rfl, q2 hx (fun w' => z (r2.nil_iff.mpr w')) _ _ rfl fr⟩
    refine ⟨?_, by rw [List.length_append]; exact hz, ia ++ ib, r1.append r2, ?_⟩
    · first
        | exact Heap.get?_push_size _ rfl
        | (have := Heap.get?_push_size s.heap (o := { cls := .type "tuple", data := .seq (ia ++ ib).toArray }) rfl; simpa using this)
    · first
        | exact IsTup.new _ _
        | simpa using IsTup.new s.heap (ia ++ ib).toArray
def rAddAll (K : PySem.W.Frag) : R2 := fun x y H Q => (rI0 (fun i j => .int (i + j))) x y H Q ∨ (∃ i j, x = .str i ∧ y = .str j ∧ i.length + j.length ≤ sizeLine ∧ Q (.str (i ++ j)) H) ∨ rCatP K x y H Q ∨ rCat x y H Q
theorem op_addAll {X : Cx} : OpR X (binaryOp .Add) (rAddAll X.K) := OpR.or op_add (OpR.or op_add_str (OpR.or op_catP op_cat))
theorem dAdd_ok : Op2 K (rAddAll K) dAdd := by
  intro H m S x y d e c S' Q s rx ry h k
  unfold dAdd at h
  split at h
  · cases h
    exact .inl ⟨_, _, rep_int.mp rx, rep_int.mp ry, k _ H m (Ext.refl _ _) s (rep_int.mpr rfl)⟩
  · split at h
    · rename_i hz
      cases h
      exact .inr (.inl ⟨_, _, rep_str.mp rx, rep_str.mp ry, hz, k _ H m (Ext.refl _ _) s (rep_str.mpr rfl)⟩)
    · cases h
  · split at h
    · rename_i a b hz
      cases h
      obtain ⟨p, vs, rfl, q1, r1⟩ := rep_tup.mp rx
      obtain ⟨q, us, rfl, q2, r2⟩ := rep_tup.mp ry
      have l1 := r1.length
      have l2 := r2.length
      refine .inr (.inr (.inl ⟨p, q, vs, us, rfl, rfl, q1.sqT, q2.sqT, by omega, fun e => ?_, fun e1 e2 => ?_, fun e1 e2 z o ho hz => ?_⟩))
      · subst e
        have : a = [] := List.length_eq_zero_iff.mp l1
        subst this
        exact k _ H m (Ext.refl _ _) s (rep_tup.mpr ⟨q, us, rfl, q2, by simpa using r2⟩)
      · subst e2
        have : b = [] := List.length_eq_zero_iff.mp l2
        subst this
        exact k _ H m (Ext.refl _ _) s (rep_tup.mpr ⟨p, vs, rfl, q1, by simpa using r1⟩)
      · obtain ⟨x1, x2, x3⟩ := s.newT ho hz (r1.append r2)
        exact k _ _ _ x1 x2 x3
    · cases h
  · rename_i a b
    split at h
    · rename_i xs ys ea eb
      split at h
      · rename_i hz
        cases h
        obtain ⟨p, vs, _, rfl, h1, r1, _⟩ := s.lst rx ea
        obtain ⟨q, us, _, rfl, h2, r2, _⟩ := s.lst ry eb
        have l1 := r1.length
        have l2 := r2.length
        refine .inr (.inr (.inr ⟨p, q, vs, us, rfl, rfl, h1, h2, by omega, fun z hzz => ?_⟩))
        obtain ⟨x1, x2, x3⟩ := s.newL hzz (by simpa using hz) (r1.append r2)
        exact k _ _ _ x1 x2 x3
      · cases h
    · cases h
  · cases h
theorem dSub_ok : Op2 K (rI0 fun i j => .int (i - j)) dSub := by
  intro H m S x y d e c S' Q s rx ry h k
  unfold dSub at h
  split at h
  · cases h
    exact ⟨_, _, rep_int.mp rx, rep_int.mp ry, k _ H m (Ext.refl _ _) s (rep_int.mpr rfl)⟩
  · cases h
theorem dMul_ok : Op2 K (rI CMul fun i j => .int (i * j)) dMul := by
  intro H m S x y d e c S' Q s rx ry h k
  unfold dMul at h
  split at h
  · split at h
    · rename_i hc
      cases h
      exact ⟨_, _, rep_int.mp rx, rep_int.mp ry, hc, k _ H m (Ext.refl _ _) s (rep_int.mpr rfl)⟩
    · cases h
  · cases h
theorem log2_lt {j : Int} (h : 0 < j ∧ j < 2 ^ 200) : CDivW 0 j := by
  refine ⟨h.1, ?_⟩
  have h1 : j.natAbs < 2 ^ 200 := by
    have := h.2
    have e : ((2 : Int) ^ 200) = ((2 ^ 200 : Nat) : Int) := by norm_cast
    rw [e] at this
    omega
  have h2 : j.natAbs ≠ 0 := by have := h.1; omega
  have := (Nat.log2_lt h2).mpr h1
  omega
theorem dFdiv_ok : Op2 K (rI CDivW fun i j => .int (i / j)) dFdiv := by
  intro H m S x y d e c S' Q s rx ry h k
  unfold dFdiv at h
  split at h
  · split at h
    · rename_i hc
      cases h
      exact ⟨_, _, rep_int.mp rx, rep_int.mp ry, log2_lt hc, k _ H m (Ext.refl _ _) s (rep_int.mpr rfl)⟩
    · cases h
  · cases h
theorem dMod_ok : Op2 K (rI (fun _ j => 0 < j) fun i j => .int (i % j)) dMod := by
  intro H m S x y d e c S' Q s rx ry h k
  unfold dMod at h
  split at h
  · split at h
    · rename_i hc
      cases h
      exact ⟨_, _, rep_int.mp rx, rep_int.mp ry, hc, k _ H m (Ext.refl _ _) s (rep_int.mpr rfl)⟩
    · cases h
  · cases h
theorem dPow_ok : Op2 K (rI CPow fun i j => .int (i ^ j.toNat)) dPow := by
  intro H m S x y d e c S' Q s rx ry h k
  unfold dPow at h
  split at h
  · split at h
    · rename_i i j hc
      cases h
      refine ⟨_, _, rep_int.mp rx, rep_int.mp ry, ⟨hc.1.1, hc.1.2, ?_⟩, k _ H m (Ext.refl _ _) s (rep_int.mpr rfl)⟩
      have h1 := hc.2.1
      have h2 := hc.2.2
      omega
    · cases h
  · cases h
theorem dNeg_ok : Op1 K (rU fun i => .int (-i)) dNeg := by
  intro H m S x d c S' Q s rx h k
  unfold dNeg at h
  split at h
  · cases h
    exact ⟨_, rep_int.mp rx, k _ H m (Ext.refl _ _) s (rep_int.mpr rfl)⟩
  · cases h
end

/-! ### comparisons -/
/-- == of scalars -/
def scEq (d e : D) : Option Bool := match d, e with
  | .non, .non => some true
  | .non, .int _ => some false
  | .int _, .non => some false
  | .non, .bl _ => some false
  | .bl _, .non => some false
  | .non, .str _ => some false
  | .str _, .non => some false
  | .int i, .int j => some (decide (i = j))
  | .bl i, .bl j => some (decide (i = j))
  | .str i, .str j => some (decide (i = j))
  | .int _, .str _ => some false
  | .str _, .int _ => some false
  | .bl _, .str _ => some false
  | .str _, .bl _ => some false
  | _, _ => none
def mapO {α β : Type} (f : α → Option β) : List α → Option (List β)
  | [] => some []
  | x :: xs => match f x with
    | some y => match mapO f xs with
      | some ys => some (y :: ys)
      | none => none
    | none => none
/-- data as the library's data, lists by the store, to a depth -/
def toPD (S : Store) : Nat → D → Option PyData
  | _, .non => some .none
  | _, .bl b => some (.bool b)
  | _, .int i => some (.int i)
  | _, .str x => some (.str x)
  | n + 1, .tup ds => (mapO (toPD S n) ds).map .tuple
  | n + 1, .ref a => match getL S a with
    | some ds => (mapO (toPD S n) ds).map .list
    | none => none
  | _, .frz _ => none
  | 0, .tup _ => none
  | 0, .ref _ => none
def dEq (d e : D) (S : Store) : R D := match scEq d e with
  | some b => .ok (.bl b) S
  | none => match toPD S 66 d, toPD S 66 e with
    | some x, some y => if SeqAt.shaped x = true ∧ SeqAt.shaped y = true then .ok (.bl (PyData.eqv x y)) S else .stuck
    | _, _ => .stuck
def dNe (d e : D) (S : Store) : R D := match scEq d e with
  | some b => .ok (.bl (!b)) S
  | none => match toPD S 66 d, toPD S 66 e with
    | some x, some y => if SeqAt.shaped x = true ∧ SeqAt.shaped y = true then .ok (.bl (!PyData.eqv x y)) S else .stuck
    | _, _ => .stuck
def dCmp (p : Int → Int → Bool) (d e : D) (S : Store) : R D := match d, e with
  | .int i, .int j => .ok (.bl (p i j)) S
  | _, _ => .stuck
def isNonD : D → Bool
  | .non => true
  | _ => false
def dIs (d e : D) (S : Store) : R D := match e with
  | .non => .ok (.bl (isNonD d)) S
  | _ => .stuck
def dIsNot (d e : D) (S : Store) : R D := match e with
  | .non => .ok (.bl (!isNonD d)) S
  | _ => .stuck

section
variable {K : PySem.W.Frag} {H : Hp} {m : List Addr} {S : Store}
theorem scEq_ok {d e : D} {x y : V} {b : Bool} (rx : RepV K H m d x) (ry : RepV K H m e y) (h : scEq d e = some b) : scal x y = true ∧ decide (x = y) = b := by
  unfold scEq at h
  split at h <;> first
    | (cases h; done)
    | (injection h with h
       subst h
       simp only [RepV] at rx ry
       subst rx
       subst ry
       refine ⟨rfl, ?_⟩
       first
         | rfl
         | (simp; done))
theorem mapO_ok {f : D → Option PyData} (hf : ∀ d v x, RepV K H m d v → f d = some x → Dp K H v x) : ∀ (ds : List D) (vs : List V) (xs : List PyData), RepL K H m ds vs → mapO f ds = some xs → DpAll K H vs xs
  | [], vs, xs, r, h => by
    cases h
    rw [r.nil_inv]; exact .nil
  | d :: ds, vs, xs, r, h => by
    obtain ⟨v, t, rfl, r1, r2⟩ := r.cons_inv
    unfold mapO at h
    cases q1 : f d with
    | none => rw [q1] at h; cases h
    | some x =>
      cases q2 : mapO f ds with
      | none => rw [q1, q2] at h; cases h
      | some ys =>
        rw [q1, q2] at h
        cases h
        exact .cons (hf d v x r1 q1) (mapO_ok hf ds t ys r2 q2)
theorem toPD_ok (s : SOk K H m S) : ∀ (n : Nat) (d : D) (v : V) (x : PyData), RepV K H m d v → toPD S n d = some x → Dp K H v x
  | n, .non, v, x, r, h => by
    have e : x = .none := by cases n <;> (simp only [toPD] at h; cases h; rfl)
    rw [rep_non.mp r, e]; exact .non
  | n, .bl b, v, x, r, h => by
    have e : x = .bool b := by cases n <;> (simp only [toPD] at h; cases h; rfl)
    rw [rep_bl.mp r, e]; exact .bl b
  | n, .int i, v, x, r, h => by
    have e : x = .int i := by cases n <;> (simp only [toPD] at h; cases h; rfl)
    rw [rep_int.mp r, e]; exact .int i
  | n, .str i, v, x, r, h => by
    have e : x = .str i := by cases n <;> (simp only [toPD] at h; cases h; rfl)
    rw [rep_str.mp r, e]; exact .str i
  | 0, .frz ds, v, x, r, h => by cases h
  | n + 1, .frz ds, v, x, r, h => by cases h
  | 0, .tup ds, v, x, r, h => by cases h
  | n + 1, .tup ds, v, x, r, h => by
    simp only [toPD] at h
    obtain ⟨xs, h1, rfl⟩ := Option.map_eq_some_iff.mp h
    obtain ⟨a, vs, rfl, q, rl⟩ := rep_tup.mp r
    exact .tup q.sqT (mapO_ok (fun d v x => toPD_ok s n d v x) ds vs xs rl h1)
  | 0, .ref a, v, x, r, h => by cases h
  | n + 1, .ref a, v, x, r, h => by
    simp only [toPD] at h
    cases q : getL S a with
    | none => rw [q] at h; cases h
    | some ds =>
      rw [q] at h
      obtain ⟨xs, h1, rfl⟩ := Option.map_eq_some_iff.mp h
      obtain ⟨p, vs, rfl, q2, rl, _⟩ := s.list r q
      exact .lst q2 (mapO_ok (fun d v x => toPD_ok s n d v x) ds vs xs rl h1)
def rEqAll (K : PySem.W.Frag) : R2 := fun x y H Q => rEq x y H Q ∨ rEqD K x y H Q
def rNeAll (K : PySem.W.Frag) : R2 := fun x y H Q => rNe x y H Q ∨ rNeD K x y H Q
theorem dEq_ok : Op2 K (rEqAll K) dEq := by
  intro H m S x y d e c S' Q s rx ry h k
  unfold dEq at h
  split at h
  · rename_i b hb
    cases h
    obtain ⟨h1, h2⟩ := scEq_ok rx ry hb
    exact .inl ⟨h1, by rw [h2]; exact k _ H m (Ext.refl _ _) s (rep_bl.mpr rfl)⟩
  · split at h
    · rename_i x' y' e1 e2
      split at h
      · rename_i hs
        cases h
        exact .inr ⟨x', y', toPD_ok s _ _ _ _ rx e1, toPD_ok s _ _ _ _ ry e2, hs.1, hs.2, k _ H m (Ext.refl _ _) s (rep_bl.mpr rfl)⟩
      · cases h
    · cases h
theorem dNe_ok : Op2 K (rNeAll K) dNe := by
  intro H m S x y d e c S' Q s rx ry h k
  unfold dNe at h
  split at h
  · rename_i b hb
    cases h
    obtain ⟨h1, h2⟩ := scEq_ok rx ry hb
    exact .inl ⟨h1, by rw [h2]; exact k _ H m (Ext.refl _ _) s (rep_bl.mpr rfl)⟩
  · split at h
    · rename_i x' y' e1 e2
      split at h
      · rename_i hs
        cases h
        exact .inr ⟨x', y', toPD_ok s _ _ _ _ rx e1, toPD_ok s _ _ _ _ ry e2, hs.1, hs.2, k _ H m (Ext.refl _ _) s (rep_bl.mpr rfl)⟩
      · cases h
    · cases h
theorem dCmp_ok {p : Int → Int → Bool} : Op2 K (rI0 fun i j => .bl (p i j)) (dCmp p) := by
  intro H m S x y d e c S' Q s rx ry h k
  unfold dCmp at h
  split at h
  · cases h
    exact ⟨_, _, rep_int.mp rx, rep_int.mp ry, k _ H m (Ext.refl _ _) s (rep_bl.mpr rfl)⟩
  · cases h
theorem isNonD_ok {d : D} {x : V} (r : RepV K H m d x) : decide (x = .non) = isNonD d := by
  cases d with
  | non => rw [rep_non.mp r]; rfl
  | bl b => rw [rep_bl.mp r]; rfl
  | int i => rw [rep_int.mp r]; rfl
  | str i => rw [rep_str.mp r]; rfl
  | tup ds => obtain ⟨a, vs, rfl, _⟩ := rep_tup.mp r; rfl
  | frz ds => obtain ⟨_, a, vs, rfl, _⟩ := rep_frz.mp r; rfl
  | ref n => obtain ⟨a, _, rfl⟩ := rep_ref.mp r; rfl
theorem dIs_ok : Op2 K (fun x y H Q => y = .non ∧ Q (.bl (decide (x = .non))) H) dIs := by
  intro H m S x y d e c S' Q s rx ry h k
  unfold dIs at h
  split at h
  · cases h
    exact ⟨rep_non.mp ry, by rw [isNonD_ok rx]; exact k _ H m (Ext.refl _ _) s (rep_bl.mpr rfl)⟩
  · cases h
theorem dIsNot_ok : Op2 K (fun x y H Q => y = .non ∧ Q (.bl (!decide (x = .non))) H) dIsNot := by
  intro H m S x y d e c S' Q s rx ry h k
  unfold dIsNot at h
  split at h
  · cases h
    exact ⟨rep_non.mp ry, by rw [isNonD_ok rx]; exact k _ H m (Ext.refl _ _) s (rep_bl.mpr rfl)⟩
  · cases h
end
end Mp

set_option Elab.async false
set_option linter.all false
set_option maxRecDepth 100000
set_option maxHeartbeats 4000000
/-! Mp4: subscripts, slices, dicts, built-in calls and methods by data. -/
namespace Mp
open PySem L2
open PyProof.Rows hiding St

/-! ### subscripts -/
def keyD : D → Option Key
  | .int i => some (.inl i)
  | .str x => some (.inr x)
  | _ => none
def dK : Key → D
  | .inl i => .int i
  | .inr x => .str x
def lookK {β : Type} (ks : List (Key × β)) (k : Key) : Option β := (ks.find? fun kv => decide (kv.1 = k)).map (·.2)
def storeK {β : Type} (ks : List (Key × β)) (k : Key) (v : β) : List (Key × β) :=
  if (ks.any fun kv => decide (kv.1 = k)) = true then ks.map (fun kv => if kv.1 = k then (kv.1, v) else kv) else ks ++ [(k, v)]
def mergeD {β : Type} (ks more : List (Key × β)) : List (Key × β) := more.foldl (fun acc kv => storeK acc kv.1 kv.2) ks

def dIdx (d e : D) (S : Store) : R D := match d, e with
  | .tup ds, .int i => match atI ds i with
    | some x => .ok x S
    | none => .stuck
  | .str z, .int i => if z.length ≤ sizeLine then (match atI z.cps.toList i with
    | some c => .ok (.str ⟨#[c]⟩) S
    | none => .stuck) else .stuck
  | .frz ds, .int i => match atI ds i with
    | some x => .ok x S
    | none => .stuck
  | .ref n, _ => match getL S n with
    | some ds => match e with
      | .int i => match atI ds i with
        | some x => .ok x S
        | none => .stuck
      | _ => .stuck
    | none => match S[n]? with
      | some (.dK ks) => match keyD e with
        | some k => match lookK ks k with
          | some x => .ok x S
          | none => .stuck
        | none => .stuck
      | _ => .stuck
  | _, _ => .stuck

section
variable {K : PySem.W.Frag} {H : Hp} {m : List Addr} {S : Store}
theorem RepL.atI {ds : List D} {vs : List V} {i : Int} {d : D} (r : RepL K H m ds vs) (e : L2.atI ds i = some d) : ∃ v, L2.atI vs i = some v ∧ RepV K H m d v := by
  unfold L2.atI at e ⊢
  rw [← r.length]
  cases q : ixN ds.length i with
  | none => rw [q] at e; cases e
  | some j =>
    rw [q] at e
    exact r.get e
theorem keyD_ok {d : D} {k : Key} {v : V} (h : keyD d = some k) (r : RepV K H m d v) : v = kV k := by
  unfold keyD at h
  split at h
  · cases h; exact rep_int.mp r
  · cases h; exact rep_str.mp r
  · cases h
theorem dK_ok {k : Key} : RepV K H m (dK k) (kV k) := by cases k <;> simp [dK, kV, RepV]
theorem KRep.len : ∀ {ks : List (Key × D)} {us : List (Key × V)}, KRep K H m ks us → ks.length = us.length
  | [], _, h => by rw [show _ = [] from h]; rfl
  | (k, d) :: r, _, h => by
    obtain ⟨v, t, rfl, _, s⟩ := h
    simp [KRep.len s]
theorem KRep.keys : ∀ {ks : List (Key × D)} {us : List (Key × V)}, KRep K H m ks us → ks.map (·.1) = us.map (·.1)
  | [], _, h => by rw [show _ = [] from h]; rfl
  | (k, d) :: r, _, h => by
    obtain ⟨v, t, rfl, _, s⟩ := h
    simp [KRep.keys s]
theorem KRep.look {k : Key} : ∀ {ks : List (Key × D)} {us : List (Key × V)}, KRep K H m ks us → (∀ d, lookK ks k = some d → ∃ v, valV us k = some v ∧ RepV K H m d v) ∧ (lookK ks k = none → valV us k = none)
  | [], _, h => by rw [show _ = [] from h]; exact ⟨fun d e => by simp [lookK] at e, fun _ => rfl⟩
  | (k', d) :: r, _, h => by
    obtain ⟨v, t, rfl, q, s⟩ := h
    have ih := KRep.look (k := k) s
    by_cases e : k' = k
    · have e1 : lookK ((k', d) :: r) k = some d := by simp [lookK, List.find?_cons, e]
      rw [e1, valV_pos (p := (k', v)) e]
      exact ⟨fun x hx => by cases hx; exact ⟨v, rfl, q⟩, fun hx => by cases hx⟩
    · have e1 : lookK ((k', d) :: r) k = lookK r k := by simp [lookK, List.find?_cons, e]
      rw [e1, valV_neg (p := (k', v)) e]
      exact ih
theorem KRep.mapPut {k : Key} {d : D} {v : V} (rv : RepV K H m d v) : ∀ {ks : List (Key × D)} {us : List (Key × V)}, KRep K H m ks us → KRep K H m (ks.map fun kv => if kv.1 = k then (kv.1, d) else kv) (us.map fun kv => if kv.1 = k then (kv.1, v) else kv)
  | [], _, h => by rw [show _ = [] from h]; rfl
  | (k', d') :: r, _, h => by
    obtain ⟨v', t, rfl, q, s⟩ := h
    have ih := KRep.mapPut (k := k) rv s
    by_cases e : k' = k
    · simp only [List.map_cons, e, if_true]; exact ⟨v, _, rfl, rv, ih⟩
    · simp only [List.map_cons, e, if_false]; exact ⟨v', _, rfl, q, ih⟩
theorem KRep.app {k : Key} {d : D} {v : V} (rv : RepV K H m d v) : ∀ {ks : List (Key × D)} {us : List (Key × V)}, KRep K H m ks us → KRep K H m (ks ++ [(k, d)]) (us ++ [(k, v)])
  | [], _, h => by rw [show _ = [] from h]; exact ⟨v, [], rfl, rv, rfl⟩
  | (k', d') :: r, _, h => by
    obtain ⟨v', t, rfl, q, s⟩ := h
    exact ⟨v', _, rfl, q, KRep.app rv s⟩
theorem KRep.any {k : Key} : ∀ {ks : List (Key × D)} {us : List (Key × V)}, KRep K H m ks us → (ks.any fun kv => decide (kv.1 = k)) = us.any fun kv => decide (kv.1 = k)
  | [], _, h => by rw [show _ = [] from h]; rfl
  | (k', d') :: r, _, h => by
    obtain ⟨v', t, rfl, q, s⟩ := h
    simp only [List.any_cons, KRep.any s]
theorem KRep.put {k : Key} {d : D} {v : V} {ks : List (Key × D)} {us : List (Key × V)} (r : KRep K H m ks us) (rv : RepV K H m d v) : KRep K H m (storeK ks k d) (putK us k v) := by
  unfold storeK putK
  rw [r.any]
  split
  · exact KRep.mapPut rv r
  · exact KRep.app rv r
theorem KRep.merge : ∀ {more : List (Key × D)} {wore : List (Key × V)} {ks : List (Key × D)} {us : List (Key × V)}, KRep K H m ks us → KRep K H m more wore → KRep K H m (mergeD ks more) (mergeK us wore)
  | [], _, _, _, r, h => by rw [show _ = [] from h]; exact r
  | (k, d) :: t, _, _, _, r, h => by
    obtain ⟨v', w, rfl, q, s⟩ := h
    exact KRep.merge (more := t) (ks := storeK _ k d) (us := putK _ k v') (KRep.put (k := k) r q) s
end

section
variable {X : Cx} {a b : Expr} {da db : DE} {pos : Pos}
def rIxAll (K : PySem.W.Frag) : R2 := fun x y H Q => rIxL K x y H Q ∨ rIxT K x y H Q ∨ rIxS x y H Q
theorem ix_all : IxR X (rIxAll X.K) := IxR.or ix_list (IxR.or ix_tup ix_str)
theorem snd_idx (hu : X.A.units + 1 < cLine) (ha : PE X a (tD X.K da)) (hb : PE X b (tD X.K db)) (hs : PlainIx b) : PE X (.Subscript a b pos) (tD X.K (eBin dIdx da db)) := by
  refine PE.imp (PE.or (pe_ix ix_all ha hb hs) (pe_dget hu ha hb hs)) fun σ H Q h => ?_
  obtain ⟨m, S, ρ, d, S', s, r, e, k⟩ := h
  obtain ⟨x, S1, e1, e⟩ := R.bind_ok e
  obtain ⟨y, S2, e2, e3⟩ := R.bind_ok e
  unfold dIdx at e3
  split at e3
  · rename_i ds i
    split at e3
    · rename_i z hz
      cases e3
      refine .inl (tD_mk s r e1 fun v H1 m1 x1 s1 r1 rv => tD_mk s1 r1 e2 fun u H2 m2 x2 s2 r2 ru => ?_)
      obtain ⟨p, vs, rfl, q, rl⟩ := rep_tup.mp (RepV.ext x2 _ _ rv)
      obtain ⟨w, h1, h2⟩ := rl.atI hz
      exact .inr (.inl ⟨p, vs, i, w, rfl, rep_int.mp ru, q.sqT, h1, k w H2 m2 (x1.then s1 x2) s2 h2⟩)
    · cases e3
  · rename_i z i
    split at e3
    · rename_i hz
      split at e3
      · rename_i c hc
        cases e3
        refine .inl (tD_mk s r e1 fun v H1 m1 x1 s1 r1 rv => tD_mk s1 r1 e2 fun u H2 m2 x2 s2 r2 ru => ?_)
        exact .inr (.inr ⟨z, i, c, rep_str.mp rv, rep_int.mp ru, hz, hc, k _ H2 m2 (x1.then s1 x2) s2 (rep_str.mpr rfl)⟩)
      · cases e3
    · cases e3
  · rename_i ds i
    split at e3
    · rename_i z hz
      cases e3
      refine .inl (tD_mk s r e1 fun v H1 m1 x1 s1 r1 rv => tD_mk s1 r1 e2 fun u H2 m2 x2 s2 r2 ru => ?_)
      obtain ⟨_, p, vs, rfl, q, rl⟩ := rep_frz.mp (RepV.ext x2 _ _ rv)
      obtain ⟨w, h1, h2⟩ := rl.atI hz
      exact .inl ⟨p, vs, i, w, rfl, rep_int.mp ru, q.sqL, h1, k w H2 m2 (x1.then s1 x2) s2 h2⟩
    · cases e3
  · rename_i n
    split at e3
    · rename_i ds hd
      split at e3
      · rename_i i
        split at e3
        · rename_i z hz
          cases e3
          refine .inl (tD_mk s r e1 fun v H1 m1 x1 s1 r1 rv => tD_mk s1 r1 e2 fun u H2 m2 x2 s2 r2 ru => ?_)
          obtain ⟨p, vs, rfl, q, rl, _⟩ := s2.list (RepV.ext x2 _ _ rv) hd
          obtain ⟨w, h1, h2⟩ := rl.atI hz
          exact .inl ⟨p, vs, i, w, rfl, rep_int.mp ru, q, h1, k w H2 m2 (x1.then s1 x2) s2 h2⟩
        · cases e3
      · cases e3
    · split at e3
      · rename_i ks hk
        split at e3
        · rename_i key hkey
          split at e3
          · rename_i z hz
            cases e3
            refine .inr (tD_mk s r e1 fun v H1 m1 x1 s1 r1 rv => tD_mk s1 r1 e2 fun u H2 m2 x2 s2 r2 ru => ?_)
            obtain ⟨p, us, _, rfl, q, rl, _⟩ := s2.dK (RepV.ext x2 _ _ rv) hk
            obtain ⟨w, h1, h2⟩ := (KRep.look rl).1 _ hz
            refine ⟨p, w, rfl, ?_, k w H2 m2 (x1.then s1 x2) s2 h2⟩
            rw [keyD_ok hkey ru, ← h1]
            exact DGet.k q
          · cases e3
        · cases e3
      · cases e3
  · cases e3
end

/-! ### in -/
def flatD : D → Bool
  | .non => true
  | .bl _ => true
  | .int _ => true
  | .str _ => true
  | _ => false
def eqFD : D → D → Bool
  | .non, .non => true
  | .bl a, .bl b => a == b
  | .bl a, .int b => (if a then 1 else 0) == b
  | .int a, .bl b => a == (if b then 1 else 0)
  | .int a, .int b => a == b
  | .str a, .str b => a == b
  | _, _ => false
def inFD (x : D) (xs : List D) : Bool := xs.any fun y => eqFD y x
/-- whether x is in the container y; none: not told -/
def isIn (x y : D) (S : Store) : Option Bool := match y with
  | .tup ds => if flatD x = true ∧ ds.all flatD = true then some (inFD x ds) else none
  | .ref n => match getL S n with
    | some ds => if flatD x = true ∧ ds.all flatD = true then some (inFD x ds) else
        match toPD S 66 x, mapO (toPD S 65) ds with
        | some p, some ps => if SeqAt.shaped p = true ∧ SeqAt.shaped (.list ps) = true then some (ps.any fun z => PyData.eqv z p) else none
        | _, _ => none
    | none => match S[n]? with
      | some (.dK ks) => match keyD x with
        | some k => some (lookK ks k).isSome
        | none => none
      | _ => none
  | _ => none
def dIn (x y : D) (S : Store) : R D := match isIn x y S with
  | some b => .ok (.bl b) S
  | none => .stuck
def dNotIn (x y : D) (S : Store) : R D := match isIn x y S with
  | some b => .ok (.bl (!b)) S
  | none => .stuck

section
variable {K : PySem.W.Frag} {H : Hp} {m : List Addr} {S : Store}
theorem flat_ok {d : D} {v : V} (r : RepV K H m d v) (h : flatD d = true) : flatV v = true := by
  cases d with
  | non => rw [rep_non.mp r]; rfl
  | bl b => rw [rep_bl.mp r]; rfl
  | int i => rw [rep_int.mp r]; rfl
  | str i => rw [rep_str.mp r]; rfl
  | tup ds => cases h
  | frz ds => cases h
  | ref n => cases h
theorem eqF_ok {d e : D} {v u : V} (r : RepV K H m d v) (q : RepV K H m e u) (hd : flatD d = true) (he : flatD e = true) : eqFD d e = eqV v u := by
  cases d <;> first | (cases hd; done) | skip
  all_goals (cases e <;> first | (cases he; done) | skip)
  all_goals (simp only [RepV] at r q; subst r; subst q; rfl)
theorem flatAll_ok : ∀ {ds : List D} {vs : List V}, RepL K H m ds vs → ds.all flatD = true → vs.all flatV = true
  | [], _, r, _ => by rw [r.nil_inv]; rfl
  | d :: ds, _, r, h => by
    obtain ⟨v, t, rfl, r1, r2⟩ := r.cons_inv
    rw [List.all_cons, Bool.and_eq_true] at h
    rw [List.all_cons, flat_ok r1 h.1, flatAll_ok r2 h.2]
    rfl
theorem inF_ok {x : D} {v : V} (rx : RepV K H m x v) (hx : flatD x = true) : ∀ {ds : List D} {vs : List V}, RepL K H m ds vs → ds.all flatD = true → inFD x ds = inV v vs
  | [], _, r, _ => by rw [r.nil_inv]; rfl
  | d :: ds, _, r, h => by
    obtain ⟨w, t, rfl, r1, r2⟩ := r.cons_inv
    rw [List.all_cons, Bool.and_eq_true] at h
    have ih := inF_ok rx hx r2 h.2
    unfold inFD inV at ih ⊢
    rw [List.any_cons, List.any_cons, ih, eqF_ok r1 rx h.1 hx]
end

section
variable {X : Cx} {a b : Expr} {da db : DE} {pos : Pos}
def rInAll (K : PySem.W.Frag) : R2 := fun x y H Q => rIn K false x y H Q ∨ rInD K x y H Q
def rNotInAll (K : PySem.W.Frag) : R2 := fun x y H Q => rIn K true x y H Q ∨ rNotInD K x y H Q
/-- what stands behind a told «in»: one of the three rules -/
theorem isIn_ok {K : PySem.W.Frag} {H : Hp} {m : List Addr} {S : Store} {x y : D} {v u : V} {c : Bool} (s : SOk K H m S) (rx : RepV K H m x v) (ry : RepV K H m y u) (h : isIn x y S = some c) :
    (∃ p xs, u = .ref p ∧ (SqL K H p xs ∨ SqT K H p xs) ∧ flatV v = true ∧ xs.all flatV = true ∧ inV v xs = c) ∨
    (∃ d ds, Dp K H v d ∧ Dp K H u (.list ds) ∧ SeqAt.shaped d = true ∧ SeqAt.shaped (.list ds) = true ∧ (ds.any fun z => PyData.eqv z d) = c) ∨
    (∃ a o, u = .ref a ∧ DGet H a v o ∧ o.isSome = c) := by
  unfold isIn at h
  split at h
  · split at h
    · rename_i ds hf
      cases h
      obtain ⟨p, vs, rfl, q, rl⟩ := rep_tup.mp ry
      exact .inl ⟨p, vs, rfl, .inr q.sqT, flat_ok rx hf.1, flatAll_ok rl hf.2, (inF_ok rx hf.1 rl hf.2).symm⟩
    · cases h
  · rename_i n
    split at h
    · rename_i ds hd
      obtain ⟨p, vs, rfl, q, rl, _⟩ := s.list ry hd
      split at h
      · rename_i hf
        cases h
        exact .inl ⟨p, vs, rfl, .inl q, flat_ok rx hf.1, flatAll_ok rl hf.2, (inF_ok rx hf.1 rl hf.2).symm⟩
      · split at h
        · rename_i x' ps e1 e2
          split at h
          · rename_i hs
            cases h
            exact .inr (.inl ⟨x', ps, toPD_ok s _ _ _ _ rx e1, .lst q (mapO_ok (fun d v x => toPD_ok s _ d v x) ds vs ps rl e2), hs.1, hs.2, rfl⟩)
          · cases h
        · cases h
    · split at h
      · rename_i ks hk
        split at h
        · rename_i key hkey
          cases h
          obtain ⟨p, us, _, rfl, q, rl, _⟩ := s.dK ry hk
          refine .inr (.inr ⟨p, valV us key, rfl, ?_, ?_⟩)
          · rw [keyD_ok hkey rx]; exact DGet.k q
          · cases hl : lookK ks key with
            | none => rw [(KRep.look rl).2 hl]; rfl
            | some z => obtain ⟨w, h1, _⟩ := (KRep.look rl).1 _ hl; rw [h1]; rfl
        · cases h
      · cases h
  · cases h
theorem snd_in (hu : X.A.units + 65 < cLine) (ha : PE X a (tD X.K da)) (hb : PE X b (tD X.K db)) : PC X .In a b (tD X.K (eBin dIn da db)) := by
  refine PC.imp (PC.or (PC.or (pc_op op_in_seq ha hb) (pc_op (op_inD hu) ha hb)) (pc_din (by omega) ha hb)) fun σ H Q h => ?_
  obtain ⟨m, S, ρ, d, S', s, r, e, k⟩ := h
  obtain ⟨x, S1, e1, e⟩ := R.bind_ok e
  obtain ⟨y, S2, e2, e3⟩ := R.bind_ok e
  unfold dIn at e3
  split at e3
  · rename_i c hc
    cases e3
    have go : ∀ (T : V → V → Hp → Prop), (∀ v u H2 m2, Ext m H m2 H2 → SOk X.K H2 m2 S' → RepV X.K H2 m2 x v → RepV X.K H2 m2 y u → T v u H2) → tD X.K da σ H fun v H1 => tD X.K db σ H1 fun u H2 => T v u H2 :=
      fun T hT => tD_mk s r e1 fun v H1 m1 x1 s1 r1 rv => tD_mk s1 r1 e2 fun u H2 m2 x2 s2 r2 ru => hT v u H2 m2 (x1.then s1 x2) s2 (RepV.ext x2 _ _ rv) ru
    -- which of the three rules hangs on the store alone
    by_cases hk : ∃ n ks, y = .ref n ∧ S'[n]? = some (.dK ks)
    · obtain ⟨n, ks, rfl, hk⟩ := hk
      refine .inr (go (fun v u H2 => ∃ a o, u = .ref a ∧ DGet H2 a v o ∧ Q (.bl o.isSome) H2) fun v u H2 m2 x2 s2 rv ru => ?_)
      have hg : getL S' n = none := by unfold getL; rw [hk]
      unfold isIn at hc
      simp only [hg, hk] at hc
      split at hc
      · rename_i key hkey
        cases hc
        obtain ⟨p, us, _, rfl, q, rl, _⟩ := s2.dK ru hk
        refine ⟨p, valV us key, rfl, by rw [keyD_ok hkey rv]; exact DGet.k q, ?_⟩
        have : (valV us key).isSome = (lookK ks key).isSome := by
          cases hl : lookK ks key with
          | none => rw [(KRep.look rl).2 hl]; rfl
          | some z => obtain ⟨w, h1, _⟩ := (KRep.look rl).1 _ hl; rw [h1]; rfl
        rw [this]
        exact k _ H2 m2 x2 s2 (rep_bl.mpr rfl)
      · cases hc
    · by_cases hf : flatD x = true ∧ ∃ ds, (y = .tup ds ∨ ∃ n, y = .ref n ∧ getL S' n = some ds) ∧ ds.all flatD = true
      · refine .inl (.inl (go (fun v u H2 => rIn X.K false v u H2 Q) fun v u H2 m2 x2 s2 rv ru => ?_))
        obtain ⟨hx, ds, hy, hds⟩ := hf
        rcases hy with rfl | ⟨n, rfl, hn⟩
        · simp only [isIn, hx, hds, and_self, if_true] at hc
          cases hc
          obtain ⟨p, vs, rfl, q, rl⟩ := rep_tup.mp ru
          refine ⟨p, vs, rfl, .inr q.sqT, flat_ok rv hx, flatAll_ok rl hds, ?_⟩
          rw [if_neg (by simp), ← inF_ok rv hx rl hds]
          exact k _ H2 m2 x2 s2 (rep_bl.mpr rfl)
        · simp only [isIn, hn, hx, hds, and_self, if_true] at hc
          cases hc
          obtain ⟨p, vs, rfl, q, rl, _⟩ := s2.list ru hn
          refine ⟨p, vs, rfl, .inl q, flat_ok rv hx, flatAll_ok rl hds, ?_⟩
          rw [if_neg (by simp), ← inF_ok rv hx rl hds]
          exact k _ H2 m2 x2 s2 (rep_bl.mpr rfl)
      · refine .inl (.inr (go (fun v u H2 => rInD X.K v u H2 Q) fun v u H2 m2 x2 s2 rv ru => ?_))
        cases y with
        | tup ds =>
          by_cases hq : flatD x = true ∧ ds.all flatD = true
          · exact absurd ⟨hq.1, ds, .inl rfl, hq.2⟩ hf
          · simp only [isIn, if_neg hq] at hc; cases hc
        | ref n =>
          cases hn : getL S' n with
          | none =>
            simp only [isIn, hn] at hc
            split at hc
            · rename_i ks hks; exact absurd ⟨n, ks, rfl, hks⟩ hk
            · cases hc
          | some ds =>
            have hq : ¬ (flatD x = true ∧ ds.all flatD = true) := fun hq => hf ⟨hq.1, ds, .inr ⟨n, rfl, hn⟩, hq.2⟩
            simp only [isIn, hn, if_neg hq] at hc
            split at hc
            · rename_i x' ps e1' e2'
              split at hc
              · rename_i hs
                cases hc
                obtain ⟨p, vs, rfl, q, rl, _⟩ := s2.list ru hn
                exact ⟨x', ps, toPD_ok s2 _ _ _ _ rv e1', .lst q (mapO_ok (fun d v x => toPD_ok s2 _ d v x) ds vs ps rl e2'), hs.1, hs.2, k _ H2 m2 x2 s2 (rep_bl.mpr rfl)⟩
              · cases hc
            · cases hc
        | _ => simp only [isIn] at hc; cases hc
  · cases e3
theorem snd_notIn (hu : X.A.units + 65 < cLine) (ha : PE X a (tD X.K da)) (hb : PE X b (tD X.K db)) : PC X .NotIn a b (tD X.K (eBin dNotIn da db)) := by
  refine PC.imp (PC.or (PC.or (pc_op op_notIn_seq ha hb) (pc_op (op_notInD hu) ha hb)) (pc_dnotin (by omega) ha hb)) fun σ H Q h => ?_
  obtain ⟨m, S, ρ, d, S', s, r, e, k⟩ := h
  obtain ⟨x, S1, e1, e⟩ := R.bind_ok e
  obtain ⟨y, S2, e2, e3⟩ := R.bind_ok e
  unfold dNotIn at e3
  split at e3
  · rename_i c hc
    cases e3
    have go : ∀ (T : V → V → Hp → Prop), (∀ v u H2 m2, Ext m H m2 H2 → SOk X.K H2 m2 S' → RepV X.K H2 m2 x v → RepV X.K H2 m2 y u → T v u H2) → tD X.K da σ H fun v H1 => tD X.K db σ H1 fun u H2 => T v u H2 :=
      fun T hT => tD_mk s r e1 fun v H1 m1 x1 s1 r1 rv => tD_mk s1 r1 e2 fun u H2 m2 x2 s2 r2 ru => hT v u H2 m2 (x1.then s1 x2) s2 (RepV.ext x2 _ _ rv) ru
    by_cases hk : ∃ n ks, y = .ref n ∧ S'[n]? = some (.dK ks)
    · obtain ⟨n, ks, rfl, hk⟩ := hk
      refine .inr (go (fun v u H2 => ∃ a o, u = .ref a ∧ DGet H2 a v o ∧ Q (.bl (!o.isSome)) H2) fun v u H2 m2 x2 s2 rv ru => ?_)
      have hg : getL S' n = none := by unfold getL; rw [hk]
      unfold isIn at hc
      simp only [hg, hk] at hc
      split at hc
      · rename_i key hkey
        cases hc
        obtain ⟨p, us, _, rfl, q, rl, _⟩ := s2.dK ru hk
        refine ⟨p, valV us key, rfl, by rw [keyD_ok hkey rv]; exact DGet.k q, ?_⟩
        have : (valV us key).isSome = (lookK ks key).isSome := by
          cases hl : lookK ks key with
          | none => rw [(KRep.look rl).2 hl]; rfl
          | some z => obtain ⟨w, h1, _⟩ := (KRep.look rl).1 _ hl; rw [h1]; rfl
        rw [this]
        exact k _ H2 m2 x2 s2 (rep_bl.mpr rfl)
      · cases hc
    · by_cases hf : flatD x = true ∧ ∃ ds, (y = .tup ds ∨ ∃ n, y = .ref n ∧ getL S' n = some ds) ∧ ds.all flatD = true
      · refine .inl (.inl (go (fun v u H2 => rIn X.K true v u H2 Q) fun v u H2 m2 x2 s2 rv ru => ?_))
        obtain ⟨hx, ds, hy, hds⟩ := hf
        rcases hy with rfl | ⟨n, rfl, hn⟩
        · simp only [isIn, hx, hds, and_self, if_true] at hc
          cases hc
          obtain ⟨p, vs, rfl, q, rl⟩ := rep_tup.mp ru
          refine ⟨p, vs, rfl, .inr q.sqT, flat_ok rv hx, flatAll_ok rl hds, ?_⟩
          rw [if_pos rfl, ← inF_ok rv hx rl hds]
          exact k _ H2 m2 x2 s2 (rep_bl.mpr rfl)
        · simp only [isIn, hn, hx, hds, and_self, if_true] at hc
          cases hc
          obtain ⟨p, vs, rfl, q, rl, _⟩ := s2.list ru hn
          refine ⟨p, vs, rfl, .inl q, flat_ok rv hx, flatAll_ok rl hds, ?_⟩
          rw [if_pos rfl, ← inF_ok rv hx rl hds]
          exact k _ H2 m2 x2 s2 (rep_bl.mpr rfl)
      · refine .inl (.inr (go (fun v u H2 => rNotInD X.K v u H2 Q) fun v u H2 m2 x2 s2 rv ru => ?_))
        cases y with
        | tup ds =>
          by_cases hq : flatD x = true ∧ ds.all flatD = true
          · exact absurd ⟨hq.1, ds, .inl rfl, hq.2⟩ hf
          · simp only [isIn, if_neg hq] at hc; cases hc
        | ref n =>
          cases hn : getL S' n with
          | none =>
            simp only [isIn, hn] at hc
            split at hc
            · rename_i ks hks; exact absurd ⟨n, ks, rfl, hks⟩ hk
            · cases hc
          | some ds =>
            have hq : ¬ (flatD x = true ∧ ds.all flatD = true) := fun hq => hf ⟨hq.1, ds, .inr ⟨n, rfl, hn⟩, hq.2⟩
            simp only [isIn, hn, if_neg hq] at hc
            split at hc
            · rename_i x' ps e1' e2'
              split at hc
              · rename_i hs
                cases hc
                obtain ⟨p, vs, rfl, q, rl, _⟩ := s2.list ru hn
                exact ⟨x', ps, toPD_ok s2 _ _ _ _ rv e1', .lst q (mapO_ok (fun d v x => toPD_ok s2 _ d v x) ds vs ps rl e2'), hs.1, hs.2, k _ H2 m2 x2 s2 (rep_bl.mpr rfl)⟩
              · cases hc
            · cases hc
        | _ => simp only [isIn] at hc; cases hc
  · cases e3
end
end Mp

set_option Elab.async false
set_option linter.all false
set_option maxRecDepth 100000
set_option maxHeartbeats 4000000
/-! Mp5: slices, dict displays, built-in calls, methods. -/
namespace Mp
open PySem L2
open PyProof.Rows hiding St

/-! ### no star -/
def isStar : Expr → Bool
  | .Starred _ _ => true
  | _ => false
def noStar (es : List Expr) : Bool := es.all fun e => !isStar e
theorem star_cons {e : Expr} {es : List Expr} {env : PySem.Env} (h : isStar e = false) : starEach (e :: es) env = (false, eval e env) :: starEach es env := by
  cases e <;> first | rfl | cases h
theorem star_all {env : PySem.Env} : ∀ {es : List Expr}, noStar es = true → starEach es env = es.map fun e => (false, eval e env)
  | [], _ => rfl
  | e :: es, h => by
    unfold noStar at h
    rw [List.all_cons, Bool.and_eq_true] at h
    have h1 : isStar e = false := by simpa using h.1
    rw [star_cons h1, star_all (es := es) h.2]
    rfl
theorem star_back {env : PySem.Env} {pos : Pos} {es : List Expr} (h : noStar es = true) : (backTo pos (starEach es env)).any (·.1) = false := by
  rw [star_all h]
  unfold backTo
  rw [List.any_eq_false]
  intro x hx
  obtain ⟨y, hy, rfl⟩ := List.mem_map.mp hx
  obtain ⟨z, _, rfl⟩ := List.mem_map.mp hy
  simp
theorem noStar_cons {e : Expr} {es : List Expr} (h : noStar (e :: es) = true) : isStar e = false ∧ noStar es = true := by
  unfold noStar at h
  rw [List.all_cons, Bool.and_eq_true] at h
  exact ⟨by simpa using h.1, h.2⟩

/-! ### slices -/
abbrev DO := Env → Store → R (Option Int)
def oNone : DO := fun _ S => .ok none S
def oSome (a : DE) : DO := fun ρ S => (a ρ S).bind fun x S1 => match x with
  | .int i => .ok (some i) S1
  | _ => .stuck
def cutD {α : Type} (ds : List α) (lo hi : Option Int) : List α := (ds.drop (HT.sIx ds.length 0 lo)).take (HT.sIx ds.length ds.length hi - HT.sIx ds.length 0 lo)
def dCut (d : D) (lo hi : Option Int) (S : Store) : R D := match d with
  | .tup ds => .ok (.tup (cutD ds lo hi)) S
  | .str z => if z.length ≤ sizeLine then .ok (.str (cutS z lo hi)) S else .stuck
  | .frz ds => .ok (.ref S.length) (S ++ [.lst (cutD ds lo hi)])
  | .ref n => match getL S n with
    | some ds => .ok (.ref S.length) (S ++ [.lst (cutD ds lo hi)])
    | none => .stuck
  | _ => .stuck
def eCut (a : DE) (lo hi : DO) : DE := fun ρ S => (a ρ S).bind fun x S1 => (lo ρ S1).bind fun l S2 => (hi ρ S2).bind fun u S3 => dCut x l u S3
def tDO (K : PySem.W.Frag) (f : DO) : TO := fun σ H Q => ∃ m S ρ b S', SOk K H m S ∧ RepE K H m ρ σ ∧ f ρ S = .ok b S' ∧
  ∀ H' m', Ext m H m' H' → SOk K H' m' S' → Q b H'
theorem tDO_mk {K : PySem.W.Frag} {f : DO} {σ : St} {H : Hp} {Q : Option Int → Hp → Prop} {m : List Addr} {S S' : Store} {ρ : Env} {d : Option Int} (s : SOk K H m S) (r : RepE K H m ρ σ) (e : f ρ S = .ok d S')
    (k : ∀ H' m', Ext m H m' H' → SOk K H' m' S' → RepE K H' m' ρ σ → Q d H') : tDO K f σ H Q :=
  ⟨m, S, ρ, d, S', s, r, e, fun H' m' x s' => k H' m' x s' (r.ext x)⟩
section
variable {X : Cx} {a b : Expr} {da db : DE} {pos : Pos}
theorem PO.imp {e : Option Expr} {t t' : TO} (h : PO X e t) (k : ∀ σ H Q, t' σ H Q → t σ H Q) : PO X e t' := ⟨fun pins s σ H Q I q => h.run pins s σ H Q I (k σ H Q q)⟩
theorem snd_oNone : PO X none (tDO X.K oNone) := PO.imp po_none fun σ H Q h => by
  obtain ⟨m, S, ρ, d, S', s, r, e, k⟩ := h
  cases e
  exact k H m (Ext.refl _ _) s
theorem snd_oSome {e : Expr} (h : PE X e (tD X.K da)) : PO X (some e) (tDO X.K (oSome da)) := PO.imp (po_some h) fun σ H Q h => by
  obtain ⟨m, S, ρ, d, S', s, r, e, k⟩ := h
  obtain ⟨x, S1, e1, e2⟩ := R.bind_ok e
  refine tD_mk s r e1 fun v H1 m1 x1 s1 r1 rv => ?_
  split at e2
  · cases e2
    exact ⟨_, rep_int.mp rv, k H1 m1 x1 s1⟩
  · cases e2
/-- t[lo:hi], the new tuple known to its object -/
def rSlP (K : PySem.W.Frag) : V → Option Int → Option Int → Hp → VK → Prop := fun x lo hi H Q => ∃ a xs, x = .ref a ∧ SqT K H a xs ∧
  (HT.sIx xs.length 0 lo = 0 ∧ HT.sIx xs.length xs.length hi = xs.length → Q (.ref a) H) ∧ (∀ p o, o.dict = none → H p = none → Q (.ref p) (upd H p (.frz o (.tup (cutV xs lo hi)))))
theorem sl_tupP : SlR X (rSlP X.K) := by
  intro pins s σ H x v vl vu lo hi sl Q I rx hs pl pu h
  obtain ⟨a, xs, rfl, hx, q1, q2⟩ := h
  by_cases hw : HT.sIx xs.length 0 lo = 0 ∧ HT.sIx xs.length xs.length hi = xs.length
  · exact sl_tupA pins s σ H (.ref a) v vl vu lo hi sl Q I rx hs pl pu ⟨a, xs, rfl, hx, q1, fun z => absurd hw z⟩
  · cases rx
    obtain ⟨its, r, ht, hz⟩ := I.tuple hx
    have el : its.toArray.size = xs.length := by rw [List.size_toArray]; exact r.length.symm
    refine ⟨"tuple", _, PyProof.Rows.slot_tuple_getitem.lookup, ht.typeIs, HT.getItem_tuple_cut ht hs pl pu (by rw [el]; exact hw) ?_ (by rw [el]; exact hz)⟩
    rw [el]
    have fr : H s.heap.objs.size = none := I.hok.fresh (Nat.le_refl _)
    have rv : Vals (cutV xs lo hi) ((its.drop (HT.sIx xs.length 0 lo)).take (HT.sIx xs.length xs.length hi - HT.sIx xs.length 0 lo)) := (r.drop _).take _
    refine ⟨.ref s.heap.objs.size, _, I.laid (t' := s.toks) (o := .frz { cls := .type "tuple", data := .seq ((its.drop (HT.sIx xs.length 0 lo)).take (HT.sIx xs.length xs.length hi - HT.sIx xs.length 0 lo)).toArray } (.tup (cutV xs lo hi))) (fun b' u' e => Heap.get?_push_of_some _ e) (Nat.le_refl _) ?_, rfl, q2 _ _ rfl fr⟩
    refine ⟨?_, Nat.le_trans (cutV_length xs lo hi) hz, _, rv, ?_⟩
    · first
        | exact Heap.get?_push_size _ rfl
        | simpa using Heap.get?_push_size s.heap (o := { cls := .type "tuple", data := .seq ((its.drop (HT.sIx xs.length 0 lo)).take (HT.sIx xs.length xs.length hi - HT.sIx xs.length 0 lo)).toArray }) rfl
    · first
        | exact IsTup.new _ _
        | simpa using IsTup.new s.heap ((its.drop (HT.sIx xs.length 0 lo)).take (HT.sIx xs.length xs.length hi - HT.sIx xs.length 0 lo)).toArray
def rSlAll (K : PySem.W.Frag) : V → Option Int → Option Int → Hp → VK → Prop := fun x lo hi H Q => rSlP K x lo hi H Q ∨ rSlL K x lo hi H Q ∨ rSlS x lo hi H Q
theorem sl_all : SlR X (rSlAll X.K) := SlR.or sl_tupP (SlR.or sl_list sl_str)
theorem RepL.cut {K : PySem.W.Frag} {H : Hp} {m : List Addr} {ds : List D} {vs : List V} {lo hi : Option Int} (r : RepL K H m ds vs) : RepL K H m (cutD ds lo hi) (cutV vs lo hi) := by
  unfold cutD cutV
  rw [r.length]
  exact RepL.take _ (RepL.drop _ r)
theorem snd_cut {lo hi : Option Expr} {dl dh : DO} {p2 : Pos} (ha : PE X a (tD X.K da)) (hl : PO X lo (tDO X.K dl)) (hh : PO X hi (tDO X.K dh)) : PE X (.Subscript a (.Slice lo hi none p2) pos) (tD X.K (eCut da dl dh)) := by
  refine PE.imp (pe_slice sl_all ha hl hh) fun σ H Q h => ?_
  obtain ⟨m, S, ρ, d, S', s, r, e, k⟩ := h
  obtain ⟨x, S1, e1, e⟩ := R.bind_ok e
  obtain ⟨l, S2, e2, e⟩ := R.bind_ok e
  obtain ⟨u, S3, e3, e4⟩ := R.bind_ok e
  refine tD_mk s r e1 fun v H1 m1 x1 s1 r1 rv => tDO_mk s1 r1 e2 fun H2 m2 x2 s2 r2 => tDO_mk s2 r2 e3 fun H3 m3 x3 s3 r3 => ?_
  have rv3 := RepV.ext x3 _ _ (RepV.ext x2 _ _ rv)
  have xx := (x1.then s1 x2).then s2 x3
  unfold dCut at e4
  split at e4
  · rename_i ds _
    cases e4
    obtain ⟨p, vs, rfl, q, rl⟩ := rep_tup.mp rv3
    refine .inl ⟨p, vs, rfl, q.sqT, fun e => ?_, fun z o ho hz => ?_⟩
    · refine k _ H3 m3 xx s3 (rep_tup.mpr ⟨p, vs, rfl, q, ?_⟩)
      have : cutD ds l u = ds := by
        unfold cutD
        rw [rl.length, e.1, e.2]
        simp [← rl.length]
      rw [this]; exact rl
    · obtain ⟨y1, y2, y3⟩ := s3.newT ho hz (RepL.cut (lo := l) (hi := u) rl)
      exact k _ _ _ (xx.then s3 y1) y2 y3
  · split at e4
    · rename_i z _ hz
      cases e4
      exact .inr (.inr ⟨z, rep_str.mp rv3, hz, k _ H3 m3 xx s3 (rep_str.mpr rfl)⟩)
    · cases e4
  · rename_i ds _
    cases e4
    obtain ⟨hz, p, vs, rfl, q, rl⟩ := rep_frz.mp rv3
    refine .inr (.inl ⟨p, vs, rfl, q.sqL, fun z hzz => ?_⟩)
    have hl : (cutD ds l u).length ≤ sizeLine := Nat.le_trans (by unfold cutD; simp; omega) hz
    obtain ⟨y1, y2, y3⟩ := s3.newL hzz hl (RepL.cut (lo := l) (hi := u) rl)
    exact k _ _ _ (xx.then s3 y1) y2 y3
  · split at e4
    · rename_i n ds hd
      cases e4
      obtain ⟨p, vs, rfl, q, rl, hz⟩ := s3.list rv3 hd
      refine .inr (.inl ⟨p, vs, rfl, q, fun z hzz => ?_⟩)
      have hl : (cutD ds l u).length ≤ sizeLine := Nat.le_trans (by unfold cutD; simp; omega) hz
      obtain ⟨y1, y2, y3⟩ := s3.newL hzz hl (RepL.cut (lo := l) (hi := u) rl)
      exact k _ _ _ (xx.then s3 y1) y2 y3
    · cases e4
  · cases e4
end

/-! ### dict displays -/
/-- the pairs of a display -/
abbrev DP := Env → Store → R (List (Key × D))
def pNil : DP := fun _ S => .ok [] S
def pCons (k v : DE) (r : DP) : DP := fun ρ S => (k ρ S).bind fun x S1 => (v ρ S1).bind fun y S2 => (r ρ S2).bind fun ps S3 => match keyD x with
  | some key => .ok ((key, y) :: ps) S3
  | none => .stuck
def eDict (p : DP) : DE := fun ρ S => (p ρ S).bind fun ps S1 => .ok (.ref S1.length) (S1 ++ [.dK (mergeD [] ps)])
section
variable {X : Cx} {pos : Pos}
theorem length_storeK {β : Type} (ks : List (Key × β)) (k : Key) (v : β) : (storeK ks k v).length ≤ ks.length + 1 := by
  unfold storeK; split <;> simp
theorem length_mergeD {β : Type} : ∀ (more ks : List (Key × β)), (mergeD ks more).length ≤ ks.length + more.length
  | [], ks => by simp [mergeD]
  | p :: r, ks => by
    have := length_mergeD r (storeK ks p.1 p.2)
    have h2 := length_storeK ks p.1 p.2
    show (mergeD (storeK ks p.1 p.2) r).length ≤ _
    simp; omega
inductive DPs (X : Cx) : List (Option Expr) → List Expr → List (TE × TE) → DP → Prop
  | nil : DPs X [] [] [] pNil
  | cons {k v : Expr} {ks : List (Option Expr)} {vs : List Expr} {ts : List (TE × TE)} {dk dv : DE} {r : DP} (hk : PE X k (tD X.K dk)) (hv : PE X v (tD X.K dv)) (hr : DPs X ks vs ts r) :
      DPs X (some k :: ks) (v :: vs) ((tD X.K dk, tD X.K dv) :: ts) (pCons dk dv r)
theorem DPs.pps : ∀ {ks : List (Option Expr)} {vs : List Expr} {ts : List (TE × TE)} {r : DP}, DPs X ks vs ts r → PPs X pos ks vs ts
  | _, _, _, _, .nil => pps_nil
  | _, _, _, _, .cons hk hv hr => pps_cons hk hv (DPs.pps hr)
theorem DPs.read : ∀ {ks : List (Option Expr)} {vs : List Expr} {ts : List (TE × TE)} {r : DP}, DPs X ks vs ts r → ∀ {σ : St} {H : Hp} {m : List Addr} {S S' : Store} {ρ : Env} {ps : List (Key × D)} {Q : List (V × V) → Hp → Prop},
    SOk X.K H m S → RepE X.K H m ρ σ → r ρ S = .ok ps S' → (∀ (us : List (Key × V)) H' m', Ext m H m' H' → SOk X.K H' m' S' → KRep X.K H' m' ps us → us.length = ks.length → Q (us.map fun kv => (kV kv.1, kv.2)) H') → tPairs ts σ H Q
  | _, _, _, _, .nil, σ, H, m, S, S', ρ, ps, Q, s, r, e, k => by
    cases e
    exact k [] H m (Ext.refl _ _) s rfl rfl
  | _, _, _, _, .cons (dk := dk) (dv := dv) hk hv hr, σ, H, m, S, S', ρ, ps, Q, s, r, e, k => by
    obtain ⟨x, S1, e1, e⟩ := R.bind_ok e
    obtain ⟨y, S2, e2, e⟩ := R.bind_ok e
    obtain ⟨qs, S3, e3, e4⟩ := R.bind_ok e
    refine tD_mk s r e1 fun v H1 m1 x1 s1 r1 rv => tD_mk s1 r1 e2 fun u H2 m2 x2 s2 r2 ru => ?_
    split at e4
    · rename_i key hkey
      cases e4
      refine DPs.read hr s2 r2 e3 fun us H3 m3 x3 s3 r3 hl => ?_
      have h1 := keyD_ok hkey rv
      subst h1
      refine k ((key, u) :: us) H3 m3 ((x1.then s1 x2).then s2 x3) s3 ⟨u, us, rfl, RepV.ext x3 _ _ ru, r3⟩ ?_
      simp [hl]
    · cases e4
theorem snd_dict {ks : List (Option Expr)} {vs : List Expr} {ts : List (TE × TE)} {r : DP} (h : DPs X ks vs ts r) (hall : ks.all (·.isSome) = true) (hl : ks.length = vs.length) (h0 : ks ≠ []) (h15 : ks.length ≤ 15) : PE X (.Dict ks vs pos) (tD X.K (eDict r)) := by
  refine PE.imp (pe_disp (h.pps) hall hl h0 h15) fun σ H Q q => ?_
  obtain ⟨m, S, ρ, d, S', s, re, e, k⟩ := q
  obtain ⟨ps, S1, e1, e2⟩ := R.bind_ok e
  cases e2
  intro p hp
  refine DPs.read h (s.updT hp) (re.ext (Ext.updT hp)) e1 fun us H1 m1 x1 s1 ru hlen => ?_
  have hnm : p ∉ m := s.fresh hp
  have hp1 : H1 p = some (.dK []) := x1.out p _ upd_same hnm
  have hpm : p ∉ m1 := x1.notin upd_same hnm
  have hz : (mergeD [] ps).length ≤ sizeLine := by
    have h1 := length_mergeD ps []
    have h2 := ru.len
    have h3 : (15 : Nat) ≤ sizeLine := by rw [sizeLine_eq]; decide
    simp at h1
    omega
  refine ⟨hp1, us, rfl, by rw [hlen]; exact h15, ?_⟩
  -- the dict joins the store
  have hm : KRep X.K H1 m1 (mergeD [] ps) (mergeK [] us) := KRep.merge (K := X.K) (show KRep X.K H1 m1 [] [] from rfl) ru
  have hpl : Plain (H1 p) := by rw [hp1]; exact ⟨fun xs e => (by cases e), fun b u e => (by cases e)⟩
  have s2 := s1.mask hpl hpm
  have x2 : Ext m H m1 (mask p H1) := by
    have := x1.mask (p := p)
    rw [mask_fresh hp] at this
    exact this
  obtain ⟨y1, y2, y3⟩ := s2.newK mask_self hz (KRep.kp (Kp.mask hpl) hm)
  rw [mask_upd] at y1 y2 y3
  exact k _ _ _ (x2.then s2 y1) y2 y3
end

/-! ### built-in calls -/
def lenD (d : D) (S : Store) : Option Nat := match d with
  | .str z => if z.length ≤ sizeLine then some z.length else none
  | .tup ds => some ds.length
  | .frz ds => some ds.length
  | .ref n => match getL S n with
    | some ds => some ds.length
    | none => none
  | _ => none
def bLen (xs : List D) (S : Store) : R D := match xs with
  | [x] => match lenD x S with
    | some n => .ok (.int n) S
    | none => .stuck
  | _ => .stuck
def bMax (xs : List D) (S : Store) : R D := match xs with
  | [.int i, .int j] => .ok (.int (if j > i then j else i)) S
  | _ => .stuck
def bMin (xs : List D) (S : Store) : R D := match xs with
  | [.int i, .int j] => .ok (.int (if j < i then j else i)) S
  | _ => .stuck
def bInt (xs : List D) (S : Store) : R D := match xs with
  | [.int i] => .ok (.int i) S
  | [.bl b] => .ok (.int (if b then 1 else 0)) S
  | _ => .stuck
def bTuple (xs : List D) (S : Store) : R D := match xs with
  | [.tup ds] => .ok (.tup ds) S
  | [.ref n] => match getL S n with
    | some ds => .ok (.tup ds) S
    | none => .stuck
  | _ => .stuck
def bList (xs : List D) (S : Store) : R D := match xs with
  | [.tup ds] => if ds.length ≤ sizeLine then .ok (.ref S.length) (S ++ [.lst ds]) else .stuck
  | [.ref n] => match getL S n with
    | some ds => .ok (.ref S.length) (S ++ [.lst ds])
    | none => match S[n]? with
      | some (.dK ks) => .ok (.ref S.length) (S ++ [.lst (ks.map fun kv => dK kv.1)])
      | _ => .stuck
  | _ => .stuck
def boolsD : List D → Option (List Bool)
  | [] => some []
  | .bl b :: r => match boolsD r with
    | some bs => some (b :: bs)
    | none => none
  | _ :: _ => none
def bAll (xs : List D) (S : Store) : R D := match xs with
  | [.ref n] => match getL S n with
    | some ds => match boolsD ds with
      | some bs => .ok (.bl (bs.all id)) S
      | none => .stuck
    | none => .stuck
  | _ => .stuck
def bAny (xs : List D) (S : Store) : R D := match xs with
  | [.ref n] => match getL S n with
    | some ds => match boolsD ds with
      | some bs => .ok (.bl (bs.any id)) S
      | none => .stuck
    | none => .stuck
  | _ => .stuck
/-- pairs (key, value) -/
def pairsD : List D → Option (List (Key × D))
  | [] => some []
  | .tup [k, v] :: r => match keyD k with
    | some key => match pairsD r with
      | some ps => some ((key, v) :: ps)
      | none => none
    | none => none
  | _ :: _ => none
def bDict (xs : List D) (S : Store) : R D := match xs with
  | [.tup ds] => if ds.length ≤ sizeLine then (match pairsD ds with
    | some ps => .ok (.ref S.length) (S ++ [.dK (mergeD [] ps)])
    | none => .stuck) else .stuck
  | [.ref n] => match getL S n with
    | some ds => match pairsD ds with
      | some ps => .ok (.ref S.length) (S ++ [.dK (mergeD [] ps)])
      | none => .stuck
    | none => match S[n]? with
      | some (.dK ks) => .ok (.ref S.length) (S ++ [.dK ks])
      | _ => .stuck
  | _ => .stuck

section
variable {K : PySem.W.Frag} {H : Hp} {m : List Addr} {S : Store}
theorem RepL.one {d : D} {xs : List V} (r : RepL K H m [d] xs) : ∃ v, xs = [v] ∧ RepV K H m d v := by
  obtain ⟨v, t, rfl, a, b⟩ := r.cons_inv
  exact ⟨v, by rw [b.nil_inv], a⟩
theorem RepL.two {d e : D} {xs : List V} (r : RepL K H m [d, e] xs) : ∃ v u, xs = [v, u] ∧ RepV K H m d v ∧ RepV K H m e u := by
  obtain ⟨v, t, rfl, a, b⟩ := r.cons_inv
  obtain ⟨u, rfl, c⟩ := b.one
  exact ⟨v, u, rfl, a, c⟩
theorem bLen_ok : OpL K (fun xs H Q => ∃ x n, xs = [x] ∧ LenV K x H n ∧ Q (.int (n : Nat)) H) bLen := by
  intro H m S xs ds c S' Q s r h k
  unfold bLen at h
  split at h
  · rename_i x
    split at h
    · rename_i n hn
      cases h
      obtain ⟨v, rfl, rv⟩ := r.one
      refine ⟨v, n, rfl, ?_, k _ H m (Ext.refl _ _) s (rep_int.mpr rfl)⟩
      unfold lenD at hn
      split at hn
      · split at hn
        · rename_i z hz
          cases hn
          rw [rep_str.mp rv]
          exact ⟨hz, rfl⟩
        · cases hn
      · cases hn
        obtain ⟨p, vs, rfl, q, rl⟩ := rep_tup.mp rv
        exact .inr ⟨vs, q.sqT, rl.length⟩
      · cases hn
        obtain ⟨_, p, vs, rfl, q, rl⟩ := rep_frz.mp rv
        exact .inl ⟨vs, q.sqL, rl.length⟩
      · split at hn
        · rename_i ds hd
          cases hn
          obtain ⟨p, vs, rfl, q, rl, _⟩ := s.list rv hd
          exact .inl ⟨vs, q, rl.length⟩
        · cases hn
      · cases hn
    · cases h
  · cases h
theorem bMax_ok : OpL K (fun xs H Q => ∃ i j, xs = [.int i, .int j] ∧ Q (.int (if j > i then j else i)) H) bMax := by
  intro H m S xs ds c S' Q s r h k
  unfold bMax at h
  split at h
  · cases h
    obtain ⟨v, u, rfl, a, b⟩ := r.two
    exact ⟨_, _, by rw [rep_int.mp a, rep_int.mp b], k _ H m (Ext.refl _ _) s (rep_int.mpr rfl)⟩
  · cases h
theorem bMin_ok : OpL K (fun xs H Q => ∃ i j, xs = [.int i, .int j] ∧ Q (.int (if j < i then j else i)) H) bMin := by
  intro H m S xs ds c S' Q s r h k
  unfold bMin at h
  split at h
  · cases h
    obtain ⟨v, u, rfl, a, b⟩ := r.two
    exact ⟨_, _, by rw [rep_int.mp a, rep_int.mp b], k _ H m (Ext.refl _ _) s (rep_int.mpr rfl)⟩
  · cases h
theorem bInt_ok : OpL K (fun xs H Q => (∃ i, xs = [.int i] ∧ Q (.int i) H) ∨ ∃ k, xs = [.bl k] ∧ Q (.int (if k then 1 else 0)) H) bInt := by
  intro H m S xs ds c S' Q s r h k
  unfold bInt at h
  split at h
  · cases h
    obtain ⟨v, rfl, a⟩ := r.one
    exact .inl ⟨_, by rw [rep_int.mp a], k _ H m (Ext.refl _ _) s (rep_int.mpr rfl)⟩
  · cases h
    obtain ⟨v, rfl, a⟩ := r.one
    exact .inr ⟨_, by rw [rep_bl.mp a], k _ H m (Ext.refl _ _) s (rep_int.mpr rfl)⟩
  · cases h
def rTupP (K : PySem.W.Frag) : List V → Hp → VK → Prop := fun xs H Q => ∃ p ys, xs = [.ref p] ∧ ((SqL K H p ys ∧ ∀ l o, o.dict = none → H l = none → Q (.ref l) (upd H l (.frz o (.tup ys)))) ∨ (SqT K H p ys ∧ Q (.ref p) H))
/-- tuple(x), a new tuple known to its object -/
theorem call_tupP {X : Cx} : CallR X (.type "tuple") (rTupP X.K) := by
  intro pins s σ H xs us Q I r h
  obtain ⟨p, ys, rfl, h⟩ := h
  rcases h with ⟨hq, q⟩ | ⟨hq, q⟩
  · obtain ⟨u, rfl, rx⟩ := vals1 r
    cases rx
    obtain ⟨its, rv, pl, hz⟩ := I.list hq
    have el := rv.length
    refine call_tuple_list pl.isList (fun h' kp => ?_) (by simp only [List.size_toArray] <;> omega)
    have J : Inv X pins σ H { s with heap := h' } := I.kept (t' := s.toks) kp
    have fr : H h'.objs.size = none := J.hok.fresh (Nat.le_refl _)
    have J2 : Inv X pins σ (upd H h'.objs.size (.frz { cls := .type "tuple", data := .seq its.toArray } (.tup ys))) { s with heap := h'.push { cls := .type "tuple", data := .seq its.toArray } } :=
      J.laid (t' := s.toks) (fun b' u' e => Heap.get?_push_of_some _ e) (Nat.le_refl _) ⟨Heap.get?_push_size _ rfl, hz, its, rv, IsTup.new _ _⟩
    exact ⟨.ref h'.objs.size, _, J2, rfl, q _ _ rfl fr⟩
  · exact call_tuple_of pins s σ H [.ref p] us Q I r ⟨p, ys, rfl, .inr ⟨hq, q⟩⟩
theorem bTuple_ok : OpL K (rTupP K) bTuple := by
  intro H m S xs ds c S' Q s r h k
  unfold bTuple at h
  split at h
  · cases h
    obtain ⟨v, rfl, a⟩ := r.one
    obtain ⟨p, vs, rfl, q, rl⟩ := rep_tup.mp a
    exact ⟨p, vs, rfl, .inr ⟨q.sqT, k _ H m (Ext.refl _ _) s a⟩⟩
  · split at h
    · rename_i ds hd
      cases h
      obtain ⟨v, rfl, a⟩ := r.one
      obtain ⟨p, vs, rfl, q, rl, _⟩ := s.list a hd
      refine ⟨p, vs, rfl, .inl ⟨q, fun l o ho hl => ?_⟩⟩
      obtain ⟨y1, y2, y3⟩ := s.newT ho hl rl
      exact k _ _ _ y1 y2 y3
    · cases h
  · cases h
theorem keysRep : ∀ {ks : List (Key × D)} {us : List (Key × V)}, KRep K H m ks us → RepL K H m (ks.map fun kv => dK kv.1) (us.map fun kv => kV kv.1)
  | [], _, h => by rw [show _ = [] from h]; exact RepL.nil
  | (k, d) :: r, _, h => by
    obtain ⟨v, t, rfl, _, s⟩ := h
    exact RepL.cons dK_ok (keysRep s)
def rListAll (K : PySem.W.Frag) : List V → Hp → VK → Prop := fun xs H Q => (∃ p ys, xs = [.ref p] ∧ (SqL K H p ys ∨ SqT K H p ys) ∧ ∀ l, H l = none → Q (.ref l) (upd H l (.lst ys))) ∨ rListD xs H Q
theorem bList_ok : OpL K (rListAll K) bList := by
  intro H m S xs ds c S' Q s r h k
  unfold bList at h
  split at h
  · split at h
    · rename_i ds hz
      cases h
      obtain ⟨v, rfl, a⟩ := r.one
      obtain ⟨p, vs, rfl, q, rl⟩ := rep_tup.mp a
      refine .inl ⟨p, vs, rfl, .inr q.sqT, fun l hl => ?_⟩
      obtain ⟨y1, y2, y3⟩ := s.newL hl hz rl
      exact k _ _ _ y1 y2 y3
    · cases h
  · rename_i n
    split at h
    · rename_i ds hd
      cases h
      obtain ⟨v, rfl, a⟩ := r.one
      obtain ⟨p, vs, rfl, q, rl, hz⟩ := s.list a hd
      refine .inl ⟨p, vs, rfl, .inl q, fun l hl => ?_⟩
      obtain ⟨y1, y2, y3⟩ := s.newL hl hz rl
      exact k _ _ _ y1 y2 y3
    · split at h
      · rename_i ks hk
        cases h
        obtain ⟨v, rfl, a⟩ := r.one
        obtain ⟨p, us, _, rfl, q, rl, hz⟩ := s.dK a hk
        refine .inr ⟨p, us, rfl, q, fun l hl => ?_⟩
        obtain ⟨y1, y2, y3⟩ := s.newL hl (ds := ks.map fun kv => dK kv.1) (by simpa using hz) (keysRep rl)
        exact k _ _ _ y1 y2 y3
      · cases h
  · cases h
theorem bools_ok : ∀ {ds : List D} {vs : List V} {bs : List Bool}, RepL K H m ds vs → boolsD ds = some bs → vs = bs.map V.bl
  | [], _, _, r, h => by cases h; rw [r.nil_inv]; rfl
  | d :: ds, _, bs, r, h => by
    obtain ⟨v, t, rfl, r1, r2⟩ := r.cons_inv
    cases d with
    | bl b =>
      unfold boolsD at h
      cases q : boolsD ds with
      | none => rw [q] at h; cases h
      | some cs =>
        rw [q] at h
        cases h
        rw [rep_bl.mp r1, bools_ok r2 q]; rfl
    | _ => cases h
theorem bAll_ok : OpL K (rAll K) bAll := by
  intro H m S xs ds c S' Q s r h k
  unfold bAll at h
  split at h
  · split at h
    · rename_i ds hd
      split at h
      · rename_i bs hb
        cases h
        obtain ⟨v, rfl, a⟩ := r.one
        obtain ⟨p, vs, rfl, q, rl, _⟩ := s.list a hd
        exact ⟨p, bs, rfl, by rw [← bools_ok rl hb]; exact q, k _ H m (Ext.refl _ _) s (rep_bl.mpr rfl)⟩
      · cases h
    · cases h
  · cases h
theorem bAny_ok : OpL K (rAny K) bAny := by
  intro H m S xs ds c S' Q s r h k
  unfold bAny at h
  split at h
  · split at h
    · rename_i ds hd
      split at h
      · rename_i bs hb
        cases h
        obtain ⟨v, rfl, a⟩ := r.one
        obtain ⟨p, vs, rfl, q, rl, _⟩ := s.list a hd
        exact ⟨p, bs, rfl, by rw [← bools_ok rl hb]; exact q, k _ H m (Ext.refl _ _) s (rep_bl.mpr rfl)⟩
      · cases h
    · cases h
  · cases h

theorem pairsD_ok : ∀ {ds : List D} {vs : List V} {ps : List (Key × D)}, RepL K H m ds vs → pairsD ds = some ps →
    ∃ (as : List Addr) (kvs : List (Key × V)), vs = as.map V.ref ∧ Paired (fun p kv => SqT K H p [kV kv.1, kv.2]) as kvs ∧ KRep K H m ps kvs
  | [], _, _, r, h => by cases h; exact ⟨[], [], r.nil_inv, .nil, rfl⟩
  | d :: ds, _, ps, r, h => by
    obtain ⟨v, t, rfl, r1, r2⟩ := r.cons_inv
    unfold pairsD at h
    split at h
    · rename_i q; cases q
    · rename_i kd vd r' q
      cases q
      split at h
      · rename_i key hkey
        split at h
        · rename_i qs hq
          cases h
          obtain ⟨as, kvs, rfl, h1, h2⟩ := pairsD_ok r2 hq
          obtain ⟨a, us, rfl, h3, h4⟩ := rep_tup.mp r1
          obtain ⟨x, y, rfl, h5, h6⟩ := h4.two
          have hk := keyD_ok hkey h5
          subst hk
          exact ⟨a :: as, (key, y) :: kvs, rfl, .cons h3.sqT h1, ⟨y, kvs, rfl, h6, h2⟩⟩
        · cases h
      · cases h
    · cases h
end
section
variable {X : Cx}
theorem plainT {pins : List (Addr × Obj)} {σ : St} {H : Hp} {s : Shared} {a : Addr} {vs : List V} (I : Inv X pins σ H s) (h : SqP X.K H a vs) :
    ∃ its : List Value, Vals vs its ∧ PlainSeq "tuple" s.heap a its.toArray ∧ vs.length ≤ sizeLine := by
  rcases h with ⟨o, h, hd⟩ | ⟨o, its, n, h1, h2, h3, h4, h5, h6⟩
  · obtain ⟨e, z, its, r, o', e', c, n, d⟩ : s.heap.get? a = some o ∧ vs.length ≤ sizeLine ∧ ∃ its : List Value, Vals vs its ∧ IsTup s.heap a its.toArray := I.hok a _ h
    rw [e] at e'
    cases e'
    exact ⟨its, r, ⟨o, n, e, c, hd, d⟩, z⟩
  · exact ⟨its.toList, h6, ⟨o, n, I.kIn a o h1, h2, h3, by simpa using h4⟩, by rw [h6.length]; simpa using h5⟩
theorem pairsP {pins : List (Addr × Obj)} {σ : St} {H : Hp} {s : Shared} (I : Inv X pins σ H s) : ∀ {as : List Addr} {kvs : List (Key × V)}, Paired (fun p kv => SqT X.K H p [kV kv.1, kv.2]) as kvs →
    ∃ (prs : List (Key × Value)) (ps : List (Value × Value)), KV kvs prs ∧ prs.length = as.length ∧ ps.length = as.length ∧
      ∀ (j : Nat) (b : Addr), as[j]? = some b → ∃ k u v, prs[j]? = some (k, v) ∧ ps[j]? = some (u, v) ∧ IsTup s.heap b #[u, v] ∧ keyIs k u = true
  | _, _, .nil => ⟨[], [], .nil, rfl, rfl, fun j b e => by simp at e⟩
  | _, _, .cons (a := p) (b := kv) h t => by
    obtain ⟨prs, ps, r, hl, hl2, hp⟩ := pairsP I t
    obtain ⟨its, rv, ht, _⟩ := I.tuple h
    obtain ⟨u, y, rfl, ru, ry⟩ := vals2 rv
    refine ⟨(kv.1, y) :: prs, (u, y) :: ps, .cons ⟨rfl, ry⟩ r, by simp [hl], by simp [hl2], fun j b e => ?_⟩
    cases j with
    | zero =>
      have e' : p = b := by simpa using e
      subst e'
      exact ⟨kv.1, u, y, rfl, rfl, ht, kV_is (P := X.prog) (w := X.w) ru⟩
    | succ j =>
      obtain ⟨k, u', v, e1, e2, e3⟩ := hp j b (by simpa using e)
      exact ⟨k, u', v, by simpa using e1, by simpa using e2, e3⟩
/-- dict(t) of a tuple of pairs (key, value) -/
theorem call_dictPT (hcalm : X.calm = true) : CallR X (.type "dict") (fun xs H Q => ∃ (a : Addr) (as : List Addr) (kvs : List (Key × V)), xs = [.ref a] ∧ SqP X.K H a (as.map V.ref) ∧ Paired (fun p kv => SqT X.K H p [kV kv.1, kv.2]) as kvs ∧
    ∀ p, H p = none → Q (.ref p) (upd H p (.dK (mergeK [] kvs)))) := by
  intro pins s σ H xs us Q I r q
  obtain ⟨a, as, kvs, rfl, hq, hp, q⟩ := q
  obtain ⟨u, rfl, rx⟩ := vals1 r
  cases rx
  obtain ⟨its, rv, pl, hz⟩ := plainT I hq
  have ei := refs_at rv
  subst ei
  rw [List.length_map] at hz
  obtain ⟨prs, ps, rel, hl, hl2, hpr⟩ := pairsP I hp
  have hm : (s.heap.objs.size == sysModules) = false := beq_eq_false_iff_ne.mpr (Nat.ne_of_gt I.big)
  have hlen : (mergeK [] kvs).length ≤ sizeLine := by
    refine Nat.le_trans (length_mergeK kvs []) ?_
    rw [List.length_nil, Nat.zero_add, rel.length, hl]
    exact hz
  have ok : PlainSeq "tuple" s.heap a (as.map Value.ref).toArray ∧ PairItems s.heap (as.map Value.ref).toArray (fun j => as.getD j 0) ps := by
    refine ⟨pl, by simp [hl2], fun j key val e => ?_⟩
    have hj : j < as.length := by rw [← hl2]; exact (List.getElem?_eq_some_iff.mp e).1
    obtain ⟨k, u, v, e1, e2, e3, _⟩ := hpr j as[j] (List.getElem?_eq_getElem hj)
    rw [e] at e2
    cases e2
    have eT : as.getD j 0 = as[j] := by simp [List.getD, List.getElem?_eq_getElem hj]
    show (as.map Value.ref).toArray[j]? = some (Value.ref (as.getD j 0)) ∧ PairAt s.heap (as.getD j 0) key val
    rw [eT]
    exact ⟨by simp [List.getElem?_eq_getElem hj], .inl e3⟩
  have hc : PairsHave (mixKind X.prog X.w) ps.length (PairRel ps) prs := by
    refine ⟨by rw [hl, hl2], fun j key val e => ?_⟩
    have hj : j < as.length := by rw [← hl2]; exact (List.getElem?_eq_some_iff.mp e).1
    obtain ⟨k, u, v, e1, e2, _, e4⟩ := hpr j as[j] (List.getElem?_eq_getElem hj)
    rw [show ps[j]? = some (key, val) from e] at e2
    cases e2
    exact ⟨k, e1, e4⟩
  refine PySem.call_dict_pairs (knd := mixKind X.prog X.w) (kvs := prs) (PairArg.tuple a (as.map Value.ref).toArray (fun j => as.getD j 0) ps) (I.ok.hd hcalm) ok hc (by rw [hl2]; exact hz) fun h' tk hd hk => ?_
  refine ⟨.ref s.heap.objs.size, upd H s.heap.objs.size (.dK (mergeK [] kvs)), I.laid (t' := tk) (fun b o e => hk b o (by simp) e) (Nat.le_refl _) ?_, rfl, q _ (I.hok.fresh (Nat.le_refl _))⟩
  exact ⟨hlen, hm, merged [] prs, KV.merge rel .nil, hd⟩
end
end Mp

set_option Elab.async false
set_option linter.all false
set_option maxRecDepth 100000
set_option maxHeartbeats 4000000
/-! Mp6: dict(..), methods, targets, statements, what a loop walks. -/
namespace Mp
open PySem L2
open PyProof.Rows hiding St

section
variable {X : Cx}
theorem CallR.or {f : Value} {r r' : List V → Hp → VK → Prop} (h : CallR X f r) (h' : CallR X f r') : CallR X f (fun xs H Q => r xs H Q ∨ r' xs H Q) :=
  fun pins s σ H xs us Q I rv q => q.elim (h pins s σ H xs us Q I rv) (h' pins s σ H xs us Q I rv)
def rDictL (K : PySem.W.Frag) : List V → Hp → VK → Prop := fun xs H Q => ∃ (a : Addr) (ps : List Addr) (kvs : List (Key × V)), xs = [.ref a] ∧ SqL K H a (ps.map V.ref) ∧ Paired (fun p kv => SqT K H p [kV kv.1, kv.2]) ps kvs ∧
    ∀ p, H p = none → Q (.ref p) (upd H p (.dK (mergeK [] kvs)))
def rDictT (K : PySem.W.Frag) : List V → Hp → VK → Prop := fun xs H Q => ∃ (a : Addr) (as : List Addr) (kvs : List (Key × V)), xs = [.ref a] ∧ SqP K H a (as.map V.ref) ∧ Paired (fun p kv => SqT K H p [kV kv.1, kv.2]) as kvs ∧
    ∀ p, H p = none → Q (.ref p) (upd H p (.dK (mergeK [] kvs)))
def rDictD : List V → Hp → VK → Prop := fun xs H Q => ∃ (a : Addr) (kvs : List (Key × V)), xs = [.ref a] ∧ Rd H a (.dK kvs) ∧ ∀ p, H p = none → Q (.ref p) (upd H p (.dK kvs))
def rDictAll (K : PySem.W.Frag) : List V → Hp → VK → Prop := fun xs H Q => rDictL K xs H Q ∨ rDictT K xs H Q ∨ rDictD xs H Q
theorem call_dictAll (hc : X.calm = true) : CallR X (.type "dict") (rDictAll X.K) := CallR.or (call_dictP hc) (CallR.or (call_dictPT hc) call_dictD)
theorem call_listAll (hc : X.calm = true) : CallR X (.type "list") (rListAll X.K) := CallR.or call_list_of (call_list_dK hc)
end
section
variable {K : PySem.W.Frag} {H : Hp} {m : List Addr} {S : Store}
theorem pairs_len : ∀ {ds : List D} {ps : List (Key × D)}, pairsD ds = some ps → ps.length = ds.length
  | [], _, h => by cases h; rfl
  | d :: ds, ps, h => by
    unfold pairsD at h
    split at h
    · rename_i q; cases q
    · rename_i kd vd r' q
      cases q
      split at h
      · split at h
        · rename_i qs hq
          cases h
          simp [pairs_len hq]
        · cases h
      · cases h
    · cases h
theorem bDict_ok : OpL K (rDictAll K) bDict := by
  intro H m S xs ds c S' Q s r h k
  unfold bDict at h
  split at h
  · split at h
    · rename_i ds hz
      split at h
      · rename_i ps hp
        cases h
        obtain ⟨v, rfl, a⟩ := r.one
        obtain ⟨p, vs, rfl, q, rl⟩ := rep_tup.mp a
        obtain ⟨as, kvs, rfl, h1, h2⟩ := pairsD_ok rl hp
        refine .inr (.inl ⟨p, as, kvs, rfl, q, h1, fun l hl => ?_⟩)
        have hzz : (mergeD [] ps).length ≤ sizeLine := by
          have := length_mergeD ps []
          rw [pairs_len hp] at this
          simp at this; omega
        obtain ⟨y1, y2, y3⟩ := s.newK hl hzz (KRep.merge (K := K) (show KRep K H m [] [] from rfl) h2)
        exact k _ _ _ y1 y2 y3
      · cases h
    · cases h
  · split at h
    · rename_i ds hd
      split at h
      · rename_i ps hp
        cases h
        obtain ⟨v, rfl, a⟩ := r.one
        obtain ⟨p, vs, rfl, q, rl, hz⟩ := s.list a hd
        obtain ⟨as, kvs, rfl, h1, h2⟩ := pairsD_ok rl hp
        refine .inl ⟨p, as, kvs, rfl, q, h1, fun l hl => ?_⟩
        have hzz : (mergeD [] ps).length ≤ sizeLine := by
          have := length_mergeD ps []
          rw [pairs_len hp] at this
          simp at this; omega
        obtain ⟨y1, y2, y3⟩ := s.newK hl hzz (KRep.merge (K := K) (show KRep K H m [] [] from rfl) h2)
        exact k _ _ _ y1 y2 y3
      · cases h
    · split at h
      · rename_i ks hk
        cases h
        obtain ⟨v, rfl, a⟩ := r.one
        obtain ⟨p, us, _, rfl, q, rl, hz⟩ := s.dK a hk
        refine .inr (.inr ⟨p, us, rfl, .inl q, fun l hl => ?_⟩)
        obtain ⟨y1, y2, y3⟩ := s.newK hl hz rl
        exact k _ _ _ y1 y2 y3
      · cases h
  · cases h
end

/-! ### methods -/
def isL (d : D) (S : Store) : Bool := match d with
  | .ref n => (getL S n).isSome
  | _ => false
def isK (d : D) (S : Store) : Bool := match d with
  | .ref n => match S[n]? with
    | some (.dK _) => true
    | _ => false
  | _ => false
def eMeth (chk : D → Store → Bool) (f : D → List D → Store → R D) (a : DE) (as : DA) : DE := fun ρ S => (a ρ S).bind fun x S1 => if chk x S1 = true then (as ρ S1).bind fun xs S2 => f x xs S2 else .stuck
def mAppend (x : D) (xs : List D) (S : Store) : R D := match x, xs with
  | .ref n, [y] => match S[n]? with
    | some (.lst ds) => if ds.length < sizeLine then .ok .non (S.set n (.lst (ds ++ [y]))) else .stuck
    | _ => .stuck
  | _, _ => .stuck
def mExtend (x : D) (xs : List D) (S : Store) : R D := match x, xs with
  | .ref n, [.ref b] => match S[n]?, S[b]? with
    | some (.lst ds), some (.lst es) => if ds.length + es.length ≤ sizeLine then .ok .non (S.set n (.lst (ds ++ es))) else .stuck
    | _, _ => .stuck
  | _, _ => .stuck
def mPop (x : D) (xs : List D) (S : Store) : R D := match x, xs with
  | .ref n, [.int i] => match S[n]? with
    | some (.lst ds) => if 0 ≤ i ∧ i < ds.length then (match ds[i.toNat]? with
      | some y => .ok y (S.set n (.lst (ds.eraseIdx i.toNat)))
      | none => .stuck) else .stuck
    | _ => .stuck
  | _, _ => .stuck
def mUpdate (x : D) (xs : List D) (S : Store) : R D := match x, xs with
  | .ref n, [.ref b] => if n = b then .stuck else match S[n]?, S[b]? with
    | some (.dK ks), some (.dK ls) => if ks.length + ls.length ≤ sizeLine then .ok .non (S.set n (.dK (mergeD ks ls))) else .stuck
    | _, _ => .stuck
  | _, _ => .stuck
/-- texts of a list -/
def strsD : List D → Option (List Str)
  | [] => some []
  | .str x :: r => match strsD r with
    | some xs => some (x :: xs)
    | none => none
  | _ :: _ => none
def mJoin (x y : D) (S : Store) : R D := match x, y with
  | .str a, .ref n => match getL S n with
    | some ds => match strsD ds with
      | some ys => if (ys.map (·.length)).sum + ys.length * a.length ≤ 16777216 then .ok (.str (Txt.join a ys)) S else .stuck
      | none => .stuck
    | none => .stuck
  | _, _ => .stuck
def isS (d : D) (_ : Store) : Bool := match d with
  | .str _ => true
  | _ => false
def eJoin (a b : DE) : DE := fun ρ S => (a ρ S).bind fun x S1 => if isS x S1 = true then (b ρ S1).bind fun y S2 => mJoin x y S2 else .stuck

/-- no call without arguments: super() -/
def notSuper : Expr → Bool
  | .Call (.Name _ _) [] [] _ => false
  | _ => true
theorem base_plain {o : Expr} {x : Str} {env : PySem.Env} {w : Sem Value} (h : notSuper o = true) : attributeBase o x env w = w := by
  cases o with
  | Call f as ks p =>
    cases f with
    | Name y q =>
      cases as with
      | nil =>
        cases ks with
        | nil => cases h
        | cons _ _ => rfl
      | cons _ _ => rfl
    | _ => rfl
  | _ => rfl

section
variable {X : Cx} {o : Expr} {es : List Expr} {apos cpos : Pos} {do_ : DE} {ds : DA}
theorem few_of {e : Expr} {es : List Expr} {env : PySem.Env} {cpos : Pos} (h : noStar (e :: es) = true) (hl : (e :: es).length < 29) :
    ((backTo cpos (starEach (e :: es) env)).all (fun x => !x.1) && (backToKw cpos (keywordEach [] env)).all (fun x => x.1.isSome) && decide ((e :: es).length + ([] : List Keyword).length + (if ([] : List Keyword).isEmpty then 0 else 1) < 30)) = true := by
  have h1 : (backTo cpos (starEach (e :: es) env)).all (fun x => !x.1) = true := by
    have := star_back (env := env) (pos := cpos) h
    rw [List.any_eq_false] at this
    rw [List.all_eq_true]
    intro x hx
    have := this x hx
    simpa using this
  rw [h1]
  have h2 : (backToKw cpos (keywordEach [] env)).all (fun x => x.1.isSome) = true := rfl
  rw [h2]
  simp at hl ⊢
  omega
theorem snd_bm {e : Expr} {T id : String} {name : Str} {r : V → List V → Hp → VK → Prop} {f : D → List D → Store → R D} {chk : D → Store → Bool} (pa : PlainAttrs T) (slot : Slot T name id) (hty : typeOf (.builtin id) = pure (.type "method_descriptor"))
    (hm : MtR X id r) (hf : OpM X.K r f) (hchk : ∀ {H m S d v}, SOk X.K H m S → RepV X.K H m d v → chk d S = true → tyV X.K T v H) (ho : PE X o (tD X.K do_)) (ha : PA X (e :: es) (tDA X.K ds))
    (hsup : notSuper o = true) (hn : noStar (e :: es) = true) (hl : (e :: es).length < 29) (hline : (apos.endLine == cpos.line) = true) :
    PE X (.Call (.Attribute o name apos) (e :: es) [] cpos) (tD X.K (eMeth chk f do_ ds)) := by
  refine PE.imp (pe_bm pa slot hty hm ho ha (base_plain hsup) (few_of hn hl) hline (star_cons (noStar_cons hn).1) (star_back (noStar_cons hn).2)) fun σ H Q h => ?_
  obtain ⟨m, S, ρ, c, S', s, rr, e, k⟩ := h
  obtain ⟨x, S1, e1, e2⟩ := R.bind_ok e
  refine tD_mk s rr e1 fun v H1 m1 x1 s1 r1 rv => ?_
  split at e2
  · rename_i hc
    obtain ⟨xs, S2, e3, e4⟩ := R.bind_ok e2
    refine ⟨hchk s1 rv hc, tDA_mk s1 r1 e3 fun us H2 m2 x2 s2 r2 ru => ?_⟩
    exact hf _ _ _ _ _ _ _ _ _ _ s2 (RepV.ext x2 _ _ rv) ru e4 fun v3 H3 m3 x3 s3 rv3 => k v3 H3 m3 ((x1.then s1 x2).then s2 x3) s3 rv3
  · cases e2
theorem isL_ty {K : PySem.W.Frag} {H : Hp} {m : List Addr} {S : Store} {d : D} {v : V} (s : SOk K H m S) (r : RepV K H m d v) (h : isL d S = true) : tyV K "list" v H := by
  unfold isL at h
  split at h
  · obtain ⟨ds, hd⟩ := Option.isSome_iff_exists.mp h
    obtain ⟨a, vs, rfl, q, _, _⟩ := s.list r hd
    exact .inl ⟨rfl, vs, q⟩
  · cases h
theorem isK_ty {K : PySem.W.Frag} {H : Hp} {m : List Addr} {S : Store} {d : D} {v : V} (s : SOk K H m S) (r : RepV K H m d v) (h : isK d S = true) : tyV K "dict" v H := by
  unfold isK at h
  split at h
  · split at h
    · rename_i ks hk
      obtain ⟨a, us, _, rfl, q, _, _⟩ := s.dK r hk
      exact .inr (.inr (.inl ⟨rfl, .inl ⟨us, q⟩⟩))
    · cases h
  · cases h
variable {K : PySem.W.Frag}
theorem mAppend_ok : OpM K rAppend mAppend := by
  intro H m S x xs d ds c S' Q s rx rl h k
  unfold mAppend at h
  split at h
  · split at h
    · rename_i n y _ es hn
      split at h
      · rename_i hz
        cases h
        obtain ⟨a, vs, ha, rfl, hH, rvs, _⟩ := s.lst rx hn
        obtain ⟨u, rfl, ru⟩ := rl.one
        have hl := rvs.length
        obtain ⟨y1, y2⟩ := s.setL (ds := es) (ds' := es ++ [y]) ha hH (by simp; omega) (rvs.append (RepL.cons ru RepL.nil))
        exact ⟨a, vs, u, rfl, rfl, hH, by omega, k _ _ m y1 y2 (rep_non.mpr rfl)⟩
      · cases h
    · cases h
  · cases h
theorem mExtend_ok : OpM K rExtend mExtend := by
  intro H m S x xs d ds c S' Q s rx rl h k
  unfold mExtend at h
  split at h
  · split at h
    · rename_i n b es fs hn hb
      split at h
      · rename_i hz
        cases h
        obtain ⟨a, vs, ha, rfl, hH, rvs, _⟩ := s.lst rx hn
        obtain ⟨u, rfl, ru⟩ := rl.one
        obtain ⟨a2, us, ha2, rfl, hH2, rus, _⟩ := s.lst ru hb
        have hl := rvs.length
        have hl2 := rus.length
        obtain ⟨y1, y2⟩ := s.setL (ds := es) (ds' := es ++ fs) ha hH (by simpa using hz) (rvs.append rus)
        exact ⟨a, a2, vs, us, rfl, rfl, hH, hH2, by omega, k _ _ m y1 y2 (rep_non.mpr rfl)⟩
      · cases h
    · cases h
  · cases h
theorem mPop_ok : OpM K rPopAt mPop := by
  intro H m S x xs d ds c S' Q s rx rl h k
  unfold mPop at h
  split at h
  · split at h
    · rename_i n i _ es hn
      split at h
      · rename_i hi
        split at h
        · rename_i y hy
          cases h
          obtain ⟨a, vs, ha, rfl, hH, rvs, hz⟩ := s.lst rx hn
          obtain ⟨u, rfl, ru⟩ := rl.one
          obtain ⟨w', hw1, hw2⟩ := rvs.get hy
          have hl := rvs.length
          have hs : sizeLine = 16777216 := sizeLine_eq
          obtain ⟨y1, y2⟩ := s.setL (ds := es) (ds' := es.eraseIdx i.toNat) ha hH (Nat.le_trans (List.length_eraseIdx_le _ _) hz) (rvs.eraseIdx i.toNat)
          refine ⟨a, vs, i, i.toNat, w', rfl, by rw [rep_int.mp ru], hH, by omega, by omega, ?_, hw1, k _ _ m y1 y2 (RepV.ext y1 _ _ hw2)⟩
          unfold seqIndex?
          have : ¬ i < 0 := by omega
          simp only [this, if_false]
          rw [← hl]
          simp [hi.1, hi.2]
        · cases h
      · cases h
    · cases h
  · cases h
def rUpd : V → List V → Hp → VK → Prop := fun x xs H Q => ∃ d b ks ls, x = .ref d ∧ xs = [.ref b] ∧ d ≠ b ∧ H d = some (.dK ks) ∧ H b = some (.dK ls) ∧ ks.length + ls.length ≤ sizeLine ∧ Q .non (upd H d (.dK (mergeK ks ls)))
theorem mt_update : MtR X "dict.update" rUpd := by
  intro pins s σ H x xs v us Q I rx rv h
  obtain ⟨d, b, ks, ls, rfl, rfl, hne, hd, hb, hz, q⟩ := h
  cases rx
  obtain ⟨u, rfl, ru⟩ := rv.one
  cases ru
  obtain ⟨_, _, vs, rel, dd⟩ := dk_of I.hok hd
  obtain ⟨_, lo, ws, rel2, dd2⟩ := dk_of I.hok hb
  obtain ⟨_, low, _, _, _⟩ := dk_of I.hok hd
  refine call_meetsIn PySem.F.slot_dict_update dd.typeIs PySem.F.entry_dict_update (PySem.F.args_dict_update_2 _ _) (meets_dict_update (mixKind X.prog X.w) d b hne lo)
    ⟨vs, ws, dd, dd2, (by rw [← rel.length, ← rel2.length]; exact hz), fun h' dd' _ hs => ?_⟩
  have he : ∃ q, h'.get? d = some q := let ⟨q, _, _, hq, _⟩ := dd'; ⟨q, hq⟩
  refine ⟨.non, _, d_write (t' := s.toks) I (by rw [hd]; exact True.intro) hs he (dk_new ?_ low (KV.merge rel2 rel) dd'), rfl, q⟩
  exact Nat.le_trans (length_mergeK ls ks) hz
theorem mUpdate_ok : OpM K rUpd mUpdate := by
  intro H m S x xs d ds c S' Q s rx rl h k
  unfold mUpdate at h
  split at h
  · split at h
    · cases h
    · rename_i n b hnb
      split at h
      · rename_i ks ls hn hb
        split at h
        · rename_i hz
          cases h
          obtain ⟨a, us, ha, rfl, hH, ru, _⟩ := s.dK rx hn
          obtain ⟨u, rfl, rb⟩ := rl.one
          obtain ⟨a2, ws, ha2, rfl, hH2, rw2, _⟩ := s.dK rb hb
          have hl := ru.len
          have hl2 := rw2.len
          have hne : a ≠ a2 := by
            rintro rfl
            have h1 := (List.getElem?_eq_some_iff.mp ha)
            have h2 := (List.getElem?_eq_some_iff.mp ha2)
            obtain ⟨i1, e1⟩ := h1
            obtain ⟨i2, e2⟩ := h2
            exact hnb ((List.getElem_inj s.nd).mp (e1.trans e2.symm))
          obtain ⟨y1, y2⟩ := s.setK (ks' := mergeD ks ls) ha hH (Nat.le_trans (length_mergeD ls ks) hz) (KRep.merge ru rw2)
          exact ⟨a, a2, us, ws, rfl, rfl, hne, hH, hH2, by omega, k _ _ m y1 y2 (rep_non.mpr rfl)⟩
        · cases h
      · cases h
  · cases h
theorem strs_ok {H : Hp} {m : List Addr} : ∀ {ds : List D} {vs : List V} {ys : List Str}, RepL K H m ds vs → strsD ds = some ys → vs = ys.map V.str
  | [], _, _, r, h => by cases h; rw [r.nil_inv]; rfl
  | d :: ds, _, ys, r, h => by
    obtain ⟨v, t, rfl, r1, r2⟩ := r.cons_inv
    cases d with
    | str b =>
      unfold strsD at h
      cases q : strsD ds with
      | none => rw [q] at h; cases h
      | some cs =>
        rw [q] at h
        cases h
        rw [rep_str.mp r1, strs_ok r2 q]; rfl
    | _ => cases h
theorem snd_join {e : Expr} {da : DE} (ho : PE X o (tD X.K do_)) (he : PE X e (tD X.K da)) (hsup : notSuper o = true) (hn : isStar e = false) (hline : (apos.endLine == cpos.line) = true) :
    PE X (.Call (.Attribute o "join" apos) [e] [] cpos) (tD X.K (eJoin do_ da)) := by
  refine PE.imp (pe_join ho he (by rw [star_cons hn]; rfl) (base_plain hsup) hline) fun σ H Q h => ?_
  obtain ⟨m, S, ρ, c, S', s, rr, e, k⟩ := h
  obtain ⟨x, S1, e1, e2⟩ := R.bind_ok e
  refine tD_mk s rr e1 fun v H1 m1 x1 s1 r1 rv => ?_
  split at e2
  · rename_i hc
    obtain ⟨y, S2, e3, e4⟩ := R.bind_ok e2
    unfold isS at hc
    split at hc
    · rename_i a
      refine ⟨⟨a, rep_str.mp rv⟩, tD_mk s1 r1 e3 fun u H2 m2 x2 s2 r2 ru => ?_⟩
      unfold mJoin at e4
      split at e4
      · rename_i a' n' ea
        split at e4
        · rename_i ds hd
          split at e4
          · rename_i ys hy
            split at e4
            · rename_i hz
              cases e4
              cases ea
              obtain ⟨p, vs, rfl, q, rl, _⟩ := s2.list ru hd
              refine ⟨_, p, ys, rep_str.mp rv, rfl, .inl (by rw [← strs_ok rl hy]; exact q), hz, k _ H2 m2 (x1.then s1 x2) s2 (rep_str.mpr rfl)⟩
            · cases e4
          · cases e4
        · cases e4
      · cases e4
    · cases hc
  · cases e2
end
end Mp

set_option Elab.async false
set_option linter.all false
set_option maxRecDepth 100000
set_option maxHeartbeats 4000000
/-! Mp7: targets, statements, loops, comprehensions. -/
namespace Mp
open PySem L2
open PyProof.Rows hiding St

/-! ### targets -/
/-- what a loop hands on: data, or a tuple that is taken apart at once -/
inductive Itm where
  | one (d : D)
  | many (ds : List D)
def RepI (K : PySem.W.Frag) (H : Hp) (m : List Addr) : Itm → V → Prop
  | .one d, v => RepV K H m d v
  | .many ds, v => ∃ a vs, v = .ref a ∧ SqT K H a vs ∧ RepL K H m ds vs
theorem RepI.kp {K : PySem.W.Frag} {m m' : List Addr} {H H' : Hp} (e : Kp m H m' H') {i : Itm} {v : V} (h : RepI K H m i v) : RepI K H' m' i v := by
  cases i with
  | one d => exact RepV.kp e d v h
  | many ds => obtain ⟨a, vs, rfl, q, r⟩ := h; exact ⟨a, vs, rfl, SqT.kp e q, RepL.kp e _ _ r⟩
/-- a name, or names in a tuple -/
inductive Pt where
  | nm (i : Nat)
  | tp (is : List Nat)
def Pt.slots : Pt → List Nat
  | .nm i => [i]
  | .tp is => is
def bindN : List Nat → List D → Env → Option Env
  | [], [], ρ => some ρ
  | i :: is, d :: ds, ρ => bindN is ds (ρ.set i (some d))
  | _, _, _ => none
def bindP : Pt → Itm → Env → Option Env
  | .nm i, .one d, ρ => some (ρ.set i (some d))
  | .tp is, .one (.tup ds), ρ => bindN is ds ρ
  | .tp is, .many ds, ρ => bindN is ds ρ
  | _, _, _ => none
def gNames : List Nat → TGs
  | [] => gNil
  | i :: is => gCons (gName i) (gNames is)
def gPt (K : PySem.W.Frag) : Pt → TG
  | .nm i => gName i
  | .tp is => gTup K is.length (gNames is)

theorem wipe_set {x : Option V} {i : Nat} : ∀ {vs : List Nat} {σ : St}, i ∈ vs → L2.wipe (σ.set i x) vs = L2.wipe σ vs := by
  intro vs
  induction vs with
  | nil => intro σ h; cases h
  | cons v vs ih =>
    intro σ h
    unfold L2.wipe
    by_cases hi : i ∈ vs
    · rw [ih hi]
    · have hv : i = v := by
        rcases List.mem_cons.mp h with q | q
        · exact q
        · exact absurd q hi
      subst hv
      have comm : ∀ (us : List Nat) (τ : St), i ∉ us → L2.wipe (τ.set i x) us = (L2.wipe τ us).set i x := by
        intro us
        induction us with
        | nil => intro τ _; rfl
        | cons u us ih2 =>
          intro τ hu
          unfold L2.wipe
          rw [ih2 τ (fun q => hu (List.mem_cons_of_mem _ q)), List.set_comm]
          exact fun e => hu (e ▸ List.mem_cons_self)
      rw [comm vs σ hi, List.set_set]
theorem wipe_idem : ∀ {vs : List Nat} {σ : St}, L2.wipe (L2.wipe σ vs) vs = L2.wipe σ vs := by
  intro vs
  induction vs with
  | nil => intro σ; rfl
  | cons v vs ih =>
    intro σ
    show (L2.wipe ((L2.wipe σ vs).set v none) vs).set v none = (L2.wipe σ vs).set v none
    by_cases hv : v ∈ vs
    · rw [wipe_set hv, ih]
    · have comm : ∀ (us : List Nat) (τ : St), v ∉ us → L2.wipe (τ.set v none) us = (L2.wipe τ us).set v none := by
        intro us
        induction us with
        | nil => intro τ _; rfl
        | cons u us ih2 =>
          intro τ hu
          unfold L2.wipe
          rw [ih2 τ (fun q => hu (List.mem_cons_of_mem _ q)), List.set_comm]
          exact fun e => hu (e ▸ List.mem_cons_self)
      rw [comm vs _ hv, ih, List.set_set]

section
variable {K : PySem.W.Frag} {H : Hp} {m : List Addr}
theorem gNames_of {Q : St → Hp → Prop} : ∀ {is : List Nat} {ds : List D} {vs : List V} {ρ ρ' : Env} {σ : St}, RepE K H m ρ σ → RepL K H m ds vs → bindN is ds ρ = some ρ' →
    (∀ σ', RepE K H m ρ' σ' → (∀ us, (∀ i ∈ is, i ∈ us) → L2.wipe σ' us = L2.wipe σ us) → Q σ' H) → gNames is vs σ H Q
  | [], [], vs, ρ, ρ', σ, r, rl, h, k => by
    cases h
    exact ⟨rl.nil_inv, k σ r fun us _ => rfl⟩
  | i :: is, d :: ds, vs, ρ, ρ', σ, r, rl, h, k => by
    obtain ⟨v, t, rfl, r1, r2⟩ := rl.cons_inv
    refine ⟨v, t, rfl, ?_⟩
    refine gNames_of (r.set i r1) r2 h fun σ' r' hw => k σ' r' fun us hu => ?_
    rw [hw us fun j hj => hu j (List.mem_cons_of_mem _ hj), wipe_set (hu i List.mem_cons_self)]
  | [], _ :: _, _, _, _, _, _, _, h, _ => by cases h
  | _ :: _, [], _, _, _, _, _, _, h, _ => by cases h
theorem bindN_len : ∀ {is : List Nat} {ds : List D} {ρ ρ' : Env}, bindN is ds ρ = some ρ' → ds.length = is.length
  | [], [], _, _, _ => rfl
  | i :: is, d :: ds, ρ, ρ', h => by simp [bindN_len (show bindN is ds _ = some ρ' from h)]
  | [], _ :: _, _, _, h => by cases h
  | _ :: _, [], _, _, h => by cases h
theorem gPt_of {Q : St → Hp → Prop} {p : Pt} {it : Itm} {v : V} {ρ ρ' : Env} {σ : St} (r : RepE K H m ρ σ) (ri : RepI K H m it v) (h : bindP p it ρ = some ρ')
    (k : ∀ σ', RepE K H m ρ' σ' → (∀ us, (∀ i ∈ p.slots, i ∈ us) → L2.wipe σ' us = L2.wipe σ us) → Q σ' H) : gPt K p v σ H Q := by
  unfold bindP at h
  split at h
  · cases h
    exact k _ (r.set _ ri) fun us hu => wipe_set (hu _ (by simp [Pt.slots]))
  · obtain ⟨a, vs, rfl, q, rl⟩ := rep_tup.mp ri
    exact ⟨a, vs, rfl, q.sqT, by rw [← rl.length]; exact bindN_len h, gNames_of r rl h k⟩
  · obtain ⟨a, vs, rfl, q, rl⟩ := ri
    exact ⟨a, vs, rfl, q, by rw [← rl.length]; exact bindN_len h, gNames_of r rl h k⟩
  · cases h
end

/-! ### statements -/
inductive Fl where
  | nx (ρ : Env) | rt (d : D) | bk (ρ : Env) | ct (ρ : Env)
abbrev DS := Env → Store → R Fl
def FlOk (K : PySem.W.Frag) (E : Ends) (H : Hp) (m : List Addr) : Fl → Prop
  | .nx ρ => ∀ σ, RepE K H m ρ σ → E.nx σ H
  | .rt d => ∀ v, RepV K H m d v → E.rt v H
  | .bk ρ => ∀ σ, RepE K H m ρ σ → E.bk σ H
  | .ct ρ => ∀ σ, RepE K H m ρ σ → E.ct σ H
def tSD (K : PySem.W.Frag) (f : DS) : TS := fun E σ H => ∃ m S ρ o S', SOk K H m S ∧ RepE K H m ρ σ ∧ f ρ S = .ok o S' ∧ ∀ H' m', Ext m H m' H' → SOk K H' m' S' → FlOk K E H' m' o
theorem tSD_mk {K : PySem.W.Frag} {f : DS} {E : Ends} {σ : St} {H : Hp} {m : List Addr} {S S' : Store} {ρ : Env} {o : Fl} (s : SOk K H m S) (r : RepE K H m ρ σ) (e : f ρ S = .ok o S')
    (k : ∀ H' m', Ext m H m' H' → SOk K H' m' S' → FlOk K E H' m' o) : tSD K f E σ H := ⟨m, S, ρ, o, S', s, r, e, k⟩

def sSkip : DS := fun ρ S => .ok (.nx ρ) S
def sBreak : DS := fun ρ S => .ok (.bk ρ) S
def sCont : DS := fun ρ S => .ok (.ct ρ) S
def sSeq (a b : DS) : DS := fun ρ S => (a ρ S).bind fun o S1 => match o with
  | .nx ρ1 => b ρ1 S1
  | o => .ok o S1
def sRet (e : DE) : DS := fun ρ S => (e ρ S).bind fun d S1 => .ok (.rt d) S1
def sExpr (e : DE) : DS := fun ρ S => (e ρ S).bind fun _ S1 => .ok (.nx ρ) S1
def sIf (t : DT) (a b : DS) : DS := fun ρ S => (t ρ S).bind fun c S1 => if c = true then a ρ S1 else b ρ S1
def sSet (p : Pt) (e : DE) : DS := fun ρ S => (e ρ S).bind fun d S1 => match bindP p (.one d) ρ with
  | some ρ1 => .ok (.nx ρ1) S1
  | none => .stuck
/-- o[i] = v in the store -/
def putD (o i v : D) (S : Store) : R Fl → R Fl := fun k => k
def storeD (o i v : D) (S : Store) : Option Store := match o with
  | .ref n => match S[n]? with
    | some (.lst ds) => match i with
      | .int j => match ixN ds.length j with
        | some k => some (S.set n (.lst (ds.set k v)))
        | none => none
      | _ => none
    | some (.dK ks) => match keyD i with
      | some k => if ks.length < sizeLine then some (S.set n (.dK (storeK ks k v))) else none
      | none => none
    | _ => none
  | _ => none
def sPut (o i e : DE) : DS := fun ρ S => (e ρ S).bind fun v S1 => (o ρ S1).bind fun x S2 => (i ρ S2).bind fun y S3 => match storeD x y v S3 with
  | some S4 => .ok (.nx ρ) S4
  | none => .stuck
def notSlice : Expr → Bool
  | .Slice _ _ _ _ => false
  | _ => true
theorem assign_sub {o i : Expr} {pos : Pos} {env : PySem.Env} (h : notSlice i = true) : ∀ v, assign (.Subscript o i pos) env v = (do
      let ov ← holding [v] (eval o env)
      let iv ← holding [v, ov] (eval i env)
      standAt pos
      holding [v, ov, iv] (setItem ov iv v)
      release [v, ov, iv] []) := by
  intro v
  cases i <;> first | rfl | cases h
theorem plainIx {i : Expr} (h : notSlice i = true) : PlainIx i := by
  intro o j
  cases i <;> first | rfl | cases h
section
variable {X : Cx} {pos : Pos}
theorem FlOk.imp {K : PySem.W.Frag} {E E' : Ends} {H : Hp} {m : List Addr} {o : Fl} (h1 : ∀ σ H, E.nx σ H → E'.nx σ H) (h2 : ∀ v H, E.rt v H → E'.rt v H) (h3 : ∀ σ H, E.bk σ H → E'.bk σ H) (h4 : ∀ σ H, E.ct σ H → E'.ct σ H) (h : FlOk K E H m o) : FlOk K E' H m o := by
  cases o with
  | nx ρ => exact fun σ r => h1 _ _ (h σ r)
  | rt d => exact fun v r => h2 _ _ (h v r)
  | bk ρ => exact fun σ r => h3 _ _ (h σ r)
  | ct ρ => exact fun σ r => h4 _ _ (h σ r)
theorem snd_skip0 : PSs X [] (tSD X.K sSkip) := PSs.imp pss_nil fun E σ H h => by
  obtain ⟨m, S, ρ, o, S', s, r, e, k⟩ := h
  cases e
  exact k H m (Ext.refl _ _) s σ r
theorem snd_pass : PS X (.Pass pos) (tSD X.K sSkip) := PS.imp ps_pass fun E σ H h => by
  obtain ⟨m, S, ρ, o, S', s, r, e, k⟩ := h
  cases e
  exact k H m (Ext.refl _ _) s σ r
theorem snd_break : PS X (.Break pos) (tSD X.K sBreak) := PS.imp ps_break fun E σ H h => by
  obtain ⟨m, S, ρ, o, S', s, r, e, k⟩ := h
  cases e
  exact k H m (Ext.refl _ _) s σ r
theorem snd_cont : PS X (.Continue pos) (tSD X.K sCont) := PS.imp ps_continue fun E σ H h => by
  obtain ⟨m, S, ρ, o, S', s, r, e, k⟩ := h
  cases e
  exact k H m (Ext.refl _ _) s σ r
theorem snd_seq {st : Stmt} {rest : List Stmt} {a b : DS} (ha : PS X st (tSD X.K a)) (hb : PSs X rest (tSD X.K b)) : PSs X (st :: rest) (tSD X.K (sSeq a b)) := PSs.imp (pss_cons ha hb) fun E σ H h => by
  obtain ⟨m, S, ρ, o, S', s, r, e, k⟩ := h
  obtain ⟨o1, S1, e1, e2⟩ := R.bind_ok e
  refine tSD_mk s r e1 fun H1 m1 x1 s1 => ?_
  cases o1 with
  | nx ρ1 => exact fun σ1 r1 => tSD_mk s1 r1 e2 fun H2 m2 x2 s2 => k H2 m2 (x1.then s1 x2) s2
  | rt d => cases e2; exact k H1 m1 x1 s1
  | bk ρ1 => cases e2; exact k H1 m1 x1 s1
  | ct ρ1 => cases e2; exact k H1 m1 x1 s1
theorem snd_ret {e : Expr} {de : DE} (h : PE X e (tD X.K de)) : PS X (.Return (some e) pos) (tSD X.K (sRet de)) := PS.imp (ps_ret h) fun E σ H h => by
  obtain ⟨m, S, ρ, o, S', s, r, e, k⟩ := h
  obtain ⟨d, S1, e1, e2⟩ := R.bind_ok e
  cases e2
  exact tD_mk s r e1 fun v H1 m1 x1 s1 r1 rv => k H1 m1 x1 s1 v rv
theorem snd_retN : PS X (.Return none pos) (tSD X.K (sRet (eConst .non))) := PS.imp ps_retN fun E σ H h => by
  obtain ⟨m, S, ρ, o, S', s, r, e, k⟩ := h
  obtain ⟨d, S1, e1, e2⟩ := R.bind_ok e
  cases e1
  cases e2
  exact k H m (Ext.refl _ _) s .non (rep_non.mpr rfl)
theorem snd_expr {e : Expr} {de : DE} (h : PE X e (tD X.K de)) (hs : swapsWith e none pos.line X.env = pure false) : PS X (.Expr e pos) (tSD X.K (sExpr de)) := PS.imp (ps_expr h hs) fun E σ H h => by
  obtain ⟨m, S, ρ, o, S', s, r, e, k⟩ := h
  obtain ⟨d, S1, e1, e2⟩ := R.bind_ok e
  cases e2
  exact tD_mk s r e1 fun v H1 m1 x1 s1 r1 rv => k H1 m1 x1 s1 σ r1
theorem snd_if {c : Expr} {a b : List Stmt} {dc : DT} {da db : DS} (hc : PT X c (tDT X.K dc)) (ha : PSs X a (tSD X.K da)) (hb : PSs X b (tSD X.K db)) : PS X (.If c a b pos) (tSD X.K (sIf dc da db)) := PS.imp (ps_if hc ha hb) fun E σ H h => by
  obtain ⟨m, S, ρ, o, S', s, r, e, k⟩ := h
  obtain ⟨c, S1, e1, e2⟩ := R.bind_ok e
  refine tDT_mk s r e1 fun H1 m1 x1 s1 r1 => ?_
  cases c with
  | true =>
    rw [if_pos rfl] at e2 ⊢
    exact tSD_mk s1 r1 e2 fun H2 m2 x2 s2 => k H2 m2 (x1.then s1 x2) s2
  | false =>
    rw [if_neg (by simp)] at e2 ⊢
    exact tSD_mk s1 r1 e2 fun H2 m2 x2 s2 => k H2 m2 (x1.then s1 x2) s2
theorem tAsg_of {p : Pt} {de : DE} {E : Ends} {σ : St} {H : Hp} (h : tSD X.K (sSet p de) E σ H) : tAsg (tD X.K de) (gPt X.K p) E σ H := by
  obtain ⟨m, S, ρ, o, S', s, r, e, k⟩ := h
  obtain ⟨d, S1, e1, e2⟩ := R.bind_ok e
  refine tD_mk s r e1 fun v H1 m1 x1 s1 r1 rv => ?_
  split at e2
  · rename_i ρ1 hb
    cases e2
    exact gPt_of r1 (show RepI X.K H1 m1 (.one d) v from rv) hb fun σ' r' _ => k H1 m1 x1 s1 σ' r'
  · cases e2
theorem PS.or {st : Stmt} {t t' : TS} (h : PS X st t) (h' : PS X st t') : PS X st (fun D σ H => t D σ H ∨ t' D σ H) := ⟨fun pins s σ H D I q => q.elim (h.run pins s σ H D I) (h'.run pins s σ H D I)⟩
theorem snd_put {o i e : Expr} {pos' : Pos} {d_o di de : DE} (hu : X.A.units + 1 < cLine) (ho : PE X o (tD X.K d_o)) (hi : PE X i (tD X.K di)) (he : PE X e (tD X.K de))
    (hs : swapsWith e (some (.Subscript o i pos')) pos.line X.env = pure false) (hw : swappedStores [.Subscript o i pos'] e X.env = pure none) (hi2 : notSlice i = true) :
    PS X (.Assign [.Subscript o i pos'] e pos) (tSD X.K (sPut d_o di de)) := by
  refine PS.imp (PS.or (ps_asg he (pg_sub (pos := pos') ho hi set_list (assign_sub hi2)) hs hw) (ps_dput hu ho hi he hs)) fun E σ H h => ?_
  obtain ⟨m, S, ρ, fl, S', s, r, e, k⟩ := h
  obtain ⟨v, S1, e1, e⟩ := R.bind_ok e
  obtain ⟨x, S2, e2, e⟩ := R.bind_ok e
  obtain ⟨y, S3, e3, e4⟩ := R.bind_ok e
  split at e4
  · rename_i S4 h4
    cases e4
    unfold storeD at h4
    split at h4
    · rename_i n
      split at h4
      · rename_i ds hn
        split at h4
        · rename_i j
          split at h4
          · rename_i kk hk
            cases h4
            refine .inl (tD_mk s r e1 fun vv H1 m1 x1 s1 r1 rv => tD_mk s1 r1 e2 fun ov H2 m2 x2 s2 r2 ro => tD_mk s2 r2 e3 fun iv H3 m3 x3 s3 r3 ri => ?_)
            obtain ⟨a, vs, ha, rfl, hH, rvs, hz⟩ := s3.lst (RepV.ext x3 _ _ ro) hn
            obtain ⟨y1, y2⟩ := s3.setL (ds := ds) (ds' := ds.set kk v) ha hH (by simpa using hz) (rvs.set kk (RepV.ext x3 _ _ (RepV.ext x2 _ _ rv)))
            refine ⟨a, vs, j, kk, rfl, rep_int.mp ri, hH, by rw [← rvs.length]; exact hk, ?_⟩
            exact k _ m3 (((x1.then s1 x2).then s2 x3).then s3 y1) y2 σ (r3.ext y1)
          · cases h4
        · cases h4
      · rename_i ks hn
        split at h4
        · rename_i key hkey
          split at h4
          · rename_i hz
            cases h4
            refine .inr (tD_mk s r e1 fun vv H1 m1 x1 s1 r1 rv => tD_mk s1 r1 e2 fun ov H2 m2 x2 s2 r2 ro => tD_mk s2 r2 e3 fun iv H3 m3 x3 s3 r3 ri => ?_)
            obtain ⟨a, us, ha, rfl, hH, rus, _⟩ := s3.dK (RepV.ext x3 _ _ ro) hn
            have hl : (storeK ks key v).length ≤ sizeLine := Nat.le_trans (length_storeK ks key v) hz
            obtain ⟨y1, y2⟩ := s3.setK (ks' := storeK ks key v) ha hH hl (rus.put (k := key) (RepV.ext x3 _ _ (RepV.ext x2 _ _ rv)))
            refine ⟨a, _, rfl, ?_, k _ m3 (((x1.then s1 x2).then s2 x3).then s3 y1) y2 σ (r3.ext y1)⟩
            rw [keyD_ok hkey ri]
            exact DPut.k hH (by rw [← rus.len]; exact hz)
          · cases h4
        · cases h4
      · cases h4
    · cases h4
  · cases e4
end
end Mp

set_option Elab.async false
set_option linter.all false
set_option maxRecDepth 100000
set_option maxHeartbeats 4000000
/-! Mp8: what is walked, for, while, list comprehensions. -/
namespace Mp
open PySem L2
open PyProof.Rows hiding St

theorem Kp.trans {m m1 m2 : List Addr} {H H1 H2 : Hp} (a : Kp m H m1 H1) (b : Kp m1 H1 m2 H2) : Kp m H m2 H2 := by
  obtain ⟨t, rfl⟩ := a.pre
  obtain ⟨u, rfl⟩ := b.pre
  exact ⟨⟨t ++ u, by simp⟩, fun x xs e => b.tups _ _ (a.tups _ _ e), fun x o u e => b.frzs _ _ _ (a.frzs _ _ _ e)⟩
theorem RepE.kp {K : PySem.W.Frag} {H H' : Hp} {m m' : List Addr} {ρ : Env} {σ : St} (r : RepE K H m ρ σ) (e : Kp m H m' H') : RepE K H' m' ρ σ :=
  ⟨r.len, fun i d h => let ⟨v, a, b⟩ := r.at_ i d h; ⟨v, a, RepV.kp e d v b⟩⟩

/-- what is walked: at turn i, by the store, an item, or the end; and how many turns at most -/
structure DItr where
  fuel : Nat
  nxt : Nat → Store → Option (Option Itm)
abbrev DI := Env → Store → R DItr
/-- the library's walk does what is told -/
def ItOk (K : PySem.W.Frag) (m0 : List Addr) (H0 : Hp) (J : It) (nxt : Nat → Store → Option (Option Itm)) : Prop :=
  ∀ (i : Nat) (S : Store) (H : Hp) (m : List Addr), Kp m0 H0 m H → SOk K H m S →
    (nxt i S = some none → J.stop i H) ∧ (∀ x, nxt i S = some (some x) → J.go i H ∧ ∀ v H', J.yld i H v H' → Ext m H m H' ∧ SOk K H' m S ∧ RepI K H' m x v)
def tDI (K : PySem.W.Frag) (f : DI) : TI := fun σ H Rr => ∃ m S ρ it S', SOk K H m S ∧ RepE K H m ρ σ ∧ f ρ S = .ok it S' ∧
  ∀ H' m' J, Ext m H m' H' → SOk K H' m' S' → ItOk K m' H' J it.nxt → Rr J H'

/-! ### lists, tuples, ranges, two at once -/
def nxtL (n : Nat) (i : Nat) (S : Store) : Option (Option Itm) := match getL S n with
  | some ds => match ds[i]? with
    | some d => some (some (.one d))
    | none => some none
  | none => none
def nxtT (ds : List D) (i : Nat) (_ : Store) : Option (Option Itm) := match ds[i]? with
  | some d => some (some (.one d))
  | none => some none
def nxtR (lo : Int) (n : Nat) (i : Nat) (_ : Store) : Option (Option Itm) := if i < n then some (some (.one (.int (lo + i)))) else some none
def nxtZL (a b : Nat) (i : Nat) (S : Store) : Option (Option Itm) := match getL S a, getL S b with
  | some xs, some ys => match xs[i]?, ys[i]? with
    | some x, some y => some (some (.many [x, y]))
    | _, _ => some none
  | _, _ => none
def nxtZT (xs ys : List D) (i : Nat) (_ : Store) : Option (Option Itm) := match xs[i]?, ys[i]? with
  | some x, some y => some (some (.many [x, y]))
  | _, _ => some none
def iSeq (e : DE) : DI := fun ρ S => (e ρ S).bind fun d S1 => match d with
  | .tup ds => .ok ⟨ds.length + 1, nxtT ds⟩ S1
  | .ref n => match getL S1 n with
    | some ds => .ok ⟨ds.length + 1, nxtL n⟩ S1
    | none => .stuck
  | _ => .stuck
def rgOk (i : Int) : Prop := -(2 ^ 62) ≤ i ∧ i < 2 ^ 62
instance (i : Int) : Decidable (rgOk i) := by unfold rgOk; exact inferInstance
def iRg1 (a : DA) : DI := fun ρ S => (a ρ S).bind fun ds S1 => match ds with
  | [.int j] => if rgOk j then .ok ⟨j.toNat + 1, nxtR 0 j.toNat⟩ S1 else .stuck
  | _ => .stuck
def iRg2 (a : DA) : DI := fun ρ S => (a ρ S).bind fun ds S1 => match ds with
  | [.int i, .int j] => if rgOk i ∧ rgOk j then .ok ⟨(j - i).toNat + 1, nxtR i (j - i).toNat⟩ S1 else .stuck
  | _ => .stuck
def iZp (a : DA) : DI := fun ρ S => (a ρ S).bind fun ds S1 => match ds with
  | [.tup xs, .tup ys] => .ok ⟨xs.length + 1, nxtZT xs ys⟩ S1
  | [.ref x, .ref y] => match getL S1 x, getL S1 y with
    | some xs, some _ => .ok ⟨xs.length + 1, nxtZL x y⟩ S1
    | _, _ => .stuck
  | _ => .stuck
theorem rngs_at {K : PySem.W.Frag} {m0 : List Addr} {H0 : Hp} {lo : Int} {n : Nat} : ItOk K m0 H0 (Itr lo n) (nxtR lo n) := by
  intro i S H m kp s
  unfold nxtR
  refine ⟨fun e => ?_, fun x e => ?_⟩
  · split at e
    · cases e
    · rename_i h
      exact Nat.le_of_not_lt h
  · split at e
    · rename_i h
      cases e
      refine ⟨h, fun v H' y => ?_⟩
      obtain ⟨rfl, rfl⟩ := y
      exact ⟨Ext.refl _ _, s, show RepV K H' m (.int (lo + i)) (.int (lo + i)) from rep_int.mpr rfl⟩
    · cases e
theorem SqT.injK {K : PySem.W.Frag} {H : Hp} {a : Addr} {xs : List V} (h : SqT K H a xs) : ∃ ys, SqT K H a ys := ⟨xs, h⟩
section
variable {X : Cx} {tg iter : Expr}
theorem PI.imp {t t' : TI} (h : PI X tg iter t) (k : ∀ σ H Rr, t' σ H Rr → t σ H Rr) : PI X tg iter t' := ⟨fun pins s σ H Rr I q => h.run pins s σ H Rr I (k σ H Rr q)⟩
theorem PI.or {t t' : TI} (h : PI X tg iter t) (h' : PI X tg iter t') : PI X tg iter (fun σ H Rr => t σ H Rr ∨ t' σ H Rr) := ⟨fun pins s σ H Rr I q => q.elim (h.run pins s σ H Rr I) (h'.run pins s σ H Rr I)⟩
theorem ref_at {K : PySem.W.Frag} {m0 m : List Addr} {H0 H : Hp} {n : Nat} {a : Addr} (h : m0[n]? = some a) (kp : Kp m0 H0 m H) : RepV K H m (.ref n) (.ref a) := by
  obtain ⟨t, rfl⟩ := kp.pre
  exact rep_ref.mpr ⟨a, by rw [List.getElem?_append_left (List.getElem?_eq_some_iff.mp h).1]; exact h, rfl⟩
theorem itl_ok {K : PySem.W.Frag} {m0 : List Addr} {H0 : Hp} {n : Nat} {a : Addr} (h : m0[n]? = some a) : ItOk K m0 H0 (Itl K a) (nxtL n) := by
  intro i S H m kp s
  have rr : RepV K H m (.ref n) (.ref a) := ref_at h kp
  unfold nxtL
  cases q : getL S n with
  | none => exact ⟨fun e => (by cases e), fun x e => (by cases e)⟩
  | some ds =>
    obtain ⟨a', vs, ea, q3, rl, _⟩ := s.list rr q
    cases ea
    cases q2 : ds[i]? with
    | none => exact ⟨fun _ => ⟨vs, q3, by rw [← rl.length]; exact List.getElem?_eq_none_iff.mp q2⟩, fun x e => (by simp [q2] at e)⟩
    | some d =>
      refine ⟨fun e => (by simp [q2] at e), fun x e => ?_⟩
      simp only [q2] at e
      cases e
      obtain ⟨v, h1, h2⟩ := rl.get q2
      refine ⟨⟨vs, v, q3, h1⟩, fun u H' y => ?_⟩
      obtain ⟨rfl, y2⟩ := y
      have := y2 vs q3
      rw [h1] at this
      cases this
      exact ⟨Ext.refl _ _, s, h2⟩
theorem itt_ok {K : PySem.W.Frag} {m0 : List Addr} {H0 : Hp} {ds : List D} {vs : List V} {a : Addr} (h : SqT K H0 a vs) (r : RepL K H0 m0 ds vs) : ItOk K m0 H0 (Itt K a) (nxtT ds) := by
  intro i S H m kp s
  have q3 : SqT K H a vs := SqT.kp kp h
  have rl : RepL K H m ds vs := RepL.kp kp _ _ r
  unfold nxtT
  cases q2 : ds[i]? with
  | none => exact ⟨fun _ => ⟨vs, q3, by rw [← rl.length]; exact List.getElem?_eq_none_iff.mp q2⟩, fun x e => (by simp [q2] at e)⟩
  | some d =>
    refine ⟨fun e => (by simp [q2] at e), fun x e => ?_⟩
    simp only [q2] at e
    cases e
    obtain ⟨v, h1, h2⟩ := rl.get q2
    refine ⟨⟨vs, v, q3, h1⟩, fun u H' y => ?_⟩
    obtain ⟨rfl, y2⟩ := y
    have := y2 vs q3
    rw [h1] at this
    cases this
    exact ⟨Ext.refl _ _, s, h2⟩
theorem itz_ok {K : PySem.W.Frag} {m0 : List Addr} {H0 : Hp} {x y : Nat} {a b : Addr} (ha : m0[x]? = some a) (hb : m0[y]? = some b) : ItOk K m0 H0 (Itz K a b) (nxtZL x y) := by
  intro i S H m kp s
  have ra : RepV K H m (.ref x) (.ref a) := ref_at ha kp
  have rb : RepV K H m (.ref y) (.ref b) := ref_at hb kp
  unfold nxtZL
  cases q : getL S x with
  | none => exact ⟨fun e => (by cases e), fun x e => (by cases e)⟩
  | some xs =>
    cases q' : getL S y with
    | none => exact ⟨fun e => (by cases e), fun x e => (by cases e)⟩
    | some ys =>
      obtain ⟨a', vs, ea, q3, rl, _⟩ := s.list ra q
      cases ea
      obtain ⟨b', us, eb, q4, rl2, _⟩ := s.list rb q'
      cases eb
      cases q2 : xs[i]? with
      | none => exact ⟨fun _ => ⟨vs, us, q3, q4, .inl (by rw [← rl.length]; exact List.getElem?_eq_none_iff.mp q2)⟩, fun x e => (by simp [q2] at e)⟩
      | some d =>
        cases q5 : ys[i]? with
        | none => exact ⟨fun _ => ⟨vs, us, q3, q4, .inr (by rw [← rl2.length]; exact List.getElem?_eq_none_iff.mp q5)⟩, fun x e => (by simp [q2, q5] at e)⟩
        | some d' =>
          refine ⟨fun e => (by simp [q2, q5] at e), fun z e => ?_⟩
          simp only [q2, q5] at e
          cases e
          obtain ⟨v, h1, h2⟩ := rl.get q2
          obtain ⟨u, h3, h4⟩ := rl2.get q5
          refine ⟨⟨vs, us, v, u, q3, q4, h1, h3⟩, fun w' H' yy => ?_⟩
          obtain ⟨T, x', y', rfl, hT, rfl, k1, k2⟩ := yy
          have e1 := k1 vs q3
          rw [h1] at e1
          cases e1
          have e2 := k2 us q4
          rw [h3] at e2
          cases e2
          refine ⟨Ext.updT hT, s.updT hT, T, [v, u], rfl, SqT.of upd_same, ?_⟩
          exact RepL.ext (Ext.updT hT) _ _ (RepL.cons h2 (RepL.cons h4 RepL.nil))
theorem itzt_ok {K : PySem.W.Frag} {m0 : List Addr} {H0 : Hp} {xs ys : List D} {vs us : List V} {a b : Addr} (h : SqT K H0 a vs) (r : RepL K H0 m0 xs vs) (h' : SqT K H0 b us) (r' : RepL K H0 m0 ys us) : ItOk K m0 H0 (RZ.ItzT K a b) (nxtZT xs ys) := by
  intro i S H m kp s
  have q3 : SqT K H a vs := SqT.kp kp h
  have rl : RepL K H m xs vs := RepL.kp kp _ _ r
  have q4 : SqT K H b us := SqT.kp kp h'
  have rl2 : RepL K H m ys us := RepL.kp kp _ _ r'
  unfold nxtZT
  cases q2 : xs[i]? with
  | none => exact ⟨fun _ => ⟨vs, us, q3, q4, .inl (by rw [← rl.length]; exact List.getElem?_eq_none_iff.mp q2)⟩, fun x e => (by simp [q2] at e)⟩
  | some d =>
    cases q5 : ys[i]? with
    | none => exact ⟨fun _ => ⟨vs, us, q3, q4, .inr (by rw [← rl2.length]; exact List.getElem?_eq_none_iff.mp q5)⟩, fun x e => (by simp [q2, q5] at e)⟩
    | some d' =>
      refine ⟨fun e => (by simp [q2, q5] at e), fun z e => ?_⟩
      simp only [q2, q5] at e
      cases e
      obtain ⟨v, h1, h2⟩ := rl.get q2
      obtain ⟨u, h3, h4⟩ := rl2.get q5
      refine ⟨⟨vs, us, v, u, q3, q4, h1, h3⟩, fun w' H' yy => ?_⟩
      obtain ⟨T, x', y', rfl, hT, rfl, k1, k2⟩ := yy
      have e1 := k1 vs q3
      rw [h1] at e1
      cases e1
      have e2 := k2 us q4
      rw [h3] at e2
      cases e2
      refine ⟨Ext.updT hT, s.updT hT, T, [v, u], rfl, SqT.of upd_same, ?_⟩
      exact RepL.ext (Ext.updT hT) _ _ (RepL.cons h2 (RepL.cons h4 RepL.nil))

theorem snd_iSeq {de : DE} (h : PE X iter (tD X.K de)) : PI X tg iter (tDI X.K (iSeq de)) := by
  refine PI.imp (PI.or (pi_list h) (pi_tup h)) fun σ H Rr q => ?_
  obtain ⟨m, S, ρ, it, S', s, r, e, k⟩ := q
  obtain ⟨d, S1, e1, e2⟩ := R.bind_ok e
  split at e2
  · cases e2
    refine .inr (tD_mk s r e1 fun v H1 m1 x1 s1 r1 rv => ?_)
    obtain ⟨a, vs, rfl, q, rl⟩ := rep_tup.mp rv
    exact ⟨a, rfl, ⟨vs, q.sqT⟩, k H1 m1 _ x1 s1 (itt_ok q.sqT rl)⟩
  · rename_i n
    split at e2
    · rename_i ds hd
      cases e2
      refine .inl (tD_mk s r e1 fun v H1 m1 x1 s1 r1 rv => ?_)
      obtain ⟨a, ha, rfl⟩ := rep_ref.mp rv
      obtain ⟨a', vs, ea, q, rl, _⟩ := s1.list rv hd
      cases ea
      exact ⟨a, rfl, ⟨vs, q⟩, k H1 m1 _ x1 s1 (itl_ok ha)⟩
    · cases e2
  · cases e2
theorem snd_iRg1 {a : Expr} {da : DA} {p pos : Pos} (hg : Gl X "range") (hm : X.mg "range" = none) (ha : PA X [a] (tDA X.K da)) (hs : isStar a = false) : PI X tg (.Call (.Name "range" p) [a] [] pos) (tDI X.K (iRg1 da)) := by
  refine PI.imp (pi_range1 hg hm ha (by rw [star_cons hs]; rfl)) fun σ H Rr q => ?_
  obtain ⟨m, S, ρ, it, S', s, r, e, k⟩ := q
  obtain ⟨ds, S1, e1, e2⟩ := R.bind_ok e
  split at e2
  · rename_i j
    split at e2
    · rename_i hj
      cases e2
      refine tDA_mk s r e1 fun vs H1 m1 x1 s1 r1 rl => ?_
      obtain ⟨v, rfl, rv⟩ := rl.one
      exact ⟨j, by rw [rep_int.mp rv], hj.1, hj.2, k H1 m1 _ x1 s1 rngs_at⟩
    · cases e2
  · cases e2
theorem snd_iRg2 {a b : Expr} {da : DA} {p pos : Pos} (hg : Gl X "range") (hm : X.mg "range" = none) (ha : PA X [a, b] (tDA X.K da)) (hs : isStar a = false) (hs2 : isStar b = false) : PI X tg (.Call (.Name "range" p) [a, b] [] pos) (tDI X.K (iRg2 da)) := by
  refine PI.imp (pi_range2 hg hm ha (by rw [star_cons hs, star_cons hs2]; rfl) (by rw [star_cons hs2]; rfl)) fun σ H Rr q => ?_
  obtain ⟨m, S, ρ, it, S', s, r, e, k⟩ := q
  obtain ⟨ds, S1, e1, e2⟩ := R.bind_ok e
  split at e2
  · rename_i i j
    split at e2
    · rename_i hj
      cases e2
      refine tDA_mk s r e1 fun vs H1 m1 x1 s1 r1 rl => ?_
      obtain ⟨v, u, rfl, rv, ru⟩ := rl.two
      exact ⟨i, j, by rw [rep_int.mp rv, rep_int.mp ru], ⟨hj.1.1, hj.1.2, hj.2.1, hj.2.2⟩, k H1 m1 _ x1 s1 rngs_at⟩
    · cases e2
  · cases e2
theorem snd_iZp {a b : Expr} {elts : List Expr} {kk : Nat} {tpos : Pos} {da : DA} {p pos : Pos} (hg : Gl X "zip") (hm : X.mg "zip" = none) (ha : PA X [a, b] (tDA X.K da)) (hn : noStar [a, b] = true) :
    PI X (.Tuple elts kk tpos) (.Call (.Name "zip" p) [a, b] [] pos) (tDI X.K (iZp da)) := by
  refine PI.imp (RZ.pi_zipA hg hm ha (star_cons (noStar_cons hn).1) (star_back (noStar_cons hn).2)) fun σ H Rr q => ?_
  obtain ⟨m, S, ρ, it, S', s, r, e, k⟩ := q
  obtain ⟨ds, S1, e1, e2⟩ := R.bind_ok e
  split at e2
  · rename_i xs ys
    cases e2
    refine tDA_mk s r e1 fun vs H1 m1 x1 s1 r1 rl => ?_
    obtain ⟨v, u, rfl, rv, ru⟩ := rl.two
    obtain ⟨a1, ws, rfl, q1, l1⟩ := rep_tup.mp rv
    obtain ⟨a2, us, rfl, q2, l2⟩ := rep_tup.mp ru
    exact ⟨a1, a2, ws, us, rfl, .inr ⟨q1.sqT, q2.sqT, k H1 m1 _ x1 s1 (itzt_ok q1.sqT l1 q2.sqT l2)⟩⟩
  · rename_i x y
    split at e2
    · rename_i xs ys hx hy
      cases e2
      refine tDA_mk s r e1 fun vs H1 m1 x1 s1 r1 rl => ?_
      obtain ⟨v, u, rfl, rv, ru⟩ := rl.two
      obtain ⟨a1, h1, rfl⟩ := rep_ref.mp rv
      obtain ⟨a2, h2, rfl⟩ := rep_ref.mp ru
      obtain ⟨_, ws, ea, q1, _, _⟩ := s1.list rv hx
      cases ea
      obtain ⟨_, us, eb, q2, _, _⟩ := s1.list ru hy
      cases eb
      exact ⟨a1, a2, ws, us, rfl, .inl ⟨q1, q2, k H1 m1 _ x1 s1 (itz_ok h1 h2)⟩⟩
    · cases e2
  · cases e2
end

/-! ### for, while -/
def forI (nxt : Nat → Store → Option (Option Itm)) (pt : Pt) (body : DS) : Nat → Nat → Env → Store → R Fl
  | 0, _, _, _ => .stuck
  | f + 1, i, ρ, S => match nxt i S with
    | none => .stuck
    | some none => .ok (.nx ρ) S
    | some (some it) => match bindP pt it ρ with
      | none => .stuck
      | some ρ1 => (body ρ1 S).bind fun o S2 => match o with
        | .nx ρ2 => forI nxt pt body f (i + 1) ρ2 S2
        | .ct ρ2 => forI nxt pt body f (i + 1) ρ2 S2
        | .bk ρ2 => .ok (.nx ρ2) S2
        | .rt d => .ok (.rt d) S2
def sFor (it : DI) (pt : Pt) (body : DS) : DS := fun ρ S => (it ρ S).bind fun j S1 => forI j.nxt pt body j.fuel 0 ρ S1
def whI (t : DT) (body : DS) : Nat → Env → Store → R Fl
  | 0, _, _ => .stuck
  | f + 1, ρ, S => (t ρ S).bind fun c S1 => if c = true then (body ρ S1).bind fun o S2 => match o with
      | .nx ρ2 => whI t body f ρ2 S2
      | .ct ρ2 => whI t body f ρ2 S2
      | .bk ρ2 => .ok (.nx ρ2) S2
      | .rt d => .ok (.rt d) S2
    else .ok (.nx ρ) S1
def sWhile (wf : Nat) (t : DT) (body : DS) : DS := fun ρ S => whI t body wf ρ S
section
variable {X : Cx} {pos : Pos}
theorem snd_for {tg iter : Expr} {body : List Stmt} {it : DI} {pt : Pt} {b : DS} (hx : X.xe = fun _ _ => False) (hc : X.calm = true) (hi : PI X tg iter (tDI X.K it)) (hg : PG X tg (gPt X.K pt)) (hb : PSs X body (tSD X.K b))
    (hs : ∀ x, foldedSetIterable iter X.env x = pure x) : PS X (.For tg iter body [] pos) (tSD X.K (sFor it pt b)) := by
  refine PS.imp (ps_for (by rw [hx]; exact PassesOwn.never) hc hi hg hb hs) fun E σ H h => ?_
  obtain ⟨m, S, ρ, o, S', s, r, e, k⟩ := h
  obtain ⟨j, S1, e1, e2⟩ := R.bind_ok e
  refine ⟨m, S, ρ, j, S1, s, r, e1, fun H1 m1 J x1 s1 ok => ?_⟩
  refine ⟨fun i f σ H => ∃ m S ρ, SOk X.K H m S ∧ RepE X.K H m ρ σ ∧ Ext m1 H1 m H ∧ forI j.nxt pt b f i ρ S = .ok o S', ⟨j.fuel, m1, S1, ρ, s1, r.ext x1, Ext.refl _ _, e2⟩, ?_⟩
  rintro i f σ H ⟨m, S, ρ, s2, r2, x2, e3⟩
  cases f with
  | zero => cases e3
  | succ f =>
    unfold forI at e3
    have okk := ok i S H m x2.kp s2
    split at e3
    · cases e3
    · rename_i hn
      cases e3
      exact .inl ⟨okk.1 hn, k H m (x1.then s1 x2) s2 σ r2⟩
    · rename_i itm hn
      obtain ⟨hgo, hy⟩ := okk.2 itm hn
      split at e3
      · cases e3
      · rename_i ρ1 hb1
        refine .inr ⟨hgo, fun σ' H' => ∃ f', f' < f + 1 ∧ ∃ m S ρ, SOk X.K H' m S ∧ RepE X.K H' m ρ σ' ∧ Ext m1 H1 m H' ∧ forI j.nxt pt b f' (i + 1) ρ S = .ok o S', fun σ' H' q => q, fun v H2 y => ?_⟩
        obtain ⟨x3, s3, ri⟩ := hy v H2 y
        refine gPt_of (r2.ext x3) ri hb1 fun σ2 r3 _ => ?_
        obtain ⟨o1, S2, e4, e5⟩ := R.bind_ok e3
        refine tSD_mk s3 r3 e4 fun H3 m3 x4 s4 => ?_
        have xx : Ext m1 H1 m3 H3 := (x2.then s2 x3).then s3 x4
        cases o1 with
        | nx ρ2 => exact fun σ3 r4 => ⟨f, Nat.lt_succ_self _, m3, S2, ρ2, s4, r4, xx, e5⟩
        | ct ρ2 => exact fun σ3 r4 => ⟨f, Nat.lt_succ_self _, m3, S2, ρ2, s4, r4, xx, e5⟩
        | bk ρ2 =>
          cases e5
          exact fun σ3 r4 => k H3 m3 (x1.then s1 xx) s4 σ3 r4
        | rt d =>
          cases e5
          exact fun v rv => k H3 m3 (x1.then s1 xx) s4 v rv
theorem snd_while {c : Expr} {body : List Stmt} {t : DT} {b : DS} {wf : Nat} (hx : X.xe = fun _ _ => False) (hc : PT X c (tDT X.K t)) (hb : PSs X body (tSD X.K b)) : PS X (.While c body [] pos) (tSD X.K (sWhile wf t b)) := by
  refine PS.imp (ps_while (by rw [hx]; exact PassesOwn.never) hc hb) fun E σ0 H0 h => ?_
  obtain ⟨m0, S0, ρ0, o, S', s0, r0, e0, k⟩ := h
  refine ⟨fun f σ H => ∃ m S ρ, SOk X.K H m S ∧ RepE X.K H m ρ σ ∧ Ext m0 H0 m H ∧ whI t b f ρ S = .ok o S', ⟨wf, m0, S0, ρ0, s0, r0, Ext.refl _ _, e0⟩, ?_⟩
  rintro f σ H ⟨m, S, ρ, s2, r2, x2, e3⟩
  cases f with
  | zero => cases e3
  | succ f =>
    unfold whI at e3
    obtain ⟨c, S1, e4, e5⟩ := R.bind_ok e3
    refine tDT_mk s2 r2 e4 fun H1 m1 x1 s1 r1 => ?_
    cases c with
    | false =>
      rw [if_neg (by simp)] at e5 ⊢
      cases e5
      exact k H1 m1 (x2.then s2 x1) s1 σ r1
    | true =>
      rw [if_pos rfl] at e5 ⊢
      obtain ⟨o1, S2, e6, e7⟩ := R.bind_ok e5
      refine ⟨fun σ' H' => ∃ f', f' < f + 1 ∧ ∃ m S ρ, SOk X.K H' m S ∧ RepE X.K H' m ρ σ' ∧ Ext m0 H0 m H' ∧ whI t b f' ρ S = .ok o S', fun σ' H' q => q, ?_⟩
      refine tSD_mk s1 r1 e6 fun H3 m3 x4 s4 => ?_
      have xx : Ext m0 H0 m3 H3 := (x2.then s2 x1).then s1 x4
      cases o1 with
      | nx ρ2 => exact fun σ3 r4 => ⟨f, Nat.lt_succ_self _, m3, S2, ρ2, s4, r4, xx, e7⟩
      | ct ρ2 => exact fun σ3 r4 => ⟨f, Nat.lt_succ_self _, m3, S2, ρ2, s4, r4, xx, e7⟩
      | bk ρ2 =>
        cases e7
        exact fun σ3 r4 => k H3 m3 xx s4 σ3 r4
      | rt d =>
        cases e7
        exact fun v rv => k H3 m3 xx s4 v rv
end

/-! ### list comprehensions -/
def compI (nxt : Nat → Store → Option (Option Itm)) (pt : Pt) (vs : List Nat) (tt : DT) (te : DE) : Nat → Nat → Env → Store → R (List D)
  | 0, _, _, _ => .stuck
  | f + 1, i, ρ, S => match nxt i S with
    | none => .stuck
    | some none => .ok [] S
    | some (some it) => match bindP pt it (wipeD ρ vs) with
      | none => .stuck
      | some ρ1 => (tt ρ1 S).bind fun c S1 => if c = true then (te ρ1 S1).bind fun y S2 => (compI nxt pt vs tt te f (i + 1) ρ S2).bind fun ys S3 => .ok (y :: ys) S3
        else compI nxt pt vs tt te f (i + 1) ρ S1
def eComp (it : DI) (pt : Pt) (vs : List Nat) (tt : DT) (te : DE) : DE := fun ρ S => (it ρ S).bind fun j S1 => (compI j.nxt pt vs tt te j.fuel 0 ρ S1).bind fun ys S2 =>
  if ys.length ≤ sizeLine then .ok (.ref S2.length) (S2 ++ [.lst ys]) else .stuck
def tYesD : DT := fun _ S => .ok true S
section
variable {X : Cx}
theorem upd_mask {H : Hp} {p : Addr} {o : HO} (h : H p = some o) : upd (mask p H) p o = H := by
  rw [mask_upd]
  funext a
  by_cases e : a = p
  · subst e; rw [upd_same, h]
  · rw [upd_ne e]
theorem mask_upd2 {H : Hp} {p : Addr} {o : HO} : mask p (upd H p o) = mask p H := by
  funext a
  by_cases e : a = p
  · subst e; rw [mask_self, mask_self]
  · rw [mask_ne e, mask_ne e, upd_ne e]
theorem plain_lst {H : Hp} {p : Addr} {xs : List V} (h : H p = some (.lst xs)) : Plain (H p) := by
  rw [h]
  exact ⟨fun xs e => (by cases e), fun b u e => (by cases e)⟩
/-- the reading of a comprehension, by an evaluation -/
theorem tLc_of {it : DI} {pt : Pt} {vs : List Nat} {tt : DT} {te : DE} {σ : St} {H : Hp} {Q : VK} (hv : ∀ i ∈ pt.slots, i ∈ vs) (h : tD X.K (eComp it pt vs tt te) σ H Q) :
    tLc (tDI X.K it) (gPt X.K pt) (tDT X.K tt) (tD X.K te) vs σ H Q := by
  obtain ⟨m0, S0, ρ, d, S', s0, r0, e, k⟩ := h
  obtain ⟨j, S1, e1, e⟩ := R.bind_ok e
  obtain ⟨ys, S2, e2, e3⟩ := R.bind_ok e
  split at e3
  · rename_i hz
    cases e3
    refine ⟨m0, S0, ρ, j, S1, s0, r0, e1, fun H1 m1 J x1 s1 ok D hD => ?_⟩
    -- W: what is made so far stands at D, outside of the store; the rest is to come
    refine ⟨fun i f H => ∃ m S acc accV rest, SOk X.K (mask D H) m S ∧ D ∉ m ∧ H D = some (.lst accV) ∧ RepL X.K (mask D H) m acc accV ∧ Ext m1 H1 m (mask D H) ∧
      compI j.nxt pt vs tt te f i ρ S = .ok rest S2 ∧ ys = acc ++ rest, ⟨j.fuel, ?_⟩, ?_⟩
    · have em : mask D (upd H1 D (.lst [])) = H1 := mask_fresh hD
      exact ⟨m1, S1, [], [], ys, by rw [em]; exact s1, s1.fresh hD, upd_same, RepL.nil, by rw [em]; exact Ext.refl _ _, e2, rfl⟩
    · rintro i f H ⟨m, S, acc, accV, rest, s2, hn, hH, ra, x2, e4, hy⟩
      have hpl := plain_lst hH
      have s3 : SOk X.K H m S := s2.unmask
      have r3 : RepE X.K H m ρ σ := ((r0.ext x1).ext x2).kp Kp.unmask
      have kp : Kp m1 H1 m H := x2.kp.trans Kp.unmask
      cases f with
      | zero => cases e4
      | succ f =>
        unfold compI at e4
        have okk := ok i S H m kp s3
        split at e4
        · cases e4
        · rename_i hnx
          cases e4
          refine .inl ⟨okk.1 hnx, ?_⟩
          rw [List.append_nil] at hy
          subst hy
          obtain ⟨y1, y2, y3⟩ := s2.newL (p := D) mask_self hz ra
          rw [upd_mask hH] at y1 y2 y3
          exact k _ _ _ ((x1.then s1 x2).then s2 y1) y2 y3
        · rename_i itm hnx
          obtain ⟨hgo, hyl⟩ := okk.2 itm hnx
          split at e4
          · cases e4
          · rename_i ρ1 hb1
            refine .inr ⟨hgo, fun H' => ∃ f', f' < f + 1 ∧ ∃ m S acc accV rest, SOk X.K (mask D H') m S ∧ D ∉ m ∧ H' D = some (.lst accV) ∧ RepL X.K (mask D H') m acc accV ∧ Ext m1 H1 m (mask D H') ∧
              compI j.nxt pt vs tt te f' (i + 1) ρ S = .ok rest S2 ∧ ys = acc ++ rest, fun H' q => q, fun v H2 y => ?_⟩
            obtain ⟨x3, s4, ri⟩ := hyl v H2 y
            have r4 : RepE X.K H2 m (wipeD ρ vs) (L2.wipe σ vs) := (r3.ext x3).wipe vs
            refine gPt_of r4 ri hb1 fun σ2 r5 hw => ⟨by rw [hw vs hv, wipe_idem], ?_⟩
            have hH2 : H2 D = some (.lst accV) := x3.out D _ hH hn
            obtain ⟨c, S3, e5, e6⟩ := R.bind_ok e4
            refine tDT_mk s4 r5 e5 fun H3 m3 x4 s5 r6 => ?_
            have hn3 : D ∉ m3 := x4.notin hH2 hn
            have hH3 : H3 D = some (.lst accV) := x4.out D _ hH2 hn
            have x34 : Ext m H m3 H3 := x3.then s4 x4
            cases c with
            | false =>
              rw [if_neg (by simp)] at e6 ⊢
              exact ⟨f, Nat.lt_succ_self _, m3, S3, acc, accV, rest, s5.mask (plain_lst hH3) hn3, hn3, hH3, RepL.ext x34.mask _ _ ra, x2.then s2 x34.mask, e6, hy⟩
            | true =>
              rw [if_pos rfl] at e6 ⊢
              obtain ⟨yv, S4, e7, e8⟩ := R.bind_ok e6
              obtain ⟨more, S5, e9, e10⟩ := R.bind_ok e8
              cases e10
              refine tD_mk s5 r6 e7 fun w H4 m4 x5 s6 r7 rw' => ?_
              have hn4 : D ∉ m4 := x5.notin hH3 hn3
              have hH4 : H4 D = some (.lst accV) := x5.out D _ hH3 hn3
              have x35 : Ext m H m4 H4 := x34.then s5 x5
              have hl := ra.length
              refine ⟨accV, hH4, ?_, f, Nat.lt_succ_self _, m4, S4, acc ++ [yv], accV ++ [w], more, ?_⟩
              · have : acc.length + (more.length + 1) ≤ sizeLine := by
                  rw [hy] at hz
                  simpa using hz
                omega
              · rw [mask_upd2]
                refine ⟨s6.mask (plain_lst hH4) hn4, hn4, upd_same, ?_, x2.then s2 x35.mask, e9, by rw [hy]; simp⟩
                exact (RepL.ext x35.mask _ _ ra).append (RepL.cons (RepV.kp (Kp.mask (plain_lst hH4)) _ _ rw') RepL.nil)
  · cases e3
theorem snd_tYes : PTs X [] (tDT X.K tYesD) := ⟨fun pins s σ H Q I h => by
  obtain ⟨m, S, ρ, b, S', s', r, e, k⟩ := h
  cases e
  exact pts_nil.run pins s σ H Q I (k H m (Ext.refl _ _) s')⟩
theorem snd_tOne {c : Expr} {t : DT} (h : PT X c (tDT X.K t)) : PTs X [c] (tDT X.K t) := pts_one h
end
end Mp

set_option Elab.async false
set_option linter.all false
set_option maxRecDepth 100000
set_option maxHeartbeats 4000000
/-! Mp9: the text compiled to an evaluation. -/
namespace Mp
open PySem L2
open PyProof.Rows hiding St

/-- a def of the text: its name, its statement, the names that stand in slots (parameters first) -/
structure FD where
  name : Str
  st : Stmt
  N : List Str
def FD.ps (f : FD) : List Str := (defArgs f.st).args.map (·.arg)
structure GE where
  fns : List FD
  consts : List (Str × D)
  blts : List Str
  wf : Nat
abbrev CF := Nat → List D → Store → R D

def ixOf (x : Str) : List Str → Nat → Option Nat
  | [], _ => none
  | y :: r, i => if y = x then some i else ixOf x r (i + 1)
theorem ixOf_at {x : Str} : ∀ {N : List Str} {k i : Nat}, ixOf x N k = some i → k ≤ i ∧ N[i - k]? = some x
  | [], _, _, h => by cases h
  | y :: r, k, i, h => by
    unfold ixOf at h
    split at h
    · rename_i e
      cases h
      exact ⟨Nat.le_refl _, by simp [e]⟩
    · obtain ⟨h1, h2⟩ := ixOf_at h
      refine ⟨by omega, ?_⟩
      have : i - k = (i - (k + 1)) + 1 := by omega
      rw [this, List.getElem?_cons_succ]
      exact h2
theorem ixOf_0 {x : Str} {N : List Str} {i : Nat} (h : ixOf x N 0 = some i) : N[i]? = some x := by
  have := (ixOf_at h).2
  simpa using this
def fnIx (x : Str) : List FD → Nat → Option Nat
  | [], _ => none
  | f :: r, i => if f.name = x then some i else fnIx x r (i + 1)
theorem fnIx_at {x : Str} : ∀ {N : List FD} {k i : Nat}, fnIx x N k = some i → k ≤ i ∧ ∃ f, N[i - k]? = some f ∧ f.name = x
  | [], _, _, h => by cases h
  | y :: r, k, i, h => by
    unfold fnIx at h
    split at h
    · rename_i e
      cases h
      exact ⟨Nat.le_refl _, y, by simp, e⟩
    · obtain ⟨h1, f, h2, h3⟩ := fnIx_at h
      refine ⟨by omega, f, ?_, h3⟩
      have : i - k = (i - (k + 1)) + 1 := by omega
      rw [this, List.getElem?_cons_succ]
      exact h2
theorem fnIx_0 {x : Str} {N : List FD} {i : Nat} (h : fnIx x N 0 = some i) : ∃ f, N[i]? = some f ∧ f.name = x := by
  obtain ⟨f, h1, h2⟩ := (fnIx_at h).2
  exact ⟨f, by simpa using h1, h2⟩
def visB (sc : Scope) (x : Str) : Bool := match sc.names.lookup x with
  | some .local => true
  | some .cell => true
  | some .free => true
  | _ => false
theorem visB_ok {sc : Scope} {x : Str} (h : visB sc x = true) : Vis sc x := by
  unfold visB at h
  split at h
  · exact .inl ‹_›
  · exact .inr (.inl ‹_›)
  · exact .inr (.inr ‹_›)
  · cases h
def glB (sc : Scope) (x : Str) : Bool := match sc.names.lookup x with
  | some .globalImplicit => true
  | _ => false
theorem glB_ok {sc : Scope} {x : Str} (h : glB sc x = true) : sc.names.lookup x = some .globalImplicit := by
  unfold glB at h
  split at h
  · assumption
  · cases h
def plainName (x : Str) : Bool := !(x == ("__debug__" : Str)) && !(x == ("__classdict__" : Str)) && !decide (x = ("__name__" : Str))
theorem plainName_ok {x : Str} (h : plainName x = true) : (x == ("__debug__" : Str)) = false ∧ (x == ("__classdict__" : Str)) = false ∧ x ≠ ("__name__" : Str) := by
  unfold plainName at h
  simp only [Bool.and_eq_true, Bool.not_eq_true', decide_eq_false_iff_not] at h
  exact ⟨h.1.1, h.1.2, h.2⟩

/-! ### lists of expressions -/
def compA (f : Expr → Option DE) : List Expr → Option DA
  | [] => some aNil
  | e :: es => if isStar e then none else match f e with
    | some d => match compA f es with
      | some ds => some (aCons d ds)
      | none => none
    | none => none
def compPs (f : Expr → Option DE) : List (Option Expr) → List Expr → Option DP
  | [], [] => some pNil
  | some k :: ks, v :: vs => match f k with
    | some dk => match f v with
      | some dv => match compPs f ks vs with
        | some r => some (pCons dk dv r)
        | none => none
      | none => none
    | none => none
  | _, _ => none
def compAnd (f : Expr → Option DT) : List Expr → Option DT
  | [] => none
  | [e] => f e
  | e :: es => match f e with
    | some d => match compAnd f es with
      | some ds => some (tAndD d ds)
      | none => none
    | none => none
def compOr (f : Expr → Option DT) : List Expr → Option DT
  | [] => none
  | [e] => f e
  | e :: es => match f e with
    | some d => match compOr f es with
      | some ds => some (tOrD d ds)
      | none => none
    | none => none
def compAndE (f : Expr → Option DE) : List Expr → Option DE
  | [] => none
  | [e] => f e
  | e :: es => match f e with
    | some d => match compAndE f es with
      | some ds => some (eAnd d ds)
      | none => none
    | none => none
def compOrE (f : Expr → Option DE) : List Expr → Option DE
  | [] => none
  | [e] => f e
  | e :: es => match f e with
    | some d => match compOrE f es with
      | some ds => some (eOr d ds)
      | none => none
    | none => none
def compO (f : Expr → Option DE) : Option Expr → Option DO
  | none => some oNone
  | some e => match f e with
    | some d => some (oSome d)
    | none => none
def binD : Operator → Option (D → D → Store → R D)
  | .Add => some dAdd
  | .Sub => some dSub
  | .Mult => some dMul
  | .FloorDiv => some dFdiv
  | .Mod => some dMod
  | .Pow => some dPow
  | _ => none
def cmpD : CmpOp → Option (D → D → Store → R D)
  | .Eq => some dEq
  | .NotEq => some dNe
  | .Lt => some (dCmp fun i j => decide (i < j))
  | .LtE => some (dCmp fun i j => decide (i ≤ j))
  | .Gt => some (dCmp fun i j => decide (j < i))
  | .GtE => some (dCmp fun i j => decide (j ≤ i))
  | .Is => some dIs
  | .IsNot => some dIsNot
  | .In => some dIn
  | .NotIn => some dNotIn
def notSet : Expr → Bool
  | .Set _ _ _ => false
  | _ => true
def plainTest : Expr → Bool
  | .UnaryOp _ _ _ => false
  | .BoolOp _ _ _ => false
  | .IfExp _ _ _ _ => false
  | .Compare _ _ _ _ => false
  | _ => true
/-- a built-in function or type that is called -/
def bltD (x : Str) : Option (List D → Store → R D) :=
  if x = ("len" : Str) then some bLen else
  if x = ("max" : Str) then some bMax else
  if x = ("min" : Str) then some bMin else
  if x = ("int" : Str) then some bInt else
  if x = ("tuple" : Str) then some bTuple else
  if x = ("list" : Str) then some bList else
  if x = ("dict" : Str) then some bDict else
  if x = ("all" : Str) then some bAll else
  if x = ("any" : Str) then some bAny else none
/-- isinstance(x, T) for the types of data -/
def tyD (d : D) (S : Store) : Option String := match d with
  | .non => some "NoneType"
  | .bl _ => some "bool"
  | .int _ => some "int"
  | .str _ => some "str"
  | .tup _ => some "tuple"
  | .frz _ => none
  | .ref n => match S[n]? with
    | some (.lst _) => some "list"
    | some (.frz _) => some "list"
    | some (.dK _) => some "dict"
    | none => none
def isiB (a b : String) : Bool := a == b || (a == "bool" && b == "int")
def eIsi (T : String) (e : DE) : DE := fun ρ S => (e ρ S).bind fun d S1 => match tyD d S1 with
  | some t => .ok (.bl (isiB t T)) S1
  | none => .stuck
def isiT (x : Str) : Option String :=
  if x = ("tuple" : Str) then some "tuple" else
  if x = ("list" : Str) then some "list" else
  if x = ("dict" : Str) then some "dict" else
  if x = ("int" : Str) then some "int" else
  if x = ("bool" : Str) then some "bool" else
  if x = ("str" : Str) then some "str" else none
def ownOf (N : List Str) (scope : Scope) : List (Str × Nat) := scope.names.filterMap fun y => match y.2 with
  | .local => (ixOf y.1 N 0).map fun i => (y.1, i)
  | .cell => (ixOf y.1 N 0).map fun i => (y.1, i)
  | _ => none
/-- a target's names -/
def nmIx (N : List Str) (sc : Scope) (blk : Bool) : Expr → Option Nat
  | .Name x _ => match sc.names.lookup x with
    | some .local => ixOf x N 0
    | some .cell => if blk then none else ixOf x N 0
    | _ => none
  | _ => none
def nmIxs (N : List Str) (sc : Scope) (blk : Bool) : List Expr → Option (List Nat)
  | [] => some []
  | e :: es => match nmIx N sc blk e with
    | some i => match nmIxs N sc blk es with
      | some is => some (i :: is)
      | none => none
    | none => none
def compPt (N : List Str) (sc : Scope) (blk : Bool) (e : Expr) : Option Pt := match e with
  | .Name _ _ => (nmIx N sc blk e).map .nm
  | .Tuple es _ _ => (nmIxs N sc blk es).map .tp
  | _ => none
def isTupE : Expr → Bool
  | .Tuple _ _ _ => true
  | _ => false

mutual
def compE (G : GE) (cf : CF) (N : List Str) : Nat → Scope → Expr → Option DE
  | 0, _, _ => none
  | n + 1, sc, e => match e with
    | .Name x _ => if plainName x = false then none else if visB sc x = true then (ixOf x N 0).map eSlot else if glB sc x = true then (G.consts.lookup x).map eConst else none
    | .Constant c _ _ => match c with
      | .int i => some (eConst (.int i))
      | .str x => some (eConst (.str x))
      | .bool b => some (eConst (.bl b))
      | .none => some (eConst .non)
      | _ => none
    | .BinOp a op b _ => match binD op with
      | some f => match compE G cf N n sc a with
        | some da => match compE G cf N n sc b with
          | some db => some (eBin f da db)
          | none => none
        | none => none
      | none => none
    | .UnaryOp op a _ => match op with
      | .USub => (compE G cf N n sc a).map (eUn dNeg)
      | .Not => (compE G cf N n sc a).map eNot
      | _ => none
    | .BoolOp op es _ => match op with
      | .And => compAndE (compE G cf N n sc) es
      | .Or => compOrE (compE G cf N n sc) es
    | .Compare a [op] [b] _ => if notSet b = false then none else match cmpD op with
      | some f => match compE G cf N n sc a with
        | some da => match compE G cf N n sc b with
          | some db => some (eBin f da db)
          | none => none
        | none => none
      | none => none
    | .IfExp c a b _ => match compT G cf N n sc c with
      | some dc => match compE G cf N n sc a with
        | some da => match compE G cf N n sc b with
          | some db => some (eIf dc da db)
          | none => none
        | none => none
      | none => none
    | .Subscript a i _ => match i with
      | .Slice lo hi st _ => if st.isSome then none else match compE G cf N n sc a with
        | some da => match compO (compE G cf N n sc) lo with
          | some dl => match compO (compE G cf N n sc) hi with
            | some dh => some (eCut da dl dh)
            | none => none
          | none => none
        | none => none
      | _ => match compE G cf N n sc a with
        | some da => match compE G cf N n sc i with
          | some di => some (eBin dIdx da di)
          | none => none
        | none => none
    | .Tuple es _ _ => if es.length ≤ 1000 then (compA (compE G cf N n sc) es).map eTup else none
    | .List es _ => if es.length ≤ 1000 then (compA (compE G cf N n sc) es).map eLst else none
    | .Dict ks vs _ => if ks.all (·.isSome) = true ∧ ks.length = vs.length ∧ ks.length ≤ 15 then (compPs (compE G cf N n sc) ks vs).map eDict else none
    | .Call f as [] cpos => match f with
      | .Name x _ => if plainName x = false ∨ glB sc x = false then none else match fnIx x G.fns 0 with
        | some i => (compA (compE G cf N n sc) as).map (eApp (cf i))
        | none => if G.blts.contains x = false then none else
          if x = ("isinstance" : Str) then match as with
            | [e, .Name T _] => if isStar e = true ∨ glB sc T = false ∨ G.blts.contains T = false then none else match isiT T with
              | some t => (compE G cf N n sc e).map (eIsi t)
              | none => none
            | _ => none
          else match as with
            | [] => none
            | e :: es => match bltD x with
              | some g => (compA (compE G cf N n sc) (e :: es)).map (eApp g)
              | none => none
      | .Attribute o m apos => if notSuper o = false ∨ (apos.endLine == cpos.line) = false then none else match compE G cf N n sc o with
        | none => none
        | some d => match as with
          | [e] => if isStar e then none else match compE G cf N n sc e with
            | none => none
            | some de =>
              if m = ("append" : Str) then some (eMeth isL mAppend d (aCons de aNil)) else
              if m = ("extend" : Str) then some (eMeth isL mExtend d (aCons de aNil)) else
              if m = ("pop" : Str) then some (eMeth isL mPop d (aCons de aNil)) else
              if m = ("update" : Str) then some (eMeth isK mUpdate d (aCons de aNil)) else
              if m = ("join" : Str) then some (eJoin d de) else none
          | _ => none
      | _ => none
    | .ListComp elt [⟨tg, iter, ifs, 0⟩] scope _ =>
      if blkC N sc scope (ownOf N scope) = false ∨ notSet iter = false then none else
      match compIt G cf N n sc tg iter with
      | none => none
      | some di => match compPt N (relS scope sc) true tg with
        | none => none
        | some pt => if pt.slots.all (fun i => ((ownOf N scope).map (·.2)).contains i) = false then none else match compE G cf N n (relS scope sc) elt with
          | none => none
          | some de => match ifs with
            | [] => some (eComp di pt ((ownOf N scope).map (·.2)) tYesD de)
            | [c] => (compT G cf N n (relS scope sc) c).map fun dt => eComp di pt ((ownOf N scope).map (·.2)) dt de
            | _ => none
    | _ => none
def compT (G : GE) (cf : CF) (N : List Str) : Nat → Scope → Expr → Option DT
  | 0, _, _ => none
  | n + 1, sc, e => match e with
    | .UnaryOp op a _ => match op with
      | .Not => (compT G cf N n sc a).map tNotD
      | _ => none
    | .BoolOp op es _ => match op with
      | .And => compAnd (compT G cf N n sc) es
      | .Or => compOr (compT G cf N n sc) es
    | .Compare a [op] [b] _ => if notSet b = false then none else match cmpD op with
      | some f => match compE G cf N n sc a with
        | some da => match compE G cf N n sc b with
          | some db => some (tOfE (eBin f da db))
          | none => none
        | none => none
      | none => none
    | _ => if plainTest e = true then (compE G cf N n sc e).map tOfE else none
def compIt (G : GE) (cf : CF) (N : List Str) : Nat → Scope → Expr → Expr → Option DI
  | 0, _, _, _ => none
  | n + 1, sc, tg, e => match e with
    | .Call (.Name x _) [a] [] _ => if x = ("range" : Str) then (if glB sc x = false ∨ G.blts.contains x = false ∨ isStar a = true then none else (compE G cf N n sc a).map fun d => iRg1 (aCons d aNil)) else (compE G cf N n sc e).map iSeq
    | .Call (.Name x _) [a, b] [] _ => if x = ("range" : Str) then (if glB sc x = false ∨ G.blts.contains x = false ∨ isStar a = true ∨ isStar b = true then none else match compE G cf N n sc a with
        | some da => match compE G cf N n sc b with
          | some db => some (iRg2 (aCons da (aCons db aNil)))
          | none => none
        | none => none)
      else if x = ("zip" : Str) then (if glB sc x = false ∨ G.blts.contains x = false ∨ noStar [a, b] = false ∨ isTupE tg = false then none else match compE G cf N n sc a with
        | some da => match compE G cf N n sc b with
          | some db => some (iZp (aCons da (aCons db aNil)))
          | none => none
        | none => none)
      else (compE G cf N n sc e).map iSeq
    | _ => (compE G cf N n sc e).map iSeq
end
end Mp

set_option Elab.async false
set_option linter.all false
set_option maxRecDepth 100000
set_option maxHeartbeats 8000000
/-! Mp10: what the compiled evaluation answers, the model answers: expressions. -/
namespace Mp
open PySem L2
open PyProof.Rows hiding St

/-- where a text runs -/
structure CtxOk (G : GE) (cf : CF) (N : List Str) (blk : Bool) (X : Cx) (sc : Scope) : Prop where
  hN : X.N = N
  hsc : X.env.scope = sc
  calm : X.calm = true
  nox : X.xe = fun _ _ => False
  nd : N.Nodup
  hf : blk = false → ∀ x, X.fn x = true
  units : X.A.units + 65 < cLine
  fns : ∀ (i : Nat) (fd : FD), G.fns[i]? = some fd → ∃ k fa fdata, Room k X.A ∧ X.mg fd.name = some (.ref fa) ∧ PySem.W.keepIn X.K (.ref fa) = true ∧ Binds X.K fdata fd.ps [] ∧
    FnOk X.prog X.w X.K X.mg X.base CX0 k fa fdata fd.ps (spD X.K (cf i))
  blts : ∀ x ∈ G.blts, X.mg x = none
  consts : ∀ (x : Str) (d : D), G.consts.lookup x = some d → ∃ u v, X.mg x = some u ∧ RelV v u ∧ ∀ H m, RepV X.K H m d v

section
variable {G : GE} {cf : CF} {N : List Str} {blk : Bool} {X : Cx} {sc : Scope}
theorem CtxOk.gl (c : CtxOk G cf N blk X sc) {x : Str} (h : glB sc x = true) : Gl X x := by
  show X.env.scope.names.lookup x = some .globalImplicit
  rw [c.hsc]
  exact glB_ok h
theorem CtxOk.block (c : CtxOk G cf N blk X sc) (s : Shared) (H : Hp) (scope : Scope) (C : Addr) (cl : List (Str × Addr)) (fp : List Addr) : CtxOk G cf N true (X.blk s H scope (compEnvC scope cl C X.env) fp) (relS scope sc) := by
  refine ⟨c.hN, ?_, c.calm, rfl, c.nd, fun h => (by cases h), c.units, c.fns, c.blts, c.consts⟩
  show relabel scope X.env = relS scope sc
  rw [← c.hsc]
  rfl

/-! ### lists of expressions -/
theorem compA_ok {f : Expr → Option DE} (hf : ∀ e d, f e = some d → PE X e (tD X.K d)) : ∀ (es : List Expr) (ds : DA), compA f es = some ds → PA X es (tDA X.K ds) ∧ noStar es = true ∧ ∀ ρ S xs S', ds ρ S = .ok xs S' → xs.length = es.length
  | [], ds, h => by
    cases h
    exact ⟨snd_aNil, rfl, fun ρ S xs S' e => by cases e; rfl⟩
  | e :: es, ds, h => by
    unfold compA at h
    split at h
    · cases h
    · rename_i hs
      split at h
      · rename_i d hd
        split at h
        · rename_i rs hr
          cases h
          obtain ⟨h1, h2, h3⟩ := compA_ok hf es rs hr
          have hs' : isStar e = false := by simpa using hs
          refine ⟨snd_aCons (hf e d hd) h1 (star_cons hs'), ?_, fun ρ S xs S' q => ?_⟩
          · unfold noStar at h2 ⊢
            rw [List.all_cons, hs', h2]
            rfl
          · obtain ⟨x, S1, _, q⟩ := R.bind_ok q
            obtain ⟨ys, S2, q2, q⟩ := R.bind_ok q
            cases q
            simp [h3 _ _ _ _ q2]
        · cases h
      · cases h
theorem compPs_ok {f : Expr → Option DE} (hf : ∀ e d, f e = some d → PE X e (tD X.K d)) : ∀ (ks : List (Option Expr)) (vs : List Expr) (r : DP), compPs f ks vs = some r → ∃ ts, DPs X ks vs ts r
  | [], [], r, h => by cases h; exact ⟨[], .nil⟩
  | some k :: ks, v :: vs, r, h => by
    unfold compPs at h
    split at h
    · rename_i dk hk
      split at h
      · rename_i dv hv
        split at h
        · rename_i q hq
          cases h
          obtain ⟨ts, hd⟩ := compPs_ok hf ks vs q hq
          exact ⟨_, .cons (hf k dk hk) (hf v dv hv) hd⟩
        · cases h
      · cases h
    · cases h
  | none :: _, _, _, h => by simp [compPs] at h
  | some _ :: _, [], _, h => by simp [compPs] at h
  | [], _ :: _, _, h => by simp [compPs] at h
theorem compAnd_ok {f : Expr → Option DT} (hf : ∀ e d, f e = some d → PT X e (tDT X.K d)) {pos : Pos} : ∀ (es : List Expr) (d : DT), compAnd f es = some d → PW X (.BoolOp .And es pos) (tDT X.K d)
  | [], d, h => by cases h
  | [e], d, h => pw_and1 (hf e d h)
  | e :: e2 :: es, d, h => by
    unfold compAnd at h
    split at h
    · rename_i d1 h1
      split at h
      · rename_i d2 h2
        cases h
        exact snd_and (hf e d1 h1) (compAnd_ok hf (e2 :: es) d2 h2)
      · cases h
    · cases h
theorem compOr_ok {f : Expr → Option DT} (hf : ∀ e d, f e = some d → PT X e (tDT X.K d)) {pos : Pos} : ∀ (es : List Expr) (d : DT), compOr f es = some d → PW X (.BoolOp .Or es pos) (tDT X.K d)
  | [], d, h => by cases h
  | [e], d, h => pw_or1 (hf e d h)
  | e :: e2 :: es, d, h => by
    unfold compOr at h
    split at h
    · rename_i d1 h1
      split at h
      · rename_i d2 h2
        cases h
        exact snd_or (hf e d1 h1) (compOr_ok hf (e2 :: es) d2 h2)
      · cases h
    · cases h
theorem compAndE_ok {f : Expr → Option DE} (hf : ∀ e d, f e = some d → PE X e (tD X.K d)) {pos : Pos} : ∀ (es : List Expr) (d : DE), compAndE f es = some d → PE X (.BoolOp .And es pos) (tD X.K d)
  | [], d, h => by cases h
  | [e], d, h => pe_one (hf e d h)
  | e :: e2 :: es, d, h => by
    unfold compAndE at h
    split at h
    · rename_i d1 h1
      split at h
      · rename_i d2 h2
        cases h
        exact snd_andE (hf e d1 h1) (compAndE_ok hf (e2 :: es) d2 h2)
      · cases h
    · cases h
theorem compOrE_ok {f : Expr → Option DE} (hf : ∀ e d, f e = some d → PE X e (tD X.K d)) {pos : Pos} : ∀ (es : List Expr) (d : DE), compOrE f es = some d → PE X (.BoolOp .Or es pos) (tD X.K d)
  | [], d, h => by cases h
  | [e], d, h => pe_one (hf e d h)
  | e :: e2 :: es, d, h => by
    unfold compOrE at h
    split at h
    · rename_i d1 h1
      split at h
      · rename_i d2 h2
        cases h
        exact snd_orE (hf e d1 h1) (compOrE_ok hf (e2 :: es) d2 h2)
      · cases h
    · cases h
theorem compO_ok {f : Expr → Option DE} (hf : ∀ e d, f e = some d → PE X e (tD X.K d)) (o : Option Expr) (d : DO) (h : compO f o = some d) : PO X o (tDO X.K d) := by
  cases o with
  | none => cases h; exact snd_oNone
  | some e =>
    unfold compO at h
    cases h1 : f e with
    | none => simp [h1] at h
    | some d1 =>
      simp only [h1, Option.some.injEq] at h
      subst h
      exact snd_oSome (hf e d1 h1)

/-! ### operators -/
theorem binD_ok {op : Operator} {f : D → D → Store → R D} {a b : Expr} {da db : DE} {pos : Pos} (h : binD op = some f) (ha : PE X a (tD X.K da)) (hb : PE X b (tD X.K db)) : PE X (.BinOp a op b pos) (tD X.K (eBin f da db)) := by
  cases op <;> first
    | (cases h; done)
    | skip
  · cases h; exact snd_op op_addAll dAdd_ok ha hb
  · cases h; exact snd_op op_sub dSub_ok ha hb
  · cases h; exact snd_op op_mul dMul_ok ha hb
  · cases h; exact snd_op op_mod dMod_ok ha hb
  · cases h; exact snd_op op_pow dPow_ok ha hb
  · cases h; exact snd_op op_fdivW dFdiv_ok ha hb
theorem behind_ok {b : Expr} {op : CmpOp} (h : notSet b = true) : behindInMarks op b = false := by
  cases b <;> first | rfl | cases h
theorem cmpD_ok (c : CtxOk G cf N blk X sc) {op : CmpOp} {f : D → D → Store → R D} {a b : Expr} {da db : DE} (h : cmpD op = some f) (ha : PE X a (tD X.K da)) (hb : PE X b (tD X.K db)) : PC X op a b (tD X.K (eBin f da db)) := by
  have hu := c.units
  cases op
  · cases h; exact snd_cmp (OpR.or op_eq (op_eqD (by omega))) dEq_ok ha hb
  · cases h; exact snd_cmp (OpR.or op_ne (op_neD (by omega))) dNe_ok ha hb
  · cases h; exact snd_cmp op_lt dCmp_ok ha hb
  · cases h; exact snd_cmp op_le dCmp_ok ha hb
  · cases h; exact snd_cmp op_gt dCmp_ok ha hb
  · cases h; exact snd_cmp op_ge dCmp_ok ha hb
  · cases h; exact snd_cmp op_isN dIs_ok ha hb
  · cases h; exact snd_cmp op_notN dIsNot_ok ha hb
  · cases h; exact snd_in hu ha hb
  · cases h; exact snd_notIn hu ha hb

/-! ### calls of built-in things -/
theorem bltD_ok (c : CtxOk G cf N blk X sc) {x : Str} {p pos : Pos} {e : Expr} {es : List Expr} {g : List D → Store → R D} {ds : DA} (h : bltD x = some g) (hp : plainName x = true) (hg : glB sc x = true) (hb : x ∈ G.blts) (ha : PA X (e :: es) (tDA X.K ds))
    (hn : noStar (e :: es) = true) : PE X (.Call (.Name x p) (e :: es) [] pos) (tD X.K (eApp g ds)) := by
  have hgl := c.gl hg
  have hm := c.blts x hb
  obtain ⟨h1, h2, h3⟩ := plainName_ok hp
  have s1 := star_cons (env := X.env) (es := es) (noStar_cons hn).1
  have s2 := star_back (env := X.env) (pos := pos) (noStar_cons hn).2
  unfold bltD at h
  split at h
  · rename_i q; cases h; subst q
    exact snd_app ha bLen_ok (pe_callB call_len hgl hm (by decide +kernel) ha h3 h1 s1 s2)
  split at h
  · rename_i q; cases h; subst q
    exact snd_app ha bMax_ok (pe_callB (call_max2 c.calm) hgl hm (by decide +kernel) ha h3 h1 s1 s2)
  split at h
  · rename_i q; cases h; subst q
    exact snd_app ha bMin_ok (pe_callB (call_min2 c.calm) hgl hm (by decide +kernel) ha h3 h1 s1 s2)
  split at h
  · rename_i q; cases h; subst q
    exact snd_app ha bInt_ok (pe_callTy call_int1 hgl hm (by decide +kernel) ha h3 h1 s1 s2)
  split at h
  · rename_i q; cases h; subst q
    exact snd_app ha bTuple_ok (pe_callTy call_tupP hgl hm (by decide +kernel) ha h3 h1 s1 s2)
  split at h
  · rename_i q; cases h; subst q
    exact snd_app ha bList_ok (pe_callTy (call_listAll c.calm) hgl hm (by decide +kernel) ha h3 h1 s1 s2)
  split at h
  · rename_i q; cases h; subst q
    exact snd_app ha bDict_ok (pe_callTy (call_dictAll c.calm) hgl hm (by decide +kernel) ha h3 h1 s1 s2)
  split at h
  · rename_i q; cases h; subst q
    exact snd_app ha bAll_ok (pe_callB (cr_all c.calm) hgl hm (by decide +kernel) ha h3 h1 s1 s2)
  split at h
  · rename_i q; cases h; subst q
    exact snd_app ha bAny_ok (pe_callB (cr_any c.calm) hgl hm (by decide +kernel) ha h3 h1 s1 s2)
  · cases h
theorem tyD_ok {K : PySem.W.Frag} {H : Hp} {m : List Addr} {S : Store} {d : D} {v : V} {t : String} (s : SOk K H m S) (r : RepV K H m d v) (h : tyD d S = some t) : TyX K H v (.type t) := by
  unfold tyD at h
  split at h
  · cases h; rw [rep_non.mp r]; exact .base .non
  · cases h; rw [rep_bl.mp r]; exact .base (.bl _)
  · cases h; rw [rep_int.mp r]; exact .base (.int _)
  · cases h; rw [rep_str.mp r]; exact .base (.str _)
  · cases h
    obtain ⟨a, vs, rfl, q, _⟩ := rep_tup.mp r
    rcases q with ⟨o, q, _⟩ | ⟨o, its, n, h1, h2, _⟩
    · exact .fTuple q
    · exact .kTuple h1 h2
  · cases h
  · rename_i n
    obtain ⟨a, ha, rfl⟩ := rep_ref.mp r
    split at h
    · rename_i ds hn
      cases h
      obtain ⟨b, e1, z, vs, e3, _⟩ := s.at_ n _ hn
      rw [ha] at e1; cases e1
      exact .base (.lst e3)
    · rename_i ds hn
      cases h
      obtain ⟨b, e1, z, o, vs, e3, _⟩ := s.at_ n _ hn
      rw [ha] at e1; cases e1
      exact .base (.frz e3)
    · rename_i ks hn
      cases h
      obtain ⟨b, e1, z, vs, e3, _⟩ := s.at_ n _ hn
      rw [ha] at e1; cases e1
      exact .base (.dK e3)
    · cases h
theorem tyD_name {d : D} {S : Store} {t : String} (h : tyD d S = some t) : t ∈ ["NoneType", "bool", "int", "str", "tuple", "list", "dict"] := by
  unfold tyD at h
  split at h <;> first | (cases h; done) | (cases h; decide) | skip
  split at h <;> first | (cases h; done) | (cases h; decide) | cases h
theorem isiT_name {x : Str} {T : String} (h : isiT x = some T) : T ∈ ["tuple", "list", "dict", "int", "bool", "str"] ∧ bootBuiltins x = some (.type T) := by
  unfold isiT at h
  split at h
  · rename_i q; cases h; subst q; exact ⟨by decide, by decide +kernel⟩
  split at h
  · rename_i q; cases h; subst q; exact ⟨by decide, by decide +kernel⟩
  split at h
  · rename_i q; cases h; subst q; exact ⟨by decide, by decide +kernel⟩
  split at h
  · rename_i q; cases h; subst q; exact ⟨by decide, by decide +kernel⟩
  split at h
  · rename_i q; cases h; subst q; exact ⟨by decide, by decide +kernel⟩
  split at h
  · rename_i q; cases h; subst q; exact ⟨by decide, by decide +kernel⟩
  · cases h
theorem kit_all : ∀ t ∈ ["NoneType", "bool", "int", "str", "tuple", "list", "dict"], ∀ T ∈ ["tuple", "list", "dict", "int", "bool", "str"], kitB t T = some (isiB t T) := by decide +kernel
theorem isi_ok (c : CtxOk G cf N blk X sc) {e : Expr} {T : Str} {t : String} {pT pn pos : Pos} {de : DE} (he : PE X e (tD X.K de)) (hs : isStar e = false) (hg : glB sc "isinstance" = true) (hb : ("isinstance" : Str) ∈ G.blts) (hgT : glB sc T = true) (hbT : T ∈ G.blts)
    (hT : isiT T = some t) (hpT : plainName T = true) : PE X (.Call (.Name "isinstance" pn) [e, .Name T pT] [] pos) (tD X.K (eIsi t de)) := by
  obtain ⟨hT1, hT2⟩ := isiT_name hT
  obtain ⟨p1, p2, p3⟩ := plainName_ok hpT
  have hty : PE X (.Name T pT) (tC (.ty t)) := pe_bltn (c.gl hgT) (c.blts T hbT) hT2 (show RelV (.ty t) (.type t) from rfl) p3 p1
  have hs2 : starEach [e, .Name T pT] X.env = (false, eval e X.env) :: starEach [.Name T pT] X.env := star_cons hs
  have ha : PA X [e, .Name T pT] (tCons (tD X.K de) (tCons (tC (.ty t)) tNil)) := pa_cons he (pa_cons hty pa_nil) hs2
  refine PE.imp (pe_callB call_isi (c.gl hg) (c.blts _ hb) (by decide +kernel) ha (by decide) (by decide) hs2 (by rfl)) fun σ H Q h => ?_
  obtain ⟨m, S, ρ, d, S', s, r, e, k⟩ := h
  obtain ⟨x, S1, e1, e2⟩ := R.bind_ok e
  refine tD_mk s r e1 fun v H1 m1 x1 s1 r1 rv => ?_
  split at e2
  · rename_i t' ht
    cases e2
    exact ⟨v, .ty t, .type t', .type t, isiB t' t, rfl, .ty t, tyD_ok s1 rv ht, kit_ty (kit_all t' (tyD_name ht) t hT1), k _ H1 m1 x1 s1 (rep_bl.mpr rfl)⟩
  · cases e2
end

/-! ### targets -/
section
variable {G : GE} {cf : CF} {N : List Str} {blk : Bool} {X : Cx} {sc : Scope}
theorem nmIx_ok (c : CtxOk G cf N blk X sc) {e : Expr} {i : Nat} (h : nmIx N sc blk e = some i) : PG X e (gName i) ∧ isStar e = false := by
  cases e with
  | Name x pos =>
    have nd : X.N.Nodup := by rw [c.hN]; exact c.nd
    refine ⟨?_, rfl⟩
    rw [nmIx.eq_1] at h
    split at h
    · rename_i q
      refine pg_name nd (by rw [c.hN]; exact ixOf_0 h) (.inl (by rw [c.hsc]; exact q)) (.inr (by rw [c.hsc]; exact q))
    · rename_i q
      split at h
      · cases h
      · rename_i hb
        refine pg_name nd (by rw [c.hN]; exact ixOf_0 h) (.inr (by rw [c.hsc]; exact q)) (.inl (c.hf (by simpa using hb) x))
    · cases h
  | _ => cases h
theorem assignEach_cons {e : Expr} {es : List Expr} {env : PySem.Env} (h : isStar e = false) : assignEach (e :: es) env = (false, assign e env) :: assignEach es env := by
  cases e <;> first | rfl | cases h
theorem nmIxs_ok (c : CtxOk G cf N blk X sc) : ∀ {es : List Expr} {is : List Nat}, nmIxs N sc blk es = some is → PGs X es (gNames is) ∧ (assignEach es X.env).length = is.length ∧ (assignEach es X.env).findIdx? (·.1) = none
  | [], is, h => by cases h; exact ⟨pgs_nil, rfl, rfl⟩
  | e :: es, is, h => by
    unfold nmIxs at h
    split at h
    · rename_i i hi
      split at h
      · rename_i js hj
        cases h
        obtain ⟨h1, h2⟩ := nmIx_ok c hi
        obtain ⟨h3, h4, h5⟩ := nmIxs_ok c hj
        have ea := assignEach_cons (env := X.env) (es := es) h2
        refine ⟨pgs_cons h1 h3 (by rw [ea]; rfl), by rw [ea]; simp [h4], ?_⟩
        rw [ea, List.findIdx?_cons]
        simp [h5]
      · cases h
    · cases h
theorem compPt_ok (c : CtxOk G cf N blk X sc) {e : Expr} {p : Pt} (h : compPt N sc blk e = some p) : PG X e (gPt X.K p) := by
  unfold compPt at h
  split at h
  · obtain ⟨i, h1, rfl⟩ := Option.map_eq_some_iff.mp h
    exact (nmIx_ok c h1).1
  · obtain ⟨is, h1, rfl⟩ := Option.map_eq_some_iff.mp h
    obtain ⟨h3, h4, h5⟩ := nmIxs_ok c h1
    exact pg_tup c.calm h3 h4 h5
  · cases h
end
end Mp

set_option Elab.async false
set_option linter.all false
set_option maxRecDepth 100000
set_option maxHeartbeats 8000000
/-! Mp11: expressions, tests and what is gone through: the compiled evaluation is sound. -/
namespace Mp
open PySem L2
open PyProof.Rows hiding St

theorem folded_ok {e : Expr} (h : notSet e = true) (env : PySem.Env) (x : Value) : foldedSetIterable e env x = pure x := by
  cases e <;> first | rfl | cases h
theorem snd_user {G : GE} {cf : CF} {N : List Str} {blk : Bool} {X : Cx} {sc : Scope} (c : CtxOk G cf N blk X sc) {x : Str} {i : Nat} {as : List Expr} {ds : DA} {p pos : Pos} (hp : plainName x = true) (hg : glB sc x = true) (hi : fnIx x G.fns 0 = some i)
    (ha : PA X as (tDA X.K ds)) (hn : noStar as = true) (hz : as = [] → ds = aNil) : PE X (.Call (.Name x p) as [] pos) (tD X.K (eApp (cf i) ds)) := by
  obtain ⟨fd, h1, rfl⟩ := fnIx_0 hi
  obtain ⟨k, fa, fdata, hr, hm, hk, hb, F⟩ := c.fns i fd h1
  obtain ⟨p1, _, _⟩ := plainName_ok hp
  cases as with
  | nil =>
    cases hz rfl
    refine PE.imp (pe_call0 (E := E0) F hr (c.gl hg) hm hk hb .nil pass0 p1) fun σ H Q h => ?_
    obtain ⟨m, S, ρ, d, S', s, r, e, k⟩ := h
    exact ⟨m, S, [], d, S', s, RepL.nil, e, fun v H' m' x s' rv => k v H' m' x s' rv⟩
  | cons e es =>
    exact PE.imp (pe_call (E := E0) F hr (c.gl hg) hm hk hb .nil pass0 ha p1 (star_cons (noStar_cons hn).1) (star_back (noStar_cons hn).2)) fun σ H Q h => tCall_of h
theorem notF {b : Bool} (h : ¬b = false) : b = true := eq_true_of_ne_false h
theorem contT {x : Str} {l : List Str} (h : ¬l.contains x = false) : x ∈ l := by simpa using h
theorem noStar_one {e : Expr} (h : isStar e = false) : noStar [e] = true := by
  unfold noStar
  rw [List.all_cons, h]
  rfl
theorem slots_in {l l2 : List Nat} (h : (l.all fun i => l2.contains i) = true) : ∀ i ∈ l, i ∈ l2 := by
  intro i hi
  have := List.all_eq_true.mp h i hi
  simpa using this
theorem isiT_plain {x : Str} {T : String} (h : isiT x = some T) : plainName x = true := by
  unfold isiT at h
  split at h
  · rename_i q; subst q; decide
  split at h
  · rename_i q; subst q; decide
  split at h
  · rename_i q; subst q; decide
  split at h
  · rename_i q; subst q; decide
  split at h
  · rename_i q; subst q; decide
  split at h
  · rename_i q; subst q; decide
  · cases h
theorem pt_plain {X : Cx} {e : Expr} {d : DE} (h : plainTest e = true) (he : PE X e (tD X.K d)) : PT X e (tDT X.K (tOfE d)) := by
  refine snd_boolT he ?_
  cases e <;> first | (intro whole; rfl) | cases h
theorem snd_comp {G : GE} {cf : CF} {N : List Str} {blk : Bool} {X : Cx} {sc : Scope} (c : CtxOk G cf N blk X sc) {scope : Scope} {own : List (Str × Nat)} {tg iter elt : Expr} {ifs : List Expr} {pos : Pos} {di : DI} {pt : Pt} {tt : DT} {de : DE}
    (hbk : blkC N sc scope own = true) (hsl : (pt.slots.all fun i => (own.map (·.2)).contains i) = true) (hns : notSet iter = true) (hi : PI X tg iter (tDI X.K di)) (hpt : compPt N (relS scope sc) true tg = some pt)
    (ht : ∀ (s : Shared) (H : Hp) (C : Addr) (cl : List (Str × Addr)) (fp : List Addr), PTs (X.blk s H scope (compEnvC scope cl C X.env) fp) ifs (tDT X.K tt))
    (he : ∀ X' : Cx, CtxOk G cf N true X' (relS scope sc) → PE X' elt (tD X'.K de)) : PE X (.ListComp elt [⟨tg, iter, ifs, 0⟩] scope pos) (tD X.K (eComp di pt (own.map (·.2)) tt de)) := by
  have hN : X.N.Nodup := by rw [c.hN]; exact c.nd
  have ok : BlkOk X.N X.env.scope scope own := by rw [c.hN, c.hsc]; exact blkOk_by hbk
  exact PE.imp (pe_lc c.calm hN hi ok (fun s H C cl fp => compPt_ok (c.block s H _ C cl fp) hpt) ht (fun s H C cl fp => he _ (c.block s H _ C cl fp)) (folded_ok hns X.env)) fun σ H Q q => tLc_of (slots_in hsl) q
theorem snd_dict0 {X : Cx} {pos : Pos} : PE X (.Dict [] [] pos) (tD X.K (eDict pNil)) := by
  refine PE.imp pe_dnewK fun σ H Q q => ?_
  obtain ⟨m, S, ρ, d, S', s, re, e, k⟩ := q
  cases e
  intro p hp
  obtain ⟨y1, y2, y3⟩ := s.newK (ks := []) (us := []) hp (Nat.zero_le _) rfl
  exact k _ _ _ y1 y2 y3
theorem snd_dictA {X : Cx} {pos : Pos} {f : Expr → Option DE} {ks : List (Option Expr)} {vs : List Expr} {ts : List (TE × TE)} {r : DP} (h : DPs X ks vs ts r) (h1 : compPs f ks vs = some r) (hall : ks.all (·.isSome) = true) (hl : ks.length = vs.length) (h15 : ks.length ≤ 15) :
    PE X (.Dict ks vs pos) (tD X.K (eDict r)) := by
  cases ks with
  | nil =>
    cases vs with
    | nil => cases h1; exact snd_dict0
    | cons v vs => cases hl
  | cons k ks => exact snd_dict h hall hl (by simp) h15
theorem comp_ok (G : GE) (cf : CF) (N : List Str) : ∀ n : Nat,
    (∀ blk X sc, CtxOk G cf N blk X sc → ∀ e d, compE G cf N n sc e = some d → PE X e (tD X.K d)) ∧
    (∀ blk X sc, CtxOk G cf N blk X sc → ∀ e d, compT G cf N n sc e = some d → PT X e (tDT X.K d)) ∧
    (∀ blk X sc, CtxOk G cf N blk X sc → ∀ tg e d, compIt G cf N n sc tg e = some d → PI X tg e (tDI X.K d)) := by
  intro n
  induction n with
  | zero => exact ⟨fun _ _ _ _ _ _ h => (by cases h), fun _ _ _ _ _ _ h => (by cases h), fun _ _ _ _ _ _ _ h => (by cases h)⟩
  | succ n ih =>
    obtain ⟨ihE, ihT, ihI⟩ := ih
    refine ⟨fun blk X sc c e d h => ?_, fun blk X sc c e d h => ?_, fun blk X sc c tg e d h => ?_⟩
    · have fE := ihE blk X sc c
      have fT := ihT blk X sc c
      rw [compE.eq_def] at h
      dsimp only at h
      split at h
      · -- name
        split at h
        · cases h
        rename_i hp
        obtain ⟨p1, p2, p3⟩ := plainName_ok (notF hp)
        split at h
        · rename_i hv
          obtain ⟨i, h1, rfl⟩ := Option.map_eq_some_iff.mp h
          exact snd_slot (by rw [c.hN]; exact ixOf_0 h1) (by rw [c.hsc]; exact visB_ok hv) p1 p2
        split at h
        · rename_i hg
          obtain ⟨d1, h1, rfl⟩ := Option.map_eq_some_iff.mp h
          obtain ⟨u, v, q1, q2, q3⟩ := c.consts _ _ h1
          exact snd_const (pe_glob (c.gl hg) q1 q2 p1) q3
        · cases h
      · -- constant
        split at h
        · cases h; exact snd_const pe_int fun H m => rep_int.mpr rfl
        · cases h; exact snd_const pe_str fun H m => rep_str.mpr rfl
        · cases h; exact snd_const pe_bl fun H m => rep_bl.mpr rfl
        · cases h; exact snd_const pe_non fun H m => rep_non.mpr rfl
        · cases h
      · -- operator
        split at h
        · rename_i f hf
          split at h
          · rename_i da ha
            split at h
            · rename_i db hb
              cases h
              exact binD_ok hf (fE _ _ ha) (fE _ _ hb)
            · cases h
          · cases h
        · cases h
      · -- one operand
        split at h
        · obtain ⟨da, h1, rfl⟩ := Option.map_eq_some_iff.mp h
          exact snd_un un_neg dNeg_ok (fE _ _ h1)
        · obtain ⟨da, h1, rfl⟩ := Option.map_eq_some_iff.mp h
          exact snd_notE (fE _ _ h1)
        · cases h
      · -- and, or
        split at h
        · exact compAndE_ok fE _ _ h
        · exact compOrE_ok fE _ _ h
      · -- comparison
        split at h
        · cases h
        rename_i hb
        have hb' := notF hb
        split at h
        · rename_i f hf
          split at h
          · rename_i da ha
            split at h
            · rename_i db hdb
              cases h
              exact snd_cmpE (cmpD_ok c hf (fE _ _ ha) (fE _ _ hdb)) (behind_ok hb')
            · cases h
          · cases h
        · cases h
      · -- one or the other
        split at h
        · rename_i dc hc
          split at h
          · rename_i da ha
            split at h
            · rename_i db hb
              cases h
              exact snd_ifE (fT _ _ hc) (fE _ _ ha) (fE _ _ hb)
            · cases h
          · cases h
        · cases h
      · -- item, slice
        split at h
        · split at h
          · cases h
          rename_i hst
          split at h
          · rename_i da ha
            split at h
            · rename_i dl hl
              split at h
              · rename_i dh hh
                cases h
                have e0 := Option.not_isSome_iff_eq_none.mp hst
                subst e0
                exact snd_cut (fE _ _ ha) (compO_ok fE _ _ hl) (compO_ok fE _ _ hh)
              · cases h
            · cases h
          · cases h
        · rename_i hns
          split at h
          · rename_i da ha
            split at h
            · rename_i di hi
              cases h
              have hu := c.units
              refine snd_idx (by omega) (fE _ _ ha) (fE _ _ hi) (plainIx ?_)
              unfold notSlice
              split
              · exact absurd rfl (hns _ _ _ _)
              · rfl
            · cases h
          · cases h
      · -- tuple
        split at h
        · rename_i hl
          obtain ⟨ds, h1, rfl⟩ := Option.map_eq_some_iff.mp h
          obtain ⟨q1, q2, q3⟩ := compA_ok fE _ _ h1
          exact snd_tup q1 fun ρ S xs S' e => by rw [q3 _ _ _ _ e]; exact hl
        · cases h
      · split at h
        · rename_i hl
          obtain ⟨ds, h1, rfl⟩ := Option.map_eq_some_iff.mp h
          obtain ⟨q1, q2, q3⟩ := compA_ok fE _ _ h1
          exact snd_lst q1 fun ρ S xs S' e => by rw [q3 _ _ _ _ e]; exact hl
        · cases h
      · -- dict
        split at h
        · rename_i hl
          obtain ⟨r, h1, rfl⟩ := Option.map_eq_some_iff.mp h
          obtain ⟨ts, hd⟩ := compPs_ok fE _ _ _ h1
          exact snd_dictA hd h1 hl.1 hl.2.1 hl.2.2
        · cases h
      · -- call
        split at h
        · split at h
          · cases h
          rename_i hpg
          have hp := notF fun q => hpg (.inl q)
          have hg := notF fun q => hpg (.inr q)
          split at h
          · rename_i i hi
            obtain ⟨ds, h1, rfl⟩ := Option.map_eq_some_iff.mp h
            obtain ⟨q1, q2, q3⟩ := compA_ok fE _ _ h1
            refine snd_user c hp hg hi q1 q2 fun q => ?_
            subst q
            cases h1
            rfl
          split at h
          · cases h
          rename_i hbl
          have hbl' := contT hbl
          split at h
          · rename_i hx
            subst hx
            split at h
            · split at h
              · cases h
              rename_i hh
              have h1 := eq_false_of_ne_true fun q => hh (.inl q)
              have h2 := notF fun q => hh (.inr (.inl q))
              have h3 := contT fun q => hh (.inr (.inr q))
              split at h
              · rename_i t ht
                obtain ⟨de, h4, rfl⟩ := Option.map_eq_some_iff.mp h
                exact isi_ok c (fE _ _ h4) h1 hg hbl' h2 h3 ht (isiT_plain ht)
              · cases h
            · cases h
          split at h
          · cases h
          split at h
          · rename_i g hgb
            obtain ⟨ds, h1, rfl⟩ := Option.map_eq_some_iff.mp h
            obtain ⟨q1, q2, q3⟩ := compA_ok fE _ _ h1
            exact bltD_ok c hgb hp hg hbl' q1 q2
          · cases h
        · -- method
          split at h
          · cases h
          rename_i hsl
          have hsup := notF fun q => hsl (.inl q)
          have hline := notF fun q => hsl (.inr q)
          split at h
          · cases h
          rename_i d0 hd0
          split at h
          · split at h
            · cases h
            rename_i hst
            have hst' := eq_false_of_ne_true hst
            split at h
            · cases h
            rename_i de hde
            have hn1 := noStar_one hst'
            have ha1 := snd_aCons (es := []) (fE _ _ hde) snd_aNil (star_cons hst')
            split at h
            · rename_i q; subst q; cases h
              exact snd_bm F.plainAttrs_list F.slot_list_append F.type_list_append mt_append mAppend_ok isL_ty (fE _ _ hd0) ha1 hsup hn1 (by simp) hline
            split at h
            · rename_i q; subst q; cases h
              exact snd_bm F.plainAttrs_list F.slot_list_extend F.type_list_extend mt_extend mExtend_ok isL_ty (fE _ _ hd0) ha1 hsup hn1 (by simp) hline
            split at h
            · rename_i q; subst q; cases h
              exact snd_bm F.plainAttrs_list F.slot_list_pop F.type_list_pop mt_popAt mPop_ok isL_ty (fE _ _ hd0) ha1 hsup hn1 (by simp) hline
            split at h
            · rename_i q; subst q; cases h
              exact snd_bm F.plainAttrs_dict F.slot_dict_update F.type_dict_update mt_update mUpdate_ok isK_ty (fE _ _ hd0) ha1 hsup hn1 (by simp) hline
            split at h
            · rename_i q; subst q; cases h
              exact snd_join (fE _ _ hd0) (fE _ _ hde) hsup hst' hline
            · cases h
          · cases h
        · cases h
      · -- comprehension
        split at h
        · cases h
        rename_i hbn
        have hbk := notF fun q => hbn (.inl q)
        have hns := notF fun q => hbn (.inr q)
        split at h
        · cases h
        rename_i di hdi
        split at h
        · cases h
        rename_i pt hpt
        split at h
        · cases h
        rename_i hsl
        split at h
        · cases h
        rename_i de hde
        split at h
        · cases h
          exact snd_comp c hbk (notF hsl) hns (ihI _ _ _ c _ _ _ hdi) hpt (fun _ _ _ _ _ => snd_tYes) fun X' c' => ihE _ _ _ c' _ _ hde
        · obtain ⟨dt, h1, rfl⟩ := Option.map_eq_some_iff.mp h
          exact snd_comp c hbk (notF hsl) hns (ihI _ _ _ c _ _ _ hdi) hpt (fun s H C cl fp => snd_tOne (ihT _ _ _ (c.block s H _ C cl fp) _ _ h1)) fun X' c' => ihE _ _ _ c' _ _ hde
        · cases h
      · cases h
    · have fE := ihE blk X sc c
      have fT := ihT blk X sc c
      rw [compT.eq_def] at h
      dsimp only at h
      split at h
      · split at h
        · obtain ⟨da, h1, rfl⟩ := Option.map_eq_some_iff.mp h
          exact snd_notT (fT _ _ h1)
        · cases h
      · split at h
        · exact (compAnd_ok fT _ _ h).pt
        · exact (compOr_ok fT _ _ h).pt
      · split at h
        · cases h
        rename_i hb
        have hb' := notF hb
        split at h
        · rename_i f hf
          split at h
          · rename_i da ha
            split at h
            · rename_i db hdb
              cases h
              exact snd_cmpT (cmpD_ok c hf (fE _ _ ha) (fE _ _ hdb)) (behind_ok hb')
            · cases h
          · cases h
        · cases h
      · split at h
        · rename_i hp
          obtain ⟨da, h1, rfl⟩ := Option.map_eq_some_iff.mp h
          exact pt_plain hp (fE _ _ h1)
        · cases h
    · have fE := ihE blk X sc c
      rw [compIt.eq_def] at h
      dsimp only at h
      split at h
      · split at h
        · rename_i q
          subst q
          split at h
          · cases h
          rename_i hh
          obtain ⟨da, h1, rfl⟩ := Option.map_eq_some_iff.mp h
          have hs := eq_false_of_ne_true fun q => hh (.inr (.inr q))
          exact snd_iRg1 (c.gl (notF fun q => hh (.inl q))) (c.blts _ (contT fun q => hh (.inr (.inl q)))) (snd_aCons (fE _ _ h1) snd_aNil (star_cons hs)) hs
        · obtain ⟨da, h1, rfl⟩ := Option.map_eq_some_iff.mp h
          exact snd_iSeq (fE _ _ h1)
      · split at h
        · rename_i q
          subst q
          split at h
          · cases h
          rename_i hh
          have hs := eq_false_of_ne_true fun q => hh (.inr (.inr (.inl q)))
          have hs2 := eq_false_of_ne_true fun q => hh (.inr (.inr (.inr q)))
          split at h
          · rename_i da ha
            split at h
            · rename_i db hb
              cases h
              exact snd_iRg2 (c.gl (notF fun q => hh (.inl q))) (c.blts _ (contT fun q => hh (.inr (.inl q)))) (snd_aCons (fE _ _ ha) (snd_aCons (fE _ _ hb) snd_aNil (star_cons hs2)) (star_cons hs)) hs hs2
            · cases h
          · cases h
        split at h
        · rename_i q
          subst q
          split at h
          · cases h
          rename_i hh
          have hs := notF fun q => hh (.inr (.inr (.inl q)))
          have ht := notF fun q => hh (.inr (.inr (.inr q)))
          split at h
          · rename_i da ha
            split at h
            · rename_i db hb
              cases h
              cases tg <;> first | (cases ht; done) | skip
              exact snd_iZp (c.gl (notF fun q => hh (.inl q))) (c.blts _ (contT fun q => hh (.inr (.inl q)))) (snd_aCons (fE _ _ ha) (snd_aCons (fE _ _ hb) snd_aNil (star_cons (noStar_cons (noStar_cons hs).2).1)) (star_cons (noStar_cons hs).1)) hs
            · cases h
          · cases h
        · obtain ⟨da, h1, rfl⟩ := Option.map_eq_some_iff.mp h
          exact snd_iSeq (fE _ _ h1)
      · obtain ⟨da, h1, rfl⟩ := Option.map_eq_some_iff.mp h
        exact snd_iSeq (fE _ _ h1)
end Mp

set_option Elab.async false
set_option linter.all false
set_option maxRecDepth 100000
set_option maxHeartbeats 8000000
/-! Mp12: statements compiled, and that they are sound. -/
namespace Mp
open PySem L2
open PyProof.Rows hiding St

def isCompE : Expr → Bool
  | .ListComp _ _ _ _ => true
  | .SetComp _ _ _ _ => true
  | .DictComp _ _ _ _ _ => true
  | _ => false
def kFun (sc : Scope) : Bool := match sc.kind with
  | .function => true
  | _ => false
def lkLoc (sc : Scope) (x : Str) : Bool := match sc.names.lookup x with
  | some .local => true
  | _ => false
/-- may this be assigned to a name, and how: 0 no, 1 as any value, 2 as a comprehension that stores itself -/
def asgKind (sc : Scope) (x : Str) (py : Pos) (e : Expr) : Nat := match e with
  | .ListComp _ gs scope pos => match gs with
    | [⟨_, _, _, 0⟩] => if lkLoc sc x = false then 1 else
      if (py.line == pos.line) = true ∧ kFun sc = true ∧ (scope.names.any fun (n, k) => n == x && (k == .local || k == .cell)) = false then 2 else 0
    | _ => 0
  | .SetComp _ _ _ _ => 0
  | .DictComp _ _ _ _ _ => 0
  | _ => 1
mutual
def compS (G : GE) (cf : CF) (N : List Str) : Nat → Scope → Stmt → Option DS
  | 0, _, _ => none
  | n + 1, sc, st => match st with
    | .Return (some e) _ => (compE G cf N n sc e).map sRet
    | .Return none _ => some (sRet (eConst .non))
    | .Pass _ => some sSkip
    | .Break _ => some sBreak
    | .Continue _ => some sCont
    | .Expr e _ => if isCompE e = true then none else (compE G cf N n sc e).map sExpr
    | .If c a b _ => match compT G cf N n sc c with
      | some dc => match compSs G cf N n sc a with
        | some da => match compSs G cf N n sc b with
          | some db => some (sIf dc da db)
          | none => none
        | none => none
      | none => none
    | .For tg iter body [] _ => if notSet iter = false then none else match compIt G cf N n sc tg iter with
      | some di => match compPt N sc false tg with
        | some pt => match compSs G cf N n sc body with
          | some db => some (sFor di pt db)
          | none => none
        | none => none
      | none => none
    | .While c body [] _ => match compT G cf N n sc c with
      | some dc => match compSs G cf N n sc body with
        | some db => some (sWhile G.wf dc db)
        | none => none
      | none => none
    | .Assign [tg] e _ => match tg with
      | .Name x py => if asgKind sc x py e = 0 then none else match nmIx N sc false (.Name x py) with
        | some i => (compE G cf N n sc e).map (sSet (.nm i))
        | none => none
      | .Tuple ts k tp => if isTupE e = true ∨ isCompE e = true then none else match compPt N sc false (.Tuple ts k tp) with
        | some pt => (compE G cf N n sc e).map (sSet pt)
        | none => none
      | .Subscript o i _ => if notSlice i = false then none else match compE G cf N n sc o with
        | some d_o => match compE G cf N n sc i with
          | some di => match compE G cf N n sc e with
            | some de => some (sPut d_o di de)
            | none => none
          | none => none
        | none => none
      | _ => none
    | _ => none
def compSs (G : GE) (cf : CF) (N : List Str) : Nat → Scope → List Stmt → Option DS
  | 0, _, _ => none
  | n + 1, sc, sts => match sts with
    | [] => some sSkip
    | st :: rest => match compS G cf N n sc st with
      | some a => match compSs G cf N n sc rest with
        | some b => some (sSeq a b)
        | none => none
      | none => none
end
theorem swap_plain {e : Expr} (h : isCompE e = false) (t : Option Expr) (l : Nat) (env : PySem.Env) : swapsWith e t l env = pure false := by
  cases e <;> first | rfl | cases h
theorem swap_sub {e : Expr} {o i : Expr} {p : Pos} (l : Nat) (env : PySem.Env) : swapsWith e (some (.Subscript o i p)) l env = pure false := by
  cases e <;> rfl
theorem swap_tup {e : Expr} {ts : List Expr} {k : Nat} {p : Pos} (l : Nat) (env : PySem.Env) : swapsWith e (some (.Tuple ts k p)) l env = pure false := by
  cases e <;> rfl
theorem sole_tup {e : Expr} {ts : List Expr} {k : Nat} {p : Pos} (l : Nat) (env : PySem.Env) : swapsWithSole [.Tuple ts k p] e l env = pure false := by
  cases e <;> rfl
theorem stores_sub {e o i : Expr} {p : Pos} (env : PySem.Env) : swappedStores [.Subscript o i p] e env = pure none := by
  cases e <;> rfl
theorem stores_tup {e : Expr} {ts : List Expr} {k : Nat} {p : Pos} (h : isTupE e = false) (env : PySem.Env) : swappedStores [.Tuple ts k p] e env = pure none := by
  cases e <;> first | rfl | cases h
theorem swap_cell {elt : Expr} {gs : List Comprehension} {scope : Scope} {pos py : Pos} {y : Str} {l : Nat} {env : PySem.Env} (h : lkLoc env.scope y = false) : swapsWith (.ListComp elt gs scope pos) (some (.Name y py)) l env = pure false := by
  have h2 : (env.kindOf y == some NameKind.local) = false := by
    show (env.scope.names.lookup y == some NameKind.local) = false
    unfold lkLoc at h
    split at h
    · cases h
    · rename_i q
      cases z : env.scope.names.lookup y with
      | none => rfl
      | some k => cases k <;> first | rfl | exact absurd z q
  unfold swapsWith
  simp only [h2, Bool.and_false, Bool.false_and]
theorem nmIx_loc {N : List Str} {sc : Scope} {x : Str} {py : Pos} {i : Nat} (h : nmIx N sc false (.Name x py) = some i) : Loc sc x ∧ N[i]? = some x := by
  rw [nmIx.eq_1] at h
  split at h
  · exact ⟨.inl ‹_›, ixOf_0 h⟩
  · exact ⟨.inr ‹_›, ixOf_0 (by simpa using h)⟩
  · cases h
theorem comp_lc {G : GE} {cf : CF} {N : List Str} {blk : Bool} {X : Cx} {sc : Scope} (c : CtxOk G cf N blk X sc) {n : Nat} {scope : Scope} {tg iter elt : Expr} {ifs : List Expr} {pos : Pos} {d : DE}
    (h : compE G cf N n sc (.ListComp elt [⟨tg, iter, ifs, 0⟩] scope pos) = some d) : ∃ (own : List (Str × Nat)) (di : DI) (pt : Pt) (tt : DT) (de : DE), BlkOk X.N X.env.scope scope own ∧ PI X tg iter (tDI X.K di) ∧
    (∀ (s : Shared) (H : Hp) (C : Addr) (cl : List (Str × Addr)) (fp : List Addr), PG (X.blk s H scope (compEnvC scope cl C X.env) fp) tg (gPt X.K pt)) ∧
    (∀ (s : Shared) (H : Hp) (C : Addr) (cl : List (Str × Addr)) (fp : List Addr), PTs (X.blk s H scope (compEnvC scope cl C X.env) fp) ifs (tDT X.K tt)) ∧
    (∀ (s : Shared) (H : Hp) (C : Addr) (cl : List (Str × Addr)) (fp : List Addr), PE (X.blk s H scope (compEnvC scope cl C X.env) fp) elt (tD X.K de)) ∧ notSet iter = true ∧
    ∀ σ H Q, tD X.K d σ H Q → tLc (tDI X.K di) (gPt X.K pt) (tDT X.K tt) (tD X.K de) (own.map (·.2)) σ H Q := by
  cases n with
  | zero => cases h
  | succ n =>
    obtain ⟨ihE, ihT, ihI⟩ := comp_ok G cf N n
    rw [compE] at h
    split at h
    · cases h
    rename_i hbn
    have hbk := notF fun q => hbn (.inl q)
    have hns := notF fun q => hbn (.inr q)
    split at h
    · cases h
    rename_i di hdi
    split at h
    · cases h
    rename_i pt hpt
    split at h
    · cases h
    rename_i hsl
    split at h
    · cases h
    rename_i de hde
    have ok : BlkOk X.N X.env.scope scope (ownOf N scope) := by rw [c.hN, c.hsc]; exact blkOk_by hbk
    have hpg := fun s H C cl fp => compPt_ok (c.block s H scope C cl fp) hpt
    have hel := fun s H C cl fp => ihE _ _ _ (c.block s H scope C cl fp) _ _ hde
    split at h
    · cases h
      exact ⟨_, di, pt, tYesD, de, ok, ihI _ _ _ c _ _ _ hdi, hpg, fun _ _ _ _ _ => snd_tYes, hel, hns, fun σ H Q q => tLc_of (slots_in (notF hsl)) q⟩
    · obtain ⟨dt, h1, rfl⟩ := Option.map_eq_some_iff.mp h
      exact ⟨_, di, pt, dt, de, ok, ihI _ _ _ c _ _ _ hdi, hpg, fun s H C cl fp => snd_tOne (ihT _ _ _ (c.block s H scope C cl fp) _ _ h1), hel, hns, fun σ H Q q => tLc_of (slots_in (notF hsl)) q⟩
    · cases h
theorem asg_name {G : GE} {cf : CF} {N : List Str} {X : Cx} {sc : Scope} (c : CtxOk G cf N false X sc) {n : Nat} {x : Str} {py pos : Pos} {e : Expr} {i : Nat} {d : DE} (ha : ¬ asgKind sc x py e = 0) (hi : nmIx N sc false (.Name x py) = some i)
    (h : compE G cf N n sc e = some d) : PS X (.Assign [.Name x py] e pos) (tSD X.K (sSet (.nm i) d)) := by
  have he := (comp_ok G cf N n).1 _ _ _ c e d h
  obtain ⟨hl, hN⟩ := nmIx_loc hi
  have nd : X.N.Nodup := by rw [c.hN]; exact c.nd
  have hN' : X.N[i]? = some x := by rw [c.hN]; exact hN
  have hl' : Loc X.env.scope x := by rw [c.hsc]; exact hl
  have plain : swapsWith e (some (.Name x py)) pos.line X.env = pure false → PS X (.Assign [.Name x py] e pos) (tSD X.K (sSet (.nm i) d)) := fun hs =>
    PS.imp (ps_set nd hN' hl' he hs (.inl (c.hf rfl x))) fun E σ H q => tAsg_of q
  cases hc : isCompE e with
  | false => exact plain (swap_plain hc _ _ _)
  | true =>
    cases e <;> first | (cases hc; done) | (exact absurd rfl ha) | skip
    rename_i elt gs scope lp
    unfold asgKind at ha
    dsimp only at ha
    split at ha
    · rename_i tg iter ifs
      split at ha
      · rename_i hk
        exact plain (swap_cell (by rw [c.hsc]; exact hk))
      split at ha
      · rename_i hk hh
        obtain ⟨h1, h2, h3⟩ := hh
        have hloc : X.env.scope.names.lookup x = some .local := by
          rw [c.hsc]
          have hk := notF hk
          unfold lkLoc at hk
          split at hk
          · assumption
          · cases hk
        have hkind : X.env.scope.kind = .function := by
          rw [c.hsc]
          unfold kFun at h2
          split at h2
          · assumption
          · cases h2
        obtain ⟨own, di, pt, tt, de, ok, q1, q2, q3, q4, q5, q6⟩ := comp_lc c h
        exact PS.imp (ps_setLc c.calm nd hN' hloc (sw_true hkind hloc h1 h3) q1 ok q2 q3 q4 (folded_ok q5 X.env)) fun E σ H q => q6 _ _ _ (tAsg_of q)
      · exact absurd rfl ha
    · exact absurd rfl ha
theorem compS_ok (G : GE) (cf : CF) (N : List Str) : ∀ n : Nat,
    (∀ X sc, CtxOk G cf N false X sc → ∀ st d, compS G cf N n sc st = some d → PS X st (tSD X.K d)) ∧
    (∀ X sc, CtxOk G cf N false X sc → ∀ sts d, compSs G cf N n sc sts = some d → PSs X sts (tSD X.K d)) := by
  intro n
  induction n with
  | zero => exact ⟨fun _ _ _ _ _ h => (by cases h), fun _ _ _ _ _ h => (by cases h)⟩
  | succ n ih =>
    obtain ⟨ihS, ihSs⟩ := ih
    obtain ⟨okE, okT, okI⟩ := comp_ok G cf N n
    refine ⟨fun X sc c st d h => ?_, fun X sc c sts d h => ?_⟩
    · have fE := okE _ X sc c
      have fT := okT _ X sc c
      have fI := okI _ X sc c
      have fSs := ihSs X sc c
      rw [compS.eq_def] at h
      dsimp only at h
      split at h
      · obtain ⟨de, h1, rfl⟩ := Option.map_eq_some_iff.mp h
        exact snd_ret (fE _ _ h1)
      · cases h; exact snd_retN
      · cases h; exact snd_pass
      · cases h; exact snd_break
      · cases h; exact snd_cont
      · split at h
        · cases h
        rename_i hc
        obtain ⟨de, h1, rfl⟩ := Option.map_eq_some_iff.mp h
        exact snd_expr (fE _ _ h1) (swap_plain (eq_false_of_ne_true hc) _ _ _)
      · split at h
        · rename_i dc hc
          split at h
          · rename_i da ha
            split at h
            · rename_i db hb
              cases h
              exact snd_if (fT _ _ hc) (fSs _ _ ha) (fSs _ _ hb)
            · cases h
          · cases h
        · cases h
      · split at h
        · cases h
        rename_i hns
        split at h
        · rename_i di hi
          split at h
          · rename_i pt hp
            split at h
            · rename_i db hb
              cases h
              exact snd_for c.nox c.calm (fI _ _ _ hi) (compPt_ok c hp) (fSs _ _ hb) (folded_ok (notF hns) _)
            · cases h
          · cases h
        · cases h
      · split at h
        · rename_i dc hc
          split at h
          · rename_i db hb
            cases h
            exact snd_while c.nox (fT _ _ hc) (fSs _ _ hb)
          · cases h
        · cases h
      · -- assignments
        split at h
        · split at h
          · cases h
          rename_i ha
          split at h
          · rename_i i hi
            obtain ⟨de, h1, rfl⟩ := Option.map_eq_some_iff.mp h
            exact asg_name c ha hi h1
          · cases h
        · split at h
          · cases h
          rename_i hh
          split at h
          · rename_i pt hp
            obtain ⟨de, h1, rfl⟩ := Option.map_eq_some_iff.mp h
            exact PS.imp (ps_asg (fE _ _ h1) (compPt_ok c hp) (sole_tup _ _) (stores_tup (eq_false_of_ne_true fun q => hh (.inl q)) _)) fun E σ H q => tAsg_of q
          · cases h
        · split at h
          · cases h
          rename_i hns
          split at h
          · rename_i d_o ho
            split at h
            · rename_i di hi
              split at h
              · rename_i de he
                cases h
                have hu := c.units
                exact snd_put (by omega) (fE _ _ ho) (fE _ _ hi) (fE _ _ he) (swap_sub _ _) (stores_sub _) (notF hns)
              · cases h
            · cases h
          · cases h
        · cases h
      · cases h
    · rw [compSs.eq_def] at h
      dsimp only at h
      split at h
      · cases h; exact snd_skip0
      · split at h
        · rename_i a ha
          split at h
          · rename_i b hb
            cases h
            exact snd_seq (ihS X sc c _ _ ha) (ihSs X sc c _ _ hb)
          · cases h
        · cases h
end Mp

set_option Elab.async false
set_option linter.all false
set_option maxRecDepth 100000
set_option maxHeartbeats 8000000
/-! Mp13: whole functions, by the depth of calls. -/
namespace Mp
open PySem L2
open PyProof.Rows hiding St

structure FB where
  np : Nat
  nn : Nat
  B : CF → DS
def runB (b : DS) (ρ : Env) (S : Store) : R D := (b ρ S).bind fun o S1 => match o with
  | .nx _ => .ok .non S1
  | .rt d => .ok d S1
  | _ => .stuck
def evalF (Bs : List FB) : Nat → CF
  | 0, _, _, _ => .stuck
  | k + 1, i, args, S => match Bs[i]? with
    | some b => if args.length = b.np then runB (b.B (evalF Bs k)) (args.map some ++ List.replicate (b.nn - b.np) none) S else .stuck
    | none => .stuck
theorem RepE.start {K : PySem.W.Frag} {H : Hp} {m : List Addr} {ds : List D} {vs : List V} {n : Nat} (r : RepL K H m ds vs) : RepE K H m (ds.map some ++ List.replicate n none) (vs.map some ++ List.replicate n none) := by
  have hl := r.length
  refine ⟨by simp [hl], fun i d e => ?_⟩
  by_cases hi : i < ds.length
  · rw [List.getElem?_append_left (by simpa using hi)] at e
    rw [List.getElem?_append_left (by simpa [← hl] using hi)]
    rw [List.getElem?_map] at e ⊢
    cases q : ds[i]? with
    | none => rw [q] at e; cases e
    | some d' =>
      rw [q] at e
      cases e
      obtain ⟨v, h1, h2⟩ := r.get q
      exact ⟨v, by rw [h1]; rfl, h2⟩
  · rw [List.getElem?_append_right (by simpa using hi)] at e
    rw [List.getElem?_replicate] at e
    split at e <;> cases e
theorem fun_uniq {K : PySem.W.Frag} {x q : Str} {st : Stmt} {f : Addr} {d1 d2 : FuncData} (a : Fun K x q st f d1) (b : Fun K x q st f d2) : d1 = d2 := by
  obtain ⟨⟨_, _, _, _, _, _, _, _, _, _, l1, _⟩, _⟩ := a
  obtain ⟨⟨_, _, _, _, _, _, _, _, _, _, l2, _⟩, _⟩ := b
  rw [l1] at l2
  cases l2
  rfl
structure Tab (G : GE) (Bs : List FB) (K : PySem.W.Frag) (mg : Str → Option Value) : Prop where
  fns : ∀ (i : Nat) (fd : FD), G.fns[i]? = some fd → ∃ b, Bs[i]? = some b ∧ b.np = fd.ps.length ∧ b.nn = fd.N.length ∧ FnScope fd.N fd.ps (defScope fd.st) ∧
    (∀ cf, ∃ n, compSs G cf fd.N n (defScope fd.st) (defBody fd.st) = some (b.B cf)) ∧ ∃ fa fdata, Fun K fd.name fd.name fd.st fa fdata ∧ mg fd.name = some (.ref fa) ∧ Binds K fdata fd.ps []
  blts : ∀ x ∈ G.blts, mg x = none
  consts : ∀ (x : Str) (d : D), G.consts.lookup x = some d → ∃ u v, mg x = some u ∧ RelV v u ∧ ∀ H m, RepV K H m d v
theorem evalF_ok {P : Program} {w : World} {K : PySem.W.Frag} {mg : Str → Option Value} {base : Heap} {G : GE} {Bs : List FB} (T : Tab G Bs K mg) : ∀ (k i : Nat) (fd : FD), G.fns[i]? = some fd →
    ∃ fa fdata, mg fd.name = some (.ref fa) ∧ Fun K fd.name fd.name fd.st fa fdata ∧ Binds K fdata fd.ps [] ∧ FnOk P w K mg base CX0 k fa fdata fd.ps (spD K (evalF Bs k i)) := by
  intro k
  induction k with
  | zero =>
    intro i fd h
    obtain ⟨b, h1, h2, h3, sc, hc, fa, fdata, F, hm, hb⟩ := T.fns i fd h
    have no : ∀ vs H Q E, ¬ spD K (evalF Bs 0 i) vs H Q E := fun vs H Q E q => by
      obtain ⟨m, S, ds, d, S', s, r, e, _⟩ := q
      cases e
    exact ⟨fa, fdata, hm, F, hb, fun vs H Q E q => absurd q (no _ _ _ _), fun A outer s H args us vs Q E _ _ _ _ q => absurd q (no _ _ _ _)⟩
  | succ k ih =>
    intro i fd h
    obtain ⟨b, h1, h2, h3, sc, hc, fa, fdata, F, hm, hb⟩ := T.fns i fd h
    refine ⟨fa, fdata, hm, F, hb, F.ok sc (fun vs H Q E q => ?_) fun cdv A outer s H vs Q E hr q => ?_⟩
    · obtain ⟨m, S, ds, d, S', s, r, e, _⟩ := q
      unfold evalF at e
      rw [h1] at e
      dsimp only at e
      split at e
      · rename_i hl
        rw [← r.length, hl, h2]
      · cases e
    · obtain ⟨m, S, ds, d, S', s', r, e, kk⟩ := q
      unfold evalF at e
      rw [h1] at e
      dsimp only at e
      split at e
      · rename_i hl
        unfold runB at e
        obtain ⟨o, S1, e1, e2⟩ := R.bind_ok e
        obtain ⟨n, hcs⟩ := hc (evalF Bs k)
        have c : CtxOk G (evalF Bs k) fd.N false (cxOf CX0 P w K mg base fd.N fd.name (defScope fd.st) fa cdv A outer s H E).nox (defScope fd.st) := by
          refine ⟨rfl, rfl, rfl, rfl, sc.nd, fun _ _ => rfl, ?_, ?_, T.blts, T.consts⟩
          · have := hr.un
            show (A.deeper (envOfC fd.name (defScope fd.st) s.heap.objs.size fa cdv)).units + 65 < cLine
            omega
          · intro j fd2 h5
            obtain ⟨fa2, fdata2, q1, q2, q3, q4⟩ := ih j fd2 h5
            exact ⟨k, fa2, fdata2, hr, q1, q2.kp, q3, q4⟩
        refine ⟨_, (compS_ok G _ fd.N n).2 _ _ c _ _ hcs, m, S, _, o, S1, s', ?_, e1, fun H' m' x s2 => ?_⟩
        · have hl2 : vs.length = b.np := by rw [← r.length, hl]
          show RepE K H m _ (L2.start fd.N vs)
          unfold L2.start
          rw [hl2, h3]
          exact RepE.start r
        · cases o with
          | nx ρ =>
            cases e2
            exact fun σ _ => kk .non H' m' x s2 (rep_non.mpr rfl)
          | rt d2 =>
            cases e2
            exact fun v rv => kk v H' m' x s2 rv
          | bk ρ => cases e2
          | ct ρ => cases e2
      · cases e
end Mp

set_option Elab.async false
set_option linter.all false
set_option maxRecDepth 100000
set_option maxHeartbeats 8000000
/-! K1: the text of the law's program, compiled. -/
namespace K49
open PySem L2 Mp
open PyProof.Rows hiding St

def top (i : Nat) : Stmt := PySem.Challenge.pw_courtwide_k49_terms_by_lines.main.body.getD i (.Pass ⟨0, 0, 0, 0⟩)
def fds : List FD := [
  ⟨"term_of", top 1, ["answer", "line", "inner"]⟩,
  ⟨"_law_cell", top 3, ["script", "k"]⟩,
  ⟨"_law_pool", top 4, ["cell"]⟩,
  ⟨"_law_next", top 5, ["pool", "base", "digit", "near", "stir"]⟩,
  ⟨"_law_names", top 6, ["pool", "many", "letters", "base", "k", "at", "first", "tails", "found", "name"]⟩,
  ⟨"_law_book", top 7, ["pool", "many", "kinds", "name", "makes", "room", "book", "at", "some", "count", "k", "size", "more", "fields", "j"]⟩,
  ⟨"_law_comes", top 8, ["make", "ranks", "field"]⟩,
  ⟨"_law_world", top 9, ["book", "ranks", "turn", "fresh", "kind", "makes", "make", "come", "fields"]⟩,
  ⟨"_law_two_kinds", top 10, ["world", "pool", "kinds", "some", "k"]⟩,
  ⟨"_law_number", top 11, ["pool", "way"]⟩,
  ⟨"_law_choices", top 12, ["world", "kind", "deep", "ranks", "some", "make", "field"]⟩,
  ⟨"_law_stretch", top 13, ["pool", "room", "way", "low", "high"]⟩,
  ⟨"_law_either", top 14, ["world", "kind", "pool", "deep", "room", "names", "sides", "name", "found", "k", "side"]⟩,
  ⟨"_law_shape", top 15, ["world", "kind", "pool", "deep", "room", "names", "way", "name", "makes", "make", "parts", "field"]⟩,
  ⟨"_law_kept", top 16, ["world", "kind", "shape", "found", "field", "inner"]⟩,
  ⟨"_law_guard", top 17, ["pool", "kept", "room", "some", "name", "kind", "guard", "k", "one", "other"]⟩,
  ⟨"_law_answer", top 18, ["world", "kind", "pool", "deep", "kept", "some", "name", "one", "makes", "make", "parts", "field"]⟩,
  ⟨"_law_row", top 19, ["world", "kinds", "cell", "room", "pool", "names", "name", "shape", "kept", "guard"]⟩,
  ⟨"_law_lines", top 20, ["world", "kind", "shape", "spot", "tests", "found", "kept", "side", "names", "make", "fields", "at", "step", "parts", "more", "part"]⟩,
  ⟨"_law_term", top 21, ["answer", "line", "inner"]⟩,
  ⟨"_law_same", top 22, ["found", "due", "a", "b"]⟩,
  ⟨"law", top 23, ["script", "pool", "world", "kinds", "asked", "cell", "shape", "guard", "answer", "line", "turn"]⟩]
def GG : GE := ⟨fds, [], ["all", "any", "bool", "dict", "int", "isinstance", "len", "list", "max", "min", "range", "str", "tuple", "zip"], 0⟩
def B0 (cf : CF) : DS := (sSeq (sIf (tOfE (eBin dEq (eBin dIdx (eSlot 0) (eConst (.int 0))) (eConst (.str "num")))) (sSeq (sRet (eSlot 0)) sSkip) sSkip) (sSeq (sIf (tOfE (eBin dEq (eBin dIdx (eSlot 0) (eConst (.int 0))) (eConst (.str "held")))) (sSeq (sRet (eTup (aCons (eConst (.str "part")) (aCons (eBin dIdx (eApp bDict (aCons (eBin dIdx (eSlot 1) (eConst (.int 1))) aNil)) (eBin dIdx (eSlot 0) (eConst (.int 1)))) aNil)))) sSkip) sSkip) (sSeq (sRet (eTup (aCons (eConst (.str "make")) (aCons (eBin dIdx (eSlot 0) (eConst (.int 1))) (aCons (eApp bTuple (aCons (eComp (iSeq (eBin dIdx (eSlot 0) (eConst (.int 2)))) (.nm 2) [2] tYesD (eApp (cf 0) (aCons (eSlot 2) (aCons (eSlot 1) aNil)))) aNil)) aNil))))) sSkip)))
def B1 (cf : CF) : DS := (sSeq (sIf (tOfE (eBin (dCmp fun i j => decide (i < j)) (eSlot 1) (eApp bLen (aCons (eSlot 0) aNil)))) (sSeq (sRet (eBin dIdx (eSlot 0) (eSlot 1))) sSkip) sSkip) (sSeq (sRet (eConst (.int 0))) sSkip))
def B2 (cf : CF) : DS := (sSeq (sRet (eLst (aCons (eApp bMax (aCons (eConst (.int 0)) (aCons (eBin dSub (eSlot 0) (eBin dPow (eConst (.int 10)) (eConst (.int 18)))) aNil))) (aCons (eBin dMod (eSlot 0) (eBin dPow (eConst (.int 10)) (eConst (.int 18)))) (aCons (eConst (.int 0)) aNil))))) sSkip)
def B3 (cf : CF) : DS := (sSeq (sIf (tOfE (eBin (dCmp fun i j => decide (j < i)) (eBin dIdx (eSlot 0) (eConst (.int 0))) (eConst (.int 0)))) (sSeq (sSet (.nm 2) (eBin dMod (eBin dIdx (eSlot 0) (eConst (.int 0))) (eSlot 1))) (sSeq (sPut (eSlot 0) (eConst (.int 0)) (eBin dFdiv (eBin dIdx (eSlot 0) (eConst (.int 0))) (eSlot 1))) (sSeq (sRet (eSlot 2)) sSkip))) sSkip) (sSeq (sPut (eSlot 0) (eConst (.int 2)) (eBin dAdd (eBin dIdx (eSlot 0) (eConst (.int 2))) (eConst (.int 1)))) (sSeq (sSet (.nm 3) (eBin dMod (eBin dAdd (eBin dIdx (eSlot 0) (eConst (.int 1))) (eBin dMul (eConst (.int 7919)) (eBin dIdx (eSlot 0) (eConst (.int 2))))) (eConst (.int 1000000007)))) (sSeq (sSet (.nm 4) (eBin dMod (eBin dMul (eBin dAdd (eSlot 3) (eConst (.int 11))) (eBin dAdd (eSlot 3) (eConst (.int 48271)))) (eConst (.int 998244353)))) (sSeq (sRet (eBin dMod (eBin dFdiv (eBin dMod (eBin dMul (eSlot 4) (eSlot 4)) (eConst (.int 2147483647))) (eConst (.int 8))) (eSlot 1))) sSkip)))))
def B4 (cf : CF) : DS := (sSeq (sSet (.nm 2) (eConst (.str "abcdefghijklmnopqrstuvwxyz"))) (sSeq (sSet (.nm 3) (eJoin (eConst (.str "")) (eComp (iRg1 (aCons (eApp (cf 3) (aCons (eSlot 0) (aCons (eConst (.int 7)) aNil))) aNil)) (.nm 4) [4] tYesD (eBin dIdx (eSlot 2) (eApp (cf 3) (aCons (eSlot 0) (aCons (eConst (.int 26)) aNil))))))) (sSeq (sSet (.nm 5) (eApp (cf 3) (aCons (eSlot 0) (aCons (eBin dAdd (eApp bLen (aCons (eSlot 3) aNil)) (eConst (.int 1))) aNil)))) (sSeq (sSet (.nm 6) (eApp (cf 3) (aCons (eSlot 0) (aCons (eConst (.int 26)) aNil)))) (sSeq (sSet (.nm 7) (eApp (cf 3) (aCons (eSlot 0) (aCons (eConst (.int 3)) aNil)))) (sSeq (sSet (.nm 8) (eLst aNil)) (sSeq (sFor (iRg1 (aCons (eSlot 1) aNil)) (.nm 4) (sSeq (sSet (.nm 9) (eBin dAdd (eBin dAdd (eCut (eSlot 3) oNone (oSome (eSlot 5))) (eBin dIdx (eSlot 2) (eBin dMod (eBin dAdd (eSlot 6) (eBin dMul (eConst (.int 5)) (eSlot 4))) (eConst (.int 26))))) (eCut (eSlot 3) (oSome (eSlot 5)) oNone))) (sSeq (sIf (tAndD (tOfE (eBin dEq (eSlot 7) (eConst (.int 1)))) (tOfE (eBin dEq (eBin dMod (eSlot 4) (eConst (.int 2))) (eConst (.int 1))))) (sSeq (sSet (.nm 9) (eBin dAdd (eSlot 9) (eBin dIdx (eSlot 2) (eBin dMod (eBin dAdd (eSlot 6) (eSlot 4)) (eConst (.int 26)))))) sSkip) sSkip) (sSeq (sExpr (eMeth isL mAppend (eSlot 8) (aCons (eSlot 9) aNil))) sSkip)))) (sSeq (sRet (eSlot 8)) sSkip))))))))
def B5 (cf : CF) : DS := (sSeq (sSet (.nm 1) (eBin dIdx (eLst (aCons (eConst (.int 1)) (aCons (eConst (.int 2)) (aCons (eConst (.int 2)) (aCons (eConst (.int 3)) (aCons (eConst (.int 3)) (aCons (eConst (.int 4)) (aCons (eConst (.int 4)) (aCons (eConst (.int 6)) aNil))))))))) (eApp (cf 3) (aCons (eSlot 0) (aCons (eConst (.int 8)) aNil))))) (sSeq (sSet (.nm 2) (eComp (iSeq (eApp (cf 4) (aCons (eSlot 0) (aCons (eSlot 1) aNil)))) (.nm 3) [3] tYesD (eBin dIdx (eLst (aCons (eSlot 3) (aCons (eConst (.str "numb")) aNil))) (eApp bInt (aCons (eBin dEq (eSlot 3) (eConst (.str "num"))) aNil))))) (sSeq (sSet (.nm 4) (eApp (cf 4) (aCons (eSlot 0) (aCons (eConst (.int 26)) aNil)))) (sSeq (sSet (.nm 5) (eConst (.int 12))) (sSeq (sSet (.nm 6) (eLst aNil)) (sSeq (sFor (iRg1 (aCons (eSlot 1) aNil)) (.nm 7) (sSeq (sSet (.nm 8) (eLst aNil)) (sSeq (sSet (.nm 9) (eBin dIdx (eLst (aCons (eConst (.int 1)) (aCons (eConst (.int 2)) (aCons (eConst (.int 2)) (aCons (eConst (.int 3)) (aCons (eConst (.int 3)) (aCons (eConst (.int 2)) (aCons (eConst (.int 4)) (aCons (eConst (.int 6)) aNil))))))))) (eApp (cf 3) (aCons (eSlot 0) (aCons (eConst (.int 8)) aNil))))) (sSeq (sFor (iRg1 (aCons (eApp bMin (aCons (eSlot 9) (aCons (eBin dAdd (eBin dAdd (eBin dSub (eApp bLen (aCons (eSlot 4) aNil)) (eSlot 1)) (eConst (.int 1))) (eSlot 7)) aNil))) aNil)) (.nm 10) (sSeq (sSet (.nm 11) (eApp bMin (aCons (eBin dIdx (eLst (aCons (eConst (.int 0)) (aCons (eConst (.int 0)) (aCons (eConst (.int 1)) (aCons (eConst (.int 1)) (aCons (eConst (.int 2)) (aCons (eConst (.int 2)) (aCons (eConst (.int 3)) (aCons (eConst (.int 4)) aNil))))))))) (eApp (cf 3) (aCons (eSlot 0) (aCons (eConst (.int 8)) aNil)))) (aCons (eSlot 5) aNil)))) (sSeq (sSet (.nm 5) (eBin dSub (eSlot 5) (eSlot 11))) (sSeq (sSet (.nm 12) (eBin dAdd (eSlot 2) (eLst (aCons (eConst (.str "num")) (aCons (eConst (.str "num")) aNil))))) (sSeq (sSet (.nm 13) (eComp (iRg1 (aCons (eSlot 11) aNil)) (.nm 14) [14] tYesD (eBin dIdx (eSlot 12) (eApp (cf 3) (aCons (eSlot 0) (aCons (eBin dAdd (eSlot 1) (eConst (.int 2))) aNil)))))) (sSeq (sExpr (eMeth isL mAppend (eSlot 8) (aCons (eTup (aCons (eMeth isL mPop (eSlot 4) (aCons (eConst (.int 0)) aNil)) (aCons (eApp bTuple (aCons (eSlot 13) aNil)) aNil))) aNil))) sSkip)))))) (sSeq (sExpr (eMeth isL mAppend (eSlot 6) (aCons (eTup (aCons (eBin dIdx (eSlot 2) (eSlot 7)) (aCons (eApp bTuple (aCons (eSlot 8) aNil)) aNil))) aNil))) sSkip))))) (sSeq (sRet (eApp bTuple (aCons (eSlot 6) aNil))) sSkip)))))))
def B6 (cf : CF) : DS := (sSeq (sRet (eApp bAll (aCons (eComp (iSeq (eBin dIdx (eSlot 0) (eConst (.int 1)))) (.nm 2) [2] tYesD (eBin dIn (eSlot 2) (eSlot 1))) aNil))) sSkip)
def B7 (cf : CF) : DS := (sSeq (sSet (.nm 1) (eDict (pCons (eConst (.str "num")) (eConst (.int 0)) pNil))) (sSeq (sFor (iRg2 (aCons (eConst (.int 1)) (aCons (eBin dAdd (eApp bLen (aCons (eSlot 0) aNil)) (eConst (.int 1))) aNil))) (.nm 2) (sSeq (sSet (.nm 3) (eLst aNil)) (sSeq (sFor (iSeq (eSlot 0)) (.tp [4, 5]) (sSeq (sIf (tAndD (tOfE (eBin dNotIn (eSlot 4) (eSlot 1))) (tOfE (eApp bAny (aCons (eComp (iSeq (eSlot 5)) (.nm 6) [6] tYesD (eApp (cf 6) (aCons (eSlot 6) (aCons (eSlot 1) aNil)))) aNil)))) (sSeq (sExpr (eMeth isL mAppend (eSlot 3) (aCons (eSlot 4) aNil))) sSkip) sSkip) sSkip)) (sSeq (sFor (iSeq (eSlot 3)) (.nm 4) (sSeq (sPut (eSlot 1) (eSlot 4) (eSlot 2)) sSkip)) sSkip)))) (sSeq (sSet (.nm 7) (eDict (pCons (eConst (.str "num")) (eLst aNil) (pCons (eConst (.str "")) (eLst aNil) pNil)))) (sSeq (sSet (.nm 8) (eDict pNil)) (sSeq (sFor (iSeq (eSlot 0)) (.tp [4, 5]) (sSeq (sPut (eSlot 7) (eSlot 4) (eComp (iSeq (eSlot 5)) (.nm 6) [6] (tOfE (eApp (cf 6) (aCons (eSlot 6) (aCons (eSlot 1) aNil)))) (eSlot 6))) (sSeq (sExpr (eMeth isK mUpdate (eSlot 8) (aCons (eApp bDict (aCons (eSlot 5) aNil)) aNil))) sSkip))) (sSeq (sRet (eDict (pCons (eConst (.str "book")) (eSlot 0) (pCons (eConst (.str "ranks")) (eSlot 1) (pCons (eConst (.str "come")) (eSlot 7) (pCons (eConst (.str "fields")) (eSlot 8) pNil)))))) sSkip))))))
def B8 (cf : CF) : DS := (sSeq (sSet (.nm 2) (eApp bList (aCons (eBin dIdx (eSlot 0) (eConst (.str "ranks"))) aNil))) (sSeq (sSet (.nm 3) (eBin dAdd (eBin dAdd (eCut (eSlot 2) (oSome (eConst (.int 1))) oNone) (eSlot 2)) (eCut (eSlot 2) (oSome (eConst (.int 1))) oNone))) (sSeq (sRet (eComp (iRg1 (aCons (eConst (.int 2)) aNil)) (.nm 4) [4] tYesD (eBin dIdx (eSlot 3) (eApp (cf 3) (aCons (eSlot 1) (aCons (eApp bLen (aCons (eSlot 3) aNil)) aNil)))))) sSkip)))
def B9 (cf : CF) : DS := (sSeq (sSet (.nm 1) (eApp (cf 3) (aCons (eSlot 0) (aCons (eConst (.int 7)) aNil)))) (sSeq (sIf (tOfE (eBin (dCmp fun i j => decide (i < j)) (eSlot 1) (eConst (.int 5)))) (sSeq (sRet (eBin dSub (eApp (cf 3) (aCons (eSlot 0) (aCons (eConst (.int 9)) aNil))) (eConst (.int 4)))) sSkip) sSkip) (sSeq (sIf (tOfE (eBin dEq (eSlot 1) (eConst (.int 5)))) (sSeq (sRet (eBin dSub (eApp (cf 3) (aCons (eSlot 0) (aCons (eConst (.int 2001)) aNil))) (eConst (.int 1000)))) sSkip) sSkip) (sSeq (sRet (eBin dSub (eApp (cf 3) (aCons (eSlot 0) (aCons (eBin dPow (eConst (.int 10)) (eConst (.int 30))) aNil))) (eApp (cf 3) (aCons (eSlot 0) (aCons (eBin dPow (eConst (.int 10)) (eConst (.int 30))) aNil))))) sSkip))))
def B10 (cf : CF) : DS := (sSeq (sSet (.nm 3) (eBin dIdx (eSlot 0) (eConst (.str "ranks")))) (sSeq (sSet (.nm 4) (eLst aNil)) (sSeq (sFor (iSeq (eBin dIdx (eBin dIdx (eSlot 0) (eConst (.str "come"))) (eSlot 1))) (.nm 5) (sSeq (sIf (tOrD (tOfE (eBin (dCmp fun i j => decide (j < i)) (eSlot 2) (eConst (.int 0)))) (tOfE (eApp bAll (aCons (eComp (iSeq (eBin dIdx (eSlot 5) (eConst (.int 1)))) (.nm 6) [6] tYesD (eBin (dCmp fun i j => decide (i < j)) (eBin dIdx (eSlot 3) (eSlot 6)) (eBin dIdx (eSlot 3) (eSlot 1)))) aNil)))) (sSeq (sExpr (eMeth isL mAppend (eSlot 4) (aCons (eSlot 5) aNil))) sSkip) sSkip) sSkip)) (sSeq (sRet (eSlot 4)) sSkip))))
def B11 (cf : CF) : DS := (sSeq (sSet (.nm 2) (eApp (cf 3) (aCons (eSlot 0) (aCons (eConst (.int 5)) aNil)))) (sSeq (sSet (.nm 3) (eApp (cf 9) (aCons (eSlot 0) aNil))) (sSeq (sIf (tOrD (tOfE (eBin dEq (eSlot 2) (eConst (.int 0)))) (tOfE (eBin (dCmp fun i j => decide (i < j)) (eBin dIdx (eSlot 1) (eConst (.int 0))) (eConst (.int 4))))) (sSeq (sRet (eTup (aCons (eConst (.str "any")) aNil))) sSkip) sSkip) (sSeq (sPut (eSlot 1) (eConst (.int 0)) (eBin dFdiv (eBin dIdx (eSlot 1) (eConst (.int 0))) (eConst (.int 4)))) (sSeq (sSet (.nm 4) (eBin dAdd (eSlot 3) (eBin dIdx (eLst (aCons (eConst (.int 0)) (aCons (eConst (.int 1)) (aCons (eConst (.int 3)) (aCons (eBin dPow (eConst (.int 10)) (eConst (.int 20))) aNil))))) (eApp (cf 3) (aCons (eSlot 0) (aCons (eConst (.int 4)) aNil)))))) (sSeq (sRet (eTup (aCons (eConst (.str "num")) (aCons (eBin dIdx (eLst (aCons (eSlot 3) (aCons (eConst .non) aNil))) (eApp bInt (aCons (eBin dEq (eSlot 2) (eConst (.int 1))) aNil))) (aCons (eBin dIdx (eLst (aCons (eSlot 4) (aCons (eConst .non) aNil))) (eApp bInt (aCons (eBin dEq (eSlot 2) (eConst (.int 2))) aNil))) aNil))))) sSkip))))))
def B12 (cf : CF) : DS := (sSeq (sSet (.nm 6) (eApp bMin (aCons (eBin dAdd (eConst (.int 2)) (eApp (cf 3) (aCons (eSlot 2) (aCons (eConst (.int 2)) aNil)))) (aCons (eBin dIdx (eSlot 4) (eConst (.int 1))) aNil)))) (sSeq (sPut (eSlot 4) (eConst (.int 1)) (eBin dFdiv (eBin dIdx (eSlot 4) (eConst (.int 1))) (eSlot 6))) (sSeq (sSet (.nm 7) (eConst (.str ""))) (sSeq (sIf (tAndD (tOfE (eBin (dCmp fun i j => decide (j < i)) (eApp bLen (aCons (eSlot 5) aNil)) (eConst (.int 0)))) (tOfE (eBin dEq (eApp (cf 3) (aCons (eSlot 2) (aCons (eConst (.int 3)) aNil))) (eConst (.int 0))))) (sSeq (sSet (.nm 7) (eMeth isL mPop (eSlot 5) (aCons (eConst (.int 0)) aNil))) sSkip) sSkip) (sSeq (sSet (.nm 8) (eLst aNil)) (sSeq (sFor (iRg1 (aCons (eSlot 6) aNil)) (.nm 9) (sSeq (sExpr (eMeth isL mAppend (eSlot 8) (aCons (eApp (cf 13) (aCons (eSlot 0) (aCons (eSlot 1) (aCons (eSlot 2) (aCons (eBin dSub (eSlot 3) (eConst (.int 1))) (aCons (eSlot 4) (aCons (eLst aNil) aNil))))))) aNil))) sSkip)) (sSeq (sIf (tOfE (eBin dNe (eSlot 7) (eConst (.str "")))) (sSeq (sSet (.nm 8) (eComp (iSeq (eSlot 8)) (.nm 10) [10] tYesD (eTup (aCons (eConst (.str "held")) (aCons (eSlot 7) (aCons (eSlot 10) aNil)))))) sSkip) sSkip) (sSeq (sRet (eTup (aCons (eConst (.str "either")) (aCons (eApp bTuple (aCons (eSlot 8) aNil)) aNil)))) sSkip))))))))
def B13 (cf : CF) : DS := (sSeq (sSet (.nm 6) (eApp (cf 3) (aCons (eSlot 2) (aCons (eConst (.int 8)) aNil)))) (sSeq (sIf (tOrD (tOfE (eBin dNotIn (eSlot 1) (eBin dIdx (eSlot 0) (eConst (.str "ranks"))))) (tOrD (tOfE (eBin dEq (eSlot 3) (eConst (.int 0)))) (tOfE (eBin dEq (eSlot 6) (eConst (.int 2)))))) (sSeq (sRet (eTup (aCons (eConst (.str "any")) aNil))) sSkip) sSkip) (sSeq (sIf (tAndD (tOfE (eBin (dCmp fun i j => decide (i < j)) (eSlot 6) (eConst (.int 2)))) (tOfE (eBin (dCmp fun i j => decide (j < i)) (eApp bLen (aCons (eSlot 5) aNil)) (eConst (.int 0))))) (sSeq (sSet (.nm 7) (eMeth isL mPop (eSlot 5) (aCons (eConst (.int 0)) aNil))) (sSeq (sRet (eTup (aCons (eConst (.str "held")) (aCons (eSlot 7) (aCons (eApp (cf 13) (aCons (eSlot 0) (aCons (eSlot 1) (aCons (eSlot 2) (aCons (eBin dSub (eSlot 3) (eConst (.int 1))) (aCons (eSlot 4) (aCons (eSlot 5) aNil))))))) aNil))))) sSkip)) sSkip) (sSeq (sIf (tAndD (tOfE (eBin dEq (eSlot 6) (eConst (.int 3)))) (tOfE (eBin (dCmp fun i j => decide (j < i)) (eBin dIdx (eSlot 4) (eConst (.int 1))) (eConst (.int 1))))) (sSeq (sRet (eApp (cf 12) (aCons (eSlot 0) (aCons (eSlot 1) (aCons (eSlot 2) (aCons (eSlot 3) (aCons (eSlot 4) (aCons (eSlot 5) aNil)))))))) sSkip) sSkip) (sSeq (sIf (tOfE (eBin dEq (eSlot 1) (eConst (.str "num")))) (sSeq (sRet (eApp (cf 11) (aCons (eSlot 2) (aCons (eSlot 4) aNil)))) sSkip) sSkip) (sSeq (sSet (.nm 8) (eBin dIdx (eBin dIdx (eSlot 0) (eConst (.str "come"))) (eSlot 1))) (sSeq (sIf (tOfE (eBin (dCmp fun i j => decide (i < j)) (eBin dIdx (eSlot 4) (eConst (.int 0))) (eApp bLen (aCons (eSlot 8) aNil)))) (sSeq (sRet (eTup (aCons (eConst (.str "any")) aNil))) sSkip) sSkip) (sSeq (sPut (eSlot 4) (eConst (.int 0)) (eBin dFdiv (eBin dIdx (eSlot 4) (eConst (.int 0))) (eApp bLen (aCons (eSlot 8) aNil)))) (sSeq (sIf (tAndD (tOfE (eBin dEq (eSlot 6) (eConst (.int 4)))) (tOfE (eBin dEq (eApp (cf 3) (aCons (eSlot 2) (aCons (eConst (.int 4)) aNil))) (eConst (.int 0))))) (sSeq (sSet (.nm 8) (eBin dIdx (eApp bDict (aCons (eBin dIdx (eSlot 0) (eConst (.str "book"))) aNil)) (eSlot 1))) sSkip) sSkip) (sSeq (sSet (.nm 9) (eBin dIdx (eSlot 8) (eApp (cf 3) (aCons (eSlot 2) (aCons (eApp bLen (aCons (eSlot 8) aNil)) aNil))))) (sSeq (sSet (.nm 10) (eComp (iSeq (eBin dIdx (eSlot 9) (eConst (.int 1)))) (.nm 11) [11] tYesD (eApp (cf 13) (aCons (eSlot 0) (aCons (eSlot 11) (aCons (eSlot 2) (aCons (eBin dSub (eSlot 3) (eConst (.int 1))) (aCons (eSlot 4) (aCons (eSlot 5) aNil))))))))) (sSeq (sRet (eTup (aCons (eConst (.str "make")) (aCons (eBin dIdx (eSlot 9) (eConst (.int 0))) (aCons (eApp bTuple (aCons (eSlot 10) aNil)) aNil))))) sSkip))))))))))))
def B14 (cf : CF) : DS := (sSeq (sIf (tOfE (eBin dEq (eBin dIdx (eSlot 2) (eConst (.int 0))) (eConst (.str "held")))) (sSeq (sRet (eBin dAdd (eLst (aCons (eTup (aCons (eBin dIdx (eSlot 2) (eConst (.int 1))) (aCons (eSlot 1) aNil))) aNil)) (eApp (cf 14) (aCons (eSlot 0) (aCons (eSlot 1) (aCons (eBin dIdx (eSlot 2) (eConst (.int 2))) aNil)))))) sSkip) sSkip) (sSeq (sIf (tOfE (eBin dEq (eBin dIdx (eSlot 2) (eConst (.int 0))) (eConst (.str "either")))) (sSeq (sRet (eApp (cf 14) (aCons (eSlot 0) (aCons (eSlot 1) (aCons (eBin dIdx (eBin dIdx (eSlot 2) (eConst (.int 1))) (eConst (.int 0))) aNil))))) sSkip) sSkip) (sSeq (sSet (.nm 3) (eLst aNil)) (sSeq (sIf (tOfE (eBin dEq (eBin dIdx (eSlot 2) (eConst (.int 0))) (eConst (.str "make")))) (sSeq (sFor (iZp (aCons (eBin dIdx (eBin dIdx (eSlot 0) (eConst (.str "fields"))) (eBin dIdx (eSlot 2) (eConst (.int 1)))) (aCons (eBin dIdx (eSlot 2) (eConst (.int 2))) aNil))) (.tp [4, 5]) (sSeq (sExpr (eMeth isL mExtend (eSlot 3) (aCons (eApp (cf 14) (aCons (eSlot 0) (aCons (eSlot 4) (aCons (eSlot 5) aNil)))) aNil))) sSkip)) sSkip) sSkip) (sSeq (sRet (eSlot 3)) sSkip)))))
def B15 (cf : CF) : DS := (sSeq (sSet (.nm 3) (eComp (iSeq (eSlot 1)) (.tp [4, 5]) [4, 5] (tOfE (eBin dEq (eSlot 5) (eConst (.str "num")))) (eSlot 4))) (sSeq (sSet (.nm 6) (eLst aNil)) (sSeq (sFor (iRg1 (aCons (eBin dIdx (eLst (aCons (eConst (.int 0)) (aCons (eConst (.int 1)) (aCons (eConst (.int 1)) (aCons (eConst (.int 2)) aNil))))) (eApp (cf 3) (aCons (eSlot 0) (aCons (eConst (.int 4)) aNil)))) aNil)) (.nm 7) (sSeq (sIf (tAndD (tOfE (eBin (dCmp fun i j => decide (j < i)) (eApp bLen (aCons (eSlot 3) aNil)) (eConst (.int 0)))) (tOfE (eBin (dCmp fun i j => decide (j < i)) (eBin dIdx (eSlot 2) (eConst (.int 0))) (eConst (.int 3))))) (sSeq (sSet (.nm 8) (eBin dIdx (eSlot 3) (eApp (cf 3) (aCons (eSlot 0) (aCons (eApp bLen (aCons (eSlot 3) aNil)) aNil))))) (sSeq (sSet (.nm 9) (eApp (cf 9) (aCons (eSlot 0) aNil))) (sSeq (sIf (tOfE (eBin dEq (eApp (cf 3) (aCons (eSlot 0) (aCons (eConst (.int 2)) aNil))) (eConst (.int 1)))) (sSeq (sSet (.nm 9) (eBin dIdx (eSlot 3) (eApp (cf 3) (aCons (eSlot 0) (aCons (eApp bLen (aCons (eSlot 3) aNil)) aNil))))) sSkip) sSkip) (sSeq (sPut (eSlot 2) (eConst (.int 0)) (eBin dFdiv (eBin dIdx (eSlot 2) (eConst (.int 0))) (eConst (.int 4)))) (sSeq (sExpr (eMeth isL mAppend (eSlot 6) (aCons (eTup (aCons (eSlot 8) (aCons (eBin dIdx (eLst (aCons (eConst (.str "<")) (aCons (eConst (.str "<=")) (aCons (eConst (.str "=")) (aCons (eConst (.str ">=")) (aCons (eConst (.str ">")) aNil)))))) (eApp (cf 3) (aCons (eSlot 0) (aCons (eConst (.int 5)) aNil)))) (aCons (eSlot 9) aNil)))) aNil))) sSkip))))) sSkip) sSkip)) (sSeq (sRet (eApp bTuple (aCons (eSlot 6) aNil))) sSkip))))
def B16 (cf : CF) : DS := (sSeq (sSet (.nm 5) (eComp (iSeq (eSlot 4)) (.tp [6, 7]) [6, 7] (tOfE (eBin dEq (eSlot 7) (eSlot 1))) (eSlot 6))) (sSeq (sIf (tAndD (tOfE (eBin (dCmp fun i j => decide (j < i)) (eApp bLen (aCons (eSlot 5) aNil)) (eConst (.int 0)))) (tOfE (eBin dEq (eApp (cf 3) (aCons (eSlot 2) (aCons (eConst (.int 2)) aNil))) (eConst (.int 0))))) (sSeq (sRet (eTup (aCons (eConst (.str "held")) (aCons (eBin dIdx (eSlot 5) (eApp (cf 3) (aCons (eSlot 2) (aCons (eApp bLen (aCons (eSlot 5) aNil)) aNil)))) aNil)))) sSkip) sSkip) (sSeq (sIf (tOfE (eBin dEq (eSlot 1) (eConst (.str "num")))) (sSeq (sRet (eTup (aCons (eConst (.str "num")) (aCons (eApp (cf 9) (aCons (eSlot 2) aNil)) aNil)))) sSkip) sSkip) (sSeq (sSet (.nm 8) (eApp (cf 10) (aCons (eSlot 0) (aCons (eSlot 1) (aCons (eSlot 3) aNil))))) (sSeq (sSet (.nm 9) (eBin dIdx (eSlot 8) (eApp (cf 3) (aCons (eSlot 2) (aCons (eApp bLen (aCons (eSlot 8) aNil)) aNil))))) (sSeq (sSet (.nm 10) (eComp (iSeq (eBin dIdx (eSlot 9) (eConst (.int 1)))) (.nm 11) [11] tYesD (eApp (cf 16) (aCons (eSlot 0) (aCons (eSlot 11) (aCons (eSlot 2) (aCons (eApp bMax (aCons (eConst (.int 0)) (aCons (eBin dSub (eSlot 3) (eConst (.int 1))) aNil))) (aCons (eSlot 4) aNil)))))))) (sSeq (sRet (eTup (aCons (eConst (.str "make")) (aCons (eBin dIdx (eSlot 9) (eConst (.int 0))) (aCons (eApp bTuple (aCons (eSlot 10) aNil)) aNil))))) sSkip)))))))
def B17 (cf : CF) : DS := (sSeq (sSet (.nm 4) (eApp (cf 2) (aCons (eSlot 2) aNil))) (sSeq (sSet (.nm 5) (eLst (aCons (eConst (.str "x")) (aCons (eConst (.str "xx")) (aCons (eConst (.str "if")) (aCons (eConst (.str "num")) (aCons (eConst (.str "p")) (aCons (eConst (.str "qqqqqqqq")) (aCons (eConst (.str "any")) aNil))))))))) (sSeq (sSet (.nm 5) (eComp (iSeq (eSlot 5)) (.nm 6) [6] (tOfE (eBin dNotIn (eSlot 6) (eBin dIdx (eSlot 0) (eConst (.str "fields"))))) (eSlot 6))) (sSeq (sPut (eSlot 3) (eConst (.int 1)) (eBin dIdx (eSlot 3) (eConst (.int 2)))) (sSeq (sSet (.nm 7) (eApp (cf 13) (aCons (eSlot 0) (aCons (eBin dIdx (eSlot 1) (eConst (.int 0))) (aCons (eSlot 4) (aCons (eConst (.int 4)) (aCons (eSlot 3) (aCons (eSlot 5) aNil)))))))) (sSeq (sSet (.nm 8) (eApp (cf 14) (aCons (eSlot 0) (aCons (eBin dIdx (eSlot 1) (eConst (.int 0))) (aCons (eSlot 7) aNil))))) (sSeq (sSet (.nm 9) (eApp (cf 15) (aCons (eSlot 4) (aCons (eSlot 8) (aCons (eSlot 3) aNil))))) (sSeq (sRet (eTup (aCons (eSlot 7) (aCons (eSlot 9) (aCons (eApp (cf 16) (aCons (eSlot 0) (aCons (eBin dIdx (eSlot 1) (eConst (.int 1))) (aCons (eSlot 4) (aCons (eConst (.int 2)) (aCons (eSlot 8) aNil)))))) aNil))))) sSkip))))))))
def B18 (cf : CF) : DS := (sSeq (sIf (tOfE (eBin dEq (eBin dIdx (eSlot 2) (eConst (.int 0))) (eConst (.str "any")))) (sSeq (sRet (eLst (aCons (eTup (aCons (eTup aNil) (aCons (eTup aNil) aNil))) aNil))) sSkip) sSkip) (sSeq (sIf (tOfE (eBin dEq (eBin dIdx (eSlot 2) (eConst (.int 0))) (eConst (.str "num")))) (sSeq (sSet (.nm 4) (eLst aNil)) (sSeq (sIf (tOfE (eBin dIsNot (eBin dIdx (eSlot 2) (eConst (.int 1))) (eConst .non))) (sSeq (sExpr (eMeth isL mAppend (eSlot 4) (aCons (eTup (aCons (eConst (.str "most")) (aCons (eConst .non) (aCons (eSlot 3) (aCons (eUn dNeg (eBin dIdx (eSlot 2) (eConst (.int 1)))) aNil))))) aNil))) sSkip) sSkip) (sSeq (sIf (tOfE (eBin dIsNot (eBin dIdx (eSlot 2) (eConst (.int 2))) (eConst .non))) (sSeq (sExpr (eMeth isL mAppend (eSlot 4) (aCons (eTup (aCons (eConst (.str "most")) (aCons (eSlot 3) (aCons (eConst .non) (aCons (eBin dIdx (eSlot 2) (eConst (.int 2))) aNil))))) aNil))) sSkip) sSkip) (sSeq (sRet (eLst (aCons (eTup (aCons (eApp bTuple (aCons (eSlot 4) aNil)) (aCons (eTup aNil) aNil))) aNil))) sSkip)))) sSkip) (sSeq (sSet (.nm 5) (eLst aNil)) (sSeq (sIf (tOfE (eBin dEq (eBin dIdx (eSlot 2) (eConst (.int 0))) (eConst (.str "held")))) (sSeq (sFor (iSeq (eApp (cf 18) (aCons (eSlot 0) (aCons (eSlot 1) (aCons (eBin dIdx (eSlot 2) (eConst (.int 2))) (aCons (eSlot 3) aNil)))))) (.tp [4, 6]) (sSeq (sExpr (eMeth isL mAppend (eSlot 5) (aCons (eTup (aCons (eSlot 4) (aCons (eBin dAdd (eTup (aCons (eTup (aCons (eBin dIdx (eSlot 2) (eConst (.int 1))) (aCons (eSlot 3) aNil))) aNil)) (eSlot 6)) aNil))) aNil))) sSkip)) (sSeq (sRet (eSlot 5)) sSkip)) sSkip) (sSeq (sIf (tOfE (eBin dEq (eBin dIdx (eSlot 2) (eConst (.int 0))) (eConst (.str "either")))) (sSeq (sFor (iSeq (eBin dIdx (eSlot 2) (eConst (.int 1)))) (.nm 7) (sSeq (sExpr (eMeth isL mExtend (eSlot 5) (aCons (eApp (cf 18) (aCons (eSlot 0) (aCons (eSlot 1) (aCons (eSlot 7) (aCons (eSlot 3) aNil))))) aNil))) sSkip)) (sSeq (sRet (eSlot 5)) sSkip)) sSkip) (sSeq (sSet (.nm 8) (eComp (iSeq (eBin dIdx (eBin dIdx (eSlot 0) (eConst (.str "come"))) (eSlot 1))) (.nm 9) [9] tYesD (eBin dIdx (eSlot 9) (eConst (.int 0))))) (sSeq (sIf (tOfE (eBin dIn (eBin dIdx (eSlot 2) (eConst (.int 1))) (eSlot 8))) (sSeq (sSet (.nm 5) (eLst (aCons (eTup (aCons (eCut (eTup (aCons (eTup (aCons (eConst (.str "is")) (aCons (eSlot 3) (aCons (eBin dIdx (eSlot 2) (eConst (.int 1))) aNil)))) aNil)) oNone (oSome (eBin dSub (eApp bLen (aCons (eSlot 8) aNil)) (eConst (.int 1))))) (aCons (eTup aNil) aNil))) aNil))) sSkip) sSkip) (sSeq (sSet (.nm 10) (eBin dIdx (eBin dIdx (eSlot 0) (eConst (.str "fields"))) (eBin dIdx (eSlot 2) (eConst (.int 1))))) (sSeq (sFor (iRg1 (aCons (eApp bLen (aCons (eSlot 10) aNil)) aNil)) (.nm 11) (sSeq (sSet (.nm 12) (eBin dAdd (eSlot 3) (eTup (aCons (eTup (aCons (eBin dIdx (eSlot 2) (eConst (.int 1))) (aCons (eSlot 11) aNil))) aNil)))) (sSeq (sSet (.nm 13) (eApp (cf 18) (aCons (eSlot 0) (aCons (eBin dIdx (eSlot 10) (eSlot 11)) (aCons (eBin dIdx (eBin dIdx (eSlot 2) (eConst (.int 2))) (eSlot 11)) (aCons (eSlot 12) aNil)))))) (sSeq (sSet (.nm 14) (eLst aNil)) (sSeq (sFor (iSeq (eSlot 5)) (.tp [4, 6]) (sSeq (sExpr (eMeth isL mExtend (eSlot 14) (aCons (eComp (iSeq (eSlot 13)) (.nm 15) [15] tYesD (eTup (aCons (eBin dAdd (eSlot 4) (eBin dIdx (eSlot 15) (eConst (.int 0)))) (aCons (eBin dAdd (eSlot 6) (eBin dIdx (eSlot 15) (eConst (.int 1)))) aNil)))) aNil))) sSkip)) (sSeq (sSet (.nm 5) (eSlot 14)) sSkip)))))) (sSeq (sRet (eSlot 5)) sSkip))))))))))
def B19 (cf : CF) : DS := (sSeq (sIf (tOfE (eBin dEq (eBin dIdx (eSlot 0) (eConst (.int 0))) (eConst (.str "num")))) (sSeq (sRet (eSlot 0)) sSkip) sSkip) (sSeq (sIf (tOfE (eBin dEq (eBin dIdx (eSlot 0) (eConst (.int 0))) (eConst (.str "held")))) (sSeq (sRet (eTup (aCons (eConst (.str "part")) (aCons (eBin dIdx (eApp bDict (aCons (eBin dIdx (eSlot 1) (eConst (.int 1))) aNil)) (eBin dIdx (eSlot 0) (eConst (.int 1)))) aNil)))) sSkip) sSkip) (sSeq (sRet (eTup (aCons (eConst (.str "make")) (aCons (eBin dIdx (eSlot 0) (eConst (.int 1))) (aCons (eApp bTuple (aCons (eComp (iSeq (eBin dIdx (eSlot 0) (eConst (.int 2)))) (.nm 2) [2] tYesD (eApp (cf 19) (aCons (eSlot 2) (aCons (eSlot 1) aNil)))) aNil)) aNil))))) sSkip)))
def B20 (cf : CF) : DS := (sSeq (sIf (tOfE (eIsi "tuple" (eSlot 1))) (sSeq (sIf (tOrD (tNotD (tOfE (eIsi "tuple" (eSlot 0)))) (tOfE (eBin dNe (eApp bLen (aCons (eSlot 0) aNil)) (eApp bLen (aCons (eSlot 1) aNil))))) (sSeq (sRet (eConst (.bl false))) sSkip) sSkip) (sSeq (sRet (eApp bAll (aCons (eComp (iZp (aCons (eSlot 0) (aCons (eSlot 1) aNil))) (.tp [2, 3]) [2, 3] tYesD (eApp (cf 20) (aCons (eSlot 2) (aCons (eSlot 3) aNil)))) aNil))) sSkip)) sSkip) (sSeq (sIf (tOrD (tOfE (eIsi "bool" (eSlot 0))) (tOfE (eBin dNe (eIsi "str" (eSlot 0)) (eIsi "str" (eSlot 1))))) (sSeq (sRet (eConst (.bl false))) sSkip) sSkip) (sSeq (sRet (eBin dEq (eSlot 0) (eSlot 1))) sSkip)))
def B21 (cf : CF) : DS := (sSeq (sSet (.nm 1) (eApp (cf 2) (aCons (eApp (cf 1) (aCons (eSlot 0) (aCons (eConst (.int 0)) aNil))) aNil))) (sSeq (sSet (.nm 2) (eApp (cf 7) (aCons (eApp (cf 5) (aCons (eSlot 1) aNil)) aNil))) (sSeq (sSet (.nm 3) (eApp (cf 8) (aCons (eSlot 2) (aCons (eSlot 1) aNil)))) (sSeq (sSet (.nm 4) (eLst aNil)) (sSeq (sFor (iSeq (eBin dAdd (eLst (aCons (eApp (cf 1) (aCons (eSlot 0) (aCons (eConst (.int 1)) aNil))) aNil)) (eCut (eSlot 0) (oSome (eConst (.int 2))) (oSome (eConst (.int 63)))))) (.nm 5) (sSeq (sSet (.tp [6, 7, 8]) (eApp (cf 17) (aCons (eSlot 2) (aCons (eSlot 3) (aCons (eSlot 5) (aCons (eLst (aCons (eConst (.int 200)) (aCons (eConst (.int 8)) (aCons (eConst (.int 8)) aNil)))) aNil)))))) (sSeq (sFor (iSeq (eApp (cf 18) (aCons (eSlot 2) (aCons (eBin dIdx (eSlot 3) (eConst (.int 0))) (aCons (eSlot 6) (aCons (eTup aNil) aNil)))))) (.nm 9) (sSeq (sExpr (eMeth isL mAppend (eSlot 4) (aCons (eTup (aCons (eSlot 8) (aCons (eSlot 9) aNil))) aNil))) sSkip)) sSkip))) (sSeq (sFor (iRg1 (aCons (eConst (.int 2)) aNil)) (.nm 10) (sSeq (sFor (iSeq (eSlot 4)) (.tp [8, 9]) (sSeq (sIf (tNotD (tOfE (eApp (cf 20) (aCons (eApp (cf 0) (aCons (eSlot 8) (aCons (eSlot 9) aNil))) (aCons (eApp (cf 19) (aCons (eSlot 8) (aCons (eSlot 9) aNil))) aNil))))) (sSeq (sRet (eConst (.bl false))) sSkip) sSkip) sSkip)) sSkip)) (sSeq (sRet (eConst (.bl true))) sSkip)))))))
def Bs : List FB := [⟨2, 3, B0⟩, ⟨2, 2, B1⟩, ⟨1, 1, B2⟩, ⟨2, 5, B3⟩, ⟨2, 10, B4⟩, ⟨1, 15, B5⟩, ⟨2, 3, B6⟩, ⟨1, 9, B7⟩, ⟨2, 5, B8⟩, ⟨1, 2, B9⟩, ⟨3, 7, B10⟩, ⟨2, 5, B11⟩, ⟨6, 11, B12⟩, ⟨6, 12, B13⟩, ⟨3, 6, B14⟩, ⟨3, 10, B15⟩, ⟨5, 12, B16⟩, ⟨4, 10, B17⟩, ⟨4, 16, B18⟩, ⟨2, 3, B19⟩, ⟨2, 4, B20⟩, ⟨1, 11, B21⟩]
theorem cs0 (cf : CF) : compSs GG cf ["answer", "line", "inner"] 40 (defScope (top 1)) (defBody (top 1)) = some (B0 cf) := by kernel_rfl
theorem sc0 : FnScope ["answer", "line", "inner"] ["answer", "line"] (defScope (top 1)) := ⟨rfl, rfl, rfl, by decide +kernel, rfl, by decide +kernel, by decide +kernel⟩
theorem cs1 (cf : CF) : compSs GG cf ["script", "k"] 40 (defScope (top 3)) (defBody (top 3)) = some (B1 cf) := by kernel_rfl
theorem sc1 : FnScope ["script", "k"] ["script", "k"] (defScope (top 3)) := ⟨rfl, rfl, rfl, by decide +kernel, rfl, by decide +kernel, by decide +kernel⟩
theorem cs2 (cf : CF) : compSs GG cf ["cell"] 40 (defScope (top 4)) (defBody (top 4)) = some (B2 cf) := by kernel_rfl
theorem sc2 : FnScope ["cell"] ["cell"] (defScope (top 4)) := ⟨rfl, rfl, rfl, by decide +kernel, rfl, by decide +kernel, by decide +kernel⟩
theorem cs3 (cf : CF) : compSs GG cf ["pool", "base", "digit", "near", "stir"] 40 (defScope (top 5)) (defBody (top 5)) = some (B3 cf) := by kernel_rfl
theorem sc3 : FnScope ["pool", "base", "digit", "near", "stir"] ["pool", "base"] (defScope (top 5)) := ⟨rfl, rfl, rfl, by decide +kernel, rfl, by decide +kernel, by decide +kernel⟩
theorem cs4 (cf : CF) : compSs GG cf ["pool", "many", "letters", "base", "k", "at", "first", "tails", "found", "name"] 40 (defScope (top 6)) (defBody (top 6)) = some (B4 cf) := by kernel_rfl
theorem sc4 : FnScope ["pool", "many", "letters", "base", "k", "at", "first", "tails", "found", "name"] ["pool", "many"] (defScope (top 6)) := ⟨rfl, rfl, rfl, by decide +kernel, rfl, by decide +kernel, by decide +kernel⟩
theorem cs5 (cf : CF) : compSs GG cf ["pool", "many", "kinds", "name", "makes", "room", "book", "at", "some", "count", "k", "size", "more", "fields", "j"] 40 (defScope (top 7)) (defBody (top 7)) = some (B5 cf) := by kernel_rfl
theorem sc5 : FnScope ["pool", "many", "kinds", "name", "makes", "room", "book", "at", "some", "count", "k", "size", "more", "fields", "j"] ["pool"] (defScope (top 7)) := ⟨rfl, rfl, rfl, by decide +kernel, rfl, by decide +kernel, by decide +kernel⟩
theorem cs6 (cf : CF) : compSs GG cf ["make", "ranks", "field"] 40 (defScope (top 8)) (defBody (top 8)) = some (B6 cf) := by kernel_rfl
theorem sc6 : FnScope ["make", "ranks", "field"] ["make", "ranks"] (defScope (top 8)) := ⟨rfl, rfl, rfl, by decide +kernel, rfl, by decide +kernel, by decide +kernel⟩
theorem cs7 (cf : CF) : compSs GG cf ["book", "ranks", "turn", "fresh", "kind", "makes", "make", "come", "fields"] 40 (defScope (top 9)) (defBody (top 9)) = some (B7 cf) := by kernel_rfl
theorem sc7 : FnScope ["book", "ranks", "turn", "fresh", "kind", "makes", "make", "come", "fields"] ["book"] (defScope (top 9)) := ⟨rfl, rfl, rfl, by decide +kernel, rfl, by decide +kernel, by decide +kernel⟩
theorem cs8 (cf : CF) : compSs GG cf ["world", "pool", "kinds", "some", "k"] 40 (defScope (top 10)) (defBody (top 10)) = some (B8 cf) := by kernel_rfl
theorem sc8 : FnScope ["world", "pool", "kinds", "some", "k"] ["world", "pool"] (defScope (top 10)) := ⟨rfl, rfl, rfl, by decide +kernel, rfl, by decide +kernel, by decide +kernel⟩
theorem cs9 (cf : CF) : compSs GG cf ["pool", "way"] 40 (defScope (top 11)) (defBody (top 11)) = some (B9 cf) := by kernel_rfl
theorem sc9 : FnScope ["pool", "way"] ["pool"] (defScope (top 11)) := ⟨rfl, rfl, rfl, by decide +kernel, rfl, by decide +kernel, by decide +kernel⟩
theorem cs10 (cf : CF) : compSs GG cf ["world", "kind", "deep", "ranks", "some", "make", "field"] 40 (defScope (top 12)) (defBody (top 12)) = some (B10 cf) := by kernel_rfl
theorem sc10 : FnScope ["world", "kind", "deep", "ranks", "some", "make", "field"] ["world", "kind", "deep"] (defScope (top 12)) := ⟨rfl, rfl, rfl, by decide +kernel, rfl, by decide +kernel, by decide +kernel⟩
theorem cs11 (cf : CF) : compSs GG cf ["pool", "room", "way", "low", "high"] 40 (defScope (top 13)) (defBody (top 13)) = some (B11 cf) := by kernel_rfl
theorem sc11 : FnScope ["pool", "room", "way", "low", "high"] ["pool", "room"] (defScope (top 13)) := ⟨rfl, rfl, rfl, by decide +kernel, rfl, by decide +kernel, by decide +kernel⟩
theorem cs12 (cf : CF) : compSs GG cf ["world", "kind", "pool", "deep", "room", "names", "sides", "name", "found", "k", "side"] 40 (defScope (top 14)) (defBody (top 14)) = some (B12 cf) := by kernel_rfl
theorem sc12 : FnScope ["world", "kind", "pool", "deep", "room", "names", "sides", "name", "found", "k", "side"] ["world", "kind", "pool", "deep", "room", "names"] (defScope (top 14)) := ⟨rfl, rfl, rfl, by decide +kernel, rfl, by decide +kernel, by decide +kernel⟩
theorem cs13 (cf : CF) : compSs GG cf ["world", "kind", "pool", "deep", "room", "names", "way", "name", "makes", "make", "parts", "field"] 40 (defScope (top 15)) (defBody (top 15)) = some (B13 cf) := by kernel_rfl
theorem sc13 : FnScope ["world", "kind", "pool", "deep", "room", "names", "way", "name", "makes", "make", "parts", "field"] ["world", "kind", "pool", "deep", "room", "names"] (defScope (top 15)) := ⟨rfl, rfl, rfl, by decide +kernel, rfl, by decide +kernel, by decide +kernel⟩
theorem cs14 (cf : CF) : compSs GG cf ["world", "kind", "shape", "found", "field", "inner"] 40 (defScope (top 16)) (defBody (top 16)) = some (B14 cf) := by kernel_rfl
theorem sc14 : FnScope ["world", "kind", "shape", "found", "field", "inner"] ["world", "kind", "shape"] (defScope (top 16)) := ⟨rfl, rfl, rfl, by decide +kernel, rfl, by decide +kernel, by decide +kernel⟩
theorem cs15 (cf : CF) : compSs GG cf ["pool", "kept", "room", "some", "name", "kind", "guard", "k", "one", "other"] 40 (defScope (top 17)) (defBody (top 17)) = some (B15 cf) := by kernel_rfl
theorem sc15 : FnScope ["pool", "kept", "room", "some", "name", "kind", "guard", "k", "one", "other"] ["pool", "kept", "room"] (defScope (top 17)) := ⟨rfl, rfl, rfl, by decide +kernel, rfl, by decide +kernel, by decide +kernel⟩
theorem cs16 (cf : CF) : compSs GG cf ["world", "kind", "pool", "deep", "kept", "some", "name", "one", "makes", "make", "parts", "field"] 40 (defScope (top 18)) (defBody (top 18)) = some (B16 cf) := by kernel_rfl
theorem sc16 : FnScope ["world", "kind", "pool", "deep", "kept", "some", "name", "one", "makes", "make", "parts", "field"] ["world", "kind", "pool", "deep", "kept"] (defScope (top 18)) := ⟨rfl, rfl, rfl, by decide +kernel, rfl, by decide +kernel, by decide +kernel⟩
theorem cs17 (cf : CF) : compSs GG cf ["world", "kinds", "cell", "room", "pool", "names", "name", "shape", "kept", "guard"] 40 (defScope (top 19)) (defBody (top 19)) = some (B17 cf) := by kernel_rfl
theorem sc17 : FnScope ["world", "kinds", "cell", "room", "pool", "names", "name", "shape", "kept", "guard"] ["world", "kinds", "cell", "room"] (defScope (top 19)) := ⟨rfl, rfl, rfl, by decide +kernel, rfl, by decide +kernel, by decide +kernel⟩
theorem cs18 (cf : CF) : compSs GG cf ["world", "kind", "shape", "spot", "tests", "found", "kept", "side", "names", "make", "fields", "at", "step", "parts", "more", "part"] 40 (defScope (top 20)) (defBody (top 20)) = some (B18 cf) := by kernel_rfl
theorem sc18 : FnScope ["world", "kind", "shape", "spot", "tests", "found", "kept", "side", "names", "make", "fields", "at", "step", "parts", "more", "part"] ["world", "kind", "shape", "spot"] (defScope (top 20)) := ⟨rfl, rfl, rfl, by decide +kernel, rfl, by decide +kernel, by decide +kernel⟩
theorem cs19 (cf : CF) : compSs GG cf ["answer", "line", "inner"] 40 (defScope (top 21)) (defBody (top 21)) = some (B19 cf) := by kernel_rfl
theorem sc19 : FnScope ["answer", "line", "inner"] ["answer", "line"] (defScope (top 21)) := ⟨rfl, rfl, rfl, by decide +kernel, rfl, by decide +kernel, by decide +kernel⟩
theorem cs20 (cf : CF) : compSs GG cf ["found", "due", "a", "b"] 40 (defScope (top 22)) (defBody (top 22)) = some (B20 cf) := by kernel_rfl
theorem sc20 : FnScope ["found", "due", "a", "b"] ["found", "due"] (defScope (top 22)) := ⟨rfl, rfl, rfl, by decide +kernel, rfl, by decide +kernel, by decide +kernel⟩
theorem cs21 (cf : CF) : compSs GG cf ["script", "pool", "world", "kinds", "asked", "cell", "shape", "guard", "answer", "line", "turn"] 40 (defScope (top 23)) (defBody (top 23)) = some (B21 cf) := by kernel_rfl
theorem sc21 : FnScope ["script", "pool", "world", "kinds", "asked", "cell", "shape", "guard", "answer", "line", "turn"] ["script"] (defScope (top 23)) := ⟨rfl, rfl, rfl, by decide +kernel, rfl, by decide +kernel, by decide +kernel⟩
end K49

set_option Elab.async false
set_option linter.all false
set_option maxRecDepth 100000
set_option maxHeartbeats 8000000
/-! K2: what the top has written; the law's head. -/
namespace K49
open PySem L2 Mp
open PyProof.Rows hiding St

inductive F2 {α β : Type} (P : α → β → Prop) : List α → List β → Prop
  | nil : F2 P [] []
  | cons {a : α} {b : β} {l : List α} {r : List β} (h : P a b) (t : F2 P l r) : F2 P (a :: l) (b :: r)
theorem F2.at_ {α β : Type} {P : α → β → Prop} : ∀ {l : List α} {r : List β} {i : Nat} {a : α}, F2 P l r → l[i]? = some a → ∃ b, r[i]? = some b ∧ P a b
  | _, _, _, _, .nil, e => by simp at e
  | _, _, 0, _, .cons h _, e => by
    simp at e
    subst e
    exact ⟨_, rfl, h⟩
  | _, _, i + 1, _, .cons _ t, e => by
    simp at e
    obtain ⟨b, h1, h2⟩ := t.at_ e
    exact ⟨b, by simpa using h1, h2⟩
def RowOk (K : PySem.W.Frag) (mg : Str → Option Value) (fd : FD) (b : FB) : Prop :=
  b.np = fd.ps.length ∧ b.nn = fd.N.length ∧ FnScope fd.N fd.ps (defScope fd.st) ∧ (∀ cf, ∃ n, compSs GG cf fd.N n (defScope fd.st) (defBody fd.st) = some (b.B cf)) ∧
    ∃ fa fdata, Fun K fd.name fd.name fd.st fa fdata ∧ mg fd.name = some (.ref fa) ∧ Binds K fdata fd.ps []
theorem row_mk {K : PySem.W.Frag} {h : Heap} {mg : Str → Option Value} (X : K.In h) (G : h.Ns mainGlobals mg) {fd : FD} {b : FB} {f : Addr} {od an : Option Addr} {sl : Array (Option Value)} {oc kV dc pm cd ct : Value}
    (h1 : b.np = fd.ps.length) (h2 : b.nn = fd.N.length) (sc : FnScope fd.N fd.ps (defScope fd.st)) (cs : ∀ cf, compSs GG cf fd.N 40 (defScope fd.st) (defBody fd.st) = some (b.B cf))
    (bd : ∀ (kV dc pm : Value) (an : Option Addr) (cd ct : Value) (us : List Value), us.length = fd.ps.length → bindArgs (PySem.W.fnOf fd.name fd.name (defArgs fd.st) (defBody fd.st) (defScope fd.st) .none kV dc pm an cd ct) ⟨us, []⟩ = pure (fd.ps.zip us))
    (a : PySem.W.nsIn K mainGlobals fd.name = some (some (.ref f))) (l : K.lookup f = some ⟨oc, od, .func (PySem.W.fnOf fd.name fd.name (defArgs fd.st) (defBody fd.st) (defScope fd.st) .none kV dc pm an cd ct), sl⟩) (c : PySem.W.codeIn K cd fd.name = true)
    (k : PySem.W.keepIn K (.ref f) = true) : RowOk K mg fd b :=
  ⟨h1, h2, sc, fun cf => ⟨40, cs cf⟩, f, _, fun_mk l c k, PySem.W.mg_of X G a, (fun_mk l c k).binds bd⟩
theorem bd0 (kV dc pm : Value) (an : Option Addr) (cd ct : Value) (us : List Value) (hl : us.length = (["answer", "line"] : List Str).length) : bindArgs (PySem.W.fnOf "term_of" "term_of" (defArgs (top 1)) (defBody (top 1)) (defScope (top 1)) .none kV dc pm an cd ct) ⟨us, []⟩ = pure ((["answer", "line"] : List Str).zip us) := match us, hl with | [_, _], _ => rfl
theorem bd1 (kV dc pm : Value) (an : Option Addr) (cd ct : Value) (us : List Value) (hl : us.length = (["script", "k"] : List Str).length) : bindArgs (PySem.W.fnOf "_law_cell" "_law_cell" (defArgs (top 3)) (defBody (top 3)) (defScope (top 3)) .none kV dc pm an cd ct) ⟨us, []⟩ = pure ((["script", "k"] : List Str).zip us) := match us, hl with | [_, _], _ => rfl
theorem bd2 (kV dc pm : Value) (an : Option Addr) (cd ct : Value) (us : List Value) (hl : us.length = (["cell"] : List Str).length) : bindArgs (PySem.W.fnOf "_law_pool" "_law_pool" (defArgs (top 4)) (defBody (top 4)) (defScope (top 4)) .none kV dc pm an cd ct) ⟨us, []⟩ = pure ((["cell"] : List Str).zip us) := match us, hl with | [_], _ => rfl
theorem bd3 (kV dc pm : Value) (an : Option Addr) (cd ct : Value) (us : List Value) (hl : us.length = (["pool", "base"] : List Str).length) : bindArgs (PySem.W.fnOf "_law_next" "_law_next" (defArgs (top 5)) (defBody (top 5)) (defScope (top 5)) .none kV dc pm an cd ct) ⟨us, []⟩ = pure ((["pool", "base"] : List Str).zip us) := match us, hl with | [_, _], _ => rfl
theorem bd4 (kV dc pm : Value) (an : Option Addr) (cd ct : Value) (us : List Value) (hl : us.length = (["pool", "many"] : List Str).length) : bindArgs (PySem.W.fnOf "_law_names" "_law_names" (defArgs (top 6)) (defBody (top 6)) (defScope (top 6)) .none kV dc pm an cd ct) ⟨us, []⟩ = pure ((["pool", "many"] : List Str).zip us) := match us, hl with | [_, _], _ => rfl
theorem bd5 (kV dc pm : Value) (an : Option Addr) (cd ct : Value) (us : List Value) (hl : us.length = (["pool"] : List Str).length) : bindArgs (PySem.W.fnOf "_law_book" "_law_book" (defArgs (top 7)) (defBody (top 7)) (defScope (top 7)) .none kV dc pm an cd ct) ⟨us, []⟩ = pure ((["pool"] : List Str).zip us) := match us, hl with | [_], _ => rfl
theorem bd6 (kV dc pm : Value) (an : Option Addr) (cd ct : Value) (us : List Value) (hl : us.length = (["make", "ranks"] : List Str).length) : bindArgs (PySem.W.fnOf "_law_comes" "_law_comes" (defArgs (top 8)) (defBody (top 8)) (defScope (top 8)) .none kV dc pm an cd ct) ⟨us, []⟩ = pure ((["make", "ranks"] : List Str).zip us) := match us, hl with | [_, _], _ => rfl
theorem bd7 (kV dc pm : Value) (an : Option Addr) (cd ct : Value) (us : List Value) (hl : us.length = (["book"] : List Str).length) : bindArgs (PySem.W.fnOf "_law_world" "_law_world" (defArgs (top 9)) (defBody (top 9)) (defScope (top 9)) .none kV dc pm an cd ct) ⟨us, []⟩ = pure ((["book"] : List Str).zip us) := match us, hl with | [_], _ => rfl
theorem bd8 (kV dc pm : Value) (an : Option Addr) (cd ct : Value) (us : List Value) (hl : us.length = (["world", "pool"] : List Str).length) : bindArgs (PySem.W.fnOf "_law_two_kinds" "_law_two_kinds" (defArgs (top 10)) (defBody (top 10)) (defScope (top 10)) .none kV dc pm an cd ct) ⟨us, []⟩ = pure ((["world", "pool"] : List Str).zip us) := match us, hl with | [_, _], _ => rfl
theorem bd9 (kV dc pm : Value) (an : Option Addr) (cd ct : Value) (us : List Value) (hl : us.length = (["pool"] : List Str).length) : bindArgs (PySem.W.fnOf "_law_number" "_law_number" (defArgs (top 11)) (defBody (top 11)) (defScope (top 11)) .none kV dc pm an cd ct) ⟨us, []⟩ = pure ((["pool"] : List Str).zip us) := match us, hl with | [_], _ => rfl
theorem bd10 (kV dc pm : Value) (an : Option Addr) (cd ct : Value) (us : List Value) (hl : us.length = (["world", "kind", "deep"] : List Str).length) : bindArgs (PySem.W.fnOf "_law_choices" "_law_choices" (defArgs (top 12)) (defBody (top 12)) (defScope (top 12)) .none kV dc pm an cd ct) ⟨us, []⟩ = pure ((["world", "kind", "deep"] : List Str).zip us) := match us, hl with | [_, _, _], _ => rfl
theorem bd11 (kV dc pm : Value) (an : Option Addr) (cd ct : Value) (us : List Value) (hl : us.length = (["pool", "room"] : List Str).length) : bindArgs (PySem.W.fnOf "_law_stretch" "_law_stretch" (defArgs (top 13)) (defBody (top 13)) (defScope (top 13)) .none kV dc pm an cd ct) ⟨us, []⟩ = pure ((["pool", "room"] : List Str).zip us) := match us, hl with | [_, _], _ => rfl
theorem bd12 (kV dc pm : Value) (an : Option Addr) (cd ct : Value) (us : List Value) (hl : us.length = (["world", "kind", "pool", "deep", "room", "names"] : List Str).length) : bindArgs (PySem.W.fnOf "_law_either" "_law_either" (defArgs (top 14)) (defBody (top 14)) (defScope (top 14)) .none kV dc pm an cd ct) ⟨us, []⟩ = pure ((["world", "kind", "pool", "deep", "room", "names"] : List Str).zip us) := match us, hl with | [_, _, _, _, _, _], _ => rfl
theorem bd13 (kV dc pm : Value) (an : Option Addr) (cd ct : Value) (us : List Value) (hl : us.length = (["world", "kind", "pool", "deep", "room", "names"] : List Str).length) : bindArgs (PySem.W.fnOf "_law_shape" "_law_shape" (defArgs (top 15)) (defBody (top 15)) (defScope (top 15)) .none kV dc pm an cd ct) ⟨us, []⟩ = pure ((["world", "kind", "pool", "deep", "room", "names"] : List Str).zip us) := match us, hl with | [_, _, _, _, _, _], _ => rfl
theorem bd14 (kV dc pm : Value) (an : Option Addr) (cd ct : Value) (us : List Value) (hl : us.length = (["world", "kind", "shape"] : List Str).length) : bindArgs (PySem.W.fnOf "_law_kept" "_law_kept" (defArgs (top 16)) (defBody (top 16)) (defScope (top 16)) .none kV dc pm an cd ct) ⟨us, []⟩ = pure ((["world", "kind", "shape"] : List Str).zip us) := match us, hl with | [_, _, _], _ => rfl
theorem bd15 (kV dc pm : Value) (an : Option Addr) (cd ct : Value) (us : List Value) (hl : us.length = (["pool", "kept", "room"] : List Str).length) : bindArgs (PySem.W.fnOf "_law_guard" "_law_guard" (defArgs (top 17)) (defBody (top 17)) (defScope (top 17)) .none kV dc pm an cd ct) ⟨us, []⟩ = pure ((["pool", "kept", "room"] : List Str).zip us) := match us, hl with | [_, _, _], _ => rfl
theorem bd16 (kV dc pm : Value) (an : Option Addr) (cd ct : Value) (us : List Value) (hl : us.length = (["world", "kind", "pool", "deep", "kept"] : List Str).length) : bindArgs (PySem.W.fnOf "_law_answer" "_law_answer" (defArgs (top 18)) (defBody (top 18)) (defScope (top 18)) .none kV dc pm an cd ct) ⟨us, []⟩ = pure ((["world", "kind", "pool", "deep", "kept"] : List Str).zip us) := match us, hl with | [_, _, _, _, _], _ => rfl
theorem bd17 (kV dc pm : Value) (an : Option Addr) (cd ct : Value) (us : List Value) (hl : us.length = (["world", "kinds", "cell", "room"] : List Str).length) : bindArgs (PySem.W.fnOf "_law_row" "_law_row" (defArgs (top 19)) (defBody (top 19)) (defScope (top 19)) .none kV dc pm an cd ct) ⟨us, []⟩ = pure ((["world", "kinds", "cell", "room"] : List Str).zip us) := match us, hl with | [_, _, _, _], _ => rfl
theorem bd18 (kV dc pm : Value) (an : Option Addr) (cd ct : Value) (us : List Value) (hl : us.length = (["world", "kind", "shape", "spot"] : List Str).length) : bindArgs (PySem.W.fnOf "_law_lines" "_law_lines" (defArgs (top 20)) (defBody (top 20)) (defScope (top 20)) .none kV dc pm an cd ct) ⟨us, []⟩ = pure ((["world", "kind", "shape", "spot"] : List Str).zip us) := match us, hl with | [_, _, _, _], _ => rfl
theorem bd19 (kV dc pm : Value) (an : Option Addr) (cd ct : Value) (us : List Value) (hl : us.length = (["answer", "line"] : List Str).length) : bindArgs (PySem.W.fnOf "_law_term" "_law_term" (defArgs (top 21)) (defBody (top 21)) (defScope (top 21)) .none kV dc pm an cd ct) ⟨us, []⟩ = pure ((["answer", "line"] : List Str).zip us) := match us, hl with | [_, _], _ => rfl
theorem bd20 (kV dc pm : Value) (an : Option Addr) (cd ct : Value) (us : List Value) (hl : us.length = (["found", "due"] : List Str).length) : bindArgs (PySem.W.fnOf "_law_same" "_law_same" (defArgs (top 22)) (defBody (top 22)) (defScope (top 22)) .none kV dc pm an cd ct) ⟨us, []⟩ = pure ((["found", "due"] : List Str).zip us) := match us, hl with | [_, _], _ => rfl
theorem bd21 (kV dc pm : Value) (an : Option Addr) (cd ct : Value) (us : List Value) (hl : us.length = (["script"] : List Str).length) : bindArgs (PySem.W.fnOf "law" "law" (defArgs (top 23)) (defBody (top 23)) (defScope (top 23)) .none kV dc pm an cd ct) ⟨us, []⟩ = pure ((["script"] : List Str).zip us) := match us, hl with | [_], _ => rfl
theorem tab_mk {K : PySem.W.Frag} {h : Heap} {mg : Str → Option Value} (X : K.In h) (G : h.Ns mainGlobals mg)
    {f0 f1 f2 f3 f4 f5 f6 f7 f8 f9 f10 f11 f12 f13 f14 f15 f16 f17 f18 f19 f20 f21 : Addr} {od0 an0 od1 an1 od2 an2 od3 an3 od4 an4 od5 an5 od6 an6 od7 an7 od8 an8 od9 an9 od10 an10 od11 an11 od12 an12 od13 an13 od14 an14 od15 an15 od16 an16 od17 an17 od18 an18 od19 an19 od20 an20 od21 an21 : Option Addr} {sl0 sl1 sl2 sl3 sl4 sl5 sl6 sl7 sl8 sl9 sl10 sl11 sl12 sl13 sl14 sl15 sl16 sl17 sl18 sl19 sl20 sl21 : Array (Option Value)} {oc0 kV0 dc0 pm0 cd0 ct0 oc1 kV1 dc1 pm1 cd1 ct1 oc2 kV2 dc2 pm2 cd2 ct2 oc3 kV3 dc3 pm3 cd3 ct3 oc4 kV4 dc4 pm4 cd4 ct4 oc5 kV5 dc5 pm5 cd5 ct5 oc6 kV6 dc6 pm6 cd6 ct6 oc7 kV7 dc7 pm7 cd7 ct7 oc8 kV8 dc8 pm8 cd8 ct8 oc9 kV9 dc9 pm9 cd9 ct9 oc10 kV10 dc10 pm10 cd10 ct10 oc11 kV11 dc11 pm11 cd11 ct11 oc12 kV12 dc12 pm12 cd12 ct12 oc13 kV13 dc13 pm13 cd13 ct13 oc14 kV14 dc14 pm14 cd14 ct14 oc15 kV15 dc15 pm15 cd15 ct15 oc16 kV16 dc16 pm16 cd16 ct16 oc17 kV17 dc17 pm17 cd17 ct17 oc18 kV18 dc18 pm18 cd18 ct18 oc19 kV19 dc19 pm19 cd19 ct19 oc20 kV20 dc20 pm20 cd20 ct20 oc21 kV21 dc21 pm21 cd21 ct21 : Value}
    (a0 : PySem.W.nsIn K mainGlobals "term_of" = some (some (.ref f0))) (l0 : K.lookup f0 = some ⟨oc0, od0, .func (PySem.W.fnOf "term_of" "term_of" (defArgs (top 1)) (defBody (top 1)) (defScope (top 1)) .none kV0 dc0 pm0 an0 cd0 ct0), sl0⟩) (c0 : PySem.W.codeIn K cd0 "term_of" = true) (k0 : PySem.W.keepIn K (.ref f0) = true)
    (a1 : PySem.W.nsIn K mainGlobals "_law_cell" = some (some (.ref f1))) (l1 : K.lookup f1 = some ⟨oc1, od1, .func (PySem.W.fnOf "_law_cell" "_law_cell" (defArgs (top 3)) (defBody (top 3)) (defScope (top 3)) .none kV1 dc1 pm1 an1 cd1 ct1), sl1⟩) (c1 : PySem.W.codeIn K cd1 "_law_cell" = true) (k1 : PySem.W.keepIn K (.ref f1) = true)
    (a2 : PySem.W.nsIn K mainGlobals "_law_pool" = some (some (.ref f2))) (l2 : K.lookup f2 = some ⟨oc2, od2, .func (PySem.W.fnOf "_law_pool" "_law_pool" (defArgs (top 4)) (defBody (top 4)) (defScope (top 4)) .none kV2 dc2 pm2 an2 cd2 ct2), sl2⟩) (c2 : PySem.W.codeIn K cd2 "_law_pool" = true) (k2 : PySem.W.keepIn K (.ref f2) = true)
    (a3 : PySem.W.nsIn K mainGlobals "_law_next" = some (some (.ref f3))) (l3 : K.lookup f3 = some ⟨oc3, od3, .func (PySem.W.fnOf "_law_next" "_law_next" (defArgs (top 5)) (defBody (top 5)) (defScope (top 5)) .none kV3 dc3 pm3 an3 cd3 ct3), sl3⟩) (c3 : PySem.W.codeIn K cd3 "_law_next" = true) (k3 : PySem.W.keepIn K (.ref f3) = true)
    (a4 : PySem.W.nsIn K mainGlobals "_law_names" = some (some (.ref f4))) (l4 : K.lookup f4 = some ⟨oc4, od4, .func (PySem.W.fnOf "_law_names" "_law_names" (defArgs (top 6)) (defBody (top 6)) (defScope (top 6)) .none kV4 dc4 pm4 an4 cd4 ct4), sl4⟩) (c4 : PySem.W.codeIn K cd4 "_law_names" = true) (k4 : PySem.W.keepIn K (.ref f4) = true)
    (a5 : PySem.W.nsIn K mainGlobals "_law_book" = some (some (.ref f5))) (l5 : K.lookup f5 = some ⟨oc5, od5, .func (PySem.W.fnOf "_law_book" "_law_book" (defArgs (top 7)) (defBody (top 7)) (defScope (top 7)) .none kV5 dc5 pm5 an5 cd5 ct5), sl5⟩) (c5 : PySem.W.codeIn K cd5 "_law_book" = true) (k5 : PySem.W.keepIn K (.ref f5) = true)
    (a6 : PySem.W.nsIn K mainGlobals "_law_comes" = some (some (.ref f6))) (l6 : K.lookup f6 = some ⟨oc6, od6, .func (PySem.W.fnOf "_law_comes" "_law_comes" (defArgs (top 8)) (defBody (top 8)) (defScope (top 8)) .none kV6 dc6 pm6 an6 cd6 ct6), sl6⟩) (c6 : PySem.W.codeIn K cd6 "_law_comes" = true) (k6 : PySem.W.keepIn K (.ref f6) = true)
    (a7 : PySem.W.nsIn K mainGlobals "_law_world" = some (some (.ref f7))) (l7 : K.lookup f7 = some ⟨oc7, od7, .func (PySem.W.fnOf "_law_world" "_law_world" (defArgs (top 9)) (defBody (top 9)) (defScope (top 9)) .none kV7 dc7 pm7 an7 cd7 ct7), sl7⟩) (c7 : PySem.W.codeIn K cd7 "_law_world" = true) (k7 : PySem.W.keepIn K (.ref f7) = true)
    (a8 : PySem.W.nsIn K mainGlobals "_law_two_kinds" = some (some (.ref f8))) (l8 : K.lookup f8 = some ⟨oc8, od8, .func (PySem.W.fnOf "_law_two_kinds" "_law_two_kinds" (defArgs (top 10)) (defBody (top 10)) (defScope (top 10)) .none kV8 dc8 pm8 an8 cd8 ct8), sl8⟩) (c8 : PySem.W.codeIn K cd8 "_law_two_kinds" = true) (k8 : PySem.W.keepIn K (.ref f8) = true)
    (a9 : PySem.W.nsIn K mainGlobals "_law_number" = some (some (.ref f9))) (l9 : K.lookup f9 = some ⟨oc9, od9, .func (PySem.W.fnOf "_law_number" "_law_number" (defArgs (top 11)) (defBody (top 11)) (defScope (top 11)) .none kV9 dc9 pm9 an9 cd9 ct9), sl9⟩) (c9 : PySem.W.codeIn K cd9 "_law_number" = true) (k9 : PySem.W.keepIn K (.ref f9) = true)
    (a10 : PySem.W.nsIn K mainGlobals "_law_choices" = some (some (.ref f10))) (l10 : K.lookup f10 = some ⟨oc10, od10, .func (PySem.W.fnOf "_law_choices" "_law_choices" (defArgs (top 12)) (defBody (top 12)) (defScope (top 12)) .none kV10 dc10 pm10 an10 cd10 ct10), sl10⟩) (c10 : PySem.W.codeIn K cd10 "_law_choices" = true) (k10 : PySem.W.keepIn K (.ref f10) = true)
    (a11 : PySem.W.nsIn K mainGlobals "_law_stretch" = some (some (.ref f11))) (l11 : K.lookup f11 = some ⟨oc11, od11, .func (PySem.W.fnOf "_law_stretch" "_law_stretch" (defArgs (top 13)) (defBody (top 13)) (defScope (top 13)) .none kV11 dc11 pm11 an11 cd11 ct11), sl11⟩) (c11 : PySem.W.codeIn K cd11 "_law_stretch" = true) (k11 : PySem.W.keepIn K (.ref f11) = true)
    (a12 : PySem.W.nsIn K mainGlobals "_law_either" = some (some (.ref f12))) (l12 : K.lookup f12 = some ⟨oc12, od12, .func (PySem.W.fnOf "_law_either" "_law_either" (defArgs (top 14)) (defBody (top 14)) (defScope (top 14)) .none kV12 dc12 pm12 an12 cd12 ct12), sl12⟩) (c12 : PySem.W.codeIn K cd12 "_law_either" = true) (k12 : PySem.W.keepIn K (.ref f12) = true)
    (a13 : PySem.W.nsIn K mainGlobals "_law_shape" = some (some (.ref f13))) (l13 : K.lookup f13 = some ⟨oc13, od13, .func (PySem.W.fnOf "_law_shape" "_law_shape" (defArgs (top 15)) (defBody (top 15)) (defScope (top 15)) .none kV13 dc13 pm13 an13 cd13 ct13), sl13⟩) (c13 : PySem.W.codeIn K cd13 "_law_shape" = true) (k13 : PySem.W.keepIn K (.ref f13) = true)
    (a14 : PySem.W.nsIn K mainGlobals "_law_kept" = some (some (.ref f14))) (l14 : K.lookup f14 = some ⟨oc14, od14, .func (PySem.W.fnOf "_law_kept" "_law_kept" (defArgs (top 16)) (defBody (top 16)) (defScope (top 16)) .none kV14 dc14 pm14 an14 cd14 ct14), sl14⟩) (c14 : PySem.W.codeIn K cd14 "_law_kept" = true) (k14 : PySem.W.keepIn K (.ref f14) = true)
    (a15 : PySem.W.nsIn K mainGlobals "_law_guard" = some (some (.ref f15))) (l15 : K.lookup f15 = some ⟨oc15, od15, .func (PySem.W.fnOf "_law_guard" "_law_guard" (defArgs (top 17)) (defBody (top 17)) (defScope (top 17)) .none kV15 dc15 pm15 an15 cd15 ct15), sl15⟩) (c15 : PySem.W.codeIn K cd15 "_law_guard" = true) (k15 : PySem.W.keepIn K (.ref f15) = true)
    (a16 : PySem.W.nsIn K mainGlobals "_law_answer" = some (some (.ref f16))) (l16 : K.lookup f16 = some ⟨oc16, od16, .func (PySem.W.fnOf "_law_answer" "_law_answer" (defArgs (top 18)) (defBody (top 18)) (defScope (top 18)) .none kV16 dc16 pm16 an16 cd16 ct16), sl16⟩) (c16 : PySem.W.codeIn K cd16 "_law_answer" = true) (k16 : PySem.W.keepIn K (.ref f16) = true)
    (a17 : PySem.W.nsIn K mainGlobals "_law_row" = some (some (.ref f17))) (l17 : K.lookup f17 = some ⟨oc17, od17, .func (PySem.W.fnOf "_law_row" "_law_row" (defArgs (top 19)) (defBody (top 19)) (defScope (top 19)) .none kV17 dc17 pm17 an17 cd17 ct17), sl17⟩) (c17 : PySem.W.codeIn K cd17 "_law_row" = true) (k17 : PySem.W.keepIn K (.ref f17) = true)
    (a18 : PySem.W.nsIn K mainGlobals "_law_lines" = some (some (.ref f18))) (l18 : K.lookup f18 = some ⟨oc18, od18, .func (PySem.W.fnOf "_law_lines" "_law_lines" (defArgs (top 20)) (defBody (top 20)) (defScope (top 20)) .none kV18 dc18 pm18 an18 cd18 ct18), sl18⟩) (c18 : PySem.W.codeIn K cd18 "_law_lines" = true) (k18 : PySem.W.keepIn K (.ref f18) = true)
    (a19 : PySem.W.nsIn K mainGlobals "_law_term" = some (some (.ref f19))) (l19 : K.lookup f19 = some ⟨oc19, od19, .func (PySem.W.fnOf "_law_term" "_law_term" (defArgs (top 21)) (defBody (top 21)) (defScope (top 21)) .none kV19 dc19 pm19 an19 cd19 ct19), sl19⟩) (c19 : PySem.W.codeIn K cd19 "_law_term" = true) (k19 : PySem.W.keepIn K (.ref f19) = true)
    (a20 : PySem.W.nsIn K mainGlobals "_law_same" = some (some (.ref f20))) (l20 : K.lookup f20 = some ⟨oc20, od20, .func (PySem.W.fnOf "_law_same" "_law_same" (defArgs (top 22)) (defBody (top 22)) (defScope (top 22)) .none kV20 dc20 pm20 an20 cd20 ct20), sl20⟩) (c20 : PySem.W.codeIn K cd20 "_law_same" = true) (k20 : PySem.W.keepIn K (.ref f20) = true)
    (a21 : PySem.W.nsIn K mainGlobals "law" = some (some (.ref f21))) (l21 : K.lookup f21 = some ⟨oc21, od21, .func (PySem.W.fnOf "law" "law" (defArgs (top 23)) (defBody (top 23)) (defScope (top 23)) .none kV21 dc21 pm21 an21 cd21 ct21), sl21⟩) (c21 : PySem.W.codeIn K cd21 "law" = true) (k21 : PySem.W.keepIn K (.ref f21) = true)
    (z0 : PySem.W.nsIn K mainGlobals "all" = some none) (z1 : PySem.W.nsIn K mainGlobals "any" = some none) (z2 : PySem.W.nsIn K mainGlobals "bool" = some none) (z3 : PySem.W.nsIn K mainGlobals "dict" = some none) (z4 : PySem.W.nsIn K mainGlobals "int" = some none) (z5 : PySem.W.nsIn K mainGlobals "isinstance" = some none) (z6 : PySem.W.nsIn K mainGlobals "len" = some none) (z7 : PySem.W.nsIn K mainGlobals "list" = some none) (z8 : PySem.W.nsIn K mainGlobals "max" = some none) (z9 : PySem.W.nsIn K mainGlobals "min" = some none) (z10 : PySem.W.nsIn K mainGlobals "range" = some none) (z11 : PySem.W.nsIn K mainGlobals "str" = some none) (z12 : PySem.W.nsIn K mainGlobals "tuple" = some none) (z13 : PySem.W.nsIn K mainGlobals "zip" = some none) : Tab GG Bs K mg := by
  have F : F2 (RowOk K mg) fds Bs := .cons (row_mk X G rfl rfl sc0 cs0 bd0 a0 l0 c0 k0) <| .cons (row_mk X G rfl rfl sc1 cs1 bd1 a1 l1 c1 k1) <| .cons (row_mk X G rfl rfl sc2 cs2 bd2 a2 l2 c2 k2) <| .cons (row_mk X G rfl rfl sc3 cs3 bd3 a3 l3 c3 k3) <| .cons (row_mk X G rfl rfl sc4 cs4 bd4 a4 l4 c4 k4) <| .cons (row_mk X G rfl rfl sc5 cs5 bd5 a5 l5 c5 k5) <| .cons (row_mk X G rfl rfl sc6 cs6 bd6 a6 l6 c6 k6) <| .cons (row_mk X G rfl rfl sc7 cs7 bd7 a7 l7 c7 k7) <| .cons (row_mk X G rfl rfl sc8 cs8 bd8 a8 l8 c8 k8) <| .cons (row_mk X G rfl rfl sc9 cs9 bd9 a9 l9 c9 k9) <| .cons (row_mk X G rfl rfl sc10 cs10 bd10 a10 l10 c10 k10) <| .cons (row_mk X G rfl rfl sc11 cs11 bd11 a11 l11 c11 k11) <| .cons (row_mk X G rfl rfl sc12 cs12 bd12 a12 l12 c12 k12) <| .cons (row_mk X G rfl rfl sc13 cs13 bd13 a13 l13 c13 k13) <| .cons (row_mk X G rfl rfl sc14 cs14 bd14 a14 l14 c14 k14) <| .cons (row_mk X G rfl rfl sc15 cs15 bd15 a15 l15 c15 k15) <| .cons (row_mk X G rfl rfl sc16 cs16 bd16 a16 l16 c16 k16) <| .cons (row_mk X G rfl rfl sc17 cs17 bd17 a17 l17 c17 k17) <| .cons (row_mk X G rfl rfl sc18 cs18 bd18 a18 l18 c18 k18) <| .cons (row_mk X G rfl rfl sc19 cs19 bd19 a19 l19 c19 k19) <| .cons (row_mk X G rfl rfl sc20 cs20 bd20 a20 l20 c20 k20) <| .cons (row_mk X G rfl rfl sc21 cs21 bd21 a21 l21 c21 k21) .nil
  refine ⟨fun i fd e => F.at_ e, fun x hx => ?_, fun x d e => by cases e⟩
  have hx : x ∈ (["all", "any", "bool", "dict", "int", "isinstance", "len", "list", "max", "min", "range", "str", "tuple", "zip"] : List Str) := hx
  simp only [List.mem_cons, List.not_mem_nil, or_false] at hx
  rcases hx with rfl | rfl | rfl | rfl | rfl | rfl | rfl | rfl | rfl | rfl | rfl | rfl | rfl | rfl
  · exact PySem.W.mg_none_of X G z0
  · exact PySem.W.mg_none_of X G z1
  · exact PySem.W.mg_none_of X G z2
  · exact PySem.W.mg_none_of X G z3
  · exact PySem.W.mg_none_of X G z4
  · exact PySem.W.mg_none_of X G z5
  · exact PySem.W.mg_none_of X G z6
  · exact PySem.W.mg_none_of X G z7
  · exact PySem.W.mg_none_of X G z8
  · exact PySem.W.mg_none_of X G z9
  · exact PySem.W.mg_none_of X G z10
  · exact PySem.W.mg_none_of X G z11
  · exact PySem.W.mg_none_of X G z12
  · exact PySem.W.mg_none_of X G z13
end K49

set_option Elab.async false
set_option linter.all false
set_option maxRecDepth 100000
set_option maxHeartbeats 8000000
/-! Mp14: how one reckons with evaluations. -/
namespace Mp
open PySem L2
open PyProof.Rows hiding St

/-- the evaluation answers, and what it answers is as Q says -/
def Wp {α : Type} (x : R α) (Q : α → Store → Prop) : Prop := ∃ a S, x = .ok a S ∧ Q a S
section
variable {α β : Type} {x : R α} {f : α → Store → R β}
@[simp] theorem wp_ok {a : α} {S : Store} {Q : α → Store → Prop} : Wp (.ok a S) Q ↔ Q a S := by
  constructor
  · rintro ⟨b, T, e, h⟩
    cases e
    exact h
  · exact fun h => ⟨a, S, rfl, h⟩
@[simp] theorem wp_stuck {Q : α → Store → Prop} : Wp (.stuck : R α) Q ↔ False := by
  constructor
  · rintro ⟨b, T, e, h⟩
    cases e
  · exact fun h => h.elim
theorem wp_bind {Q : β → Store → Prop} : Wp (x.bind f) Q ↔ Wp x fun a S => Wp (f a S) Q := by
  constructor
  · rintro ⟨b, T, e, h⟩
    obtain ⟨a, S, e1, e2⟩ := R.bind_ok e
    exact ⟨a, S, e1, b, T, e2, h⟩
  · rintro ⟨a, S, e1, b, T, e2, h⟩
    exact ⟨b, T, by rw [e1]; exact e2, h⟩
theorem Wp.mono {P Q : α → Store → Prop} (h : Wp x P) (k : ∀ a S, P a S → Q a S) : Wp x Q := by
  obtain ⟨a, S, e, p⟩ := h
  exact ⟨a, S, e, k a S p⟩
@[simp] theorem bind_ok' {a : α} {S : Store} : (R.ok a S).bind f = f a S := rfl
/-- a step whose answer is known -/
theorem Wp.step {P : α → Store → Prop} {Q : β → Store → Prop} (h : Wp x P) (k : ∀ a S, P a S → Wp (f a S) Q) : Wp (x.bind f) Q := wp_bind.mpr (h.mono k)
theorem Wp.ite {c : Prop} [Decidable c] {x y : R α} {Q : α → Store → Prop} (h1 : c → Wp x Q) (h2 : ¬c → Wp y Q) : Wp (if c then x else y) Q := by
  by_cases h : c
  · rw [if_pos h]; exact h1 h
  · rw [if_neg h]; exact h2 h
end

/-! ### loops -/
section
variable {nxt : Nat → Store → Option (Option Itm)} {pt : Pt}
theorem wp_forI {body : DS} (n : Nat) (item : Nat → Itm) (Inv : Nat → Env → Store → Prop) {Q : Fl → Store → Prop}
    (hnext : ∀ i ρ S, i < n → Inv i ρ S → nxt i S = some (some (item i))) (hend : ∀ ρ S, Inv n ρ S → nxt n S = some none)
    (hstep : ∀ i ρ S, i < n → Inv i ρ S → ∃ ρ1, bindP pt (item i) ρ = some ρ1 ∧ Wp (body ρ1 S) fun o S2 => match o with
      | .nx ρ2 => Inv (i + 1) ρ2 S2
      | .ct ρ2 => Inv (i + 1) ρ2 S2
      | .bk ρ2 => Q (.nx ρ2) S2
      | .rt d => Q (.rt d) S2)
    (hdone : ∀ ρ S, Inv n ρ S → Q (.nx ρ) S) : ∀ (f i : Nat) (ρ : Env) (S : Store), Inv i ρ S → i ≤ n → n - i < f → Wp (forI nxt pt body f i ρ S) Q
  | 0, i, ρ, S, h, _, hf => by omega
  | f + 1, i, ρ, S, h, hi, hf => by
    unfold forI
    by_cases hlt : i < n
    · rw [hnext i ρ S hlt h]
      obtain ⟨ρ1, e1, w⟩ := hstep i ρ S hlt h
      dsimp only
      rw [e1]
      dsimp only
      refine Wp.step w fun o S2 q => ?_
      cases o with
      | nx ρ2 => exact wp_forI n item Inv hnext hend hstep hdone f (i + 1) ρ2 S2 q hlt (by omega)
      | ct ρ2 => exact wp_forI n item Inv hnext hend hstep hdone f (i + 1) ρ2 S2 q hlt (by omega)
      | bk ρ2 => exact wp_ok.mpr q
      | rt d => exact wp_ok.mpr q
    · have e : i = n := by omega
      subst e
      rw [hend ρ S h]
      exact wp_ok.mpr (hdone ρ S h)
theorem wp_compI {vs : List Nat} {tt : DT} {te : DE} {ρ : Env} (n : Nat) (item : Nat → Itm) (Inv : Nat → List D → Store → Prop)
    (hnext : ∀ i acc S, i < n → Inv i acc S → nxt i S = some (some (item i))) (hend : ∀ acc S, Inv n acc S → nxt n S = some none)
    (hstep : ∀ i acc S, i < n → Inv i acc S → ∃ ρ1, bindP pt (item i) (wipeD ρ vs) = some ρ1 ∧ Wp (tt ρ1 S) fun c S1 => if c = true then Wp (te ρ1 S1) fun y S2 => Inv (i + 1) (acc ++ [y]) S2 else Inv (i + 1) acc S1) :
    ∀ (f i : Nat) (acc : List D) (S : Store), Inv i acc S → i ≤ n → n - i < f → Wp (compI nxt pt vs tt te f i ρ S) fun ys S2 => Inv n (acc ++ ys) S2
  | 0, i, acc, S, h, _, hf => by omega
  | f + 1, i, acc, S, h, hi, hf => by
    unfold compI
    by_cases hlt : i < n
    · rw [hnext i acc S hlt h]
      obtain ⟨ρ1, e1, w⟩ := hstep i acc S hlt h
      dsimp only
      rw [e1]
      dsimp only
      refine Wp.step w fun c S1 q => ?_
      cases c with
      | true =>
        rw [if_pos rfl] at q ⊢
        refine Wp.step q fun y S2 q2 => ?_
        refine Wp.step (wp_compI n item Inv hnext hend hstep f (i + 1) (acc ++ [y]) S2 q2 hlt (by omega)) fun ys S3 q3 => ?_
        refine wp_ok.mpr ?_
        rw [List.append_assoc] at q3
        exact q3
      | false =>
        rw [if_neg (by simp)] at q ⊢
        exact wp_compI n item Inv hnext hend hstep f (i + 1) acc S1 q hlt (by omega)
    · have e : i = n := by omega
      subst e
      rw [hend acc S h]
      refine wp_ok.mpr ?_
      rw [List.append_nil]
      exact h
end

/-! ### what each piece does, for rewriting -/
section
variable {ρ : Env} {S : Store}
theorem ap_sSeq {a b : DS} : sSeq a b ρ S = (a ρ S).bind fun o S1 => match o with
  | .nx ρ1 => b ρ1 S1
  | o => .ok o S1 := rfl
theorem wp_seq {a b : DS} {Q : Fl → Store → Prop} (h : Wp (a ρ S) fun o S1 => match o with
  | .nx ρ1 => Wp (b ρ1 S1) Q
  | o => Q o S1) : Wp (sSeq a b ρ S) Q := by
  unfold sSeq
  refine Wp.step h fun o S1 q => ?_
  cases o <;> first | exact q | exact wp_ok.mpr q
theorem wp_skip {Q : Fl → Store → Prop} (h : Q (.nx ρ) S) : Wp (sSkip ρ S) Q := wp_ok.mpr h
theorem wp_ret {e : DE} {Q : Fl → Store → Prop} (h : Wp (e ρ S) fun d S1 => Q (.rt d) S1) : Wp (sRet e ρ S) Q := Wp.step h fun d S1 q => wp_ok.mpr q
theorem wp_expr {e : DE} {Q : Fl → Store → Prop} (h : Wp (e ρ S) fun _ S1 => Q (.nx ρ) S1) : Wp (sExpr e ρ S) Q := Wp.step h fun d S1 q => wp_ok.mpr q
theorem wp_sif {t : DT} {a b : DS} {Q : Fl → Store → Prop} (h : Wp (t ρ S) fun c S1 => if c = true then Wp (a ρ S1) Q else Wp (b ρ S1) Q) : Wp (sIf t a b ρ S) Q := by
  refine Wp.step h fun c S1 q => ?_
  by_cases hc : c = true
  · rw [if_pos hc] at q ⊢; exact q
  · rw [if_neg hc] at q ⊢; exact q
theorem wp_set1 {i : Nat} {e : DE} {Q : Fl → Store → Prop} (h : Wp (e ρ S) fun d S1 => Q (.nx (ρ.set i (some d))) S1) : Wp (sSet (.nm i) e ρ S) Q := Wp.step h fun d S1 q => wp_ok.mpr q
theorem wp_run {b : DS} {Q : D → Store → Prop} (h : Wp (b ρ S) fun o S1 => match o with
  | .nx _ => Q .non S1
  | .rt d => Q d S1
  | _ => False) : Wp (runB b ρ S) Q := by
  unfold runB
  refine Wp.step h fun o S1 q => ?_
  cases o <;> first | exact wp_ok.mpr q | exact q.elim
theorem wp_bin {f : D → D → Store → R D} {a b : DE} {Q : D → Store → Prop} (h : Wp (a ρ S) fun x S1 => Wp (b ρ S1) fun y S2 => Wp (f x y S2) Q) : Wp (eBin f a b ρ S) Q := Wp.step h fun x S1 q => Wp.step q fun y S2 q2 => q2
theorem wp_tE {a : DE} {Q : Bool → Store → Prop} (h : Wp (a ρ S) fun x S1 => x = .bl true ∧ Q true S1 ∨ x = .bl false ∧ Q false S1) : Wp (tOfE a ρ S) Q := by
  unfold tOfE
  refine Wp.step h fun x S1 q => ?_
  rcases q with ⟨rfl, q⟩ | ⟨rfl, q⟩ <;> exact wp_ok.mpr q
theorem wp_setP {p : Pt} {e : DE} {Q : Fl → Store → Prop} (h : Wp (e ρ S) fun d S1 => ∃ ρ1, bindP p (.one d) ρ = some ρ1 ∧ Q (.nx ρ1) S1) : Wp (sSet p e ρ S) Q := by
  unfold sSet
  refine Wp.step h fun d S1 q => ?_
  obtain ⟨ρ1, e, q⟩ := q
  rw [e]
  exact wp_ok.mpr q
theorem wp_put {o i e : DE} {Q : Fl → Store → Prop} (h : Wp (e ρ S) fun v S1 => Wp (o ρ S1) fun x S2 => Wp (i ρ S2) fun y S3 => ∃ S4, storeD x y v S3 = some S4 ∧ Q (.nx ρ) S4) : Wp (sPut o i e ρ S) Q := by
  unfold sPut
  refine Wp.step h fun v S1 q => Wp.step q fun x S2 q => Wp.step q fun y S3 q => ?_
  obtain ⟨S4, e, q⟩ := q
  rw [e]
  exact wp_ok.mpr q
theorem wp_un {f : D → Store → R D} {a : DE} {Q : D → Store → Prop} (h : Wp (a ρ S) fun x S1 => Wp (f x S1) Q) : Wp (eUn f a ρ S) Q := Wp.step h fun x S1 q => q
theorem wp_app {f : List D → Store → R D} {a : DA} {Q : D → Store → Prop} (h : Wp (a ρ S) fun x S1 => Wp (f x S1) Q) : Wp (eApp f a ρ S) Q := Wp.step h fun x S1 q => q
theorem wp_nil {Q : List D → Store → Prop} (h : Q [] S) : Wp (aNil ρ S) Q := wp_ok.mpr h
theorem wp_cons {a : DE} {r : DA} {Q : List D → Store → Prop} (h : Wp (a ρ S) fun x S1 => Wp (r ρ S1) fun xs S2 => Q (x :: xs) S2) : Wp (aCons a r ρ S) Q := Wp.step h fun x S1 q => Wp.step q fun xs S2 q => wp_ok.mpr q
theorem wp_tup {a : DA} {Q : D → Store → Prop} (h : Wp (a ρ S) fun ds S1 => Q (.tup ds) S1) : Wp (eTup a ρ S) Q := Wp.step h fun ds S1 q => wp_ok.mpr q
theorem wp_lst {a : DA} {Q : D → Store → Prop} (h : Wp (a ρ S) fun ds S1 => Q (.ref S1.length) (S1 ++ [.lst ds])) : Wp (eLst a ρ S) Q := Wp.step h fun ds S1 q => wp_ok.mpr q
theorem wp_slot {i : Nat} {d : D} {Q : D → Store → Prop} (h : ρ[i]? = some (some d)) (q : Q d S) : Wp (eSlot i ρ S) Q := by
  unfold eSlot
  rw [h]
  exact wp_ok.mpr q
theorem wp_const {d : D} {Q : D → Store → Prop} (q : Q d S) : Wp (eConst d ρ S) Q := wp_ok.mpr q
theorem wp_meth {chk : D → Store → Bool} {f : D → List D → Store → R D} {a : DE} {as : DA} {Q : D → Store → Prop} (h : Wp (a ρ S) fun x S1 => chk x S1 = true ∧ Wp (as ρ S1) fun xs S2 => Wp (f x xs S2) Q) : Wp (eMeth chk f a as ρ S) Q := by
  unfold eMeth
  refine Wp.step h fun x S1 q => ?_
  rw [if_pos q.1]
  exact Wp.step q.2 fun xs S2 q => q
theorem wp_join {a b : DE} {Q : D → Store → Prop} (h : Wp (a ρ S) fun x S1 => isS x S1 = true ∧ Wp (b ρ S1) fun y S2 => Wp (mJoin x y S2) Q) : Wp (eJoin a b ρ S) Q := by
  unfold eJoin
  refine Wp.step h fun x S1 q => ?_
  rw [if_pos q.1]
  exact Wp.step q.2 fun xs S2 q => q
theorem wp_eif {t : DT} {a b : DE} {Q : D → Store → Prop} (h : Wp (t ρ S) fun c S1 => if c = true then Wp (a ρ S1) Q else Wp (b ρ S1) Q) : Wp (eIf t a b ρ S) Q := by
  refine Wp.step h fun c S1 q => ?_
  by_cases hc : c = true
  · rw [if_pos hc] at q ⊢; exact q
  · rw [if_neg hc] at q ⊢; exact q
theorem wp_tand {a b : DT} {Q : Bool → Store → Prop} (h : Wp (a ρ S) fun c S1 => if c = true then Wp (b ρ S1) Q else Q false S1) : Wp (tAndD a b ρ S) Q := by
  refine Wp.step h fun c S1 q => ?_
  by_cases hc : c = true
  · rw [if_pos hc] at q ⊢; exact q
  · rw [if_neg hc] at q ⊢; exact wp_ok.mpr q
theorem wp_tor {a b : DT} {Q : Bool → Store → Prop} (h : Wp (a ρ S) fun c S1 => if c = true then Q true S1 else Wp (b ρ S1) Q) : Wp (tOrD a b ρ S) Q := by
  refine Wp.step h fun c S1 q => ?_
  by_cases hc : c = true
  · rw [if_pos hc] at q ⊢; exact wp_ok.mpr q
  · rw [if_neg hc] at q ⊢; exact q
theorem wp_tnot {a : DT} {Q : Bool → Store → Prop} (h : Wp (a ρ S) fun c S1 => Q (!c) S1) : Wp (tNotD a ρ S) Q := Wp.step h fun c S1 q => wp_ok.mpr q
/-- a test that tells c -/
theorem wp_test {a : DE} {Q : Bool → Store → Prop} (h : Wp (a ρ S) fun x S1 => ∃ c, x = .bl c ∧ Q c S1) : Wp (tOfE a ρ S) Q := by
  unfold tOfE
  refine Wp.step h fun x S1 q => ?_
  obtain ⟨c, rfl, q⟩ := q
  exact wp_ok.mpr q
theorem wp_cut {a : DE} {lo hi : DO} {Q : D → Store → Prop} (h : Wp (a ρ S) fun x S1 => Wp (lo ρ S1) fun l S2 => Wp (hi ρ S2) fun u S3 => Wp (dCut x l u S3) Q) : Wp (eCut a lo hi ρ S) Q :=
  Wp.step h fun x S1 q => Wp.step q fun y S2 q => Wp.step q fun z S3 q => q
theorem wp_osome {a : DE} {Q : Option Int → Store → Prop} (h : Wp (a ρ S) fun x S1 => ∃ i, x = .int i ∧ Q (some i) S1) : Wp (oSome a ρ S) Q := by
  unfold oSome
  refine Wp.step h fun x S1 q => ?_
  obtain ⟨c, rfl, q⟩ := q
  exact wp_ok.mpr q
theorem wp_onone {Q : Option Int → Store → Prop} (h : Q none S) : Wp (oNone ρ S) Q := wp_ok.mpr h
theorem wp_isi {T : String} {e : DE} {Q : D → Store → Prop} (h : Wp (e ρ S) fun d S1 => ∃ t, tyD d S1 = some t ∧ Q (.bl (isiB t T)) S1) : Wp (eIsi T e ρ S) Q := by
  unfold eIsi
  refine Wp.step h fun x S1 q => ?_
  obtain ⟨c, e, q⟩ := q
  rw [e]
  exact wp_ok.mpr q
theorem wp_pnil {Q : List (Key × D) → Store → Prop} (h : Q [] S) : Wp (pNil ρ S) Q := wp_ok.mpr h
theorem wp_pcons {k v : DE} {r : DP} {Q : List (Key × D) → Store → Prop} (h : Wp (k ρ S) fun x S1 => Wp (v ρ S1) fun y S2 => Wp (r ρ S2) fun ps S3 => ∃ key, keyD x = some key ∧ Q ((key, y) :: ps) S3) : Wp (pCons k v r ρ S) Q := by
  unfold pCons
  refine Wp.step h fun x S1 q => Wp.step q fun y S2 q => Wp.step q fun z S3 q => ?_
  obtain ⟨c, e, q⟩ := q
  rw [e]
  exact wp_ok.mpr q
theorem wp_dict {p : DP} {Q : D → Store → Prop} (h : Wp (p ρ S) fun ps S1 => Q (.ref S1.length) (S1 ++ [.dK (mergeD [] ps)])) : Wp (eDict p ρ S) Q := Wp.step h fun x S1 q => wp_ok.mpr q
theorem wp_for {it : DI} {pt : Pt} {body : DS} {Q : Fl → Store → Prop} (h : Wp (it ρ S) fun j S1 => Wp (forI j.nxt pt body j.fuel 0 ρ S1) Q) : Wp (sFor it pt body ρ S) Q := Wp.step h fun x S1 q => q
theorem wp_comp {it : DI} {pt : Pt} {vs : List Nat} {tt : DT} {te : DE} {Q : D → Store → Prop} (h : Wp (it ρ S) fun j S1 => Wp (compI j.nxt pt vs tt te j.fuel 0 ρ S1) fun ys S2 => ys.length ≤ sizeLine ∧ Q (.ref S2.length) (S2 ++ [.lst ys])) :
    Wp (eComp it pt vs tt te ρ S) Q := by
  unfold eComp
  refine Wp.step h fun x S1 q => Wp.step q fun y S2 q => ?_
  rw [if_pos q.1]
  exact wp_ok.mpr q.2
/-! values -/
theorem wp_mod {i j : Int} {Q : D → Store → Prop} (h : 0 < j) (q : Q (.int (i % j)) S) : Wp (dMod (.int i) (.int j) S) Q := by
  unfold dMod
  dsimp only
  rw [if_pos h]
  exact wp_ok.mpr q
theorem wp_fdiv {i j : Int} {Q : D → Store → Prop} (h : 0 < j ∧ j < 2 ^ 200) (q : Q (.int (i / j)) S) : Wp (dFdiv (.int i) (.int j) S) Q := by
  unfold dFdiv
  dsimp only
  rw [if_pos h]
  exact wp_ok.mpr q
theorem wp_mul {i j : Int} {Q : D → Store → Prop} (h : (-(2 ^ 64) < i ∧ i < 2 ^ 64) ∨ (-(2 ^ 64) < j ∧ j < 2 ^ 64)) (q : Q (.int (i * j)) S) : Wp (dMul (.int i) (.int j) S) Q := by
  unfold dMul
  dsimp only
  rw [if_pos h]
  exact wp_ok.mpr q
theorem wp_pow {i j : Int} {Q : D → Store → Prop} (h : (0 ≤ j ∧ j ≤ 1000000) ∧ (-(2 ^ 64) < i ∧ i < 2 ^ 64)) (q : Q (.int (i ^ j.toNat)) S) : Wp (dPow (.int i) (.int j) S) Q := by
  unfold dPow
  dsimp only
  rw [if_pos h]
  exact wp_ok.mpr q
theorem wp_idxL {n : Nat} {i : Int} {ds : List D} {x : D} {Q : D → Store → Prop} (h : getL S n = some ds) (e : atI ds i = some x) (q : Q x S) : Wp (dIdx (.ref n) (.int i) S) Q := by
  unfold dIdx
  dsimp only
  rw [h]
  dsimp only
  rw [e]
  exact wp_ok.mpr q
theorem wp_idxT {i : Int} {ds : List D} {x : D} {Q : D → Store → Prop} (e : atI ds i = some x) (q : Q x S) : Wp (dIdx (.tup ds) (.int i) S) Q := by
  unfold dIdx
  dsimp only
  rw [e]
  exact wp_ok.mpr q
theorem wp_idxF {i : Int} {ds : List D} {x : D} {Q : D → Store → Prop} (e : atI ds i = some x) (q : Q x S) : Wp (dIdx (.frz ds) (.int i) S) Q := by
  unfold dIdx
  dsimp only
  rw [e]
  exact wp_ok.mpr q
theorem wp_idxS {i : Int} {z : Str} {c : Nat} {Q : D → Store → Prop} (hz : z.length ≤ sizeLine) (e : atI z.cps.toList i = some c) (q : Q (.str ⟨#[c]⟩) S) : Wp (dIdx (.str z) (.int i) S) Q := by
  unfold dIdx
  dsimp only
  rw [if_pos hz, e]
  exact wp_ok.mpr q
theorem getL_dK {n : Nat} {ks : List (Key × D)} (h : S[n]? = some (.dK ks)) : getL S n = none := by
  unfold getL
  rw [h]
theorem getL_lst {n : Nat} {ks : List D} (h : S[n]? = some (.lst ks)) : getL S n = some ks := by
  unfold getL
  rw [h]
theorem wp_idxK {n : Nat} {y x : D} {k : Key} {ks : List (Key × D)} {Q : D → Store → Prop} (h : S[n]? = some (.dK ks)) (hk : keyD y = some k) (e : lookK ks k = some x) (q : Q x S) : Wp (dIdx (.ref n) y S) Q := by
  unfold dIdx
  dsimp only
  rw [getL_dK h]
  dsimp only
  rw [h]
  dsimp only
  rw [hk]
  dsimp only
  rw [e]
  exact wp_ok.mpr q
theorem wp_append {n : Nat} {y : D} {ds : List D} {Q : D → Store → Prop} (h : S[n]? = some (.lst ds)) (hz : ds.length < sizeLine) (q : Q .non (S.set n (.lst (ds ++ [y])))) : Wp (mAppend (.ref n) [y] S) Q := by
  unfold mAppend
  dsimp only
  rw [h]
  dsimp only
  rw [if_pos hz]
  exact wp_ok.mpr q
theorem wp_extend {n b : Nat} {ds es : List D} {Q : D → Store → Prop} (h : S[n]? = some (.lst ds)) (h2 : S[b]? = some (.lst es)) (hz : ds.length + es.length ≤ sizeLine) (q : Q .non (S.set n (.lst (ds ++ es)))) : Wp (mExtend (.ref n) [.ref b] S) Q := by
  unfold mExtend
  dsimp only
  rw [h, h2]
  dsimp only
  rw [if_pos hz]
  exact wp_ok.mpr q
theorem wp_pop0 {n : Nat} {d : D} {ds : List D} {Q : D → Store → Prop} (h : S[n]? = some (.lst (d :: ds))) (q : Q d (S.set n (.lst ds))) : Wp (mPop (.ref n) [.int 0] S) Q := by
  unfold mPop
  dsimp only
  rw [h]
  dsimp only
  rw [if_pos ⟨by omega, by simp⟩]
  exact wp_ok.mpr q
theorem isL_lst {n : Nat} {ds : List D} (h : S[n]? = some (.lst ds)) : isL (.ref n) S = true := by
  unfold isL
  dsimp only
  rw [getL_lst h]
  rfl
theorem isK_dK {n : Nat} {ds : List (Key × D)} (h : S[n]? = some (.dK ds)) : isK (.ref n) S = true := by
  unfold isK
  dsimp only
  rw [h]
theorem wp_lenL {n : Nat} {ds : List D} {Q : D → Store → Prop} (h : getL S n = some ds) (q : Q (.int ds.length) S) : Wp (bLen [.ref n] S) Q := by
  unfold bLen lenD
  dsimp only
  rw [h]
  exact wp_ok.mpr q
theorem wp_lenS {z : Str} {Q : D → Store → Prop} (h : z.length ≤ sizeLine) (q : Q (.int z.length) S) : Wp (bLen [.str z] S) Q := by
  unfold bLen lenD
  dsimp only
  rw [if_pos h]
  exact wp_ok.mpr q
end

section
variable {S : Store}
theorem wp_addI {i j : Int} {Q : D → Store → Prop} (q : Q (.int (i + j)) S) : Wp (dAdd (.int i) (.int j) S) Q := wp_ok.mpr q
theorem wp_subI {i j : Int} {Q : D → Store → Prop} (q : Q (.int (i - j)) S) : Wp (dSub (.int i) (.int j) S) Q := wp_ok.mpr q
theorem wp_neg {i : Int} {Q : D → Store → Prop} (q : Q (.int (-i)) S) : Wp (dNeg (.int i) S) Q := wp_ok.mpr q
theorem wp_cmp {p : Int → Int → Bool} {i j : Int} {Q : D → Store → Prop} (q : Q (.bl (p i j)) S) : Wp (dCmp p (.int i) (.int j) S) Q := wp_ok.mpr q
theorem wp_eqI {i j : Int} {Q : D → Store → Prop} (q : Q (.bl (decide (i = j))) S) : Wp (dEq (.int i) (.int j) S) Q := wp_ok.mpr q
theorem wp_eqS {i j : Str} {Q : D → Store → Prop} (q : Q (.bl (decide (i = j))) S) : Wp (dEq (.str i) (.str j) S) Q := wp_ok.mpr q
theorem wp_neI {i j : Int} {Q : D → Store → Prop} (q : Q (.bl (!decide (i = j))) S) : Wp (dNe (.int i) (.int j) S) Q := wp_ok.mpr q
theorem wp_neS {i j : Str} {Q : D → Store → Prop} (q : Q (.bl (!decide (i = j))) S) : Wp (dNe (.str i) (.str j) S) Q := wp_ok.mpr q
theorem wp_neB {i j : Bool} {Q : D → Store → Prop} (q : Q (.bl (!decide (i = j))) S) : Wp (dNe (.bl i) (.bl j) S) Q := wp_ok.mpr q
theorem wp_isnt {d : D} {Q : D → Store → Prop} (q : Q (.bl (!isNonD d)) S) : Wp (dIsNot d .non S) Q := wp_ok.mpr q
theorem wp_addT {a b : List D} {Q : D → Store → Prop} (h : a.length + b.length ≤ sizeLine) (q : Q (.tup (a ++ b)) S) : Wp (dAdd (.tup a) (.tup b) S) Q := by
  unfold dAdd
  dsimp only
  rw [if_pos h]
  exact wp_ok.mpr q
theorem wp_addS {a b : Str} {Q : D → Store → Prop} (h : a.length + b.length ≤ sizeLine) (q : Q (.str (a ++ b)) S) : Wp (dAdd (.str a) (.str b) S) Q := by
  unfold dAdd
  dsimp only
  rw [if_pos h]
  exact wp_ok.mpr q
theorem wp_addL {a b : Nat} {x y : List D} {Q : D → Store → Prop} (h1 : S[a]? = some (.lst x)) (h2 : S[b]? = some (.lst y)) (h : x.length + y.length ≤ sizeLine) (q : Q (.ref S.length) (S ++ [.lst (x ++ y)])) : Wp (dAdd (.ref a) (.ref b) S) Q := by
  unfold dAdd
  dsimp only
  rw [h1, h2]
  dsimp only
  rw [if_pos h]
  exact wp_ok.mpr q
theorem wp_min {i j : Int} {Q : D → Store → Prop} (q : Q (.int (if j < i then j else i)) S) : Wp (bMin [.int i, .int j] S) Q := wp_ok.mpr q
theorem wp_max {i j : Int} {Q : D → Store → Prop} (q : Q (.int (if j > i then j else i)) S) : Wp (bMax [.int i, .int j] S) Q := wp_ok.mpr q
theorem wp_intB {b : Bool} {Q : D → Store → Prop} (q : Q (.int (if b then 1 else 0)) S) : Wp (bInt [.bl b] S) Q := wp_ok.mpr q
theorem wp_lenT {ds : List D} {Q : D → Store → Prop} (q : Q (.int ds.length) S) : Wp (bLen [.tup ds] S) Q := wp_ok.mpr q
theorem wp_lenF {ds : List D} {Q : D → Store → Prop} (q : Q (.int ds.length) S) : Wp (bLen [.frz ds] S) Q := wp_ok.mpr q
theorem ex_bl {b : Bool} {Q : Bool → Prop} (q : Q b) : ∃ c, D.bl b = D.bl c ∧ Q c := ⟨b, rfl, q⟩
theorem ex_int {b : Int} {Q : Int → Prop} (q : Q b) : ∃ c, D.int b = D.int c ∧ Q c := ⟨b, rfl, q⟩
theorem iteW {P Q : Prop} (h : P) : (if true = true then P else Q) := by rw [if_pos rfl]; exact h
theorem iteF' {P Q : Prop} (h : Q) : (if false = true then P else Q) := by rw [if_neg (by simp)]; exact h
theorem iteD {c : Prop} [Decidable c] {P Q : Prop} (h1 : c → P) (h2 : ¬c → Q) : (if decide c = true then P else Q) := by
  by_cases h : c
  · rw [if_pos (by simpa using h)]; exact h1 h
  · rw [if_neg (by simpa using h)]; exact h2 h
end

/-! ### what stays of the store -/
/-- nothing but the places W (and new ones) is written -/
def Fr (W : List Nat) (S S' : Store) : Prop := S.length ≤ S'.length ∧ ∀ i, i < S.length → i ∉ W → S'[i]? = S[i]?
theorem Fr.refl {W : List Nat} {S : Store} : Fr W S S := ⟨Nat.le_refl _, fun _ _ _ => rfl⟩
theorem Fr.lt {W : List Nat} {S S' : Store} (h : Fr W S S') {i : Nat} (hi : i < S.length) : i < S'.length := Nat.lt_of_lt_of_le hi h.1
theorem lt_of {S : Store} {i : Nat} {o : MO} (h : S[i]? = some o) : i < S.length := (List.getElem?_eq_some_iff.mp h).1
theorem Fr.get {W : List Nat} {S S' : Store} (h : Fr W S S') {i : Nat} {o : MO} (e : S[i]? = some o) (n : i ∉ W) : S'[i]? = some o := by
  rw [h.2 i (lt_of e) n]
  exact e
theorem Fr.trans {W W' : List Nat} {S S1 S2 : Store} (a : Fr W S S1) (b : Fr W' S1 S2) (hw : ∀ i ∈ W', i ∈ W ∨ S.length ≤ i) : Fr W S S2 := by
  refine ⟨Nat.le_trans a.1 b.1, fun i hi hn => ?_⟩
  rw [b.2 i (a.lt hi) fun q => ?_, a.2 i hi hn]
  rcases hw i q with z | z
  · exact hn z
  · omega
theorem Fr.then1 {W : List Nat} {S S1 S2 : Store} (a : Fr W S S1) (b : Fr W S1 S2) : Fr W S S2 := a.trans b fun i hi => .inl hi
theorem Fr.sub {W W' : List Nat} {S S1 : Store} (a : Fr W S S1) (hw : ∀ i ∈ W, i ∈ W') : Fr W' S S1 := ⟨a.1, fun i hi hn => a.2 i hi fun q => hn (hw i q)⟩
theorem Fr.set {S : Store} {p : Nat} {o : MO} {W : List Nat} (h : p ∈ W) : Fr W S (S.set p o) := by
  refine ⟨by simp, fun i hi hn => ?_⟩
  rw [List.getElem?_set_ne]
  rintro rfl
  exact hn h
theorem Fr.push {S : Store} {o : MO} {W : List Nat} : Fr W S (S ++ [o]) := ⟨by simp, fun i hi hn => List.getElem?_append_left hi⟩
theorem Fr.set_new {W : List Nat} {S S1 : Store} (a : Fr W S S1) {p : Nat} {o : MO} (h : S.length ≤ p) : Fr W S (S1.set p o) :=
  a.trans (Fr.set (W := [p]) (by simp)) fun i hi => .inr (by rw [List.mem_singleton.mp hi]; exact h)
theorem get_push {S : Store} {o : MO} : (S ++ [o])[S.length]? = some o := by simp
theorem get_set {S : Store} {p : Nat} {o : MO} (h : p < S.length) : (S.set p o)[p]? = some o := List.getElem?_set_self h

theorem get_set_ne {S : Store} {i j : Nat} {o x : MO} (h : S[i]? = some o) (n : i ≠ j) : (S.set j x)[i]? = some o := by
  rw [List.getElem?_set_ne (Ne.symm n)]
  exact h
theorem get_old {S : Store} {i : Nat} {o x : MO} (h : S[i]? = some o) : (S ++ [x])[i]? = some o := by
  rw [List.getElem?_append_left (lt_of h)]
  exact h
theorem Fr.push' {W : List Nat} {S S1 : Store} {o : MO} (a : Fr W S S1) : Fr W S (S1 ++ [o]) := a.then1 Fr.push
theorem wp_tupleL {n : Nat} {ds : List D} {S : Store} {Q : D → Store → Prop} (h : getL S n = some ds) (q : Q (.tup ds) S) : Wp (bTuple [.ref n] S) Q := by
  unfold bTuple
  dsimp only
  rw [h]
  exact wp_ok.mpr q
theorem tab_at {L : List Int} {lo hi r : Int} (h : ∀ x ∈ L, lo ≤ x ∧ x ≤ hi) (h0 : 0 ≤ r) (h1 : r < L.length) : ∃ v, atI (L.map D.int) r = some (.int v) ∧ lo ≤ v ∧ v ≤ hi := by
  have hr : r.toNat < L.length := by omega
  refine ⟨L[r.toNat], ?_, h _ (List.getElem_mem hr)⟩
  unfold atI ixN
  rw [List.length_map, if_pos h0, if_pos (by omega)]
  show (L.map D.int)[r.toNat]? = _
  simp [hr]
theorem map_at {α : Type} {L : List α} {g : α → D} {r : Int} (h0 : 0 ≤ r) (h1 : r < L.length) : ∃ v, v ∈ L ∧ L[r.toNat]? = some v ∧ atI (L.map g) r = some (g v) := by
  have hr : r.toNat < L.length := by omega
  refine ⟨L[r.toNat], List.getElem_mem hr, by simp [hr], ?_⟩
  unfold atI ixN
  rw [List.length_map, if_pos h0, if_pos (by omega)]
  show (L.map g)[r.toNat]? = _
  simp [hr]

/-! ### loops over ranges, tuples, lists -/
section
variable {ρ : Env} {S : Store}
abbrev LoopQ (Inv : Nat → Env → Store → Prop) (Q : Fl → Store → Prop) (i : Nat) : Fl → Store → Prop := fun o S2 => match o with
  | .nx ρ2 => Inv (i + 1) ρ2 S2
  | .ct ρ2 => Inv (i + 1) ρ2 S2
  | .bk ρ2 => Q (.nx ρ2) S2
  | .rt d => Q (.rt d) S2
theorem wp_forR {n x : Nat} {lo : Int} {body : DS} {Q : Fl → Store → Prop} (Inv : Nat → Env → Store → Prop) (h0 : Inv 0 ρ S) (hstep : ∀ i ρ S, i < n → Inv i ρ S → Wp (body (ρ.set x (some (.int (lo + (i : Int))))) S) (LoopQ Inv Q i))
    (hdone : ∀ ρ S, Inv n ρ S → Q (.nx ρ) S) : Wp (forI (nxtR lo n) (.nm x) body (n + 1) 0 ρ S) Q :=
  wp_forI n (fun i => .one (.int (lo + (i : Int)))) Inv (fun i ρ S hi _ => by unfold nxtR; rw [if_pos hi]) (fun ρ S _ => by unfold nxtR; rw [if_neg (Nat.lt_irrefl n)])
    (fun i ρ S hi h => ⟨_, rfl, hstep i ρ S hi h⟩) hdone (n + 1) 0 ρ S h0 (Nat.zero_le _) (by omega)
theorem wp_forT {ds : List D} {pt : Pt} {body : DS} {Q : Fl → Store → Prop} (Inv : Nat → Env → Store → Prop) (h0 : Inv 0 ρ S)
    (hstep : ∀ i ρ S (hi : i < ds.length), Inv i ρ S → ∃ ρ1, bindP pt (.one ds[i]) ρ = some ρ1 ∧ Wp (body ρ1 S) (LoopQ Inv Q i))
    (hdone : ∀ ρ S, Inv ds.length ρ S → Q (.nx ρ) S) : Wp (forI (nxtT ds) pt body (ds.length + 1) 0 ρ S) Q :=
  wp_forI ds.length (fun i => .one (ds.getD i .non)) Inv (fun i ρ S hi _ => by unfold nxtT; rw [List.getElem?_eq_getElem hi]; simp [hi]) (fun ρ S _ => by unfold nxtT; rw [List.getElem?_eq_none (Nat.le_refl _)])
    (fun i ρ S hi h => by have := hstep i ρ S hi h; simpa [hi] using this) hdone _ 0 ρ S h0 (Nat.zero_le _) (by omega)
theorem wp_forL {ds : List D} {a : Nat} {pt : Pt} {body : DS} {Q : Fl → Store → Prop} (Inv : Nat → Env → Store → Prop) (h0 : Inv 0 ρ S) (hL : ∀ i ρ S, Inv i ρ S → getL S a = some ds)
    (hstep : ∀ i ρ S (hi : i < ds.length), Inv i ρ S → ∃ ρ1, bindP pt (.one ds[i]) ρ = some ρ1 ∧ Wp (body ρ1 S) (LoopQ Inv Q i))
    (hdone : ∀ ρ S, Inv ds.length ρ S → Q (.nx ρ) S) : Wp (forI (nxtL a) pt body (ds.length + 1) 0 ρ S) Q :=
  wp_forI ds.length (fun i => .one (ds.getD i .non)) Inv (fun i ρ S hi h => by unfold nxtL; rw [hL i ρ S h]; dsimp only; rw [List.getElem?_eq_getElem hi]; simp [hi]) (fun ρ S h => by unfold nxtL; rw [hL _ ρ S h]; dsimp only; rw [List.getElem?_eq_none (Nat.le_refl _)])
    (fun i ρ S hi h => by have := hstep i ρ S hi h; simpa [hi] using this) hdone _ 0 ρ S h0 (Nat.zero_le _) (by omega)
theorem wp_forZT {xs ys : List D} {pt : Pt} {body : DS} {Q : Fl → Store → Prop} (hl : xs.length = ys.length) (Inv : Nat → Env → Store → Prop) (h0 : Inv 0 ρ S)
    (hstep : ∀ i ρ S (hi : i < xs.length), Inv i ρ S → ∃ ρ1, bindP pt (.many [xs[i], ys[i]'(hl ▸ hi)]) ρ = some ρ1 ∧ Wp (body ρ1 S) (LoopQ Inv Q i))
    (hdone : ∀ ρ S, Inv xs.length ρ S → Q (.nx ρ) S) (f : Nat) (hf : xs.length < f) : Wp (forI (nxtZT xs ys) pt body f 0 ρ S) Q :=
  wp_forI xs.length (fun i => .many [xs.getD i .non, ys.getD i .non]) Inv (fun i ρ S hi _ => by
      have hi2 : i < ys.length := hl ▸ hi
      unfold nxtZT
      rw [List.getElem?_eq_getElem hi, List.getElem?_eq_getElem hi2]
      simp [hi, hi2]) (fun ρ S _ => by unfold nxtZT; rw [List.getElem?_eq_none (Nat.le_refl _)])
    (fun i ρ S hi h => by
      have hi2 : i < ys.length := hl ▸ hi
      have := hstep i ρ S hi h
      simpa [hi, hi2] using this) hdone f 0 ρ S h0 (Nat.zero_le _) (by omega)
abbrev CompQ (Inv : Nat → List D → Store → Prop) (i : Nat) (acc : List D) : D → Store → Prop := fun y S2 => Inv (i + 1) (acc ++ [y]) S2
theorem compI_weak {nxt : Nat → Store → Option (Option Itm)} {pt : Pt} {vs : List Nat} {tt : DT} {te : DE} {f i : Nat} {P Q : List D → Store → Prop} (h : Wp (compI nxt pt vs tt te f i ρ S) P) (k : ∀ ys S, P ys S → Q ys S) : Wp (compI nxt pt vs tt te f i ρ S) Q := h.mono k
theorem wp_compR {n x : Nat} {lo : Int} {vs : List Nat} {te : DE} {Q : List D → Store → Prop} (Inv : Nat → List D → Store → Prop) (h0 : Inv 0 [] S)
    (hstep : ∀ i acc S, i < n → Inv i acc S → Wp (te ((wipeD ρ vs).set x (some (.int (lo + (i : Int))))) S) (CompQ Inv i acc))
    (hdone : ∀ ys S, Inv n ys S → Q ys S) : Wp (compI (nxtR lo n) (.nm x) vs tYesD te (n + 1) 0 ρ S) Q :=
  (wp_compI n (fun i => .one (.int (lo + (i : Int)))) Inv (fun i acc S hi _ => by unfold nxtR; rw [if_pos hi]) (fun acc S _ => by unfold nxtR; rw [if_neg (Nat.lt_irrefl n)])
    (fun i acc S hi h => ⟨_, rfl, wp_ok.mpr (by rw [if_pos rfl]; exact hstep i acc S hi h)⟩) (n + 1) 0 [] S h0 (Nat.zero_le _) (by omega)).mono fun ys S2 q => hdone ys S2 (by simpa using q)
theorem wp_compT {ds : List D} {pt : Pt} {vs : List Nat} {tt : DT} {te : DE} {Q : List D → Store → Prop} (Inv : Nat → List D → Store → Prop) (h0 : Inv 0 [] S)
    (hstep : ∀ i acc S (hi : i < ds.length), Inv i acc S → ∃ ρ1, bindP pt (.one ds[i]) (wipeD ρ vs) = some ρ1 ∧ Wp (tt ρ1 S) fun c S1 => if c = true then Wp (te ρ1 S1) (CompQ Inv i acc) else Inv (i + 1) acc S1)
    (hdone : ∀ ys S, Inv ds.length ys S → Q ys S) : Wp (compI (nxtT ds) pt vs tt te (ds.length + 1) 0 ρ S) Q :=
  (wp_compI ds.length (fun i => .one (ds.getD i .non)) Inv (fun i acc S hi _ => by unfold nxtT; rw [List.getElem?_eq_getElem hi]; simp [hi]) (fun acc S _ => by unfold nxtT; rw [List.getElem?_eq_none (Nat.le_refl _)])
    (fun i acc S hi h => by have := hstep i acc S hi h; simpa [hi] using this) _ 0 [] S h0 (Nat.zero_le _) (by omega)).mono fun ys S2 q => hdone ys S2 (by simpa using q)
theorem wp_compL {ds : List D} {a : Nat} {pt : Pt} {vs : List Nat} {tt : DT} {te : DE} {Q : List D → Store → Prop} (Inv : Nat → List D → Store → Prop) (h0 : Inv 0 [] S) (hL : ∀ i acc S, Inv i acc S → getL S a = some ds)
    (hstep : ∀ i acc S (hi : i < ds.length), Inv i acc S → ∃ ρ1, bindP pt (.one ds[i]) (wipeD ρ vs) = some ρ1 ∧ Wp (tt ρ1 S) fun c S1 => if c = true then Wp (te ρ1 S1) (CompQ Inv i acc) else Inv (i + 1) acc S1)
    (hdone : ∀ ys S, Inv ds.length ys S → Q ys S) : Wp (compI (nxtL a) pt vs tt te (ds.length + 1) 0 ρ S) Q :=
  (wp_compI ds.length (fun i => .one (ds.getD i .non)) Inv (fun i acc S hi h => by unfold nxtL; rw [hL i acc S h]; dsimp only; rw [List.getElem?_eq_getElem hi]; simp [hi]) (fun acc S h => by unfold nxtL; rw [hL _ acc S h]; dsimp only; rw [List.getElem?_eq_none (Nat.le_refl _)])
    (fun i acc S hi h => by have := hstep i acc S hi h; simpa [hi] using this) _ 0 [] S h0 (Nat.zero_le _) (by omega)).mono fun ys S2 q => hdone ys S2 (by simpa using q)
theorem wp_yes {Q : Bool → Store → Prop} (h : Q true S) : Wp (tYesD ρ S) Q := wp_ok.mpr h
theorem wp_iTup {e : DE} {Q : DItr → Store → Prop} (h : Wp (e ρ S) fun d S1 => ∃ ds, d = .tup ds ∧ Q ⟨ds.length + 1, nxtT ds⟩ S1) : Wp (iSeq e ρ S) Q := by
  unfold iSeq
  refine Wp.step h fun d S1 q => ?_
  obtain ⟨ds, rfl, q⟩ := q
  exact wp_ok.mpr q
theorem wp_iLst {e : DE} {Q : DItr → Store → Prop} (h : Wp (e ρ S) fun d S1 => ∃ a ds, d = .ref a ∧ getL S1 a = some ds ∧ Q ⟨ds.length + 1, nxtL a⟩ S1) : Wp (iSeq e ρ S) Q := by
  unfold iSeq
  refine Wp.step h fun d S1 q => ?_
  obtain ⟨a, ds, rfl, e, q⟩ := q
  dsimp only
  rw [e]
  exact wp_ok.mpr q
theorem wp_iRg1 {a : DA} {Q : DItr → Store → Prop} (h : Wp (a ρ S) fun ds S1 => ∃ j, ds = [.int j] ∧ rgOk j ∧ Q ⟨j.toNat + 1, nxtR 0 j.toNat⟩ S1) : Wp (iRg1 a ρ S) Q := by
  unfold iRg1
  refine Wp.step h fun d S1 q => ?_
  obtain ⟨j, rfl, e, q⟩ := q
  dsimp only
  rw [if_pos e]
  exact wp_ok.mpr q
theorem wp_iRg2 {a : DA} {Q : DItr → Store → Prop} (h : Wp (a ρ S) fun ds S1 => ∃ i j, ds = [.int i, .int j] ∧ rgOk i ∧ rgOk j ∧ Q ⟨(j - i).toNat + 1, nxtR i (j - i).toNat⟩ S1) : Wp (iRg2 a ρ S) Q := by
  unfold iRg2
  refine Wp.step h fun d S1 q => ?_
  obtain ⟨i, j, rfl, e1, e2, q⟩ := q
  dsimp only
  rw [if_pos ⟨e1, e2⟩]
  exact wp_ok.mpr q
theorem wp_iZT {a : DA} {Q : DItr → Store → Prop} (h : Wp (a ρ S) fun ds S1 => ∃ xs ys, ds = [.tup xs, .tup ys] ∧ Q ⟨xs.length + 1, nxtZT xs ys⟩ S1) : Wp (iZp a ρ S) Q := by
  unfold iZp
  refine Wp.step h fun d S1 q => ?_
  obtain ⟨i, j, rfl, q⟩ := q
  exact wp_ok.mpr q
theorem wp_compZT {xs ys : List D} {pt : Pt} {vs : List Nat} {te : DE} {Q : List D → Store → Prop} (hl : xs.length = ys.length) (Inv : Nat → List D → Store → Prop) (h0 : Inv 0 [] S)
    (hstep : ∀ i acc S (hi : i < xs.length), Inv i acc S → ∃ ρ1, bindP pt (.many [xs[i], ys[i]'(hl ▸ hi)]) (wipeD ρ vs) = some ρ1 ∧ Wp (te ρ1 S) (CompQ Inv i acc))
    (hdone : ∀ zs S, Inv xs.length zs S → Q zs S) : Wp (compI (nxtZT xs ys) pt vs tYesD te (xs.length + 1) 0 ρ S) Q :=
  (wp_compI xs.length (fun i => .many [xs.getD i .non, ys.getD i .non]) Inv (fun i acc S hi _ => by
      have hi2 : i < ys.length := hl ▸ hi
      unfold nxtZT
      rw [List.getElem?_eq_getElem hi, List.getElem?_eq_getElem hi2]
      simp [hi, hi2]) (fun acc S _ => by unfold nxtZT; rw [List.getElem?_eq_none (Nat.le_refl _)])
    (fun i acc S hi h => by
      have hi2 : i < ys.length := hl ▸ hi
      obtain ⟨ρ1, e, w⟩ := hstep i acc S hi h
      exact ⟨ρ1, by simpa [hi, hi2] using e, wp_ok.mpr (by rw [if_pos rfl]; exact w)⟩) _ 0 [] S h0 (Nat.zero_le _) (by omega)).mono fun ys S2 q => hdone ys S2 (by simpa using q)
end
end Mp

set_option Elab.async false
set_option linter.all false
set_option maxRecDepth 100000
set_option maxHeartbeats 400000
/-! K3: the drawing. -/
namespace K49
open PySem L2 Mp
open PyProof.Rows hiding St

local macro_rules | `(tactic| left) => `(tactic| first
  | (with_reducible first
    | refine wp_seq ?_ | refine wp_ret ?_ | refine wp_expr ?_ | refine wp_sif ?_ | refine wp_set1 ?_ | refine wp_bin ?_ | refine wp_put ?_ | refine wp_un ?_ | refine wp_app ?_ | refine wp_nil ?_ | refine wp_cons ?_ | refine wp_tup ?_ | refine wp_lst ?_
    | refine wp_const ?_ | refine wp_meth ?_ | refine wp_join ?_ | refine wp_eif ?_ | refine wp_tand ?_ | refine wp_tor ?_ | refine wp_tnot ?_ | refine wp_test ?_ | refine wp_cut ?_ | refine wp_osome ?_ | refine wp_onone ?_ | refine wp_isi ?_
    | refine wp_pnil ?_ | refine wp_pcons ?_ | refine wp_dict ?_ | refine wp_for ?_ | refine wp_comp ?_ | refine wp_skip ?_ | refine wp_setP ?_ | refine wp_iRg1 ?_ | refine wp_iRg2 ?_ | refine wp_yes ?_
    | refine wp_addI ?_ | refine wp_subI ?_ | refine wp_neg ?_ | refine wp_cmp ?_ | refine wp_eqI ?_ | refine wp_eqS ?_ | refine wp_neI ?_ | refine wp_neS ?_ | refine wp_neB ?_ | refine wp_isnt ?_ | refine wp_min ?_ | refine wp_max ?_ | refine wp_intB ?_ | refine wp_lenT ?_ | refine wp_lenF ?_
    | refine ex_bl ?_ | refine ex_int ?_ | refine iteW ?_ | refine iteF' ?_)
  | ((with_reducible apply wp_slot); exact rfl)
  | ((with_reducible apply wp_idxL); (with_reducible assumption); exact rfl)
  | ((with_reducible apply wp_idxT); exact rfl)
  | ((with_reducible apply wp_lenL); with_reducible assumption)
  | ((with_reducible refine wp_mod ?_ ?_); omega)
  | ((with_reducible refine wp_fdiv ?_ ?_); omega)
  | ((with_reducible refine wp_mul ?_ ?_); omega))
local macro_rules | `(tactic| subst_eqs) => `(tactic| repeat (first | left | dsimp only))

theorem ev (i k : Nat) (args : List D) (S : Store) {b : FB} (h : Bs[i]? = some b) (hl : args.length = b.np) : evalF Bs (k + 1) i args S = runB (b.B (evalF Bs k)) (args.map some ++ List.replicate (b.nn - b.np) none) S := by
  unfold evalF
  rw [h]
  dsimp only
  rw [if_pos hl]
/-- the pool stands at p -/
def Pool (S : Store) (p : Nat) : Prop := ∃ a b c : Int, S[p]? = some (.lst [.int a, .int b, .int c])
theorem Pool.lt {S : Store} {p : Nat} (h : Pool S p) : p < S.length := by
  obtain ⟨a, b, c, h⟩ := h
  exact lt_of h
theorem Pool.fr {W : List Nat} {S S' : Store} {p : Nat} (h : Pool S p) (f : Fr W S S') (n : p ∉ W) : Pool S' p := by
  obtain ⟨a, b, c, h⟩ := h
  exact ⟨a, b, c, f.get h n⟩
theorem next_ok {k p : Nat} {base : Int} {S : Store} (hk : 1 ≤ k) (hp : Pool S p) (h0 : 0 < base) (h1 : base < 2 ^ 200) :
    Wp (evalF Bs k 3 [.ref p, .int base] S) fun d S' => ∃ r : Int, d = .int r ∧ 0 ≤ r ∧ r < base ∧ Pool S' p ∧ Fr [p] S S' := by
  obtain ⟨k, rfl⟩ := Nat.exists_eq_add_of_le' hk
  obtain ⟨a, b, c, hp⟩ := hp
  have hlt : p < S.length := (List.getElem?_eq_some_iff.mp hp).1
  have gl : getL S p = some [.int a, .int b, .int c] := getL_lst hp
  rw [ev 3 k _ S (b := ⟨2, 5, B3⟩) rfl rfl]
  refine wp_run ?_
  show Wp (B3 (evalF Bs k) [some (.ref p), some (.int base), none, none, none] S) _
  unfold B3
  subst_eqs
  apply iteD <;> intro ha
  · subst_eqs
    refine ⟨S.set p (.lst [.int (a / base), .int b, .int c]), by unfold storeD; dsimp only; rw [hp]; rfl, ?_⟩
    subst_eqs
    exact ⟨Int.emod_nonneg _ (by omega), Int.emod_lt_of_pos _ h0, ⟨_, _, _, get_set hlt⟩, Fr.set (by simp)⟩
  · subst_eqs
    refine ⟨S.set p (.lst [.int a, .int b, .int (c + 1)]), by unfold storeD; dsimp only; rw [hp]; rfl, ?_⟩
    have g2 : getL (S.set p (.lst [.int a, .int b, .int (c + 1)])) p = some [.int a, .int b, .int (c + 1)] := getL_lst (get_set hlt)
    have q0 := Int.emod_nonneg (b + 7919 * (c + 1)) (show (1000000007 : Int) ≠ 0 by omega)
    have q1 := Int.emod_lt_of_pos (b + 7919 * (c + 1)) (show (0 : Int) < 1000000007 by omega)
    subst_eqs
    generalize (b + 7919 * (c + 1)) % 1000000007 = near at *
    have q2 := Int.emod_nonneg ((near + 11) * (near + 48271)) (show (998244353 : Int) ≠ 0 by omega)
    have q3 := Int.emod_lt_of_pos ((near + 11) * (near + 48271)) (show (0 : Int) < 998244353 by omega)
    subst_eqs
    exact ⟨Int.emod_nonneg _ (by omega), Int.emod_lt_of_pos _ h0, ⟨_, _, _, get_set hlt⟩, Fr.set (by simp)⟩
theorem cell_ok {k : Nat} {ns : List Int} {j : Nat} {S : Store} (hk : 1 ≤ k) : Wp (evalF Bs k 1 [.frz (ns.map D.int), .int (j : Int)] S) fun d S' => ∃ c : Int, d = .int c ∧ S' = S := by
  obtain ⟨k, rfl⟩ := Nat.exists_eq_add_of_le' hk
  rw [ev 1 k _ S (b := ⟨2, 2, B1⟩) rfl rfl]
  refine wp_run ?_
  show Wp (B1 (evalF Bs k) [some (.frz (ns.map D.int)), some (.int j)] S) _
  unfold B1
  subst_eqs
  apply iteD <;> intro ha
  · subst_eqs
    have hj : j < ns.length := by
      rw [List.length_map] at ha
      omega
    refine wp_idxF (x := .int ns[j]) ?_ ?_
    · unfold atI ixN
      rw [List.length_map, if_pos (by omega), if_pos (by omega)]
      show (ns.map D.int)[(j : Int).toNat]? = _
      simp [hj]
    · exact ⟨_, rfl, rfl⟩
  · subst_eqs
theorem pool_ok {k : Nat} {c : Int} {S : Store} {W : List Nat} (hk : 1 ≤ k) : Wp (evalF Bs k 2 [.int c] S) fun d S' => d = .ref S.length ∧ Pool S' S.length ∧ Fr W S S' := by
  obtain ⟨k, rfl⟩ := Nat.exists_eq_add_of_le' hk
  rw [ev 2 k _ S (b := ⟨1, 1, B2⟩) rfl rfl]
  refine wp_run ?_
  show Wp (B2 (evalF Bs k) [some (.int c)] S) _
  unfold B2
  subst_eqs
  refine wp_pow (by decide +kernel) ?_
  subst_eqs
  refine wp_pow (by decide +kernel) ?_
  refine wp_mod (by decide +kernel) ?_
  subst_eqs
  exact ⟨rfl, ⟨_, _, _, get_push⟩, Fr.push⟩
theorem number_ok {k p : Nat} {S : Store} (hk : 2 ≤ k) (hp : Pool S p) : Wp (evalF Bs k 9 [.ref p] S) fun d S' => ∃ i : Int, d = .int i ∧ Pool S' p ∧ Fr [p] S S' := by
  obtain ⟨k, rfl⟩ := Nat.exists_eq_add_of_le' (show 1 ≤ k by omega)
  rw [ev 9 k _ S (b := ⟨1, 2, B9⟩) rfl rfl]
  refine wp_run ?_
  show Wp (B9 (evalF Bs k) [some (.ref p), none] S) _
  unfold B9
  subst_eqs
  refine (next_ok (by omega) hp (by omega) (by omega)).mono ?_
  rintro _ S1 ⟨r, rfl, r0, r1, hp1, f1⟩
  subst_eqs
  apply iteD <;> intro ha
  · subst_eqs
    refine (next_ok (by omega) hp1 (by omega) (by omega)).mono ?_
    rintro _ S2 ⟨r2, rfl, _, _, hp2, f2⟩
    subst_eqs
    exact ⟨hp2, f1.then1 f2⟩
  · subst_eqs
    apply iteD <;> intro hb
    · subst_eqs
      refine (next_ok (by omega) hp1 (by omega) (by omega)).mono ?_
      rintro _ S2 ⟨r2, rfl, _, _, hp2, f2⟩
      subst_eqs
      exact ⟨hp2, f1.then1 f2⟩
    · subst_eqs
      refine wp_pow (by decide +kernel) ?_
      subst_eqs
      refine (next_ok (by omega) hp1 (by decide +kernel) (by decide +kernel)).mono ?_
      rintro _ S2 ⟨r2, rfl, _, _, hp2, f2⟩
      subst_eqs
      refine wp_pow (by decide +kernel) ?_
      subst_eqs
      refine (next_ok (by omega) hp2 (by decide +kernel) (by decide +kernel)).mono ?_
      rintro _ S3 ⟨r3, rfl, _, _, hp3, f3⟩
      subst_eqs
      exact ⟨hp3, (f1.then1 f2).then1 f3⟩
end K49

set_option Elab.async false
set_option linter.all false
set_option maxRecDepth 100000
set_option maxHeartbeats 400000
namespace K49
open PySem L2 Mp
open PyProof.Rows hiding St

local macro_rules | `(tactic| left) => `(tactic| first
  | (with_reducible first
    | refine wp_seq ?_ | refine wp_ret ?_ | refine wp_expr ?_ | refine wp_sif ?_ | refine wp_set1 ?_ | refine wp_bin ?_ | refine wp_put ?_ | refine wp_un ?_ | refine wp_app ?_ | refine wp_nil ?_ | refine wp_cons ?_ | refine wp_tup ?_ | refine wp_lst ?_
    | refine wp_const ?_ | refine wp_meth ?_ | refine wp_join ?_ | refine wp_eif ?_ | refine wp_tand ?_ | refine wp_tor ?_ | refine wp_tnot ?_ | refine wp_test ?_ | refine wp_cut ?_ | refine wp_osome ?_ | refine wp_onone ?_ | refine wp_isi ?_
    | refine wp_pnil ?_ | refine wp_pcons ?_ | refine wp_dict ?_ | refine wp_for ?_ | refine wp_comp ?_ | refine wp_skip ?_ | refine wp_setP ?_ | refine wp_iRg1 ?_ | refine wp_iRg2 ?_ | refine wp_yes ?_
    | refine wp_addI ?_ | refine wp_subI ?_ | refine wp_neg ?_ | refine wp_cmp ?_ | refine wp_eqI ?_ | refine wp_eqS ?_ | refine wp_neI ?_ | refine wp_neS ?_ | refine wp_neB ?_ | refine wp_isnt ?_ | refine wp_min ?_ | refine wp_max ?_ | refine wp_intB ?_ | refine wp_lenT ?_ | refine wp_lenF ?_
    | refine ex_bl ?_ | refine ex_int ?_ | refine iteW ?_ | refine iteF' ?_)
  | ((with_reducible apply wp_slot); exact rfl)
  | ((with_reducible apply wp_idxL); (with_reducible assumption); exact rfl)
  | ((with_reducible apply wp_idxT); exact rfl)
  | ((with_reducible apply wp_lenL); with_reducible assumption)
  | ((with_reducible refine wp_mod ?_ ?_); omega)
  | ((with_reducible refine wp_fdiv ?_ ?_); omega)
  | ((with_reducible refine wp_mul ?_ ?_); omega))
local macro_rules | `(tactic| subst_eqs) => `(tactic| repeat (first | left | dsimp only))

/-! K4: names. -/
theorem getL_cons_ix {ds : List D} {r : Int} {n : Nat} (h0 : 0 ≤ r) (h1 : r < n) (hl : ds.length = n) : ∃ x, atI ds r = some x ∧ ds[r.toNat]? = some x := by
  have hr : r.toNat < ds.length := by omega
  refine ⟨ds[r.toNat], ?_, by simp [hr]⟩
  unfold atI ixN
  rw [if_pos h0, if_pos (by omega)]
  simp [hr]
theorem atI_nat {α : Type} {ds : List α} {r : Int} {x : α} (h0 : 0 ≤ r) (h : ds[r.toNat]? = some x) : atI ds r = some x := by
  have hr := (List.getElem?_eq_some_iff.mp h).1
  unfold atI ixN
  rw [if_pos h0, if_pos (by omega)]
  exact h
abbrev abc : Str := "abcdefghijklmnopqrstuvwxyz"
theorem abc_all : ∀ r : Fin 26, abc.cps.toList[(r : Nat)]? = some (97 + (r : Nat)) := by decide +kernel
theorem abc_len : abc.length = 26 := by decide +kernel
theorem abc_at {r : Int} (h0 : 0 ≤ r) (h1 : r < 26) : atI abc.cps.toList r = some (97 + r.toNat) := by
  have hr : r.toNat < 26 := by omega
  exact atI_nat h0 (abc_all ⟨r.toNat, hr⟩)
theorem wp_abc {r : Int} {S : Store} {Q : D → Store → Prop} (h0 : 0 ≤ r) (h1 : r < 26) (q : Q (.str ⟨#[97 + r.toNat]⟩) S) : Wp (dIdx (.str abc) (.int r) S) Q :=
  wp_idxS (by rw [abc_len, sizeLine_eq]; decide) (abc_at h0 h1) q
theorem strs_map : ∀ ys : List Str, strsD (ys.map D.str) = some ys
  | [] => rfl
  | y :: ys => by
    show (match strsD (ys.map D.str) with | some xs => some (y :: xs) | none => none) = _
    rw [strs_map ys]
theorem join_len : ∀ ys : List Str, (Txt.join "" ys).length ≤ (ys.map (·.length)).sum := fun ys => by
  have := size_glued "" ys
  have e : (Str.ofString "").length = 0 := by decide +kernel
  rw [e] at this
  have h2 : (Txt.join "" ys).length = _ := this
  omega
theorem cut_lo {z : Str} {n : Nat} (h : n ≤ z.cps.toList.length) : (cutS z none (some (n : Int))).cps.toList = z.cps.toList.take n := by
  have hl : z.length = z.cps.toList.length := by simp [Str.length]
  show ((z.cps.toList.drop (HT.sIx z.length 0 none)).take (HT.sIx z.length z.length (some (n : Int)) - HT.sIx z.length 0 none)).toArray.toList = _
  rw [HT.sIx_nat, HT.sIx_none, hl, Nat.min_eq_left h]
  simp
theorem cut_hi {z : Str} {n : Nat} (h : n ≤ z.cps.toList.length) : (cutS z (some (n : Int)) none).cps.toList = z.cps.toList.drop n := by
  have hl : z.length = z.cps.toList.length := by simp [Str.length]
  show ((z.cps.toList.drop (HT.sIx z.length 0 (some (n : Int)))).take (HT.sIx z.length z.length none - HT.sIx z.length 0 (some (n : Int)))).toArray.toList = _
  rw [HT.sIx_nat, HT.sIx_none, hl, Nat.min_eq_left h]
  have e : (z.cps.toList.drop n).take (z.cps.toList.length - n) = z.cps.toList.drop n := List.take_of_length_le (by simp)
  rw [e]
theorem app_list (a b : Str) : (a ++ b).cps.toList = a.cps.toList ++ b.cps.toList := by
  show (a.cps ++ b.cps).toList = _
  simp
theorem wp_joinL {a : Str} {n : Nat} {ys : List Str} {S : Store} {Q : D → Store → Prop} (h : getL S n = some (ys.map D.str)) (hz : (ys.map (·.length)).sum + ys.length * a.length ≤ 16777216) (q : Q (.str (Txt.join a ys)) S) : Wp (mJoin (.str a) (.ref n) S) Q := by
  unfold mJoin
  dsimp only
  rw [h]
  dsimp only
  rw [strs_map]
  dsimp only
  rw [if_pos hz]
  exact wp_ok.mpr q
theorem wp_cutS {z : Str} {lo hi : Option Int} {S : Store} {Q : D → Store → Prop} (hz : z.length ≤ sizeLine) (q : Q (.str (cutS z lo hi)) S) : Wp (dCut (.str z) lo hi S) Q := by
  unfold dCut
  dsimp only
  rw [if_pos hz]
  exact wp_ok.mpr q
theorem len_list (z : Str) : z.length = z.cps.toList.length := by simp [Str.length]
theorem len_app (a b : Str) : (a ++ b).length = a.length + b.length := by rw [len_list, len_list, len_list, app_list, List.length_append]
/-- names that differ at one place -/
def Fam (at_ first : Nat) (names : List Str) : Prop := ∀ (i : Nat) (x : Str), names[i]? = some x → x.length ≤ 8 ∧ x.cps.toList[at_]? = some (97 + (first + 5 * i) % 26)

theorem fam_app {at_ first : Nat} {names : List Str} {x : Str} (h : Fam at_ first names) (hl : x.length ≤ 8) (hx : x.cps.toList[at_]? = some (97 + (first + 5 * names.length) % 26)) : Fam at_ first (names ++ [x]) := by
  intro i y e
  by_cases hi : i < names.length
  · rw [List.getElem?_append_left hi] at e
    exact h i y e
  · rw [List.getElem?_append_right (by omega)] at e
    have : i - names.length = 0 := by
      have := (List.getElem?_eq_some_iff.mp e).1
      simp at this
      omega
    rw [this] at e
    simp at e
    subst e
    have : i = names.length := by omega
    subst this
    exact ⟨hl, hx⟩
theorem names_ok {k p : Nat} {many : Int} {S : Store} (hk : 2 ≤ k) (hp : Pool S p) (h0 : 0 ≤ many) (h1 : many ≤ 26) :
    Wp (evalF Bs k 4 [.ref p, .int many] S) fun d S' => ∃ n names at_ first, d = .ref n ∧ S.length ≤ n ∧ S'[n]? = some (.lst (names.map D.str)) ∧ (names.length : Int) = many ∧ Fam at_ first names ∧ Pool S' p ∧ Fr [p] S S' := by
  obtain ⟨k, rfl⟩ := Nat.exists_eq_add_of_le' (show 1 ≤ k by omega)
  rw [ev 4 k _ S (b := ⟨2, 10, B4⟩) rfl rfl]
  refine wp_run ?_
  show Wp (B4 (evalF Bs k) [some (.ref p), some (.int many), none, none, none, none, none, none, none, none] S) _
  unfold B4
  subst_eqs
  refine ⟨rfl, ?_⟩
  subst_eqs
  refine (next_ok (by omega) hp (by omega) (by omega)).mono ?_
  rintro _ S1 ⟨r, rfl, r0, r1, hp1, f1⟩
  subst_eqs
  refine ⟨_, rfl, ⟨by omega, by omega⟩, ?_⟩
  refine wp_compR (fun i acc S2 => Pool S2 p ∧ Fr [p] S S2 ∧ ∃ ys : List Str, acc = ys.map D.str ∧ ys.length = i ∧ (ys.map (·.length)).sum ≤ i) ⟨hp1, f1, [], rfl, rfl, Nat.le_refl _⟩ ?_ ?_
  · rintro i acc S2 hi ⟨hp2, f2, ys, rfl, hy, hs⟩
    subst_eqs
    refine (next_ok (by omega) hp2 (by omega) (by omega)).mono ?_
    rintro _ S3 ⟨r3, rfl, r30, r31, hp3, f3⟩
    refine wp_abc r30 r31 ?_
    exact ⟨hp3, f2.then1 f3, ys ++ [⟨#[97 + r3.toNat]⟩], by simp, by simp [hy], by rw [List.map_append, List.sum_append]; show _ + (1 + 0) ≤ _; omega⟩
  · rintro acc S2 ⟨hp2, f2, ys, rfl, hy, hs⟩
    refine ⟨by rw [List.length_map, sizeLine_eq]; omega, ?_⟩
    have e0 : (Str.ofString "").length = 0 := by decide +kernel
    refine wp_joinL (getL_lst get_push) (by rw [e0]; omega) ?_
    have hb := join_len ys
    generalize hbase : Txt.join "" ys = base at hb
    have hbl : base.cps.toList.length = base.length := by simp [Str.length]
    have hp3 : Pool (S2 ++ [MO.lst (ys.map D.str)]) p := hp2.fr (W := []) Fr.push (by simp)
    have f3 : Fr [p] S (S2 ++ [MO.lst (ys.map D.str)]) := f2.then1 Fr.push
    generalize S2 ++ [MO.lst (ys.map D.str)] = S3 at hp3 f3
    subst_eqs
    refine wp_lenS (by rw [sizeLine_eq]; omega) ?_
    subst_eqs
    refine (next_ok (by omega) hp3 (by omega) (by omega)).mono ?_
    rintro _ S4 ⟨r4, rfl, r40, r41, hp4, f4⟩
    subst_eqs
    refine (next_ok (by omega) hp4 (by omega) (by omega)).mono ?_
    rintro _ S5 ⟨r5, rfl, r50, r51, hp5, f5⟩
    subst_eqs
    refine (next_ok (by omega) hp5 (by omega) (by omega)).mono ?_
    rintro _ S6 ⟨r6, rfl, r60, r61, hp6, f6⟩
    subst_eqs
    have f36 : Fr [p] S S6 := ((f3.then1 f4).then1 f5).then1 f6
    have hlen : S.length ≤ S6.length := f36.1
    have hpn : p ≠ S6.length := Nat.ne_of_lt hp6.lt
    refine ⟨_, rfl, ⟨by omega, by omega⟩, ?_⟩
    refine wp_forR (fun i ρ S7 => ∃ v4 v9 names, ρ = [some (.ref p), some (.int many), some (.str abc), some (.str base), v4, some (.int r4), some (.int r5), some (.int r6), some (.ref S6.length), v9] ∧
      Pool S7 p ∧ Fr [p] S S7 ∧ S7[S6.length]? = some (.lst (names.map D.str)) ∧ names.length = i ∧ Fam r4.toNat r5.toNat names) ?_ ?_ ?_
    · refine ⟨_, _, [], rfl, hp6.fr (W := []) Fr.push (by simp), f36.then1 Fr.push, get_push, rfl, fun i x e => by simp at e⟩
    · rintro i _ S7 hi ⟨v4, v9, names, rfl, hp7, f7, g7, hn, hF⟩
      subst_eqs
      refine wp_cutS (by rw [sizeLine_eq]; omega) ?_
      subst_eqs
      refine wp_abc (by omega) (by omega) ?_
      have hr4 : r4.toNat ≤ base.cps.toList.length := by omega
      have er4 : r4 = (r4.toNat : Int) := by omega
      have c1 : (cutS base none (some r4)).cps.toList = base.cps.toList.take r4.toNat := by
        rw [er4]
        exact cut_lo hr4
      have c2 : (cutS base (some r4) none).cps.toList = base.cps.toList.drop r4.toNat := by
        rw [er4]
        exact cut_hi hr4
      have l1 : (cutS base none (some r4)).length = r4.toNat := by rw [len_list, c1, List.length_take]; omega
      have l2 : (cutS base (some r4) none).length = base.length - r4.toNat := by rw [len_list, c2, List.length_drop]; omega
      generalize hc : 97 + ((r5 + 5 * (0 + (i : Int))) % 26).toNat = c
      have hc2 : c = 97 + (r5.toNat + 5 * names.length) % 26 := by omega
      have l3 : (⟨#[c]⟩ : Str).length = 1 := rfl
      have e3 : (⟨#[c]⟩ : Str).cps.toList = [c] := rfl
      refine wp_addS (by rw [l1, l3, sizeLine_eq]; omega) ?_
      subst_eqs
      refine wp_cutS (by rw [sizeLine_eq]; omega) ?_
      refine wp_addS (by rw [len_app, l1, l2, l3, sizeLine_eq]; omega) ?_
      generalize hx : cutS base none (some r4) ++ (⟨#[c]⟩ : Str) ++ cutS base (some r4) none = x
      have lx : x.length ≤ 7 := by
        rw [← hx, len_app, len_app, l1, l2, l3]
        omega
      have ex : x.cps.toList[r4.toNat]? = some (97 + (r5.toNat + 5 * names.length) % 26) := by
        rw [← hx, app_list, app_list, c1, c2, e3, ← hc2, List.append_assoc, List.getElem?_append_right (by rw [List.length_take]; omega), List.length_take, Nat.min_eq_left hr4]
        simp
      have f1 : Fam r4.toNat r5.toNat (names ++ [x]) := fam_app hF (by omega) ex
      have f2 : ∀ c' : Nat, Fam r4.toNat r5.toNat (names ++ [x ++ (⟨#[c']⟩ : Str)]) := fun c' => by
        have l4 : (⟨#[c']⟩ : Str).length = 1 := rfl
        refine fam_app hF (by rw [len_app, l4]; omega) ?_
        rw [app_list, List.getElem?_append_left (List.getElem?_eq_some_iff.mp ex).1]
        exact ex
      subst_eqs
      apply iteD <;> intro ha
      · subst_eqs
        apply iteD <;> intro hb
        · subst_eqs
          refine wp_abc (by omega) (by omega) ?_
          refine wp_addS (by show x.length + 1 ≤ _; rw [sizeLine_eq]; omega) ?_
          subst_eqs
          refine ⟨isL_lst g7, ?_⟩
          subst_eqs
          refine wp_append g7 (by rw [List.length_map, sizeLine_eq]; omega) ?_
          subst_eqs
          refine ⟨_, _, names ++ [x ++ (⟨#[97 + ((r5 + (0 + (i : Int))) % 26).toNat]⟩ : Str)], rfl, hp7.fr (Fr.set (W := [S6.length]) (by simp)) (by simpa using hpn), f7.set_new hlen, ?_, ?_, f2 _⟩
          · rw [List.map_append]
            exact get_set (lt_of g7)
          · simp [hn]
        · subst_eqs
          refine ⟨isL_lst g7, ?_⟩
          subst_eqs
          refine wp_append g7 (by rw [List.length_map, sizeLine_eq]; omega) ?_
          subst_eqs
          refine ⟨_, _, names ++ [x], rfl, hp7.fr (Fr.set (W := [S6.length]) (by simp)) (by simpa using hpn), f7.set_new hlen, ?_, ?_, f1⟩
          · rw [List.map_append]
            exact get_set (lt_of g7)
          · simp [hn]
      · subst_eqs
        refine ⟨isL_lst g7, ?_⟩
        subst_eqs
        refine wp_append g7 (by rw [List.length_map, sizeLine_eq]; omega) ?_
        subst_eqs
        refine ⟨_, _, names ++ [x], rfl, hp7.fr (Fr.set (W := [S6.length]) (by simp)) (by simpa using hpn), f7.set_new hlen, ?_, ?_, f1⟩
        · rw [List.map_append]
          exact get_set (lt_of g7)
        · simp [hn]
    · rintro _ S7 ⟨v4, v9, names, rfl, hp7, f7, g7, hn, hF⟩
      subst_eqs
      exact ⟨_, names, _, _, rfl, hlen, g7, by omega, hF, hp7, f7⟩

end K49

set_option Elab.async false
set_option linter.all false
set_option maxRecDepth 100000
set_option maxHeartbeats 3000000
namespace K49
open PySem L2 Mp
open PyProof.Rows hiding St

local macro_rules | `(tactic| left) => `(tactic| first
  | (with_reducible first
    | refine wp_seq ?_ | refine wp_ret ?_ | refine wp_expr ?_ | refine wp_sif ?_ | refine wp_set1 ?_ | refine wp_bin ?_ | refine wp_put ?_ | refine wp_un ?_ | refine wp_app ?_ | refine wp_nil ?_ | refine wp_cons ?_ | refine wp_tup ?_ | refine wp_lst ?_
    | refine wp_const ?_ | refine wp_meth ?_ | refine wp_join ?_ | refine wp_eif ?_ | refine wp_tand ?_ | refine wp_tor ?_ | refine wp_tnot ?_ | refine wp_test ?_ | refine wp_cut ?_ | refine wp_osome ?_ | refine wp_onone ?_ | refine wp_isi ?_
    | refine wp_pnil ?_ | refine wp_pcons ?_ | refine wp_dict ?_ | refine wp_for ?_ | refine wp_comp ?_ | refine wp_skip ?_ | refine wp_setP ?_ | refine wp_iRg1 ?_ | refine wp_iRg2 ?_ | refine wp_yes ?_
    | refine wp_addI ?_ | refine wp_subI ?_ | refine wp_neg ?_ | refine wp_cmp ?_ | refine wp_eqI ?_ | refine wp_eqS ?_ | refine wp_neI ?_ | refine wp_neS ?_ | refine wp_neB ?_ | refine wp_isnt ?_ | refine wp_min ?_ | refine wp_max ?_ | refine wp_intB ?_ | refine wp_lenT ?_ | refine wp_lenF ?_
    | refine ex_bl ?_ | refine ex_int ?_ | refine iteW ?_ | refine iteF' ?_)
  | ((with_reducible apply wp_slot); exact rfl)
  | ((with_reducible apply wp_idxL); (with_reducible assumption); exact rfl)
  | ((with_reducible apply wp_idxT); exact rfl)
  | ((with_reducible apply wp_lenL); with_reducible assumption)
  | ((with_reducible refine wp_mod ?_ ?_); omega)
  | ((with_reducible refine wp_fdiv ?_ ?_); omega)
  | ((with_reducible refine wp_mul ?_ ?_); omega))
local macro_rules | `(tactic| subst_eqs) => `(tactic| repeat (first | left | dsimp only))

/-! K5: books. -/
theorem Pool.push {S : Store} {p : Nat} {o : MO} (h : Pool S p) : Pool (S ++ [o]) p := h.fr (W := []) Fr.push (by simp)
theorem Pool.set {S : Store} {p j : Nat} {o : MO} (h : Pool S p) (n : p ≠ j) : Pool (S.set j o) p := h.fr (Fr.set (W := [j]) (by simp)) (by simpa using n)
abbrev Mk := Str × List Str
def dMk (m : Mk) : D := .tup [.str m.1, .tup (m.2.map D.str)]
abbrev Kd := Str × List Mk
def dKd (b : Kd) : D := .tup [.str b.1, .tup (b.2.map dMk)]
def mkNames (bk : List Kd) : List Str := bk.flatMap fun b => b.2.map (·.1)
structure WfB (bk : List Kd) : Prop where
  kn : (bk.map (·.1)).Nodup
  nonum : ("num" : Str) ∉ bk.map (·.1)
  mks : (mkNames bk).Nodup
  fl : ∀ b ∈ bk, ∀ m ∈ b.2, m.2.length ≤ 4 ∧ ∀ f ∈ m.2, f = "num" ∨ f ∈ bk.map (·.1)
  ln : bk.length ≤ 6
  ms : ∀ b ∈ bk, b.2.length ≤ 6
/-- names that differ at one place differ -/
theorem char_nodup {at_ first : Nat} {names : List Str} (h : ∀ (i : Nat) (x : Str), names[i]? = some x → x.cps.toList[at_]? = some (97 + (first + 5 * i) % 26)) (hl : names.length ≤ 26) : names.Nodup := by
  refine List.pairwise_iff_getElem.mpr ?_
  intro i j hi hj hij e2
  have h1 := h i _ (List.getElem?_eq_getElem hi)
  have h2 := h j _ (List.getElem?_eq_getElem hj)
  rw [e2, h2] at h1
  have h3 := Option.some.inj h1
  omega
def fix (x : Str) : Str := if x = "num" then "numb" else x
theorem num_list : (Str.ofString "num").cps.toList = [110, 117, 109] := by decide +kernel
theorem numb_list : (Str.ofString "numb").cps.toList = [110, 117, 109, 98] := by decide +kernel
theorem fix_char {x : Str} {n c : Nat} (h : x.cps.toList[n]? = some c) : (fix x).cps.toList[n]? = some c := by
  unfold fix
  by_cases e : x = "num"
  · rw [if_pos e]
    rw [e, num_list] at h
    rw [numb_list]
    rcases n with _ | _ | _ | n
    · exact h
    · exact h
    · exact h
    · simp at h
  · rw [if_neg e]
    exact h
theorem fix_ne {x : Str} : fix x ≠ "num" := by
  unfold fix
  by_cases e : x = "num"
  · rw [if_pos e]
    decide +kernel
  · rw [if_neg e]
    exact e
theorem kinds_nodup {at_ first : Nat} {names : List Str} (h : Fam at_ first names) (hl : names.length ≤ 26) : (names.map fix).Nodup := by
  refine char_nodup (at_ := at_) (first := first) (fun i x e => ?_) (by simpa using hl)
  rw [List.getElem?_map] at e
  cases q : names[i]? with
  | none => rw [q] at e; cases e
  | some y =>
    rw [q] at e
    cases e
    exact fix_char (h i y q).2
theorem wp_pick {n : Nat} {a b : D} {c : Bool} {S : Store} {Q : D → Store → Prop} (h : getL S n = some [a, b]) (q : Q (if c = true then b else a) S) : Wp (dIdx (.ref n) (.int (if c = true then 1 else 0)) S) Q := by
  cases c with
  | true => exact wp_idxL h rfl q
  | false => exact wp_idxL h rfl q
theorem fix_pick (x : Str) : (if decide (x = ("num" : Str)) = true then D.str "numb" else D.str x) = D.str (fix x) := by
  unfold fix
  by_cases e : x = ("num" : Str)
  · rw [if_pos (by simpa using e), if_pos e]
  · rw [if_neg (by simpa using e), if_neg e]
abbrev nn2 : List Str := ["num", "num"]
def FldOk (kinds : List Str) (ms : List Mk) : Prop := ms.length ≤ 6 ∧ ∀ m ∈ ms, m.2.length ≤ 4 ∧ ∀ f ∈ m.2, f = "num" ∨ f ∈ kinds
theorem wp_appendM {n : Nat} {y : D} {α : Type} {g : α → D} {xs : List α} {x : α} {S : Store} {Q : D → Store → Prop} (h : S[n]? = some (.lst (xs.map g))) (e : y = g x) (hz : xs.length < sizeLine) (q : Q .non (S.set n (.lst ((xs ++ [x]).map g)))) : Wp (mAppend (.ref n) [y] S) Q := by
  subst e
  refine wp_append h (by simpa using hz) ?_
  rw [List.map_append] at q
  exact q
theorem book_ok {k p : Nat} {S : Store} (hk : 3 ≤ k) (hp : Pool S p) : Wp (evalF Bs k 5 [.ref p] S) fun d S' => ∃ bk : List Kd, d = .tup (bk.map dKd) ∧ WfB bk ∧ Pool S' p ∧ Fr [p] S S' := by
  obtain ⟨k, rfl⟩ := Nat.exists_eq_add_of_le' (show 1 ≤ k by omega)
  have hpS := hp.lt
  rw [ev 5 k _ S (b := ⟨1, 15, B5⟩) rfl rfl]
  refine wp_run ?_
  show Wp (B5 (evalF Bs k) [some (.ref p), none, none, none, none, none, none, none, none, none, none, none, none, none, none] S) _
  unfold B5
  subst_eqs
  refine (next_ok (by omega) hp.push (by omega) (by omega)).mono ?_
  rintro _ S1 ⟨r, rfl, r0, r1, hp1, f1⟩
  have g1 := f1.get (get_push (S := S)) (by simp; omega)
  obtain ⟨many, e, m0, m1⟩ := tab_at (L := [1, 2, 2, 3, 3, 4, 4, 6]) (lo := 1) (hi := 6) (by decide) r0 r1
  refine wp_idxL (getL_lst g1) e ?_
  replace f1 : Fr [p] S S1 := (Fr.push' Fr.refl).then1 f1
  subst_eqs
  refine wp_iLst ?_
  subst_eqs
  refine (names_ok (by omega) hp1 (by omega) (by omega)).mono ?_
  rintro _ S2 ⟨kn0, names, at1, first1, rfl, hkn0, gk0, hnl, hF1, hp2, f2⟩
  refine ⟨_, _, rfl, getL_lst gk0, ?_⟩
  replace f2 := f1.then1 f2
  have hkl : S.length < S2.length := by have h := f2.1; have h2 := f2.lt hpS; have := lt_of gk0; have := f1.1; omega
  have hkp : kn0 ≠ p := by have := f1.1; omega
  refine wp_compL (fun i acc S3 => Pool S3 p ∧ Fr [p] S S3 ∧ S3[kn0]? = some (.lst (names.map D.str)) ∧ acc = ((names.take i).map fix).map D.str) ⟨hp2, f2, gk0, rfl⟩ (fun i acc S3 h => getL_lst h.2.2.1) ?_ ?_
  · rintro i acc S3 hi ⟨hp3, f3, g3, rfl⟩
    have hi2 : i < names.length := by simpa using hi
    have e : (names.map D.str)[i] = D.str names[i] := by simp
    rw [e]
    refine ⟨_, rfl, ?_⟩
    subst_eqs
    refine wp_pick (getL_lst get_push) ?_
    rw [fix_pick]
    refine ⟨hp3.push, f3.push', get_old g3, ?_⟩
    rw [List.take_succ_eq_append_getElem hi2, List.map_append, List.map_append]
    rfl
  · rintro ys S3 ⟨hp3, f3, g3, rfl⟩
    refine ⟨by simp; rw [sizeLine_eq]; omega, ?_⟩
    rw [List.length_map, List.take_length]
    have hkinds : (names.map fix).Nodup := kinds_nodup hF1 (by omega)
    have hnn : ("num" : Str) ∉ names.map fix := by
      intro q
      obtain ⟨x, _, e⟩ := List.mem_map.mp q
      exact fix_ne e
    have hkl2 : (names.map fix).length = many.toNat := by simp; omega
    have gk := get_push (S := S3) (o := .lst ((names.map fix).map D.str))
    have hp4 : Pool (S3 ++ [.lst ((names.map fix).map D.str)]) p := hp3.push
    have f4 : Fr [p] S (S3 ++ [.lst ((names.map fix).map D.str)]) := f3.push'
    have hknp : S3.length ≠ p := by have := f3.lt hpS; omega
    have hkng : S.length ≤ S3.length := f3.1
    generalize names.map fix = kinds at *
    generalize S3.length = kn at *
    generalize S3 ++ [.lst (kinds.map D.str)] = S4 at *
    clear gk0 g3 hp3 f3 hp2 f2
    subst_eqs
    refine (names_ok (by omega) hp4 (by omega) (by omega)).mono ?_
    rintro _ S5 ⟨mn, mks, at2, first2, rfl, hmn, gm, hml, hF2, hp5, f5⟩
    have gk5 := f5.get gk (by simpa using hknp)
    replace f5 := f4.then1 f5
    have hmks : mks.Nodup := char_nodup (fun i x e => (hF2 i x e).2) (by omega)
    have hmnk : mn ≠ kn := by have := lt_of gk; omega
    have hmnp : mn ≠ p := by have := f4.lt hpS; omega
    have hmng : S.length ≤ mn := by have := f4.1; omega
    subst_eqs
    have gb := get_push (S := S5) (o := .lst [])
    have gk6 := get_old (x := .lst []) gk5
    have gm6 := get_old (x := .lst []) gm
    have hp6 : Pool (S5 ++ [.lst []]) p := hp5.push
    have f6 : Fr [p] S (S5 ++ [.lst []]) := f5.push'
    have hbp : S5.length ≠ p := by have := f5.lt hpS; omega
    have hbk : S5.length ≠ kn := by have := lt_of gk5; omega
    have hbm : S5.length ≠ mn := by have := lt_of gm; omega
    have hbg : S.length ≤ S5.length := f5.1
    generalize S5.length = bn at *
    generalize S5 ++ [.lst []] = S6 at *
    clear gk gk5 gm hp5 f5 hp4 f4
    refine ⟨_, rfl, ⟨by omega, by omega⟩, ?_⟩
    refine wp_forR (fun i ρ S' => ∃ v3 room v7 v8 v9 v10 v11 v12 v13 v14, ∃ (bk : List Kd) (rest : List Str), ρ = [some (.ref p), some (.int many), some (.ref kn), v3, some (.ref mn), some (.int room), some (.ref bn), v7, v8, v9, v10, v11, v12, v13, v14] ∧ 0 ≤ room ∧ room ≤ 12 ∧
      Pool S' p ∧ Fr [p] S S' ∧ S'[kn]? = some (.lst (kinds.map D.str)) ∧ S'[mn]? = some (.lst (rest.map D.str)) ∧ S'[bn]? = some (.lst (bk.map dKd)) ∧ bk.map (·.1) = kinds.take i ∧ mkNames bk ++ rest = mks ∧ (∀ b ∈ bk, FldOk kinds b.2) ∧ many - i ≤ rest.length) ?_ ?_ ?_
    · exact ⟨_, _, _, _, _, _, _, _, _, _, [], mks, rfl, by omega, by omega, hp6, f6, gk6, gm6, gb, by simp, rfl, by simp, by omega⟩
    · rintro i _ S7 hi ⟨v3, room, v7, v8, v9, v10, v11, v12, v13, v14, bk, rest, rfl, q0, q1, hp7, f7, gk7, gm7, gb7, hbk7, hmk7, hfl7, hln7⟩
      subst_eqs
      have gs := get_push (S := S7) (o := .lst [])
      have gk8 := get_old (x := .lst []) gk7
      have gm8 := get_old (x := .lst []) gm7
      have gb8 := get_old (x := .lst []) gb7
      have hp8 : Pool (S7 ++ [.lst []]) p := hp7.push
      have f8 : Fr [p] S (S7 ++ [.lst []]) := f7.push'
      have hsp : S7.length ≠ p := by have := f7.lt hpS; omega
      have hsk : S7.length ≠ kn := by have := lt_of gk7; omega
      have hsm : S7.length ≠ mn := by have := lt_of gm7; omega
      have hsb : S7.length ≠ bn := by have := lt_of gb7; omega
      have hsg : S.length ≤ S7.length := f7.1
      generalize S7.length = sn at *
      generalize S7 ++ [.lst []] = S8 at *
      refine (next_ok (by omega) hp8.push (by omega) (by omega)).mono ?_
      rintro _ S9 ⟨r9, rfl, r90, r91, hp9, f9⟩
      have hpS8 := f8.lt hpS
      have g9 := f9.get (get_push (S := S8)) (by simp; omega)
      obtain ⟨count, e9, c0, c1⟩ := tab_at (L := [1, 2, 2, 3, 3, 2, 4, 6]) (lo := 1) (hi := 6) (by decide) r90 r91
      refine wp_idxL (getL_lst g9) e9 ?_
      have gk9 := f9.get (get_old gk8) (by simpa using hknp)
      have gm9 := f9.get (get_old gm8) (by simpa using hmnp)
      have gb9 := f9.get (get_old gb8) (by simpa using hbp)
      have gs9 := f9.get (get_old gs) (by simpa using hsp)
      replace f9 := f8.push'.then1 f9
      clear g9 gs gk8 gm8 gb8 hp8 f8 gk7 gm7 gb7 hp7 f7
      have glm := getL_lst gm9
      subst_eqs
      refine ⟨_, rfl, ?_⟩
      rw [List.length_map]
      generalize hX : (if (rest.length : Int) - many + 1 + (0 + (i : Int)) < count then (rest.length : Int) - many + 1 + (0 + (i : Int)) else count) = X
      have hX1 : X ≤ 6 ∧ X ≤ (rest.length : Int) - many + 1 + i ∧ -10 ≤ X := by
        split at hX <;> omega
      refine ⟨⟨by omega, by omega⟩, ?_⟩
      refine wp_forR (fun j ρ S' => ∃ room v10 v11 v12 v13 v14, ∃ (some : List Mk) (rest2 : List Str), ρ = [.some (.ref p), .some (.int many), .some (.ref kn), v3, .some (.ref mn), .some (.int room), .some (.ref bn), .some (.int (0 + (i : Int))), .some (.ref sn), .some (.int count), v10, v11, v12, v13, v14] ∧ 0 ≤ room ∧ room ≤ 12 ∧
        Pool S' p ∧ Fr [p] S S' ∧ S'[kn]? = .some (.lst (kinds.map D.str)) ∧ S'[mn]? = .some (.lst (rest2.map D.str)) ∧ S'[bn]? = .some (.lst (bk.map dKd)) ∧ S'[sn]? = .some (.lst (some.map dMk)) ∧ some.map (·.1) ++ rest2 = rest ∧ some.length = j ∧ (∀ m ∈ some, m.2.length ≤ 4 ∧ ∀ f ∈ m.2, f = "num" ∨ f ∈ kinds)) ?_ ?_ ?_
      · exact ⟨room, _, _, _, _, _, [], rest, rfl, q0, q1, hp9, f9, gk9, gm9, gb9, gs9, rfl, rfl, by simp⟩
      · rintro j _ S10 hj ⟨room2, v10, v11, v12, v13, v14, some2, rest2, rfl, q20, q21, hpA, fA, gkA, gmA, gbA, gsA, hsr, hsl, hsf⟩
        subst_eqs
        refine (next_ok (by omega) hpA.push (by omega) (by omega)).mono ?_
        rintro _ S11 ⟨r11, rfl, rB0, rB1, hpB, fB⟩
        have hpSA := fA.lt hpS
        have gtab := fB.get (get_push (S := S10)) (by simp; omega)
        obtain ⟨size0, eB, z0, z1⟩ := tab_at (L := [0, 0, 1, 1, 2, 2, 3, 4]) (lo := 0) (hi := 4) (by decide) rB0 rB1
        refine wp_idxL (getL_lst gtab) eB ?_
        have gkB := fB.get (get_old gkA) (by simpa using hknp)
        have gmB := fB.get (get_old gmA) (by simpa using hmnp)
        have gbB := fB.get (get_old gbA) (by simpa using hbp)
        have gsB := fB.get (get_old gsA) (by simpa using hsp)
        replace fB := fA.push'.then1 fB
        clear gtab
        subst_eqs
        generalize hsz : (if room2 < size0 then room2 else size0) = sz
        have hsz1 : 0 ≤ sz ∧ sz ≤ 4 ∧ sz ≤ room2 := by split at hsz <;> omega
        subst_eqs
        refine wp_addL (get_old gkB) get_push (by simp; rw [sizeLine_eq]; omega) ?_
        have emore : kinds.map D.str ++ [D.str "num", D.str "num"] = (kinds ++ nn2).map D.str := by simp [nn2]
        rw [emore]
        have gmore := get_push (S := S11 ++ [.lst [D.str "num", D.str "num"]]) (o := .lst ((kinds ++ nn2).map D.str))
        have gkC := get_old (x := .lst ((kinds ++ nn2).map D.str)) (get_old (x := .lst [D.str "num", D.str "num"]) gkB)
        have gmC := get_old (x := .lst ((kinds ++ nn2).map D.str)) (get_old (x := .lst [D.str "num", D.str "num"]) gmB)
        have gbC := get_old (x := .lst ((kinds ++ nn2).map D.str)) (get_old (x := .lst [D.str "num", D.str "num"]) gbB)
        have gsC := get_old (x := .lst ((kinds ++ nn2).map D.str)) (get_old (x := .lst [D.str "num", D.str "num"]) gsB)
        have hpC : Pool ((S11 ++ [.lst [D.str "num", D.str "num"]]) ++ [.lst ((kinds ++ nn2).map D.str)]) p := hpB.push.push
        have fC : Fr [p] S ((S11 ++ [.lst [D.str "num", D.str "num"]]) ++ [.lst ((kinds ++ nn2).map D.str)]) := fB.push'.push'
        have hqp : (S11 ++ [MO.lst [D.str "num", D.str "num"]]).length ≠ p := by have := fB.lt hpS; simp; omega
        generalize (S11 ++ [MO.lst [D.str "num", D.str "num"]]).length = qn at *
        generalize (S11 ++ [MO.lst [D.str "num", D.str "num"]]) ++ [.lst ((kinds ++ nn2).map D.str)] = S12 at *
        clear gkB gmB gbB gsB hpB fB gkA gmA gbA gsA hpA fA
        subst_eqs
        refine ⟨_, rfl, ⟨by omega, by omega⟩, ?_⟩
        refine wp_compR (fun t acc S' => ∃ fs : List Str, acc = fs.map D.str ∧ fs.length = t ∧ (∀ f ∈ fs, f = "num" ∨ f ∈ kinds) ∧ Pool S' p ∧ Fr [p] S S' ∧ S'[kn]? = some (.lst (kinds.map D.str)) ∧ S'[mn]? = some (.lst (rest2.map D.str)) ∧ S'[bn]? = some (.lst (bk.map dKd)) ∧ S'[sn]? = some (.lst (some2.map dMk)) ∧ S'[qn]? = some (.lst ((kinds ++ nn2).map D.str)))
          ⟨[], rfl, rfl, by simp, hpC, fC, gkC, gmC, gbC, gsC, gmore⟩ ?_ ?_
        · rintro t acc S13 ht ⟨fs, rfl, hfs, hff, hpD, fD, gkD, gmD, gbD, gsD, gqD⟩
          subst_eqs
          refine (next_ok (by omega) hpD (by omega) (by omega)).mono ?_
          rintro _ S14 ⟨r14, rfl, rE0, rE1, hpE, fE⟩
          have gqE := fE.get gqD (by simpa using hqp)
          obtain ⟨v, hv, _, ev⟩ := map_at (g := D.str) (L := kinds ++ nn2) rE0 (by simp [nn2]; omega)
          refine wp_idxL (getL_lst gqE) ev ?_
          refine ⟨fs ++ [v], by simp, by simp [hfs], ?_, hpE, fD.then1 fE, fE.get gkD (by simpa using hknp), fE.get gmD (by simpa using hmnp), fE.get gbD (by simpa using hbp), fE.get gsD (by simpa using hsp), gqE⟩
          intro f hf
          rcases List.mem_append.mp hf with q | q
          · exact hff f q
          · rw [List.mem_singleton.mp q]
            rcases List.mem_append.mp hv with z | z
            · exact .inr z
            · simp [nn2] at z
              exact .inl z
        · rintro ys S13 ⟨fs, rfl, hfs, hff, hpD, fD, gkD, gmD, gbD, gsD, gqD⟩
          refine ⟨by simp; rw [sizeLine_eq]; omega, ?_⟩
          have hr2 : 0 < rest2.length := by
            have : (some2.map (·.1) ++ rest2).length = rest.length := by rw [hsr]
            simp at this
            omega
          obtain ⟨x, rest3, rfl⟩ : ∃ x r, rest2 = x :: r := by
            cases rest2 with
            | nil => simp at hr2
            | cons x r => exact ⟨x, r, rfl⟩
          have gfE := get_push (S := S13) (o := .lst (fs.map D.str))
          have gkE := get_old (x := .lst (fs.map D.str)) gkD
          have gmE := get_old (x := .lst (fs.map D.str)) gmD
          have gbE := get_old (x := .lst (fs.map D.str)) gbD
          have gsE := get_old (x := .lst (fs.map D.str)) gsD
          have hpE : Pool (S13 ++ [.lst (fs.map D.str)]) p := hpD.push
          have fE : Fr [p] S (S13 ++ [.lst (fs.map D.str)]) := fD.push'
          have hfm : S13.length ≠ mn := by have := lt_of gmD; omega
          generalize S13.length = fn at *
          generalize S13 ++ [.lst (fs.map D.str)] = S14 at *
          clear gkD gmD gbD gsD gqD hpD fD
          subst_eqs
          refine ⟨isL_lst gsE, ?_⟩
          subst_eqs
          refine ⟨isL_lst gmE, ?_⟩
          subst_eqs
          refine wp_pop0 gmE ?_
          subst_eqs
          have gfF := get_set_ne (x := .lst (rest3.map D.str)) gfE hfm
          refine wp_tupleL (getL_lst gfF) ?_
          subst_eqs
          have gsF := get_set_ne (x := .lst (rest3.map D.str)) gsE hsm
          refine wp_appendM (g := dMk) (x := (x, fs)) gsF rfl (by rw [sizeLine_eq]; omega) ?_
          subst_eqs
          refine ⟨_, _, _, _, _, _, some2 ++ [(x, fs)], rest3, rfl, by omega, by omega, (hpE.set (Ne.symm hmnp)).set (Ne.symm hsp), (fE.set_new hmng).set_new hsg, get_set_ne (get_set_ne gkE (Ne.symm hmnk)) (Ne.symm hsk), get_set_ne (get_set (lt_of gmE)) (Ne.symm hsm),
            get_set_ne (get_set_ne gbE hbm) (Ne.symm hsb), get_set (lt_of gsF), by rw [← hsr]; simp, by simp [hsl], ?_⟩
          intro m hm
          rcases List.mem_append.mp hm with q | q
          · exact hsf m q
          · rw [List.mem_singleton.mp q]
            exact ⟨by simp only; omega, hff⟩
      · rintro _ S10 ⟨room2, v10, v11, v12, v13, v14, some2, rest2, rfl, q20, q21, hpA, fA, gkA, gmA, gbA, gsA, hsr, hsl, hsf⟩
        have hik : i < kinds.length := by omega
        subst_eqs
        refine ⟨isL_lst gbA, ?_⟩
        subst_eqs
        have ek : atI (kinds.map D.str) (0 + (i : Int)) = some (.str kinds[i]) := atI_nat (by omega) (by
          have e : (0 + (i : Int)).toNat = i := by omega
          rw [e]
          simp [hik])
        refine wp_idxL (getL_lst gkA) ek ?_
        subst_eqs
        refine wp_tupleL (getL_lst gsA) ?_
        subst_eqs
        refine wp_appendM (g := dKd) (x := (kinds[i], some2)) gbA rfl (by
          have : (bk.map (·.1)).length = (kinds.take i).length := by rw [hbk7]
          simp at this
          rw [sizeLine_eq]
          omega) ?_
        subst_eqs
        refine ⟨_, _, _, _, _, _, _, _, _, _, bk ++ [(kinds[i], some2)], rest2, rfl, q20, q21, hpA.set (Ne.symm hbp), fA.set_new hbg, get_set_ne gkA (Ne.symm hbk), get_set_ne gmA (Ne.symm hbm), get_set (lt_of gbA), ?_, ?_, ?_, ?_⟩
        · rw [List.map_append, hbk7, List.take_succ_eq_append_getElem hik]
          rfl
        · rw [← hmk7, ← hsr]
          simp [mkNames]
        · intro b hb
          rcases List.mem_append.mp hb with q | q
          · exact hfl7 b q
          · rw [List.mem_singleton.mp q]
            exact ⟨by simp only; omega, hsf⟩
        · have : (some2.map (·.1) ++ rest2).length = rest.length := by rw [hsr]
          simp at this
          omega
    · rintro _ S7 ⟨v3, room, v7, v8, v9, v10, v11, v12, v13, v14, bk, rest, rfl, q0, q1, hp7, f7, gk7, gm7, gb7, hbk7, hmk7, hfl7, hln7⟩
      subst_eqs
      refine wp_tupleL (getL_lst gb7) ?_
      have hkt : kinds.take many.toNat = kinds := List.take_of_length_le (by omega)
      rw [hkt] at hbk7
      have hbl : bk.length ≤ 6 := by
        have : (bk.map (·.1)).length = kinds.length := by rw [hbk7]
        simp at this
        omega
      refine ⟨bk, rfl, ⟨by rw [hbk7]; exact hkinds, by rw [hbk7]; exact hnn, ?_, ?_, hbl, fun b hb => (hfl7 b hb).1⟩, hp7, f7⟩
      · rw [← hmk7] at hmks
        exact (List.nodup_append.mp hmks).1
      · rw [hbk7]
        exact fun b hb => (hfl7 b hb).2

end K49

set_option Elab.async false
set_option linter.all false
set_option maxRecDepth 100000
set_option maxHeartbeats 3000000
namespace K49
open PySem L2 Mp
open PyProof.Rows hiding St

local macro_rules | `(tactic| left) => `(tactic| first
  | (with_reducible first
    | refine wp_seq ?_ | refine wp_ret ?_ | refine wp_expr ?_ | refine wp_sif ?_ | refine wp_set1 ?_ | refine wp_bin ?_ | refine wp_put ?_ | refine wp_un ?_ | refine wp_app ?_ | refine wp_nil ?_ | refine wp_cons ?_ | refine wp_tup ?_ | refine wp_lst ?_
    | refine wp_const ?_ | refine wp_meth ?_ | refine wp_join ?_ | refine wp_eif ?_ | refine wp_tand ?_ | refine wp_tor ?_ | refine wp_tnot ?_ | refine wp_test ?_ | refine wp_cut ?_ | refine wp_osome ?_ | refine wp_onone ?_ | refine wp_isi ?_
    | refine wp_pnil ?_ | refine wp_pcons ?_ | refine wp_dict ?_ | refine wp_for ?_ | refine wp_comp ?_ | refine wp_skip ?_ | refine wp_setP ?_ | refine wp_iRg1 ?_ | refine wp_iRg2 ?_ | refine wp_yes ?_
    | refine wp_addI ?_ | refine wp_subI ?_ | refine wp_neg ?_ | refine wp_cmp ?_ | refine wp_eqI ?_ | refine wp_eqS ?_ | refine wp_neI ?_ | refine wp_neS ?_ | refine wp_neB ?_ | refine wp_isnt ?_ | refine wp_min ?_ | refine wp_max ?_ | refine wp_intB ?_ | refine wp_lenT ?_ | refine wp_lenF ?_
    | refine ex_bl ?_ | refine ex_int ?_ | refine iteW ?_ | refine iteF' ?_)
  | ((with_reducible apply wp_slot); exact rfl)
  | ((with_reducible apply wp_idxL); (with_reducible assumption); exact rfl)
  | ((with_reducible apply wp_idxT); exact rfl)
  | ((with_reducible apply wp_lenL); with_reducible assumption)
  | ((with_reducible refine wp_mod ?_ ?_); omega)
  | ((with_reducible refine wp_fdiv ?_ ?_); omega)
  | ((with_reducible refine wp_mul ?_ ?_); omega))
local macro_rules | `(tactic| subst_eqs) => `(tactic| repeat (first | left | dsimp only))

/-! K6: worlds. -/
section
variable {β : Type}
theorem look_none {ks : List (Key × β)} {k : Key} : lookK ks k = none ↔ (ks.any fun kv => decide (kv.1 = k)) = false := by
  unfold lookK
  rw [Option.map_eq_none_iff, List.find?_eq_none, List.any_eq_false]
theorem look_cons {ks : List (Key × β)} {k k' : Key} {v : β} : lookK ((k', v) :: ks) k = if k' = k then some v else lookK ks k := by
  unfold lookK
  rw [List.find?_cons]
  by_cases h : k' = k
  · rw [if_pos h]
    simp [h]
  · rw [if_neg h]
    simp [h]
theorem look_app {ks ls : List (Key × β)} {k : Key} : lookK (ks ++ ls) k = (lookK ks k).or (lookK ls k) := by
  unfold lookK
  rw [List.find?_append]
  cases ks.find? fun kv => decide (kv.1 = k) <;> rfl
theorem look_map {ks : List (Key × β)} {k k' : Key} {v : β} : lookK (ks.map fun kv => if kv.1 = k then (kv.1, v) else kv) k' = if k' = k ∧ (lookK ks k).isSome = true then some v else lookK ks k' := by
  induction ks with
  | nil => simp [lookK]
  | cons kv ks ih =>
    obtain ⟨a, b⟩ := kv
    rw [List.map_cons, look_cons (k := k), look_cons (k := k')]
    by_cases h : a = k
    · rw [if_pos h, if_pos h]
      rw [look_cons]
      by_cases h2 : a = k'
      · rw [if_pos h2, if_pos ⟨h2.symm.trans h, rfl⟩]
      · rw [if_neg h2, if_neg h2, ih]
        have h3 : ¬ k' = k := fun z => h2 (h.trans z.symm)
        rw [if_neg (fun z => h3 z.1), if_neg (fun z => h3 z.1)]
    · rw [if_neg h, if_neg h]
      rw [look_cons]
      by_cases h2 : a = k'
      · rw [if_pos h2, if_pos h2]
        have h3 : ¬ k' = k := fun z => h (h2.trans z)
        rw [if_neg (fun z => h3 z.1)]
      · rw [if_neg h2, if_neg h2, ih]
theorem look_store {ks : List (Key × β)} {k k' : Key} {v : β} : lookK (storeK ks k v) k' = if k' = k then some v else lookK ks k' := by
  unfold storeK
  by_cases h : (ks.any fun kv => decide (kv.1 = k)) = true
  · rw [if_pos h, look_map]
    have h2 : (lookK ks k).isSome = true := by
      cases q : lookK ks k with
      | none => rw [look_none.mp q] at h; cases h
      | some x => rfl
    by_cases e : k' = k
    · rw [if_pos ⟨e, h2⟩, if_pos e]
    · rw [if_neg (fun z => e z.1), if_neg e]
  · rw [if_neg h, look_app]
    have h2 : lookK ks k = none := look_none.mpr (eq_false_of_ne_true h)
    by_cases e : k' = k
    · subst e
      rw [h2, if_pos rfl, look_cons, if_pos rfl]
      rfl
    · rw [if_neg e, look_cons, if_neg (fun z => e z.symm)]
      cases lookK ks k' <;> rfl
theorem store_new {ks : List (Key × β)} {k : Key} {v : β} (h : lookK ks k = none) : storeK ks k v = ks ++ [(k, v)] := by
  unfold storeK
  rw [look_none.mp h, if_neg (by simp)]
theorem merge_new : ∀ {ls ks : List (Key × β)}, (∀ kv ∈ ls, lookK ks kv.1 = none) → (ls.map (·.1)).Nodup → mergeD ks ls = ks ++ ls
  | [], ks, _, _ => by simp [mergeD]
  | (k, v) :: ls, ks, h, nd => by
    have e : mergeD ks ((k, v) :: ls) = mergeD (storeK ks k v) ls := rfl
    rw [e, store_new (h _ List.mem_cons_self)]
    rw [List.map_cons, List.nodup_cons] at nd
    rw [merge_new (fun kv hkv => ?_) nd.2]
    · simp
    · rw [look_app, h kv (List.mem_cons_of_mem _ hkv), look_cons, if_neg]
      · rfl
      · intro z
        exact nd.1 (z ▸ List.mem_map_of_mem (f := (·.1)) hkv)
theorem look_mem : ∀ {ks : List (Key × β)} {k : Key} {v : β}, (ks.map (·.1)).Nodup → (k, v) ∈ ks → lookK ks k = some v
  | (k', v') :: ks, k, v, nd, h => by
    rw [List.map_cons, List.nodup_cons] at nd
    rw [look_cons]
    rcases List.mem_cons.mp h with q | q
    · cases q
      rw [if_pos rfl]
    · rw [if_neg, look_mem nd.2 q]
      intro z
      exact nd.1 (z ▸ List.mem_map_of_mem (f := (·.1)) q)
theorem look_key {ks : List (Key × β)} {k : Key} (h : ∀ kv ∈ ks, kv.1 ≠ k) : lookK ks k = none := look_none.mpr (by
  rw [List.any_eq_false]
  exact fun kv hkv => by simp only [decide_eq_true_eq]; exact h kv hkv)
end
def pMk (m : Mk) : Key × D := (.inr m.1, .tup (m.2.map D.str))
def pKd (b : Kd) : Key × D := (.inr b.1, .tup (b.2.map dMk))
theorem pairs_mk : ∀ ms : List Mk, pairsD (ms.map dMk) = some (ms.map pMk)
  | [] => rfl
  | m :: ms => by
    show (match pairsD (ms.map dMk) with | some ps => some (((.inr m.1 : Key), D.tup (m.2.map D.str)) :: ps) | none => none) = _
    rw [pairs_mk ms]
    rfl
theorem pairs_kd : ∀ ms : List Kd, pairsD (ms.map dKd) = some (ms.map pKd)
  | [] => rfl
  | m :: ms => by
    show (match pairsD (ms.map dKd) with | some ps => some (((.inr m.1 : Key), D.tup (m.2.map dMk)) :: ps) | none => none) = _
    rw [pairs_kd ms]
    rfl
theorem wp_dictT {ds : List D} {ps : List (Key × D)} {S : Store} {Q : D → Store → Prop} (hz : ds.length ≤ sizeLine) (h : pairsD ds = some ps) (q : Q (.ref S.length) (S ++ [.dK (mergeD [] ps)])) : Wp (bDict [.tup ds] S) Q := by
  unfold bDict
  dsimp only
  rw [if_pos hz, h]
  exact wp_ok.mpr q
theorem wp_inK {n : Nat} {x : Str} {ks : List (Key × D)} {S : Store} {Q : D → Store → Prop} (h : S[n]? = some (.dK ks)) (q : Q (.bl (lookK ks (.inr x)).isSome) S) : Wp (dIn (.str x) (.ref n) S) Q := by
  unfold dIn isIn
  dsimp only
  rw [getL_dK h]
  dsimp only
  rw [h]
  exact wp_ok.mpr q
theorem wp_notInK {n : Nat} {x : Str} {ks : List (Key × D)} {S : Store} {Q : D → Store → Prop} (h : S[n]? = some (.dK ks)) (q : Q (.bl (!(lookK ks (.inr x)).isSome)) S) : Wp (dNotIn (.str x) (.ref n) S) Q := by
  unfold dNotIn isIn
  dsimp only
  rw [getL_dK h]
  dsimp only
  rw [h]
  exact wp_ok.mpr q
theorem bools_map : ∀ bs : List Bool, boolsD (bs.map D.bl) = some bs
  | [] => rfl
  | b :: bs => by
    show (match boolsD (bs.map D.bl) with | some xs => some (b :: xs) | none => none) = _
    rw [bools_map bs]
theorem wp_allL {n : Nat} {bs : List Bool} {S : Store} {Q : D → Store → Prop} (h : getL S n = some (bs.map D.bl)) (q : Q (.bl (bs.all id)) S) : Wp (bAll [.ref n] S) Q := by
  unfold bAll
  dsimp only
  rw [h]
  dsimp only
  rw [bools_map]
  exact wp_ok.mpr q
theorem wp_anyL {n : Nat} {bs : List Bool} {S : Store} {Q : D → Store → Prop} (h : getL S n = some (bs.map D.bl)) (q : Q (.bl (bs.any id)) S) : Wp (bAny [.ref n] S) Q := by
  unfold bAny
  dsimp only
  rw [h]
  dsimp only
  rw [bools_map]
  exact wp_ok.mpr q
theorem iteB {b : Bool} {P Q : Prop} (h1 : b = true → P) (h2 : b = false → Q) : (if b = true then P else Q) := by
  cases b with
  | true => rw [if_pos rfl]; exact h1 rfl
  | false => rw [if_neg (by simp)]; exact h2 rfl
/-- a make comes, by the ranks -/
def cm (rks : List (Key × D)) (m : Mk) : Bool := m.2.all fun f => (lookK rks (.inr f)).isSome
theorem take_at {α : Type} {L : List α} {i : Nat} (h : i < L.length) : L.take (i + 1) = L.take i ++ [L[i]] := List.take_succ_eq_append_getElem h
theorem comes_ok {k rn : Nat} {m : Mk} {rks : List (Key × D)} {S : Store} (hk : 1 ≤ k) (hl : m.2.length ≤ 4) (hr : S[rn]? = some (.dK rks)) : Wp (evalF Bs k 6 [dMk m, .ref rn] S) fun d S' => d = .bl (cm rks m) ∧ Fr [] S S' := by
  obtain ⟨k, rfl⟩ := Nat.exists_eq_add_of_le' hk
  rw [ev 6 k _ S (b := ⟨2, 3, B6⟩) rfl rfl]
  refine wp_run ?_
  show Wp (B6 (evalF Bs k) [some (.tup [.str m.1, .tup (m.2.map D.str)]), some (.ref rn), none] S) _
  unfold B6
  subst_eqs
  refine wp_iTup ?_
  subst_eqs
  refine ⟨_, rfl, ?_⟩
  refine wp_compT (fun i acc S' => S'[rn]? = some (.dK rks) ∧ Fr [] S S' ∧ acc = ((m.2.take i).map fun f => (lookK rks (.inr f)).isSome).map D.bl) ⟨hr, Fr.refl, rfl⟩ ?_ ?_
  · rintro i acc S2 hi ⟨hr2, f2, rfl⟩
    have hi2 : i < m.2.length := by simpa using hi
    have e : (m.2.map D.str)[i] = D.str m.2[i] := by simp
    rw [e]
    refine ⟨_, rfl, ?_⟩
    subst_eqs
    refine wp_inK hr2 ?_
    refine ⟨hr2, f2, ?_⟩
    rw [take_at hi2, List.map_append, List.map_append]
    rfl
  · rintro acc S2 ⟨hr2, f2, rfl⟩
    refine ⟨by simp; rw [sizeLine_eq]; omega, ?_⟩
    subst_eqs
    refine wp_allL (getL_lst get_push) ?_
    refine ⟨?_, f2.push'⟩
    rw [List.length_map, List.take_length]
    unfold cm
    rw [List.all_map]
    rfl

end K49

set_option Elab.async false
set_option linter.all false
set_option maxRecDepth 100000
set_option maxHeartbeats 3000000
namespace K49
open PySem L2 Mp
open PyProof.Rows hiding St

local macro_rules | `(tactic| left) => `(tactic| first
  | (with_reducible first
    | refine wp_seq ?_ | refine wp_ret ?_ | refine wp_expr ?_ | refine wp_sif ?_ | refine wp_set1 ?_ | refine wp_bin ?_ | refine wp_put ?_ | refine wp_un ?_ | refine wp_app ?_ | refine wp_nil ?_ | refine wp_cons ?_ | refine wp_tup ?_ | refine wp_lst ?_
    | refine wp_const ?_ | refine wp_meth ?_ | refine wp_join ?_ | refine wp_eif ?_ | refine wp_tand ?_ | refine wp_tor ?_ | refine wp_tnot ?_ | refine wp_test ?_ | refine wp_cut ?_ | refine wp_osome ?_ | refine wp_onone ?_ | refine wp_isi ?_
    | refine wp_pnil ?_ | refine wp_pcons ?_ | refine wp_dict ?_ | refine wp_for ?_ | refine wp_comp ?_ | refine wp_skip ?_ | refine wp_setP ?_ | refine wp_iRg1 ?_ | refine wp_iRg2 ?_ | refine wp_yes ?_
    | refine wp_addI ?_ | refine wp_subI ?_ | refine wp_neg ?_ | refine wp_cmp ?_ | refine wp_eqI ?_ | refine wp_eqS ?_ | refine wp_neI ?_ | refine wp_neS ?_ | refine wp_neB ?_ | refine wp_isnt ?_ | refine wp_min ?_ | refine wp_max ?_ | refine wp_intB ?_ | refine wp_lenT ?_ | refine wp_lenF ?_
    | refine ex_bl ?_ | refine ex_int ?_ | refine iteW ?_ | refine iteF' ?_)
  | ((with_reducible apply wp_slot); exact rfl)
  | ((with_reducible apply wp_idxL); (with_reducible assumption); exact rfl)
  | ((with_reducible apply wp_idxT); exact rfl)
  | ((with_reducible apply wp_lenL); with_reducible assumption)
  | ((with_reducible refine wp_mod ?_ ?_); omega)
  | ((with_reducible refine wp_fdiv ?_ ?_); omega)
  | ((with_reducible refine wp_mul ?_ ?_); omega))
local macro_rules | `(tactic| subst_eqs) => `(tactic| repeat (first | left | dsimp only))

/-! K7: worlds, the ranks. -/
structure RInv (bk : List Kd) (rks : List (Key × D)) (t : Int) : Prop where
  num : lookK rks (.inr "num") = some (.int 0)
  keys : ∀ kv ∈ rks, ∃ x, kv.1 = .inr x
  look : ∀ (x : Str) (d : D), lookK rks (.inr x) = some d → (x = "num" ∧ d = .int 0) ∨ ∃ r : Int, d = .int r ∧ 1 ≤ r ∧ r ≤ t ∧ ∃ b ∈ bk, b.1 = x ∧ ∃ m ∈ b.2, ∀ f ∈ m.2, ∃ q : Int, lookK rks (.inr f) = some (.int q) ∧ q < r
theorem RInv.int {bk : List Kd} {rks : List (Key × D)} {t : Int} (h : RInv bk rks t) {x : Str} (hx : (lookK rks (.inr x)).isSome = true) (ht : 0 ≤ t) : ∃ r : Int, lookK rks (.inr x) = some (.int r) ∧ 0 ≤ r ∧ r ≤ t := by
  cases e : lookK rks (.inr x) with
  | none => rw [e] at hx; cases hx
  | some d =>
    rcases h.look x d e with ⟨_, rfl⟩ | ⟨r, rfl, h1, h2, _⟩
    · exact ⟨0, rfl, by omega, by omega⟩
    · exact ⟨r, rfl, by omega, by omega⟩
/-- a kind that comes freshly -/
def Fresh (bk : List Kd) (rks : List (Key × D)) (x : Str) : Prop := lookK rks (.inr x) = none ∧ ∃ b ∈ bk, b.1 = x ∧ ∃ m ∈ b.2, ∀ f ∈ m.2, (lookK rks (.inr f)).isSome = true
theorem keys_store {β : Type} {ks : List (Key × β)} {x : Str} {v : β} (h : ∀ kv ∈ ks, ∃ x, kv.1 = .inr x) : ∀ kv ∈ storeK ks (.inr x) v, ∃ x, kv.1 = .inr x := by
  intro kv hkv
  unfold storeK at hkv
  split at hkv
  · obtain ⟨a, ha, rfl⟩ := List.mem_map.mp hkv
    by_cases e : a.1 = .inr x
    · rw [if_pos e]; exact h a ha
    · rw [if_neg e]; exact h a ha
  · rcases List.mem_append.mp hkv with q | q
    · exact h kv q
    · rw [List.mem_singleton.mp q]
      exact ⟨x, rfl⟩
/-- the ranks in the midst of a turn -/
structure Mid (bk : List Kd) (rks rks2 : List (Key × D)) (t : Int) : Prop where
  keys : ∀ kv ∈ rks2, ∃ x, kv.1 = .inr x
  old : ∀ (x : Str) (d : D), lookK rks (.inr x) = some d → lookK rks2 (.inr x) = some d
  new : ∀ (x : Str) (d : D), lookK rks2 (.inr x) = some d → lookK rks (.inr x) = some d ∨ (d = .int t ∧ Fresh bk rks x)
theorem Mid.start {bk : List Kd} {rks : List (Key × D)} {t : Int} (h : RInv bk rks t) : Mid bk rks rks (t + 1) := ⟨h.keys, fun _ _ e => e, fun _ _ e => .inl e⟩
theorem Mid.store {bk : List Kd} {rks rks2 : List (Key × D)} {t : Int} {x : Str} (h : Mid bk rks rks2 t) (hx : Fresh bk rks x) : Mid bk rks (storeK rks2 (.inr x) (.int t)) t := by
  refine ⟨keys_store h.keys, fun y d e => ?_, fun y d e => ?_⟩
  · rw [look_store, if_neg]
    · exact h.old y d e
    · intro z
      cases z
      rw [hx.1] at e; cases e
  · rw [look_store] at e
    by_cases z : (Sum.inr y : Key) = .inr x
    · rw [if_pos z] at e
      cases z
      cases e
      exact .inr ⟨rfl, hx⟩
    · rw [if_neg z] at e
      exact h.new y d e
theorem Mid.done {bk : List Kd} {rks rks2 : List (Key × D)} {t : Int} (ht : 0 ≤ t) (h : RInv bk rks t) (m : Mid bk rks rks2 (t + 1)) : RInv bk rks2 (t + 1) := by
  refine ⟨m.old _ _ h.num, m.keys, fun x d e => ?_⟩
  rcases m.new x d e with q | ⟨rfl, _, b, hb, hbx, mk, hmk, hf⟩
  · rcases h.look x d q with z | ⟨r, rfl, h1, h2, b, hb, hbx, mk, hmk, hf⟩
    · exact .inl z
    · refine .inr ⟨r, rfl, h1, by omega, b, hb, hbx, mk, hmk, fun f hff => ?_⟩
      obtain ⟨q, hq, hlt⟩ := hf f hff
      exact ⟨q, m.old _ _ hq, hlt⟩
  · refine .inr ⟨t + 1, rfl, by omega, by omega, b, hb, hbx, mk, hmk, fun f hff => ?_⟩
    obtain ⟨r, hr, _, hle⟩ := h.int (hf f hff) ht
    exact ⟨r, m.old _ _ hr, by omega⟩
theorem wp_iteS {b : Bool} {P Q : Prop} (h1 : b = false → P) (h2 : b = true → Q) : (if (!b) = true then P else Q) := by
  cases b with
  | false => rw [if_pos (by rfl)]; exact h1 rfl
  | true => rw [if_neg (by simp)]; exact h2 rfl
theorem store_ref {n : Nat} {x : Str} {v : D} {ks : List (Key × D)} {S : Store} (h : S[n]? = some (.dK ks)) (hz : ks.length < sizeLine) : storeD (.ref n) (.str x) v S = some (S.set n (.dK (storeK ks (.inr x) v))) := by
  unfold storeD
  dsimp only
  rw [h]
  dsimp only [keyD]
  rw [if_pos hz]
/-- the first part of _law_world: the ranks -/
theorem ranks_ok {k : Nat} {bk : List Kd} {S : Store} {rn : Nat} {v6 v7 v8 : Option D} {b : DS} {Q : Fl → Store → Prop} (hk : 1 ≤ k) (wf : WfB bk) (hS : rn < S.length) (hr : S[rn]? = some (.dK [((.inr "num" : Key), .int 0)]))
    (hb : b = sFor (iRg2 (aCons (eConst (.int 1)) (aCons (eBin dAdd (eApp bLen (aCons (eSlot 0) aNil)) (eConst (.int 1))) aNil))) (.nm 2) (sSeq (sSet (.nm 3) (eLst aNil)) (sSeq (sFor (iSeq (eSlot 0)) (.tp [4, 5]) (sSeq (sIf (tAndD (tOfE (eBin dNotIn (eSlot 4) (eSlot 1))) (tOfE (eApp bAny (aCons (eComp (iSeq (eSlot 5)) (.nm 6) [6] tYesD (eApp (evalF Bs k 6) (aCons (eSlot 6) (aCons (eSlot 1) aNil)))) aNil)))) (sSeq (sExpr (eMeth isL mAppend (eSlot 3) (aCons (eSlot 4) aNil))) sSkip) sSkip) sSkip)) (sSeq (sFor (iSeq (eSlot 3)) (.nm 4) (sSeq (sPut (eSlot 1) (eSlot 4) (eSlot 2)) sSkip)) sSkip))))
    (hQ : ∀ v2 v3 v4 v5 S' rks, Fr [rn] S S' → S'[rn]? = some (.dK rks) → RInv bk rks 6 → rks.length ≤ 37 → Q (.nx [some (.tup (bk.map dKd)), some (.ref rn), v2, v3, v4, v5, none, none, none]) S') :
    Wp (b [some (.tup (bk.map dKd)), some (.ref rn), none, none, none, none, none, none, none] S) Q := by
  subst hb
  have hbl := wf.ln
  subst_eqs
  refine ⟨_, _, rfl, ⟨by omega, by omega⟩, ⟨by rw [List.length_map]; omega, by rw [List.length_map]; omega⟩, ?_⟩
  have en : ((((bk.map dKd).length : Int) + 1) - 1).toNat = bk.length := by rw [List.length_map]; omega
  rw [en]
  refine wp_forR (fun i ρ S' => ∃ v2 v3 v4 v5 rks, ρ = [some (.tup (bk.map dKd)), some (.ref rn), v2, v3, v4, v5, none, none, none] ∧ Fr [rn] S S' ∧ S'[rn]? = some (.dK rks) ∧ RInv bk rks (i : Int) ∧ rks.length ≤ 1 + 6 * i) ?_ ?_ ?_
  · refine ⟨_, _, _, _, _, rfl, Fr.refl, hr, ⟨by rw [look_cons, if_pos rfl], fun kv h => by rw [List.mem_singleton.mp h]; exact ⟨_, rfl⟩, fun x d e => ?_⟩, by simp⟩
    rw [look_cons] at e
    split at e
    · rename_i z
      cases z
      cases e
      exact .inl ⟨rfl, rfl⟩
    · cases e
  · rintro i _ S1 hi ⟨v2, v3, v4, v5, rks, rfl, f1, g1, hR, hl⟩
    subst_eqs
    refine wp_iTup ?_
    subst_eqs
    refine ⟨_, rfl, ?_⟩
    have gF := get_push (S := S1) (o := .lst [])
    have g2 := get_old (x := .lst []) g1
    have f2 : Fr [rn] S (S1 ++ [.lst []]) := f1.push'
    have hfn : S1.length ≠ rn := by have := lt_of g1; omega
    have hfg : S.length ≤ S1.length := f1.1
    generalize S1.length = fn at *
    generalize S1 ++ [.lst []] = S2 at *
    clear g1 f1
    refine wp_forT (fun j ρ S' => ∃ v4 v5 fresh, ρ = [some (.tup (bk.map dKd)), some (.ref rn), some (.int (1 + (i : Int))), some (.ref fn), v4, v5, none, none, none] ∧ Fr [rn] S S' ∧ S'[rn]? = some (.dK rks) ∧ S'[fn]? = some (.lst (fresh.map D.str)) ∧ (∀ x ∈ fresh, Fresh bk rks x) ∧ fresh.length ≤ j)
      ⟨_, _, [], rfl, f2, g2, gF, by simp, Nat.le_refl _⟩ ?_ ?_
    · rintro j _ S3 hj ⟨v4, v5, fresh, rfl, f3, g3, gF3, hfr, hfl⟩
      have hj2 : j < bk.length := by simpa using hj
      have e : (bk.map dKd)[j] = D.tup [.str bk[j].1, .tup (bk[j].2.map dMk)] := by simp [dKd]
      rw [e]
      refine ⟨_, rfl, ?_⟩
      have hbm : bk[j] ∈ bk := List.getElem_mem hj2
      generalize bk[j] = b at *
      subst_eqs
      refine wp_notInK g3 ?_
      subst_eqs
      apply wp_iteS <;> intro hx
      · subst_eqs
        refine wp_iTup ?_
        subst_eqs
        refine ⟨_, rfl, ?_⟩
        have hms := wf.ms b hbm
        refine wp_compT (fun t acc S' => S'[rn]? = some (.dK rks) ∧ Fr [rn] S S' ∧ S'[fn]? = some (.lst (fresh.map D.str)) ∧ acc = ((b.2.take t).map (cm rks)).map D.bl) ⟨g3, f3, gF3, rfl⟩ ?_ ?_
        · rintro t acc S4 ht ⟨g4, f4, gF4, rfl⟩
          have ht2 : t < b.2.length := by simpa using ht
          have e : (b.2.map dMk)[t] = dMk b.2[t] := by simp
          rw [e]
          refine ⟨_, rfl, ?_⟩
          have hmm : b.2[t] ∈ b.2 := List.getElem_mem ht2
          subst_eqs
          refine (comes_ok hk (wf.fl b hbm _ hmm).1 g4).mono ?_
          rintro _ S5 ⟨rfl, f5⟩
          refine ⟨f5.get g4 (by simp), f4.then1 (f5.sub (by simp)), f5.get gF4 (by simp), ?_⟩
          rw [take_at ht2, List.map_append, List.map_append]
          rfl
        · rintro acc S4 ⟨g4, f4, gF4, rfl⟩
          refine ⟨by simp; rw [sizeLine_eq]; omega, ?_⟩
          subst_eqs
          refine wp_anyL (getL_lst get_push) ?_
          rw [List.length_map, List.take_length]
          have g5 := get_old (x := .lst ((b.2.map (cm rks)).map D.bl)) g4
          have gF5 := get_old (x := .lst ((b.2.map (cm rks)).map D.bl)) gF4
          have f5 : Fr [rn] S (S4 ++ [.lst ((b.2.map (cm rks)).map D.bl)]) := f4.push'
          generalize S4 ++ [.lst ((b.2.map (cm rks)).map D.bl)] = S5 at *
          subst_eqs
          apply iteB <;> intro hany
          · subst_eqs
            refine ⟨isL_lst gF5, ?_⟩
            subst_eqs
            refine wp_appendM (g := D.str) (x := b.1) gF5 rfl (by rw [sizeLine_eq]; omega) ?_
            subst_eqs
            refine ⟨_, _, fresh ++ [b.1], rfl, f5.set_new hfg, get_set_ne g5 (Ne.symm hfn), get_set (lt_of gF5), ?_, by simp; omega⟩
            intro x hx2
            rcases List.mem_append.mp hx2 with q | q
            · exact hfr x q
            · rw [List.mem_singleton.mp q]
              rw [List.any_map, List.any_eq_true] at hany
              obtain ⟨m, hm, hc⟩ := hany
              refine ⟨by simpa using hx, b, hbm, rfl, m, hm, ?_⟩
              have hc : cm rks m = true := hc
              unfold cm at hc
              exact List.all_eq_true.mp hc
          · subst_eqs
            exact ⟨_, _, fresh, rfl, f5, g5, gF5, hfr, by omega⟩
      · subst_eqs
        exact ⟨_, _, fresh, rfl, f3, g3, gF3, hfr, by omega⟩
    · rintro _ S3 ⟨v4, v5, fresh, rfl, f3, g3, gF3, hfr, hfl⟩
      rw [List.length_map] at hfl
      subst_eqs
      refine wp_iLst ?_
      subst_eqs
      refine ⟨_, _, rfl, getL_lst gF3, ?_⟩
      refine wp_forL (fun j ρ S' => ∃ v4 v5 rks2, ρ = [some (.tup (bk.map dKd)), some (.ref rn), some (.int (1 + (i : Int))), some (.ref fn), v4, v5, none, none, none] ∧ Fr [rn] S S' ∧ S'[rn]? = some (.dK rks2) ∧ S'[fn]? = some (.lst (fresh.map D.str)) ∧ Mid bk rks rks2 ((i : Int) + 1) ∧ rks2.length ≤ rks.length + j)
        ⟨_, _, rks, rfl, f3, g3, gF3, Mid.start hR, Nat.le_refl _⟩ (fun j ρ S' h => by obtain ⟨_, _, _, _, _, _, h, _⟩ := h; exact getL_lst h) ?_ ?_
      · rintro j _ S4 hj ⟨v4, v5, rks2, rfl, f4, g4, gF4, hM, hl2⟩
        have hj2 : j < fresh.length := by simpa using hj
        have e : (fresh.map D.str)[j] = D.str fresh[j] := by simp
        rw [e]
        refine ⟨_, rfl, ?_⟩
        subst_eqs
        refine ⟨_, store_ref g4 (by rw [sizeLine_eq]; omega), ?_⟩
        subst_eqs
        refine ⟨_, _, _, rfl, f4.then1 (Fr.set (by simp)), get_set (lt_of g4), get_set_ne gF4 hfn, ?_, ?_⟩
        · have e1 : (1 + (i : Int)) = (i : Int) + 1 := by omega
          rw [e1]
          exact hM.store (hfr _ (List.getElem_mem hj2))
        · have := length_storeK rks2 (.inr fresh[j]) (D.int (1 + (i : Int)))
          omega
      · rintro _ S4 ⟨v4, v5, rks2, rfl, f4, g4, gF4, hM, hl2⟩
        rw [List.length_map] at hl2
        subst_eqs
        refine ⟨_, _, _, _, rks2, rfl, f4, g4, ?_, by omega⟩
        have := hM.done (by omega) hR
        simpa using this
  · rintro _ S1 ⟨v2, v3, v4, v5, rks, rfl, f1, g1, hR, hl⟩
    refine hQ _ _ _ _ _ rks f1 g1 ⟨hR.num, hR.keys, fun x d e => ?_⟩ (by omega)
    rcases hR.look x d e with q | ⟨r, h1, h2, h3, h4⟩
    · exact .inl q
    · exact .inr ⟨r, h1, h2, by omega, h4⟩

end K49

set_option Elab.async false
set_option linter.all false
set_option maxRecDepth 100000
set_option maxHeartbeats 3000000
namespace K49
open PySem L2 Mp
open PyProof.Rows hiding St

local macro_rules | `(tactic| left) => `(tactic| first
  | (with_reducible first
    | refine wp_seq ?_ | refine wp_ret ?_ | refine wp_expr ?_ | refine wp_sif ?_ | refine wp_set1 ?_ | refine wp_bin ?_ | refine wp_put ?_ | refine wp_un ?_ | refine wp_app ?_ | refine wp_nil ?_ | refine wp_cons ?_ | refine wp_tup ?_ | refine wp_lst ?_
    | refine wp_const ?_ | refine wp_meth ?_ | refine wp_join ?_ | refine wp_eif ?_ | refine wp_tand ?_ | refine wp_tor ?_ | refine wp_tnot ?_ | refine wp_test ?_ | refine wp_cut ?_ | refine wp_osome ?_ | refine wp_onone ?_ | refine wp_isi ?_
    | refine wp_pnil ?_ | refine wp_pcons ?_ | refine wp_dict ?_ | refine wp_for ?_ | refine wp_comp ?_ | refine wp_skip ?_ | refine wp_setP ?_ | refine wp_iRg1 ?_ | refine wp_iRg2 ?_ | refine wp_yes ?_
    | refine wp_addI ?_ | refine wp_subI ?_ | refine wp_neg ?_ | refine wp_cmp ?_ | refine wp_eqI ?_ | refine wp_eqS ?_ | refine wp_neI ?_ | refine wp_neS ?_ | refine wp_neB ?_ | refine wp_isnt ?_ | refine wp_min ?_ | refine wp_max ?_ | refine wp_intB ?_ | refine wp_lenT ?_ | refine wp_lenF ?_
    | refine ex_bl ?_ | refine ex_int ?_ | refine iteW ?_ | refine iteF' ?_)
  | ((with_reducible apply wp_slot); exact rfl)
  | ((with_reducible apply wp_idxL); (with_reducible assumption); exact rfl)
  | ((with_reducible apply wp_idxT); exact rfl)
  | ((with_reducible apply wp_lenL); with_reducible assumption)
  | ((with_reducible refine wp_mod ?_ ?_); omega)
  | ((with_reducible refine wp_fdiv ?_ ?_); omega)
  | ((with_reducible refine wp_mul ?_ ?_); omega))
local macro_rules | `(tactic| subst_eqs) => `(tactic| repeat (first | left | dsimp only))

/-! K8: worlds. -/
abbrev wDict (bk : List Kd) (rn cn fn : Nat) : List (Key × D) := [(.inr "book", .tup (bk.map dKd)), (.inr "ranks", .ref rn), (.inr "come", .ref cn), (.inr "fields", .ref fn)]
def fPairs (bk : List Kd) : List (Key × D) := (bk.flatMap (·.2)).map pMk
def World (bk : List Kd) (rks : List (Key × D)) (lo hi : Nat) (S : Store) (w : Nat) : Prop := ∃ rn cn fn cks, (lo ≤ w ∧ w < hi) ∧ (lo ≤ rn ∧ rn < hi) ∧ (lo ≤ cn ∧ cn < hi) ∧ (lo ≤ fn ∧ fn < hi) ∧ S[w]? = some (.dK (wDict bk rn cn fn)) ∧ S[rn]? = some (.dK rks) ∧
  S[cn]? = some (.dK cks) ∧ S[fn]? = some (.dK (fPairs bk)) ∧ ∀ b ∈ bk, ∃ n, (lo ≤ n ∧ n < hi) ∧ lookK cks (.inr b.1) = some (.ref n) ∧ S[n]? = some (.lst ((b.2.filter (cm rks)).map dMk))
theorem World.fr {bk : List Kd} {rks : List (Key × D)} {lo hi : Nat} {S S' : Store} {w : Nat} {W : List Nat} (h : World bk rks lo hi S w) (f : Fr W S S') (hW : ∀ i ∈ W, i < lo ∨ hi ≤ i) : World bk rks lo hi S' w := by
  have out : ∀ {i : Nat}, lo ≤ i ∧ i < hi → i ∉ W := fun {i} hi hm => by
    have := hW i hm
    omega
  obtain ⟨rn, cn, fn, cks, h1, h2, h3, h4, g1, g2, g3, g4, h5⟩ := h
  refine ⟨rn, cn, fn, cks, h1, h2, h3, h4, f.get g1 (out h1), f.get g2 (out h2), f.get g3 (out h3), f.get g4 (out h4), fun b hb => ?_⟩
  obtain ⟨n, hn, e, g⟩ := h5 b hb
  exact ⟨n, hn, e, f.get g (out hn)⟩
theorem wp_update {n b : Nat} {ks ls : List (Key × D)} {S : Store} {Q : D → Store → Prop} (hne : n ≠ b) (h1 : S[n]? = some (.dK ks)) (h2 : S[b]? = some (.dK ls)) (hz : ks.length + ls.length ≤ sizeLine) (q : Q .non (S.set n (.dK (mergeD ks ls)))) : Wp (mUpdate (.ref n) [.ref b] S) Q := by
  unfold mUpdate
  dsimp only
  rw [if_neg hne, h1, h2]
  dsimp only
  rw [if_pos hz]
  exact wp_ok.mpr q
theorem nodup_at {α β : Type} {f : α → β} {L : List α} {i : Nat} (nd : (L.map f).Nodup) (hi : i < L.length) {a : α} (ha : a ∈ L.take i) : f a ≠ f L[i] := by
  obtain ⟨j, hj, rfl⟩ := List.mem_iff_getElem.mp ha
  have hj2 : j < i := by simp at hj; omega
  have := List.pairwise_iff_getElem.mp nd j i (by simp; omega) (by simpa using hi) hj2
  simpa using this
theorem nodup_inr {l : List Str} (h : l.Nodup) : (l.map (Sum.inr : Str → Key)).Nodup := by
  refine List.Pairwise.map _ (fun a b hab e => ?_) h
  cases e
  exact hab rfl
theorem mks_split {bk : List Kd} {i : Nat} (hi : i < bk.length) : mkNames bk = mkNames (bk.take i) ++ (bk[i].2.map (·.1) ++ mkNames (bk.drop (i + 1))) := by
  have e : bk = bk.take i ++ bk[i] :: bk.drop (i + 1) := by simp
  unfold mkNames
  conv => lhs; rw [e]
  rw [List.flatMap_append, List.flatMap_cons]
theorem fPairs_len {bk : List Kd} (h : ∀ b ∈ bk, b.2.length ≤ 6) : (fPairs bk).length ≤ 6 * bk.length := by
  induction bk with
  | nil => simp [fPairs]
  | cons b bk ih =>
    have h1 := h b List.mem_cons_self
    have h2 := ih fun x hx => h x (List.mem_cons_of_mem _ hx)
    unfold fPairs at h2 ⊢
    simp at h2 ⊢
    omega
theorem fPairs_keys (bk : List Kd) : (fPairs bk).map (·.1) = (mkNames bk).map Sum.inr := by
  induction bk with
  | nil => rfl
  | cons b bk ih =>
    unfold fPairs mkNames at ih ⊢
    simp only [List.flatMap_cons, List.map_append, ih]
    congr 1
    simp [pMk]
theorem ev' (i k : Nat) (args : List D) (S : Store) {np nn : Nat} {B : CF → DS} (h : Bs[i]? = some ⟨np, nn, B⟩) (hl : args.length = np) : evalF Bs (k + 1) i args S = runB (B (evalF Bs k)) (args.map some ++ List.replicate (nn - np) none) S := ev i k args S h hl
theorem world_ok {k : Nat} {bk : List Kd} {S : Store} (hk : 2 ≤ k) (wf : WfB bk) : Wp (evalF Bs k 7 [.tup (bk.map dKd)] S) fun d S' => ∃ w rks, d = .ref w ∧ RInv bk rks 6 ∧ rks.length ≤ 37 ∧ World bk rks S.length S'.length S' w ∧ Fr [] S S' := by
  obtain ⟨k, rfl⟩ := Nat.exists_eq_add_of_le' (show 1 ≤ k by omega)
  have hbl := wf.ln
  rw [ev' 7 k _ S (np := 1) (nn := 9) (B := B7) rfl rfl]
  refine wp_run ?_
  have ee : (List.map some [D.tup (bk.map dKd)] ++ List.replicate (9 - 1) none : Mp.Env) = [some (.tup (bk.map dKd)), none, none, none, none, none, none, none, none] := rfl
  rw [ee]
  unfold B7
  refine wp_seq (wp_set1 (wp_dict (wp_pcons (wp_const (wp_const (wp_pnil ⟨_, rfl, ?_⟩))))))
  show Wp (sSeq (sFor _ _ _) _ _ _) _
  refine wp_seq (ranks_ok (k := k) (rn := S.length) (v6 := none) (v7 := none) (v8 := none) (by omega) wf (by simp) get_push rfl ?_)
  intro v2 v3 v4 v5 S1 rks f1 g1 hR hR37
  replace f1 : Fr [] S S1 := by
    refine ⟨Nat.le_trans (by simp) f1.1, fun i hi _ => ?_⟩
    rw [f1.2 i (by simp; omega) (by simp; omega), List.getElem?_append_left hi]
  have hrl : S.length < S1.length := lt_of g1
  have hrg : S.length ≤ S.length := Nat.le_refl _
  generalize hrn : S.length = rn at g1 hrl ⊢
  dsimp only
  refine wp_seq (wp_set1 (wp_dict (wp_pcons (wp_const (wp_lst (wp_nil (wp_pcons (wp_const (wp_lst (wp_nil (wp_pnil ⟨_, rfl, ⟨_, rfl, ?_⟩⟩)))))))))))
  generalize hck : mergeD [] [((Sum.inr ("num" : Str) : Key), D.ref S1.length), (.inr ("" : Str), .ref (S1 ++ [MO.lst []]).length)] = cks0
  have hckl : cks0.length ≤ 2 := by
    rw [← hck]
    exact Nat.le_trans (length_mergeD _ _) (by simp)
  have gc := get_push (S := S1 ++ [MO.lst []] ++ [MO.lst []]) (o := .dK cks0)
  have g2 := get_old (x := .dK cks0) (get_old (x := .lst []) (get_old (x := .lst []) g1))
  have f2 : Fr [] S (S1 ++ [MO.lst []] ++ [MO.lst []] ++ [.dK cks0]) := f1.push'.push'.push'
  have hcr : (S1 ++ [MO.lst []] ++ [MO.lst []]).length ≠ rn := by simp; omega
  have hcg : rn ≤ (S1 ++ [MO.lst []] ++ [MO.lst []]).length := by simp; omega
  generalize (S1 ++ [MO.lst []] ++ [MO.lst []]).length = cn at *
  generalize S1 ++ [MO.lst []] ++ [MO.lst []] ++ [.dK cks0] = S2 at *
  dsimp only
  refine wp_seq (wp_set1 (wp_dict (wp_pnil ?_)))
  have gf := get_push (S := S2) (o := .dK (mergeD [] []))
  have gc3 := get_old (x := .dK (mergeD [] [])) gc
  have g3 := get_old (x := .dK (mergeD [] [])) g2
  have f3 : Fr [] S (S2 ++ [.dK (mergeD [] [])]) := f2.push'
  have hfr : S2.length ≠ rn := by have := lt_of g2; omega
  have hfc : S2.length ≠ cn := by have := lt_of gc; omega
  have hfg : rn ≤ S2.length := by have := lt_of g2; omega
  generalize S2.length = fn at *
  generalize S2 ++ [.dK (mergeD [] [])] = S3 at *
  clear g2 gc f2 g1 f1 hrl
  dsimp only
  refine wp_seq (wp_for (wp_iTup (wp_slot (d := .tup (bk.map dKd)) rfl ⟨_, rfl, ?_⟩)))
  refine wp_forT (fun i ρ S' => ∃ v4 v5 cks, ρ = [some (.tup (bk.map dKd)), some (.ref rn), v2, v3, v4, v5, none, some (.ref cn), some (.ref fn)] ∧ Fr [] S S' ∧ S'[rn]? = some (.dK rks) ∧ S'[cn]? = some (.dK cks) ∧ S'[fn]? = some (.dK (fPairs (bk.take i))) ∧ cks.length ≤ 2 + i ∧
      ∀ b ∈ bk.take i, ∃ n, rn ≤ n ∧ n ≠ cn ∧ n ≠ fn ∧ lookK cks (.inr b.1) = some (.ref n) ∧ S'[n]? = some (.lst ((b.2.filter (cm rks)).map dMk)))
    ⟨v4, v5, cks0, rfl, f3, g3, gc3, gf, hckl, by simp⟩ ?_ ?_
  · rintro i _ S4 hi ⟨v4, v5, cks, rfl, f4, g4, gc4, gf4, hcl, hcome⟩
    have hi2 : i < bk.length := by simpa using hi
    have e : (bk.map dKd)[i] = D.tup [.str bk[i].1, .tup (bk[i].2.map dMk)] := by simp [dKd]
    rw [e]
    refine ⟨_, rfl, ?_⟩
    have hbm : bk[i] ∈ bk := List.getElem_mem hi2
    have hnd : ∀ b ∈ bk.take i, b.1 ≠ bk[i].1 := fun b hb => nodup_at wf.kn hi2 hb
    have hspl := mks_split hi2
    have htake := take_at hi2
    generalize bk[i] = b at *
    have hms := wf.ms b hbm
    subst_eqs
    refine wp_iTup ?_
    subst_eqs
    refine ⟨_, rfl, ?_⟩
    refine wp_compT (fun t acc S' => S'[rn]? = some (.dK rks) ∧ Fr [] S4 S' ∧ acc = ((b.2.take t).filter (cm rks)).map dMk) ⟨g4, Fr.refl, rfl⟩ ?_ ?_
    · rintro t acc S5 ht ⟨g5, f5, rfl⟩
      have ht2 : t < b.2.length := by simpa using ht
      have e : (b.2.map dMk)[t] = dMk b.2[t] := by simp
      rw [e]
      refine ⟨_, rfl, ?_⟩
      have hmm : b.2[t] ∈ b.2 := List.getElem_mem ht2
      have htt := take_at ht2
      generalize b.2[t] = m at *
      subst_eqs
      refine (comes_ok (by omega) (wf.fl b hbm _ hmm).1 g5).mono ?_
      rintro _ S6 ⟨rfl, f6⟩
      refine ⟨_, rfl, ?_⟩
      apply iteB <;> intro hc
      · subst_eqs
        refine ⟨f6.get g5 (by simp), f5.then1 f6, ?_⟩
        rw [htt, List.filter_append]
        simp [hc]
      · refine ⟨f6.get g5 (by simp), f5.then1 f6, ?_⟩
        rw [htt, List.filter_append]
        simp [hc]
    · rintro acc S5 ⟨g5, f5, rfl⟩
      have el : (b.2.map dMk).length = b.2.length := List.length_map _
      rw [el, List.take_length]
      refine ⟨by
        rw [List.length_map, sizeLine_eq]
        have := List.length_filter_le (cm rks) b.2
        omega, ?_⟩
      have gn := get_push (S := S5) (o := .lst ((b.2.filter (cm rks)).map dMk))
      have f45 : Fr [] S4 (S5 ++ [.lst ((b.2.filter (cm rks)).map dMk)]) := f5.push'
      have hnc : S5.length ≠ cn := by have := f5.lt (lt_of gc4); omega
      have hnf : S5.length ≠ fn := by have := f5.lt (lt_of gf4); omega
      have hng : rn ≤ S5.length := by have := f5.lt (lt_of g4); omega
      have hold : ∀ n (o : MO), S4[n]? = some o → n ≠ S5.length := fun n o h => by have := f5.lt (lt_of h); omega
      generalize S5.length = nn at *
      generalize S5 ++ [.lst ((b.2.filter (cm rks)).map dMk)] = S6 at *
      have g6 := f45.get g4 (by simp)
      have gc6 := f45.get gc4 (by simp)
      have gf6 := f45.get gf4 (by simp)
      subst_eqs
      refine ⟨_, store_ref gc6 (by rw [sizeLine_eq]; omega), ?_⟩
      have gc7 : (S6.set cn (.dK (storeK cks (.inr b.1) (.ref nn))))[cn]? = _ := get_set (lt_of gc6)
      have g7 := get_set_ne (x := .dK (storeK cks (.inr b.1) (.ref nn))) g6 (Ne.symm hcr)
      have gf7 := get_set_ne (x := .dK (storeK cks (.inr b.1) (.ref nn))) gf6 hfc
      have gn7 := get_set_ne (x := .dK (storeK cks (.inr b.1) (.ref nn))) gn hnc
      have f7 : Fr [] S (S6.set cn (.dK (storeK cks (.inr b.1) (.ref nn)))) := (f4.then1 f45).set_new (by omega)
      have hcome7 : ∀ b' ∈ bk.take i, ∃ n, rn ≤ n ∧ n ≠ cn ∧ n ≠ fn ∧ lookK (storeK cks (.inr b.1) (D.ref nn)) (.inr b'.1) = some (.ref n) ∧ (S6.set cn (.dK (storeK cks (.inr b.1) (.ref nn))))[n]? = some (.lst ((b'.2.filter (cm rks)).map dMk)) := by
        intro b' hb'
        obtain ⟨n, h1, h2, h3, h4, h5⟩ := hcome b' hb'
        refine ⟨n, h1, h2, h3, ?_, get_set_ne (f45.get h5 (by simp)) h2⟩
        rw [look_store, if_neg]
        · exact h4
        · intro z
          exact hnd b' hb' (Sum.inr.inj z)
      generalize S6.set cn (.dK (storeK cks (.inr b.1) (.ref nn))) = S7 at *
      subst_eqs
      refine ⟨isK_dK gf7, ?_⟩
      subst_eqs
      refine wp_dictT (by rw [List.length_map, sizeLine_eq]; omega) (pairs_mk _) ?_
      have hmk := wf.mks
      rw [hspl] at hmk
      have hmk1 := (List.nodup_append.mp hmk).2.1
      have hmk2 := (List.nodup_append.mp hmk1).1
      have hkeys : (b.2.map pMk).map (·.1) = (b.2.map (·.1)).map Sum.inr := by simp [pMk]
      have em : mergeD [] (b.2.map pMk) = b.2.map pMk := by
        rw [merge_new (fun _ _ => rfl) (by rw [hkeys]; exact nodup_inr hmk2)]
        rfl
      rw [em]
      have gd := get_push (S := S7) (o := .dK (b.2.map pMk))
      have gf8 := get_old (x := .dK (b.2.map pMk)) gf7
      have hfl : (fPairs (bk.take i)).length ≤ 6 * i := by
        have := fPairs_len (bk := bk.take i) fun x hx => wf.ms x (List.mem_of_mem_take hx)
        rw [List.length_take] at this
        omega
      subst_eqs
      refine wp_update (by have := lt_of gf7; omega) gf8 gd (by rw [List.length_map, sizeLine_eq]; omega) ?_
      rw [merge_new (ks := fPairs (bk.take i)) (ls := b.2.map pMk)]
      · subst_eqs
        have hf9 : S7.length ≠ fn := by have := lt_of gf7; omega
        refine ⟨_, _, storeK cks (.inr b.1) (.ref nn), rfl, f7.push'.set_new (by omega), get_set_ne (get_old g7) (Ne.symm hfr), get_set_ne (get_old gc7) (Ne.symm hfc), ?_, ?_, ?_⟩
        · rw [htake]
          have e9 : fPairs (bk.take i ++ [b]) = fPairs (bk.take i) ++ b.2.map pMk := by simp [fPairs]
          rw [e9]
          exact get_set (lt_of gf8)
        · have := length_storeK cks (.inr b.1) (D.ref nn)
          omega
        · intro b' hb'
          rw [htake] at hb'
          rcases List.mem_append.mp hb' with q | q
          · obtain ⟨n, h1, h2, h3, h4, h5⟩ := hcome7 b' q
            exact ⟨n, h1, h2, h3, h4, get_set_ne (get_old h5) h3⟩
          · rw [List.mem_singleton.mp q]
            refine ⟨nn, hng, hnc, hnf, by rw [look_store, if_pos rfl], get_set_ne (get_old gn7) hnf⟩
      · intro kv hkv
        obtain ⟨m, hm, rfl⟩ := List.mem_map.mp hkv
        refine look_key fun kv2 hkv2 z => ?_
        have h1 : kv2.1 ∈ (fPairs (bk.take i)).map (·.1) := List.mem_map_of_mem hkv2
        rw [fPairs_keys] at h1
        obtain ⟨x, hx, hxe⟩ := List.mem_map.mp h1
        rw [z] at hxe
        have hxe : (Sum.inr x : Key) = .inr m.1 := hxe
        cases hxe
        have h2 := (List.nodup_append.mp hmk).2.2 m.1 hx m.1 (List.mem_append.mpr (.inl (List.mem_map_of_mem hm)))
        exact h2 rfl
      · rw [hkeys]
        exact nodup_inr hmk2
  · rintro _ S4 ⟨v4, v5, cks, rfl, f4, g4, gc4, gf4, hcl, hcome⟩
    have el : (bk.map dKd).length = bk.length := List.length_map _
    rw [el, List.take_length] at gf4 hcome
    dsimp only
    refine wp_seq (wp_ret (wp_dict (wp_pcons (wp_const (wp_slot (d := .tup (bk.map dKd)) rfl (wp_pcons (wp_const (wp_slot (d := .ref rn) rfl (wp_pcons (wp_const (wp_slot (d := .ref cn) rfl (wp_pcons (wp_const (wp_slot (d := .ref fn) rfl (wp_pnil ⟨_, rfl, ⟨_, rfl, ⟨_, rfl, ⟨_, rfl, ?_⟩⟩⟩⟩)))))))))))))))
    have em : mergeD [] [((Sum.inr ("book" : Str) : Key), D.tup (bk.map dKd)), (.inr ("ranks" : Str), .ref rn), (.inr ("come" : Str), .ref cn), (.inr ("fields" : Str), .ref fn)] = wDict bk rn cn fn := by
      rw [merge_new (fun _ _ => rfl) (by
        show ([Sum.inr (Str.ofString "book"), Sum.inr (Str.ofString "ranks"), Sum.inr (Str.ofString "come"), Sum.inr (Str.ofString "fields")] : List Key).Nodup
        decide +kernel)]
      rfl
    have gw := get_push (S := S4) (o := .dK (wDict bk rn cn fn))
    refine ⟨S4.length, rks, rfl, hR, hR37, ?_, ?_⟩
    · rw [em]
      have hl4 : ∀ {n : Nat} {o : MO}, S4[n]? = some o → n < (S4 ++ [MO.dK (wDict bk rn cn fn)]).length := fun h => by have := lt_of h; simp; omega
      refine ⟨rn, cn, fn, cks, ⟨?_, by simp⟩, ⟨by omega, hl4 g4⟩, ⟨by omega, hl4 gc4⟩, ⟨by omega, hl4 gf4⟩, gw, get_old g4, get_old gc4, get_old gf4, fun b hb => ?_⟩
      · have := lt_of g4; omega
      · obtain ⟨n, h1, h2, h3, h4, h5⟩ := hcome b hb
        exact ⟨n, ⟨by omega, hl4 h5⟩, h4, get_old h5⟩
    · rw [em]
      exact f4.push'

end K49

set_option Elab.async false
set_option linter.all false
set_option maxRecDepth 100000
set_option maxHeartbeats 3000000
namespace K49
open PySem L2 Mp
open PyProof.Rows hiding St

local macro_rules | `(tactic| left) => `(tactic| first
  | (with_reducible first
    | refine wp_seq ?_ | refine wp_ret ?_ | refine wp_expr ?_ | refine wp_sif ?_ | refine wp_set1 ?_ | refine wp_bin ?_ | refine wp_put ?_ | refine wp_un ?_ | refine wp_app ?_ | refine wp_nil ?_ | refine wp_cons ?_ | refine wp_tup ?_ | refine wp_lst ?_
    | refine wp_const ?_ | refine wp_meth ?_ | refine wp_join ?_ | refine wp_eif ?_ | refine wp_tand ?_ | refine wp_tor ?_ | refine wp_tnot ?_ | refine wp_test ?_ | refine wp_cut ?_ | refine wp_osome ?_ | refine wp_onone ?_ | refine wp_isi ?_
    | refine wp_pnil ?_ | refine wp_pcons ?_ | refine wp_dict ?_ | refine wp_for ?_ | refine wp_comp ?_ | refine wp_skip ?_ | refine wp_setP ?_ | refine wp_iRg1 ?_ | refine wp_iRg2 ?_ | refine wp_yes ?_
    | refine wp_addI ?_ | refine wp_subI ?_ | refine wp_neg ?_ | refine wp_cmp ?_ | refine wp_eqI ?_ | refine wp_eqS ?_ | refine wp_neI ?_ | refine wp_neS ?_ | refine wp_neB ?_ | refine wp_isnt ?_ | refine wp_min ?_ | refine wp_max ?_ | refine wp_intB ?_ | refine wp_lenT ?_ | refine wp_lenF ?_
    | refine ex_bl ?_ | refine ex_int ?_ | refine iteW ?_ | refine iteF' ?_)
  | ((with_reducible apply wp_slot); exact rfl)
  | ((with_reducible apply wp_idxL); (with_reducible assumption); exact rfl)
  | ((with_reducible apply wp_idxT); exact rfl)
  | ((with_reducible apply wp_lenL); with_reducible assumption)
  | ((with_reducible refine wp_mod ?_ ?_); omega)
  | ((with_reducible refine wp_fdiv ?_ ?_); omega)
  | ((with_reducible refine wp_mul ?_ ?_); omega))
local macro_rules | `(tactic| subst_eqs) => `(tactic| repeat (first | left | dsimp only))

/-! KA: kinds, numbers' stretches. -/
theorem lookW_book {bk : List Kd} {rn cn fn : Nat} : lookK (wDict bk rn cn fn) (.inr "book") = some (.tup (bk.map dKd)) := by rw [look_cons, if_pos rfl]
theorem lookW_ranks {bk : List Kd} {rn cn fn : Nat} : lookK (wDict bk rn cn fn) (.inr "ranks") = some (.ref rn) := by rw [look_cons, if_neg (by decide +kernel), look_cons, if_pos rfl]
theorem lookW_come {bk : List Kd} {rn cn fn : Nat} : lookK (wDict bk rn cn fn) (.inr "come") = some (.ref cn) := by rw [look_cons, if_neg (by decide +kernel), look_cons, if_neg (by decide +kernel), look_cons, if_pos rfl]
theorem lookW_fields {bk : List Kd} {rn cn fn : Nat} : lookK (wDict bk rn cn fn) (.inr "fields") = some (.ref fn) := by rw [look_cons, if_neg (by decide +kernel), look_cons, if_neg (by decide +kernel), look_cons, if_neg (by decide +kernel), look_cons, if_pos rfl]
def keysOf : List (Key × D) → List Str
  | [] => []
  | (.inr x, _) :: r => x :: keysOf r
  | (.inl _, _) :: r => keysOf r
theorem keysOf_map : ∀ {rks : List (Key × D)}, (∀ kv ∈ rks, ∃ x, kv.1 = .inr x) → rks.map (fun kv => dK kv.1) = (keysOf rks).map D.str
  | [], _ => rfl
  | (.inr x, d) :: r, h => by
    show D.str x :: r.map (fun kv => dK kv.1) = D.str x :: (keysOf r).map D.str
    rw [keysOf_map fun kv hkv => h kv (List.mem_cons_of_mem _ hkv)]
  | (.inl i, d) :: r, h => by
    obtain ⟨x, e⟩ := h _ List.mem_cons_self
    cases e
theorem keysOf_len : ∀ (rks : List (Key × D)), (keysOf rks).length ≤ rks.length
  | [] => Nat.le_refl _
  | (.inr x, d) :: r => by
    have := keysOf_len r
    show (keysOf r).length + 1 ≤ r.length + 1
    omega
  | (.inl i, d) :: r => by
    have := keysOf_len r
    show (keysOf r).length ≤ r.length + 1
    omega
theorem keysOf_look : ∀ {rks : List (Key × D)} {x : Str}, x ∈ keysOf rks ↔ (lookK rks (.inr x)).isSome = true
  | [], x => by simp [keysOf, lookK]
  | (.inr y, d) :: r, x => by
    rw [look_cons]
    show x ∈ y :: keysOf r ↔ _
    rw [List.mem_cons]
    by_cases e : y = x
    · subst e
      simp
    · have e2 : ¬ (Sum.inr y : Key) = .inr x := fun z => e (Sum.inr.inj z)
      rw [if_neg e2, ← keysOf_look (rks := r)]
      constructor
      · rintro (h | h)
        · exact absurd h.symm e
        · exact h
      · exact .inr
  | (.inl i, d) :: r, x => by
    rw [look_cons, if_neg (by intro z; cases z)]
    exact keysOf_look (rks := r)
theorem wp_listK {n : Nat} {ks : List (Key × D)} {S : Store} {Q : D → Store → Prop} (h : S[n]? = some (.dK ks)) (q : Q (.ref S.length) (S ++ [.lst (ks.map fun kv => dK kv.1)])) : Wp (bList [.ref n] S) Q := by
  unfold bList
  dsimp only
  rw [getL_dK h]
  dsimp only
  rw [h]
  exact wp_ok.mpr q
theorem wp_cutL {n : Nat} {ds : List D} {lo hi : Option Int} {S : Store} {Q : D → Store → Prop} (h : getL S n = some ds) (q : Q (.ref S.length) (S ++ [.lst (Mp.cutD ds lo hi)])) : Wp (dCut (.ref n) lo hi S) Q := by
  unfold dCut
  dsimp only
  rw [h]
  exact wp_ok.mpr q
theorem cut_map {α : Type} {g : α → D} {xs : List α} {lo hi : Option Int} : Mp.cutD (xs.map g) lo hi = (Mp.cutD xs lo hi).map g := by
  unfold Mp.cutD
  rw [List.length_map, ← List.map_drop, ← List.map_take]
theorem cut_mem {α : Type} {xs : List α} {lo hi : Option Int} {x : α} (h : x ∈ Mp.cutD xs lo hi) : x ∈ xs := by
  unfold Mp.cutD at h
  exact List.mem_of_mem_drop (List.mem_of_mem_take h)
theorem cut_len {α : Type} {xs : List α} {lo hi : Option Int} : (Mp.cutD xs lo hi).length ≤ xs.length := by
  unfold Mp.cutD
  rw [List.length_take, List.length_drop]
  omega
/-- x is a kind that is ranked, or num -/
def Ranked (rks : List (Key × D)) (x : Str) : Prop := (lookK rks (.inr x)).isSome = true
theorem kinds_ok {k w p lo hi : Nat} {bk : List Kd} {rks : List (Key × D)} {S : Store} (hk : 2 ≤ k) (hw : World bk rks lo hi S w) (hR : RInv bk rks 6) (h37 : rks.length ≤ 37) (hp : Pool S p) (hpo : p < lo ∨ hi ≤ p) :
    Wp (evalF Bs k 8 [.ref w, .ref p] S) fun d S' => ∃ (n : Nat) (xs : List Str), d = .ref n ∧ S.length ≤ n ∧ S'[n]? = some (.lst (xs.map D.str)) ∧ xs.length = 2 ∧ (∀ x ∈ xs, Ranked rks x) ∧ Pool S' p ∧ Fr [p] S S' := by
  obtain ⟨k, rfl⟩ := Nat.exists_eq_add_of_le' (show 1 ≤ k by omega)
  obtain ⟨rn, cn, fn, cks, _, hrn, _, _, gw, gr, _, _, _⟩ := hw
  rw [ev' 8 k _ S (np := 2) (nn := 5) (B := B8) rfl rfl]
  refine wp_run ?_
  have ee : (List.map some [D.ref w, D.ref p] ++ List.replicate (5 - 2) none : Mp.Env) = [some (.ref w), some (.ref p), none, none, none] := rfl
  rw [ee]
  unfold B8
  subst_eqs
  refine wp_idxK gw rfl lookW_ranks ?_
  subst_eqs
  refine wp_listK gr ?_
  rw [keysOf_map hR.keys]
  have hkl := keysOf_len rks
  have hnum : ("num" : Str) ∈ keysOf rks := keysOf_look.mpr (by rw [hR.num]; rfl)
  have hlk : ∀ x ∈ keysOf rks, Ranked rks x := fun x hx => keysOf_look.mp hx
  generalize keysOf rks = names at *
  have g1 := get_push (S := S) (o := .lst (names.map D.str))
  have hp1 : Pool (S ++ [.lst (names.map D.str)]) p := hp.push
  have f1 : Fr [p] S (S ++ [.lst (names.map D.str)]) := Fr.push
  have hnp : S.length ≠ p := by have := hp.lt; omega
  generalize hn1 : S.length = n1 at g1 hnp ⊢
  generalize S ++ [.lst (names.map D.str)] = S1 at *
  subst_eqs
  refine wp_cutL (getL_lst g1) ?_
  rw [cut_map]
  generalize hc : Mp.cutD names (some 1) none = cut
  have hcm : ∀ x ∈ cut, Ranked rks x := fun x hx => hlk x (cut_mem (hc ▸ hx))
  have hcl : cut.length ≤ 37 := by
    have : cut.length ≤ names.length := hc ▸ cut_len
    omega
  have g2 := get_push (S := S1) (o := .lst (cut.map D.str))
  have g12 := get_old (x := .lst (cut.map D.str)) g1
  subst_eqs
  refine wp_addL g2 g12 (by simp; rw [sizeLine_eq]; omega) ?_
  have g3 := get_push (S := S1 ++ [.lst (cut.map D.str)]) (o := .lst (cut.map D.str ++ names.map D.str))
  have g13 := get_old (x := .lst (cut.map D.str ++ names.map D.str)) g12
  have hp3 : Pool (S1 ++ [.lst (cut.map D.str)] ++ [.lst (cut.map D.str ++ names.map D.str)]) p := hp1.push.push
  have f3 : Fr [p] S (S1 ++ [.lst (cut.map D.str)] ++ [.lst (cut.map D.str ++ names.map D.str)]) := f1.push'.push'
  generalize (S1 ++ [MO.lst (cut.map D.str)]).length = n3 at *
  generalize S1 ++ [.lst (cut.map D.str)] ++ [.lst (cut.map D.str ++ names.map D.str)] = S3 at *
  subst_eqs
  refine wp_cutL (getL_lst g13) ?_
  rw [cut_map, hc]
  have g4 := get_push (S := S3) (o := .lst (cut.map D.str))
  have g34 := get_old (x := .lst (cut.map D.str)) g3
  subst_eqs
  refine wp_addL g34 g4 (by simp; rw [sizeLine_eq]; omega) ?_
  have em : cut.map D.str ++ names.map D.str ++ cut.map D.str = (cut ++ names ++ cut).map D.str := by simp
  rw [em]
  have g5 := get_push (S := S3 ++ [.lst (cut.map D.str)]) (o := .lst ((cut ++ names ++ cut).map D.str))
  have hp5 : Pool (S3 ++ [.lst (cut.map D.str)] ++ [.lst ((cut ++ names ++ cut).map D.str)]) p := hp3.push.push
  have f5 : Fr [p] S (S3 ++ [.lst (cut.map D.str)] ++ [.lst ((cut ++ names ++ cut).map D.str)]) := f3.push'.push'
  have hsm : ∀ x ∈ cut ++ names ++ cut, Ranked rks x := by
    intro x hx
    simp only [List.mem_append] at hx
    rcases hx with (q | q) | q
    · exact hcm x q
    · exact hlk x q
    · exact hcm x q
  have hs0 : 0 < (cut ++ names ++ cut).length := by
    have := List.length_pos_of_mem hnum
    simp
    omega
  have hs1 : (cut ++ names ++ cut).length ≤ 200 := by simp; omega
  have hnp5 : (S3 ++ [MO.lst (cut.map D.str)]).length ≠ p := by have := hp3.lt; simp; omega
  generalize cut ++ names ++ cut = some_ at *
  generalize (S3 ++ [MO.lst (cut.map D.str)]).length = n5 at *
  generalize S3 ++ [.lst (cut.map D.str)] ++ [.lst (some_.map D.str)] = S5 at *
  subst_eqs
  refine ⟨_, rfl, ⟨by omega, by omega⟩, ?_⟩
  refine wp_compR (fun i acc S' => ∃ xs : List Str, acc = xs.map D.str ∧ xs.length = i ∧ (∀ x ∈ xs, Ranked rks x) ∧ Pool S' p ∧ Fr [p] S S' ∧ S'[n5]? = some (.lst (some_.map D.str))) ⟨[], rfl, rfl, by simp, hp5, f5, g5⟩ ?_ ?_
  · rintro i acc S6 hi ⟨xs, rfl, hx, hxs, hp6, f6, g6⟩
    have gl := getL_lst g6
    subst_eqs
    rw [List.length_map]
    refine (next_ok (by omega) hp6 (by omega) (by omega)).mono ?_
    rintro _ S7 ⟨r, rfl, r0, r1, hp7, f7⟩
    obtain ⟨v, hv, _, ev7⟩ := map_at (g := D.str) (L := some_) r0 r1
    have g7 := f7.get g6 (by simpa using hnp5)
    refine wp_idxL (getL_lst g7) ev7 ?_
    refine ⟨xs ++ [v], by simp, by simp [hx], ?_, hp7, f6.then1 f7, g7⟩
    intro x hxx
    rcases List.mem_append.mp hxx with q | q
    · exact hxs x q
    · rw [List.mem_singleton.mp q]
      exact hsm v hv
  · rintro acc S6 ⟨xs, rfl, hx, hxs, hp6, f6, g6⟩
    have hx : xs.length = 2 := hx
    refine ⟨by rw [List.length_map, sizeLine_eq]; omega, ?_⟩
    exact ⟨_, xs, rfl, by rw [← hn1]; exact f6.1, get_push, hx, hxs, hp6.push, f6.push'⟩

/-- the room stands at r -/
def RoomAt (S : Store) (r : Nat) (a b : Nat) : Prop := ∃ c : Int, S[r]? = some (.lst [.int a, .int b, .int c])
theorem RoomAt.fr {W : List Nat} {S S' : Store} {r a b : Nat} (h : RoomAt S r a b) (f : Fr W S S') (n : r ∉ W) : RoomAt S' r a b := by
  obtain ⟨c, h⟩ := h
  exact ⟨c, f.get h n⟩
def dO : Option Int → D
  | none => .non
  | some i => .int i
theorem stretch_ok {k p r a b : Nat} {S : Store} (hk : 3 ≤ k) (hp : Pool S p) (hr : RoomAt S r a b) (hne : p ≠ r) :
    Wp (evalF Bs k 11 [.ref p, .ref r] S) fun d S' => (d = .tup [.str "any"] ∨ ∃ l h, d = .tup [.str "num", dO l, dO h]) ∧ (∃ a', RoomAt S' r a' b) ∧ Pool S' p ∧ Fr [p, r] S S' := by
  obtain ⟨k, rfl⟩ := Nat.exists_eq_add_of_le' (show 1 ≤ k by omega)
  obtain ⟨c, hr⟩ := hr
  rw [ev' 11 k _ S (np := 2) (nn := 5) (B := B11) rfl rfl]
  refine wp_run ?_
  have ee : (List.map some [D.ref p, D.ref r] ++ List.replicate (5 - 2) none : Mp.Env) = [some (.ref p), some (.ref r), none, none, none] := rfl
  rw [ee]
  unfold B11
  subst_eqs
  refine (next_ok (by omega) hp (by omega) (by omega)).mono ?_
  rintro _ S1 ⟨r1, rfl, r10, r11, hp1, f1⟩
  subst_eqs
  refine (number_ok (by omega) hp1).mono ?_
  rintro _ S2 ⟨low, rfl, hp2, f2⟩
  have hr2 := (f1.then1 f2).get hr (by simpa using Ne.symm hne)
  have f12 : Fr [p, r] S S2 := (f1.then1 f2).sub (by simp)
  have gl := getL_lst hr2
  clear f1 f2
  subst_eqs
  apply iteD <;> intro ha
  · subst_eqs
    exact ⟨.inl rfl, ⟨a, c, hr2⟩, hp2, f12⟩
  · subst_eqs
    apply iteD <;> intro hb
    · subst_eqs
      exact ⟨.inl rfl, ⟨a, c, hr2⟩, hp2, f12⟩
    · subst_eqs
      refine ⟨S2.set r (.lst [.int ((a : Int) / 4), .int b, .int c]), by unfold storeD; dsimp only; rw [hr2]; rfl, ?_⟩
      have e4 : ((a : Int) / 4) = ((a / 4 : Nat) : Int) := by omega
      have hr3 : RoomAt (S2.set r (.lst [.int ((a : Int) / 4), .int b, .int c])) r (a / 4) b := ⟨c, by rw [e4]; exact get_set (lt_of hr2)⟩
      have hp3 : Pool (S2.set r (.lst [.int ((a : Int) / 4), .int b, .int c])) p := hp2.set hne
      have f3 : Fr [p, r] S (S2.set r (.lst [.int ((a : Int) / 4), .int b, .int c])) := f12.then1 (Fr.set (by simp))
      generalize S2.set r (.lst [.int ((a : Int) / 4), .int b, .int c]) = S3 at *
      subst_eqs
      refine wp_pow (by decide +kernel) ?_
      generalize (10 : Int) ^ (20 : Int).toNat = big
      subst_eqs
      refine (next_ok (by omega) hp3.push (by omega) (by omega)).mono ?_
      rintro _ S4 ⟨r4, rfl, r40, r41, hp4, f4⟩
      have hlt := hp3.lt
      have g4 := f4.get (get_push (S := S3)) (by simp; omega)
      have hr4 := (hr3.fr (W := []) Fr.push (by simp)).fr f4 (by simpa using Ne.symm hne)
      have f4' : Fr [p, r] S S4 := f3.push'.then1 (f4.sub (by simp))
      obtain ⟨v, _, _, ev4⟩ := map_at (g := D.int) (L := [0, 1, 3, big]) r40 r41
      refine wp_idxL (getL_lst g4) ev4 ?_
      subst_eqs
      refine wp_pick (getL_lst get_push) ?_
      subst_eqs
      have hsel : ∀ (x : Int) (c : Bool), ∃ o, (if c = true then D.non else D.int x) = dO o := fun x c => by
        cases c with
        | true => exact ⟨none, rfl⟩
        | false => exact ⟨some x, rfl⟩
      refine wp_pick (getL_lst get_push) ?_
      subst_eqs
      obtain ⟨l, el⟩ := hsel low (decide (r1 = 1))
      obtain ⟨h, eh⟩ := hsel (low + v) (decide (r1 = 2))
      rw [el, eh]
      exact ⟨.inr ⟨l, h, rfl⟩, ⟨_, (hr4.fr (W := []) Fr.push (by simp)).fr (W := []) Fr.push (by simp)⟩, hp4.push.push, f4'.push'.push'⟩

end K49

set_option Elab.async false
set_option linter.all false
set_option maxRecDepth 100000
set_option maxHeartbeats 3000000
namespace K49
open PySem L2 Mp
open PyProof.Rows hiding St

local macro_rules | `(tactic| left) => `(tactic| first
  | (with_reducible first
    | refine wp_seq ?_ | refine wp_ret ?_ | refine wp_expr ?_ | refine wp_sif ?_ | refine wp_set1 ?_ | refine wp_bin ?_ | refine wp_put ?_ | refine wp_un ?_ | refine wp_app ?_ | refine wp_nil ?_ | refine wp_cons ?_ | refine wp_tup ?_ | refine wp_lst ?_
    | refine wp_const ?_ | refine wp_meth ?_ | refine wp_join ?_ | refine wp_eif ?_ | refine wp_tand ?_ | refine wp_tor ?_ | refine wp_tnot ?_ | refine wp_test ?_ | refine wp_cut ?_ | refine wp_osome ?_ | refine wp_onone ?_ | refine wp_isi ?_
    | refine wp_pnil ?_ | refine wp_pcons ?_ | refine wp_dict ?_ | refine wp_for ?_ | refine wp_comp ?_ | refine wp_skip ?_ | refine wp_setP ?_ | refine wp_iRg1 ?_ | refine wp_iRg2 ?_ | refine wp_yes ?_
    | refine wp_addI ?_ | refine wp_subI ?_ | refine wp_neg ?_ | refine wp_cmp ?_ | refine wp_eqI ?_ | refine wp_eqS ?_ | refine wp_neI ?_ | refine wp_neS ?_ | refine wp_neB ?_ | refine wp_isnt ?_ | refine wp_min ?_ | refine wp_max ?_ | refine wp_intB ?_ | refine wp_lenT ?_ | refine wp_lenF ?_
    | refine ex_bl ?_ | refine ex_int ?_ | refine iteW ?_ | refine iteF' ?_)
  | ((with_reducible apply wp_slot); exact rfl)
  | ((with_reducible apply wp_idxL); (with_reducible assumption); exact rfl)
  | ((with_reducible apply wp_idxT); exact rfl)
  | ((with_reducible apply wp_lenL); with_reducible assumption)
  | ((with_reducible refine wp_mod ?_ ?_); omega)
  | ((with_reducible refine wp_fdiv ?_ ?_); omega)
  | ((with_reducible refine wp_mul ?_ ?_); omega))
local macro_rules | `(tactic| subst_eqs) => `(tactic| repeat (first | left | dsimp only))

/-! KB: shapes. -/
def Parts (P : Str → D → List (Str × Str) → Nat → Prop) : List Str → List D → List (Str × Str) → Nat → Prop
  | [], [], kept, nl => kept = [] ∧ nl = 1
  | f :: fs, d :: ds, kept, nl => ∃ k1 n1 k2 n2, P f d k1 n1 ∧ Parts P fs ds k2 n2 ∧ kept = k1 ++ k2 ∧ nl = n1 * n2
  | _, _, _, _ => False
def Sides (P : D → Nat → Prop) : List D → Nat → Prop
  | [], nl => nl = 0
  | d :: ds, nl => ∃ n1 n2, P d n1 ∧ Sides P ds n2 ∧ nl = n1 + n2
def Shp (bk : List Kd) : Nat → Str → D → List (Str × Str) → Nat → Prop
  | 0, _, _, _, _ => False
  | n + 1, kind, d, kept, nl => (d = .tup [.str "any"] ∧ kept = [] ∧ nl = 1) ∨ (∃ l h, d = .tup [.str "num", dO l, dO h] ∧ kept = [] ∧ nl = 1) ∨
    (∃ x d' kept', d = .tup [.str "held", .str x, d'] ∧ Shp bk n kind d' kept' nl ∧ kept = (x, kind) :: kept') ∨
    (∃ d0 ds, d = .tup [.str "either", .tup (d0 :: ds)] ∧ Sides (fun e m => Shp bk n kind e kept m) (d0 :: ds) nl) ∨
    (∃ m ds, m ∈ bk.flatMap (·.2) ∧ kind ∈ bk.map (·.1) ∧ d = .tup [.str "make", .str m.1, .tup ds] ∧ Parts (Shp bk n) m.2 ds kept nl)
theorem Parts.imp {P Q : Str → D → List (Str × Str) → Nat → Prop} (h : ∀ f d k n, P f d k n → Q f d k n) : ∀ {fs : List Str} {ds : List D} {kept : List (Str × Str)} {nl : Nat}, Parts P fs ds kept nl → Parts Q fs ds kept nl
  | [], [], _, _, q => q
  | f :: fs, d :: ds, _, _, q => by
    obtain ⟨k1, n1, k2, n2, h1, h2, h3⟩ := q
    exact ⟨k1, n1, k2, n2, h _ _ _ _ h1, Parts.imp h h2, h3⟩
  | [], _ :: _, _, _, q => q.elim
  | _ :: _, [], _, _, q => q.elim
theorem Parts.snoc {P : Str → D → List (Str × Str) → Nat → Prop} {f : Str} {d : D} {k1 : List (Str × Str)} {n1 : Nat} (h : P f d k1 n1) : ∀ {fs : List Str} {ds : List D} {kept : List (Str × Str)} {nl : Nat}, Parts P fs ds kept nl → Parts P (fs ++ [f]) (ds ++ [d]) (kept ++ k1) (nl * n1)
  | [], [], _, _, q => by
    obtain ⟨rfl, rfl⟩ := q
    exact ⟨k1, n1, [], 1, h, ⟨rfl, rfl⟩, by simp, by simp⟩
  | f2 :: fs, d2 :: ds, _, _, q => by
    obtain ⟨a1, m1, a2, m2, h1, h2, rfl, rfl⟩ := q
    exact ⟨a1, m1, a2 ++ k1, m2 * n1, h1, Parts.snoc h h2, by simp, Nat.mul_assoc _ _ _⟩
  | [], _ :: _, _, _, q => q.elim
  | _ :: _, [], _, _, q => q.elim
theorem Parts.len {P : Str → D → List (Str × Str) → Nat → Prop} : ∀ {fs : List Str} {ds : List D} {kept : List (Str × Str)} {nl : Nat}, Parts P fs ds kept nl → fs.length = ds.length
  | [], [], _, _, _ => rfl
  | f2 :: fs, d2 :: ds, _, _, q => by
    obtain ⟨a1, m1, a2, m2, h1, h2, _⟩ := q
    simp [Parts.len h2]
  | [], _ :: _, _, _, q => q.elim
  | _ :: _, [], _, _, q => q.elim
theorem Sides.imp {P Q : D → Nat → Prop} (h : ∀ d n, P d n → Q d n) : ∀ {ds : List D} {nl : Nat}, Sides P ds nl → Sides Q ds nl
  | [], _, q => q
  | d :: ds, _, q => by
    obtain ⟨n1, n2, h1, h2, h3⟩ := q
    exact ⟨n1, n2, h _ _ h1, Sides.imp h h2, h3⟩
theorem Sides.snoc {P : D → Nat → Prop} {d : D} {n1 : Nat} (h : P d n1) : ∀ {ds : List D} {nl : Nat}, Sides P ds nl → Sides P (ds ++ [d]) (nl + n1)
  | [], _, q => by
    have q : _ = 0 := q
    subst q
    exact ⟨n1, 0, h, rfl, by omega⟩
  | d2 :: ds, _, q => by
    obtain ⟨m1, m2, h1, h2, rfl⟩ := q
    exact ⟨m1, m2 + n1, h1, Sides.snoc h h2, by omega⟩
theorem Sides.map {P Q : D → Nat → Prop} {g : D → D} (h : ∀ d n, P d n → Q (g d) n) : ∀ {ds : List D} {nl : Nat}, Sides P ds nl → Sides Q (ds.map g) nl
  | [], _, q => q
  | d :: ds, _, q => by
    obtain ⟨n1, n2, h1, h2, h3⟩ := q
    exact ⟨n1, n2, h _ _ h1, Sides.map h h2, h3⟩
theorem Shp.up {bk : List Kd} : ∀ {n : Nat} {kind : Str} {d : D} {kept : List (Str × Str)} {nl : Nat}, Shp bk n kind d kept nl → Shp bk (n + 1) kind d kept nl
  | 0, _, _, _, _, h => h.elim
  | n + 1, kind, d, kept, nl, h => by
    rcases h with h | h | ⟨x, d', kept', h1, h2, h3⟩ | ⟨d0, ds, h1, h2⟩ | ⟨m, ds, h1, h2, h3, h4⟩
    · exact .inl h
    · exact .inr (.inl h)
    · exact .inr (.inr (.inl ⟨x, d', kept', h1, h2.up, h3⟩))
    · exact .inr (.inr (.inr (.inl ⟨d0, ds, h1, h2.imp fun _ _ q => q.up⟩)))
    · exact .inr (.inr (.inr (.inr ⟨m, ds, h1, h2, h3, h4.imp fun _ _ _ _ q => q.up⟩)))
def Out (lo hi i : Nat) : Prop := i < lo ∨ hi ≤ i
abbrev ShapeQ (bk : List Kd) (n : Nat) (kind : Str) (p r nn b : Nat) (xs : List Str) (S : Store) : D → Store → Prop := fun e S' => ∃ (kept : List (Str × Str)) (nl a' b' : Nat) (xs' : List Str), Shp bk n kind e kept nl ∧ RoomAt S' r a' b' ∧ 1 ≤ b' ∧ 1 ≤ nl ∧ nl * b' ≤ b ∧
  S'[nn]? = some (.lst (xs'.map D.str)) ∧ kept.length + xs'.length ≤ xs.length ∧ Pool S' p ∧ Fr [p, r, nn] S S'
def ShapeSpec (bk : List Kd) (rks : List (Key × D)) (lo hi d : Nat) : Prop := ∀ (k w p r nn a b : Nat) (kind : Str) (xs : List Str) (S : Store), 4 + 2 * d ≤ k → World bk rks lo hi S w → hi ≤ S.length → Out lo hi p → Out lo hi r → Out lo hi nn → p ≠ r → p ≠ nn → r ≠ nn →
  Pool S p → RoomAt S r a b → 1 ≤ b → S[nn]? = some (.lst (xs.map D.str)) → xs.length ≤ 7 → Wp (evalF Bs k 13 [.ref w, .str kind, .ref p, .int (d : Int), .ref r, .ref nn] S) (ShapeQ bk (2 * d + 1) kind p r nn b xs S)
theorem out_ne {lo hi i j : Nat} (h : Out lo hi i) (h2 : lo ≤ j ∧ j < hi) : i ≠ j := by
  unfold Out at h
  omega
theorem World.fr' {bk : List Kd} {rks : List (Key × D)} {lo hi : Nat} {S S' : Store} {w : Nat} {W : List Nat} (h : World bk rks lo hi S w) (f : Fr W S S') (hW : ∀ i ∈ W, Out lo hi i) : World bk rks lo hi S' w := h.fr f hW
theorem World.lt {bk : List Kd} {rks : List (Key × D)} {lo hi : Nat} {S : Store} {w : Nat} (h : World bk rks lo hi S w) : w < hi ∧ w < S.length := by
  obtain ⟨rn, cn, fn, cks, h1, _, _, _, g, _⟩ := h
  exact ⟨h1.2, lt_of g⟩
theorem wp_seqP {a b : DS} {ρ : Mp.Env} {S : Store} {Q : Fl → Store → Prop} (P : Fl → Store → Prop) (h : Wp (a ρ S) P) (k : ∀ o S1, P o S1 → (match o with | .nx ρ1 => Wp (b ρ1 S1) Q | o => Q o S1)) : Wp (sSeq a b ρ S) Q := wp_seq (h.mono k)
theorem either_ok {bk : List Kd} {rks : List (Key × D)} {lo hi d : Nat} (ih : ShapeSpec bk rks lo hi d) {k w p r nn a b : Nat} {kind : Str} {xs : List Str} {S : Store} (hk : 5 + 2 * d ≤ k) (hw : World bk rks lo hi S w) (hhi : hi ≤ S.length) (op : Out lo hi p) (or_ : Out lo hi r) (on : Out lo hi nn)
    (hpr : p ≠ r) (hpn : p ≠ nn) (hrn : r ≠ nn) (hp : Pool S p) (hr : RoomAt S r a b) (hb : 2 ≤ b) (hn : S[nn]? = some (.lst (xs.map D.str))) (hx : xs.length ≤ 7) :
    Wp (evalF Bs k 12 [.ref w, .str kind, .ref p, .int ((d + 1 : Nat) : Int), .ref r, .ref nn] S) (ShapeQ bk (2 * d + 3) kind p r nn b xs S) := by
  obtain ⟨k, rfl⟩ := Nat.exists_eq_add_of_le' (show 1 ≤ k by omega)
  rw [ev' 12 k _ S (np := 6) (nn := 11) (B := B12) rfl rfl]
  refine wp_run ?_
  have ee : (List.map some [D.ref w, D.str kind, D.ref p, D.int ((d + 1 : Nat) : Int), D.ref r, D.ref nn] ++ List.replicate (11 - 6) none : Mp.Env) = [some (.ref w), some (.str kind), some (.ref p), some (.int ((d + 1 : Nat) : Int)), some (.ref r), some (.ref nn), none, none, none, none, none] := rfl
  rw [ee]
  unfold B12
  subst_eqs
  refine (next_ok (by omega) hp (by omega) (by omega)).mono ?_
  rintro _ S1 ⟨r1, rfl, r10, r11, hp1, f1⟩
  obtain ⟨c, hr1⟩ := hr.fr f1 (by simpa using Ne.symm hpr)
  have hn1 := f1.get hn (by simpa using Ne.symm hpn)
  replace f1 : Fr [p, r, nn] S S1 := f1.sub (by simp)
  have gl := getL_lst hr1
  subst_eqs
  generalize hs : (if (b : Int) < 2 + r1 then (b : Int) else 2 + r1) = sI
  have hs1 : 2 ≤ sI ∧ sI ≤ b ∧ sI ≤ 3 := by split at hs <;> omega
  obtain ⟨s, rfl⟩ : ∃ s : Nat, sI = s := ⟨sI.toNat, by omega⟩
  subst_eqs
  refine ⟨S1.set r (.lst [.int a, .int ((b : Int) / s), .int c]), by unfold storeD; dsimp only; rw [hr1]; rfl, ?_⟩
  have eb : ((b : Int) / s) = ((b / s : Nat) : Int) := by simp
  have hr2 : RoomAt (S1.set r (.lst [.int a, .int ((b : Int) / s), .int c])) r a (b / s) := ⟨c, by rw [eb]; exact get_set (lt_of hr1)⟩
  have hb1 : 1 ≤ b / s := (Nat.one_le_div_iff (by omega)).mpr (by omega)
  have hb2 : s * (b / s) ≤ b := Nat.mul_div_le b s
  have hp2 : Pool (S1.set r (.lst [.int a, .int ((b : Int) / s), .int c])) p := hp1.set hpr
  have hn2 := get_set_ne (x := .lst [.int a, .int ((b : Int) / s), .int c]) hn1 (Ne.symm hrn)
  have f2 : Fr [p, r, nn] S (S1.set r (.lst [.int a, .int ((b : Int) / s), .int c])) := f1.then1 (Fr.set (by simp))
  generalize S1.set r (.lst [.int a, .int ((b : Int) / s), .int c]) = S2 at *
  generalize b / s = b1 at *
  clear gl hr1 hn1 hp1 f1
  try dsimp only
  refine wp_seq (wp_set1 (wp_const ?_))
  dsimp only
  refine wp_seqP (fun o S' => ∃ (x : Str) (kx : List (Str × Str)) (xs' : List Str), o = .nx [some (.ref w), some (.str kind), some (.ref p), some (.int ((d + 1 : Nat) : Int)), some (.ref r), some (.ref nn), some (.int s), some (.str x), none, none, none] ∧ kx = (if x = "" then [] else [(x, kind)]) ∧
    kx.length + xs'.length ≤ xs.length ∧ S'[nn]? = some (.lst (xs'.map D.str)) ∧ RoomAt S' r a b1 ∧ Pool S' p ∧ Fr [p, r, nn] S S') ?_ ?_
  · have gl := getL_lst hn2
    subst_eqs
    apply iteD <;> intro hxs
    · subst_eqs
      refine (next_ok (by omega) hp2 (by omega) (by omega)).mono ?_
      rintro _ S3 ⟨r3, rfl, r30, r31, hp3, f3⟩
      have hr3 := hr2.fr f3 (by simpa using Ne.symm hpr)
      have hn3 := f3.get hn2 (by simpa using Ne.symm hpn)
      replace f3 := f2.then1 (f3.sub (by simp))
      subst_eqs
      apply iteD <;> intro hz
      · obtain ⟨x, xs2, rfl⟩ : ∃ x r, xs = x :: r := by
          cases xs with
          | nil => simp at hxs
          | cons x r => exact ⟨x, r, rfl⟩
        subst_eqs
        refine ⟨isL_lst hn3, ?_⟩
        subst_eqs
        refine wp_pop0 hn3 ?_
        subst_eqs
        refine ⟨x, _, xs2, rfl, rfl, ?_, get_set (lt_of hn3), hr3.fr (Fr.set (W := [nn]) (by simp)) (by simpa using hrn), hp3.set hpn, f3.then1 (Fr.set (by simp))⟩
        split <;> simp
        omega
      · subst_eqs
        exact ⟨"", [], xs, rfl, by simp, by simp, hn3, hr3, hp3, f3⟩
    · subst_eqs
      exact ⟨"", [], xs, rfl, by simp, by simp, hn2, hr2, hp2, f2⟩
  · rintro _ S3 ⟨x, kx, xs', rfl, hkx, hkl, hn3, hr3, hp3, f3⟩
    dsimp only
    refine wp_seq (wp_set1 (wp_lst (wp_nil ?_)))
    have gF := get_push (S := S3) (o := .lst [])
    have hn4 := get_old (x := .lst []) hn3
    have hr4 : RoomAt (S3 ++ [.lst []]) r a b1 := hr3.fr (W := []) Fr.push (by simp)
    have hp4 : Pool (S3 ++ [.lst []]) p := hp3.push
    have f4 : Fr [p, r, nn] S (S3 ++ [.lst []]) := f3.push'
    have hfg : S.length ≤ S3.length := f3.1
    have hfp : S3.length ≠ p := by have := hp3.lt; omega
    have hfr : S3.length ≠ r := by obtain ⟨_, h⟩ := hr3; have := lt_of h; omega
    have hfn : S3.length ≠ nn := by have := lt_of hn3; omega
    generalize S3.length = fn at *
    generalize S3 ++ [.lst []] = S4 at *
    clear hn3 hr3 hp3 f3 hn2 hr2 hp2 f2
    dsimp only
    refine wp_seq (wp_for (wp_iRg1 (wp_cons (wp_slot (d := .int s) rfl (wp_nil ⟨_, rfl, ⟨by omega, by omega⟩, ?_⟩)))))
    have es : (s : Int).toNat = s := by omega
    rw [es]
    refine wp_forR (fun i ρ S' => ∃ v9 ds a' b' tot, ρ = [some (.ref w), some (.str kind), some (.ref p), some (.int ((d + 1 : Nat) : Int)), some (.ref r), some (.ref nn), some (.int s), some (.str x), some (.ref fn), v9, none] ∧ S'[fn]? = some (.lst ds) ∧ ds.length = i ∧
      Sides (fun e m => Shp bk (2 * d + 1) kind e [] m) ds tot ∧ RoomAt S' r a' b' ∧ 1 ≤ b' ∧ b' ≤ b1 ∧ tot * b' ≤ i * b1 ∧ i ≤ tot ∧ S'[nn]? = some (.lst (xs'.map D.str)) ∧ Pool S' p ∧ Fr [p, r, nn] S S') ?_ ?_ ?_
    · exact ⟨_, [], a, b1, 0, rfl, gF, rfl, rfl, hr4, hb1, Nat.le_refl _, by omega, by omega, hn4, hp4, f4⟩
    · rintro i _ S5 hi ⟨v9, ds, a', b', tot, rfl, g5, hdl, hsd, hr5, hb5, hbb5, ht5, hi5, hn5, hp5, f5⟩
      subst_eqs
      refine ⟨isL_lst g5, ?_⟩
      subst_eqs
      have e1 : (((d + 1 : Nat) : Int) - 1) = (d : Int) := by omega
      rw [e1]
      have f56 : Fr [p, r, nn] S (S5 ++ [.lst []]) := f5.push'
      have hlen5 := f5.1
      have hl5p := hp5.lt
      obtain ⟨cc, hr5'⟩ := hr5
      have hl5r := lt_of hr5'
      have hl5n := lt_of hn5
      have hl5f := lt_of g5
      refine (ih k w p r S5.length a' b' kind [] (S5 ++ [.lst []]) (by omega) (hw.fr' f56 (by
        intro i hi
        simp only [List.mem_cons, List.not_mem_nil, or_false] at hi
        rcases hi with rfl | rfl | rfl <;> assumption)) (by have := f56.1; omega) op or_ (.inr (by omega)) hpr (by omega) (by omega) hp5.push ⟨cc, get_old hr5'⟩ hb5 get_push (by simp)).mono ?_
      rintro e S6 ⟨kept, nl, a6, b6, xs6, hS, hr6, hb6, hn16, hnl6, _, hke, hp6, f6⟩
      have hke : kept = [] := by
        simp at hke
        exact hke.1
      subst hke
      have hb6' : b6 ≤ b' := by
        have : 1 * b6 ≤ nl * b6 := Nat.mul_le_mul_right _ hn16
        omega
      have g6 := f6.get (get_old (x := .lst []) g5) (by
        simp only [List.mem_cons, List.not_mem_nil, or_false]
        omega)
      have hn6 := f6.get (get_old (x := .lst []) hn5) (by
        simp only [List.mem_cons, List.not_mem_nil, or_false]
        omega)
      have f6' : Fr [p, r, nn] S S6 := f56.trans f6 (by
        intro i hi
        simp only [List.mem_cons, List.not_mem_nil, or_false] at hi
        rcases hi with rfl | rfl | rfl
        · exact .inl (by simp)
        · exact .inl (by simp)
        · exact .inr hlen5)
      subst_eqs
      refine wp_append g6 (by rw [hdl, sizeLine_eq]; omega) ?_
      subst_eqs
      refine ⟨_, ds ++ [e], a6, b6, tot + nl, rfl, get_set (lt_of g6), by simp [hdl], hsd.snoc hS, hr6.fr (Fr.set (W := [fn]) (by simp)) (by simpa using Ne.symm hfr), hb6, by omega, ?_, by omega, get_set_ne hn6 (Ne.symm hfn), hp6.set (Ne.symm hfp), f6'.set_new hfg⟩
      have h1 : tot * b6 ≤ tot * b' := Nat.mul_le_mul_left _ hb6'
      rw [Nat.add_mul, Nat.add_mul]
      omega
    · rintro _ S5 ⟨v9, ds, a', b', tot, rfl, g5, hdl, hsd, hr5, hb5, hbb5, ht5, hi5, hn5, hp5, f5⟩
      have hfin : tot * b' ≤ b := by omega
      have hcons : ∃ d0 dr, ds = d0 :: dr := by
        cases ds with
        | nil => simp at hdl; omega
        | cons d0 dr => exact ⟨d0, dr, rfl⟩
      obtain ⟨d0, dr, rfl⟩ := hcons
      subst_eqs
      by_cases hx0 : x = ""
      · have hc0 : (!decide (x = ("" : Str))) = false := by simp [hx0]
        rw [hc0]
        rw [if_pos hx0] at hkx
        subst hkx
        subst_eqs
        refine wp_tupleL (getL_lst g5) ?_
        subst_eqs
        exact ⟨[], tot, a', b', xs', .inr (.inr (.inr (.inl ⟨d0, dr, rfl, hsd.imp fun _ _ q => q.up⟩))), hr5, hb5, by omega, hfin, hn5, hkl, hp5, f5⟩
      · have hc0 : (!decide (x = ("" : Str))) = true := by simp [hx0]
        rw [hc0]
        rw [if_neg hx0] at hkx
        subst hkx
        subst_eqs
        refine wp_iLst ?_
        subst_eqs
        refine ⟨_, _, rfl, getL_lst g5, ?_⟩
        refine wp_compL (fun i acc S' => S' = S5 ∧ acc = ((d0 :: dr).take i).map fun e => D.tup [.str "held", .str x, e]) ⟨rfl, rfl⟩ (fun i acc S' h => by rw [h.1]; exact getL_lst g5) ?_ ?_
        · rintro i acc S6 hi ⟨rfl, rfl⟩
          refine ⟨_, rfl, ?_⟩
          subst_eqs
          refine ⟨rfl, ?_⟩
          rw [take_at hi, List.map_append]
          rfl
        · rintro acc S6 ⟨rfl, rfl⟩
          refine ⟨by rw [List.length_map, List.take_length, hdl, sizeLine_eq]; omega, ?_⟩
          rw [List.take_length]
          subst_eqs
          refine wp_tupleL (getL_lst get_push) ?_
          subst_eqs
          have hS : Sides (fun e m => Shp bk (2 * d + 2) kind e [(x, kind)] m) ((d0 :: dr).map fun e => D.tup [.str "held", .str x, e]) tot :=
            hsd.map fun e m q => .inr (.inr (.inl ⟨x, e, [], rfl, q, rfl⟩))
          exact ⟨[(x, kind)], tot, a', b', xs', .inr (.inr (.inr (.inl ⟨_, _, rfl, hS⟩))), hr5.fr (W := []) Fr.push (by simp), hb5, by omega, hfin, get_old hn5, hkl, hp5.push, f5.push'⟩

end K49

set_option Elab.async false
set_option linter.all false
set_option maxRecDepth 100000
set_option maxHeartbeats 3000000
namespace K49
open PySem L2 Mp
open PyProof.Rows hiding St

local macro_rules | `(tactic| left) => `(tactic| first
  | (with_reducible first
    | refine wp_seq ?_ | refine wp_ret ?_ | refine wp_expr ?_ | refine wp_sif ?_ | refine wp_set1 ?_ | refine wp_bin ?_ | refine wp_put ?_ | refine wp_un ?_ | refine wp_app ?_ | refine wp_nil ?_ | refine wp_cons ?_ | refine wp_tup ?_ | refine wp_lst ?_
    | refine wp_const ?_ | refine wp_meth ?_ | refine wp_join ?_ | refine wp_eif ?_ | refine wp_tand ?_ | refine wp_tor ?_ | refine wp_tnot ?_ | refine wp_test ?_ | refine wp_cut ?_ | refine wp_osome ?_ | refine wp_onone ?_ | refine wp_isi ?_
    | refine wp_pnil ?_ | refine wp_pcons ?_ | refine wp_dict ?_ | refine wp_for ?_ | refine wp_comp ?_ | refine wp_skip ?_ | refine wp_setP ?_ | refine wp_iRg1 ?_ | refine wp_iRg2 ?_ | refine wp_yes ?_
    | refine wp_addI ?_ | refine wp_subI ?_ | refine wp_neg ?_ | refine wp_cmp ?_ | refine wp_eqI ?_ | refine wp_eqS ?_ | refine wp_neI ?_ | refine wp_neS ?_ | refine wp_neB ?_ | refine wp_isnt ?_ | refine wp_min ?_ | refine wp_max ?_ | refine wp_intB ?_ | refine wp_lenT ?_ | refine wp_lenF ?_
    | refine ex_bl ?_ | refine ex_int ?_ | refine iteW ?_ | refine iteF' ?_)
  | ((with_reducible apply wp_slot); exact rfl)
  | ((with_reducible apply wp_idxL); (with_reducible assumption); exact rfl)
  | ((with_reducible apply wp_idxT); exact rfl)
  | ((with_reducible apply wp_lenL); with_reducible assumption)
  | ((with_reducible refine wp_mod ?_ ?_); omega)
  | ((with_reducible refine wp_fdiv ?_ ?_); omega)
  | ((with_reducible refine wp_mul ?_ ?_); omega))
local macro_rules | `(tactic| subst_eqs) => `(tactic| repeat (first | left | dsimp only))

/-! KC: shapes told. -/
theorem RInv.kind {bk : List Kd} {rks : List (Key × D)} {t : Int} (h : RInv bk rks t) {x : Str} (hx : Ranked rks x) (hn : x ≠ "num") : ∃ b ∈ bk, b.1 = x ∧ 0 < (b.2.filter (cm rks)).length := by
  unfold Ranked at hx
  cases e : lookK rks (.inr x) with
  | none => rw [e] at hx; cases hx
  | some d =>
    rcases h.look x d e with ⟨z, _⟩ | ⟨r, rfl, h1, h2, b, hb, hbx, m, hm, hf⟩
    · exact absurd z hn
    · refine ⟨b, hb, hbx, List.length_pos_of_mem (a := m) (List.mem_filter.mpr ⟨hm, ?_⟩)⟩
      unfold cm
      refine List.all_eq_true.mpr fun f hff => ?_
      obtain ⟨q, hq, _⟩ := hf f hff
      rw [hq]
      rfl
theorem look_book {bk : List Kd} (wf : WfB bk) {b : Kd} (hb : b ∈ bk) : lookK (mergeD [] (bk.map pKd)) (.inr b.1) = some (.tup (b.2.map dMk)) := by
  have hkeys : (bk.map pKd).map (·.1) = (bk.map (·.1)).map Sum.inr := by simp [pKd]
  have nd : ((bk.map pKd).map (·.1)).Nodup := by rw [hkeys]; exact nodup_inr wf.kn
  rw [merge_new (fun _ _ => rfl) nd]
  exact look_mem nd (List.mem_map_of_mem (f := pKd) hb)
theorem look_fields {bk : List Kd} (wf : WfB bk) {m : Mk} (hm : m ∈ bk.flatMap (·.2)) : lookK (fPairs bk) (.inr m.1) = some (.tup (m.2.map D.str)) := by
  refine look_mem ?_ (List.mem_map_of_mem (f := pMk) hm)
  rw [fPairs_keys]
  exact nodup_inr wf.mks
inductive Alt (A B : Prop) : Prop
  | one (a : A)
  | two (b : B)
  | thr (h : False)
theorem shape_step {bk : List Kd} {rks : List (Key × D)} {lo hi d : Nat} (wf : WfB bk) (hR : RInv bk rks 6) (ih : ∀ d', d = d' + 1 → ShapeSpec bk rks lo hi d') : ShapeSpec bk rks lo hi d := by
  intro k w p r nn a b kind xs S hk hw hhi op or_ on hpr hpn hrn hp hr hb hn hx
  obtain ⟨k, rfl⟩ := Nat.exists_eq_add_of_le' (show 1 ≤ k by omega)
  have hWout : ∀ i ∈ [p, r, nn], Out lo hi i := by
    intro i hi
    simp only [List.mem_cons, List.not_mem_nil, or_false] at hi
    rcases hi with rfl | rfl | rfl <;> assumption
  rw [ev' 13 k _ S (np := 6) (nn := 12) (B := B13) rfl rfl]
  refine wp_run ?_
  have ee : (List.map some [D.ref w, D.str kind, D.ref p, D.int (d : Int), D.ref r, D.ref nn] ++ List.replicate (12 - 6) none : Mp.Env) = [some (.ref w), some (.str kind), some (.ref p), some (.int (d : Int)), some (.ref r), some (.ref nn), none, none, none, none, none, none] := rfl
  rw [ee]
  unfold B13
  subst_eqs
  refine (next_ok (by omega) hp (by omega) (by omega)).mono ?_
  rintro _ S1 ⟨way, rfl, w0, w1, hp1, f1⟩
  replace hr := hr.fr f1 (by simpa using Ne.symm hpr)
  replace hn := f1.get hn (by simpa using Ne.symm hpn)
  replace f1 : Fr [p, r, nn] S S1 := f1.sub (by simp)
  have hw1 := hw.fr' f1 hWout
  have hhi1 : hi ≤ S1.length := Nat.le_trans hhi f1.1
  have anyQ : ShapeQ bk (2 * d + 1) kind p r nn b xs S (.tup [.str "any"]) S1 := ⟨[], 1, a, b, xs, .inl ⟨rfl, rfl, rfl⟩, hr, hb, Nat.le_refl _, by omega, hn, by simp, hp1, f1⟩
  obtain ⟨rn, cn, fn, cks, _, _, _, _, gw, gr, gc, gf, hcome⟩ := id hw1
  subst_eqs
  refine wp_idxK gw rfl lookW_ranks ?_
  refine wp_notInK gr ?_
  subst_eqs
  apply wp_iteS <;> intro hrk
  · subst_eqs
    exact anyQ
  · subst_eqs
    apply iteD <;> intro hd0
    · subst_eqs
      exact anyQ
    · subst_eqs
      apply iteD <;> intro hw2
      · subst_eqs
        exact anyQ
      · obtain ⟨d, rfl⟩ : ∃ d', d = d' + 1 := ⟨d - 1, by omega⟩
        have ih := ih d rfl
        have e1 : (((d + 1 : Nat) : Int) - 1) = (d : Int) := by omega
        have gln := getL_lst hn
        have glr : ∃ c : Int, getL S1 r = some [.int a, .int b, .int c] := by
          obtain ⟨c, h⟩ := hr
          exact ⟨c, getL_lst h⟩
        obtain ⟨c, glr⟩ := glr
        have hlp := hp1.lt
        refine wp_skip ?_
        dsimp only
        refine wp_seqP (fun o S' => Alt (∃ e, o = .rt e ∧ ShapeQ bk (2 * (d + 1) + 1) kind p r nn b xs S e S') (o = .nx [some (.ref w), some (.str kind), some (.ref p), some (.int ((d + 1 : Nat) : Int)), some (.ref r), some (.ref nn), some (.int way), none, none, none, none, none] ∧ S1 = S')) ?_ ?_
        · subst_eqs
          apply iteD <;> intro hw
          · subst_eqs
            apply iteD <;> intro hl
            · subst_eqs
              obtain ⟨x, xs2, rfl⟩ : ∃ x r, xs = x :: r := by
                cases xs with
                | nil => simp at hl
                | cons x r => exact ⟨x, r, rfl⟩
              refine ⟨isL_lst hn, ?_⟩
              subst_eqs
              refine wp_pop0 hn ?_
              subst_eqs
              rw [e1]
              have f2 : Fr [p, r, nn] S (S1.set nn (.lst (xs2.map D.str))) := f1.then1 (Fr.set (by simp))
              refine (ih k w p r nn a b kind xs2 _ (by omega) (hw1.fr' (Fr.set (W := [nn]) (by simp)) (by simpa using on)) (by simpa using hhi1) op or_ on hpr hpn hrn (hp1.set hpn) (hr.fr (Fr.set (W := [nn]) (by simp)) (by simpa using hrn)) hb (get_set (lt_of hn)) (by simp at hx; omega)).mono ?_
              rintro e S6 ⟨kept, nl, a6, b6, xs6, hS, hr6, hb6, hn16, hnl6, hn6, hke, hp6, f6⟩
              subst_eqs
              refine .one ⟨_, rfl, (x, kind) :: kept, nl, a6, b6, xs6, .inr (.inr (.inl ⟨x, e, kept, rfl, hS.up, rfl⟩)), hr6, hb6, hn16, hnl6, hn6, by simp; omega, hp6, f2.then1 f6⟩
            · subst_eqs
              exact .two ⟨rfl, rfl⟩
          · subst_eqs
            exact .two ⟨rfl, rfl⟩
        · rintro o S' (⟨e, rfl, q⟩ | ⟨rfl, rfl⟩ | ⟨⟨⟩⟩)
          · exact q
          dsimp only
          refine wp_seqP (fun o S' => Alt (∃ e, o = .rt e ∧ ShapeQ bk (2 * (d + 1) + 1) kind p r nn b xs S e S') (o = .nx [some (.ref w), some (.str kind), some (.ref p), some (.int ((d + 1 : Nat) : Int)), some (.ref r), some (.ref nn), some (.int way), none, none, none, none, none] ∧ S1 = S')) ?_ ?_
          · subst_eqs
            apply iteD <;> intro hw
            · subst_eqs
              apply iteD <;> intro hl
              · subst_eqs
                refine (either_ok ih (k := k) (by omega) hw1 hhi1 op or_ on hpr hpn hrn hp1 hr (by omega) hn hx).mono ?_
                rintro e S6 ⟨kept, nl, a6, b6, xs6, hS, hr6, hb6, hn16, hnl6, hn6, hke, hp6, f6⟩
                exact .one ⟨_, rfl, kept, nl, a6, b6, xs6, hS, hr6, hb6, hn16, hnl6, hn6, hke, hp6, f1.then1 f6⟩
              · subst_eqs
                exact .two ⟨rfl, rfl⟩
            · subst_eqs
              exact .two ⟨rfl, rfl⟩
          · rintro o S' (⟨e, rfl, q⟩ | ⟨rfl, rfl⟩ | ⟨⟨⟩⟩)
            · exact q
            dsimp only
            subst_eqs
            apply iteD <;> intro hkn
            · subst_eqs
              refine (stretch_ok (by omega) hp1 hr hpr).mono ?_
              rintro e S6 ⟨he, ⟨a6, hr6⟩, hp6, f6⟩
              have hn6 := f6.get hn (by simp only [List.mem_cons, List.not_mem_nil, or_false]; omega)
              refine ⟨[], 1, a6, b, xs, ?_, hr6, hb, Nat.le_refl _, by omega, hn6, by simp, hp6, f1.then1 (f6.sub (by
                intro i hi
                simp only [List.mem_cons, List.not_mem_nil, or_false] at hi ⊢
                omega))⟩
              rcases he with rfl | ⟨l, h, rfl⟩
              · exact .inl ⟨rfl, rfl, rfl⟩
              · exact .inr (.inl ⟨l, h, rfl, rfl, rfl⟩)
            · obtain ⟨bb, hbb, rfl, hpos⟩ := hR.kind hrk hkn
              obtain ⟨n, hnb, hcl, gn⟩ := hcome bb hbb
              have glm := getL_lst gn
              have hL6 := wf.ms bb hbb
              have hLf := List.length_filter_le (cm rks) bb.2
              have hLm : ∀ m ∈ bb.2.filter (cm rks), m ∈ bb.2 := fun m hm => (List.mem_filter.mp hm).1
              generalize bb.2.filter (cm rks) = L at *
              have hLl : (L.map dMk).length = L.length := List.length_map _
              subst_eqs
              refine wp_idxK gw rfl lookW_come ?_
              subst_eqs
              refine wp_idxK gc rfl hcl ?_
              subst_eqs
              apply iteD <;> intro hroom
              · subst_eqs
                exact ⟨[], 1, a, b, xs, .inl ⟨rfl, rfl, rfl⟩, hr, hb, Nat.le_refl _, by omega, hn, by simp, hp1, f1⟩
              · obtain ⟨c0, hr'⟩ := id hr
                have hc0 : c0 = c := by
                  have h1 := getL_lst hr'
                  rw [glr] at h1
                  cases h1
                  rfl
                subst hc0
                subst_eqs
                refine ⟨S1.set r (.lst [.int ((a : Int) / ((L.map dMk).length : Nat)), .int b, .int c0]), by unfold storeD; dsimp only; rw [hr']; rfl, ?_⟩
                have eb : ((a : Int) / ((L.map dMk).length : Nat)) = ((a / L.length : Nat) : Int) := by rw [hLl]; simp
                have hr2 : RoomAt (S1.set r (.lst [.int ((a : Int) / ((L.map dMk).length : Nat)), .int b, .int c0])) r (a / L.length) b := ⟨c0, by rw [eb]; exact get_set (lt_of hr')⟩
                have fs : Fr [p, r, nn] S1 (S1.set r (.lst [.int ((a : Int) / ((L.map dMk).length : Nat)), .int b, .int c0])) := Fr.set (by simp)
                have hp2 : Pool (S1.set r (.lst [.int ((a : Int) / ((L.map dMk).length : Nat)), .int b, .int c0])) p := hp1.set hpr
                have hn2 := get_set_ne (x := .lst [.int ((a : Int) / ((L.map dMk).length : Nat)), .int b, .int c0]) hn (Ne.symm hrn)
                have f2 := f1.then1 fs
                have hw2 := hw1.fr' fs hWout
                have hhi2 : hi ≤ (S1.set r (.lst [.int ((a : Int) / ((L.map dMk).length : Nat)), .int b, .int c0])).length := by simpa using hhi1
                have hnr : n ≠ r := fun z => out_ne or_ hnb z.symm
                have hnp : n ≠ p := fun z => out_ne op hnb z.symm
                have gn2 := get_set_ne (x := .lst [.int ((a : Int) / ((L.map dMk).length : Nat)), .int b, .int c0]) gn hnr
                generalize S1.set r (.lst [.int ((a : Int) / ((L.map dMk).length : Nat)), .int b, .int c0]) = S2 at *
                clear fs gn hr hr' glr glm gln hp1 hn f1 hw1 hhi1 gw gr gc gf
                obtain ⟨rn2, cn2, fn2, cks2, _, _, _, _, gw, _, _, _, _⟩ := id hw2
                try dsimp only
                refine wp_seqP (fun o S' => ∃ (mkd : D) (L2 : List Mk), o = .nx [some (.ref w), some (.str bb.1), some (.ref p), some (.int ((d + 1 : Nat) : Int)), some (.ref r), some (.ref nn), some (.int way), none, some mkd, none, none, none] ∧
                  (mkd = .tup (L2.map dMk) ∨ (mkd = .ref n ∧ S'[n]? = some (.lst (L2.map dMk)))) ∧ 0 < L2.length ∧ L2.length ≤ 6 ∧ (∀ m ∈ L2, m ∈ bb.2) ∧ RoomAt S' r (a / L.length) b ∧ Pool S' p ∧ S'[nn]? = some (.lst (xs.map D.str)) ∧ Fr [p, r, nn] S S') ?_ ?_
                · subst_eqs
                  apply iteD <;> intro hw4
                  · subst_eqs
                    refine (next_ok (by omega) hp2 (by omega) (by omega)).mono ?_
                    rintro _ S3 ⟨r3, rfl, r30, r31, hp3, f3⟩
                    have hr3 := hr2.fr f3 (by simpa using Ne.symm hpr)
                    have hn3 := f3.get hn2 (by simpa using Ne.symm hpn)
                    have gn3 := f3.get gn2 (by simpa using hnp)
                    have hw3 := hw2.fr' f3 (by simpa using op)
                    replace f3 := f2.then1 (f3.sub (by simp))
                    obtain ⟨rn3, cn3, fn3, cks3, _, _, _, _, gw3, _, _, _, _⟩ := id hw3
                    subst_eqs
                    apply iteD <;> intro hz
                    · subst_eqs
                      refine wp_idxK gw3 rfl lookW_book ?_
                      subst_eqs
                      have hbl := wf.ln
                      refine wp_dictT (by rw [List.length_map, sizeLine_eq]; omega) (pairs_kd _) ?_
                      subst_eqs
                      refine wp_idxK get_push rfl (look_book wf hbb) ?_
                      subst_eqs
                      exact ⟨_, bb.2, rfl, .inl rfl, by omega, hL6, fun m hm => hm, hr3.fr (W := []) Fr.push (by simp), hp3.push, get_old hn3, f3.push'⟩
                    · subst_eqs
                      exact ⟨_, L, rfl, .inr ⟨rfl, gn3⟩, hpos, by omega, hLm, hr3, hp3, hn3, f3⟩
                  · subst_eqs
                    exact ⟨_, L, rfl, .inr ⟨rfl, gn2⟩, hpos, by omega, hLm, hr2, hp2, hn2, f2⟩
                · rintro _ S3 ⟨mkd, L2, rfl, hmkd, hL0, hL26, hL2m, hr3, hp3, hn3, f3⟩
                  dsimp only
                  refine wp_seqP (fun o S' => ∃ (m : Mk), m ∈ bb.2 ∧ o = .nx [some (.ref w), some (.str bb.1), some (.ref p), some (.int ((d + 1 : Nat) : Int)), some (.ref r), some (.ref nn), some (.int way), none, some mkd, some (.tup [.str m.1, .tup (m.2.map D.str)]), none, none] ∧
                    RoomAt S' r (a / L.length) b ∧ Pool S' p ∧ S'[nn]? = some (.lst (xs.map D.str)) ∧ Fr [p, r, nn] S S') ?_ ?_
                  · rcases hmkd with rfl | ⟨rfl, gn3⟩
                    · subst_eqs
                      rw [List.length_map]
                      refine (next_ok (by omega) hp3 (by omega) (by omega)).mono ?_
                      rintro _ S4 ⟨r4, rfl, r40, r41, hp4, f4⟩
                      obtain ⟨v, hv, _, ev4⟩ := map_at (g := dMk) (L := L2) r40 r41
                      refine wp_idxT ev4 ?_
                      exact ⟨v, hL2m v hv, rfl, hr3.fr f4 (by simpa using Ne.symm hpr), hp4, f4.get hn3 (by simpa using Ne.symm hpn), f3.then1 (f4.sub (by simp))⟩
                    · have gl3 := getL_lst gn3
                      subst_eqs
                      rw [List.length_map]
                      refine (next_ok (by omega) hp3 (by omega) (by omega)).mono ?_
                      rintro _ S4 ⟨r4, rfl, r40, r41, hp4, f4⟩
                      obtain ⟨v, hv, _, ev4⟩ := map_at (g := dMk) (L := L2) r40 r41
                      refine wp_idxL (getL_lst (f4.get gn3 (by simpa using hnp))) ev4 ?_
                      exact ⟨v, hL2m v hv, rfl, hr3.fr f4 (by simpa using Ne.symm hpr), hp4, f4.get hn3 (by simpa using Ne.symm hpn), f3.then1 (f4.sub (by simp))⟩
                  · rintro _ S4 ⟨m, hm, rfl, hr4, hp4, hn4, f4⟩
                    have hml := (wf.fl bb hbb m hm).1
                    dsimp only
                    subst_eqs
                    refine wp_iTup ?_
                    subst_eqs
                    refine ⟨_, rfl, ?_⟩
                    refine wp_compT (fun i acc S' => ∃ kept nl a' b' xs', Parts (Shp bk (2 * d + 2)) (m.2.take i) acc kept nl ∧ RoomAt S' r a' b' ∧ 1 ≤ b' ∧ 1 ≤ nl ∧ nl * b' ≤ b ∧ S'[nn]? = some (.lst (xs'.map D.str)) ∧ kept.length + xs'.length ≤ xs.length ∧ Pool S' p ∧ Fr [p, r, nn] S S')
                      ⟨[], 1, _, b, xs, ⟨rfl, rfl⟩, hr4, hb, Nat.le_refl _, by omega, hn4, by simp, hp4, f4⟩ ?_ ?_
                    · rintro i acc S5 hi ⟨kept, nl, a5, b5, xs5, hP, hr5, hb5, hnl5, hle5, hn5, hk5, hp5, f5⟩
                      have hi2 : i < m.2.length := by simpa using hi
                      have e : (m.2.map D.str)[i] = D.str m.2[i] := by simp
                      rw [e]
                      refine ⟨_, rfl, ?_⟩
                      subst_eqs
                      rw [e1]
                      refine (ih k w p r nn a5 b5 m.2[i] xs5 S5 (by omega) (hw.fr' f5 hWout) (Nat.le_trans hhi f5.1) op or_ on hpr hpn hrn hp5 hr5 hb5 hn5 (by omega)).mono ?_
                      rintro e6 S6 ⟨kept6, nl6, a6, b6, xs6, hS6, hr6, hb6, hn16, hle6, hn6, hk6, hp6, f6⟩
                      refine ⟨kept ++ kept6, nl * nl6, a6, b6, xs6, ?_, hr6, hb6, Nat.mul_pos hnl5 hn16, ?_, hn6, by rw [List.length_append]; omega, hp6, f5.then1 f6⟩
                      · rw [take_at hi2]
                        exact hP.snoc hS6.up
                      · rw [Nat.mul_assoc]
                        exact Nat.le_trans (Nat.mul_le_mul_left _ hle6) hle5
                    · rintro acc S5 ⟨kept, nl, a5, b5, xs5, hP, hr5, hb5, hnl5, hle5, hn5, hk5, hp5, f5⟩
                      have el : (m.2.map D.str).length = m.2.length := List.length_map _
                      rw [el, List.take_length] at hP
                      have hPl := hP.len
                      refine ⟨by rw [← hPl, sizeLine_eq]; omega, ?_⟩
                      subst_eqs
                      refine wp_tupleL (getL_lst get_push) ?_
                      subst_eqs
                      exact ⟨kept, nl, a5, b5, xs5, .inr (.inr (.inr (.inr ⟨m, acc, List.mem_flatMap.mpr ⟨bb, hbb, hm⟩, List.mem_map_of_mem (f := (·.1)) hbb, rfl, hP⟩))), hr5.fr (W := []) Fr.push (by simp), hb5, hnl5, hle5, get_old hn5, hk5, hp5.push, f5.push'⟩
theorem shape_ok {bk : List Kd} {rks : List (Key × D)} {lo hi : Nat} (wf : WfB bk) (hR : RInv bk rks 6) : ∀ d : Nat, ShapeSpec bk rks lo hi d
  | 0 => shape_step wf hR fun d' e => by omega
  | d + 1 => shape_step wf hR fun d' e => by
    have : d' = d := by omega
    subst this
    exact shape_ok wf hR d'

end K49

set_option Elab.async false
set_option linter.all false
set_option maxRecDepth 100000
set_option maxHeartbeats 3000000
namespace K49
open PySem L2 Mp
open PyProof.Rows hiding St

local macro_rules | `(tactic| left) => `(tactic| first
  | (with_reducible first
    | refine wp_seq ?_ | refine wp_ret ?_ | refine wp_expr ?_ | refine wp_sif ?_ | refine wp_set1 ?_ | refine wp_bin ?_ | refine wp_put ?_ | refine wp_un ?_ | refine wp_app ?_ | refine wp_nil ?_ | refine wp_cons ?_ | refine wp_tup ?_ | refine wp_lst ?_
    | refine wp_const ?_ | refine wp_meth ?_ | refine wp_join ?_ | refine wp_eif ?_ | refine wp_tand ?_ | refine wp_tor ?_ | refine wp_tnot ?_ | refine wp_test ?_ | refine wp_cut ?_ | refine wp_osome ?_ | refine wp_onone ?_ | refine wp_isi ?_
    | refine wp_pnil ?_ | refine wp_pcons ?_ | refine wp_dict ?_ | refine wp_for ?_ | refine wp_comp ?_ | refine wp_skip ?_ | refine wp_setP ?_ | refine wp_iRg1 ?_ | refine wp_iRg2 ?_ | refine wp_yes ?_
    | refine wp_addI ?_ | refine wp_subI ?_ | refine wp_neg ?_ | refine wp_cmp ?_ | refine wp_eqI ?_ | refine wp_eqS ?_ | refine wp_neI ?_ | refine wp_neS ?_ | refine wp_neB ?_ | refine wp_isnt ?_ | refine wp_min ?_ | refine wp_max ?_ | refine wp_intB ?_ | refine wp_lenT ?_ | refine wp_lenF ?_
    | refine ex_bl ?_ | refine ex_int ?_ | refine iteW ?_ | refine iteF' ?_)
  | ((with_reducible apply wp_slot); exact rfl)
  | ((with_reducible apply wp_idxL); (with_reducible assumption); exact rfl)
  | ((with_reducible apply wp_idxT); exact rfl)
  | ((with_reducible apply wp_lenL); with_reducible assumption)
  | ((with_reducible refine wp_mod ?_ ?_); omega)
  | ((with_reducible refine wp_fdiv ?_ ?_); omega)
  | ((with_reducible refine wp_mul ?_ ?_); omega))
local macro_rules | `(tactic| subst_eqs) => `(tactic| repeat (first | left | dsimp only))

/-! KD: what a shape holds; guards. -/
def dKp (x : Str × Str) : D := .tup [.str x.1, .str x.2]
theorem Parts.at_ {P : Str → D → List (Str × Str) → Nat → Prop} : ∀ {fs : List Str} {ds : List D} {kept : List (Str × Str)} {nl i : Nat} {f : Str} {d : D}, Parts P fs ds kept nl → fs[i]? = some f → ds[i]? = some d → ∃ k1 n1, P f d k1 n1
  | f2 :: fs, d2 :: ds, _, _, 0, f, d, q, hf, hd => by
    obtain ⟨k1, n1, _, _, h, _⟩ := q
    simp at hf hd
    subst hf hd
    exact ⟨k1, n1, h⟩
  | f2 :: fs, d2 :: ds, _, _, i + 1, f, d, q, hf, hd => by
    obtain ⟨_, _, _, _, _, h, _⟩ := q
    simp at hf hd
    exact h.at_ hf hd
  | [], ds, _, _, i, f, d, q, hf, hd => by simp at hf
  | f2 :: fs, [], _, _, i, f, d, q, hf, hd => q.elim
/-- the parts one by one -/
theorem Parts.list {P : Str → D → List (Str × Str) → Nat → Prop} : ∀ {fs : List Str} {ds : List D} {kept : List (Str × Str)} {nl : Nat}, Parts P fs ds kept nl → ∃ ks : List (List (Str × Str)), ∃ ns : List Nat, ks.length = fs.length ∧ ns.length = fs.length ∧ kept = ks.flatten ∧ nl = ns.foldr (· * ·) 1 ∧
    ∀ (i : Nat) (h1 : i < fs.length) (h2 : i < ds.length) (h3 : i < ks.length) (h4 : i < ns.length), P fs[i] ds[i] ks[i] ns[i]
  | [], [], _, _, q => by
    obtain ⟨rfl, rfl⟩ := q
    exact ⟨[], [], rfl, rfl, rfl, rfl, fun i h => by simp at h⟩
  | f :: fs, d :: ds, _, _, q => by
    obtain ⟨k1, n1, k2, n2, h, h2, rfl, rfl⟩ := q
    obtain ⟨ks, ns, e1, e2, e3, e4, e5⟩ := h2.list
    refine ⟨k1 :: ks, n1 :: ns, by simp [e1], by simp [e2], by simp [e3], by simp [e4], fun i a1 a2 a3 a4 => ?_⟩
    cases i with
    | zero => exact h
    | succ i => exact e5 i _ _ _ _
  | [], _ :: _, _, _, q => q.elim
  | _ :: _, [], _, _, q => q.elim
theorem flat_take {α : Type} {ks : List (List α)} {i : Nat} (h : i < ks.length) : (ks.take (i + 1)).flatten = (ks.take i).flatten ++ ks[i] := by
  rw [take_at h, List.flatten_append]
  simp
theorem flat_le {α : Type} {ks : List (List α)} {i : Nat} : (ks.take i).flatten.length ≤ ks.flatten.length := by
  conv => rhs; rw [← List.take_append_drop i ks, List.flatten_append, List.length_append]
  omega
theorem kept_ok {bk : List Kd} {rks : List (Key × D)} {lo hi w : Nat} (wf : WfB bk) : ∀ (n : Nat) (kind : Str) (d : D) (kept : List (Str × Str)) (nl k : Nat) (S : Store), Shp bk n kind d kept nl → n ≤ k → World bk rks lo hi S w → kept.length ≤ 7 →
    Wp (evalF Bs k 14 [.ref w, .str kind, d] S) fun e S' => ∃ i, e = .ref i ∧ S'[i]? = some (.lst (kept.map dKp)) ∧ Fr [] S S'
  | 0, _, _, _, _, _, _, h, _, _, _ => h.elim
  | n + 1, kind, d, kept, nl, k, S, h, hk, hw, hl => by
    obtain ⟨k, rfl⟩ := Nat.exists_eq_add_of_le' (show 1 ≤ k by omega)
    rw [ev' 14 k _ S (np := 3) (nn := 6) (B := B14) rfl rfl]
    refine wp_run ?_
    have ee : (List.map some [D.ref w, D.str kind, d] ++ List.replicate (6 - 3) none : Mp.Env) = [some (.ref w), some (.str kind), some d, none, none, none] := rfl
    rw [ee]
    unfold B14
    rcases h with ⟨rfl, rfl, rfl⟩ | ⟨l, h, rfl, rfl, rfl⟩ | ⟨x, d', kept', rfl, hS, rfl⟩ | ⟨d0, ds, rfl, hS⟩ | ⟨m, ds, hm, hkd, rfl, hP⟩
    · subst_eqs
      apply iteD <;> intro hz
      · exact absurd hz (by decide +kernel)
      subst_eqs
      apply iteD <;> intro hz
      · exact absurd hz (by decide +kernel)
      subst_eqs
      apply iteD <;> intro hz
      · exact absurd hz (by decide +kernel)
      subst_eqs
      exact ⟨_, rfl, get_push, Fr.push⟩
    · subst_eqs
      apply iteD <;> intro hz
      · exact absurd hz (by decide +kernel)
      subst_eqs
      apply iteD <;> intro hz
      · exact absurd hz (by decide +kernel)
      subst_eqs
      apply iteD <;> intro hz
      · exact absurd hz (by decide +kernel)
      subst_eqs
      exact ⟨_, rfl, get_push, Fr.push⟩
    · subst_eqs
      apply iteD <;> intro hz
      · subst_eqs
        have hl : kept'.length ≤ 6 := by simpa using hl
        refine (kept_ok wf n kind d' kept' nl k _ hS (by omega) (hw.fr (W := []) Fr.push (by simp)) (by omega)).mono ?_
        rintro _ S2 ⟨i, rfl, g2, f2⟩
        refine wp_addL (f2.get get_push (by simp)) g2 (by simp; rw [sizeLine_eq]; omega) ?_
        subst_eqs
        exact ⟨_, rfl, get_push, ((Fr.push (W := [])).then1 f2).push'⟩
      · exact absurd rfl hz
    · subst_eqs
      apply iteD <;> intro hz
      · exact absurd hz (by decide +kernel)
      subst_eqs
      apply iteD <;> intro hz
      · subst_eqs
        obtain ⟨n1, n2, h1, _, _⟩ := hS
        refine wp_idxT (x := d0) (atI_nat (by omega) rfl) ?_
        subst_eqs
        refine (kept_ok wf n kind d0 kept n1 k _ h1 (by omega) hw hl).mono ?_
        rintro _ S2 ⟨i, rfl, g2, f2⟩
        exact ⟨_, rfl, g2, f2⟩
      · exact absurd rfl hz
    · subst_eqs
      apply iteD <;> intro hz
      · exact absurd hz (by decide +kernel)
      subst_eqs
      apply iteD <;> intro hz
      · exact absurd hz (by decide +kernel)
      subst_eqs
      apply iteD <;> intro hz
      · have hw2 := hw.fr (W := []) (Fr.push (S := S) (o := .lst [])) (by simp)
        obtain ⟨rn, cn, fn, cks, _, _, _, _, gw, _, _, gf, _⟩ := id hw2
        subst_eqs
        refine wp_iZT ?_
        subst_eqs
        refine wp_idxK gw rfl lookW_fields ?_
        subst_eqs
        refine wp_idxK gf rfl (look_fields wf hm) ?_
        subst_eqs
        refine ⟨_, _, rfl, ?_⟩
        have hPl := hP.len
        obtain ⟨ks, ns, e1, e2, e3, _, e5⟩ := hP.list
        have hll : (m.2.map D.str).length = ds.length := by rw [List.length_map]; exact hPl
        refine wp_forZT hll (fun i ρ S' => ∃ v4 v5, ρ = [some (.ref w), some (.str kind), some (.tup [.str "make", .str m.1, .tup ds]), some (.ref S.length), v4, v5] ∧ Fr [] S S' ∧ World bk rks lo hi S' w ∧ S'[S.length]? = some (.lst (((ks.take i).flatten).map dKp)))
          ⟨_, _, rfl, Fr.push, hw2, get_push⟩ ?_ ?_ _ (Nat.lt_succ_self _)
        · rintro i _ S3 hi ⟨v4, v5, rfl, f3, hw3, g3⟩
          have hi2 : i < m.2.length := by simpa using hi
          have hi3 : i < ds.length := hll ▸ hi
          have e : (m.2.map D.str)[i] = D.str m.2[i] := by simp
          rw [e]
          refine ⟨_, rfl, ?_⟩
          subst_eqs
          refine ⟨isL_lst g3, ?_⟩
          subst_eqs
          have hkl : (ks.take (i + 1)).flatten.length ≤ 7 := by
            have := flat_le (ks := ks) (i := i + 1)
            rw [← e3] at this
            omega
          rw [flat_take (by omega), List.length_append] at hkl
          refine (kept_ok wf n m.2[i] ds[i] (ks[i]'(by omega)) (ns[i]'(by omega)) k _ (e5 i hi2 hi3 (by omega) (by omega)) (by omega) hw3 (by omega)).mono ?_
          rintro _ S4 ⟨j, rfl, g4, f4⟩
          have g34 := f4.get g3 (by simp)
          subst_eqs
          refine wp_extend g34 g4 (by rw [List.length_map, List.length_map, sizeLine_eq]; omega) ?_
          subst_eqs
          have f34 := (f3.then1 f4).set_new (p := S.length) (o := .lst (((ks.take i).flatten).map dKp ++ (ks[i]'(by omega)).map dKp)) (Nat.le_refl _)
          refine ⟨_, _, rfl, f34, hw.fr (W := []) f34 (by simp), ?_⟩
          rw [flat_take (by omega), List.map_append]
          exact get_set (lt_of g34)
        · rintro _ S3 ⟨v4, v5, rfl, f3, hw3, g3⟩
          subst_eqs
          refine ⟨_, rfl, ?_, f3⟩
          rw [e3]
          rw [List.length_map, List.take_of_length_le (by omega)] at g3
          exact g3
      · exact absurd rfl hz

theorem guard_ok {k p r ki a b : Nat} {kept : List (Str × Str)} {S : Store} (hk : 3 ≤ k) (hp : Pool S p) (hr : RoomAt S r a b) (hne : p ≠ r) (hkp : ki ≠ p) (hkr : ki ≠ r) (hg : S[ki]? = some (.lst (kept.map dKp))) (hl : kept.length ≤ 7) :
    Wp (evalF Bs k 15 [.ref p, .ref ki, .ref r] S) fun _ S' => Pool S' p ∧ Fr [p, r] S S' := by
  obtain ⟨k, rfl⟩ := Nat.exists_eq_add_of_le' (show 1 ≤ k by omega)
  rw [ev' 15 k _ S (np := 3) (nn := 10) (B := B15) rfl rfl]
  refine wp_run ?_
  have ee : (List.map some [D.ref p, D.ref ki, D.ref r] ++ List.replicate (10 - 3) none : Mp.Env) = [some (.ref p), some (.ref ki), some (.ref r), none, none, none, none, none, none, none] := rfl
  rw [ee]
  unfold B15
  subst_eqs
  refine wp_iLst ?_
  subst_eqs
  refine ⟨_, _, rfl, getL_lst hg, ?_⟩
  refine wp_compL (fun i acc S' => S' = S ∧ ∃ ns : List Str, acc = ns.map D.str ∧ ns.length ≤ i) ⟨rfl, [], rfl, Nat.le_refl _⟩ (fun i acc S' h => by rw [h.1]; exact getL_lst hg) ?_ ?_
  · rintro i acc S1 hi ⟨rfl, ns, rfl, hns⟩
    have hi2 : i < kept.length := by simpa using hi
    have e : (kept.map dKp)[i] = D.tup [.str kept[i].1, .str kept[i].2] := by simp [dKp]
    rw [e]
    refine ⟨_, rfl, ?_⟩
    subst_eqs
    apply iteB <;> intro hc
    · subst_eqs
      exact ⟨rfl, ns ++ [kept[i].1], by simp, by simp; omega⟩
    · exact ⟨rfl, ns, rfl, by omega⟩
  · rintro acc S1 ⟨rfl, ns, rfl, hns⟩
    rw [List.length_map] at hns
    refine ⟨by rw [List.length_map, sizeLine_eq]; omega, ?_⟩
    have gn := get_push (S := S1) (o := .lst (ns.map D.str))
    have hp1 : Pool (S1 ++ [.lst (ns.map D.str)]) p := hp.push
    have hr1 : RoomAt (S1 ++ [.lst (ns.map D.str)]) r a b := hr.fr (W := []) Fr.push (by simp)
    have f1 : Fr [p, r] S1 (S1 ++ [.lst (ns.map D.str)]) := Fr.push
    have hnp : S1.length ≠ p := by have := hp.lt; omega
    have hnr : S1.length ≠ r := by obtain ⟨_, h⟩ := hr; have := lt_of h; omega
    generalize hS1l : S1.length = nn at gn hnp hnr ⊢
    generalize S1 ++ [.lst (ns.map D.str)] = S2 at *
    subst_eqs
    have gg := get_push (S := S2) (o := .lst [])
    have gn2 := get_old (x := .lst []) gn
    have hp2 : Pool (S2 ++ [.lst []]) p := hp1.push
    have hr2 : RoomAt (S2 ++ [.lst []]) r a b := hr1.fr (W := []) Fr.push (by simp)
    have f2 : Fr [p, r] S1 (S2 ++ [.lst []]) := f1.push'
    have hgp : S2.length ≠ p := by have := hp1.lt; omega
    have hgr : S2.length ≠ r := by obtain ⟨_, h⟩ := hr1; have := lt_of h; omega
    have hgn : S2.length ≠ nn := by have := lt_of gn; omega
    have hgg : S1.length ≤ S2.length := f1.1
    generalize hS2l : S2.length = gd at *
    generalize S2 ++ [.lst []] = S3 at *
    refine (next_ok (by omega) hp2.push (by omega) (by omega)).mono ?_
    rintro _ S4 ⟨r4, rfl, r40, r41, hp4, f4⟩
    have hl3 := hp2.lt
    have g4 := f4.get (get_push (S := S3)) (by simp; omega)
    obtain ⟨cnt, ec, c0, c1⟩ := tab_at (L := [0, 1, 1, 2]) (lo := 0) (hi := 2) (by decide) r40 r41
    refine wp_idxL (getL_lst g4) ec ?_
    have gn4 := f4.get (get_old gn2) (by simpa using hnp)
    have gg4 := f4.get (get_old gg) (by simpa using hgp)
    have hr4 := (hr2.fr (W := []) Fr.push (by simp)).fr f4 (by simpa using Ne.symm hne)
    replace f4 : Fr [p, r] S1 S4 := f2.push'.then1 (f4.sub (by simp))
    clear g4
    subst_eqs
    refine ⟨_, rfl, ⟨by omega, by omega⟩, ?_⟩
    refine wp_forR (fun i ρ S' => ∃ v7 v8 v9 gs a', ρ = [some (.ref p), some (.ref ki), some (.ref r), some (.ref nn), none, none, some (.ref gd), v7, v8, v9] ∧ Pool S' p ∧ RoomAt S' r a' b ∧ S'[nn]? = some (.lst (ns.map D.str)) ∧ S'[gd]? = some (.lst gs) ∧ gs.length ≤ i ∧ Fr [p, r] S1 S') ?_ ?_ ?_
    · exact ⟨_, _, _, [], a, rfl, hp4, hr4, gn4, gg4, by simp, f4⟩
    · rintro i _ S5 hi ⟨v7, v8, v9, gs, a5, rfl, hp5, ⟨c5, hr5⟩, gn5, gg5, hgs, f5⟩
      have glr := getL_lst hr5
      have gln := getL_lst gn5
      subst_eqs
      apply iteD <;> intro hl0
      · subst_eqs
        apply iteD <;> intro ha
        · subst_eqs
          rw [List.length_map] at hl0 ⊢
          refine (next_ok (by omega) hp5 (by omega) (by omega)).mono ?_
          rintro _ S6 ⟨r6, rfl, r60, r61, hp6, f6⟩
          obtain ⟨one, _, _, e6⟩ := map_at (g := D.str) (L := ns) r60 r61
          have gn6 := f6.get gn5 (by simpa using hnp)
          refine wp_idxL (getL_lst gn6) e6 ?_
          subst_eqs
          refine (number_ok (by omega) hp6).mono ?_
          rintro _ S7 ⟨other, rfl, hp7, f7⟩
          subst_eqs
          refine (next_ok (by omega) hp7 (by omega) (by omega)).mono ?_
          rintro _ S8 ⟨r8, rfl, r80, r81, hp8, f8⟩
          have f58 := (f6.then1 f7).then1 f8
          have gn8 := f58.get gn5 (by simpa using hnp)
          have gg8 := f58.get gg5 (by simpa using hgp)
          have hr8 := f58.get hr5 (by simpa using Ne.symm hne)
          have f8' : Fr [p, r] S1 S8 := f5.then1 (f58.sub (by simp))
          subst_eqs
          apply iteD <;> intro hr1
          · subst_eqs
            refine wp_lenL (getL_lst gn8) ?_
            subst_eqs
            rw [List.length_map]
            refine (next_ok (by omega) hp8 (by omega) (by omega)).mono ?_
            rintro _ S9 ⟨r9, rfl, r90, r91, hp9, f9⟩
            obtain ⟨oth, _, _, e9⟩ := map_at (g := D.str) (L := ns) r90 r91
            have gn9 := f9.get gn8 (by simpa using hnp)
            have gg9 := f9.get gg8 (by simpa using hgp)
            have hr9 := f9.get hr8 (by simpa using Ne.symm hne)
            refine wp_idxL (getL_lst gn9) e9 ?_
            replace f9 := f8'.then1 (f9.sub (W' := [p, r]) (by simp))
            have glr9 := getL_lst hr9
            subst_eqs
            refine ⟨S9.set r (.lst [.int ((a5 : Int) / 4), .int b, .int c5]), by unfold storeD; dsimp only; rw [hr9]; rfl, ?_⟩
            have e4 : ((a5 : Int) / 4) = ((a5 / 4 : Nat) : Int) := by omega
            have hrA : RoomAt (S9.set r (.lst [.int ((a5 : Int) / 4), .int b, .int c5])) r (a5 / 4) b := ⟨c5, by rw [e4]; exact get_set (lt_of hr9)⟩
            have hpA : Pool (S9.set r (.lst [.int ((a5 : Int) / 4), .int b, .int c5])) p := hp9.set hne
            have gnA := get_set_ne (x := .lst [.int ((a5 : Int) / 4), .int b, .int c5]) gn9 hnr
            have ggA := get_set_ne (x := .lst [.int ((a5 : Int) / 4), .int b, .int c5]) gg9 hgr
            have fA : Fr [p, r] S1 (S9.set r (.lst [.int ((a5 : Int) / 4), .int b, .int c5])) := f9.then1 (Fr.set (by simp))
            generalize S9.set r (.lst [.int ((a5 : Int) / 4), .int b, .int c5]) = SA at *
            subst_eqs
            refine ⟨isL_lst ggA, ?_⟩
            subst_eqs
            have hlA := hpA.lt
            refine (next_ok (by omega) hpA.push (by omega) (by omega)).mono ?_
            rintro _ SB ⟨rB, rfl, rB0, rB1, hpB, fB⟩
            have gB := fB.get (get_push (S := SA)) (by simp; omega)
            obtain ⟨op, _, _, eB⟩ := map_at (g := D.str) (L := (["<", "<=", "=", ">=", ">"] : List Str)) rB0 rB1
            refine wp_idxL (getL_lst gB) eB ?_
            have gnB := fB.get (get_old gnA) (by simpa using hnp)
            have ggB := fB.get (get_old ggA) (by simpa using hgp)
            have hrB := (hrA.fr (W := []) Fr.push (by simp)).fr fB (by simpa using Ne.symm hne)
            have fB' : Fr [p, r] S1 SB := fA.push'.then1 (fB.sub (by simp))
            subst_eqs
            refine wp_append ggB (by rw [sizeLine_eq]; omega) ?_
            subst_eqs
            exact ⟨_, _, _, _, _, rfl, hpB.set (Ne.symm hgp), hrB.fr (Fr.set (W := [gd]) (by simp)) (by simpa using Ne.symm hgr), get_set_ne gnB (Ne.symm hgn), get_set (lt_of ggB), by simp; omega, fB'.set_new hgg⟩
          · have gn9 := gn8
            have gg9 := gg8
            have hr9 := hr8
            have hp9 := hp8
            have f9 := f8'
            generalize S8 = S9 at *
            have glr9 := getL_lst hr9
            subst_eqs
            refine ⟨S9.set r (.lst [.int ((a5 : Int) / 4), .int b, .int c5]), by unfold storeD; dsimp only; rw [hr9]; rfl, ?_⟩
            have e4 : ((a5 : Int) / 4) = ((a5 / 4 : Nat) : Int) := by omega
            have hrA : RoomAt (S9.set r (.lst [.int ((a5 : Int) / 4), .int b, .int c5])) r (a5 / 4) b := ⟨c5, by rw [e4]; exact get_set (lt_of hr9)⟩
            have hpA : Pool (S9.set r (.lst [.int ((a5 : Int) / 4), .int b, .int c5])) p := hp9.set hne
            have gnA := get_set_ne (x := .lst [.int ((a5 : Int) / 4), .int b, .int c5]) gn9 hnr
            have ggA := get_set_ne (x := .lst [.int ((a5 : Int) / 4), .int b, .int c5]) gg9 hgr
            have fA : Fr [p, r] S1 (S9.set r (.lst [.int ((a5 : Int) / 4), .int b, .int c5])) := f9.then1 (Fr.set (by simp))
            generalize S9.set r (.lst [.int ((a5 : Int) / 4), .int b, .int c5]) = SA at *
            subst_eqs
            refine ⟨isL_lst ggA, ?_⟩
            subst_eqs
            have hlA := hpA.lt
            refine (next_ok (by omega) hpA.push (by omega) (by omega)).mono ?_
            rintro _ SB ⟨rB, rfl, rB0, rB1, hpB, fB⟩
            have gB := fB.get (get_push (S := SA)) (by simp; omega)
            obtain ⟨op, _, _, eB⟩ := map_at (g := D.str) (L := (["<", "<=", "=", ">=", ">"] : List Str)) rB0 rB1
            refine wp_idxL (getL_lst gB) eB ?_
            have gnB := fB.get (get_old gnA) (by simpa using hnp)
            have ggB := fB.get (get_old ggA) (by simpa using hgp)
            have hrB := (hrA.fr (W := []) Fr.push (by simp)).fr fB (by simpa using Ne.symm hne)
            have fB' : Fr [p, r] S1 SB := fA.push'.then1 (fB.sub (by simp))
            subst_eqs
            refine wp_append ggB (by rw [sizeLine_eq]; omega) ?_
            subst_eqs
            exact ⟨_, _, _, _, _, rfl, hpB.set (Ne.symm hgp), hrB.fr (Fr.set (W := [gd]) (by simp)) (by simpa using Ne.symm hgr), get_set_ne gnB (Ne.symm hgn), get_set (lt_of ggB), by simp; omega, fB'.set_new hgg⟩
        · subst_eqs
          exact ⟨_, _, _, gs, a5, rfl, hp5, ⟨c5, hr5⟩, gn5, gg5, by omega, f5⟩
      · subst_eqs
        exact ⟨_, _, _, gs, a5, rfl, hp5, ⟨c5, hr5⟩, gn5, gg5, by omega, f5⟩
    · rintro _ S5 ⟨v7, v8, v9, gs, a5, rfl, hp5, hr5, gn5, gg5, hgs, f5⟩
      subst_eqs
      refine wp_tupleL (getL_lst gg5) ?_
      exact ⟨hp5, f5⟩

end K49

set_option Elab.async false
set_option linter.all false
set_option maxRecDepth 100000
set_option maxHeartbeats 3000000
namespace K49
open PySem L2 Mp
open PyProof.Rows hiding St

local macro_rules | `(tactic| left) => `(tactic| first
  | (with_reducible first
    | refine wp_seq ?_ | refine wp_ret ?_ | refine wp_expr ?_ | refine wp_sif ?_ | refine wp_set1 ?_ | refine wp_bin ?_ | refine wp_put ?_ | refine wp_un ?_ | refine wp_app ?_ | refine wp_nil ?_ | refine wp_cons ?_ | refine wp_tup ?_ | refine wp_lst ?_
    | refine wp_const ?_ | refine wp_meth ?_ | refine wp_join ?_ | refine wp_eif ?_ | refine wp_tand ?_ | refine wp_tor ?_ | refine wp_tnot ?_ | refine wp_test ?_ | refine wp_cut ?_ | refine wp_osome ?_ | refine wp_onone ?_ | refine wp_isi ?_
    | refine wp_pnil ?_ | refine wp_pcons ?_ | refine wp_dict ?_ | refine wp_for ?_ | refine wp_comp ?_ | refine wp_skip ?_ | refine wp_setP ?_ | refine wp_iRg1 ?_ | refine wp_iRg2 ?_ | refine wp_yes ?_
    | refine wp_addI ?_ | refine wp_subI ?_ | refine wp_neg ?_ | refine wp_cmp ?_ | refine wp_eqI ?_ | refine wp_eqS ?_ | refine wp_neI ?_ | refine wp_neS ?_ | refine wp_neB ?_ | refine wp_isnt ?_ | refine wp_min ?_ | refine wp_max ?_ | refine wp_intB ?_ | refine wp_lenT ?_ | refine wp_lenF ?_
    | refine ex_bl ?_ | refine ex_int ?_ | refine iteW ?_ | refine iteF' ?_)
  | ((with_reducible apply wp_slot); exact rfl)
  | ((with_reducible apply wp_idxL); (with_reducible assumption); exact rfl)
  | ((with_reducible apply wp_idxT); exact rfl)
  | ((with_reducible apply wp_lenL); with_reducible assumption)
  | ((with_reducible refine wp_mod ?_ ?_); omega)
  | ((with_reducible refine wp_fdiv ?_ ?_); omega)
  | ((with_reducible refine wp_mul ?_ ?_); omega))
local macro_rules | `(tactic| subst_eqs) => `(tactic| repeat (first | left | dsimp only))

/-! KE: answers. -/
def rk (rks : List (Key × D)) (x : Str) : Int := match lookK rks (.inr x) with
  | some (.int i) => i
  | _ => 0
theorem rk_look {bk : List Kd} {rks : List (Key × D)} (hR : RInv bk rks 6) {x : Str} (hx : Ranked rks x) : lookK rks (.inr x) = some (.int (rk rks x)) ∧ 0 ≤ rk rks x ∧ rk rks x ≤ 6 := by
  obtain ⟨r, h1, h2, h3⟩ := hR.int hx (by omega)
  unfold rk
  rw [h1]
  exact ⟨rfl, h2, h3⟩
theorem cm_ranked {rks : List (Key × D)} {m : Mk} (h : cm rks m = true) : ∀ f ∈ m.2, Ranked rks f := fun f hf => List.all_eq_true.mp h f hf
theorem choices_ok {k w lo hi t : Nat} {bk : List Kd} {rks : List (Key × D)} {S : Store} {kind : Str} (hk : 1 ≤ k) (wf : WfB bk) (hR : RInv bk rks 6) (hw : World bk rks lo hi S w) (hx : Ranked rks kind) (hn : kind ≠ "num") :
    Wp (evalF Bs k 10 [.ref w, .str kind, .int (t : Int)] S) fun d S' => ∃ (n : Nat) (L : List Mk), d = .ref n ∧ S.length ≤ n ∧ S'[n]? = some (.lst (L.map dMk)) ∧ 0 < L.length ∧ L.length ≤ 6 ∧
      (∀ m ∈ L, m.2.length ≤ 4 ∧ (∀ f ∈ m.2, Ranked rks f) ∧ (t = 0 → ∀ f ∈ m.2, rk rks f < rk rks kind)) ∧ Fr [] S S' := by
  obtain ⟨k, rfl⟩ := Nat.exists_eq_add_of_le' hk
  rw [ev' 10 k _ S (np := 3) (nn := 7) (B := B10) rfl rfl]
  refine wp_run ?_
  have ee : (List.map some [D.ref w, D.str kind, D.int (t : Int)] ++ List.replicate (7 - 3) none : Mp.Env) = [some (.ref w), some (.str kind), some (.int (t : Int)), none, none, none, none] := rfl
  rw [ee]
  unfold B10
  obtain ⟨bb, hbb, hbk, hpos⟩ := hR.kind hx hn
  subst hbk
  obtain ⟨rn, cn, fn, cks, _, _, _, _, gw, gr, gc, gf, hcome⟩ := id hw
  obtain ⟨n, _, hcl, gn⟩ := hcome bb hbb
  have hL6 := wf.ms bb hbb
  have hLf := List.length_filter_le (cm rks) bb.2
  have hLm : ∀ m ∈ bb.2.filter (cm rks), m.2.length ≤ 4 ∧ ∀ f ∈ m.2, Ranked rks f := fun m hm => ⟨(wf.fl bb hbb m (List.mem_filter.mp hm).1).1, cm_ranked (List.mem_filter.mp hm).2⟩
  have hex : ∃ m ∈ bb.2.filter (cm rks), ∀ f ∈ m.2, rk rks f < rk rks bb.1 := by
    obtain ⟨e1, _, _⟩ := rk_look hR hx
    rcases hR.look _ _ e1 with ⟨z, _⟩ | ⟨r, er, _, _, b2, hb2, hb2x, m, hm, hf⟩
    · exact absurd z hn
    · have hbe : b2 = bb := by
        obtain ⟨i, hi, rfl⟩ := List.mem_iff_getElem.mp hb2
        obtain ⟨j, hj, rfl⟩ := List.mem_iff_getElem.mp hbb
        have nd := List.pairwise_iff_getElem.mp wf.kn
        rcases Nat.lt_trichotomy i j with h | h | h
        · have := nd i j (by simpa using hi) (by simpa using hj) h
          simp at this
          exact absurd hb2x this
        · subst h; rfl
        · have := nd j i (by simpa using hj) (by simpa using hi) h
          simp at this
          exact absurd hb2x.symm this
      subst hbe
      have hcm : cm rks m = true := by
        unfold cm
        refine List.all_eq_true.mpr fun f hff => ?_
        obtain ⟨q, hq, _⟩ := hf f hff
        rw [hq]
        rfl
      refine ⟨m, List.mem_filter.mpr ⟨hm, hcm⟩, fun f hff => ?_⟩
      obtain ⟨q, hq, hlt⟩ := hf f hff
      have : rk rks f = q := by unfold rk; rw [hq]
      cases er
      omega
  generalize bb.2.filter (cm rks) = M at *
  subst_eqs
  refine wp_idxK gw rfl lookW_ranks ?_
  subst_eqs
  refine wp_iLst ?_
  have f1 : Fr [] S (S ++ [.lst []]) := Fr.push
  have hnS : n ≠ S.length := by have := lt_of gn; omega
  subst_eqs
  refine wp_idxK (f1.get gw (by simp)) rfl lookW_come ?_
  subst_eqs
  refine wp_idxK (f1.get gc (by simp)) rfl hcl ?_
  refine ⟨_, _, rfl, getL_lst (f1.get gn (by simp)), ?_⟩
  refine wp_forL (fun i ρ S' => ∃ v5 ls, ρ = [some (.ref w), some (.str bb.1), some (.int (t : Int)), some (.ref rn), some (.ref S.length), v5, none] ∧ Fr [] S S' ∧ S'[n]? = some (.lst (M.map dMk)) ∧ S'[rn]? = some (.dK rks) ∧ S'[S.length]? = some (.lst (ls.map dMk)) ∧ ls.length ≤ i ∧
      (∀ m ∈ ls, m ∈ M ∧ (t = 0 → ∀ f ∈ m.2, rk rks f < rk rks bb.1)) ∧ (∀ j (h : j < M.length), j < i → (0 < t ∨ ∀ f ∈ M[j].2, rk rks f < rk rks bb.1) → M[j] ∈ ls))
    ⟨_, [], rfl, f1, f1.get gn (by simp), f1.get gr (by simp), get_push, Nat.le_refl _, by simp, fun j _ h => by omega⟩ (fun i ρ S' h => by obtain ⟨_, _, _, _, h, _⟩ := h; exact getL_lst h) ?_ ?_
  · rintro i _ S2 hi ⟨v5, ls, rfl, f2, gn2, gr2, gs2, hls, hlm, hlc⟩
    have hi2 : i < M.length := by simpa using hi
    have e : (M.map dMk)[i] = D.tup [.str M[i].1, .tup (M[i].2.map D.str)] := by simp [dMk]
    rw [e]
    refine ⟨_, rfl, ?_⟩
    have hmM : M[i] ∈ M := List.getElem_mem hi2
    have step : ∀ m, m = M[i] → (t = 0 → ∀ f ∈ m.2, rk rks f < rk rks bb.1) → ∀ S3 : Store, Fr [] S S3 → S3[n]? = some (.lst (M.map dMk)) → S3[rn]? = some (.dK rks) → S3[S.length]? = some (.lst (ls.map dMk)) →
        Fr [] S (S3.set S.length (.lst ((ls ++ [m]).map dMk))) ∧ (S3.set S.length (.lst ((ls ++ [m]).map dMk)))[n]? = some (.lst (M.map dMk)) ∧ (S3.set S.length (.lst ((ls ++ [m]).map dMk)))[rn]? = some (.dK rks) ∧ (S3.set S.length (.lst ((ls ++ [m]).map dMk)))[S.length]? = some (.lst ((ls ++ [m]).map dMk)) ∧ (ls ++ [m]).length ≤ i + 1 ∧
        (∀ m' ∈ ls ++ [m], m' ∈ M ∧ (t = 0 → ∀ f ∈ m'.2, rk rks f < rk rks bb.1)) ∧ (∀ j (h : j < M.length), j < i + 1 → (0 < t ∨ ∀ f ∈ M[j].2, rk rks f < rk rks bb.1) → M[j] ∈ ls ++ [m]) := by
      rintro m rfl hm S3 f3 gn3 gr3 gs3
      refine ⟨f3.set_new (Nat.le_refl _), get_set_ne gn3 hnS, get_set_ne gr3 (by have := lt_of gr; omega), get_set (lt_of gs3), by simp; omega, fun m' hm' => ?_, fun j h hj hc => ?_⟩
      · rcases List.mem_append.mp hm' with q | q
        · exact hlm m' q
        · rw [List.mem_singleton.mp q]
          exact ⟨hmM, hm⟩
      · by_cases hji : j = i
        · subst hji
          simp
        · exact List.mem_append.mpr (.inl (hlc j h (by omega) hc))
    generalize hme : M[i] = m at *
    have hm4 := hLm m hmM
    subst_eqs
    apply iteD <;> intro ht
    · subst_eqs
      refine ⟨isL_lst gs2, ?_⟩
      subst_eqs
      refine wp_appendM (g := dMk) (x := m) gs2 rfl (by rw [sizeLine_eq]; omega) ?_
      subst_eqs
      obtain ⟨h1, h2, h3, h4, h5, h6, h7⟩ := step m rfl (fun z => by omega) S2 f2 gn2 gr2 gs2
      exact ⟨_, _, rfl, h1, h2, h3, h4, h5, h6, h7⟩
    · subst_eqs
      refine wp_iTup ?_
      subst_eqs
      refine ⟨_, rfl, ?_⟩
      refine wp_compT (fun j acc S' => Fr [] S2 S' ∧ acc = ((m.2.take j).map fun f => decide (rk rks f < rk rks bb.1)).map D.bl) ⟨Fr.refl, rfl⟩ ?_ ?_
      · rintro j acc S3 hj ⟨f3, rfl⟩
        have hj2 : j < m.2.length := by simpa using hj
        have e : (m.2.map D.str)[j] = D.str m.2[j] := by simp
        rw [e]
        refine ⟨_, rfl, ?_⟩
        have gr3 := f3.get gr2 (by simp)
        subst_eqs
        refine wp_idxK gr3 rfl (rk_look hR (hm4.2 _ (List.getElem_mem hj2))).1 ?_
        subst_eqs
        refine wp_idxK gr3 rfl (rk_look hR hx).1 ?_
        subst_eqs
        refine ⟨f3, ?_⟩
        rw [take_at hj2, List.map_append, List.map_append]
        rfl
      · rintro acc S3 ⟨f3, rfl⟩
        have el : (m.2.map D.str).length = m.2.length := List.length_map _
        rw [el, List.take_length]
        refine ⟨by rw [List.length_map, List.length_map, sizeLine_eq]; omega, ?_⟩
        subst_eqs
        refine wp_allL (getL_lst get_push) ?_
        have f4 := (f2.then1 f3).push' (o := .lst ((m.2.map fun f => decide (rk rks f < rk rks bb.1)).map D.bl))
        have gn4 := get_old (x := .lst ((m.2.map fun f => decide (rk rks f < rk rks bb.1)).map D.bl)) (f3.get gn2 (by simp))
        have gr4 := get_old (x := .lst ((m.2.map fun f => decide (rk rks f < rk rks bb.1)).map D.bl)) (f3.get gr2 (by simp))
        have gs4 := get_old (x := .lst ((m.2.map fun f => decide (rk rks f < rk rks bb.1)).map D.bl)) (f3.get gs2 (by simp))
        generalize S3 ++ [.lst ((m.2.map fun f => decide (rk rks f < rk rks bb.1)).map D.bl)] = S4 at *
        have hall : ((m.2.map fun f => decide (rk rks f < rk rks bb.1)).all id) = true ↔ ∀ f ∈ m.2, rk rks f < rk rks bb.1 := by
          simp [List.all_eq_true]
        subst_eqs
        apply iteB <;> intro hb
        · subst_eqs
          refine ⟨isL_lst gs4, ?_⟩
          subst_eqs
          refine wp_appendM (g := dMk) (x := m) gs4 rfl (by rw [sizeLine_eq]; omega) ?_
          subst_eqs
          obtain ⟨h1, h2, h3, h4, h5, h6, h7⟩ := step m rfl (fun _ => hall.mp hb) S4 f4 gn4 gr4 gs4
          exact ⟨_, _, rfl, h1, h2, h3, h4, h5, h6, h7⟩
        · subst_eqs
          refine ⟨_, ls, rfl, f4, gn4, gr4, gs4, by omega, hlm, fun j h hj hc => ?_⟩
          by_cases hji : j = i
          · subst hji
            rw [hme] at hc
            rcases hc with z | z
            · omega
            · rw [hall.mpr z] at hb
              cases hb
          · exact hlc j h (by omega) hc
  · rintro _ S2 ⟨v5, ls, rfl, f2, gn2, gr2, gs2, hls, hlm, hlc⟩
    rw [List.length_map] at hls hlc
    subst_eqs
    refine ⟨_, ls, rfl, Nat.le_refl _, gs2, ?_, by omega, fun m hm => ⟨(hLm m (hlm m hm).1).1, (hLm m (hlm m hm).1).2, (hlm m hm).2⟩, f2⟩
    obtain ⟨m, hm, hlt⟩ := hex
    obtain ⟨j, hj, rfl⟩ := List.mem_iff_getElem.mp hm
    exact List.length_pos_of_mem (hlc j hj hj (.inr hlt))

end K49

set_option Elab.async false
set_option linter.all false
set_option maxRecDepth 100000
set_option maxHeartbeats 3000000
namespace K49
open PySem L2 Mp
open PyProof.Rows hiding St

local macro_rules | `(tactic| left) => `(tactic| first
  | (with_reducible first
    | refine wp_seq ?_ | refine wp_ret ?_ | refine wp_expr ?_ | refine wp_sif ?_ | refine wp_set1 ?_ | refine wp_bin ?_ | refine wp_put ?_ | refine wp_un ?_ | refine wp_app ?_ | refine wp_nil ?_ | refine wp_cons ?_ | refine wp_tup ?_ | refine wp_lst ?_
    | refine wp_const ?_ | refine wp_meth ?_ | refine wp_join ?_ | refine wp_eif ?_ | refine wp_tand ?_ | refine wp_tor ?_ | refine wp_tnot ?_ | refine wp_test ?_ | refine wp_cut ?_ | refine wp_osome ?_ | refine wp_onone ?_ | refine wp_isi ?_
    | refine wp_pnil ?_ | refine wp_pcons ?_ | refine wp_dict ?_ | refine wp_for ?_ | refine wp_comp ?_ | refine wp_skip ?_ | refine wp_setP ?_ | refine wp_iRg1 ?_ | refine wp_iRg2 ?_ | refine wp_yes ?_
    | refine wp_addI ?_ | refine wp_subI ?_ | refine wp_neg ?_ | refine wp_cmp ?_ | refine wp_eqI ?_ | refine wp_eqS ?_ | refine wp_neI ?_ | refine wp_neS ?_ | refine wp_neB ?_ | refine wp_isnt ?_ | refine wp_min ?_ | refine wp_max ?_ | refine wp_intB ?_ | refine wp_lenT ?_ | refine wp_lenF ?_
    | refine ex_bl ?_ | refine ex_int ?_ | refine iteW ?_ | refine iteF' ?_)
  | ((with_reducible apply wp_slot); exact rfl)
  | ((with_reducible apply wp_idxL); (with_reducible assumption); exact rfl)
  | ((with_reducible apply wp_idxT); exact rfl)
  | ((with_reducible apply wp_lenL); with_reducible assumption)
  | ((with_reducible refine wp_mod ?_ ?_); omega)
  | ((with_reducible refine wp_fdiv ?_ ?_); omega)
  | ((with_reducible refine wp_mul ?_ ?_); omega))
local macro_rules | `(tactic| subst_eqs) => `(tactic| repeat (first | left | dsimp only))

/-! KF: answers told. -/
def Ans (names : List Str) : Nat → D → Prop
  | 0, _ => False
  | n + 1, e => (∃ i, e = .tup [.str "num", .int i]) ∨ (∃ x, x ∈ names ∧ e = .tup [.str "held", .str x]) ∨ (∃ m ds, e = .tup [.str "make", .str m, .tup ds] ∧ ds.length ≤ 4 ∧ ∀ d ∈ ds, Ans names n d)
theorem answer_ok {bk : List Kd} {rks : List (Key × D)} {lo hi w p ki : Nat} {kept : List (Str × Str)} (wf : WfB bk) (hR : RInv bk rks 6) (op : Out lo hi p) (hkp : ki ≠ p) (hl : kept.length ≤ 7) : ∀ (j t k : Nat) (kind : Str) (S : Store), 4 + j ≤ k → World bk rks lo hi S w → Ranked rks kind →
    (t = 0 ∧ rk rks kind < j ∨ 0 < t ∧ t + 7 ≤ j) → Pool S p → S[ki]? = some (.lst (kept.map dKp)) → Wp (evalF Bs k 16 [.ref w, .str kind, .ref p, .int (t : Int), .ref ki] S) fun e S' => Ans (kept.map (·.1)) j e ∧ Pool S' p ∧ Fr [p] S S'
  | 0, t, k, kind, S, hk, hw, hx, hc, hp, hg => by
    have := (rk_look hR hx).2.1
    omega
  | j + 1, t, k, kind, S, hk, hw, hx, hc, hp, hg => by
    obtain ⟨k, rfl⟩ := Nat.exists_eq_add_of_le' (show 1 ≤ k by omega)
    rw [ev' 16 k _ S (np := 5) (nn := 12) (B := B16) rfl rfl]
    refine wp_run ?_
    have ee : (List.map some [D.ref w, D.str kind, D.ref p, D.int (t : Int), D.ref ki] ++ List.replicate (12 - 5) none : Mp.Env) = [some (.ref w), some (.str kind), some (.ref p), some (.int (t : Int)), some (.ref ki), none, none, none, none, none, none, none] := rfl
    rw [ee]
    unfold B16
    subst_eqs
    refine wp_iLst ?_
    subst_eqs
    refine ⟨_, _, rfl, getL_lst hg, ?_⟩
    refine wp_compL (fun i acc S' => S' = S ∧ ∃ ns : List Str, acc = ns.map D.str ∧ ns.length ≤ i ∧ ∀ x ∈ ns, x ∈ kept.map (·.1)) ⟨rfl, [], rfl, Nat.le_refl _, by simp⟩ (fun i acc S' h => by rw [h.1]; exact getL_lst hg) ?_ ?_
    · rintro i acc S1 hi ⟨rfl, ns, rfl, hns, hnm⟩
      have hi2 : i < kept.length := by simpa using hi
      have e : (kept.map dKp)[i] = D.tup [.str kept[i].1, .str kept[i].2] := by simp [dKp]
      rw [e]
      refine ⟨_, rfl, ?_⟩
      subst_eqs
      apply iteB <;> intro hc
      · subst_eqs
        refine ⟨rfl, ns ++ [kept[i].1], by simp, by simp; omega, fun x hx => ?_⟩
        rcases List.mem_append.mp hx with q | q
        · exact hnm x q
        · rw [List.mem_singleton.mp q]
          exact List.mem_map_of_mem (f := (·.1)) (List.getElem_mem hi2)
      · exact ⟨rfl, ns, rfl, by omega, hnm⟩
    · rintro acc S1 ⟨rfl, ns, rfl, hns, hnm⟩
      rw [List.length_map] at hns
      refine ⟨by rw [List.length_map, sizeLine_eq]; omega, ?_⟩
      have gn := get_push (S := S1) (o := .lst (ns.map D.str))
      have hp1 : Pool (S1 ++ [.lst (ns.map D.str)]) p := hp.push
      have hg1 := get_old (x := .lst (ns.map D.str)) hg
      have hw1 := hw.fr (W := []) (Fr.push (S := S1) (o := .lst (ns.map D.str))) (by simp)
      have f1 : Fr [p] S1 (S1 ++ [.lst (ns.map D.str)]) := Fr.push
      have hnp : S1.length ≠ p := by have := hp.lt; omega
      generalize S1.length = nn at gn hnp ⊢
      generalize S1 ++ [.lst (ns.map D.str)] = S2 at *
      have gln := getL_lst gn
      try dsimp only
      refine wp_seqP (fun o S' => Alt (∃ e, o = .rt e ∧ Ans (kept.map (·.1)) (j + 1) e ∧ Pool S' p ∧ Fr [p] S1 S') (o = .nx [some (.ref w), some (.str kind), some (.ref p), some (.int (t : Int)), some (.ref ki), some (.ref nn), none, none, none, none, none, none] ∧ Pool S' p ∧ S'[ki]? = some (.lst (kept.map dKp)) ∧ World bk rks lo hi S' w ∧ Fr [p] S1 S')) ?_ ?_
      · subst_eqs
        rw [List.length_map]
        apply iteD <;> intro hn0
        · subst_eqs
          refine (next_ok (by omega) hp1 (by omega) (by omega)).mono ?_
          rintro _ S3 ⟨r3, rfl, r30, r31, hp3, f3⟩
          have gn3 := f3.get gn (by simpa using hnp)
          have hg3 := f3.get hg1 (by simpa using hkp)
          have hw3 := hw1.fr' f3 (by simpa using op)
          replace f3 := f1.then1 f3
          have gln3 := getL_lst gn3
          subst_eqs
          apply iteD <;> intro hz
          · subst_eqs
            rw [List.length_map]
            refine (next_ok (by omega) hp3 (by omega) (by omega)).mono ?_
            rintro _ S4 ⟨r4, rfl, r40, r41, hp4, f4⟩
            obtain ⟨v, hv, _, ev4⟩ := map_at (g := D.str) (L := ns) r40 r41
            have gn4 := f4.get gn3 (by simpa using hnp)
            refine wp_idxL (getL_lst gn4) ev4 ?_
            subst_eqs
            exact .one ⟨_, rfl, .inr (.inl ⟨v, hnm v hv, rfl⟩), hp4, f3.then1 f4⟩
          · subst_eqs
            exact .two ⟨rfl, hp3, hg3, hw3, f3⟩
        · subst_eqs
          exact .two ⟨rfl, hp1, hg1, hw1, f1⟩
      · rintro o S3 (⟨e, rfl, q⟩ | ⟨rfl, hp3, hg3, hw3, f3⟩ | ⟨⟨⟩⟩)
        · exact q
        dsimp only
        subst_eqs
        apply iteD <;> intro hkn
        · subst_eqs
          refine (number_ok (by omega) hp3).mono ?_
          rintro _ S4 ⟨i, rfl, hp4, f4⟩
          subst_eqs
          exact ⟨.inl ⟨i, rfl⟩, hp4, f3.then1 f4⟩
        · subst_eqs
          refine (choices_ok (by omega) wf hR hw3 hx hkn).mono ?_
          rintro _ S4 ⟨n, L, rfl, hnl, gL, hL0, hL6, hLm, f4⟩
          have hp4 := hp3.fr f4 (by simp)
          have hg4 := f4.get hg3 (by simp)
          have hw4 := hw3.fr f4 (by simp)
          have hnp4 : n ≠ p := by have := hp3.lt; omega
          replace f4 := f3.then1 (f4.sub (W' := [p]) (by simp))
          have glL := getL_lst gL
          subst_eqs
          rw [List.length_map]
          refine (next_ok (by omega) hp4 (by omega) (by omega)).mono ?_
          rintro _ S5 ⟨r5, rfl, r50, r51, hp5, f5⟩
          obtain ⟨m, hm, _, ev5⟩ := map_at (g := dMk) (L := L) r50 r51
          refine wp_idxL (getL_lst (f5.get gL (by simpa using hnp4))) ev5 ?_
          have hg5 := f5.get hg4 (by simpa using hkp)
          have hw5 := hw4.fr' f5 (by simpa using op)
          replace f5 := f4.then1 f5
          obtain ⟨hm4, hmr, hmlt⟩ := hLm m hm
          have em : dMk m = D.tup [.str m.1, .tup (m.2.map D.str)] := rfl
          rw [em]
          subst_eqs
          refine wp_iTup ?_
          subst_eqs
          refine ⟨_, rfl, ?_⟩
          refine wp_compT (fun i acc S' => acc.length = i ∧ (∀ d ∈ acc, Ans (kept.map (·.1)) j d) ∧ Pool S' p ∧ S'[ki]? = some (.lst (kept.map dKp)) ∧ World bk rks lo hi S' w ∧ Fr [p] S1 S') ⟨rfl, by simp, hp5, hg5, hw5, f5⟩ ?_ ?_
          · rintro i acc S6 hi ⟨hal, ha, hp6, hg6, hw6, f6⟩
            have hi2 : i < m.2.length := by simpa using hi
            have e : (m.2.map D.str)[i] = D.str m.2[i] := by simp
            rw [e]
            refine ⟨_, rfl, ?_⟩
            have hfm : m.2[i] ∈ m.2 := List.getElem_mem hi2
            generalize m.2[i] = f at *
            subst_eqs
            have e1 : (if (t : Int) - 1 > 0 then (t : Int) - 1 else 0) = ((t - 1 : Nat) : Int) := by
              by_cases h : (t : Int) - 1 > 0
              · rw [if_pos h]; omega
              · rw [if_neg h]; omega
            rw [e1]
            have hrf := rk_look hR (hmr f hfm)
            refine (answer_ok wf hR op hkp hl j (t - 1) k f S6 (by omega) hw6 (hmr f hfm) ?_ hp6 hg6).mono ?_
            · rcases hc with ⟨h1, h2⟩ | ⟨h1, h2⟩
              · have := hmlt h1 f hfm
                exact .inl ⟨by omega, by omega⟩
              · by_cases h3 : t = 1
                · exact .inl ⟨by omega, by omega⟩
                · exact .inr ⟨by omega, by omega⟩
            · rintro e6 S7 ⟨hA, hp7, f7⟩
              refine ⟨by simp [hal], fun d hd => ?_, hp7, f7.get hg6 (by simpa using hkp), hw6.fr' f7 (by simpa using op), f6.then1 f7⟩
              rcases List.mem_append.mp hd with q | q
              · exact ha d q
              · rw [List.mem_singleton.mp q]
                exact hA
          · rintro acc S6 ⟨hal, ha, hp6, hg6, hw6, f6⟩
            rw [List.length_map] at hal
            refine ⟨by rw [hal, sizeLine_eq]; omega, ?_⟩
            subst_eqs
            refine wp_tupleL (getL_lst get_push) ?_
            subst_eqs
            exact ⟨.inr (.inr ⟨m.1, acc, rfl, by omega, ha⟩), hp6.push, f6.push'⟩

end K49

set_option Elab.async false
set_option linter.all false
set_option maxRecDepth 100000
set_option maxHeartbeats 3000000
namespace K49
open PySem L2 Mp
open PyProof.Rows hiding St

local macro_rules | `(tactic| left) => `(tactic| first
  | (with_reducible first
    | refine wp_seq ?_ | refine wp_ret ?_ | refine wp_expr ?_ | refine wp_sif ?_ | refine wp_set1 ?_ | refine wp_bin ?_ | refine wp_put ?_ | refine wp_un ?_ | refine wp_app ?_ | refine wp_nil ?_ | refine wp_cons ?_ | refine wp_tup ?_ | refine wp_lst ?_
    | refine wp_const ?_ | refine wp_meth ?_ | refine wp_join ?_ | refine wp_eif ?_ | refine wp_tand ?_ | refine wp_tor ?_ | refine wp_tnot ?_ | refine wp_test ?_ | refine wp_cut ?_ | refine wp_osome ?_ | refine wp_onone ?_ | refine wp_isi ?_
    | refine wp_pnil ?_ | refine wp_pcons ?_ | refine wp_dict ?_ | refine wp_for ?_ | refine wp_comp ?_ | refine wp_skip ?_ | refine wp_setP ?_ | refine wp_iRg1 ?_ | refine wp_iRg2 ?_ | refine wp_yes ?_
    | refine wp_addI ?_ | refine wp_subI ?_ | refine wp_neg ?_ | refine wp_cmp ?_ | refine wp_eqI ?_ | refine wp_eqS ?_ | refine wp_neI ?_ | refine wp_neS ?_ | refine wp_neB ?_ | refine wp_isnt ?_ | refine wp_min ?_ | refine wp_max ?_ | refine wp_intB ?_ | refine wp_lenT ?_ | refine wp_lenF ?_
    | refine ex_bl ?_ | refine ex_int ?_ | refine iteW ?_ | refine iteF' ?_)
  | ((with_reducible apply wp_slot); exact rfl)
  | ((with_reducible apply wp_idxL); (with_reducible assumption); exact rfl)
  | ((with_reducible apply wp_idxT); exact rfl)
  | ((with_reducible apply wp_lenL); with_reducible assumption)
  | ((with_reducible refine wp_mod ?_ ?_); omega)
  | ((with_reducible refine wp_fdiv ?_ ?_); omega)
  | ((with_reducible refine wp_mul ?_ ?_); omega))
local macro_rules | `(tactic| subst_eqs) => `(tactic| repeat (first | left | dsimp only))

/-! Kx3: lines. -/
def Pl : Nat → D → Prop
  | 0, _ => False
  | n + 1, d => (∃ i, d = .int i) ∨ (∃ x, d = .str x) ∨ (∃ ds, d = .tup ds ∧ ds.length ≤ 1000000 ∧ ∀ e ∈ ds, Pl n e)
def dLn (tests : List D) (kp : List (Str × D)) : D := .tup [.tup tests, .tup (kp.map fun x => D.tup [.str x.1, x.2])]
def LineOk (b : Nat) (names : List Str) (l : D) : Prop := ∃ tests kp, l = dLn tests kp ∧ tests.length ≤ b ∧ kp.map (·.1) = names ∧ ∀ y ∈ kp, Pl 3 y.2
def TT : Nat → Nat
  | 0 => 0
  | n + 1 => 2 + 4 * TT n
theorem TT_mono : ∀ {n m : Nat}, n ≤ m → TT n ≤ TT m := by
  intro n m h
  induction m with
  | zero =>
    have : n = 0 := by omega
    subst this
    exact Nat.le_refl _
  | succ m ih =>
    by_cases e : n = m + 1
    · subst e; exact Nat.le_refl _
    · have := ih (by omega)
      show TT n ≤ 2 + 4 * TT m
      omega
theorem TT9 {n : Nat} (h : n ≤ 9) : TT n ≤ 200000 := Nat.le_trans (TT_mono h) (by decide)
theorem LineOk.up {b b' : Nat} {names : List Str} {l : D} (h : LineOk b names l) (hb : b ≤ b') : LineOk b' names l := by
  obtain ⟨t, kp, h1, h2, h3⟩ := h
  exact ⟨t, kp, h1, Nat.le_trans h2 hb, h3⟩
def prodN (ns : List Nat) : Nat := ns.foldr (· * ·) 1
theorem prod_app (a b : List Nat) : prodN (a ++ b) = prodN a * prodN b := by
  induction a with
  | nil => simp [prodN]
  | cons x a ih =>
    show x * prodN (a ++ b) = x * prodN a * prodN b
    rw [ih, Nat.mul_assoc]
theorem prod_pos {ns : List Nat} (h : ∀ n ∈ ns, 1 ≤ n) : 1 ≤ prodN ns := by
  induction ns with
  | nil => exact Nat.le_refl _
  | cons x a ih =>
    have h1 := h x List.mem_cons_self
    have h2 := ih fun n hn => h n (List.mem_cons_of_mem _ hn)
    exact Nat.mul_pos h1 h2
theorem prod_take {ns : List Nat} (h : ∀ n ∈ ns, 1 ≤ n) (i : Nat) : prodN (ns.take i) ≤ prodN ns := by
  conv => rhs; rw [← List.take_append_drop i ns, prod_app]
  have := prod_pos (ns := ns.drop i) fun n hn => h n (List.mem_of_mem_drop hn)
  exact Nat.le_mul_of_pos_right _ this
theorem prod_succ {ns : List Nat} {i : Nat} (h : i < ns.length) : prodN (ns.take (i + 1)) = prodN (ns.take i) * ns[i] := by
  rw [take_at h, prod_app]
  simp [prodN]
theorem Sides.pos {P : D → Nat → Prop} (h : ∀ d n, P d n → 1 ≤ n) : ∀ {ds : List D} {nl : Nat}, Sides P ds nl → ds.length ≤ nl
  | [], _, q => Nat.zero_le _
  | d :: ds, _, q => by
    obtain ⟨n1, n2, h1, h2, rfl⟩ := q
    have := Sides.pos h h2
    have := h _ _ h1
    simp
    omega
theorem Parts.pos {P : Str → D → List (Str × Str) → Nat → Prop} (h : ∀ f d k n, P f d k n → 1 ≤ n) : ∀ {fs : List Str} {ds : List D} {kept : List (Str × Str)} {nl : Nat}, Parts P fs ds kept nl → 1 ≤ nl
  | [], [], _, _, q => by rw [q.2]; exact Nat.le_refl _
  | f :: fs, d :: ds, _, _, q => by
    obtain ⟨k1, n1, k2, n2, h1, h2, rfl, rfl⟩ := q
    exact Nat.mul_pos (h _ _ _ _ h1) (Parts.pos h h2)
  | [], _ :: _, _, _, q => q.elim
  | _ :: _, [], _, _, q => q.elim
theorem Shp.pos {bk : List Kd} : ∀ {n : Nat} {kind : Str} {d : D} {kept : List (Str × Str)} {nl : Nat}, Shp bk n kind d kept nl → 1 ≤ nl
  | 0, _, _, _, _, h => h.elim
  | n + 1, kind, d, kept, nl, h => by
    rcases h with ⟨_, _, rfl⟩ | ⟨_, _, _, _, rfl⟩ | ⟨x, d', kept', h1, h2, h3⟩ | ⟨d0, ds, h1, h2⟩ | ⟨m, ds, h1, h2, h3, h4⟩
    · exact Nat.le_refl _
    · exact Nat.le_refl _
    · exact h2.pos
    · have := h2.pos fun _ _ q => q.pos
      simp at this
      omega
    · exact h4.pos fun _ _ _ _ q => q.pos
theorem wp_inL {n : Nat} {x : Str} {ns : List Str} {S : Store} {Q : D → Store → Prop} (h : getL S n = some (ns.map D.str)) (q : Q (.bl (inFD (.str x) (ns.map D.str))) S) : Wp (dIn (.str x) (.ref n) S) Q := by
  unfold dIn isIn
  dsimp only
  rw [h]
  dsimp only
  have hf : (ns.map D.str).all flatD = true := by
    rw [List.all_map]
    exact List.all_eq_true.mpr fun _ _ => rfl
  rw [if_pos ⟨rfl, hf⟩]
  exact wp_ok.mpr q
theorem wp_cutT {ds : List D} {lo hi : Option Int} {S : Store} {Q : D → Store → Prop} (q : Q (.tup (Mp.cutD ds lo hi)) S) : Wp (dCut (.tup ds) lo hi S) Q := wp_ok.mpr q

end K49

set_option Elab.async false
set_option linter.all false
set_option maxRecDepth 100000
set_option maxHeartbeats 3000000
namespace K49
open PySem L2 Mp
open PyProof.Rows hiding St

local macro_rules | `(tactic| left) => `(tactic| first
  | (with_reducible first
    | refine wp_seq ?_ | refine wp_ret ?_ | refine wp_expr ?_ | refine wp_sif ?_ | refine wp_set1 ?_ | refine wp_bin ?_ | refine wp_put ?_ | refine wp_un ?_ | refine wp_app ?_ | refine wp_nil ?_ | refine wp_cons ?_ | refine wp_tup ?_ | refine wp_lst ?_
    | refine wp_const ?_ | refine wp_meth ?_ | refine wp_join ?_ | refine wp_eif ?_ | refine wp_tand ?_ | refine wp_tor ?_ | refine wp_tnot ?_ | refine wp_test ?_ | refine wp_cut ?_ | refine wp_osome ?_ | refine wp_onone ?_ | refine wp_isi ?_
    | refine wp_pnil ?_ | refine wp_pcons ?_ | refine wp_dict ?_ | refine wp_for ?_ | refine wp_comp ?_ | refine wp_skip ?_ | refine wp_setP ?_ | refine wp_iRg1 ?_ | refine wp_iRg2 ?_ | refine wp_yes ?_
    | refine wp_addI ?_ | refine wp_subI ?_ | refine wp_neg ?_ | refine wp_cmp ?_ | refine wp_eqI ?_ | refine wp_eqS ?_ | refine wp_neI ?_ | refine wp_neS ?_ | refine wp_neB ?_ | refine wp_isnt ?_ | refine wp_min ?_ | refine wp_max ?_ | refine wp_intB ?_ | refine wp_lenT ?_ | refine wp_lenF ?_
    | refine ex_bl ?_ | refine ex_int ?_ | refine iteW ?_ | refine iteF' ?_)
  | ((with_reducible apply wp_slot); exact rfl)
  | ((with_reducible apply wp_idxL); (with_reducible assumption); exact rfl)
  | ((with_reducible apply wp_idxT); exact rfl)
  | ((with_reducible apply wp_lenL); with_reducible assumption)
  | ((with_reducible refine wp_mod ?_ ?_); omega)
  | ((with_reducible refine wp_fdiv ?_ ?_); omega)
  | ((with_reducible refine wp_mul ?_ ?_); omega))
local macro_rules | `(tactic| subst_eqs) => `(tactic| repeat (first | left | dsimp only))

/-! Kx4: lines told. -/
theorem lines_ok {bk : List Kd} {rks : List (Key × D)} {lo hi w : Nat} (wf : WfB bk) : ∀ (n : Nat) (kind : Str) (d : D) (kept : List (Str × Str)) (nl k : Nat) (sp : List D) (S : Store), Shp bk n kind d kept nl → n ≤ 9 → n ≤ k → World bk rks lo hi S w → kept.length ≤ 7 → nl ≤ 8 → (∀ s ∈ sp, Pl 2 s) → sp.length + n ≤ 20 →
    Wp (evalF Bs k 18 [.ref w, .str kind, d, .tup sp] S) fun e S' => ∃ i ls, e = .ref i ∧ S.length ≤ i ∧ S'[i]? = some (.lst ls) ∧ ls.length ≤ nl ∧ (∀ l ∈ ls, LineOk (TT n) (kept.map (·.1)) l) ∧ Fr [] S S'
  | 0, _, _, _, _, _, _, _, h, _, _, _, _, _, _, _ => h.elim
  | n + 1, kind, d, kept, nl, k, sp, S, h, hn9, hk, hw, hkl, hnl, hsp, hspl => by
    obtain ⟨k, rfl⟩ := Nat.exists_eq_add_of_le' (show 1 ≤ k by omega)
    rw [ev' 18 k _ S (np := 4) (nn := 16) (B := B18) rfl rfl]
    refine wp_run ?_
    have ee : (List.map some [D.ref w, D.str kind, d, D.tup sp] ++ List.replicate (16 - 4) none : Mp.Env) = [some (.ref w), some (.str kind), some d, some (.tup sp), none, none, none, none, none, none, none, none, none, none, none, none] := rfl
    rw [ee]
    unfold B18
    have hsl : sizeLine = 16777216 := sizeLine_eq
    have hT := TT9 (n := n) (by omega)
    have hPlsp : Pl 3 (.tup sp) := .inr (.inr ⟨sp, rfl, by omega, hsp⟩)
    rcases h with ⟨rfl, rfl, rfl⟩ | ⟨l, h, rfl, rfl, rfl⟩ | ⟨x, d', kept', rfl, hS, rfl⟩ | ⟨d0, ds, rfl, hS⟩ | ⟨m, ds, hm, hkd, rfl, hP⟩
    · subst_eqs
      apply iteD <;> intro hz
      · subst_eqs
        refine ⟨_, _, rfl, Nat.le_refl _, get_push, Nat.le_refl _, fun l hl => ?_, Fr.push⟩
        rw [List.mem_singleton.mp hl]
        exact ⟨[], [], rfl, Nat.zero_le _, rfl, by simp⟩
      · exact absurd rfl hz
    · subst_eqs
      apply iteD <;> intro hz
      · exact absurd hz (by decide +kernel)
      subst_eqs
      apply iteD <;> intro hz
      · subst_eqs
        have fin : ∀ (v : List D) (ρ : Mp.Env) (S1 : Store), Fr [] S S1 → ρ = [some (.ref w), some (.str kind), some (.tup [.str "num", dO l, dO h]), some (.tup sp), some (.ref S.length), none, none, none, none, none, none, none, none, none, none, none] → S1[S.length]? = some (.lst v) → v.length ≤ 2 →
            ∃ S2, S2 = S1 ++ [MO.lst [dLn v []]] ∧ Wp (sSeq (sRet (eLst (aCons (eTup (aCons (eApp bTuple (aCons (eSlot 4) aNil)) (aCons (eTup aNil) aNil))) aNil))) sSkip ρ S1) (fun o S3 => o = .rt (.ref S1.length) ∧ S3 = S2) := by
          rintro v _ S1 f1 rfl g1 hv
          refine ⟨_, rfl, ?_⟩
          subst_eqs
          refine wp_tupleL (getL_lst g1) ?_
          subst_eqs
          exact ⟨rfl, rfl⟩
        have fin2 : ∀ (v : List D) (S1 : Store), Fr [] S S1 → v.length ≤ 2 → ∃ i ls, D.ref S1.length = D.ref i ∧ S.length ≤ i ∧ (S1 ++ [MO.lst [dLn v []]])[i]? = some (.lst ls) ∧ ls.length ≤ 1 ∧ (∀ l ∈ ls, LineOk (TT (n + 1)) (([] : List (Str × Str)).map (·.1)) l) ∧ Fr [] S (S1 ++ [MO.lst [dLn v []]]) := by
          intro v S1 f1 hv
          refine ⟨_, _, rfl, f1.1, get_push, Nat.le_refl _, fun l hl => ?_, f1.push'⟩
          rw [List.mem_singleton.mp hl]
          refine ⟨v, [], rfl, ?_, rfl, by simp⟩
          show v.length ≤ 2 + 4 * TT n
          omega
        have g0 := get_push (S := S) (o := .lst [])
        have f0 : Fr [] S (S ++ [.lst []]) := Fr.push
        generalize hS1 : S ++ [.lst []] = S1 at g0 f0 ⊢
        cases l with
        | none =>
          have e1 : (!isNonD (dO none)) = false := rfl
          rw [e1]
          subst_eqs
          cases h with
          | none =>
            have e2 : (!isNonD (dO none)) = false := rfl
            rw [e2]
            refine iteF' (wp_skip ?_)
            obtain ⟨S2, rfl, hw2⟩ := fin [] _ S1 f0 rfl g0 (by simp)
            refine hw2.mono ?_
            rintro _ _ ⟨rfl, rfl⟩
            exact fin2 [] S1 f0 (by simp)
          | some j =>
            have e2 : (!isNonD (dO (some j))) = true := rfl
            rw [e2]
            subst_eqs
            refine ⟨isL_lst g0, ?_⟩
            subst_eqs
            refine wp_append g0 (by simp; omega) ?_
            refine wp_skip ?_
            obtain ⟨S2, rfl, hw2⟩ := fin ([] ++ [D.tup [.str "most", .tup sp, .non, dO (some j)]]) _ _ (f0.set_new (Nat.le_refl _)) rfl (get_set (lt_of g0)) (by simp)
            refine hw2.mono ?_
            rintro _ _ ⟨rfl, rfl⟩
            exact fin2 _ _ (f0.set_new (Nat.le_refl _)) (by simp)
        | some i =>
          have e1 : (!isNonD (dO (some i))) = true := rfl
          rw [e1]
          subst_eqs
          refine ⟨isL_lst g0, ?_⟩
          have ei : dO (some i) = .int i := rfl
          rw [ei]
          subst_eqs
          refine wp_append g0 (by simp; omega) ?_
          have g1 : (S1.set S.length (.lst ([] ++ [D.tup [.str "most", .non, .tup sp, .int (-i)]])))[S.length]? = _ := get_set (lt_of g0)
          have f1 : Fr [] S (S1.set S.length (.lst ([] ++ [D.tup [.str "most", .non, .tup sp, .int (-i)]]))) := f0.set_new (Nat.le_refl _)
          generalize S1.set S.length (.lst ([] ++ [D.tup [.str "most", .non, .tup sp, .int (-i)]])) = S3 at *
          subst_eqs
          cases h with
          | none =>
            have e2 : (!isNonD (dO none)) = false := rfl
            rw [e2]
            refine iteF' (wp_skip ?_)
            obtain ⟨S2, rfl, hw2⟩ := fin _ _ S3 f1 rfl g1 (by simp)
            refine hw2.mono ?_
            rintro _ _ ⟨rfl, rfl⟩
            exact fin2 _ S3 f1 (by simp)
          | some j =>
            have e2 : (!isNonD (dO (some j))) = true := rfl
            rw [e2]
            subst_eqs
            refine ⟨isL_lst g1, ?_⟩
            subst_eqs
            refine wp_append g1 (by simp; omega) ?_
            refine wp_skip ?_
            obtain ⟨S2, rfl, hw2⟩ := fin ([] ++ [D.tup [.str "most", .non, .tup sp, .int (-i)]] ++ [D.tup [.str "most", .tup sp, .non, dO (some j)]]) _ _ (f1.set_new (Nat.le_refl _)) rfl (get_set (lt_of g1)) (by simp)
            refine hw2.mono ?_
            rintro _ _ ⟨rfl, rfl⟩
            exact fin2 _ _ (f1.set_new (Nat.le_refl _)) (by simp)
      · exact absurd rfl hz
    · -- held
      subst_eqs
      apply iteD <;> intro hz
      · exact absurd hz (by decide +kernel)
      subst_eqs
      apply iteD <;> intro hz
      · exact absurd hz (by decide +kernel)
      subst_eqs
      apply iteD <;> intro hz
      · have hkl' : kept'.length ≤ 6 := by simpa using hkl
        have gf := get_push (S := S) (o := .lst [])
        have f0 : Fr [] S (S ++ [.lst []]) := Fr.push
        subst_eqs
        refine wp_iLst ?_
        subst_eqs
        refine (lines_ok wf n kind d' kept' nl k sp _ hS (by omega) (by omega) (hw.fr f0 (by simp)) (by omega) hnl hsp (by omega)).mono ?_
        rintro _ S2 ⟨i, ls, rfl, _, g2, hll, hlo, f2⟩
        refine ⟨_, _, rfl, getL_lst g2, ?_⟩
        have gf2 := f2.get gf (by simp)
        have hiS : i ≠ S.length ∨ ls = [] := by
          by_cases e : i = S.length
          · subst e
            rw [gf2] at g2
            cases g2
            exact .inr rfl
          · exact .inl e
        refine wp_forL (fun j ρ S' => ∃ v4 v6 gs, ρ = [some (.ref w), some (.str kind), some (.tup [.str "held", .str x, d']), some (.tup sp), v4, some (.ref S.length), v6, none, none, none, none, none, none, none, none, none] ∧ S'[i]? = some (.lst ls) ∧ S'[S.length]? = some (.lst gs) ∧ gs.length = j ∧ (∀ l ∈ gs, LineOk (TT n) (x :: kept'.map (·.1)) l) ∧ Fr [] S S')
          ⟨_, _, [], rfl, g2, gf2, rfl, by simp, f0.then1 f2⟩ (fun j ρ S' h => by obtain ⟨_, _, _, _, h, _⟩ := h; exact getL_lst h) ?_ ?_
        · rintro j _ S3 hj ⟨v4, v6, gs, rfl, g3, gg3, hgl, hgo, f3⟩
          have hne : i ≠ S.length := by
            rcases hiS with h | h
            · exact h
            · rw [h] at hj; simp at hj
          obtain ⟨tests, kp, hle, ht, hkp, hpl⟩ := hlo _ (List.getElem_mem hj)
          rw [hle]
          refine ⟨_, rfl, ?_⟩
          have hkpl : kp.length ≤ 6 := by
            have : (kp.map (·.1)).length = (kept'.map (·.1)).length := by rw [hkp]
            simp at this
            omega
          subst_eqs
          refine ⟨isL_lst gg3, ?_⟩
          subst_eqs
          refine wp_addT (by simp; omega) ?_
          subst_eqs
          refine wp_append gg3 (by omega) ?_
          subst_eqs
          refine ⟨_, _, gs ++ [dLn tests ((x, .tup sp) :: kp)], rfl, get_set_ne g3 hne, get_set (lt_of gg3), by simp [hgl], fun l hl => ?_, f3.set_new (Nat.le_refl _)⟩
          rcases List.mem_append.mp hl with q | q
          · exact hgo l q
          · rw [List.mem_singleton.mp q]
            refine ⟨tests, (x, .tup sp) :: kp, rfl, ht, by simp [hkp], fun y hy => ?_⟩
            rcases List.mem_cons.mp hy with q | q
            · rw [q]; exact hPlsp
            · exact hpl y q
        · rintro _ S3 ⟨v4, v6, gs, rfl, g3, gg3, hgl, hgo, f3⟩
          subst_eqs
          exact ⟨_, gs, rfl, Nat.le_refl _, gg3, by omega, fun l hl => (hgo l hl).up (TT_mono (Nat.le_succ n)), f3⟩
      · exact absurd rfl hz
    · -- either
      subst_eqs
      apply iteD <;> intro hz
      · exact absurd hz (by decide +kernel)
      subst_eqs
      apply iteD <;> intro hz
      · exact absurd hz (by decide +kernel)
      subst_eqs
      apply iteD <;> intro hz
      · exact absurd hz (by decide +kernel)
      subst_eqs
      apply iteD <;> intro hz
      · have gf := get_push (S := S) (o := .lst [])
        have f0 : Fr [] S (S ++ [.lst []]) := Fr.push
        have hdl := hS.pos fun _ _ q => q.pos
        generalize d0 :: ds = es at *
        have hsum : ∀ i, i ≤ es.length → ∃ t, Sides (fun e m => Shp bk n kind e kept m) (es.drop i) t ∧ t ≤ nl := by
          intro i hi
          induction i with
          | zero => exact ⟨nl, hS, Nat.le_refl _⟩
          | succ i ih =>
            obtain ⟨t, h1, h2⟩ := ih (by omega)
            rw [List.drop_eq_getElem_cons (by omega)] at h1
            obtain ⟨n1, n2, _, h4, rfl⟩ := h1
            exact ⟨n2, h4, by omega⟩
        subst_eqs
        refine wp_iTup ?_
        subst_eqs
        refine ⟨_, rfl, ?_⟩
        refine wp_forT (fun j ρ S' => ∃ v7 gs t, ρ = [some (.ref w), some (.str kind), some (.tup [.str "either", .tup es]), some (.tup sp), none, some (.ref S.length), none, v7, none, none, none, none, none, none, none, none] ∧ S'[S.length]? = some (.lst gs) ∧ Sides (fun e m => Shp bk n kind e kept m) (es.drop j) t ∧ gs.length + t ≤ nl ∧ (∀ l ∈ gs, LineOk (TT n) (kept.map (·.1)) l) ∧ Fr [] S S')
          ⟨_, [], nl, rfl, gf, hS, by simp, by simp, f0⟩ ?_ ?_
        · rintro j _ S3 hj ⟨v7, gs, t, rfl, gg3, hSd, hgl, hgo, f3⟩
          rw [List.drop_eq_getElem_cons hj] at hSd
          obtain ⟨n1, n2, hS1, hS2, rfl⟩ := hSd
          refine ⟨_, rfl, ?_⟩
          subst_eqs
          refine ⟨isL_lst gg3, ?_⟩
          subst_eqs
          refine (lines_ok wf n kind es[j] kept n1 k sp _ hS1 (by omega) (by omega) (hw.fr f3 (by simp)) hkl (by omega) hsp (by omega)).mono ?_
          rintro _ S4 ⟨i, ls, rfl, _, g4, hll, hlo, f4⟩
          have gg4 := f4.get gg3 (by simp)
          subst_eqs
          refine wp_extend gg4 g4 (by omega) ?_
          subst_eqs
          refine ⟨_, gs ++ ls, n2, rfl, get_set (lt_of gg4), hS2, by simp; omega, fun l hl => ?_, (f3.then1 f4).set_new (Nat.le_refl _)⟩
          rcases List.mem_append.mp hl with q | q
          · exact hgo l q
          · exact hlo l q
        · rintro _ S3 ⟨v7, gs, t, rfl, gg3, hSd, hgl, hgo, f3⟩
          subst_eqs
          exact ⟨_, gs, rfl, Nat.le_refl _, gg3, by omega, fun l hl => (hgo l hl).up (TT_mono (Nat.le_succ n)), f3⟩
      · exact absurd rfl hz
    · -- make
      have hPl := hP.len
      have hm4 : m.2.length ≤ 4 := by
        obtain ⟨b, hb, hmb⟩ := List.mem_flatMap.mp hm
        exact (wf.fl b hb m hmb).1
      obtain ⟨bb, hbb, hbk⟩ := List.mem_map.mp hkd
      subst hbk
      obtain ⟨ks, ns, e1, e2, e3, e4, e5⟩ := hP.list
      have e4 : nl = prodN ns := e4
      have hns : ∀ x ∈ ns, 1 ≤ x := by
        intro x hx
        obtain ⟨i, hi, rfl⟩ := List.mem_iff_getElem.mp hx
        exact (e5 i (by omega) (by omega) (by omega) hi).pos
      have hpn : ∀ i, prodN (ns.take i) ≤ 8 := fun i => Nat.le_trans (prod_take hns i) (by omega)
      subst_eqs
      apply iteD <;> intro hz
      · exact absurd hz (by decide +kernel)
      subst_eqs
      apply iteD <;> intro hz
      · exact absurd hz (by decide +kernel)
      subst_eqs
      apply iteD <;> intro hz
      · exact absurd hz (by decide +kernel)
      subst_eqs
      apply iteD <;> intro hz
      · exact absurd hz (by decide +kernel)
      have f0 : Fr [] S (S ++ [.lst []]) := Fr.push
      have g0 := get_push (S := S) (o := .lst [])
      have hw0 := hw.fr f0 (by simp)
      obtain ⟨rn, cn, fn, cks, _, _, _, _, gw, gr, gc, gf, hcome⟩ := id hw0
      obtain ⟨cl, _, hcl, gcl⟩ := hcome bb hbb
      have hL6 := wf.ms bb hbb
      have hLf := List.length_filter_le (cm rks) bb.2
      generalize bb.2.filter (cm rks) = M at *
      generalize S ++ [.lst []] = S0 at *
      subst_eqs
      refine wp_iLst ?_
      subst_eqs
      refine wp_idxK gw rfl lookW_come ?_
      subst_eqs
      refine wp_idxK gc rfl hcl ?_
      refine ⟨_, _, rfl, getL_lst gcl, ?_⟩
      refine wp_compL (fun i acc S' => S' = S0 ∧ acc = ((M.take i).map (·.1)).map D.str) ⟨rfl, rfl⟩ (fun i acc S' h => by rw [h.1]; exact getL_lst gcl) ?_ ?_
      · rintro i acc S1 hi ⟨rfl, rfl⟩
        have hi2 : i < M.length := by simpa using hi
        have e : (M.map dMk)[i] = D.tup [.str M[i].1, .tup (M[i].2.map D.str)] := by simp [dMk]
        rw [e]
        refine ⟨_, rfl, ?_⟩
        subst_eqs
        refine ⟨rfl, ?_⟩
        rw [take_at hi2, List.map_append, List.map_append]
        rfl
      rintro acc S1 ⟨rfl, rfl⟩
      have el : (M.map dMk).length = M.length := List.length_map _
      rw [el, List.take_length]
      refine ⟨by rw [List.length_map, List.length_map]; omega, ?_⟩
      have gN := get_push (S := S1) (o := .lst ((M.map (·.1)).map D.str))
      have g1 := get_old (x := .lst ((M.map (·.1)).map D.str)) g0
      have f1 := f0.push' (o := .lst ((M.map (·.1)).map D.str))
      have hNS : S1.length ≠ S.length := by have := lt_of g0; omega
      generalize S1.length = nN at *
      generalize S1 ++ [.lst ((M.map (·.1)).map D.str)] = S2 at *
      have glN := getL_lst gN
      try dsimp only
      refine wp_seqP (fun o S' => ∃ f ls, o = .nx [some (.ref w), some (.str bb.1), some (.tup [.str "make", .str m.1, .tup ds]), some (.tup sp), none, some (.ref f), none, none, some (.ref nN), none, none, none, none, none, none, none] ∧ S'[f]? = some (.lst ls) ∧ S.length ≤ f ∧ ls.length ≤ 1 ∧ (∀ l ∈ ls, LineOk 1 [] l) ∧ Fr [] S S') ?_ ?_
      · subst_eqs
        refine wp_inL glN ?_
        subst_eqs
        apply iteB <;> intro hin
        · subst_eqs
          refine wp_cutT ?_
          subst_eqs
          refine ⟨_, _, rfl, get_push, f1.1, Nat.le_refl _, fun l hl => ?_, f1.push'⟩
          rw [List.mem_singleton.mp hl]
          exact ⟨_, [], rfl, cut_len, rfl, by simp⟩
        · subst_eqs
          exact ⟨_, [], rfl, g1, Nat.le_refl _, by simp, by simp, f1⟩
      · rintro _ S3 ⟨f, ls, rfl, g3, hfS, hl1, hlo, f3⟩
        have hw3 := hw.fr f3 (by simp)
        obtain ⟨rn3, cn3, fn3, cks3, _, _, _, _, gw3, _, _, gf3, _⟩ := id hw3
        dsimp only
        subst_eqs
        refine wp_idxK gw3 rfl lookW_fields ?_
        subst_eqs
        refine wp_idxK gf3 rfl (look_fields wf hm) ?_
        subst_eqs
        rw [List.length_map]
        refine ⟨_, rfl, ⟨by omega, by omega⟩, ?_⟩
        have em : ((m.2.length : Nat) : Int).toNat = m.2.length := by omega
        rw [em]
        refine wp_forR (fun i ρ S' => ∃ v4 v6 v11 v12 v13 v14 f ls, ρ = [some (.ref w), some (.str bb.1), some (.tup [.str "make", .str m.1, .tup ds]), some (.tup sp), v4, some (.ref f), v6, none, some (.ref nN), none, some (.tup (m.2.map D.str)), v11, v12, v13, v14, none] ∧ S.length ≤ f ∧ S'[f]? = some (.lst ls) ∧ ls.length ≤ prodN (ns.take i) ∧ (∀ l ∈ ls, LineOk (1 + i * TT n) (((ks.take i).flatten).map (·.1)) l) ∧ Fr [] S S')
          ⟨_, _, _, _, _, _, f, ls, rfl, hfS, g3, hl1, by simpa using hlo, f3⟩ ?_ ?_
        · rintro i _ S4 hi ⟨v4, v6, v11, v12, v13, v14, f, ls, rfl, hfS4, g4, hll, hlo, f4⟩
          have hid : i < ds.length := by omega
          have hik : i < ks.length := by omega
          have hin : i < ns.length := by omega
          have hsh := e5 i hi hid hik hin
          have hkk : ks[i].length ≤ 7 := by
            have h1 := flat_le (ks := ks) (i := i + 1)
            rw [← e3, flat_take hik, List.length_append] at h1
            omega
          have hfk : ((ks.take i).flatten).length ≤ 7 := by
            have h1 := flat_le (ks := ks) (i := i)
            rw [← e3] at h1
            omega
          have hnn8 : ns[i] ≤ 8 := by
            have h1 := hpn (i + 1)
            rw [prod_succ hin] at h1
            have h2 := prod_pos (ns := ns.take i) fun x hx => hns x (List.mem_of_mem_take hx)
            have h3 : 1 * ns[i] ≤ prodN (ns.take i) * ns[i] := Nat.mul_le_mul_right _ h2
            omega
          have hiT : i * TT n ≤ 4 * 200000 := Nat.mul_le_mul (by omega) hT
          subst_eqs
          refine wp_addT (by simp; omega) ?_
          subst_eqs
          refine wp_idxT (x := .str m.2[i]) (atI_nat (by omega) (by
            have e : (0 + (i : Int)).toNat = i := by omega
            rw [e]
            simp [hi])) ?_
          subst_eqs
          refine wp_idxT (x := ds[i]) (atI_nat (by omega) (by
            have e : (0 + (i : Int)).toNat = i := by omega
            rw [e]
            simp [hid])) ?_
          subst_eqs
          refine (lines_ok wf n m.2[i] ds[i] ks[i] ns[i] k _ S4 hsh (by omega) (by omega) (hw.fr f4 (by simp)) hkk hnn8 (fun s hs => ?_) (by simp; omega)).mono ?_
          · rcases List.mem_append.mp hs with q | q
            · exact hsp s q
            · rw [List.mem_singleton.mp q]
              refine .inr (.inr ⟨_, rfl, by simp, fun e he => ?_⟩)
              simp only [List.mem_cons, List.not_mem_nil, or_false] at he
              rcases he with rfl | rfl
              · exact .inr (.inl ⟨_, rfl⟩)
              · exact .inl ⟨_, rfl⟩
          rintro _ S5 ⟨pi_, ps, rfl, _, g5, hpl, hpo, f5⟩
          have g45 := f5.get g4 (by simp)
          have f5' := f4.then1 f5
          subst_eqs
          have gM := get_push (S := S5) (o := .lst [])
          have g6 := get_old (x := .lst []) g45
          have gp6 := get_old (x := .lst []) g5
          have f6 := f5'.push' (o := .lst [])
          have hMf : f ≠ S5.length := by have := lt_of g45; omega
          have hMp : pi_ ≠ S5.length := by have := lt_of g5; omega
          have hMg : S.length ≤ S5.length := f5'.1
          generalize S5.length = mr at *
          generalize S5 ++ [.lst []] = S6 at *
          refine wp_iLst ?_
          subst_eqs
          refine ⟨_, _, rfl, getL_lst g6, ?_⟩
          refine wp_forL (fun j ρ S' => ∃ v4 v6 ms, ρ = [some (.ref w), some (.str bb.1), some (.tup [.str "make", .str m.1, .tup ds]), some (.tup sp), v4, some (.ref f), v6, none, some (.ref nN), none, some (.tup (m.2.map D.str)), some (.int (0 + (i : Int))), some (.tup (sp ++ [.tup [.str m.1, .int (0 + (i : Int))]])), some (.ref pi_), some (.ref mr), none] ∧
            S'[f]? = some (.lst ls) ∧ S'[pi_]? = some (.lst ps) ∧ S'[mr]? = some (.lst ms) ∧ ms.length ≤ j * ns[i] ∧ (∀ l ∈ ms, LineOk (1 + i * TT n + TT n) (((ks.take i).flatten).map (·.1) ++ ks[i].map (·.1)) l) ∧ Fr [] S S')
            ⟨_, _, [], rfl, g6, gp6, gM, by simp, by simp, f6⟩ (fun j ρ S' h => by obtain ⟨_, _, _, _, h, _⟩ := h; exact getL_lst h) ?_ ?_
          · rintro j _ S7 hj ⟨v4, v6, ms, rfl, g7, gp7, gm7, hml, hmo, f7⟩
            obtain ⟨tests, kp, hle, ht, hkp, hpl1⟩ := hlo _ (List.getElem_mem hj)
            rw [hle]
            refine ⟨_, rfl, ?_⟩
            have hkpl : kp.length ≤ 7 := by
              have : (kp.map (·.1)).length = (((ks.take i).flatten).map (·.1)).length := by rw [hkp]
              rw [List.length_map, List.length_map] at this
              omega
            subst_eqs
            refine ⟨isL_lst gm7, ?_⟩
            subst_eqs
            refine wp_iLst ?_
            subst_eqs
            refine ⟨_, _, rfl, getL_lst gp7, ?_⟩
            refine wp_compL (fun t acc S' => S' = S7 ∧ acc.length = t ∧ ∀ l ∈ acc, LineOk (1 + i * TT n + TT n) (((ks.take i).flatten).map (·.1) ++ ks[i].map (·.1)) l) ⟨rfl, rfl, by simp⟩ (fun i acc S' h => by rw [h.1]; exact getL_lst gp7) ?_ ?_
            · rintro t acc S8 ht8 ⟨rfl, hal, hao⟩
              obtain ⟨t2, kp2, hle2, ht2, hkp2, hpl2⟩ := hpo _ (List.getElem_mem ht8)
              rw [hle2]
              refine ⟨_, rfl, ?_⟩
              have hkpl2 : kp2.length ≤ 7 := by
                have : (kp2.map (·.1)).length = (ks[i].map (·.1)).length := by rw [hkp2]
                rw [List.length_map, List.length_map] at this
                omega
              unfold dLn
              subst_eqs
              refine wp_addT (by omega) ?_
              subst_eqs
              refine wp_addT (by rw [List.length_map, List.length_map]; omega) ?_
              subst_eqs
              refine ⟨rfl, by simp [hal], fun l hl => ?_⟩
              rcases List.mem_append.mp hl with q | q
              · exact hao l q
              · rw [List.mem_singleton.mp q]
                refine ⟨tests ++ t2, kp ++ kp2, by unfold dLn; rw [List.map_append], by rw [List.length_append]; omega, by rw [List.map_append, hkp, hkp2], fun y hy => ?_⟩
                rcases List.mem_append.mp hy with z | z
                · exact hpl1 y z
                · exact hpl2 y z
            · rintro acc S8 ⟨rfl, hal, hao⟩
              have hms : ms.length ≤ 64 := by
                have h1 := hpn i
                have h2 : j * ns[i] ≤ 8 * 8 := Nat.mul_le_mul (by omega) hnn8
                omega
              refine ⟨by omega, ?_⟩
              subst_eqs
              have gm8 := get_old (x := .lst acc) gm7
              refine wp_extend gm8 get_push (by omega) ?_
              subst_eqs
              refine ⟨_, _, ms ++ acc, rfl, get_set_ne (get_old g7) hMf, get_set_ne (get_old gp7) hMp, get_set (lt_of gm8), ?_, fun l hl => ?_, f7.push'.set_new hMg⟩
              · rw [List.length_append, hal, Nat.add_mul]
                omega
              · rcases List.mem_append.mp hl with q | q
                · exact hmo l q
                · exact hao l q
          · rintro _ S7 ⟨v4, v6, ms, rfl, g7, gp7, gm7, hml, hmo, f7⟩
            subst_eqs
            refine ⟨_, _, _, _, _, _, mr, ms, rfl, hMg, gm7, ?_, fun l hl => ?_, f7⟩
            · rw [prod_succ hin]
              exact Nat.le_trans hml (Nat.mul_le_mul_right _ hll)
            · rw [flat_take hik, List.map_append]
              refine (hmo l hl).up ?_
              rw [Nat.add_mul]
              omega
        · rintro _ S4 ⟨v4, v6, v11, v12, v13, v14, f, ls, rfl, hfS4, g4, hll, hlo, f4⟩
          subst_eqs
          have et : ns.take m.2.length = ns := List.take_of_length_le (by omega)
          have ek : ks.take m.2.length = ks := List.take_of_length_le (by omega)
          rw [et] at hll
          rw [ek, ← e3] at hlo
          refine ⟨_, ls, rfl, hfS4, g4, by omega, fun l hl => (hlo l hl).up ?_, f4⟩
          have : m.2.length * TT n ≤ 4 * TT n := Nat.mul_le_mul_right _ hm4
          show 1 + m.2.length * TT n ≤ 2 + 4 * TT n
          omega

end K49

set_option Elab.async false
set_option linter.all false
set_option maxRecDepth 100000
set_option maxHeartbeats 3000000
namespace K49
open PySem L2 Mp
open PyProof.Rows hiding St

local macro_rules | `(tactic| left) => `(tactic| first
  | (with_reducible first
    | refine wp_seq ?_ | refine wp_ret ?_ | refine wp_expr ?_ | refine wp_sif ?_ | refine wp_set1 ?_ | refine wp_bin ?_ | refine wp_put ?_ | refine wp_un ?_ | refine wp_app ?_ | refine wp_nil ?_ | refine wp_cons ?_ | refine wp_tup ?_ | refine wp_lst ?_
    | refine wp_const ?_ | refine wp_meth ?_ | refine wp_join ?_ | refine wp_eif ?_ | refine wp_tand ?_ | refine wp_tor ?_ | refine wp_tnot ?_ | refine wp_test ?_ | refine wp_cut ?_ | refine wp_osome ?_ | refine wp_onone ?_ | refine wp_isi ?_
    | refine wp_pnil ?_ | refine wp_pcons ?_ | refine wp_dict ?_ | refine wp_for ?_ | refine wp_comp ?_ | refine wp_skip ?_ | refine wp_setP ?_ | refine wp_iRg1 ?_ | refine wp_iRg2 ?_ | refine wp_yes ?_
    | refine wp_addI ?_ | refine wp_subI ?_ | refine wp_neg ?_ | refine wp_cmp ?_ | refine wp_eqI ?_ | refine wp_eqS ?_ | refine wp_neI ?_ | refine wp_neS ?_ | refine wp_neB ?_ | refine wp_isnt ?_ | refine wp_min ?_ | refine wp_max ?_ | refine wp_intB ?_ | refine wp_lenT ?_ | refine wp_lenF ?_
    | refine ex_bl ?_ | refine ex_int ?_ | refine iteW ?_ | refine iteF' ?_)
  | ((with_reducible apply wp_slot); exact rfl)
  | ((with_reducible apply wp_idxL); (with_reducible assumption); exact rfl)
  | ((with_reducible apply wp_idxT); exact rfl)
  | ((with_reducible apply wp_lenL); with_reducible assumption)
  | ((with_reducible refine wp_mod ?_ ?_); omega)
  | ((with_reducible refine wp_fdiv ?_ ?_); omega)
  | ((with_reducible refine wp_mul ?_ ?_); omega))
local macro_rules | `(tactic| subst_eqs) => `(tactic| repeat (first | left | dsimp only))

/-! Kx5: terms, sameness. -/
theorem Pl.up : ∀ {n : Nat} {d : D}, Pl n d → Pl (n + 1) d
  | 0, _, h => h.elim
  | n + 1, d, h => by
    rcases h with h | h | ⟨ds, h1, h2, h3⟩
    · exact .inl h
    · exact .inr (.inl h)
    · exact .inr (.inr ⟨ds, h1, h2, fun e he => (h3 e he).up⟩)
theorem Pl.le {n m : Nat} {d : D} (h : Pl n d) (hm : n ≤ m) : Pl m d := by
  induction m with
  | zero =>
    have : n = 0 := by omega
    subst this
    exact h
  | succ m ih =>
    by_cases e : n = m + 1
    · subst e; exact h
    · exact (ih (by omega)).up
theorem pairs_kp : ∀ kp : List (Str × D), pairsD (kp.map fun x => D.tup [.str x.1, x.2]) = some (kp.map fun x => ((.inr x.1 : Key), x.2))
  | [] => rfl
  | x :: kp => by
    show (match pairsD (kp.map fun x => D.tup [.str x.1, x.2]) with | some ps => some (((.inr x.1 : Key), x.2) :: ps) | none => none) = _
    rw [pairs_kp kp]
    rfl
theorem look_merge : ∀ (ls ks : List (Key × D)) (k : Key) (P : D → Prop), (∀ kv ∈ ls, P kv.2) → (∀ d, lookK ks k = some d → P d) → ((lookK ks k).isSome = true ∨ k ∈ ls.map (·.1)) → ∃ d, lookK (mergeD ks ls) k = some d ∧ P d
  | [], ks, k, P, _, h2, h3 => by
    rcases h3 with h | h
    · obtain ⟨d, hd⟩ := Option.isSome_iff_exists.mp h
      exact ⟨d, hd, h2 d hd⟩
    · simp at h
  | (k', v) :: ls, ks, k, P, h1, h2, h3 => by
    show ∃ d, lookK (mergeD (storeK ks k' v) ls) k = some d ∧ P d
    refine look_merge ls (storeK ks k' v) k P (fun kv hkv => h1 kv (List.mem_cons_of_mem _ hkv)) (fun d hd => ?_) ?_
    · rw [look_store] at hd
      split at hd
      · cases hd
        exact h1 _ List.mem_cons_self
      · exact h2 d hd
    · rw [look_store]
      by_cases e : k = k'
      · rw [if_pos e]
        exact .inl rfl
      · rw [if_neg e]
        rcases h3 with h | h
        · exact .inl h
        · rw [List.map_cons] at h
          rcases List.mem_cons.mp h with q | q
          · exact absurd q e
          · exact .inr q
abbrev TermQ (d : D) (S : Store) : D → Store → Prop := fun d' S' => d' = d ∧ Fr [] S S'
/-- both ways tell the same term -/
theorem term_ok {names : List Str} {b : Nat} {l : D} (hl : LineOk b names l) (hn7 : names.length ≤ 7) : ∀ (n : Nat) (e : D), Ans names n e → ∃ d, Pl (2 * n + 5) d ∧ (∀ (k : Nat) (S : Store), n ≤ k → Wp (evalF Bs k 0 [e, l] S) (TermQ d S)) ∧ (∀ (k : Nat) (S : Store), n ≤ k → Wp (evalF Bs k 19 [e, l] S) (TermQ d S))
  | 0, _, h => h.elim
  | n + 1, e, h => by
    obtain ⟨tests, kp, rfl, _, hkp, hpl⟩ := hl
    have hkl : kp.length ≤ 7 := by
      have : (kp.map (·.1)).length = names.length := by rw [hkp]
      rw [List.length_map] at this
      omega
    have hsl : sizeLine = 16777216 := sizeLine_eq
    rcases h with ⟨i, rfl⟩ | ⟨x, hx, rfl⟩ | ⟨m, ds, rfl, hds, hall⟩
    · refine ⟨.tup [.str "num", .int i], ?_, fun k S hk => ?_, fun k S hk => ?_⟩
      · refine .inr (.inr ⟨_, rfl, by simp, fun e he => ?_⟩)
        simp only [List.mem_cons, List.not_mem_nil, or_false] at he
        rcases he with rfl | rfl
        · exact .inr (.inl ⟨_, rfl⟩)
        · exact .inl ⟨_, rfl⟩
      all_goals
        obtain ⟨k, rfl⟩ := Nat.exists_eq_add_of_le' (show 1 ≤ k by omega)
      · rw [ev' 0 k _ S (np := 2) (nn := 3) (B := B0) rfl rfl]
        refine wp_run ?_
        have ee : (List.map some [D.tup [.str "num", .int i], dLn tests kp] ++ List.replicate (3 - 2) none : Mp.Env) = [some (.tup [.str "num", .int i]), some (dLn tests kp), none] := rfl
        rw [ee]
        unfold B0
        subst_eqs
        apply iteD <;> intro hz
        · subst_eqs
          exact ⟨rfl, Fr.refl⟩
        · exact absurd rfl hz
      · rw [ev' 19 k _ S (np := 2) (nn := 3) (B := B19) rfl rfl]
        refine wp_run ?_
        have ee : (List.map some [D.tup [.str "num", .int i], dLn tests kp] ++ List.replicate (3 - 2) none : Mp.Env) = [some (.tup [.str "num", .int i]), some (dLn tests kp), none] := rfl
        rw [ee]
        unfold B19
        subst_eqs
        apply iteD <;> intro hz
        · subst_eqs
          exact ⟨rfl, Fr.refl⟩
        · exact absurd rfl hz
    · obtain ⟨sp, hsp, hpsp⟩ := look_merge (kp.map fun x => ((.inr x.1 : Key), x.2)) [] (.inr x) (Pl 3) (fun kv hkv => by
        obtain ⟨y, hy, rfl⟩ := List.mem_map.mp hkv
        exact hpl y hy) (fun d hd => by cases hd) (.inr (by
        rw [← hkp] at hx
        obtain ⟨y, hy, rfl⟩ := List.mem_map.mp hx
        rw [List.map_map]
        exact List.mem_map.mpr ⟨y, hy, rfl⟩))
      refine ⟨.tup [.str "part", sp], ?_, fun k S hk => ?_, fun k S hk => ?_⟩
      · refine .inr (.inr ⟨_, rfl, by simp, fun e he => ?_⟩)
        simp only [List.mem_cons, List.not_mem_nil, or_false] at he
        rcases he with rfl | rfl
        · exact .inr (.inl ⟨_, rfl⟩)
        · exact hpsp.le (by omega)
      all_goals
        obtain ⟨k, rfl⟩ := Nat.exists_eq_add_of_le' (show 1 ≤ k by omega)
      · rw [ev' 0 k _ S (np := 2) (nn := 3) (B := B0) rfl rfl]
        refine wp_run ?_
        have ee : (List.map some [D.tup [.str "held", .str x], dLn tests kp] ++ List.replicate (3 - 2) none : Mp.Env) = [some (.tup [.str "held", .str x]), some (.tup [.tup tests, .tup (kp.map fun x => D.tup [.str x.1, x.2])]), none] := rfl
        rw [ee]
        unfold B0
        subst_eqs
        apply iteD <;> intro hz
        · exact absurd hz (by decide +kernel)
        subst_eqs
        apply iteD <;> intro hz
        · subst_eqs
          refine wp_dictT (by rw [List.length_map]; omega) (pairs_kp _) ?_
          subst_eqs
          refine wp_idxK get_push rfl hsp ?_
          subst_eqs
          exact ⟨rfl, Fr.push⟩
        · exact absurd rfl hz
      · rw [ev' 19 k _ S (np := 2) (nn := 3) (B := B19) rfl rfl]
        refine wp_run ?_
        have ee : (List.map some [D.tup [.str "held", .str x], dLn tests kp] ++ List.replicate (3 - 2) none : Mp.Env) = [some (.tup [.str "held", .str x]), some (.tup [.tup tests, .tup (kp.map fun x => D.tup [.str x.1, x.2])]), none] := rfl
        rw [ee]
        unfold B19
        subst_eqs
        apply iteD <;> intro hz
        · exact absurd hz (by decide +kernel)
        subst_eqs
        apply iteD <;> intro hz
        · subst_eqs
          refine wp_dictT (by rw [List.length_map]; omega) (pairs_kp _) ?_
          subst_eqs
          refine wp_idxK get_push rfl hsp ?_
          subst_eqs
          exact ⟨rfl, Fr.push⟩
        · exact absurd rfl hz
    · have ih := fun d hd => term_ok (l := dLn tests kp) ⟨tests, kp, rfl, Nat.le_refl _, hkp, hpl⟩ hn7 n d (hall d hd)
      have hch : ∃ ts : List D, ts.length = ds.length ∧ ∀ (i : Nat) (h1 : i < ds.length) (h2 : i < ts.length), Pl (2 * n + 5) ts[i] ∧ (∀ (k : Nat) (S : Store), n ≤ k → Wp (evalF Bs k 0 [ds[i], dLn tests kp] S) (TermQ ts[i] S)) ∧ (∀ (k : Nat) (S : Store), n ≤ k → Wp (evalF Bs k 19 [ds[i], dLn tests kp] S) (TermQ ts[i] S)) := by
        clear hds hall
        induction ds with
        | nil => exact ⟨[], rfl, fun i h => by simp at h⟩
        | cons d ds ihd =>
          obtain ⟨t, ht⟩ := ih d List.mem_cons_self
          obtain ⟨ts, h1, h2⟩ := ihd fun d hd => ih d (List.mem_cons_of_mem _ hd)
          refine ⟨t :: ts, by simp [h1], fun i a1 a2 => ?_⟩
          cases i with
          | zero => exact ht
          | succ i => exact h2 i _ _
      obtain ⟨ts, htl, hts⟩ := hch
      refine ⟨.tup [.str "make", .str m, .tup ts], ?_, fun k S hk => ?_, fun k S hk => ?_⟩
      · refine .inr (.inr ⟨_, rfl, by simp, fun e he => ?_⟩)
        simp only [List.mem_cons, List.not_mem_nil, or_false] at he
        rcases he with rfl | rfl | rfl
        · exact .inr (.inl ⟨_, rfl⟩)
        · exact .inr (.inl ⟨_, rfl⟩)
        · refine .inr (.inr ⟨ts, rfl, by omega, fun e he => ?_⟩)
          obtain ⟨i, hi, rfl⟩ := List.mem_iff_getElem.mp he
          exact (hts i (by omega) hi).1.le (by omega)
      all_goals
        obtain ⟨k, rfl⟩ := Nat.exists_eq_add_of_le' (show 1 ≤ k by omega)
      · rw [ev' 0 k _ S (np := 2) (nn := 3) (B := B0) rfl rfl]
        refine wp_run ?_
        have ee : (List.map some [D.tup [.str "make", .str m, .tup ds], dLn tests kp] ++ List.replicate (3 - 2) none : Mp.Env) = [some (.tup [.str "make", .str m, .tup ds]), some (dLn tests kp), none] := rfl
        rw [ee]
        unfold B0
        subst_eqs
        apply iteD <;> intro hz
        · exact absurd hz (by decide +kernel)
        subst_eqs
        apply iteD <;> intro hz
        · exact absurd hz (by decide +kernel)
        subst_eqs
        refine wp_iTup ?_
        subst_eqs
        refine ⟨_, rfl, ?_⟩
        refine wp_compT (fun i acc S' => acc = ts.take i ∧ Fr [] S S') ⟨rfl, Fr.refl⟩ ?_ ?_
        · rintro i acc S2 hi ⟨rfl, f2⟩
          refine ⟨_, rfl, ?_⟩
          subst_eqs
          refine ((hts i hi (by omega)).2.1 k S2 (by omega)).mono ?_
          rintro _ S3 ⟨rfl, f3⟩
          exact ⟨(take_at (by omega)).symm, f2.then1 f3⟩
        · rintro acc S2 ⟨rfl, f2⟩
          rw [List.take_of_length_le (by omega)]
          refine ⟨by omega, ?_⟩
          subst_eqs
          refine wp_tupleL (getL_lst get_push) ?_
          subst_eqs
          exact ⟨rfl, f2.push'⟩
      · rw [ev' 19 k _ S (np := 2) (nn := 3) (B := B19) rfl rfl]
        refine wp_run ?_
        have ee : (List.map some [D.tup [.str "make", .str m, .tup ds], dLn tests kp] ++ List.replicate (3 - 2) none : Mp.Env) = [some (.tup [.str "make", .str m, .tup ds]), some (dLn tests kp), none] := rfl
        rw [ee]
        unfold B19
        subst_eqs
        apply iteD <;> intro hz
        · exact absurd hz (by decide +kernel)
        subst_eqs
        apply iteD <;> intro hz
        · exact absurd hz (by decide +kernel)
        subst_eqs
        refine wp_iTup ?_
        subst_eqs
        refine ⟨_, rfl, ?_⟩
        refine wp_compT (fun i acc S' => acc = ts.take i ∧ Fr [] S S') ⟨rfl, Fr.refl⟩ ?_ ?_
        · rintro i acc S2 hi ⟨rfl, f2⟩
          refine ⟨_, rfl, ?_⟩
          subst_eqs
          refine ((hts i hi (by omega)).2.2 k S2 (by omega)).mono ?_
          rintro _ S3 ⟨rfl, f3⟩
          exact ⟨(take_at (by omega)).symm, f2.then1 f3⟩
        · rintro acc S2 ⟨rfl, f2⟩
          rw [List.take_of_length_le (by omega)]
          refine ⟨by omega, ?_⟩
          subst_eqs
          refine wp_tupleL (getL_lst get_push) ?_
          subst_eqs
          exact ⟨rfl, f2.push'⟩

theorem isi_it : isiB "int" "tuple" = false := by decide
theorem isi_st : isiB "str" "tuple" = false := by decide
theorem isi_tt : isiB "tuple" "tuple" = true := by decide
theorem isi_ib : isiB "int" "bool" = false := by decide
theorem isi_sb : isiB "str" "bool" = false := by decide
theorem all_true : ∀ n : Nat, ((List.replicate n true).all id) = true := by
  intro n
  induction n with
  | zero => rfl
  | succ n ih => rw [List.replicate_succ, List.all_cons, ih]; rfl
theorem same_ok : ∀ (n : Nat) (d : D) (k : Nat) (S : Store), Pl n d → n ≤ k → Wp (evalF Bs k 20 [d, d] S) fun e S' => e = .bl true ∧ Fr [] S S'
  | 0, _, _, _, h, _ => h.elim
  | n + 1, d, k, S, h, hk => by
    obtain ⟨k, rfl⟩ := Nat.exists_eq_add_of_le' (show 1 ≤ k by omega)
    have hsl : sizeLine = 16777216 := sizeLine_eq
    rw [ev' 20 k _ S (np := 2) (nn := 4) (B := B20) rfl rfl]
    refine wp_run ?_
    have ee : (List.map some [d, d] ++ List.replicate (4 - 2) none : Mp.Env) = [some d, some d, none, none] := rfl
    rw [ee]
    unfold B20
    rcases h with ⟨i, rfl⟩ | ⟨x, rfl⟩ | ⟨ds, rfl, hl, hds⟩
    · subst_eqs
      refine ⟨_, rfl, ?_⟩
      rw [isi_it]
      subst_eqs
      refine ⟨_, rfl, ?_⟩
      rw [isi_ib]
      subst_eqs
      refine ⟨_, rfl, ?_⟩
      subst_eqs
      refine ⟨_, rfl, ?_⟩
      subst_eqs
      apply iteB <;> intro hb
      · simp at hb
      · subst_eqs
        exact ⟨by simp, Fr.refl⟩
    · subst_eqs
      refine ⟨_, rfl, ?_⟩
      rw [isi_st]
      subst_eqs
      refine ⟨_, rfl, ?_⟩
      rw [isi_sb]
      subst_eqs
      refine ⟨_, rfl, ?_⟩
      subst_eqs
      refine ⟨_, rfl, ?_⟩
      subst_eqs
      apply iteB <;> intro hb
      · simp at hb
      · subst_eqs
        exact ⟨by simp, Fr.refl⟩
    · subst_eqs
      refine ⟨_, rfl, ?_⟩
      rw [isi_tt]
      subst_eqs
      refine ⟨_, rfl, ?_⟩
      rw [isi_tt]
      subst_eqs
      apply iteB <;> intro hb
      · simp at hb
      subst_eqs
      apply iteB <;> intro hb
      · simp at hb
      subst_eqs
      refine wp_iZT ?_
      subst_eqs
      refine ⟨_, _, rfl, ?_⟩
      refine wp_compZT rfl (fun i acc S' => acc = (List.replicate i true).map D.bl ∧ Fr [] S S') ⟨rfl, Fr.refl⟩ ?_ ?_
      · rintro i acc S2 hi ⟨rfl, f2⟩
        refine ⟨_, rfl, ?_⟩
        subst_eqs
        refine (same_ok n ds[i] k S2 (hds _ (List.getElem_mem hi)) (by omega)).mono ?_
        rintro _ S3 ⟨rfl, f3⟩
        refine ⟨?_, f2.then1 f3⟩
        rw [List.replicate_succ', List.map_append]
        rfl
      · rintro acc S2 ⟨rfl, f2⟩
        refine ⟨by rw [List.length_map, List.length_replicate]; omega, ?_⟩
        subst_eqs
        refine wp_allL (getL_lst get_push) ?_
        rw [all_true]
        exact ⟨rfl, f2.push'⟩

end K49

set_option Elab.async false
set_option linter.all false
set_option maxRecDepth 100000
set_option maxHeartbeats 3000000
namespace K49
open PySem L2 Mp
open PyProof.Rows hiding St

local macro_rules | `(tactic| left) => `(tactic| first
  | (with_reducible first
    | refine wp_seq ?_ | refine wp_ret ?_ | refine wp_expr ?_ | refine wp_sif ?_ | refine wp_set1 ?_ | refine wp_bin ?_ | refine wp_put ?_ | refine wp_un ?_ | refine wp_app ?_ | refine wp_nil ?_ | refine wp_cons ?_ | refine wp_tup ?_ | refine wp_lst ?_
    | refine wp_const ?_ | refine wp_meth ?_ | refine wp_join ?_ | refine wp_eif ?_ | refine wp_tand ?_ | refine wp_tor ?_ | refine wp_tnot ?_ | refine wp_test ?_ | refine wp_cut ?_ | refine wp_osome ?_ | refine wp_onone ?_ | refine wp_isi ?_
    | refine wp_pnil ?_ | refine wp_pcons ?_ | refine wp_dict ?_ | refine wp_for ?_ | refine wp_comp ?_ | refine wp_skip ?_ | refine wp_setP ?_ | refine wp_iRg1 ?_ | refine wp_iRg2 ?_ | refine wp_yes ?_
    | refine wp_addI ?_ | refine wp_subI ?_ | refine wp_neg ?_ | refine wp_cmp ?_ | refine wp_eqI ?_ | refine wp_eqS ?_ | refine wp_neI ?_ | refine wp_neS ?_ | refine wp_neB ?_ | refine wp_isnt ?_ | refine wp_min ?_ | refine wp_max ?_ | refine wp_intB ?_ | refine wp_lenT ?_ | refine wp_lenF ?_
    | refine ex_bl ?_ | refine ex_int ?_ | refine iteW ?_ | refine iteF' ?_)
  | ((with_reducible apply wp_slot); exact rfl)
  | ((with_reducible apply wp_idxL); (with_reducible assumption); exact rfl)
  | ((with_reducible apply wp_idxT); exact rfl)
  | ((with_reducible apply wp_lenL); with_reducible assumption)
  | ((with_reducible refine wp_mod ?_ ?_); omega)
  | ((with_reducible refine wp_fdiv ?_ ?_); omega)
  | ((with_reducible refine wp_mul ?_ ?_); omega))
local macro_rules | `(tactic| subst_eqs) => `(tactic| repeat (first | left | dsimp only))

/-! Kx6: rows, the law. -/
theorem row_ok {bk : List Kd} {rks : List (Key × D)} {lo hi w kn r k : Nat} {x0 x1 : Str} {c : Int} {S : Store} (wf : WfB bk) (hR : RInv bk rks 6) (hk : 14 ≤ k) (hw : World bk rks lo hi S w) (hhi : hi ≤ S.length) (or_ : Out lo hi r) (hkr : kn ≠ r)
    (gk : S[kn]? = some (.lst [.str x0, .str x1])) (hx1 : Ranked rks x1) (gr : S[r]? = some (.lst [.int 200, .int 8, .int 8])) :
    Wp (evalF Bs k 17 [.ref w, .ref kn, .int c, .ref r] S) fun e S' => ∃ (sh g an : D) (kept : List (Str × Str)) (nl : Nat), e = .tup [sh, g, an] ∧ Shp bk 9 x0 sh kept nl ∧ nl ≤ 8 ∧ kept.length ≤ 7 ∧ Ans (kept.map (·.1)) 9 an ∧ Fr [r] S S' := by
  obtain ⟨k, rfl⟩ := Nat.exists_eq_add_of_le' (show 1 ≤ k by omega)
  have hsl : sizeLine = 16777216 := sizeLine_eq
  have hlr := lt_of gr
  have hlk := lt_of gk
  rw [ev' 17 k _ S (np := 4) (nn := 10) (B := B17) rfl rfl]
  refine wp_run ?_
  have ee : (List.map some [D.ref w, D.ref kn, D.int c, D.ref r] ++ List.replicate (10 - 4) none : Mp.Env) = [some (.ref w), some (.ref kn), some (.int c), some (.ref r), none, none, none, none, none, none] := rfl
  rw [ee]
  unfold B17
  subst_eqs
  refine (pool_ok (W := []) (by omega)).mono ?_
  rintro _ S1 ⟨rfl, hp1, f1⟩
  have hp : S.length = S.length := rfl
  generalize hpp : S.length = p at hp1 ⊢
  have hpl := hp1.lt
  have opp : Out lo hi p := .inr (by omega)
  have hpr : p ≠ r := by omega
  have hpk : p ≠ kn := by omega
  subst_eqs
  refine wp_iLst ?_
  subst_eqs
  refine ⟨_, _, rfl, getL_lst get_push, ?_⟩
  have f2 : Fr [] S (S1 ++ [.lst (([("x" : Str), "xx", "if", "num", "p", "qqqqqqqq", "any"] : List Str).map D.str)]) := f1.push'
  have hp2 : Pool (S1 ++ [.lst (([("x" : Str), "xx", "if", "num", "p", "qqqqqqqq", "any"] : List Str).map D.str)]) p := hp1.push
  have gn2 := get_push (S := S1) (o := .lst (([("x" : Str), "xx", "if", "num", "p", "qqqqqqqq", "any"] : List Str).map D.str))
  have hw2 := hw.fr f2 (by simp)
  show Wp (compI (nxtL S1.length) (.nm 6) [6] _ _ ((([("x" : Str), "xx", "if", "num", "p", "qqqqqqqq", "any"] : List Str).map D.str).length + 1) 0 _ (S1 ++ [.lst (([("x" : Str), "xx", "if", "num", "p", "qqqqqqqq", "any"] : List Str).map D.str)])) _
  generalize hN : ([("x" : Str), "xx", "if", "num", "p", "qqqqqqqq", "any"] : List Str) = N at *
  have hNl : N.length = 7 := by rw [← hN]; rfl
  generalize S1.length = nn0 at *
  generalize S1 ++ [.lst (N.map D.str)] = S2 at *
  obtain ⟨rn, cn, fn, cks, _, _, _, _, gw, _, _, gf, _⟩ := id hw2
  refine wp_compL (fun i acc S' => S' = S2 ∧ ∃ ns : List Str, acc = ns.map D.str ∧ ns.length ≤ i) ⟨rfl, [], rfl, Nat.le_refl _⟩ (fun i acc S' h => by rw [h.1]; exact getL_lst gn2) ?_ ?_
  · rintro i acc S3 hi ⟨rfl, ns, rfl, hns⟩
    have hi2 : i < N.length := by simpa using hi
    have e : (N.map D.str)[i] = D.str N[i] := by simp
    rw [e]
    refine ⟨_, rfl, ?_⟩
    subst_eqs
    refine wp_idxK gw rfl lookW_fields ?_
    refine wp_notInK gf ?_
    subst_eqs
    apply wp_iteS <;> intro hx
    · subst_eqs
      exact ⟨rfl, ns ++ [N[i]], by simp, by simp; omega⟩
    · exact ⟨rfl, ns, rfl, by omega⟩
  rintro acc S3 ⟨rfl, ns, rfl, hns⟩
  rw [List.length_map] at hns
  refine ⟨by rw [List.length_map]; omega, ?_⟩
  have gN := get_push (S := S3) (o := .lst (ns.map D.str))
  have hp3 : Pool (S3 ++ [.lst (ns.map D.str)]) p := hp2.push
  have f3 : Fr [] S (S3 ++ [.lst (ns.map D.str)]) := f2.push'
  have hnp : S3.length ≠ p := by have := hp2.lt; omega
  have hnr : S3.length ≠ r := by have := f2.lt hlr; omega
  have hng : S.length ≤ S3.length := f2.1
  have hnk : S3.length ≠ kn := by have := f2.lt hlk; omega
  generalize S3.length = nn at *
  generalize S3 ++ [.lst (ns.map D.str)] = S4 at *
  have gr4 := f3.get gr (by simp)
  have glr4 := getL_lst gr4
  subst_eqs
  refine ⟨S4.set r (.lst [.int 200, .int 8, .int 8]), by unfold storeD; dsimp only; rw [gr4]; rfl, ?_⟩
  have hr5 : RoomAt (S4.set r (.lst [.int 200, .int 8, .int 8])) r 200 8 := ⟨8, get_set (lt_of gr4)⟩
  have hp5 : Pool (S4.set r (.lst [.int 200, .int 8, .int 8])) p := hp3.set hpr
  have gN5 := get_set_ne (x := .lst [.int 200, .int 8, .int 8]) gN hnr
  have f5 : Fr [r] S (S4.set r (.lst [.int 200, .int 8, .int 8])) := (f3.sub (W' := [r]) (by simp)).then1 (Fr.set (by simp))
  generalize S4.set r (.lst [.int 200, .int 8, .int 8]) = S5 at *
  have gk5 := f5.get gk (by simpa using hkr)
  have glk5 := getL_lst gk5
  subst_eqs
  have e4 : (4 : Int) = ((4 : Nat) : Int) := rfl
  rw [e4]
  refine (shape_ok wf hR 4 k w p r nn 200 8 x0 ns S5 (by omega) (hw.fr' f5 (by simpa using or_)) (by have := f5.1; omega) opp or_ (.inr (by omega)) hpr (Ne.symm hnp) (Ne.symm hnr) hp5 hr5 (by omega) gN5 (by omega)).mono ?_
  rintro sh S6 ⟨kept, nl, a6, b6, xs6, hS, hr6, hb6, hnl1, hle6, hn6, hkl, hp6, f6⟩
  have hnl8 : nl ≤ 8 := by
    have : nl * 1 ≤ nl * b6 := Nat.mul_le_mul_left _ hb6
    omega
  have hk7 : kept.length ≤ 7 := by omega
  have f6' : Fr [r] S S6 := f5.trans f6 (by
    intro i hi
    simp only [List.mem_cons, List.not_mem_nil, or_false] at hi
    rcases hi with rfl | rfl | rfl
    · exact .inr (by omega)
    · exact .inl (by simp)
    · exact .inr (by omega))
  have gk6 := f6'.get gk (by simpa using hkr)
  have glk6 := getL_lst gk6
  have hw6 := hw.fr' f6' (by simpa using or_)
  subst_eqs
  refine (kept_ok wf 9 x0 sh kept nl k S6 hS (by omega) hw6 hk7).mono ?_
  rintro _ S7 ⟨ki, rfl, g7, f7⟩
  have hp7 := hp6.fr f7 (by simp)
  have hr7 := hr6.fr f7 (by simp)
  have f7' := f6'.then1 (f7.sub (W' := [r]) (by simp))
  have gk7 := f7'.get gk (by simpa using hkr)
  have glk7 := getL_lst gk7
  have hw7 := hw.fr' f7' (by simpa using or_)
  have hkip : ki ≠ p := by
    rintro rfl
    obtain ⟨a, b, c, h⟩ := hp7
    rw [g7] at h
    have h := Option.some.inj h
    cases kept with
    | nil => cases h
    | cons y ys => cases h
  have hkir : ki ≠ r := by
    rintro rfl
    obtain ⟨c, h⟩ := hr7
    rw [g7] at h
    have h := Option.some.inj h
    cases kept with
    | nil => cases h
    | cons y ys => cases h
  subst_eqs
  refine (guard_ok (by omega) hp7 hr7 hpr hkip hkir g7 hk7).mono ?_
  rintro gd S8 ⟨hp8, f8⟩
  have g8 := f8.get g7 (by simp only [List.mem_cons, List.not_mem_nil, or_false]; omega)
  have f8' : Fr [r] S S8 := f7'.trans f8 (by
    intro i hi
    simp only [List.mem_cons, List.not_mem_nil, or_false] at hi
    rcases hi with rfl | rfl
    · exact .inr (by omega)
    · exact .inl (by simp))
  have gk8 := f8'.get gk (by simpa using hkr)
  have glk8 := getL_lst gk8
  have hw8 := hw.fr' f8' (by simpa using or_)
  subst_eqs
  have e2 : (2 : Int) = ((2 : Nat) : Int) := rfl
  rw [e2]
  refine (answer_ok wf hR opp hkip hk7 9 2 k x1 S8 (by omega) hw8 hx1 (.inr ⟨by omega, by omega⟩) hp8 g8).mono ?_
  rintro an S9 ⟨hA, hp9, f9⟩
  subst_eqs
  refine ⟨sh, gd, an, kept, nl, rfl, hS, hnl8, hk7, hA, f8'.trans f9 (by
    intro i hi
    rw [List.mem_singleton.mp hi]
    exact .inr (by omega))⟩

end K49

set_option Elab.async false
set_option linter.all false
set_option maxRecDepth 100000
set_option maxHeartbeats 3000000
namespace K49
open PySem L2 Mp
open PyProof.Rows hiding St

local macro_rules | `(tactic| left) => `(tactic| first
  | (with_reducible first
    | refine wp_seq ?_ | refine wp_ret ?_ | refine wp_expr ?_ | refine wp_sif ?_ | refine wp_set1 ?_ | refine wp_bin ?_ | refine wp_put ?_ | refine wp_un ?_ | refine wp_app ?_ | refine wp_nil ?_ | refine wp_cons ?_ | refine wp_tup ?_ | refine wp_lst ?_
    | refine wp_const ?_ | refine wp_meth ?_ | refine wp_join ?_ | refine wp_eif ?_ | refine wp_tand ?_ | refine wp_tor ?_ | refine wp_tnot ?_ | refine wp_test ?_ | refine wp_cut ?_ | refine wp_osome ?_ | refine wp_onone ?_ | refine wp_isi ?_
    | refine wp_pnil ?_ | refine wp_pcons ?_ | refine wp_dict ?_ | refine wp_for ?_ | refine wp_comp ?_ | refine wp_skip ?_ | refine wp_setP ?_ | refine wp_iRg1 ?_ | refine wp_iRg2 ?_ | refine wp_yes ?_
    | refine wp_addI ?_ | refine wp_subI ?_ | refine wp_neg ?_ | refine wp_cmp ?_ | refine wp_eqI ?_ | refine wp_eqS ?_ | refine wp_neI ?_ | refine wp_neS ?_ | refine wp_neB ?_ | refine wp_isnt ?_ | refine wp_min ?_ | refine wp_max ?_ | refine wp_intB ?_ | refine wp_lenT ?_ | refine wp_lenF ?_
    | refine ex_bl ?_ | refine ex_int ?_ | refine iteW ?_ | refine iteF' ?_)
  | ((with_reducible apply wp_slot); exact rfl)
  | ((with_reducible apply wp_idxL); (with_reducible assumption); exact rfl)
  | ((with_reducible apply wp_idxT); exact rfl)
  | ((with_reducible apply wp_lenL); with_reducible assumption)
  | ((with_reducible refine wp_mod ?_ ?_); omega)
  | ((with_reducible refine wp_fdiv ?_ ?_); omega)
  | ((with_reducible refine wp_mul ?_ ?_); omega))
local macro_rules | `(tactic| subst_eqs) => `(tactic| repeat (first | left | dsimp only))

/-! Kx7: the law. -/
theorem wp_cutF {ds : List D} {lo hi : Option Int} {S : Store} {Q : D → Store → Prop} (q : Q (.ref S.length) (S ++ [.lst (Mp.cutD ds lo hi)])) : Wp (dCut (.frz ds) lo hi S) Q := wp_ok.mpr q
/-- what is asked of one line -/
def Asked (a : D) : Prop := ∃ e l names b, a = .tup [e, l] ∧ LineOk b names l ∧ names.length ≤ 7 ∧ Ans names 9 e
theorem law_wp (ns : List Int) (hl : ns.length ≤ 63) : Wp (evalF Bs 100 21 [.frz (ns.map D.int)] []) fun d _ => d = .bl true := by
  have hsl : sizeLine = 16777216 := sizeLine_eq
  rw [ev' 21 99 _ [] (np := 1) (nn := 11) (B := B21) rfl rfl]
  refine wp_run ?_
  have ee : (List.map some [D.frz (ns.map D.int)] ++ List.replicate (11 - 1) none : Mp.Env) = [some (.frz (ns.map D.int)), none, none, none, none, none, none, none, none, none, none] := rfl
  rw [ee]
  unfold B21
  subst_eqs
  have e0 : (0 : Int) = ((0 : Nat) : Int) := rfl
  rw [e0]
  refine (cell_ok (by omega)).mono ?_
  rintro _ _ ⟨c0, rfl, rfl⟩
  subst_eqs
  refine (pool_ok (W := []) (by omega)).mono ?_
  rintro _ S1 ⟨rfl, hp1, f1⟩
  have hp0 : Pool S1 0 := hp1
  show Wp (sSeq _ _ _ _) _
  clear hp1
  have el0 : ([] : Store).length = 0 := rfl
  rw [el0]
  subst_eqs
  refine (book_ok (by omega) hp0).mono ?_
  rintro _ S2 ⟨bk, rfl, wf, hp2, f2⟩
  subst_eqs
  refine (world_ok (by omega) wf).mono ?_
  rintro _ S3 ⟨w, rks, rfl, hR, h37, hw, f3⟩
  have hp3 := hp2.fr f3 (by simp)
  have hlo : 0 < S2.length := hp2.lt
  generalize S2.length = lo at *
  generalize hhi : S3.length = hi at *
  subst_eqs
  refine (kinds_ok (by omega) hw hR h37 hp3 (.inl hlo)).mono ?_
  rintro _ S4 ⟨kn, xs, rfl, hkn, gk, hxl, hxr, hp4, f4⟩
  have hw4 := hw.fr' f4 (by intro i hi; rw [List.mem_singleton.mp hi]; exact .inl hlo)
  obtain ⟨x0, x1, rfl⟩ : ∃ a b, xs = [a, b] := by
    cases xs with
    | nil => simp at hxl
    | cons a t =>
      cases t with
      | nil => simp at hxl
      | cons b u =>
        cases u with
        | nil => exact ⟨a, b, rfl⟩
        | cons _ _ => simp at hxl
  have gk : S4[kn]? = some (.lst [.str x0, .str x1]) := gk
  have hx1 := hxr x1 (by simp)
  have hhi4 : hi ≤ S4.length := by have := f4.1; omega
  clear hp0 hp2 hp3 hp4 f1 f2 f3 f4 hw
  subst_eqs
  have gA := get_push (S := S4) (o := .lst [])
  have gk5 := get_old (x := .lst []) gk
  have hw5 := hw4.fr (W := []) (Fr.push (S := S4) (o := .lst [])) (by simp)
  have hhi5 : hi ≤ (S4 ++ [MO.lst []]).length := by simp; omega
  have hAk : S4.length ≠ kn := by have := lt_of gk; omega
  have hAh : hi ≤ S4.length := hhi4
  generalize S4.length = an at *
  generalize S4 ++ [.lst []] = S5 at *
  refine wp_iLst ?_
  subst_eqs
  have e1 : (1 : Int) = ((1 : Nat) : Int) := rfl
  rw [e1]
  refine (cell_ok (by omega)).mono ?_
  rintro _ S6 ⟨c1, rfl, rfl⟩
  subst_eqs
  refine wp_cutF ?_
  rw [cut_map]
  have hcl : (Mp.cutD ns (some 2) (some 63)).length ≤ 63 := Nat.le_trans cut_len hl
  generalize Mp.cutD ns (some 2) (some 63) = cut at *
  have g1 := get_push (S := S6) (o := .lst [.int c1])
  have g1' := get_old (x := .lst (cut.map D.int)) g1
  have g2 := get_push (S := S6 ++ [MO.lst [D.int c1]]) (o := .lst (cut.map D.int))
  refine wp_addL g1' g2 (by rw [List.length_map]; simp; omega) ?_
  have ecs : [D.int c1] ++ cut.map D.int = (c1 :: cut).map D.int := rfl
  rw [ecs]
  have gC := get_push (S := S6 ++ [MO.lst [D.int c1]] ++ [MO.lst (cut.map D.int)]) (o := .lst ((c1 :: cut).map D.int))
  have gk7 := get_old (x := .lst ((c1 :: cut).map D.int)) (get_old (x := .lst (cut.map D.int)) (get_old (x := .lst [.int c1]) gk5))
  have gA7 := get_old (x := .lst ((c1 :: cut).map D.int)) (get_old (x := .lst (cut.map D.int)) (get_old (x := .lst [.int c1]) gA))
  have f67 : Fr [] S6 (S6 ++ [MO.lst [D.int c1]] ++ [MO.lst (cut.map D.int)] ++ [MO.lst ((c1 :: cut).map D.int)]) := ((Mp.Fr.push (W := [])).push').push'
  have hw7 := hw5.fr f67 (by simp)
  have hhi7 : hi ≤ (S6 ++ [MO.lst [D.int c1]] ++ [MO.lst (cut.map D.int)] ++ [MO.lst ((c1 :: cut).map D.int)]).length := Nat.le_trans hhi5 f67.1
  have hCA : (S6 ++ [MO.lst [D.int c1]] ++ [MO.lst (cut.map D.int)]).length ≠ an := by have := lt_of gA; simp; omega
  have hcs : (c1 :: cut).length ≤ 64 := by simp; omega
  generalize c1 :: cut = cs at *
  generalize (S6 ++ [MO.lst [D.int c1]] ++ [MO.lst (cut.map D.int)]).length = cn at *
  generalize S6 ++ [MO.lst [D.int c1]] ++ [MO.lst (cut.map D.int)] ++ [MO.lst (cs.map D.int)] = S7 at *
  clear g1 g1' g2 gk5 gA hw5 f67 gk
  refine ⟨_, _, rfl, getL_lst gC, ?_⟩
  refine wp_forL (fun i ρ S' => ∃ v5 v6 v7 v8 v9, ∃ as : List D, ρ = [some (.frz (ns.map D.int)), some (.ref 0), some (.ref w), some (.ref kn), some (.ref an), v5, v6, v7, v8, v9, none] ∧ World bk rks lo hi S' w ∧ hi ≤ S'.length ∧ S'[kn]? = some (.lst [.str x0, .str x1]) ∧ S'[cn]? = some (.lst (cs.map D.int)) ∧ S'[an]? = some (.lst as) ∧ as.length ≤ 8 * i ∧ ∀ a ∈ as, Asked a)
    ⟨_, _, _, _, _, [], rfl, hw7, hhi7, gk7, gC, gA7, by simp, by simp⟩ (fun i ρ S' h => by obtain ⟨_, _, _, _, _, _, _, _, _, _, h, _⟩ := h; exact getL_lst h) ?_ ?_
  · rintro i _ S8 hi8 ⟨v5, v6, v7, v8, v9, as, rfl, hw8, hhi8, gk8, gC8, gA8, hal, hask⟩
    have hi9 : i < cs.length := by simpa using hi8
    have e : (cs.map D.int)[i] = D.int cs[i] := by simp
    rw [e]
    refine ⟨_, rfl, ?_⟩
    have hkl := lt_of gk8
    have hAl := lt_of gA8
    have hCl := lt_of gC8
    subst_eqs
    refine (row_ok wf hR (by omega) (hw8.fr (W := []) Fr.push (by simp)) (by simp; omega) (.inr hhi8) (by omega) (get_old gk8) hx1 get_push).mono ?_
    rintro _ S9 ⟨sh, g, ans, kept, nl, rfl, hS, hnl, hkept, hA, f9⟩
    have f89 : Fr [] S8 S9 := (Fr.push (W := [])).trans f9 (by
      intro i hi
      rw [List.mem_singleton.mp hi]
      exact .inr (Nat.le_refl _))
    have hw9 := hw8.fr f89 (by simp)
    have gk9 := f89.get gk8 (by simp)
    have gC9 := f89.get gC8 (by simp)
    have gA9 := f89.get gA8 (by simp)
    have hhi9 : hi ≤ S9.length := Nat.le_trans hhi8 f89.1
    have glk9 := getL_lst gk9
    refine ⟨_, rfl, ?_⟩
    subst_eqs
    refine wp_iLst ?_
    subst_eqs
    refine (lines_ok wf 9 x0 sh kept nl 99 [] S9 hS (by omega) (by omega) hw9 hkept hnl (by simp) (by simp)).mono ?_
    rintro _ SA ⟨li, ls, rfl, hli, gL, hll, hlo, fA⟩
    refine ⟨_, _, rfl, getL_lst gL, ?_⟩
    have hwA := hw9.fr fA (by simp)
    have gkA := fA.get gk9 (by simp)
    have gCA := fA.get gC9 (by simp)
    have gAA := fA.get gA9 (by simp)
    have hhiA : hi ≤ SA.length := Nat.le_trans hhi9 fA.1
    have hlA : li ≠ an := by have := lt_of gA9; omega
    refine wp_forL (fun j ρ S' => ∃ v9, ∃ as : List D, ρ = [some (.frz (ns.map D.int)), some (.ref 0), some (.ref w), some (.ref kn), some (.ref an), some (.int cs[i]), some sh, some g, some ans, v9, none] ∧ World bk rks lo hi S' w ∧ hi ≤ S'.length ∧ S'[kn]? = some (.lst [.str x0, .str x1]) ∧ S'[cn]? = some (.lst (cs.map D.int)) ∧ S'[li]? = some (.lst ls) ∧ S'[an]? = some (.lst as) ∧ as.length ≤ 8 * i + j ∧ ∀ a ∈ as, Asked a)
      ⟨_, as, rfl, hwA, hhiA, gkA, gCA, gL, gAA, by omega, hask⟩ (fun j ρ S' h => by obtain ⟨_, _, _, _, _, _, _, h, _⟩ := h; exact getL_lst h) ?_ ?_
    · rintro j _ SB hj ⟨v9, as2, rfl, hwB, hhiB, gkB, gCB, gLB, gAB, halB, haskB⟩
      refine ⟨_, rfl, ?_⟩
      subst_eqs
      refine ⟨isL_lst gAB, ?_⟩
      subst_eqs
      refine wp_append gAB (by omega) ?_
      subst_eqs
      refine ⟨_, as2 ++ [D.tup [ans, ls[j]]], rfl, hwB.fr (Fr.set (W := [an]) (by simp)) (by
        intro i hi
        rw [List.mem_singleton.mp hi]
        exact .inr hAh), by simpa using hhiB, get_set_ne gkB (Ne.symm hAk), get_set_ne gCB hCA, get_set_ne gLB hlA, get_set (lt_of gAB), by simp; omega, fun a ha => ?_⟩
      rcases List.mem_append.mp ha with q | q
      · exact haskB a q
      · rw [List.mem_singleton.mp q]
        exact ⟨ans, ls[j], kept.map (·.1), TT 9, rfl, hlo _ (List.getElem_mem hj), by rw [List.length_map]; exact hkept, hA⟩
    · rintro _ SB ⟨v9, as2, rfl, hwB, hhiB, gkB, gCB, gLB, gAB, halB, haskB⟩
      subst_eqs
      exact ⟨_, _, _, _, _, as2, rfl, hwB, hhiB, gkB, gCB, gAB, by omega, haskB⟩
  · rintro _ S8 ⟨v5, v6, v7, v8, v9, as, rfl, hw8, hhi8, gk8, gC8, gA8, hal, hask⟩
    rw [List.length_map] at hal
    clear hw8 gk8 gC8 hhi8
    subst_eqs
    refine ⟨_, rfl, ⟨by omega, by omega⟩, ?_⟩
    refine wp_forR (n := 2) (fun i ρ S' => ∃ v8 v9 v10, ρ = [some (.frz (ns.map D.int)), some (.ref 0), some (.ref w), some (.ref kn), some (.ref an), v5, v6, v7, v8, v9, v10] ∧ S'[an]? = some (.lst as)) ⟨_, _, _, rfl, gA8⟩ ?_ ?_
    · rintro i _ S9 hi ⟨v8, v9, v10, rfl, gA9⟩
      subst_eqs
      refine wp_iLst ?_
      subst_eqs
      refine ⟨_, _, rfl, getL_lst gA9, ?_⟩
      refine wp_forL (fun j ρ S' => ∃ v8 v9, ρ = [some (.frz (ns.map D.int)), some (.ref 0), some (.ref w), some (.ref kn), some (.ref an), v5, v6, v7, v8, v9, some (.int (0 + (i : Int)))] ∧ S'[an]? = some (.lst as)) ⟨_, _, rfl, gA9⟩ (fun j ρ S' h => by obtain ⟨_, _, _, h⟩ := h; exact getL_lst h) ?_ ?_
      · rintro j _ SB hj ⟨v8, v9, rfl, gAB⟩
        obtain ⟨e, l, names, b, ea, hlo, hn7, hA⟩ := hask _ (List.getElem_mem hj)
        rw [ea]
        refine ⟨_, rfl, ?_⟩
        obtain ⟨d, hd, t0, t19⟩ := term_ok hlo hn7 9 e hA
        subst_eqs
        refine (t0 99 SB (by omega)).mono ?_
        rintro _ SC ⟨rfl, fC⟩
        subst_eqs
        refine (t19 99 SC (by omega)).mono ?_
        rintro _ SD ⟨rfl, fD⟩
        subst_eqs
        refine (same_ok 23 _ 99 SD hd (by omega)).mono ?_
        rintro _ SE ⟨rfl, fE⟩
        subst_eqs
        rw [Bool.not_true]
        subst_eqs
        exact ⟨_, _, rfl, fE.get (fD.get (fC.get gAB (by simp)) (by simp)) (by simp)⟩
      · rintro _ SB ⟨v8, v9, rfl, gAB⟩
        subst_eqs
        exact ⟨_, _, _, rfl, gAB⟩
    · rintro _ S9 ⟨v8, v9, v10, rfl, gA9⟩
      subst_eqs

end K49

set_option Elab.async false
set_option linter.all false
set_option maxRecDepth 100000
set_option maxHeartbeats 8000000
/-! K9: the end, from the plain law. -/
namespace K49
open PySem L2 Mp
open PyProof.Rows hiding St

theorem law_runs (ns : List Int) (hl : ns.length ≤ 63) (hb : ∀ z ∈ ns, Builtin.Int.intBits z ≤ 1048576) : ∃ S, evalF Bs 100 21 [.frz (ns.map D.int)] [] = .ok (.bl true) S := by
  obtain ⟨d, S, e, rfl⟩ := law_wp ns hl
  exact ⟨S, e⟩
theorem repInts {K : PySem.W.Frag} {H : Hp} {m : List Addr} : ∀ ns : List Int, RepL K H m (ns.map D.int) (ns.map V.int)
  | [] => RepL.nil
  | n :: ns => RepL.cons (rep_int.mpr rfl) (repInts ns)
theorem sp_law {K : PySem.W.Frag} {H : Hp} {a : Addr} {ns : List Int} (hl : ns.length ≤ 63) (hb : ∀ z ∈ ns, Builtin.Int.intBits z ≤ 1048576) (hO : Only H) (hS : SqL K H a (ns.map V.int)) :
    spD K (evalF Bs 100 21) [.ref a] H (fun v _ => v = .bl true) fun _ _ _ => False := by
  obtain ⟨S, e⟩ := law_runs ns hl hb
  have hz : (63 : Nat) ≤ sizeLine := by rw [sizeLine_eq]; decide
  have hF : SqF K H a (ns.map V.int) := by
    rcases hS with (h | h) | h
    · rcases hO a with q | ⟨o, xs, q⟩
      · rw [q] at h; cases h
      · rw [q] at h; cases h
    · exact .inl h
    · exact .inr h
  refine ⟨[], [], [.frz (ns.map D.int)], .bl true, S, ⟨rfl, List.nodup_nil, fun n o e => by simp at e⟩, RepL.cons (rep_frz.mpr ⟨by rw [List.length_map]; omega, a, _, rfl, hF, repInts ns⟩) RepL.nil, e, fun v H' m' _ _ r => rep_bl.mp r⟩
theorem walk {l : PySem.W.OpenLaw} {q : Program} {loose : List Str} {XP : (Str → Option Value) → Heap → Prop} {YP : PySem.World → Heap → Prop} {d : DefRec} {K : Params → PySem.W.Frag} (hn : l.most = some 63) (hdf : d.params.defaults = []) (hname : d.name = "law")
    (hY : ∀ (w : PySem.World) (h : Heap), YP w h → (K w.params).In h)
    (F : ∀ (w : PySem.World) (mg : Str → Option Value) (fa : Addr) (h : Heap), (K w.params).In h → h.Ns mainGlobals mg → mg d.name = some (.ref fa) → Tab GG Bs (K w.params) mg) :
    PySem.W.WalkO q loose XP YP l.row.toRowW d [] (fun f vs => PySem.call f vs) := by
  refine L2.walk_ofB (n := 63) (k := 100) (x := "script") (CX := fun _ => CX0) (sp := fun w => spD (K w.params) (evalF Bs 100 21)) hn (by rw [sizeLine_eq]; decide) hdf ⟨rfl, by decide, by decide⟩ hY (fun w mg fa h KX G hmg => ?_) (fun w H a ns hl hb hO hS => sp_law hl hb hO hS) fun _ _ _ _ _ z => z
  have T := F w mg fa h KX G hmg
  rw [hname] at hmg
  obtain ⟨b, h1, h2, h3, sc, hc, f2, fdata, Fn, hm, hb⟩ := T.fns 21 ⟨"law", top 23, ["script", "pool", "world", "kinds", "asked", "cell", "shape", "guard", "answer", "line", "turn"]⟩ rfl
  have e : fa = f2 := by
    have := hmg.symm.trans hm
    cases this
    rfl
  subst e
  refine ⟨fdata, fun s u => ?_, fun base hK hN => ?_⟩
  · obtain ⟨⟨oc, od, kV, doc, pm, an, cdv, ct, osl, rfl, _, _⟩, _⟩ := Fn
    exact .of_eq (bd21 kV doc pm an cdv ct [u] rfl)
  · obtain ⟨f3, fd3, q1, q2, q3, q4⟩ := evalF_ok (P := l.prog) (w := w) (base := base) T 100 21 ⟨"law", top 23, ["script", "pool", "world", "kinds", "asked", "cell", "shape", "guard", "answer", "line", "turn"]⟩ rfl
    have e : fa = f3 := by
      have := hmg.symm.trans q1
      cases this
      rfl
    subst e
    have eq := fun_uniq Fn q2
    subst eq
    exact q4
end K49
open PySem PySem.W PyProof.Rows
set_option maxRecDepth 100000 in
set_option maxHeartbeats 0 in
theorem PySem.Challenge.cw_courtwide_k49_terms_by_lines_holds : PySem.Challenge.rw_courtwide_k49_terms_by_lines.Holds := by
  w_on; o_law; k_head; (case hw => w_witness2)
  k_fill
  refine K49.walk (l := PySem.Challenge.rw_courtwide_k49_terms_by_lines) rfl rfl rfl (fun w h Y => PySem.W.kIn_of Y) ?F
  case F =>
    intro w mg fa h KX G hmg
    refine' K49.tab_mk KX G ?a0 ?l0 ?c0 ?k0 ?a1 ?l1 ?c1 ?k1 ?a2 ?l2 ?c2 ?k2 ?a3 ?l3 ?c3 ?k3 ?a4 ?l4 ?c4 ?k4 ?a5 ?l5 ?c5 ?k5 ?a6 ?l6 ?c6 ?k6 ?a7 ?l7 ?c7 ?k7 ?a8 ?l8 ?c8 ?k8 ?a9 ?l9 ?c9 ?k9 ?a10 ?l10 ?c10 ?k10 ?a11 ?l11 ?c11 ?k11 ?a12 ?l12 ?c12 ?k12 ?a13 ?l13 ?c13 ?k13 ?a14 ?l14 ?c14 ?k14 ?a15 ?l15 ?c15 ?k15 ?a16 ?l16 ?c16 ?k16 ?a17 ?l17 ?c17 ?k17 ?a18 ?l18 ?c18 ?k18 ?a19 ?l19 ?c19 ?k19 ?a20 ?l20 ?c20 ?k20 ?a21 ?l21 ?c21 ?k21 ?z0 ?z1 ?z2 ?z3 ?z4 ?z5 ?z6 ?z7 ?z8 ?z9 ?z10 ?z11 ?z12 ?z13
    (case a0 => k_is); (case l0 => k_is); (case c0 => k_is); (case k0 => k_is)
    (case a1 => k_is); (case l1 => k_is); (case c1 => k_is); (case k1 => k_is)
    (case a2 => k_is); (case l2 => k_is); (case c2 => k_is); (case k2 => k_is)
    (case a3 => k_is); (case l3 => k_is); (case c3 => k_is); (case k3 => k_is)
    (case a4 => k_is); (case l4 => k_is); (case c4 => k_is); (case k4 => k_is)
    (case a5 => k_is); (case l5 => k_is); (case c5 => k_is); (case k5 => k_is)
    (case a6 => k_is); (case l6 => k_is); (case c6 => k_is); (case k6 => k_is)
    (case a7 => k_is); (case l7 => k_is); (case c7 => k_is); (case k7 => k_is)
    (case a8 => k_is); (case l8 => k_is); (case c8 => k_is); (case k8 => k_is)
    (case a9 => k_is); (case l9 => k_is); (case c9 => k_is); (case k9 => k_is)
    (case a10 => k_is); (case l10 => k_is); (case c10 => k_is); (case k10 => k_is)
    (case a11 => k_is); (case l11 => k_is); (case c11 => k_is); (case k11 => k_is)
    (case a12 => k_is); (case l12 => k_is); (case c12 => k_is); (case k12 => k_is)
    (case a13 => k_is); (case l13 => k_is); (case c13 => k_is); (case k13 => k_is)
    (case a14 => k_is); (case l14 => k_is); (case c14 => k_is); (case k14 => k_is)
    (case a15 => k_is); (case l15 => k_is); (case c15 => k_is); (case k15 => k_is)
    (case a16 => k_is); (case l16 => k_is); (case c16 => k_is); (case k16 => k_is)
    (case a17 => k_is); (case l17 => k_is); (case c17 => k_is); (case k17 => k_is)
    (case a18 => k_is); (case l18 => k_is); (case c18 => k_is); (case k18 => k_is)
    (case a19 => k_is); (case l19 => k_is); (case c19 => k_is); (case k19 => k_is)
    (case a20 => k_is); (case l20 => k_is); (case c20 => k_is); (case k20 => k_is)
    (case a21 => k_is); (case l21 => k_is); (case c21 => k_is); (case k21 => k_is)
    (case z0 => k_is); (case z1 => k_is); (case z2 => k_is); (case z3 => k_is); (case z4 => k_is); (case z5 => k_is); (case z6 => k_is); (case z7 => k_is); (case z8 => k_is); (case z9 => k_is); (case z10 => k_is); (case z11 => k_is); (case z12 => k_is); (case z13 => k_is)

