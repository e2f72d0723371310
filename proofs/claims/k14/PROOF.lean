import PyProof.Rows.All
import Wide.All
import OpenK.AllK
import Wide.FinOn
import PyProof.EqAt
import PyProof.EqKinds
import PyProof.TupleCall
import HandS.ForMost
import HandS.ForExc
import HandS.IsInst
import HandS.Walk
import HandS.TryMany
import HandS.Wide
import HandS.Style
import HandS.TupAny
import KE.DataCmp
import KE.DataEq
import KE.DataMinMax
import KE.SortData
import HandS.Text
import HandS.Conv
import HandS.More
import PySem.Challenge.RW_everyfield_k14_motions_of_tiles
set_option Elab.async false
set_option linter.all false
set_option maxRecDepth 100000
set_option maxHeartbeats 4000000
namespace Vl
open PySem PySem.Spec PyProof.Rows L2

/-! ### plain values -/
/-- a value by its content: lists, tuples, tables; frl: a list of the text or a known one; mut n: the n-th shared object -/
inductive D where
  | non | bl (b : Bool) | int (i : Int) | str (x : Str)
  | lst (xs : List D) | tup (xs : List D) | frl (xs : List D)
  | dK (ks : List Key) (xs : List D) | dT (ks : List (List Key)) (xs : List D)
  | mut (n : Nat)
instance : Inhabited D := ⟨.non⟩

/-- what a name holds: nothing known; a value; a list (table) that is this name's alone -/
inductive Slot where
  | un | val (d : D) | own (ds : List D) | ownK (ks : List Key) (ds : List D) | ownT (ks : List (List Key)) (ds : List D)
/-- a shared object -/
inductive MO where
  | lst (ds : List D) | dK (ks : List Key) (ds : List D) | dT (ks : List (List Key)) (ds : List D)
structure DS where
  env : List Slot
  mem : List MO
inductive R (α : Type) where
  | ok (a : α) (s : DS) | err (c : String) (s : DS) | stuck
abbrev M (α : Type) := DS → R α
def R.bind {α β : Type} : R α → (α → DS → R β) → R β
  | .ok a s, g => g a s
  | .err c s, _ => .err c s
  | .stuck, _ => .stuck
def bnd {α β : Type} (f : M α) (g : α → M β) : M β := fun s => (f s).bind fun a s' => g a s'
def rtn {α : Type} (a : α) : M α := fun s => .ok a s
def opt {α : Type} : Option α → M α
  | some a => rtn a
  | none => fun _ => .stuck

/-! ### how a value stands in the heap -/
section
variable (K : PySem.W.Frag) (S : Hp) (ma : List Addr)
mutual
inductive Rep : D → V → Prop
  | non : Rep .non .non
  | bl (b : Bool) : Rep (.bl b) (.bl b)
  | int (i : Int) : Rep (.int i) (.int i)
  | str (x : Str) : Rep (.str x) (.str x)
  | lst {a : Addr} {ds : List D} {vs : List V} : S a = some (.lst vs) → RepL ds vs → Rep (.lst ds) (.ref a)
  | frl {a : Addr} {ds : List D} {vs : List V} : SqL K S a vs → RepL ds vs → Rep (.frl ds) (.ref a)
  | tup {a : Addr} {ds : List D} {vs : List V} : SqT K S a vs → RepL ds vs → Rep (.tup ds) (.ref a)
  | dK {a : Addr} {ks : List Key} {ds : List D} {vs : List V} : Rd S a (.dK (ks.zip vs)) → ks.length = vs.length → RepL ds vs → Rep (.dK ks ds) (.ref a)
  | dT {a : Addr} {ks : List (List Key)} {ds : List D} {vs : List V} : Rd S a (.dT (ks.zip vs)) → ks.length = vs.length → RepL ds vs → Rep (.dT ks ds) (.ref a)
  | mut {n : Nat} {a : Addr} : ma[n]? = some a → Rep (.mut n) (.ref a)
inductive RepL : List D → List V → Prop
  | nil : RepL [] []
  | cons {d : D} {v : V} {ds : List D} {vs : List V} : Rep d v → RepL ds vs → RepL (d :: ds) (v :: vs)
end
end
/-- later: what stood stands, more shared objects -/
structure Ext (ma : List Addr) (S : Hp) (ma' : List Addr) (S' : Hp) : Prop where
  same : Same S S'
  pre : ∃ t, ma' = ma ++ t
theorem Ext.refl {ma : List Addr} {S : Hp} : Ext ma S ma S := ⟨Same.refl _, [], by simp⟩
theorem Ext.trans {ma ma1 ma2 : List Addr} {S S1 S2 : Hp} (a : Ext ma S ma1 S1) (b : Ext ma1 S1 ma2 S2) : Ext ma S ma2 S2 := by
  obtain ⟨a1, t, rfl⟩ := a
  obtain ⟨b1, u, rfl⟩ := b
  exact ⟨a1.trans b1, t ++ u, by simp⟩
theorem Ext.get {ma ma1 : List Addr} {S S1 : Hp} (a : Ext ma S ma1 S1) {n : Nat} {x : Addr} (h : ma[n]? = some x) : ma1[n]? = some x := by
  obtain ⟨_, t, rfl⟩ := a
  rw [List.getElem?_append_left (List.getElem?_eq_some_iff.mp h).1]
  exact h
theorem Ext.mem {ma ma1 : List Addr} {S S1 : Hp} (a : Ext ma S ma1 S1) {x : Addr} (h : x ∈ ma) : x ∈ ma1 := by
  obtain ⟨_, t, rfl⟩ := a
  exact List.mem_append_left _ h
theorem seqT {K : PySem.W.Frag} {H H' : Hp} {a : Addr} {xs : List V} (e : Same H H') (h : SqT K H a xs) : SqT K H' a xs := by
  rcases h with (h | ⟨o, h⟩) | h
  · exact .inl (.inl (e _ _ h))
  · exact .inl (.inr ⟨o, e _ _ h⟩)
  · exact .inr h
theorem rdMono {H H' : Hp} {a : Addr} {u : HO} (e : Same H H') (h : Rd H a u) : Rd H' a u := h.elim (fun q => .inl (e _ _ q)) fun ⟨o, q⟩ => .inr ⟨o, e _ _ q⟩
section
variable {K : PySem.W.Frag} {S S1 : Hp} {ma ma1 : List Addr}
mutual
theorem Rep.mono (e : Ext ma S ma1 S1) : ∀ {d : D} {v : V}, Rep K S ma d v → Rep K S1 ma1 d v
  | _, _, .non => .non
  | _, _, .bl b => .bl b
  | _, _, .int i => .int i
  | _, _, .str x => .str x
  | _, _, .lst h r => .lst (e.same _ _ h) (RepL.mono e r)
  | _, _, .frl h r => .frl (e.same.seq h) (RepL.mono e r)
  | _, _, .tup h r => .tup (seqT e.same h) (RepL.mono e r)
  | _, _, .dK h l r => .dK (rdMono e.same h) l (RepL.mono e r)
  | _, _, .dT h l r => .dT (rdMono e.same h) l (RepL.mono e r)
  | _, _, .mut h => .mut (e.get h)
theorem RepL.mono (e : Ext ma S ma1 S1) : ∀ {ds : List D} {vs : List V}, RepL K S ma ds vs → RepL K S1 ma1 ds vs
  | _, _, .nil => .nil
  | _, _, .cons h r => .cons (Rep.mono e h) (RepL.mono e r)
end
theorem RepL.length {ds : List D} {vs : List V} (h : RepL K S ma ds vs) : ds.length = vs.length := by
  induction ds generalizing vs with
  | nil => cases h; rfl
  | cons d ds ih => cases h with | cons a b => simp [ih b]
theorem RepL.get : ∀ {ds : List D} {vs : List V} {i : Nat} {d : D}, RepL K S ma ds vs → ds[i]? = some d → ∃ v, vs[i]? = some v ∧ Rep K S ma d v
  | _, _, 0, _, .cons h _, e => by simp at e; subst e; exact ⟨_, rfl, h⟩
  | _, _, i + 1, _, .cons _ r, e => by
    obtain ⟨v, h1, h2⟩ := RepL.get (i := i) r (by simpa using e)
    exact ⟨v, by simpa using h1, h2⟩
theorem RepL.get' : ∀ {ds : List D} {vs : List V} {i : Nat} {v : V}, RepL K S ma ds vs → vs[i]? = some v → ∃ d, ds[i]? = some d ∧ Rep K S ma d v
  | _, _, 0, _, .cons h _, e => by simp at e; subst e; exact ⟨_, rfl, h⟩
  | _, _, i + 1, _, .cons _ r, e => by
    obtain ⟨v, h1, h2⟩ := RepL.get' (i := i) r (by simpa using e)
    exact ⟨v, by simpa using h1, h2⟩
theorem RepL.app : ∀ {ds es : List D} {vs us : List V}, RepL K S ma ds vs → RepL K S ma es us → RepL K S ma (ds ++ es) (vs ++ us)
  | _, _, _, _, .nil, r => r
  | _, _, _, _, .cons h r, q => .cons h (RepL.app r q)
theorem RepL.take : ∀ {ds : List D} {vs : List V} (n : Nat), RepL K S ma ds vs → RepL K S ma (ds.take n) (vs.take n)
  | _, _, 0, _ => .nil
  | _, _, _ + 1, .nil => .nil
  | _, _, n + 1, .cons h r => .cons h (RepL.take n r)
theorem RepL.drop : ∀ {ds : List D} {vs : List V} (n : Nat), RepL K S ma ds vs → RepL K S ma (ds.drop n) (vs.drop n)
  | _, _, 0, r => r
  | _, _, _ + 1, .nil => .nil
  | _, _, n + 1, .cons _ r => RepL.drop n r
theorem RepL.set {d : D} {v : V} (q : Rep K S ma d v) : ∀ {ds : List D} {vs : List V} (n : Nat), RepL K S ma ds vs → RepL K S ma (ds.set n d) (vs.set n v)
  | _, _, _, .nil => .nil
  | _, _, 0, .cons _ r => .cons q r
  | _, _, n + 1, .cons h r => .cons h (RepL.set q n r)
theorem RepL.rev : ∀ {ds : List D} {vs : List V}, RepL K S ma ds vs → RepL K S ma ds.reverse vs.reverse
  | _, _, .nil => .nil
  | _, _, .cons h r => by
    rw [List.reverse_cons, List.reverse_cons]
    exact RepL.app (RepL.rev r) (.cons h .nil)
theorem RepL.none {ds : List D} {vs : List V} {i : Nat} (h : RepL K S ma ds vs) (e : ds[i]? = Option.none) : vs[i]? = Option.none := by
  rw [List.getElem?_eq_none_iff] at e ⊢
  rw [← h.length]
  exact e
end

/-! ### the state -/
def Slot.isOwn : Slot → Bool
  | .un => false
  | .val _ => false
  | _ => true
def Slot.ho (vs : List V) : Slot → HO
  | .ownK ks _ => .dK (ks.zip vs)
  | .ownT ks _ => .dT (ks.zip vs)
  | _ => .lst vs
def Slot.ds : Slot → List D
  | .own ds => ds
  | .ownK _ ds => ds
  | .ownT _ ds => ds
  | _ => []
def Slot.fit : Slot → Prop
  | .ownK ks ds => ks.length = ds.length
  | .ownT ks ds => ks.length = ds.length
  | _ => True
def MO.ho (vs : List V) : MO → HO
  | .dK ks _ => .dK (ks.zip vs)
  | .dT ks _ => .dT (ks.zip vs)
  | .lst _ => .lst vs
def MO.ds : MO → List D
  | .lst ds => ds
  | .dK _ ds => ds
  | .dT _ ds => ds
def MO.fit : MO → Prop
  | .dK ks ds => ks.length = ds.length
  | .dT ks ds => ks.length = ds.length
  | .lst _ => True

/-- a free standing address: known to nobody but us -/
structure Fre (F : Hp) (ma : List Addr) (S : Hp) (σ : L2.St) (env : List Slot) (p : Addr) : Prop where
  s : S p = none
  f : F p = none
  m : p ∉ ma
  o : ∀ (j : Nat) (s : Slot), env[j]? = some s → s.isOwn = true → σ[j]? ≠ some (some (V.ref p))
/-- the state: F what is kept around, S what is known by values, H the heap -/
structure Cf (K : PySem.W.Frag) (F : Hp) (ma : List Addr) (S H : Hp) (σ : L2.St) (ds : DS) : Prop where
  sub : Same S H
  fr : Same F H
  dis : ∀ b o, F b = some o → S b = none
  len : σ.length = ds.env.length
  val : ∀ (i : Nat) (d : D), ds.env[i]? = some (Slot.val d) → ∃ v, σ[i]? = some (some v) ∧ Rep K S ma d v
  own : ∀ (i : Nat) (s : Slot), ds.env[i]? = some s → s.isOwn = true → ∃ (p : Addr) (vs : List V), σ[i]? = some (some (V.ref p)) ∧ H p = some (s.ho vs) ∧ S p = none ∧ F p = none ∧ p ∉ ma ∧ RepL K S ma s.ds vs ∧ s.fit
  apart : ∀ (i j : Nat) (s u : Slot) (p : Addr), ds.env[i]? = some s → ds.env[j]? = some u → s.isOwn = true → u.isOwn = true → σ[i]? = some (some (V.ref p)) → σ[j]? = some (some (V.ref p)) → i = j
  mlen : ma.length = ds.mem.length
  mem : ∀ (n : Nat) (a : Addr) (o : MO), ma[n]? = some a → ds.mem[n]? = some o → ∃ vs : List V, H a = some (o.ho vs) ∧ S a = none ∧ F a = none ∧ RepL K S ma o.ds vs ∧ o.fit
  nd : ma.Nodup

section
variable {K : PySem.W.Frag} {F : Hp} {ma : List Addr} {S H : Hp} {σ : L2.St} {ds : DS}
theorem Cf.mfree (c : Cf K F ma S H σ ds) {a : Addr} (h : a ∈ ma) : S a = none ∧ F a = none ∧ ∃ o, H a = some o := by
  obtain ⟨n, hn, e⟩ := List.getElem_of_mem h
  have h1 : ma[n]? = some a := by rw [List.getElem?_eq_getElem hn, e]
  have h2 : n < ds.mem.length := by rw [← c.mlen]; exact hn
  obtain ⟨vs, q, s, f, _⟩ := c.mem n a ds.mem[n] h1 (List.getElem?_eq_getElem h2)
  exact ⟨s, f, _, q⟩
/-- a new address is free -/
theorem Cf.fre (c : Cf K F ma S H σ ds) {p : Addr} (h : H p = none) : Fre F ma S σ ds.env p where
  s := c.sub.free h
  f := c.fr.free h
  m := fun q => by
    obtain ⟨_, _, o, e⟩ := c.mfree q
    rw [h] at e; cases e
  o := fun j s e1 e2 e3 => by
    obtain ⟨q, vs, e4, e5, _⟩ := c.own j s e1 e2
    rw [e3] at e4
    cases e4
    rw [h] at e5; cases e5
/-- a new object is laid -/
theorem Cf.grow (c : Cf K F ma S H σ ds) {p : Addr} (o : HO) (h : H p = none) : Cf K F ma S (upd H p o) σ ds where
  sub := fun b u e => by
    have := c.sub b u e
    rw [upd_ne (ne_of_none this h)]; exact this
  fr := fun b u e => by
    have := c.fr b u e
    rw [upd_ne (ne_of_none this h)]; exact this
  dis := c.dis
  len := c.len
  val := c.val
  own := fun i s e1 e2 => by
    obtain ⟨q, vs, e3, e4, r⟩ := c.own i s e1 e2
    exact ⟨q, vs, e3, by rw [upd_ne (ne_of_none e4 h)]; exact e4, r⟩
  apart := c.apart
  mlen := c.mlen
  mem := fun n a o e1 e2 => by
    obtain ⟨vs, e3, r⟩ := c.mem n a o e1 e2
    exact ⟨vs, by rw [upd_ne (ne_of_none e3 h)]; exact e3, r⟩
  nd := c.nd
/-- a free object becomes known -/
theorem Cf.adopt (c : Cf K F ma S H σ ds) {p : Addr} {o : HO} (h : H p = some o) (f : Fre F ma S σ ds.env p) : Cf K F ma (upd S p o) H σ ds ∧ Ext ma S ma (upd S p o) := by
  have sm : Same S (upd S p o) := fun b u e => by rw [upd_ne (ne_of_none e f.s)]; exact e
  have ex : Ext ma S ma (upd S p o) := ⟨sm, [], by simp⟩
  refine ⟨⟨fun b u e => ?_, c.fr, fun b u e => ?_, c.len, fun i d e => ?_, fun i s e1 e2 => ?_, c.apart, c.mlen, fun n a u e1 e2 => ?_, c.nd⟩, ex⟩
  · by_cases hb : b = p
    · subst hb; rw [upd_same] at e; cases e; exact h
    · rw [upd_ne hb] at e; exact c.sub b u e
  · by_cases hb : b = p
    · subst hb; rw [f.f] at e; cases e
    · rw [upd_ne hb]; exact c.dis b u e
  · obtain ⟨v, e1, r⟩ := c.val i d e
    exact ⟨v, e1, r.mono ex⟩
  · obtain ⟨q, vs, e3, e4, e5, e6, e7, e8, e9⟩ := c.own i s e1 e2
    have hq : q ≠ p := fun z => f.o i s e1 e2 (by rw [← z]; exact e3)
    exact ⟨q, vs, e3, e4, by rw [upd_ne hq]; exact e5, e6, e7, e8.mono ex, e9⟩
  · obtain ⟨vs, e3, e4, e5, e6, e7⟩ := c.mem n a u e1 e2
    have hq : a ≠ p := fun z => f.m (by rw [← z]; exact List.mem_of_getElem? e1)
    exact ⟨vs, e3, by rw [upd_ne hq]; exact e4, e5, e6.mono ex, e7⟩
/-- a new known object -/
theorem Cf.lay (c : Cf K F ma S H σ ds) {p : Addr} (o : HO) (h : H p = none) : Cf K F ma (upd S p o) (upd H p o) σ ds ∧ Ext ma S ma (upd S p o) :=
  (c.grow o h).adopt upd_same (c.fre h)

theorem get_set {α : Type} {l : List α} {i j : Nat} {x y : α} (h : (l.set i x)[j]? = some y) : (i = j ∧ y = x) ∨ (i ≠ j ∧ l[j]? = some y) := by
  by_cases e : i = j
  · subst e
    by_cases hl : i < l.length
    · rw [List.getElem?_set_self hl] at h; exact .inl ⟨rfl, (Option.some.inj h).symm⟩
    · rw [List.getElem?_eq_none (by simpa using hl)] at h; cases h
  · rw [List.getElem?_set_ne e] at h
    exact .inr ⟨e, h⟩
/-- a name gets a value -/
theorem Cf.put (c : Cf K F ma S H σ ds) {d : D} {v : V} (r : Rep K S ma d v) (i : Nat) : Cf K F ma S H (σ.set i (some v)) { ds with env := ds.env.set i (.val d) } where
  sub := c.sub
  fr := c.fr
  dis := c.dis
  len := by simp [c.len]
  val := fun j e h => by
    have h : (ds.env.set i (.val d))[j]? = some (.val e) := h
    have hj : j < (ds.env.set i (.val d)).length := (List.getElem?_eq_some_iff.mp h).1
    rcases get_set h with ⟨rfl, q⟩ | ⟨hne, q⟩
    · cases q
      exact ⟨v, by rw [List.getElem?_set_self (by rw [c.len]; simpa using hj)], r⟩
    · obtain ⟨w, e1, e2⟩ := c.val j e q
      exact ⟨w, by rw [List.getElem?_set_ne hne]; exact e1, e2⟩
  own := fun j s h1 h2 => by
    rcases get_set h1 with ⟨rfl, q⟩ | ⟨hne, q⟩
    · subst q; cases h2
    · obtain ⟨p, vs, e1, e2⟩ := c.own j s q h2
      exact ⟨p, vs, by rw [List.getElem?_set_ne hne]; exact e1, e2⟩
  apart := fun a b s u p h1 h2 h3 h4 h5 h6 => by
    rcases get_set h1 with ⟨rfl, q⟩ | ⟨hne, q⟩
    · subst q; cases h3
    · rcases get_set h2 with ⟨rfl, q'⟩ | ⟨hne', q'⟩
      · subst q'; cases h4
      · rw [List.getElem?_set_ne hne] at h5
        rw [List.getElem?_set_ne hne'] at h6
        exact c.apart a b s u p q q' h3 h4 h5 h6
  mlen := c.mlen
  mem := c.mem
  nd := c.nd
/-- a name is forgotten -/
theorem Cf.drop (c : Cf K F ma S H σ ds) (i : Nat) (o : Option V) : Cf K F ma S H (σ.set i o) { ds with env := ds.env.set i .un } where
  sub := c.sub
  fr := c.fr
  dis := c.dis
  len := by simp [c.len]
  val := fun j e h => by
    rcases get_set h with ⟨rfl, q⟩ | ⟨hne, q⟩
    · cases q
    · obtain ⟨w, e1, e2⟩ := c.val j e q
      exact ⟨w, by rw [List.getElem?_set_ne hne]; exact e1, e2⟩
  own := fun j s h1 h2 => by
    rcases get_set h1 with ⟨rfl, q⟩ | ⟨hne, q⟩
    · subst q; cases h2
    · obtain ⟨p, vs, e1, e2⟩ := c.own j s q h2
      exact ⟨p, vs, by rw [List.getElem?_set_ne hne]; exact e1, e2⟩
  apart := fun a b s u p h1 h2 h3 h4 h5 h6 => by
    rcases get_set h1 with ⟨rfl, q⟩ | ⟨hne, q⟩
    · subst q; cases h3
    · rcases get_set h2 with ⟨rfl, q'⟩ | ⟨hne', q'⟩
      · subst q'; cases h4
      · rw [List.getElem?_set_ne hne] at h5
        rw [List.getElem?_set_ne hne'] at h6
        exact c.apart a b s u p q q' h3 h4 h5 h6
  mlen := c.mlen
  mem := c.mem
  nd := c.nd
/-- a name gets a list (table) of its own -/
theorem Cf.putOwn (c : Cf K F ma S H σ ds) {p : Addr} {s : Slot} {vs : List V} (hs : s.isOwn = true) (h : H p = some (s.ho vs)) (f : Fre F ma S σ ds.env p) (r : RepL K S ma s.ds vs) (hf : s.fit) (i : Nat) :
    Cf K F ma S H (σ.set i (some (.ref p))) { ds with env := ds.env.set i s } where
  sub := c.sub
  fr := c.fr
  dis := c.dis
  len := by simp [c.len]
  val := fun j e h => by
    rcases get_set h with ⟨rfl, q⟩ | ⟨hne, q⟩
    · subst q; cases hs
    · obtain ⟨w, e1, e2⟩ := c.val j e q
      exact ⟨w, by rw [List.getElem?_set_ne hne]; exact e1, e2⟩
  own := fun j u h1 h2 => by
    have h1 : (ds.env.set i s)[j]? = some u := h1
    have hj : j < (ds.env.set i s).length := (List.getElem?_eq_some_iff.mp h1).1
    rcases get_set h1 with ⟨rfl, q⟩ | ⟨hne, q⟩
    · subst q
      exact ⟨p, vs, by rw [List.getElem?_set_self (by rw [c.len]; simpa using hj)], h, f.s, f.f, f.m, r, hf⟩
    · obtain ⟨p, vs, e1, e2⟩ := c.own j u q h2
      exact ⟨p, vs, by rw [List.getElem?_set_ne hne]; exact e1, e2⟩
  apart := fun a b t u q h1 h2 h3 h4 h5 h6 => by
    have h1 : (ds.env.set i s)[a]? = some t := h1
    have h2 : (ds.env.set i s)[b]? = some u := h2
    have ha : a < (ds.env.set i s).length := (List.getElem?_eq_some_iff.mp h1).1
    have hb : b < (ds.env.set i s).length := (List.getElem?_eq_some_iff.mp h2).1
    rcases get_set h1 with ⟨rfl, q1⟩ | ⟨hne, q1⟩
    · rcases get_set h2 with ⟨rfl, q2⟩ | ⟨hne', q2⟩
      · rfl
      · rw [List.getElem?_set_self (by rw [c.len]; simpa using ha)] at h5
        cases h5
        rw [List.getElem?_set_ne hne'] at h6
        exact absurd h6 (f.o b u q2 h4)
    · rcases get_set h2 with ⟨rfl, q2⟩ | ⟨hne', q2⟩
      · rw [List.getElem?_set_self (by rw [c.len]; simpa using hb)] at h6
        cases h6
        rw [List.getElem?_set_ne hne] at h5
        exact absurd h5 (f.o a t q1 h3)
      · rw [List.getElem?_set_ne hne] at h5
        rw [List.getElem?_set_ne hne'] at h6
        exact c.apart a b t u q q1 q2 h3 h4 h5 h6
  mlen := c.mlen
  mem := c.mem
  nd := c.nd
/-- the value of an own object -/
def Slot.shut : Slot → D
  | .own ds => .lst ds
  | .ownK ks ds => .dK ks ds
  | .ownT ks ds => .dT ks ds
  | .val d => d
  | .un => .non
/-- a name's own object becomes known -/
theorem Cf.share (c : Cf K F ma S H σ ds) {i : Nat} {s : Slot} (h : ds.env[i]? = some s) (hs : s.isOwn = true) :
    ∃ S' v, σ[i]? = some (some v) ∧ Rep K S' ma s.shut v ∧ Cf K F ma S' H σ { ds with env := ds.env.set i (.val s.shut) } ∧ Ext ma S ma S' := by
  obtain ⟨p, vs, e1, e2, e3, e4, e5, e6, e7⟩ := c.own i s h hs
  have c1 := (c.drop i (some (.ref p)))
  have hi : i < σ.length := (List.getElem?_eq_some_iff.mp e1).1
  have es : σ.set i (some (.ref p)) = σ := by
    refine List.ext_getElem? fun j => ?_
    by_cases hj : i = j
    · subst hj; rw [List.getElem?_set_self hi, e1]
    · rw [List.getElem?_set_ne hj]
  rw [es] at c1
  have f : Fre F ma S σ (ds.env.set i .un) p := ⟨e3, e4, e5, fun j u h1 h2 h3 => by
    rcases get_set h1 with ⟨rfl, q⟩ | ⟨hne, q⟩
    · subst q; cases h2
    · exact hne (c.apart i j s u p h q hs h2 e1 h3)⟩
  obtain ⟨c2, ex⟩ := c1.adopt e2 f
  have r : Rep K (upd S p (s.ho vs)) ma s.shut (.ref p) := by
    cases s with
    | un => cases hs
    | val d => cases hs
    | own xs => exact .lst upd_same (e6.mono ex)
    | ownK ks xs => exact .dK (.inl upd_same) (by rw [← e6.length]; exact e7) (e6.mono ex)
    | ownT ks xs => exact .dT (.inl upd_same) (by rw [← e6.length]; exact e7) (e6.mono ex)
  have c3 := c2.put r i
  rw [es] at c3
  refine ⟨_, _, e1, r, ?_, ex⟩
  have e8 : (ds.env.set i Slot.un).set i (.val s.shut) = ds.env.set i (.val s.shut) := by simp
  have c3' : Cf K F ma (upd S p (s.ho vs)) H σ { ds with env := (ds.env.set i Slot.un).set i (.val s.shut) } := c3
  rw [e8] at c3'
  exact c3'
/-- an own object is written -/
theorem Cf.ownWrite (c : Cf K F ma S H σ ds) {i : Nat} {s u : Slot} {p : Addr} {vs : List V} (h : ds.env[i]? = some s) (hs : s.isOwn = true) (hp : σ[i]? = some (some (.ref p))) (hu : u.isOwn = true) (r : RepL K S ma u.ds vs) (hf : u.fit) :
    Cf K F ma S (upd H p (u.ho vs)) σ { ds with env := ds.env.set i u } := by
  obtain ⟨p', vs', e1, e2, e3, e4, e5, e6, e7⟩ := c.own i s h hs
  rw [hp] at e1; cases e1
  have hi : i < σ.length := (List.getElem?_eq_some_iff.mp hp).1
  have es : σ.set i (some (.ref p)) = σ := by
    refine List.ext_getElem? fun j => ?_
    by_cases hj : i = j
    · subst hj; rw [List.getElem?_set_self hi, hp]
    · rw [List.getElem?_set_ne hj]
  have c1 := c.drop i (some (.ref p))
  rw [es] at c1
  have f : Fre F ma S σ (ds.env.set i .un) p := ⟨e3, e4, e5, fun j w h1 h2 h3 => by
    rcases get_set h1 with ⟨rfl, q⟩ | ⟨hne, q⟩
    · subst q; cases h2
    · exact hne (c.apart i j s w p h q hs h2 hp h3)⟩
  have c2 : Cf K F ma S (upd H p (u.ho vs)) σ { ds with env := ds.env.set i .un } :=
    ⟨fun b o e => by
        by_cases hb : b = p
        · subst hb; rw [e3] at e; cases e
        · rw [upd_ne hb]; exact c1.sub b o e,
      fun b o e => by
        by_cases hb : b = p
        · subst hb; rw [e4] at e; cases e
        · rw [upd_ne hb]; exact c1.fr b o e, c1.dis, c1.len, c1.val,
      fun j w h1 h2 => by
        obtain ⟨q, ws, z1, z2, z3⟩ := c1.own j w h1 h2
        have hq : q ≠ p := fun z => f.o j w h1 h2 (by rw [← z]; exact z1)
        exact ⟨q, ws, z1, by rw [upd_ne hq]; exact z2, z3⟩, c1.apart, c1.mlen,
      fun n a o z1 z2 => by
        obtain ⟨ws, z3, z4⟩ := c1.mem n a o z1 z2
        have hq : a ≠ p := fun z => e5 (by rw [← z]; exact List.mem_of_getElem? z1)
        exact ⟨ws, by rw [upd_ne hq]; exact z3, z4⟩, c1.nd⟩
  have c3 := c2.putOwn hu upd_same f r hf i
  rw [es] at c3
  have e8 : (ds.env.set i Slot.un).set i u = ds.env.set i u := by simp
  have c3' : Cf K F ma S (upd H p (u.ho vs)) σ { ds with env := (ds.env.set i Slot.un).set i u } := c3
  rw [e8] at c3'
  exact c3'
/-- a shared object is written -/
theorem Cf.memWrite (c : Cf K F ma S H σ ds) {n : Nat} {a : Addr} {o : MO} {vs : List V} (h : ma[n]? = some a) (r : RepL K S ma o.ds vs) (hf : o.fit) : Cf K F ma S (upd H a (o.ho vs)) σ { ds with mem := ds.mem.set n o } := by
  have hm : a ∈ ma := List.mem_of_getElem? h
  obtain ⟨e1, e2, _⟩ := c.mfree hm
  refine ⟨fun b u e => ?_, fun b u e => ?_, c.dis, c.len, c.val, fun j w h1 h2 => ?_, c.apart, by simp [c.mlen], fun k b u z1 z2 => ?_, c.nd⟩
  · by_cases hb : b = a
    · subst hb; rw [e1] at e; cases e
    · rw [upd_ne hb]; exact c.sub b u e
  · by_cases hb : b = a
    · subst hb; rw [e2] at e; cases e
    · rw [upd_ne hb]; exact c.fr b u e
  · obtain ⟨q, ws, z1, z2, z3, z4, z5, z6⟩ := c.own j w h1 h2
    have hq : q ≠ a := fun z => z5 (by rw [z]; exact hm)
    exact ⟨q, ws, z1, by rw [upd_ne hq]; exact z2, z3, z4, z5, z6⟩
  · have z2 : (ds.mem.set n o)[k]? = some u := z2
    by_cases hk : n = k
    · subst hk
      rw [h] at z1; cases z1
      have hn : n < ds.mem.length := by rw [← c.mlen]; exact (List.getElem?_eq_some_iff.mp h).1
      rw [List.getElem?_set_self hn] at z2
      cases z2
      exact ⟨vs, upd_same, e1, e2, r, hf⟩
    · rw [List.getElem?_set_ne hk] at z2
      obtain ⟨ws, z3, z4⟩ := c.mem k b u z1 z2
      have hb : b ≠ a := fun z => by
        subst z
        have i1 := (List.getElem?_eq_some_iff.mp h)
        have i2 := (List.getElem?_eq_some_iff.mp z1)
        obtain ⟨l1, g1⟩ := i1
        obtain ⟨l2, g2⟩ := i2
        exact hk ((List.getElem_inj c.nd).mp (g1.trans g2.symm))
      exact ⟨ws, by rw [upd_ne hb]; exact z3, z4⟩
/-- a free object becomes shared -/
theorem Cf.memNew (c : Cf K F ma S H σ ds) {a : Addr} {o : MO} {vs : List V} (h : H a = some (o.ho vs)) (f : Fre F ma S σ ds.env a) (r : RepL K S ma o.ds vs) (hf : o.fit) :
    Cf K F (ma ++ [a]) S H σ { ds with mem := ds.mem ++ [o] } ∧ Ext ma S (ma ++ [a]) S := by
  have ex : Ext ma S (ma ++ [a]) S := ⟨Same.refl _, [a], rfl⟩
  refine ⟨⟨c.sub, c.fr, c.dis, c.len, fun i d e => ?_, fun i s e1 e2 => ?_, c.apart, by simp [c.mlen], fun n b u z1 z2 => ?_, ?_⟩, ex⟩
  · obtain ⟨v, e1, r⟩ := c.val i d e
    exact ⟨v, e1, r.mono ex⟩
  · obtain ⟨q, ws, z1, z2, z3, z4, z5, z6, z7⟩ := c.own i s e1 e2
    have hq : q ≠ a := fun z => f.o i s e1 e2 (by rw [← z]; exact z1)
    exact ⟨q, ws, z1, z2, z3, z4, by simp [z5, hq], z6.mono ex, z7⟩
  · have z2 : (ds.mem ++ [o])[n]? = some u := z2
    have hl := c.mlen
    by_cases hn : n < ma.length
    · rw [List.getElem?_append_left hn] at z1
      rw [List.getElem?_append_left (by omega)] at z2
      obtain ⟨ws, z3, z4, z5, z6, z7⟩ := c.mem n b u z1 z2
      exact ⟨ws, z3, z4, z5, z6.mono ex, z7⟩
    · have hn2 : n < (ma ++ [a]).length := (List.getElem?_eq_some_iff.mp z1).1
      have hn3 : n = ma.length := by simp at hn2; omega
      subst hn3
      simp at z1
      subst z1
      rw [hl] at z2
      simp at z2
      subst z2
      exact ⟨vs, h, f.s, f.f, r.mono ex, hf⟩
  · rw [List.nodup_append]
    refine ⟨c.nd, by simp, fun x hx y hy => ?_⟩
    simp at hy
    subst hy
    exact fun z => f.m (by rw [← z]; exact hx)
/-- the heap around a call -/
def around (S H : Hp) (ma : List Addr) : Hp := fun b => if (S b).isSome = true ∨ b ∈ ma then none else H b
theorem around_some {b : Addr} {o : HO} (h : around S H ma b = some o) : S b = none ∧ b ∉ ma ∧ H b = some o := by
  unfold around at h
  split at h
  · cases h
  · rename_i z
    simp only [not_or] at z
    exact ⟨by simpa using z.1, z.2, h⟩
theorem around_of {b : Addr} {o : HO} (h1 : S b = none) (h2 : b ∉ ma) (h : H b = some o) : around S H ma b = some o := by
  unfold around
  rw [if_neg (by simp [h1, h2])]
  exact h
/-- what a callee finds -/
theorem Cf.toCall (c : Cf K F ma S H σ ds) {xs : List D} {vs : List V} (r : RepL K S ma xs vs) : Cf K (around S H ma) ma S H (vs.map some) ⟨xs.map .val, ds.mem⟩ where
  sub := c.sub
  fr := fun b o h => (around_some h).2.2
  dis := fun b o h => (around_some h).1
  len := by simp [r.length]
  val := fun i d e => by
    have e : (xs.map Slot.val)[i]? = some (.val d) := e
    rw [List.getElem?_map] at e
    cases q : xs[i]? with
    | none => rw [q] at e; cases e
    | some x =>
      rw [q] at e
      simp only [Option.map_some, Option.some.injEq, Slot.val.injEq] at e
      subst e
      obtain ⟨v, h1, h2⟩ := r.get q
      exact ⟨v, by rw [List.getElem?_map, h1]; rfl, h2⟩
  own := fun i s e h => by
    have e : (xs.map Slot.val)[i]? = some s := e
    rw [List.getElem?_map] at e
    cases q : xs[i]? with
    | none => rw [q] at e; cases e
    | some x => rw [q] at e; cases e; cases h
  apart := fun i j s u p e _ h => by
    have e : (xs.map Slot.val)[i]? = some s := e
    rw [List.getElem?_map] at e
    cases q : xs[i]? with
    | none => rw [q] at e; cases e
    | some x => rw [q] at e; cases e; cases h
  mlen := c.mlen
  mem := fun n a o e1 e2 => by
    obtain ⟨ws, z1, z2, z3, z4⟩ := c.mem n a o e1 e2
    refine ⟨ws, z1, z2, ?_, z4⟩
    unfold around
    rw [if_pos (.inr (List.mem_of_getElem? e1))]
  nd := c.nd
/-- behind the call -/
theorem Cf.ofCall (c : Cf K F ma S H σ ds) {ma' : List Addr} {S' H' : Hp} {σ' : L2.St} {ds' : DS} (e : Ext ma S ma' S') (q : Cf K (around S H ma) ma' S' H' σ' ds') : Cf K F ma' S' H' σ { ds with mem := ds'.mem } where
  sub := q.sub
  fr := fun b o h => q.fr b o (around_of (c.dis b o h) (fun z => by rw [(c.mfree z).2.1] at h; cases h) (c.fr b o h))
  dis := fun b o h => q.dis b o (around_of (c.dis b o h) (fun z => by rw [(c.mfree z).2.1] at h; cases h) (c.fr b o h))
  len := c.len
  val := fun i d h => by
    obtain ⟨v, h1, h2⟩ := c.val i d h
    exact ⟨v, h1, h2.mono e⟩
  own := fun i s h1 h2 => by
    obtain ⟨p, vs, z1, z2, z3, z4, z5, z6, z7⟩ := c.own i s h1 h2
    have za := around_of z3 z5 z2
    exact ⟨p, vs, z1, q.fr _ _ za, q.dis _ _ za, z4, (fun z => by rw [(q.mfree z).2.1] at za; cases za), z6.mono e, z7⟩
  apart := c.apart
  mlen := q.mlen
  mem := fun n a o h1 h2 => by
    obtain ⟨vs, z1, z2, z3, z4⟩ := q.mem n a o h1 h2
    refine ⟨vs, z1, z2, ?_, z4⟩
    cases hF : F a with
    | none => rfl
    | some u =>
      have hz := around_of (c.dis a u hF) (fun z => by rw [(c.mfree z).2.1] at hF; cases hF) (c.fr a u hF)
      rw [z3] at hz; cases hz
  nd := q.nd
end
end Vl
namespace Vl
open PySem PySem.Spec PyProof.Rows L2

/-! ### contexts -/
/-- what the whole program shares; exc: the classes of errors by their names -/
structure Bs where
  P : Program
  w : World
  K : PySem.W.Frag
  mg : Str → Option Value
  base : Heap
  exc : String → Value
structure SC where
  B : Bs
  N : List Str
  sc : Scope
  k : Nat
  calm : Bool
  isdef : Bool
  fnc : Str → Bool
structure Ok (c : SC) (X : Cx) (W : WX) : Prop where
  eq : ∃ exc k isdef fnc, c = ⟨⟨X.prog, X.w, X.K, X.mg, X.base, exc⟩, X.N, X.env.scope, k, X.calm, isdef, fnc⟩
  room : c.calm = true → Room c.k X.A
  nd : c.N.Nodup
  fn : ∀ x, c.fnc x = true → X.fn x = true
  tk : Takes X W
  own : PassesOwn (model X.prog X.w) X.A X.env X.xe
  dfn : c.isdef = true → X.stack = X.env :: X.outer ∧ X.env.frame = some X.env.locals

/-! ### what a computation's outcome wants -/
abbrev RpT (α β : Type) := Hp → List Addr → Hp → Hp → L2.St → DS → α → β → Prop
def Res {α β : Type} (B : Bs) (W : WX) (F : Hp) (Rp : RpT α β) (σ : L2.St) (ma : List Addr) (S : Hp) (r : R α) (Q : β → Hp → Prop) : Prop :=
  match r with
  | .ok a ds => ∀ ma' S' H' b, Ext ma S ma' S' → Cf B.K F ma' S' H' σ ds → Rp F ma' S' H' σ ds a b → Q b H'
  | .err e ds => ∀ ma' S' H', Ext ma S ma' S' → Cf B.K F ma' S' H' σ ds → W (B.exc e) none σ H'
  | .stuck => False
theorem Res.later {α β : Type} {B : Bs} {W : WX} {F : Hp} {Rp : RpT α β} {σ : L2.St} {ma ma1 : List Addr} {S S1 : Hp} {r : R α} {Q : β → Hp → Prop} (h : Res B W F Rp σ ma S r Q) (e : Ext ma S ma1 S1) : Res B W F Rp σ ma1 S1 r Q := by
  cases r with
  | ok a ds => exact fun ma' S' H' b x => h ma' S' H' b (e.trans x)
  | err c ds => exact fun ma' S' H' x => h ma' S' H' (e.trans x)
  | stuck => exact h
theorem Res.bind {α β γ δ : Type} {B : Bs} {W : WX} {F : Hp} {Rp : RpT α β} {Rp2 : RpT γ δ} {σ : L2.St} {ma : List Addr} {S : Hp} {r : R α} {g : α → DS → R γ} {Q : δ → Hp → Prop} {Q1 : β → Hp → Prop} (h : Res B W F Rp2 σ ma S (r.bind g) Q)
    (k : ∀ a ds ma1 S1 H1 b, Ext ma S ma1 S1 → Cf B.K F ma1 S1 H1 σ ds → Rp F ma1 S1 H1 σ ds a b → Res B W F Rp2 σ ma1 S1 (g a ds) Q → Q1 b H1) : Res B W F Rp σ ma S r Q1 := by
  cases r with
  | ok a ds => exact fun ma' S' H' b x cf rp => k a ds ma' S' H' b x cf rp (Res.later h x)
  | err c ds => exact h
  | stuck => exact h
abbrev RpV (K : PySem.W.Frag) : RpT D V := fun _ ma S _ _ _ d v => Rep K S ma d v
abbrev RpL (K : PySem.W.Frag) : RpT (List D) (List V) := fun _ ma S _ _ _ d v => RepL K S ma d v
abbrev RpB : RpT Bool Bool := fun _ _ _ _ _ _ a b => a = b
/-- a new list, known to nobody -/
abbrev RpF (K : PySem.W.Frag) : RpT (List D) V := fun F ma S H σ ds xs v => ∃ p vs, v = .ref p ∧ H p = some (.lst vs) ∧ Fre F ma S σ ds.env p ∧ RepL K S ma xs vs

/-! ### judgements -/
structure VE (c : SC) (e : Expr) (f : M D) : Prop where
  run : ∀ X W, Ok c X W → ∃ t : TE, PE X e t ∧ ∀ F ma S H σ ds Q, Cf c.B.K F ma S H σ ds → Res c.B W F (RpV c.B.K) σ ma S (f ds) Q → t σ H Q
structure VF (c : SC) (e : Expr) (f : M (List D)) : Prop where
  run : ∀ X W, Ok c X W → ∃ t : TE, PE X e t ∧ ∀ F ma S H σ ds Q, Cf c.B.K F ma S H σ ds → Res c.B W F (RpF c.B.K) σ ma S (f ds) Q → t σ H Q
structure VT (c : SC) (e : Expr) (f : M Bool) : Prop where
  run : ∀ X W, Ok c X W → ∃ t : TT, PT X e t ∧ ∀ F ma S H σ ds Q, Cf c.B.K F ma S H σ ds → Res c.B W F RpB σ ma S (f ds) Q → t σ H Q
structure VW (c : SC) (e : Expr) (f : M Bool) : Prop where
  run : ∀ X W, Ok c X W → ∃ t : TT, PW X e t ∧ ∀ F ma S H σ ds Q, Cf c.B.K F ma S H σ ds → Res c.B W F RpB σ ma S (f ds) Q → t σ H Q
structure VA (c : SC) (es : List Expr) (f : M (List D)) : Prop where
  run : ∀ X W, Ok c X W → ∃ t : TA, PA X es t ∧ ∀ F ma S H σ ds Q, Cf c.B.K F ma S H σ ds → Res c.B W F (RpL c.B.K) σ ma S (f ds) Q → t σ H Q

/-- how a statement ends -/
inductive Out where
  | nx | bk | ct | rt (d : D)
def SRes (B : Bs) (W : WX) (F : Hp) (ma : List Addr) (S : Hp) (r : R Out) (E : Ends) : Prop :=
  match r with
  | .ok o ds => ∀ ma' S' H' σ', Ext ma S ma' S' → Cf B.K F ma' S' H' σ' ds → match o with
    | .nx => E.nx σ' H'
    | .bk => E.bk σ' H'
    | .ct => E.ct σ' H'
    | .rt d => ∀ v, Rep B.K S' ma' d v → E.rt v H'
  | .err e ds => ∀ ma' S' H' σ', Ext ma S ma' S' → Cf B.K F ma' S' H' σ' ds → W (B.exc e) none σ' H'
  | .stuck => False
theorem SRes.later {B : Bs} {W : WX} {F : Hp} {ma ma1 : List Addr} {S S1 : Hp} {r : R Out} {E : Ends} (h : SRes B W F ma S r E) (e : Ext ma S ma1 S1) : SRes B W F ma1 S1 r E := by
  cases r with
  | ok a ds => exact fun ma' S' H' σ' x => h ma' S' H' σ' (e.trans x)
  | err c ds => exact fun ma' S' H' σ' x => h ma' S' H' σ' (e.trans x)
  | stuck => exact h
/-- from an expression into a statement -/
theorem SRes.bind {α β : Type} {B : Bs} {W : WX} {F : Hp} {Rp : RpT α β} {σ : L2.St} {ma : List Addr} {S : Hp} {r : R α} {g : α → DS → R Out} {E : Ends} {Q1 : β → Hp → Prop} (h : SRes B W F ma S (r.bind g) E)
    (k : ∀ a ds ma1 S1 H1 b, Ext ma S ma1 S1 → Cf B.K F ma1 S1 H1 σ ds → Rp F ma1 S1 H1 σ ds a b → SRes B W F ma1 S1 (g a ds) E → Q1 b H1) : Res B W F Rp σ ma S r Q1 := by
  cases r with
  | ok a ds => exact fun ma' S' H' b x cf rp => k a ds ma' S' H' b x cf rp (SRes.later h x)
  | err c ds => exact fun ma' S' H' x cf => h ma' S' H' σ x cf
  | stuck => exact h
structure VS (c : SC) (st : Stmt) (f : M Out) : Prop where
  run : ∀ X W, Ok c X W → ∃ t : TS, PS X st t ∧ ∀ F ma S H σ ds E, Cf c.B.K F ma S H σ ds → SRes c.B W F ma S (f ds) E → t E σ H
structure VB (c : SC) (st : List Stmt) (f : M Out) : Prop where
  run : ∀ X W, Ok c X W → ∃ t : TS, PSs X st t ∧ ∀ F ma S H σ ds E, Cf c.B.K F ma S H σ ds → SRes c.B W F ma S (f ds) E → t E σ H
/-- a target that a value goes to -/
def GRes (B : Bs) (W : WX) (F : Hp) (ma : List Addr) (S : Hp) (r : R Unit) (Q : L2.St → Hp → Prop) : Prop :=
  match r with
  | .ok _ ds => ∀ ma' S' H' σ', Ext ma S ma' S' → Cf B.K F ma' S' H' σ' ds → Q σ' H'
  | .err e ds => ∀ ma' S' H' σ', Ext ma S ma' S' → Cf B.K F ma' S' H' σ' ds → W (B.exc e) none σ' H'
  | .stuck => False
structure VG (c : SC) (tg : Expr) (f : D → M Unit) : Prop where
  run : ∀ X W, Ok c X W → ∃ t : TG, PG X tg t ∧ ∀ F ma S H σ ds d v Q, Cf c.B.K F ma S H σ ds → Rep c.B.K S ma d v → GRes c.B W F ma S (f d ds) Q → t v σ H Q
structure VGs (c : SC) (tg : List Expr) (f : List D → M Unit) : Prop where
  run : ∀ X W, Ok c X W → ∃ t : TGs, PGs X tg t ∧ ∀ F ma S H σ ds d v Q, Cf c.B.K F ma S H σ ds → RepL c.B.K S ma d v → GRes c.B W F ma S (f d ds) Q → t v σ H Q
theorem GRes.later {B : Bs} {W : WX} {F : Hp} {ma ma1 : List Addr} {S S1 : Hp} {r : R Unit} {Q : L2.St → Hp → Prop} (h : GRes B W F ma S r Q) (e : Ext ma S ma1 S1) : GRes B W F ma1 S1 r Q := by
  cases r with
  | ok a ds => exact fun ma' S' H' σ' x => h ma' S' H' σ' (e.trans x)
  | err c ds => exact fun ma' S' H' σ' x => h ma' S' H' σ' (e.trans x)
  | stuck => exact h
theorem GRes.bind {B : Bs} {W : WX} {F : Hp} {ma : List Addr} {S : Hp} {r : R Unit} {g : Unit → DS → R Unit} {Q Q1 : L2.St → Hp → Prop} (h : GRes B W F ma S (r.bind g) Q)
    (k : ∀ a ds ma1 S1 H1 σ1, Ext ma S ma1 S1 → Cf B.K F ma1 S1 H1 σ1 ds → GRes B W F ma1 S1 (g a ds) Q → Q1 σ1 H1) : GRes B W F ma S r Q1 := by
  cases r with
  | ok a ds => exact fun ma' S' H' σ' x cf => k a ds ma' S' H' σ' x cf (GRes.later h x)
  | err c ds => exact h
  | stuck => exact h
theorem SRes.bindG {B : Bs} {W : WX} {F : Hp} {ma : List Addr} {S : Hp} {r : R Unit} {g : Unit → DS → R Out} {E : Ends} {Q1 : L2.St → Hp → Prop} (h : SRes B W F ma S (r.bind g) E)
    (k : ∀ a ds ma1 S1 H1 σ1, Ext ma S ma1 S1 → Cf B.K F ma1 S1 H1 σ1 ds → SRes B W F ma1 S1 (g a ds) E → Q1 σ1 H1) : GRes B W F ma S r Q1 := by
  cases r with
  | ok a ds => exact fun ma' S' H' σ' x cf => k a ds ma' S' H' σ' x cf (SRes.later h x)
  | err c ds => exact h
  | stuck => exact h

/-! ### names and constants -/
def varM (i : Nat) : M D := fun s => match s.env[i]? with
  | some (.val d) => .ok d s
  | some .un => .stuck
  | some sl => .ok sl.shut { s with env := s.env.set i (.val sl.shut) }
  | none => .stuck
section
variable {c : SC} {pos p : Pos}
theorem v_var (i : Nat) {x : Str} (hN : c.N[i]? = some x) (hv : Vis c.sc x) (hd : (x == ("__debug__" : Str)) = false := by decide) (hcd : (x == ("__classdict__" : Str)) = false := by decide) : VE c (.Name x pos) (varM i) := by
  refine ⟨fun X W ok => ?_⟩
  obtain ⟨exc, k, isdef, fnc, rfl⟩ := ok.eq
  refine ⟨tVar i, pe_var hN hv hd hcd, fun F ma S H σ ds Q cf h => ?_⟩
  unfold varM at h
  cases e : ds.env[i]? with
  | none => rw [e] at h; exact h.elim
  | some sl =>
    rw [e] at h
    cases sl with
    | un => exact h.elim
    | val d =>
      obtain ⟨v, e1, r⟩ := cf.val i d e
      exact ⟨v, e1, h ma S H v Ext.refl cf r⟩
    | own xs =>
      obtain ⟨S', v, e1, r, cf', ex⟩ := cf.share e rfl
      exact ⟨v, e1, h ma S' H v ex cf' r⟩
    | ownK ks xs =>
      obtain ⟨S', v, e1, r, cf', ex⟩ := cf.share e rfl
      exact ⟨v, e1, h ma S' H v ex cf' r⟩
    | ownT ks xs =>
      obtain ⟨S', v, e1, r, cf', ex⟩ := cf.share e rfl
      exact ⟨v, e1, h ma S' H v ex cf' r⟩
theorem v_int {i : Int} {j : Nat} : VE c (.Constant (.int i) j pos) (rtn (.int i)) := by
  refine ⟨fun X W ok => ?_⟩
  obtain ⟨exc, k, isdef, fnc, rfl⟩ := ok.eq
  exact ⟨tC (.int i), pe_int, fun F ma S H σ ds Q cf h => h ma S H _ Ext.refl cf (.int i)⟩
theorem v_bl {b : Bool} {j : Nat} : VE c (.Constant (.bool b) j pos) (rtn (.bl b)) := by
  refine ⟨fun X W ok => ?_⟩
  obtain ⟨exc, k, isdef, fnc, rfl⟩ := ok.eq
  exact ⟨tC (.bl b), pe_bl, fun F ma S H σ ds Q cf h => h ma S H _ Ext.refl cf (.bl b)⟩
theorem v_non {j : Nat} : VE c (.Constant .none j pos) (rtn .non) := by
  refine ⟨fun X W ok => ?_⟩
  obtain ⟨exc, k, isdef, fnc, rfl⟩ := ok.eq
  exact ⟨tC .non, pe_non, fun F ma S H σ ds Q cf h => h ma S H _ Ext.refl cf .non⟩
theorem v_str {x : Str} {j : Nat} : VE c (.Constant (.str x) j pos) (rtn (.str x)) := by
  refine ⟨fun X W ok => ?_⟩
  obtain ⟨exc, k, isdef, fnc, rfl⟩ := ok.eq
  exact ⟨tC (.str x), pe_str, fun F ma S H σ ds Q cf h => h ma S H _ Ext.refl cf (.str x)⟩
def Glo (sc : Scope) (x : Str) : Prop := sc.names.lookup x = some .globalImplicit
/-- a module's constant -/
structure GConst (B : Bs) (x : Str) (d : D) : Prop where
  ex : ∃ u v, B.mg x = some u ∧ RelV v u ∧ ∀ S ma, Rep B.K S ma d v
theorem v_glob {x : Str} {d : D} (g : GConst c.B x d) (hg : Glo c.sc x) (hd : (x == ("__debug__" : Str)) = false := by decide) : VE c (.Name x pos) (rtn d) := by
  refine ⟨fun X W ok => ?_⟩
  obtain ⟨exc, k, isdef, fnc, rfl⟩ := ok.eq
  obtain ⟨u, v, h1, h2, h3⟩ := g.ex
  exact ⟨tC v, pe_glob hg h1 h2 hd, fun F ma S H σ ds Q cf h => h ma S H _ Ext.refl cf (h3 _ _)⟩

/-! ### operators -/
/-- a two-place operation, by values -/
def OpV (c : SC) (f : Value → Value → Sem Value) (g : D → D → Option D) : Prop := ∀ X W, Ok c X W → ∃ r : R2, OpR X f r ∧ ∀ F ma S H σ ds a b x y Q, Cf c.B.K F ma S H σ ds → Rep c.B.K S ma a x → Rep c.B.K S ma b y →
  Res c.B W F (RpV c.B.K) σ ma S (opt (g a b) ds) Q → r x y H Q
def binM (g : D → D → Option D) (fa fb : M D) : M D := bnd fa fun x => bnd fb fun y => opt (g x y)
variable {a b e : Expr} {fa fb : M D} {g : D → D → Option D}
theorem bin_run {X : Cx} {W : WX} {B : Bs} {r : R2} {ta tb : TE} {f : Value → Value → Sem Value}
    (qa : ∀ F ma S H σ ds Q, Cf B.K F ma S H σ ds → Res B W F (RpV B.K) σ ma S (fa ds) Q → ta σ H Q) (qb : ∀ F ma S H σ ds Q, Cf B.K F ma S H σ ds → Res B W F (RpV B.K) σ ma S (fb ds) Q → tb σ H Q)
    (qr : ∀ F ma S H σ ds a b x y Q, Cf B.K F ma S H σ ds → Rep B.K S ma a x → Rep B.K S ma b y → Res B W F (RpV B.K) σ ma S (opt (g a b) ds) Q → r x y H Q) :
    ∀ F ma S H σ ds Q, Cf B.K F ma S H σ ds → Res B W F (RpV B.K) σ ma S (binM g fa fb ds) Q → tOp r ta tb σ H Q := by
  intro F ma S H σ ds Q cf h
  refine qa F ma S H σ ds _ cf (Res.bind h fun d1 ds1 ma1 S1 H1 x e1 c1 r1 h1 => ?_)
  refine qb F ma1 S1 H1 σ ds1 _ c1 (Res.bind h1 fun d2 ds2 ma2 S2 H2 y e2 c2 r2 h2 => ?_)
  exact qr F ma2 S2 H2 σ ds2 d1 d2 x y Q c2 (Rep.mono e2 r1) r2 h2
theorem v_op {op : Operator} (ho : OpV c (binaryOp op) g) (ha : VE c a fa) (hb : VE c b fb) : VE c (.BinOp a op b pos) (binM g fa fb) := by
  refine ⟨fun X W ok => ?_⟩
  obtain ⟨ta, pa, qa⟩ := ha.run X W ok
  obtain ⟨tb, pb, qb⟩ := hb.run X W ok
  obtain ⟨r, po, qo⟩ := ho X W ok
  exact ⟨tOp r ta tb, pe_op po pa pb, bin_run (X := X) (f := binaryOp op) qa qb qo⟩
theorem v_cmp {op : CmpOp} (ho : OpV c (compareOp op) g) (ha : VE c a fa) (hb : VE c b fb) (hm : behindInMarks op b = false) : VE c (.Compare a [op] [b] pos) (binM g fa fb) := by
  refine ⟨fun X W ok => ?_⟩
  obtain ⟨ta, pa, qa⟩ := ha.run X W ok
  obtain ⟨tb, pb, qb⟩ := hb.run X W ok
  obtain ⟨r, po, qo⟩ := ho X W ok
  exact ⟨tOp r ta tb, pe_cmpR po pa pb hm, bin_run (X := X) (f := compareOp op) qa qb qo⟩
/-- a value that must be a bool -/
def asB : D → Option Bool
  | .bl b => some b
  | _ => none
def tstM (f : M D) : M Bool := bnd f fun d => opt (asB d)
theorem t_cmp {op : CmpOp} (ho : OpV c (compareOp op) g) (ha : VE c a fa) (hb : VE c b fb) (hm : behindInMarks op b = false) : VT c (.Compare a [op] [b] pos) (tstM (binM g fa fb)) := by
  refine ⟨fun X W ok => ?_⟩
  obtain ⟨ta, pa, qa⟩ := ha.run X W ok
  obtain ⟨tb, pb, qb⟩ := hb.run X W ok
  obtain ⟨r, po, qo⟩ := ho X W ok
  refine ⟨_, pt_cmpR po pa pb hm, fun F ma S H σ ds Q cf h => ?_⟩
  refine bin_run (X := X) (f := compareOp op) qa qb qo F ma S H σ ds _ cf (Res.bind h fun d ds1 ma1 S1 H1 x e1 c1 r1 h1 => ?_)
  cases r1 with
  | bl k => exact ⟨k, rfl, h1 ma1 S1 H1 k Ext.refl c1 rfl⟩
  | _ => exact (show False from h1).elim

/-! ### tests -/
theorem t_val (h : VE c e fa) (he : ∀ (env : Env) whole, isTrue e env whole = (do let v ← whole; standAt e.pos; holding [v] (truthy v)) := by intro _ _; rfl) : VT c e (tstM fa) := by
  refine ⟨fun X W ok => ?_⟩
  obtain ⟨ta, pa, qa⟩ := h.run X W ok
  refine ⟨_, pt_val pa (he X.env), fun F ma S H σ ds Q cf h => ?_⟩
  refine qa F ma S H σ ds _ cf (Res.bind h fun d ds1 ma1 S1 H1 x e1 c1 r1 h1 => ?_)
  cases r1 with
  | bl k => exact ⟨k, rfl, h1 ma1 S1 H1 k Ext.refl c1 rfl⟩
  | _ => exact (show False from h1).elim
/-- truth -/
def truD : D → Option Bool
  | .non => some false
  | .bl b => some b
  | .int i => some (i != 0)
  | .str z => if z.length ≤ 16777216 then some ((z.length : Int) != 0) else none
  | .lst xs => some (!xs.isEmpty)
  | .frl xs => some (!xs.isEmpty)
  | .tup xs => some (!xs.isEmpty)
  | _ => none
def truM (f : M D) : M Bool := bnd f fun d => opt (truD d)
theorem RepL.isEmpty {K : PySem.W.Frag} {S : Hp} {ma : List Addr} {ds : List D} {vs : List V} (h : RepL K S ma ds vs) : ds.isEmpty = vs.isEmpty := by
  cases h <;> rfl
theorem t_tru (h : VE c e fa) (he : ∀ (env : Env) whole, isTrue e env whole = (do let v ← whole; standAt e.pos; holding [v] (truthy v)) := by intro _ _; rfl) : VT c e (truM fa) := by
  refine ⟨fun X W ok => ?_⟩
  obtain ⟨ta, pa, qa⟩ := h.run X W ok
  obtain ⟨exc, k, isdef, fnc, rfl⟩ := ok.eq
  refine ⟨_, pt_truth pa (he X.env), fun F ma S H σ ds Q cf h => ?_⟩
  refine qa F ma S H σ ds _ cf (Res.bind h fun d ds1 ma1 S1 H1 x e1 c1 r1 h1 => ?_)
  have fin : ∀ k, truD d = some k → Q k H1 := fun k e => by
    have h1 : Res _ W F RpB σ ma1 S1 (opt (truD d) ds1) Q := h1
    rw [e] at h1
    exact h1 ma1 S1 H1 k Ext.refl c1 rfl
  have sq : ∀ {a : Addr} {vs : List V}, S1 a = some (.lst vs) → SqL X.K H1 a vs := fun e => .inl (.inl (c1.sub _ _ e))
  cases r1 with
  | non => exact ⟨false, rfl, fin _ rfl⟩
  | bl b => exact ⟨b, rfl, fin _ rfl⟩
  | int i => exact ⟨_, rfl, fin _ rfl⟩
  | str z =>
    by_cases hz : z.length ≤ 16777216
    · exact ⟨_, ⟨by rw [sizeLine_eq]; exact hz, rfl⟩, fin _ (if_pos hz)⟩
    · have h1 : Res _ W F RpB σ ma1 S1 (opt (truD (.str z)) ds1) Q := h1
      have e : truD (.str z) = none := if_neg hz
      rw [e] at h1
      exact h1.elim
  | lst h2 h3 => exact ⟨_, .inl ⟨_, sq h2, rfl⟩, fin _ (by rw [← h3.isEmpty]; rfl)⟩
  | frl h2 h3 => exact ⟨_, .inl ⟨_, c1.sub.seq h2, rfl⟩, fin _ (by rw [← h3.isEmpty]; rfl)⟩
  | tup h2 h3 => exact ⟨_, .inr (.inl ⟨_, seqT c1.sub h2, rfl⟩), fin _ (by rw [← h3.isEmpty]; rfl)⟩
  | _ => exact (show False from h1).elim
variable {ft fu : M Bool} {rest : List Expr}
def andM (f g : M Bool) : M Bool := bnd f fun k => if k = true then g else rtn false
def orM (f g : M Bool) : M Bool := bnd f fun k => if k = true then rtn true else g
def notM (f : M Bool) : M Bool := bnd f fun k => rtn (!k)
theorem w_and1 (h : VT c a ft) : VW c (.BoolOp .And [a] pos) ft := by
  refine ⟨fun X W ok => ?_⟩
  obtain ⟨t, p, q⟩ := h.run X W ok
  exact ⟨t, pw_and1 p, q⟩
theorem w_or1 (h : VT c a ft) : VW c (.BoolOp .Or [a] pos) ft := by
  refine ⟨fun X W ok => ?_⟩
  obtain ⟨t, p, q⟩ := h.run X W ok
  exact ⟨t, pw_or1 p, q⟩
theorem w_and (h : VT c a ft) (h' : VW c (.BoolOp .And (b :: rest) pos) fu) : VW c (.BoolOp .And (a :: b :: rest) pos) (andM ft fu) := by
  refine ⟨fun X W ok => ?_⟩
  obtain ⟨t, p, q⟩ := h.run X W ok
  obtain ⟨t', p', q'⟩ := h'.run X W ok
  refine ⟨_, pw_and p p', fun F ma S H σ ds Q cf h => ?_⟩
  refine q F ma S H σ ds _ cf (Res.bind h fun d ds1 ma1 S1 H1 x e1 c1 r1 h1 => ?_)
  subst r1
  cases d with
  | true => rw [if_pos rfl]; exact q' F ma1 S1 H1 σ ds1 Q c1 h1
  | false => rw [if_neg Bool.false_ne_true]; exact h1 ma1 S1 H1 false Ext.refl c1 rfl
theorem w_or (h : VT c a ft) (h' : VW c (.BoolOp .Or (b :: rest) pos) fu) : VW c (.BoolOp .Or (a :: b :: rest) pos) (orM ft fu) := by
  refine ⟨fun X W ok => ?_⟩
  obtain ⟨t, p, q⟩ := h.run X W ok
  obtain ⟨t', p', q'⟩ := h'.run X W ok
  refine ⟨_, pw_or p p', fun F ma S H σ ds Q cf h => ?_⟩
  refine q F ma S H σ ds _ cf (Res.bind h fun d ds1 ma1 S1 H1 x e1 c1 r1 h1 => ?_)
  subst r1
  cases d with
  | true => rw [if_pos rfl]; exact h1 ma1 S1 H1 true Ext.refl c1 rfl
  | false => rw [if_neg Bool.false_ne_true]; exact q' F ma1 S1 H1 σ ds1 Q c1 h1
theorem t_w (h : VW c a ft) : VT c a ft := by
  refine ⟨fun X W ok => ?_⟩
  obtain ⟨t, p, q⟩ := h.run X W ok
  exact ⟨t, p.pt, q⟩
theorem t_not (h : VT c a ft) : VT c (.UnaryOp .Not a pos) (notM ft) := by
  refine ⟨fun X W ok => ?_⟩
  obtain ⟨t, p, q⟩ := h.run X W ok
  refine ⟨_, pt_not p, fun F ma S H σ ds Q cf h => ?_⟩
  refine q F ma S H σ ds _ cf (Res.bind h fun d ds1 ma1 S1 H1 x e1 c1 r1 h1 => ?_)
  subst r1
  exact h1 ma1 S1 H1 _ Ext.refl c1 rfl
/-! and, or, not as values; all but the last one bools -/
def andV (f g : M D) : M D := bnd f fun d => bnd (opt (asB d)) fun k => if k = true then g else rtn (.bl false)
def orV (f g : M D) : M D := bnd f fun d => bnd (opt (asB d)) fun k => if k = true then rtn (.bl true) else g
def notV (f : M D) : M D := bnd f fun d => bnd (opt (asB d)) fun k => rtn (.bl (!k))
theorem v_one {op} (h : VE c a fa) : VE c (.BoolOp op [a] pos) fa := by
  refine ⟨fun X W ok => ?_⟩
  obtain ⟨t, p, q⟩ := h.run X W ok
  exact ⟨t, pe_one p, q⟩
theorem v_and (h : VE c a fa) (h' : VE c (.BoolOp .And (b :: rest) pos) fb) : VE c (.BoolOp .And (a :: b :: rest) pos) (andV fa fb) := by
  refine ⟨fun X W ok => ?_⟩
  obtain ⟨t, p, q⟩ := h.run X W ok
  obtain ⟨t', p', q'⟩ := h'.run X W ok
  refine ⟨_, pe_and p p', fun F ma S H σ ds Q cf h => ?_⟩
  refine q F ma S H σ ds _ cf (Res.bind h fun d ds1 ma1 S1 H1 x e1 c1 r1 h1 => ?_)
  cases r1 with
  | bl k =>
    refine ⟨k, rfl, ?_⟩
    cases k with
    | true => rw [if_pos rfl]; exact q' F ma1 S1 H1 σ ds1 Q c1 h1
    | false => rw [if_neg Bool.false_ne_true]; exact h1 ma1 S1 H1 _ Ext.refl c1 (.bl false)
  | _ => exact (show False from h1).elim
theorem v_or (h : VE c a fa) (h' : VE c (.BoolOp .Or (b :: rest) pos) fb) : VE c (.BoolOp .Or (a :: b :: rest) pos) (orV fa fb) := by
  refine ⟨fun X W ok => ?_⟩
  obtain ⟨t, p, q⟩ := h.run X W ok
  obtain ⟨t', p', q'⟩ := h'.run X W ok
  refine ⟨_, pe_or p p', fun F ma S H σ ds Q cf h => ?_⟩
  refine q F ma S H σ ds _ cf (Res.bind h fun d ds1 ma1 S1 H1 x e1 c1 r1 h1 => ?_)
  cases r1 with
  | bl k =>
    refine ⟨k, rfl, ?_⟩
    cases k with
    | true => rw [if_pos rfl]; exact h1 ma1 S1 H1 _ Ext.refl c1 (.bl true)
    | false => rw [if_neg Bool.false_ne_true]; exact q' F ma1 S1 H1 σ ds1 Q c1 h1
  | _ => exact (show False from h1).elim
theorem v_not (h : VE c a fa) : VE c (.UnaryOp .Not a pos) (notV fa) := by
  refine ⟨fun X W ok => ?_⟩
  obtain ⟨t, p, q⟩ := h.run X W ok
  refine ⟨_, pe_not p, fun F ma S H σ ds Q cf h => ?_⟩
  refine q F ma S H σ ds _ cf (Res.bind h fun d ds1 ma1 S1 H1 x e1 c1 r1 h1 => ?_)
  cases r1 with
  | bl k => exact ⟨k, rfl, h1 ma1 S1 H1 _ Ext.refl c1 (.bl _)⟩
  | _ => exact (show False from h1).elim
def iteM {α : Type} (t : M Bool) (f g : M α) : M α := bnd t fun k => if k = true then f else g
theorem v_ifexp {t : Expr} (ht : VT c t ft) (ha : VE c a fa) (hb : VE c b fb) : VE c (.IfExp t a b pos) (iteM ft fa fb) := by
  refine ⟨fun X W ok => ?_⟩
  obtain ⟨tt, pt, qt⟩ := ht.run X W ok
  obtain ⟨ta, pa, qa⟩ := ha.run X W ok
  obtain ⟨tb, pb, qb⟩ := hb.run X W ok
  refine ⟨_, pe_ifExp pt pa pb, fun F ma S H σ ds Q cf h => ?_⟩
  refine qt F ma S H σ ds _ cf (Res.bind h fun d ds1 ma1 S1 H1 x e1 c1 r1 h1 => ?_)
  subst r1
  cases d with
  | true => rw [if_pos rfl]; exact qa F ma1 S1 H1 σ ds1 Q c1 h1
  | false => rw [if_neg Bool.false_ne_true]; exact qb F ma1 S1 H1 σ ds1 Q c1 h1

/-! ### argument lists, displays -/
variable {es : List Expr} {fs : M (List D)}
def consM (f : M D) (g : M (List D)) : M (List D) := bnd f fun d => bnd g fun ds => rtn (d :: ds)
theorem a_nil : VA c [] (rtn []) := by
  refine ⟨fun X W ok => ?_⟩
  obtain ⟨exc, k, isdef, fnc, rfl⟩ := ok.eq
  exact ⟨tNil, pa_nil, fun F ma S H σ ds Q cf h => h ma S H _ Ext.refl cf .nil⟩
theorem a_cons (ha : VE c e fa) (hr : VA c es fs) (hs : ∀ env : Env, starEach (e :: es) env = (false, eval e env) :: starEach es env := by intro _; rfl) : VA c (e :: es) (consM fa fs) := by
  refine ⟨fun X W ok => ?_⟩
  obtain ⟨ta, pa, qa⟩ := ha.run X W ok
  obtain ⟨tr, pr, qr⟩ := hr.run X W ok
  refine ⟨_, pa_cons pa pr (hs X.env), fun F ma S H σ ds Q cf h => ?_⟩
  refine qa F ma S H σ ds _ cf (Res.bind h fun d ds1 ma1 S1 H1 x e1 c1 r1 h1 => ?_)
  refine qr F ma1 S1 H1 σ ds1 _ c1 (Res.bind h1 fun d2 ds2 ma2 S2 H2 y e2 c2 r2 h2 => ?_)
  exact h2 ma2 S2 H2 _ Ext.refl c2 (.cons (Rep.mono e2 r1) r2)
def tupM (f : M (List D)) : M D := bnd f fun ds => if ds.length ≤ 1000 then rtn (.tup ds) else fun _ => .stuck
theorem le1000 {n : Nat} (h : n ≤ 1000) : n ≤ sizeLine := Nat.le_trans h (by decide)
theorem v_tup {x1} (h : VA c es fs) : VE c (.Tuple es x1 pos) (tupM fs) := by
  refine ⟨fun X W ok => ?_⟩
  obtain ⟨t, p, q⟩ := h.run X W ok
  refine ⟨_, pe_tup p, fun F ma S H σ ds Q cf h => ?_⟩
  refine q F ma S H σ ds _ cf (Res.bind h fun d ds1 ma1 S1 H1 x e1 c1 r1 h1 => ?_)
  have h1 : Res _ W F (RpV c.B.K) σ ma1 S1 ((if d.length ≤ 1000 then rtn (D.tup d) else fun _ => .stuck) ds1) Q := h1
  by_cases hz : d.length ≤ 1000
  · rw [if_pos hz] at h1
    refine ⟨by rw [← r1.length]; exact le1000 hz, fun p hp => ?_⟩
    obtain ⟨c2, ex⟩ := c1.lay (.tup x) hp
    exact h1 ma1 _ _ _ ex c2 (.tup (.inl (.inl upd_same)) (r1.mono ex))
  · rw [if_neg hz] at h1; exact h1.elim
def lstM (f : M (List D)) : M (List D) := bnd f fun ds => if ds.length ≤ 1000 then rtn ds else fun _ => .stuck
theorem f_lst (h : VA c es fs) : VF c (.List es pos) (lstM fs) := by
  refine ⟨fun X W ok => ?_⟩
  obtain ⟨t, p, q⟩ := h.run X W ok
  refine ⟨_, pe_lst p, fun F ma S H σ ds Q cf h => ?_⟩
  refine q F ma S H σ ds _ cf (Res.bind h fun d ds1 ma1 S1 H1 x e1 c1 r1 h1 => ?_)
  have h1 : Res _ W F (RpF c.B.K) σ ma1 S1 ((if d.length ≤ 1000 then rtn d else fun _ => .stuck) ds1) Q := h1
  by_cases hz : d.length ≤ 1000
  · rw [if_pos hz] at h1
    refine ⟨by rw [← r1.length]; exact le1000 hz, fun p hp => ?_⟩
    have c2 := c1.grow (.lst x) hp
    exact h1 ma1 _ _ _ Ext.refl c2 ⟨p, x, rfl, upd_same, c1.fre hp, r1⟩
  · rw [if_neg hz] at h1; exact h1.elim
/-- a new list as a value -/
def shutM (f : M (List D)) : M D := bnd f fun ds => rtn (.lst ds)
theorem v_f (h : VF c e fs) : VE c e (shutM fs) := by
  refine ⟨fun X W ok => ?_⟩
  obtain ⟨t, p, q⟩ := h.run X W ok
  refine ⟨t, p, fun F ma S H σ ds Q cf h => ?_⟩
  refine q F ma S H σ ds _ cf (Res.bind h fun d ds1 ma1 S1 H1 x e1 c1 r1 h1 => ?_)
  obtain ⟨p, vs, rfl, hp, fr, r⟩ := r1
  obtain ⟨c2, ex⟩ := c1.adopt hp fr
  exact h1 ma1 _ _ _ ex c2 (.lst upd_same (r.mono ex))
end
end Vl
namespace Vl
open PySem PySem.Spec PyProof.Rows L2

/-! ### targets. is: the places that a target touches -/
def Tch (is : List Nat) (σ σ' : L2.St) : Prop := σ'.length = σ.length ∧ ∀ j, j ∉ is → σ'[j]? = σ[j]?
theorem Tch.refl {is : List Nat} {σ : L2.St} : Tch is σ σ := ⟨rfl, fun _ _ => rfl⟩
def TRes (B : Bs) (W : WX) (F : Hp) (is : List Nat) (σ : L2.St) (ma : List Addr) (S : Hp) (r : R Unit) (Q : L2.St → Hp → Prop) : Prop :=
  match r with
  | .ok _ ds => ∀ ma' S' H' σ', Ext ma S ma' S' → Cf B.K F ma' S' H' σ' ds → Tch is σ σ' → Q σ' H'
  | .err e ds => ∀ ma' S' H' σ', Ext ma S ma' S' → Cf B.K F ma' S' H' σ' ds → W (B.exc e) none σ' H'
  | .stuck => False
structure TG1 (c : SC) (tg : Expr) (is : List Nat) (f : D → M Unit) : Prop where
  run : ∀ X W, Ok c X W → ∃ t : TG, PG X tg t ∧ ∀ F ma S H σ ds d v Q, Cf c.B.K F ma S H σ ds → Rep c.B.K S ma d v → TRes c.B W F is σ ma S (f d ds) Q → t v σ H Q
structure TGn (c : SC) (tg : List Expr) (is : List Nat) (f : List D → M Unit) : Prop where
  run : ∀ X W, Ok c X W → ∃ t : TGs, PGs X tg t ∧ ∀ F ma S H σ ds d v Q, Cf c.B.K F ma S H σ ds → RepL c.B.K S ma d v → TRes c.B W F is σ ma S (f d ds) Q → t v σ H Q
theorem TRes.later {B : Bs} {W : WX} {F : Hp} {is : List Nat} {σ : L2.St} {ma ma1 : List Addr} {S S1 : Hp} {r : R Unit} {Q : L2.St → Hp → Prop} (h : TRes B W F is σ ma S r Q) (e : Ext ma S ma1 S1) : TRes B W F is σ ma1 S1 r Q := by
  cases r with
  | ok a ds => exact fun ma' S' H' σ' x => h ma' S' H' σ' (e.trans x)
  | err c ds => exact fun ma' S' H' σ' x => h ma' S' H' σ' (e.trans x)
  | stuck => exact h
theorem SRes.bindT {B : Bs} {W : WX} {F : Hp} {is : List Nat} {σ : L2.St} {ma : List Addr} {S : Hp} {r : R Unit} {g : Unit → DS → R Out} {E : Ends} {Q1 : L2.St → Hp → Prop} (h : SRes B W F ma S (r.bind g) E)
    (k : ∀ a ds ma1 S1 H1 σ1, Ext ma S ma1 S1 → Cf B.K F ma1 S1 H1 σ1 ds → SRes B W F ma1 S1 (g a ds) E → Q1 σ1 H1) : TRes B W F is σ ma S r Q1 := by
  cases r with
  | ok a ds => exact fun ma' S' H' σ' x cf _ => k a ds ma' S' H' σ' x cf (SRes.later h x)
  | err c ds => exact h
  | stuck => exact h
def setM (i : Nat) (d : D) : M Unit := fun s => .ok () { s with env := s.env.set i (.val d) }
def setsM (f : D → M Unit) (g : List D → M Unit) : List D → M Unit
  | d :: r => bnd (f d) fun _ => g r
  | [] => fun _ => .stuck
def endM : List D → M Unit
  | [] => rtn ()
  | _ => fun _ => .stuck
def untupM (n : Nat) (f : List D → M Unit) : D → M Unit
  | .tup ds => if ds.length = n then f ds else fun _ => .stuck
  | _ => fun _ => .stuck
section
variable {c : SC} {pos p : Pos}
theorem g_name (i : Nat) {x : Str} (hi : c.N[i]? = some x) (hx : Loc c.sc x) (hf : c.fnc x = true ∨ c.sc.names.lookup x = some .local) : TG1 c (.Name x pos) [i] (setM i) := by
  refine ⟨fun X W ok => ?_⟩
  have nd := ok.nd
  have hf' : X.fn x = true ∨ c.sc.names.lookup x = some .local := hf.imp (fun h => ok.fn x h) id
  obtain ⟨exc, k, isdef, fnc, rfl⟩ := ok.eq
  refine ⟨gName i, pg_name nd hi hx hf', fun F ma S H σ ds d v Q cf r h => ?_⟩
  exact h ma S H _ Ext.refl (cf.put r i) ⟨by simp, fun j hj => by
    have hj : i ≠ j := fun e => hj (by simp [e])
    rw [List.getElem?_set_ne hj]⟩
theorem gs_nil : TGn c [] [] endM := by
  refine ⟨fun X W ok => ?_⟩
  obtain ⟨exc, k, isdef, fnc, rfl⟩ := ok.eq
  refine ⟨gNil, pgs_nil, fun F ma S H σ ds d v Q cf r h => ?_⟩
  cases r with
  | nil => exact ⟨rfl, h ma S H σ Ext.refl cf Tch.refl⟩
  | cons _ _ => exact (show False from h).elim
theorem gs_cons {e : Expr} {es : List Expr} {is js : List Nat} {f : D → M Unit} {g : List D → M Unit} (h1 : TG1 c e is f) (h2 : TGn c es js g)
    (hs : ∀ env : Env, (assignEach (e :: es) env).map (·.2) = assign e env :: (assignEach es env).map (·.2) := by intro _; rfl) : TGn c (e :: es) (is ++ js) (setsM f g) := by
  refine ⟨fun X W ok => ?_⟩
  obtain ⟨t1, p1, q1⟩ := h1.run X W ok
  obtain ⟨t2, p2, q2⟩ := h2.run X W ok
  refine ⟨gCons t1 t2, pgs_cons p1 p2 (hs X.env), fun F ma S H σ ds d v Q cf r h => ?_⟩
  cases r with
  | nil => exact (show False from h).elim
  | @cons d v dr vr r1 r2 =>
    refine ⟨v, vr, rfl, q1 F ma S H σ ds d v _ cf r1 ?_⟩
    have h : TRes c.B W F (is ++ js) σ ma S ((f d ds).bind fun _ s => g dr s) Q := h
    revert h
    cases f d ds with
    | ok u ds1 =>
      intro h ma1 S1 H1 σ1 e1 c1 t1
      refine q2 F ma1 S1 H1 σ1 ds1 dr vr Q c1 (RepL.mono e1 r2) ?_
      have h : TRes c.B W F (is ++ js) σ ma S (g dr ds1) Q := h
      revert h
      cases g dr ds1 with
      | ok u2 ds2 =>
        intro h ma2 S2 H2 σ2 e2 c2 t2
        exact h ma2 S2 H2 σ2 (e1.trans e2) c2 ⟨t2.1.trans t1.1, fun j hj => (t2.2 j fun z => hj (List.mem_append_right _ z)).trans (t1.2 j fun z => hj (List.mem_append_left _ z))⟩
      | err ec ds2 => intro h ma2 S2 H2 σ2 e2 c2; exact h ma2 S2 H2 σ2 (e1.trans e2) c2
      | stuck => intro h; exact h
    | err ec ds1 => intro h; exact h
    | stuck => intro h; exact h
theorem g_tup {es : List Expr} {k : Nat} {is : List Nat} {f : List D → M Unit} (n : Nat) (hc : c.calm = true) (h : TGn c es is f)
    (hn : ∀ env : Env, (assignEach es env).length = n := by intro _; rfl) (hst : ∀ env : Env, (assignEach es env).findIdx? (·.1) = none := by intro _; rfl) : TG1 c (.Tuple es k pos) is (untupM n f) := by
  refine ⟨fun X W ok => ?_⟩
  obtain ⟨t, p, q⟩ := h.run X W ok
  obtain ⟨exc, k', isdef, fnc, rfl⟩ := ok.eq
  refine ⟨gTup X.K n t, pg_tup hc p (hn X.env) (hst X.env), fun F ma S H σ ds d v Q cf r h => ?_⟩
  cases r with
  | @tup a xs vs h1 h2 =>
    have h : TRes _ W F is σ ma S ((if xs.length = n then f xs else fun _ => .stuck) ds) Q := h
    by_cases hn : xs.length = n
    · rw [if_pos hn] at h
      exact ⟨a, vs, rfl, seqT cf.sub h1, by rw [← h2.length]; exact hn, q F ma S H σ ds xs vs Q cf h2 h⟩
    · rw [if_neg hn] at h; exact h.elim
  | _ => exact (show False from h).elim

/-! ### statements -/
variable {e : Expr} {fe : M D} {ff : M (List D)} {st : Stmt} {rest : List Stmt} {f g : M Out}
def seqM (f g : M Out) : M Out := bnd f fun o => match o with
  | .nx => g
  | o => rtn o
theorem b_nil : VB c [] (rtn .nx) := by
  refine ⟨fun X W ok => ?_⟩
  obtain ⟨exc, k, isdef, fnc, rfl⟩ := ok.eq
  exact ⟨tNext, pss_nil, fun F ma S H σ ds E cf h => h ma S H σ Ext.refl cf⟩
/-- what a part wants so that the whole is well -/
theorem SRes.seq {B : Bs} {W : WX} {F : Hp} {ma : List Addr} {S : Hp} {r : R Out} {g : M Out} {E : Ends} {N : L2.St → Hp → Prop} (h : SRes B W F ma S (r.bind fun o s => (match o with | .nx => g | o => rtn o : M Out) s) E)
    (k : ∀ ds ma1 S1 H1 σ1, Ext ma S ma1 S1 → Cf B.K F ma1 S1 H1 σ1 ds → SRes B W F ma1 S1 (g ds) E → N σ1 H1) : SRes B W F ma S r { E with nx := N } := by
  cases r with
  | ok o ds =>
    intro ma' S' H' σ' x cf
    cases o with
    | nx => exact k ds ma' S' H' σ' x cf (SRes.later h x)
    | bk => exact h ma' S' H' σ' x cf
    | ct => exact h ma' S' H' σ' x cf
    | rt d => exact h ma' S' H' σ' x cf
  | err c ds => exact h
  | stuck => exact h
theorem b_cons (h1 : VS c st f) (h2 : VB c rest g) : VB c (st :: rest) (seqM f g) := by
  refine ⟨fun X W ok => ?_⟩
  obtain ⟨t1, p1, q1⟩ := h1.run X W ok
  obtain ⟨t2, p2, q2⟩ := h2.run X W ok
  refine ⟨tSeq t1 t2, pss_cons p1 p2, fun F ma S H σ ds E cf h => ?_⟩
  exact q1 F ma S H σ ds _ cf (SRes.seq h fun ds1 ma1 S1 H1 σ1 x cf1 h1 => q2 F ma1 S1 H1 σ1 ds1 E cf1 h1)
theorem b_one (h1 : VS c st f) : VB c [st] f := by
  refine ⟨fun X W ok => ?_⟩
  obtain ⟨t1, p1, q1⟩ := h1.run X W ok
  exact ⟨t1, pss_one p1, q1⟩
theorem s_pass : VS c (.Pass pos) (rtn .nx) := by
  refine ⟨fun X W ok => ?_⟩
  exact ⟨tNext, ps_pass, fun F ma S H σ ds E cf h => h ma S H σ Ext.refl cf⟩
theorem s_break : VS c (.Break pos) (rtn .bk) := by
  refine ⟨fun X W ok => ?_⟩
  exact ⟨tBreak, ps_break, fun F ma S H σ ds E cf h => h ma S H σ Ext.refl cf⟩
theorem s_cont : VS c (.Continue pos) (rtn .ct) := by
  refine ⟨fun X W ok => ?_⟩
  exact ⟨tCont, ps_continue, fun F ma S H σ ds E cf h => h ma S H σ Ext.refl cf⟩
def retM (f : M D) : M Out := bnd f fun d => rtn (.rt d)
theorem s_ret (h : VE c e fe) : VS c (.Return (some e) pos) (retM fe) := by
  refine ⟨fun X W ok => ?_⟩
  obtain ⟨t, p, q⟩ := h.run X W ok
  refine ⟨tRet t, ps_ret p, fun F ma S H σ ds E cf h => ?_⟩
  exact q F ma S H σ ds _ cf (SRes.bind h fun d ds1 ma1 S1 H1 v x c1 r1 h1 => h1 ma1 S1 H1 σ Ext.refl c1 v r1)
theorem s_retN : VS c (.Return none pos) (rtn (.rt .non)) := by
  refine ⟨fun X W ok => ?_⟩
  exact ⟨tRetN, ps_retN, fun F ma S H σ ds E cf h => h ma S H σ Ext.refl cf .non .non⟩
def dropM (f : M D) : M Out := bnd f fun _ => rtn .nx
theorem s_expr (h : VE c e fe) (hs : ∀ env : Env, swapsWith e none pos.line env = pure false := by intro _; rfl) : VS c (.Expr e pos) (dropM fe) := by
  refine ⟨fun X W ok => ?_⟩
  obtain ⟨t, p, q⟩ := h.run X W ok
  refine ⟨tDrop t, ps_expr p (hs X.env), fun F ma S H σ ds E cf h => ?_⟩
  exact q F ma S H σ ds _ cf (SRes.bind h fun d ds1 ma1 S1 H1 v x c1 r1 h1 => h1 ma1 S1 H1 σ Ext.refl c1)
def ifM (t : M Bool) (f g : M Out) : M Out := bnd t fun k => if k = true then f else g
theorem s_if {t : Expr} {ft : M Bool} {a b : List Stmt} (ht : VT c t ft) (ha : VB c a f) (hb : VB c b g) : VS c (.If t a b pos) (ifM ft f g) := by
  refine ⟨fun X W ok => ?_⟩
  obtain ⟨tt, pt, qt⟩ := ht.run X W ok
  obtain ⟨ta, pa, qa⟩ := ha.run X W ok
  obtain ⟨tb, pb, qb⟩ := hb.run X W ok
  refine ⟨_, ps_if pt pa pb, fun F ma S H σ ds E cf h => ?_⟩
  refine qt F ma S H σ ds _ cf (SRes.bind h fun d ds1 ma1 S1 H1 v x c1 r1 h1 => ?_)
  subst r1
  cases d with
  | true => rw [if_pos rfl]; exact qa F ma1 S1 H1 σ ds1 E c1 h1
  | false => rw [if_neg Bool.false_ne_true]; exact qb F ma1 S1 H1 σ ds1 E c1 h1
/-- target = value -/
def asgM (fe : M D) (g : D → M Unit) : M Out := bnd fe fun d => bnd (g d) fun _ => rtn .nx
theorem SRes.asg {B : Bs} {W : WX} {F : Hp} {is : List Nat} {σ : L2.St} {ma : List Addr} {S : Hp} {r : R Unit} {E : Ends} (h : SRes B W F ma S (r.bind fun _ s => rtn Out.nx s) E) : TRes B W F is σ ma S r E.nx :=
  SRes.bindT h fun _ ds1 ma1 S1 H1 σ1 _ c1 h1 => h1 ma1 S1 H1 σ1 Ext.refl c1
theorem s_set (i : Nat) {x : Str} {pos' : Pos} (hi : c.N[i]? = some x) (hx : Loc c.sc x) (hf : c.fnc x = true ∨ c.sc.names.lookup x = some .local) (he : VE c e fe)
    (hs : ∀ env : Env, env.scope = c.sc → swapsWith e (some (.Name x pos')) pos.line env = pure false := by intro _ _; rfl) : VS c (.Assign [.Name x pos'] e pos) (asgM fe (setM i)) := by
  refine ⟨fun X W ok => ?_⟩
  obtain ⟨t, p, q⟩ := he.run X W ok
  have nd := ok.nd
  have hf' : X.fn x = true ∨ c.sc.names.lookup x = some .local := hf.imp (fun h => ok.fn x h) id
  obtain ⟨exc, k, isdef, fnc, rfl⟩ := ok.eq
  refine ⟨tAsg t (gName i), ps_set nd hi hx p (hs X.env rfl) hf', fun F ma S H σ ds E cf h => ?_⟩
  refine q F ma S H σ ds _ cf (SRes.bind h fun d ds1 ma1 S1 H1 v x c1 r1 h1 => ?_)
  exact h1 ma1 S1 H1 _ Ext.refl (c1.put r1 i)
/-- name = a new list, the name's own -/
def ownM (i : Nat) (ff : M (List D)) : M Out := bnd ff fun ds s => .ok .nx { s with env := s.env.set i (.own ds) }
theorem s_own (i : Nat) {x : Str} {pos' : Pos} (hi : c.N[i]? = some x) (hx : Loc c.sc x) (hf : c.fnc x = true ∨ c.sc.names.lookup x = some .local) (he : VF c e ff)
    (hs : ∀ env : Env, env.scope = c.sc → swapsWith e (some (.Name x pos')) pos.line env = pure false := by intro _ _; rfl) : VS c (.Assign [.Name x pos'] e pos) (ownM i ff) := by
  refine ⟨fun X W ok => ?_⟩
  obtain ⟨t, p, q⟩ := he.run X W ok
  have nd := ok.nd
  have hf' : X.fn x = true ∨ c.sc.names.lookup x = some .local := hf.imp (fun h => ok.fn x h) id
  obtain ⟨exc, k, isdef, fnc, rfl⟩ := ok.eq
  refine ⟨tAsg t (gName i), ps_set nd hi hx p (hs X.env rfl) hf', fun F ma S H σ ds E cf h => ?_⟩
  refine q F ma S H σ ds _ cf (SRes.bind h fun d ds1 ma1 S1 H1 v x c1 r1 h1 => ?_)
  obtain ⟨p, vs, rfl, hp, fr, r⟩ := r1
  exact h1 ma1 S1 H1 _ Ext.refl (c1.putOwn (s := .own d) rfl hp fr r trivial i)
/-- name = a new list, shared from now on -/
def memM (i : Nat) (ff : M (List D)) : M Out := bnd ff fun ds s => .ok .nx { env := s.env.set i (.val (.mut s.mem.length)), mem := s.mem ++ [.lst ds] }
theorem s_mem (i : Nat) {x : Str} {pos' : Pos} (hi : c.N[i]? = some x) (hx : Loc c.sc x) (hf : c.fnc x = true ∨ c.sc.names.lookup x = some .local) (he : VF c e ff)
    (hs : ∀ env : Env, env.scope = c.sc → swapsWith e (some (.Name x pos')) pos.line env = pure false := by intro _ _; rfl) : VS c (.Assign [.Name x pos'] e pos) (memM i ff) := by
  refine ⟨fun X W ok => ?_⟩
  obtain ⟨t, p, q⟩ := he.run X W ok
  have nd := ok.nd
  have hf' : X.fn x = true ∨ c.sc.names.lookup x = some .local := hf.imp (fun h => ok.fn x h) id
  obtain ⟨exc, k, isdef, fnc, rfl⟩ := ok.eq
  refine ⟨tAsg t (gName i), ps_set nd hi hx p (hs X.env rfl) hf', fun F ma S H σ ds E cf h => ?_⟩
  refine q F ma S H σ ds _ cf (SRes.bind h fun d ds1 ma1 S1 H1 v x c1 r1 h1 => ?_)
  obtain ⟨p, vs, rfl, hp, fr, r⟩ := r1
  obtain ⟨c2, ex⟩ := c1.memNew (o := .lst d) hp fr r trivial
  refine h1 (ma1 ++ [p]) S1 H1 _ ex (c2.put (.mut ?_) i)
  rw [← c1.mlen]
  simp
theorem s_asg {tg : Expr} {is : List Nat} {ft : D → M Unit} (he : VE c e fe) (hg : TG1 c tg is ft) (hs : ∀ env : Env, env.scope = c.sc → swapsWithSole [tg] e pos.line env = pure false := by intro _ _; rfl)
    (hw : ∀ env : Env, env.scope = c.sc → swappedStores [tg] e env = pure none := by intro _ _; rfl) (h1 : ∀ env : Env, (assignEach [tg] env).map (·.2) = [assign tg env] := by intro _; rfl) : VS c (.Assign [tg] e pos) (asgM fe ft) := by
  refine ⟨fun X W ok => ?_⟩
  obtain ⟨t, p, q⟩ := he.run X W ok
  obtain ⟨t', p', q'⟩ := hg.run X W ok
  obtain ⟨exc, k, isdef, fnc, rfl⟩ := ok.eq
  refine ⟨tAsg t t', ps_asg p p' (hs X.env rfl) (hw X.env rfl) (h1 X.env), fun F ma S H σ ds E cf h => ?_⟩
  refine q F ma S H σ ds _ cf (SRes.bind h fun d ds1 ma1 S1 H1 v x c1 r1 h1 => ?_)
  exact q' F ma1 S1 H1 σ ds1 d v _ c1 r1 (SRes.asg h1)
/-- a, b = x, y: plain local names -/
def parM (i j : Nat) (fs : M (List D)) : M Out := bnd fs fun ds => match ds with
  | [a, b] => bnd (setM i a) fun _ => bnd (setM j b) fun _ => rtn .nx
  | _ => fun _ => .stuck
theorem s_par (i j : Nat) {x y : Str} {a b : Expr} {fs : M (List D)} {px py pt : Pos} {kt k2 pt2} (hc : c.calm = true) (hi : c.N[i]? = some x) (hj : c.N[j]? = some y) (hij : i ≠ j)
    (hx : c.sc.names.lookup x = some .local) (hy : c.sc.names.lookup y = some .local) (ha : VA c [a, b] fs)
    (hw : ∀ env : Env, env.scope = c.sc → swappedStores [.Tuple [.Name x px, .Name y py] kt pt] (.Tuple [a, b] k2 pt2) env = pure (some [x, y]))
    (hs : ∀ env : Env, swapsWithSole [.Tuple [.Name x px, .Name y py] kt pt] (.Tuple [a, b] k2 pt2) pos.line env = pure false := by intro _; rfl) :
    VS c (.Assign [.Tuple [.Name x px, .Name y py] kt pt] (.Tuple [a, b] k2 pt2) pos) (parM i j fs) := by
  refine ⟨fun X W ok => ?_⟩
  obtain ⟨t, p, q⟩ := ha.run X W ok
  have nd := ok.nd
  obtain ⟨exc, k, isdef, fnc, rfl⟩ := ok.eq
  refine ⟨_, ps_par hc nd hi hj hij hx hy p (hw X.env rfl) (hs X.env), fun F ma S H σ ds E cf h => ?_⟩
  refine q F ma S H σ ds _ cf (SRes.bind h fun d ds1 ma1 S1 H1 v x c1 r1 h1 => ?_)
  cases r1 with
  | nil => exact (show False from h1).elim
  | cons a1 b1 =>
    cases b1 with
    | nil => exact (show False from h1).elim
    | cons a2 b2 =>
      cases b2 with
      | cons _ _ => exact (show False from h1).elim
      | nil => exact ⟨_, _, rfl, h1 ma1 S1 H1 _ Ext.refl ((c1.put a1 i).put a2 j)⟩
/-- x op= e -/
def augM (g : D → D → Option D) (i : Nat) (fe : M D) : M Out := bnd (varM i) fun x => bnd fe fun y => bnd (opt (g x y)) fun z => bnd (setM i z) fun _ => rtn .nx
theorem s_aug (i : Nat) {x : Str} {pos' : Pos} {op : Operator} {g : D → D → Option D} (hi : c.N[i]? = some x) (hx : Loc c.sc x) (hf : c.fnc x = true ∨ c.sc.names.lookup x = some .local) (he : VE c e fe) (ho : OpV c (inplaceOp op) g) :
    VS c (.AugAssign (.Name x pos') op e pos) (augM g i fe) := by
  refine ⟨fun X W ok => ?_⟩
  obtain ⟨t, p, q⟩ := he.run X W ok
  obtain ⟨r, po, qo⟩ := ho X W ok
  have nd := ok.nd
  have hf' : X.fn x = true ∨ c.sc.names.lookup x = some .local := hf.imp (fun h => ok.fn x h) id
  obtain ⟨exc, k, isdef, fnc, rfl⟩ := ok.eq
  refine ⟨tAug i t r, ps_aug nd hi hx p po hf', fun F ma S H σ ds E cf h => ?_⟩
  have key : ∀ (d : D) (v : V) (ds1 : DS) ma1 S1, σ[i]? = some (some v) → Ext ma S ma1 S1 → Cf _ F ma1 S1 H σ ds1 → Rep _ S1 ma1 d v →
      SRes _ W F ma1 S1 ((fe ds1).bind fun y s => bnd (opt (g d y)) (fun z => bnd (setM i z) fun _ => rtn .nx) s) E → tAug i t r E σ H := fun d v ds1 ma1 S1 e1 ex c1 r1 h1 => by
    refine ⟨v, e1, q F ma1 S1 H σ ds1 _ c1 (SRes.bind h1 fun d2 ds2 ma2 S2 H2 v2 x2 c2 r2 h2 => ?_)⟩
    refine qo F ma2 S2 H2 σ ds2 d d2 v v2 _ c2 (Rep.mono x2 r1) r2 (SRes.bind h2 fun d3 ds3 ma3 S3 H3 v3 x3 c3 r3 h3 => ?_)
    exact h3 ma3 S3 H3 _ Ext.refl (c3.put r3 i)
  have h : SRes _ W F ma S ((varM i ds).bind fun x s => bnd fe (fun y => bnd (opt (g x y)) fun z => bnd (setM i z) fun _ => rtn .nx) s) E := h
  unfold varM at h
  cases e1 : ds.env[i]? with
  | none => rw [e1] at h; exact h.elim
  | some sl =>
    rw [e1] at h
    cases sl with
    | un => exact h.elim
    | val d =>
      obtain ⟨v, e2, r⟩ := cf.val i d e1
      exact key d v ds ma S e2 Ext.refl cf r h
    | own xs =>
      obtain ⟨S', v, e2, r, cf', ex⟩ := cf.share e1 rfl
      exact key _ v _ ma S' e2 ex cf' r (SRes.later h ex)
    | ownK ks xs =>
      obtain ⟨S', v, e2, r, cf', ex⟩ := cf.share e1 rfl
      exact key _ v _ ma S' e2 ex cf' r (SRes.later h ex)
    | ownT ks xs =>
      obtain ⟨S', v, e2, r, cf', ex⟩ := cf.share e1 rfl
      exact key _ v _ ma S' e2 ex cf' r (SRes.later h ex)

/-! ### what a loop walks -/
def ItOk (K : PySem.W.Frag) (S : Hp) (ma : List Addr) (J : It) (items : List D) : Prop := ∃ (G : Hp → Prop) (Y : Nat → Hp → V → Hp → Prop), Walk J items.length G Y ∧ (∀ S1 H, Same S S1 → Same S1 H → G H) ∧
  ∀ i H x H', i < items.length → G H → Y i H x H' → ∃ d, items[i]? = some d ∧ ((H' = H ∧ ∀ S1 ma1, Ext ma S ma1 S1 → Rep K S1 ma1 d x) ∨ ∃ T o, H T = none ∧ H' = upd H T o ∧ ∀ S1 ma1, Ext ma S ma1 S1 → S1 T = none → Rep K (upd S1 T o) ma1 d x)
theorem ItOk.step {K : PySem.W.Frag} {S S1 : Hp} {ma ma1 : List Addr} {F H H' : Hp} {σ : L2.St} {ds : DS} {d : D} {x : V} (c1 : Cf K F ma1 S1 H σ ds) (ex : Ext ma S ma1 S1)
    (h : (H' = H ∧ ∀ S1 ma1, Ext ma S ma1 S1 → Rep K S1 ma1 d x) ∨ ∃ T o, H T = none ∧ H' = upd H T o ∧ ∀ S1 ma1, Ext ma S ma1 S1 → S1 T = none → Rep K (upd S1 T o) ma1 d x) :
    ∃ S2, Cf K F ma1 S2 H' σ ds ∧ Ext ma1 S1 ma1 S2 ∧ Rep K S2 ma1 d x := by
  rcases h with ⟨rfl, h⟩ | ⟨T, o, hT, rfl, h⟩
  · exact ⟨S1, c1, Ext.refl, h S1 ma1 ex⟩
  · obtain ⟨c2, e2⟩ := c1.lay o hT
    exact ⟨_, c2, e2, h S1 ma1 ex (c1.sub.free hT)⟩
abbrev RpI (K : PySem.W.Frag) : RpT (List D) It := fun _ ma S _ _ _ ds J => ItOk K S ma J ds
structure VI (c : SC) (tg iter : Expr) (f : M (List D)) : Prop where
  run : ∀ X W, Ok c X W → ∃ t : TI, PI X tg iter t ∧ ∀ F ma S H σ ds Q, Cf c.B.K F ma S H σ ds → Res c.B W F (RpI c.B.K) σ ma S (f ds) Q → t σ H Q
/-- over a list, a tuple, a text -/
def iSeq (K : PySem.W.Frag) (te : TE) : TI := fun σ H R => te σ H fun v H1 => (∃ a, v = .ref a ∧ (∃ xs, SqL K H1 a xs) ∧ R (Itl K a) H1) ∨ (∃ a, v = .ref a ∧ (∃ xs, SqT K H1 a xs) ∧ R (Itt K a) H1) ∨ ∃ z, v = .str z ∧ R (Its z) H1
theorem pi_seq {X : Cx} {tg l : Expr} {tl : TE} (hl : PE X l tl) : PI X tg l (iSeq X.K tl) := by
  refine ⟨fun pins s σ H R I h => ?_⟩
  refine thn (hl.run pins s σ H _ I h) fun v s1 ⟨x, H1, I1, r1, q1⟩ => ?_
  rcases q1 with ⟨a, e, ⟨xs, hq⟩, q⟩ | ⟨a, e, ⟨xs, hq⟩, q⟩ | ⟨x, ex, q⟩
  · subst e
    cases r1
    obtain ⟨its, rv, p, hz⟩ := I1.list hq
    refine wpAny_pyIter_list p.isList ?_
    refine ⟨s1.heap.objs.size, [s1.heap.objs.size], _, _, H1, rfl, I1.kept (t' := s1.toks) fun b o e => Heap.get?_push_of_some _ e, turn_list a _, ⟨_, Heap.get?_push_size _ rfl, rfl, rfl⟩, fun b hb => ?_, q⟩
    have e : b = s1.heap.objs.size := by simpa using hb
    subst e
    exact I1.fpOk (Nat.le_refl _) (I1.hok.fresh (Nat.le_refl _))
  · subst e
    cases r1
    obtain ⟨its, rv, p, hz⟩ := I1.tuple hq
    refine wpAny_pyIter_tuple (show s1.heap.IsTuple a its.toArray from p) ?_
    refine ⟨s1.heap.objs.size, [s1.heap.objs.size], _, _, H1, rfl, I1.kept (t' := s1.toks) fun b o e => Heap.get?_push_of_some _ e, turn_tuple a _, ⟨_, Heap.get?_push_size _ rfl, rfl, rfl⟩, fun b hb => ?_, q⟩
    have e : b = s1.heap.objs.size := by simpa using hb
    subst e
    exact I1.fpOk (Nat.le_refl _) (I1.hok.fresh (Nat.le_refl _))
  · subst ex
    obtain ⟨t, rfl⟩ := r1
    cases ha : x.cps.all (· < 128)
    · exact wpAny_pyIter_wide ha (pi_one (tk := s1.toks) I1 _ (turn_str _ x t "str_iterator" (.inr rfl)) ⟨_, Heap.get?_push_size _ rfl, rfl, rfl⟩ q)
    · exact wpAny_pyIter_ascii ha (pi_one (tk := s1.toks) I1 _ (turn_str _ x t "str_ascii_iterator" (.inl rfl)) ⟨_, Heap.get?_push_size _ rfl, rfl, rfl⟩ q)
/-- one sign as a text -/
def sign (n : Nat) : D := .str ⟨#[n]⟩
def itemsD : D → Option (List D)
  | .lst xs => some xs
  | .frl xs => some xs
  | .tup xs => some xs
  | .str z => some (z.cps.toList.map sign)
  | _ => none
def itM (f : M D) : M (List D) := bnd f fun d => opt (itemsD d)
theorem itOk_list {K : PySem.W.Frag} {S : Hp} {ma : List Addr} {a : Addr} {vs : List V} {xs : List D} (h : SqL K S a vs) (r : RepL K S ma xs vs) : ItOk K S ma (Itl K a) xs := by
  refine ⟨fun H => SqL K H a vs, YAt vs, by rw [r.length]; exact walk_list, fun S1 H s1 s2 => s2.seq (s1.seq h), fun i H x H' hi g y => ?_⟩
  obtain ⟨d, h1, h2⟩ := r.get' y.2
  exact ⟨d, h1, .inl ⟨y.1, fun S1 ma1 e => h2.mono e⟩⟩
theorem itOk_tup {K : PySem.W.Frag} {S : Hp} {ma : List Addr} {a : Addr} {vs : List V} {xs : List D} (h : SqT K S a vs) (r : RepL K S ma xs vs) : ItOk K S ma (Itt K a) xs := by
  refine ⟨fun H => SqT K H a vs, YAt vs, by rw [r.length]; exact walk_tup, fun S1 H s1 s2 => seqT s2 (seqT s1 h), fun i H x H' hi g y => ?_⟩
  obtain ⟨d, h1, h2⟩ := r.get' y.2
  exact ⟨d, h1, .inl ⟨y.1, fun S1 ma1 e => h2.mono e⟩⟩
theorem itOk_str {K : PySem.W.Frag} {S : Hp} {ma : List Addr} {z : Str} : ItOk K S ma (Its z) (z.cps.toList.map sign) := by
  refine ⟨fun _ => True, _, by rw [List.length_map, Array.length_toList]; exact walk_str, fun _ _ _ _ => trivial, fun i H x H' hi g y => ?_⟩
  obtain ⟨e, k, h1, rfl⟩ := y
  refine ⟨sign k, ?_, .inl ⟨e, fun S1 ma1 _ => .str _⟩⟩
  rw [List.getElem?_map, Array.getElem?_toList, h1]
  rfl
theorem i_seq {tg : Expr} (he : VE c e fe) : VI c tg e (itM fe) := by
  refine ⟨fun X W ok => ?_⟩
  obtain ⟨t, p, q⟩ := he.run X W ok
  obtain ⟨exc, k, isdef, fnc, rfl⟩ := ok.eq
  refine ⟨iSeq X.K t, pi_seq p, fun F ma S H σ ds Q cf h => ?_⟩
  refine q F ma S H σ ds _ cf (Res.bind h fun d ds1 ma1 S1 H1 v x c1 r1 h1 => ?_)
  cases r1 with
  | lst h2 h3 => exact .inl ⟨_, rfl, ⟨_, .inl (.inl (c1.sub _ _ h2))⟩, h1 ma1 S1 H1 _ Ext.refl c1 (itOk_list (.inl (.inl h2)) h3)⟩
  | frl h2 h3 => exact .inl ⟨_, rfl, ⟨_, c1.sub.seq h2⟩, h1 ma1 S1 H1 _ Ext.refl c1 (itOk_list h2 h3)⟩
  | tup h2 h3 => exact .inr (.inl ⟨_, rfl, ⟨_, seqT c1.sub h2⟩, h1 ma1 S1 H1 _ Ext.refl c1 (itOk_tup h2 h3)⟩)
  | str z => exact .inr (.inr ⟨z, rfl, h1 ma1 S1 H1 _ Ext.refl c1 itOk_str⟩)
  | _ => exact (show False from h1).elim
def rngL (lo : Int) (n : Nat) : List D := (List.range n).map fun i => .int (lo + (i : Nat))
theorem itOk_rng {K : PySem.W.Frag} {S : Hp} {ma : List Addr} {lo : Int} {n : Nat} : ItOk K S ma (Itr lo n) (rngL lo n) := by
  refine ⟨fun _ => True, _, by unfold rngL; rw [List.length_map, List.length_range]; exact walk_range, fun _ _ _ _ => trivial, fun i H x H' hi g y => ?_⟩
  obtain ⟨e, rfl⟩ := y
  refine ⟨.int (lo + i), ?_, .inl ⟨e, fun S1 ma1 _ => .int _⟩⟩
  unfold rngL at hi ⊢
  rw [List.length_map, List.length_range] at hi
  rw [List.getElem?_map, List.getElem?_range hi]
  rfl
def fits (i : Int) : Bool := decide (-(2 ^ 62) ≤ i ∧ i < 2 ^ 62)
def rng1 : List D → Option (List D)
  | [.int j] => if fits j = true then some (rngL 0 j.toNat) else none
  | _ => none
def rng2 : List D → Option (List D)
  | [.int i, .int j] => if fits i = true ∧ fits j = true then some (rngL i (j - i).toNat) else none
  | _ => none
theorem i_rng1 {tg a : Expr} {fs : M (List D)} (ha : VA c [a] fs) (hg : Glo c.sc "range") (hm : c.B.mg "range" = none) (hs : ∀ env : Env, starEach [a] env = [(false, eval a env)] := by intro _; rfl) :
    VI c tg (.Call (.Name "range" p) [a] [] pos) (bnd fs fun ds => opt (rng1 ds)) := by
  refine ⟨fun X W ok => ?_⟩
  obtain ⟨t, pa, q⟩ := ha.run X W ok
  obtain ⟨exc, k, isdef, fnc, rfl⟩ := ok.eq
  refine ⟨_, pi_range1 hg hm pa (hs X.env), fun F ma S H σ ds Q cf h => ?_⟩
  refine q F ma S H σ ds _ cf (Res.bind h fun d ds1 ma1 S1 H1 v x c1 r1 h1 => ?_)
  cases r1 with
  | nil => exact (show False from h1).elim
  | cons a1 b1 =>
    cases b1 with
    | cons _ _ => cases a1 <;> exact (show False from h1).elim
    | nil =>
      cases a1 with
      | int j =>
        have h1 : Res _ W F _ σ ma1 S1 (opt (if fits j = true then some (rngL 0 j.toNat) else none) ds1) Q := h1
        by_cases hj : fits j = true
        · rw [if_pos hj] at h1
          have hj := of_decide_eq_true hj
          exact ⟨j, rfl, hj.1, hj.2, h1 ma1 S1 H1 _ Ext.refl c1 itOk_rng⟩
        · rw [if_neg hj] at h1; exact h1.elim
      | _ => exact (show False from h1).elim
theorem i_rng2 {tg a b : Expr} {fs : M (List D)} (ha : VA c [a, b] fs) (hg : Glo c.sc "range") (hm : c.B.mg "range" = none) (hs : ∀ env : Env, starEach [a, b] env = [(false, eval a env), (false, eval b env)] := by intro _; rfl) (hs2 : ∀ env : Env, starEach [b] env = [(false, eval b env)] := by intro _; rfl) :
    VI c tg (.Call (.Name "range" p) [a, b] [] pos) (bnd fs fun ds => opt (rng2 ds)) := by
  refine ⟨fun X W ok => ?_⟩
  obtain ⟨t, pa, q⟩ := ha.run X W ok
  obtain ⟨exc, k, isdef, fnc, rfl⟩ := ok.eq
  refine ⟨_, pi_range2 hg hm pa (hs X.env) (hs2 X.env), fun F ma S H σ ds Q cf h => ?_⟩
  refine q F ma S H σ ds _ cf (Res.bind h fun d ds1 ma1 S1 H1 v x c1 r1 h1 => ?_)
  cases r1 with
  | nil => exact (show False from h1).elim
  | cons a1 b1 =>
    cases b1 with
    | nil => cases a1 <;> exact (show False from h1).elim
    | cons a2 b2 =>
      cases b2 with
      | cons _ _ => cases a1 <;> cases a2 <;> exact (show False from h1).elim
      | nil =>
        cases a1 with
        | int i =>
          cases a2 with
          | int j =>
            have h1 : Res _ W F _ σ ma1 S1 (opt (if fits i = true ∧ fits j = true then some (rngL i (j - i).toNat) else none) ds1) Q := h1
            by_cases hj : fits i = true ∧ fits j = true
            · rw [if_pos hj] at h1
              have h2 := of_decide_eq_true hj.1
              have h3 := of_decide_eq_true hj.2
              exact ⟨i, j, rfl, ⟨h2.1, h2.2, h3.1, h3.2⟩, h1 ma1 S1 H1 _ Ext.refl c1 itOk_rng⟩
            · rw [if_neg hj] at h1; exact h1.elim
          | _ => exact (show False from h1).elim
        | _ => exact (show False from h1).elim

/-! ### for -/
def forL (g : D → M Unit) (b : M Out) : List D → M Out
  | [] => rtn .nx
  | d :: r => bnd (g d) fun _ => bnd b fun o => match o with
    | .nx => forL g b r
    | .ct => forL g b r
    | .bk => rtn .nx
    | .rt v => rtn (.rt v)
def forM (fi : M (List D)) (g : D → M Unit) (b : M Out) : M Out := bnd fi fun items => forL g b items
theorem s_for {tg iter : Expr} {is : List Nat} {body : List Stmt} {fi : M (List D)} {ft : D → M Unit} {fb : M Out} (hc : c.calm = true) (hi : VI c tg iter fi) (hg : TG1 c tg is ft) (hb : VB c body fb)
    (hs : ∀ (env : Env) x, foldedSetIterable iter env x = pure x := by intro _ _; rfl) : VS c (.For tg iter body [] pos) (forM fi ft fb) := by
  refine ⟨fun X W ok => ?_⟩
  obtain ⟨ti, pi, qi⟩ := hi.run X W ok
  obtain ⟨tg', pg, qg⟩ := hg.run X W ok
  obtain ⟨tb, pb, qb⟩ := hb.run X W ok
  have own := ok.own
  obtain ⟨exc, k, isdef, fnc, rfl⟩ := ok.eq
  refine ⟨_, ps_for own hc pi pg pb (hs X.env), fun F ma S H σ ds E cf h => ?_⟩
  refine qi F ma S H σ ds _ cf (SRes.bind h fun items ds1 ma1 S1 H1 J x c1 r1 h1 => ?_)
  obtain ⟨G, Y, wk, hG, hY⟩ := r1
  refine for_it wk (fun i σ' H' => ∃ ma2 S2 ds2, Ext ma1 S1 ma2 S2 ∧ Cf X.K F ma2 S2 H' σ' ds2 ∧ SRes ⟨X.prog, X.w, X.K, X.mg, X.base, exc⟩ W F ma2 S2 (forL ft fb (items.drop i) ds2) E) ⟨ma1, S1, ds1, Ext.refl, c1, h1⟩ ?_ ?_ ?_
  · rintro i σ' H' hi ⟨ma2, S2, ds2, ex, c2, _⟩
    exact hG S2 H' ex.same c2.sub
  · rintro i v σ' H2 H3 hi ⟨ma2, S2, ds2, ex, c2, h2⟩ y
    obtain ⟨d, hd, st⟩ := hY i H2 v H3 hi (hG S2 H2 ex.same c2.sub) y
    obtain ⟨S3, c3, ex3, r3⟩ := ItOk.step c2 ex st
    have ed : items.drop i = d :: items.drop (i + 1) := by
      obtain ⟨hl, e⟩ := List.getElem?_eq_some_iff.mp hd
      rw [List.drop_eq_getElem_cons hl, e]
    rw [ed] at h2
    have h3 := SRes.later h2 ex3
    refine qg F ma2 S3 H3 σ' ds2 d v _ c3 r3 (SRes.bindT h3 fun _ ds4 ma4 S4 H4 σ4 ex4 c4 h4 => ?_)
    refine qb F ma4 S4 H4 σ4 ds4 _ c4 ?_
    have h4 : SRes _ W F ma4 S4 ((fb ds4).bind fun o s => (match o with
      | .nx => forL ft fb (items.drop (i + 1))
      | .ct => forL ft fb (items.drop (i + 1))
      | .bk => rtn .nx
      | .rt v => rtn (.rt v) : M Out) s) E := h4
    revert h4
    cases fb ds4 with
    | stuck => exact fun h => h
    | err ec ds5 => exact fun h => h
    | ok o ds5 =>
      intro h5 ma5 S5 H5 σ5 ex5 c5
      have exA : Ext ma1 S1 ma5 S5 := ((ex.trans ex3).trans ex4).trans ex5
      cases o with
      | nx => exact ⟨ma5, S5, ds5, exA, c5, SRes.later h5 ex5⟩
      | ct => exact ⟨ma5, S5, ds5, exA, c5, SRes.later h5 ex5⟩
      | bk => exact h5 ma5 S5 H5 σ5 ex5 c5
      | rt w => exact h5 ma5 S5 H5 σ5 ex5 c5
  · rintro σ' H' ⟨ma2, S2, ds2, ex, c2, h2⟩
    rw [List.drop_length] at h2
    exact h2 ma2 S2 H' σ' Ext.refl c2

/-! ### while -/
def whileN (t : M Bool) (b : M Out) : Nat → M Out
  | 0 => fun _ => .stuck
  | n + 1 => bnd t fun k => if k = true then bnd b fun o => match o with
    | .nx => whileN t b n
    | .ct => whileN t b n
    | .bk => rtn .nx
    | .rt v => rtn (.rt v)
    else rtn .nx
open Classical in
noncomputable def whileM (t : M Bool) (b : M Out) : M Out := fun s => if h : ∃ n, whileN t b n s ≠ .stuck then whileN t b h.choose s else .stuck
theorem whileN_more {t : M Bool} {b : M Out} : ∀ (n : Nat) (s : DS), whileN t b n s ≠ .stuck → whileN t b (n + 1) s = whileN t b n s
  | 0, s, h => absurd rfl h
  | n + 1, s, h => by
    have e1 : ∀ m, whileN t b (m + 1) s = (t s).bind fun k s' => (if k = true then bnd b fun o => match o with
      | .nx => whileN t b m
      | .ct => whileN t b m
      | .bk => rtn .nx
      | .rt v => rtn (.rt v)
      else rtn .nx : M Out) s' := fun m => rfl
    rw [e1] at h ⊢
    rw [e1 n]
    cases q : t s with
    | stuck => rfl
    | err _ _ => rfl
    | ok k s1 =>
      rw [q] at h
      cases k with
      | false => rfl
      | true =>
        have e2 : ∀ m, (R.ok true s1).bind (fun k s' => (if k = true then bnd b fun o => match o with
          | .nx => whileN t b m
          | .ct => whileN t b m
          | .bk => rtn .nx
          | .rt v => rtn (.rt v)
          else rtn .nx : M Out) s') = (b s1).bind fun o s' => (match o with
          | .nx => whileN t b m
          | .ct => whileN t b m
          | .bk => rtn .nx
          | .rt v => rtn (.rt v) : M Out) s' := fun m => rfl
        rw [e2] at h ⊢
        rw [e2 n]
        cases q2 : b s1 with
        | stuck => rfl
        | err _ _ => rfl
        | ok o s2 =>
          rw [q2] at h
          cases o with
          | nx => exact whileN_more n s2 h
          | ct => exact whileN_more n s2 h
          | bk => rfl
          | rt _ => rfl
theorem whileN_le {t : M Bool} {b : M Out} {n : Nat} {s : DS} (h : whileN t b n s ≠ .stuck) : ∀ m, n ≤ m → whileN t b m s = whileN t b n s := by
  intro m hm
  induction hm with
  | refl => rfl
  | @step m _ ih => rw [whileN_more m s (by rw [ih]; exact h), ih]
theorem whileM_of {t : M Bool} {b : M Out} (n : Nat) {s : DS} (h : whileN t b n s ≠ .stuck) : whileM t b s = whileN t b n s := by
  have hx : ∃ n, whileN t b n s ≠ .stuck := ⟨n, h⟩
  unfold whileM
  rw [dif_pos hx]
  rcases Nat.le_total n hx.choose with hl | hl
  · exact whileN_le h _ hl
  · exact (whileN_le hx.choose_spec _ hl).symm
theorem s_while {t : Expr} {body : List Stmt} {ft : M Bool} {fb : M Out} (ht : VT c t ft) (hb : VB c body fb) : VS c (.While t body [] pos) (whileM ft fb) := by
  refine ⟨fun X W ok => ?_⟩
  obtain ⟨tt, pt, qt⟩ := ht.run X W ok
  obtain ⟨tb, pb, qb⟩ := hb.run X W ok
  have own := ok.own
  obtain ⟨exc, k, isdef, fnc, rfl⟩ := ok.eq
  refine ⟨_, ps_while own pt pb, fun F ma S H σ ds E cf h => ?_⟩
  by_cases hx : ∃ n, whileN ft fb n ds ≠ .stuck
  · have e : whileM ft fb ds = whileN ft fb hx.choose ds := by unfold whileM; rw [dif_pos hx]
    rw [e] at h
    refine ⟨fun m σ' H' => ∃ ma2 S2 ds2, Ext ma S ma2 S2 ∧ Cf X.K F ma2 S2 H' σ' ds2 ∧ SRes ⟨X.prog, X.w, X.K, X.mg, X.base, exc⟩ W F ma2 S2 (whileN ft fb m ds2) E, ⟨_, ma, S, ds, Ext.refl, cf, h⟩, ?_⟩
    rintro m σ' H' ⟨ma2, S2, ds2, ex, c2, h2⟩
    cases m with
    | zero => exact h2.elim
    | succ m =>
      refine qt F ma2 S2 H' σ' ds2 _ c2 (SRes.bind h2 fun b ds3 ma3 S3 H3 v ex3 c3 r3 h3 => ?_)
      subst r3
      cases b with
      | false => rw [if_neg Bool.false_ne_true]; exact h3 ma3 S3 H3 σ' Ext.refl c3
      | true =>
        rw [if_pos rfl]
        refine ⟨fun σ4 H4 => ∃ ma2 S2 ds2, Ext ma S ma2 S2 ∧ Cf X.K F ma2 S2 H4 σ4 ds2 ∧ SRes ⟨X.prog, X.w, X.K, X.mg, X.base, exc⟩ W F ma2 S2 (whileN ft fb m ds2) E, fun σ4 H4 q => ⟨m, Nat.lt_succ_self m, q⟩, ?_⟩
        refine qb F ma3 S3 H3 σ' ds3 _ c3 ?_
        have h4 : SRes _ W F ma3 S3 ((fb ds3).bind fun o s => (match o with
          | .nx => whileN ft fb m
          | .ct => whileN ft fb m
          | .bk => rtn .nx
          | .rt v => rtn (.rt v) : M Out) s) E := h3
        revert h4
        cases fb ds3 with
        | stuck => exact fun h => h
        | err ec ds5 => exact fun h => h
        | ok o ds5 =>
          intro h5 ma5 S5 H5 σ5 ex5 c5
          have exA : Ext ma S ma5 S5 := (ex.trans ex3).trans ex5
          cases o with
          | nx => exact ⟨ma5, S5, ds5, exA, c5, SRes.later h5 ex5⟩
          | ct => exact ⟨ma5, S5, ds5, exA, c5, SRes.later h5 ex5⟩
          | bk => exact h5 ma5 S5 H5 σ5 ex5 c5
          | rt w => exact h5 ma5 S5 H5 σ5 ex5 c5
  · have e : whileM ft fb ds = .stuck := by unfold whileM; rw [dif_neg hx]
    rw [e] at h
    exact h.elim
end
end Vl
namespace Vl
open PySem PySem.Spec PyProof.Rows L2

/-! ### a comprehension's own names -/
def wipeE (env : List Slot) : List Nat → List Slot
  | [] => env
  | v :: vs => (wipeE env vs).set v .un
def wp (vs : List Nat) (s : DS) : DS := { s with env := wipeE s.env vs }
def anyOwn (vs : List Nat) (env : List Slot) : Bool := vs.any fun i => match env[i]? with
  | some s => s.isOwn
  | none => false
def restE (e0 e2 : List Slot) : List Nat → List Slot
  | [] => e2
  | v :: vs => (restE e0 e2 vs).set v (e0.getD v .un)
section
variable {K : PySem.W.Frag} {F : Hp} {ma : List Addr} {S H : Hp} {σ : L2.St} {ds : DS}
theorem Cf.wipe (c : Cf K F ma S H σ ds) : ∀ vs, Cf K F ma S H (wipe σ vs) (wp vs ds)
  | [] => c
  | v :: vs => (Cf.wipe c vs).drop v none
theorem restE_length (e0 e2 : List Slot) : ∀ vs, (restE e0 e2 vs).length = e2.length
  | [] => rfl
  | v :: vs => by unfold restE; rw [List.length_set, restE_length e0 e2 vs]
theorem restE_in {e0 e2 : List Slot} {i : Nat} {x : Slot} : ∀ {vs : List Nat}, (restE e0 e2 vs)[i]? = some x → (i ∈ vs ∧ x = e0.getD i .un) ∨ (i ∉ vs ∧ e2[i]? = some x)
  | [], h => .inr ⟨by simp, h⟩
  | v :: vs, h => by
    unfold restE at h
    rcases get_set h with ⟨rfl, q⟩ | ⟨hne, q⟩
    · exact .inl ⟨List.mem_cons_self, q⟩
    · rcases restE_in q with ⟨h1, h2⟩ | ⟨h1, h2⟩
      · exact .inl ⟨List.mem_cons_of_mem _ h1, h2⟩
      · exact .inr ⟨by simp only [List.mem_cons, not_or]; exact ⟨fun e => hne e.symm, h1⟩, h2⟩
theorem getD_val {e0 : List Slot} {i : Nat} {x : Slot} (h : x = e0.getD i .un) (hx : x ≠ .un) : e0[i]? = some x := by
  rw [List.getD_eq_getElem?_getD] at h
  cases e : e0[i]? with
  | none => rw [e] at h; exact absurd h hx
  | some y => rw [e] at h; rw [h]; rfl
theorem Cf.restore {F0 : Hp} {ma0 : List Addr} {S0 H0 : Hp} {ds0 : DS} {vs : List Nat} (c0 : Cf K F0 ma0 S0 H0 σ ds0) (ex : Ext ma0 S0 ma S) (c : Cf K F ma S H (L2.wipe σ vs) ds) (no : anyOwn vs ds0.env = false) :
    Cf K F ma S H σ { ds with env := restE ds0.env ds.env vs } where
  sub := c.sub
  fr := c.fr
  dis := c.dis
  len := by
    have := c.len
    rw [wipe_length] at this
    show σ.length = (restE ds0.env ds.env vs).length
    rw [restE_length]; exact this
  val := fun i d h => by
    have h : (restE ds0.env ds.env vs)[i]? = some (.val d) := h
    rcases restE_in h with ⟨h1, h2⟩ | ⟨h1, h2⟩
    · obtain ⟨v, e1, r⟩ := c0.val i d (getD_val h2 (fun z => by cases z))
      exact ⟨v, e1, r.mono ex⟩
    · obtain ⟨v, e1, r⟩ := c.val i d h2
      exact ⟨v, (wipe_some e1).1, r⟩
  own := fun i s h hs => by
    have h : (restE ds0.env ds.env vs)[i]? = some s := h
    rcases restE_in h with ⟨h1, h2⟩ | ⟨h1, h2⟩
    · have e := getD_val h2 (fun z => by subst z; cases hs)
      unfold anyOwn at no
      rw [List.any_eq_false] at no
      have := no i h1
      rw [e] at this
      exact absurd hs this
    · obtain ⟨p, ws, e1, r⟩ := c.own i s h2 hs
      exact ⟨p, ws, (wipe_some e1).1, r⟩
  apart := fun i j s u p h1 h2 hs hu e1 e2 => by
    have h1 : (restE ds0.env ds.env vs)[i]? = some s := h1
    have h2 : (restE ds0.env ds.env vs)[j]? = some u := h2
    have key : ∀ i s, (restE ds0.env ds.env vs)[i]? = some s → s.isOwn = true → i ∉ vs ∧ ds.env[i]? = some s := fun i s h hs => by
      rcases restE_in h with ⟨h1, h2⟩ | ⟨h1, h2⟩
      · have e := getD_val h2 (fun z => by subst z; cases hs)
        unfold anyOwn at no
        rw [List.any_eq_false] at no
        have := no i h1
        rw [e] at this
        exact absurd hs this
      · exact ⟨h1, h2⟩
    obtain ⟨n1, g1⟩ := key i s h1 hs
    obtain ⟨n2, g2⟩ := key j u h2 hu
    exact c.apart i j s u p g1 g2 hs hu (by rw [wipe_out n1]; exact e1) (by rw [wipe_out n2]; exact e2)
  mlen := c.mlen
  mem := c.mem
  nd := c.nd
/-- an object is kept around -/
theorem Cf.frame (c : Cf K F ma S H σ ds) {p : Addr} {o : HO} (h : H p = some o) (f : Fre F ma S σ ds.env p) : Cf K (upd F p o) ma S H σ ds where
  sub := c.sub
  fr := fun b u e => by
    by_cases hb : b = p
    · subst hb; rw [upd_same] at e; cases e; exact h
    · rw [upd_ne hb] at e; exact c.fr b u e
  dis := fun b u e => by
    by_cases hb : b = p
    · subst hb; exact f.s
    · rw [upd_ne hb] at e; exact c.dis b u e
  len := c.len
  val := c.val
  own := fun i s h1 h2 => by
    obtain ⟨q, vs, z1, z2, z3, z4, z5, z6⟩ := c.own i s h1 h2
    have hq : q ≠ p := fun z => f.o i s h1 h2 (by rw [← z]; exact z1)
    exact ⟨q, vs, z1, z2, z3, by rw [upd_ne hq]; exact z4, z5, z6⟩
  apart := c.apart
  mlen := c.mlen
  mem := fun n a u h1 h2 => by
    obtain ⟨vs, z1, z2, z3, z4⟩ := c.mem n a u h1 h2
    have hq : a ≠ p := fun z => f.m (by rw [← z]; exact List.mem_of_getElem? h1)
    exact ⟨vs, z1, z2, by rw [upd_ne hq]; exact z3, z4⟩
  nd := c.nd
/-- .. it is free again -/
theorem Cf.unframe {p : Addr} {o : HO} (c : Cf K (upd F p o) ma S H σ ds) (hF : F p = none) : Cf K F ma S H σ ds ∧ Fre F ma S σ ds.env p ∧ H p = some o := by
  have up : ∀ b u, F b = some u → upd F p o b = some u := fun b u e => by
    rw [upd_ne (ne_of_none e hF)]; exact e
  have dn : ∀ b, upd F p o b = none → F b = none ∧ b ≠ p := fun b e => by
    by_cases hb : b = p
    · subst hb; rw [upd_same] at e; cases e
    · rw [upd_ne hb] at e; exact ⟨e, hb⟩
  refine ⟨⟨c.sub, fun b u e => c.fr b u (up b u e), fun b u e => c.dis b u (up b u e), c.len, c.val, fun i s h1 h2 => ?_, c.apart, c.mlen, fun n a u h1 h2 => ?_, c.nd⟩, ⟨c.dis p o upd_same, hF, fun z => ?_, fun j s h1 h2 h3 => ?_⟩, c.fr p o upd_same⟩
  · obtain ⟨q, vs, z1, z2, z3, z4, z5⟩ := c.own i s h1 h2
    exact ⟨q, vs, z1, z2, z3, (dn q z4).1, z5⟩
  · obtain ⟨vs, z1, z2, z3, z4⟩ := c.mem n a u h1 h2
    exact ⟨vs, z1, z2, (dn a z3).1, z4⟩
  · exact (dn p (c.mfree z).2.1).2 rfl
  · obtain ⟨q, vs, z1, z2, z3, z4, z5⟩ := c.own j s h1 h2
    rw [h3] at z1
    cases z1
    exact (dn p z4).2 rfl
/-- a free object is written -/
theorem Cf.freeWrite (c : Cf K F ma S H σ ds) {p : Addr} {o : HO} (f : Fre F ma S σ ds.env p) : Cf K F ma S (upd H p o) σ ds where
  sub := fun b u e => by
    have hb : b ≠ p := fun z => by rw [z, f.s] at e; cases e
    rw [upd_ne hb]; exact c.sub b u e
  fr := fun b u e => by
    have hb : b ≠ p := fun z => by rw [z, f.f] at e; cases e
    rw [upd_ne hb]; exact c.fr b u e
  dis := c.dis
  len := c.len
  val := c.val
  own := fun i s h1 h2 => by
    obtain ⟨q, vs, z1, z2, z3⟩ := c.own i s h1 h2
    have hq : q ≠ p := fun z => f.o i s h1 h2 (by rw [← z]; exact z1)
    exact ⟨q, vs, z1, by rw [upd_ne hq]; exact z2, z3⟩
  apart := c.apart
  mlen := c.mlen
  mem := fun n a u h1 h2 => by
    obtain ⟨vs, z1, z2⟩ := c.mem n a u h1 h2
    have hq : a ≠ p := fun z => f.m (by rw [← z]; exact List.mem_of_getElem? h1)
    exact ⟨vs, by rw [upd_ne hq]; exact z1, z2⟩
  nd := c.nd
/-- the names aside -/
theorem Cf.bare (c : Cf K F ma S H σ ds) : Cf K F ma S H [] ⟨[], ds.mem⟩ where
  sub := c.sub
  fr := c.fr
  dis := c.dis
  len := rfl
  val := fun i d h => by simp at h
  own := fun i d h => by simp at h
  apart := fun i j s u p h => by simp at h
  mlen := c.mlen
  mem := c.mem
  nd := c.nd
/-- further names, unknown -/
theorem Cf.pad {xs : List D} {m : List MO} {vs : List V} (c : Cf K F ma S H (vs.map some) ⟨xs.map .val, m⟩) (n : Nat) : Cf K F ma S H (vs.map some ++ List.replicate n none) ⟨xs.map .val ++ List.replicate n .un, m⟩ where
  sub := c.sub
  fr := c.fr
  dis := c.dis
  len := by have := c.len; simp only [List.length_map] at this; simp [this]
  val := fun i d h => by
    have hl := c.len
    simp only [List.length_map] at hl
    have h : (xs.map Slot.val ++ List.replicate n .un)[i]? = some (.val d) := h
    by_cases hi : i < xs.length
    · rw [List.getElem?_append_left (by simpa using hi)] at h
      obtain ⟨v, e1, r⟩ := c.val i d h
      exact ⟨v, by rw [List.getElem?_append_left (by simp; omega)]; exact e1, r⟩
    · rw [List.getElem?_append_right (by simpa using hi), List.getElem?_replicate] at h
      split at h <;> cases h
  own := fun i s h hs => by
    have h : (xs.map Slot.val ++ List.replicate n .un)[i]? = some s := h
    by_cases hi : i < xs.length
    · rw [List.getElem?_append_left (by simpa using hi), List.getElem?_map] at h
      cases q : xs[i]? with
      | none => rw [q] at h; cases h
      | some x => rw [q] at h; cases h; cases hs
    · rw [List.getElem?_append_right (by simpa using hi), List.getElem?_replicate] at h
      split at h <;> cases h
      cases hs
  apart := fun i j s u p h _ hs => by
    have h : (xs.map Slot.val ++ List.replicate n .un)[i]? = some s := h
    by_cases hi : i < xs.length
    · rw [List.getElem?_append_left (by simpa using hi), List.getElem?_map] at h
      cases q : xs[i]? with
      | none => rw [q] at h; cases h
      | some x => rw [q] at h; cases h; cases hs
    · rw [List.getElem?_append_right (by simpa using hi), List.getElem?_replicate] at h
      split at h <;> cases h
      cases hs
  mlen := c.mlen
  mem := c.mem
  nd := c.nd
theorem wipe_get {σ : L2.St} {i : Nat} : ∀ {vs : List Nat}, i ∈ vs → (wipe σ vs)[i]? = if i < σ.length then some none else none
  | v :: vs, h => by
    unfold L2.wipe
    by_cases hv : v = i
    · subst hv
      by_cases hl : v < σ.length
      · rw [if_pos hl, List.getElem?_set_self (by rw [wipe_length]; exact hl)]
      · rw [if_neg hl, List.getElem?_eq_none (by rw [List.length_set, wipe_length]; omega)]
    · rw [List.getElem?_set_ne hv]
      rcases List.mem_cons.mp h with e | h
      · exact absurd e.symm hv
      · exact wipe_get h
theorem wipe_eq {σ σ2 : L2.St} {is vs : List Nat} (t : Tch is (wipe σ vs) σ2) (h : ∀ i ∈ is, i ∈ vs) : wipe σ2 vs = wipe σ vs := by
  have hl : σ2.length = σ.length := by rw [t.1, wipe_length]
  refine List.ext_getElem? fun j => ?_
  by_cases hj : j ∈ vs
  · rw [wipe_get hj, wipe_get hj, hl]
  · rw [wipe_out hj, t.2 j fun z => hj (h j z)]
end

/-! ### comprehensions -/
def noErr {α : Type} : R α → R α
  | .err _ _ => .stuck
  | r => r
def lcL (vs : List Nat) (g : D → M Unit) (t : M Bool) (el : M D) : List D → List D → M (List D)
  | [], acc => fun s => .ok acc (wp vs s)
  | d :: r, acc => fun s => (g d (wp vs s)).bind fun _ s1 => (t s1).bind fun k s2 => if k = true then (el s2).bind fun y s3 => lcL vs g t el r (acc ++ [y]) s3 else lcL vs g t el r acc s2
def compM (vs : List Nat) (fi : M (List D)) (g : D → M Unit) (t : M Bool) (el : M D) : M (List D) := bnd fi fun items s1 => if anyOwn vs s1.env = false ∧ items.length ≤ 1000000 then
  (noErr (lcL vs g t el items [] s1)).bind fun acc s2 => .ok acc { s2 with env := restE s1.env s2.env vs } else .stuck
structure VTs (c : SC) (ifs : List Expr) (f : M Bool) : Prop where
  run : ∀ X W, Ok c X W → ∃ t : TT, PTs X ifs t ∧ ∀ F ma S H σ ds Q, Cf c.B.K F ma S H σ ds → Res c.B W F RpB σ ma S (f ds) Q → t σ H Q
theorem ts_nil {c : SC} : VTs c [] (rtn true) := ⟨fun X W ok => ⟨tYes, pts_nil, fun F ma S H σ ds Q cf h => h ma S H true Ext.refl cf rfl⟩⟩
theorem ts_one {c : SC} {e : Expr} {f : M Bool} (h : VT c e f) : VTs c [e] f := ⟨fun X W ok => by
  obtain ⟨t, p, q⟩ := h.run X W ok
  exact ⟨t, pts_one p, q⟩⟩
/-- within a block -/
def SC.blk (c : SC) (scope : Scope) : SC := { c with sc := relS scope c.sc, isdef := false, fnc := fun x => scope.names.lookup x == some .cell }
abbrev W0 : WX := fun _ _ _ _ => False
theorem Ok.blk {c : SC} {X : Cx} {W : WX} (ok : Ok c X W) (scope : Scope) (s : Shared) (H : Hp) (C : Addr) (cl : List (Str × Addr)) (fp : List Addr) : Ok (c.blk scope) (X.blk s H scope (compEnvC scope cl C X.env) fp) W0 := by
  obtain ⟨⟨exc, k, isdef, fnc, rfl⟩, h2, h3, h4, h5, h6, h7⟩ := ok
  exact ⟨⟨exc, k, _, _, rfl⟩, h2, h3, fun x h => h, takes0, PassesOwn.never, fun h => absurd (show false = true from h) Bool.false_ne_true⟩
section
variable {c : SC} {pos : Pos}
/-- what lcL's outcome wants -/
def LRes (K : PySem.W.Frag) (F : Hp) (p : Addr) (σ : L2.St) (ma : List Addr) (S : Hp) (r : R (List D)) (Q : Hp → Prop) : Prop :=
  match r with
  | .ok acc ds => ∀ ma' S' H' vs, Ext ma S ma' S' → Cf K (upd F p (.lst vs)) ma' S' H' σ ds → RepL K S' ma' acc vs → Q H'
  | _ => False
theorem LRes.later {K : PySem.W.Frag} {F : Hp} {p : Addr} {σ : L2.St} {ma ma1 : List Addr} {S S1 : Hp} {r : R (List D)} {Q : Hp → Prop} (h : LRes K F p σ ma S r Q) (e : Ext ma S ma1 S1) : LRes K F p σ ma1 S1 r Q := by
  cases r with
  | ok a ds => exact fun ma' S' H' vs x => h ma' S' H' vs (e.trans x)
  | err c ds => exact h
  | stuck => exact h
theorem LRes.bind {α β : Type} {B : Bs} {F1 F : Hp} {Rp : RpT α β} {p : Addr} {σ σ1 : L2.St} {ma : List Addr} {S : Hp} {r : R α} {g : α → DS → R (List D)} {Q : Hp → Prop} {Q1 : β → Hp → Prop} (h : LRes B.K F p σ ma S (r.bind g) Q)
    (k : ∀ a ds ma1 S1 H1 b, Ext ma S ma1 S1 → Cf B.K F1 ma1 S1 H1 σ1 ds → Rp F1 ma1 S1 H1 σ1 ds a b → LRes B.K F p σ ma1 S1 (g a ds) Q → Q1 b H1) : Res B W0 F1 Rp σ1 ma S r Q1 := by
  cases r with
  | ok a ds => exact fun ma' S' H' b x cf rp => k a ds ma' S' H' b x cf rp (LRes.later h x)
  | err c ds => exact h.elim
  | stuck => exact h
theorem LRes.bindT {B : Bs} {F1 F : Hp} {is : List Nat} {p : Addr} {σ σ1 : L2.St} {ma : List Addr} {S : Hp} {r : R Unit} {g : Unit → DS → R (List D)} {Q : Hp → Prop} {Q1 : L2.St → Hp → Prop} (h : LRes B.K F p σ ma S (r.bind g) Q)
    (k : ∀ a ds ma1 S1 H1 σ2, Ext ma S ma1 S1 → Cf B.K F1 ma1 S1 H1 σ2 ds → Tch is σ1 σ2 → LRes B.K F p σ ma1 S1 (g a ds) Q → Q1 σ2 H1) : TRes B W0 F1 is σ1 ma S r Q1 := by
  cases r with
  | ok a ds => exact fun ma' S' H' σ' x cf t => k a ds ma' S' H' σ' x cf t (LRes.later h x)
  | err c ds => exact h.elim
  | stuck => exact h
theorem lc_reads {elt tg iter : Expr} {ifs : List Expr} {scope : Scope} {vs is : List Nat} {fi : M (List D)} {ft : D → M Unit} {tt : M Bool} {fe : M D} {X : Cx} {W : WX} (ok : Ok c X W) (hi : VI c tg iter fi) (hg : TG1 (c.blk scope) tg is ft) (his : ∀ i ∈ is, i ∈ vs)
    (ht : VTs (c.blk scope) ifs tt) (he : VE (c.blk scope) elt fe) : ∃ (wi : TI) (g : TG) (t : TT) (te : TE), PI X tg iter wi ∧
      (∀ (s : Shared) (H : Hp) (C : Addr) (cl : List (Str × Addr)) (fp : List Addr), PG (X.blk s H scope (compEnvC scope cl C X.env) fp) tg g) ∧
      (∀ (s : Shared) (H : Hp) (C : Addr) (cl : List (Str × Addr)) (fp : List Addr), PTs (X.blk s H scope (compEnvC scope cl C X.env) fp) ifs t) ∧
      (∀ (s : Shared) (H : Hp) (C : Addr) (cl : List (Str × Addr)) (fp : List Addr), PE (X.blk s H scope (compEnvC scope cl C X.env) fp) elt te) ∧
      ∀ F ma S H σ ds Q, Cf c.B.K F ma S H σ ds → Res c.B W F (RpF c.B.K) σ ma S (compM vs fi ft tt fe ds) Q → tLc wi g t te vs σ H Q := by
  obtain ⟨wi, pi, qi⟩ := hi.run X W ok
  have hg' := fun s H C cl fp => hg.run _ _ (ok.blk scope s H C cl fp)
  have ht' := fun s H C cl fp => ht.run _ _ (ok.blk scope s H C cl fp)
  have he' := fun s H C cl fp => he.run _ _ (ok.blk scope s H C cl fp)
  refine ⟨wi, fun v σ H Q => ∀ s H0 C cl fp, (hg' s H0 C cl fp).choose v σ H Q, fun σ H Q => ∀ s H0 C cl fp, (ht' s H0 C cl fp).choose σ H Q, fun σ H Q => ∀ s H0 C cl fp, (he' s H0 C cl fp).choose σ H Q, pi,
    fun s H C cl fp => ⟨fun pins s' σ H' v u Q I r h => (hg' s H C cl fp).choose_spec.1.run pins s' σ H' v u Q I r (h s H C cl fp)⟩,
    fun s H C cl fp => ⟨fun pins s' σ H' Q I h => (ht' s H C cl fp).choose_spec.1.run pins s' σ H' Q I (h s H C cl fp)⟩,
    fun s H C cl fp => ⟨fun pins s' σ H' Q I h => (he' s H C cl fp).choose_spec.1.run pins s' σ H' Q I (h s H C cl fp)⟩, fun F ma S H σ ds Q cf h => ?_⟩
  have qg := fun s H C cl fp => (hg' s H C cl fp).choose_spec.2
  have qt := fun s H C cl fp => (ht' s H C cl fp).choose_spec.2
  have qe := fun s H C cl fp => (he' s H C cl fp).choose_spec.2
  refine qi F ma S H σ ds _ cf (Res.bind h fun items ds1 ma1 S1 H1 J x c1 r1 h1 => ?_)
  intro p hp
  have h1 : Res c.B W F (RpF c.B.K) σ ma1 S1 (if anyOwn vs ds1.env = false ∧ items.length ≤ 1000000 then (noErr (lcL vs ft tt fe items [] ds1)).bind fun acc s2 => .ok acc { s2 with env := restE ds1.env s2.env vs } else .stuck) Q := h1
  by_cases hb : anyOwn vs ds1.env = false ∧ items.length ≤ 1000000
  · rw [if_pos hb] at h1
    obtain ⟨no, hz⟩ := hb
    have hz2 : (1000000 : Nat) < sizeLine := by rw [sizeLine_eq]; decide
    obtain ⟨G, Y, wk, hG, hY⟩ := r1
    have fp0 : F p = none := c1.fr.free hp
    -- the whole loop's outcome
    have hL : LRes c.B.K F p (wipe σ vs) ma1 S1 (lcL vs ft tt fe items [] ds1) (fun H' => Q (.ref p) H') := by
      revert h1
      cases lcL vs ft tt fe items [] ds1 with
      | stuck => exact fun h => h
      | err _ _ => exact fun h => h
      | ok acc ds2 =>
        intro h1 ma2 S2 H2 us ex cf2 r2
        obtain ⟨c3, f3, h3⟩ := cf2.unframe fp0
        have c4 := Cf.restore c1 ex c3 no
        refine h1 ma2 S2 H2 _ ex c4 ⟨p, us, rfl, h3, ⟨f3.s, f3.f, f3.m, fun j s e1 e2 e3 => ?_⟩, r2⟩
        have e1 : (restE ds1.env ds2.env vs)[j]? = some s := e1
        rcases restE_in e1 with ⟨h5, h6⟩ | ⟨h5, h6⟩
        · have e := getD_val h6 (fun z => by subst z; cases e2)
          obtain ⟨q, ws, z1, z2, _⟩ := c1.own j s e e2
          rw [e3] at z1; cases z1
          rw [hp] at z2; cases z2
        · exact f3.o j s h6 e2 (by rw [wipe_out h5]; exact e3)
    refine lc_it (g := fun v σ H Q => ∀ s H0 C cl fp, (hg' s H0 C cl fp).choose v σ H Q) (tt := fun σ H Q => ∀ s H0 C cl fp, (ht' s H0 C cl fp).choose σ H Q) (te := fun σ H Q => ∀ s H0 C cl fp, (he' s H0 C cl fp).choose σ H Q) (Qd := fun H => Q (.ref p) H) wk (fun i H' => ∃ ma2 S2 ds2 acc us, Ext ma1 S1 ma2 S2 ∧ Cf c.B.K (upd F p (.lst us)) ma2 S2 H' (wipe σ vs) (wp vs ds2) ∧ RepL c.B.K S2 ma2 acc us ∧ acc.length ≤ i ∧
      LRes c.B.K F p (wipe σ vs) ma2 S2 (lcL vs ft tt fe (items.drop i) acc ds2) (fun H' => Q (.ref p) H')) ?_ ?_ ?_ ?_
    · have c2 := (c1.grow (.lst []) hp).wipe vs
      have f2 : Fre F ma1 S1 (wipe σ vs) (wp vs ds1).env p := ((c1.wipe vs).fre hp)
      exact ⟨ma1, S1, ds1, [], [], Ext.refl, c2.frame upd_same f2, .nil, Nat.zero_le _, hL⟩
    · rintro i H' hi ⟨ma2, S2, ds2, acc, us, ex, c2, _⟩
      exact hG S2 H' ex.same c2.sub
    · rintro i v H2 H3 hi ⟨ma2, S2, ds2, acc, us, ex, c2, ra, hla, h2⟩ y
      obtain ⟨d, hd, st⟩ := hY i H2 v H3 hi (hG S2 H2 ex.same c2.sub) y
      obtain ⟨S3, c3, ex3, r3⟩ := ItOk.step c2 ex st
      have ed : items.drop i = d :: items.drop (i + 1) := by
        obtain ⟨hl, e⟩ := List.getElem?_eq_some_iff.mp hd
        rw [List.drop_eq_getElem_cons hl, e]
      rw [ed] at h2
      have h3 : LRes c.B.K F p (wipe σ vs) ma2 S3 ((ft d (wp vs ds2)).bind fun _ s1 => (tt s1).bind fun k s2 => if k = true then (fe s2).bind fun y s3 => lcL vs ft tt fe (items.drop (i + 1)) (acc ++ [y]) s3 else lcL vs ft tt fe (items.drop (i + 1)) acc s2) _ := LRes.later h2 ex3
      intro s H0 C cl fp
      refine qg s H0 C cl fp _ ma2 S3 H3 _ (wp vs ds2) d v _ c3 r3 (LRes.bindT (is := is) h3 fun _ ds4 ma4 S4 H4 σ4 ex4 c4 tc h4 => ?_)
      refine ⟨wipe_eq tc his, fun s H0 C cl fp => ?_⟩
      refine qt s H0 C cl fp _ ma4 S4 H4 σ4 ds4 _ c4 (LRes.bind (B := c.B) h4 fun k ds5 ma5 S5 H5 b ex5 c5 r5 h5 => ?_)
      subst r5
      have fin : ∀ {ma6 : List Addr} {S6 H6 : Hp} {ds6 : DS} {us' : List V}, Cf c.B.K (upd F p (.lst us')) ma6 S6 H6 σ4 ds6 → Cf c.B.K (upd F p (.lst us')) ma6 S6 H6 (wipe σ vs) (wp vs ds6) := fun {ma6 S6 H6 ds6 us'} q => by
        have := q.wipe vs
        rw [wipe_eq tc his] at this
        exact this
      have ex5' : Ext ma1 S1 ma5 S5 := ((ex.trans ex3).trans ex4).trans ex5
      cases k with
      | false =>
        rw [if_neg Bool.false_ne_true] at h5 ⊢
        exact ⟨ma5, S5, ds5, acc, us, ex5', fin c5, (ra.mono ((ex3.trans ex4).trans ex5)), Nat.le_succ_of_le hla, h5⟩
      | true =>
        rw [if_pos rfl] at h5 ⊢
        intro s H0 C cl fp
        refine qe s H0 C cl fp _ ma5 S5 H5 σ4 ds5 _ c5 (LRes.bind (B := c.B) h5 fun yd ds6 ma6 S6 H6 yv ex6 c6 r6 h6 => ?_)
        have ra6 : RepL c.B.K S6 ma6 acc us := ra.mono (((ex3.trans ex4).trans ex5).trans ex6)
        have e6 : H6 p = some (.lst us) := c6.fr p _ upd_same
        have hul : us.length < sizeLine := by rw [← ra6.length]; omega
        refine ⟨us, e6, hul, ma6, S6, ds6, acc ++ [yd], us ++ [yv], ex5'.trans ex6, ?_, ra6.app (.cons r6 .nil), by simp; omega, h6⟩
        have c7 := fin c6
        obtain ⟨c8, f8, _⟩ := c7.unframe fp0
        exact (c8.freeWrite f8).frame upd_same f8
    · rintro H' ⟨ma2, S2, ds2, acc, us, ex, c2, ra, hla, h2⟩
      rw [List.drop_length] at h2
      exact h2 ma2 S2 H' us Ext.refl c2 ra
  · rw [if_neg hb] at h1; exact h1.elim
theorem f_lc {elt tg iter : Expr} {ifs : List Expr} {scope : Scope} (own : List (Str × Nat)) {is : List Nat} {fi : M (List D)} {ft : D → M Unit} {tt : M Bool} {fe : M D} (hc : c.calm = true) (okB : BlkOk c.N c.sc scope own) (hi : VI c tg iter fi) (hg : TG1 (c.blk scope) tg is ft)
    (ht : VTs (c.blk scope) ifs tt) (he : VE (c.blk scope) elt fe) (his : ∀ i ∈ is, i ∈ own.map (·.2)) (hs : ∀ (env : Env) x, foldedSetIterable iter env x = pure x := by intro _ _; rfl) : VF c (.ListComp elt [⟨tg, iter, ifs, 0⟩] scope pos) (compM (own.map (·.2)) fi ft tt fe) := by
  refine ⟨fun X W ok => ?_⟩
  obtain ⟨wi, g, t, te, h1, h2, h3, h4, h5⟩ := lc_reads ok hi hg his ht he
  have nd := ok.nd
  obtain ⟨exc, k, isdef, fnc, rfl⟩ := ok.eq
  exact ⟨_, pe_lc hc nd h1 okB h2 h3 h4 (hs X.env), h5⟩
theorem sw_of {elt : Expr} {gs : List Comprehension} {scope sc : Scope} {lpos py : Pos} {y : Str} {l : Nat} (hk : sc.kind = .function) (hy : sc.names.lookup y = some .local) (hl : (py.line == lpos.line) = true)
    (ha : (scope.names.any fun (n, k) => n == y && (k == .local || k == .cell)) = false) (env : Env) (e : env.scope = sc) : swapsWith (.ListComp elt gs scope lpos) (some (.Name y py)) l env = pure true := by
  subst e
  exact sw_true hk hy hl ha
/-- name = [..] -/
theorem s_setLc (i : Nat) {y : Str} {py : Pos} {elt tg iter : Expr} {ifs : List Expr} {scope : Scope} {lpos : Pos} (own : List (Str × Nat)) {is : List Nat} {fi : M (List D)} {ft : D → M Unit} {tt : M Bool} {fe : M D} (hc : c.calm = true) (hN : c.N[i]? = some y) (hyl : c.sc.names.lookup y = some .local)
    (hsw : ∀ env : Env, env.scope = c.sc → swapsWith (.ListComp elt [⟨tg, iter, ifs, 0⟩] scope lpos) (some (.Name y py)) pos.line env = pure true) (okB : BlkOk c.N c.sc scope own) (hi : VI c tg iter fi) (hg : TG1 (c.blk scope) tg is ft)
    (ht : VTs (c.blk scope) ifs tt) (he : VE (c.blk scope) elt fe) (his : ∀ i ∈ is, i ∈ own.map (·.2)) (hs : ∀ (env : Env) x, foldedSetIterable iter env x = pure x := by intro _ _; rfl) :
    VS c (.Assign [.Name y py] (.ListComp elt [⟨tg, iter, ifs, 0⟩] scope lpos) pos) (asgM (shutM (compM (own.map (·.2)) fi ft tt fe)) (setM i)) := by
  refine ⟨fun X W ok => ?_⟩
  obtain ⟨wi, g, t, te, h1, h2, h3, h4, h5⟩ := lc_reads ok hi hg his ht he
  have nd := ok.nd
  obtain ⟨exc, k, isdef, fnc, rfl⟩ := ok.eq
  refine ⟨_, ps_setLc hc nd hN hyl (hsw X.env rfl) h1 okB h2 h3 h4 (hs X.env), fun F ma S H σ ds E cf h => ?_⟩
  have h : SRes _ W F ma S (((compM (own.map (·.2)) fi ft tt fe ds).bind fun x s => rtn (D.lst x) s).bind fun d s => bnd (setM i d) (fun _ => rtn .nx) s) E := h
  refine h5 F ma S H σ ds _ cf ?_
  revert h
  cases compM (own.map (·.2)) fi ft tt fe ds with
  | stuck => exact fun h => h
  | err ec ds1 => exact fun h ma1 S1 H1 ex c1 => h ma1 S1 H1 σ ex c1
  | ok xs ds1 =>
    intro h ma1 S1 H1 v ex c1 r
    obtain ⟨p, vs, rfl, hp, f, r⟩ := r
    obtain ⟨c2, ex2⟩ := c1.adopt hp f
    exact h ma1 _ H1 _ (ex.trans ex2) (c2.put (.lst upd_same (r.mono ex2)) i)
/-- .. the name's own -/
theorem s_ownLc (i : Nat) {y : Str} {py : Pos} {elt tg iter : Expr} {ifs : List Expr} {scope : Scope} {lpos : Pos} (own : List (Str × Nat)) {is : List Nat} {fi : M (List D)} {ft : D → M Unit} {tt : M Bool} {fe : M D} (hc : c.calm = true) (hN : c.N[i]? = some y) (hyl : c.sc.names.lookup y = some .local)
    (hsw : ∀ env : Env, env.scope = c.sc → swapsWith (.ListComp elt [⟨tg, iter, ifs, 0⟩] scope lpos) (some (.Name y py)) pos.line env = pure true) (okB : BlkOk c.N c.sc scope own) (hi : VI c tg iter fi) (hg : TG1 (c.blk scope) tg is ft)
    (ht : VTs (c.blk scope) ifs tt) (he : VE (c.blk scope) elt fe) (his : ∀ i ∈ is, i ∈ own.map (·.2)) (hs : ∀ (env : Env) x, foldedSetIterable iter env x = pure x := by intro _ _; rfl) :
    VS c (.Assign [.Name y py] (.ListComp elt [⟨tg, iter, ifs, 0⟩] scope lpos) pos) (ownM i (compM (own.map (·.2)) fi ft tt fe)) := by
  refine ⟨fun X W ok => ?_⟩
  obtain ⟨wi, g, t, te, h1, h2, h3, h4, h5⟩ := lc_reads ok hi hg his ht he
  have nd := ok.nd
  obtain ⟨exc, k, isdef, fnc, rfl⟩ := ok.eq
  refine ⟨_, ps_setLc hc nd hN hyl (hsw X.env rfl) h1 okB h2 h3 h4 (hs X.env), fun F ma S H σ ds E cf h => ?_⟩
  have h : SRes _ W F ma S ((compM (own.map (·.2)) fi ft tt fe ds).bind fun x s => .ok Out.nx { s with env := s.env.set i (.own x) }) E := h
  refine h5 F ma S H σ ds _ cf ?_
  revert h
  cases compM (own.map (·.2)) fi ft tt fe ds with
  | stuck => exact fun h => h
  | err ec ds1 => exact fun h ma1 S1 H1 ex c1 => h ma1 S1 H1 σ ex c1
  | ok xs ds1 =>
    intro h ma1 S1 H1 v ex c1 r
    obtain ⟨p, vs, rfl, hp, f, r⟩ := r
    exact h ma1 S1 H1 _ ex (c1.putOwn (s := .own xs) rfl hp f r trivial i)
end

/-! ### defs -/
inductive FR where
  | ok (d : D) (m : List MO) | err (c : String) (m : List MO) | stuck
abbrev Den := List D → List MO → FR
def spD (B : Bs) (den : Den) : Sp := fun vs H Q E => ∃ ma S ds mem, Cf B.K (around S H ma) ma S H (vs.map some) ⟨ds.map .val, mem⟩ ∧ RepL B.K S ma ds vs ∧
  match den ds mem with
  | .ok d m => ∀ ma' S' H' v, Ext ma S ma' S' → Cf B.K (around S H ma) ma' S' H' [] ⟨[], m⟩ → Rep B.K S' ma' d v → Q v H'
  | .err e m => ∀ ma' S' H', Ext ma S ma' S' → Cf B.K (around S H ma) ma' S' H' [] ⟨[], m⟩ → E (B.exc e) none H'
  | .stuck => False
structure Callee (B : Bs) (x : Str) (den : Den) (k : Nat) : Prop where
  ex : ∃ f fd ps, FnOk B.P B.w B.K B.mg B.base (L2.CX B.P B.w) k f fd ps (spD B den) ∧ B.mg x = some (.ref f) ∧ PySem.W.keepIn B.K (.ref f) = true ∧ Binds B.K fd ps []
def callM (den : Den) (fs : M (List D)) : M D := bnd fs fun ds s => match den ds s.mem with
  | .ok d m => .ok d { s with mem := m }
  | .err e m => .err e { s with mem := m }
  | .stuck => .stuck
theorem v_call {c : SC} {pos p : Pos} {x : Str} {e : Expr} {es : List Expr} {den : Den} {fs : M (List D)} {k : Nat} (hcal : Callee c.B x den k) (hk : k ≤ c.k) (hc : c.calm = true) (hg : Glo c.sc x) (ha : VA c (e :: es) fs)
    (hdb : (x == ("__debug__" : Str)) = false := by decide) (he : ∀ env : Env, starEach (e :: es) env = (false, eval e env) :: starEach es env := by intro _; rfl) (hpl : ∀ env : Env, (backTo pos (starEach es env)).any (·.1) = false := by intro _; rfl) :
    VE c (.Call (.Name x p) (e :: es) [] pos) (callM den fs) := by
  refine ⟨fun X W ok => ?_⟩
  obtain ⟨t, pa, q⟩ := ha.run X W ok
  have tk := ok.tk
  have room := ok.room hc
  obtain ⟨exc, k', isdef, fnc, rfl⟩ := ok.eq
  obtain ⟨f, fd, ps, F, hm, kp, hb⟩ := hcal.ex
  refine ⟨_, pe_callS F (room.mono hk) hg hm kp hb (fun σ => passAt tk σ) pa hdb (he X.env) (hpl X.env), fun F ma S H σ ds Q cf h => ?_⟩
  refine q F ma S H σ ds _ cf (Res.bind h fun d ds1 ma1 S1 H1 x c1 c1 r1 h1 => ?_)
  have h1 : Res _ W F (RpV X.K) σ ma1 S1 (match den d ds1.mem with
    | .ok d m => .ok d { ds1 with mem := m }
    | .err e m => .err e { ds1 with mem := m }
    | .stuck => .stuck) Q := h1
  refine ⟨ma1, S1, d, ds1.mem, c1.toCall r1, r1, ?_⟩
  revert h1
  cases den d ds1.mem with
  | stuck => exact fun h => h
  | err ec m => exact fun h ma' S' H' ex cc => h ma' S' H' ex (c1.ofCall ex cc)
  | ok dd m => exact fun h ma' S' H' v ex cc r => h ma' S' H' v ex (c1.ofCall ex cc) r
/-- a def's meaning from its body's: ar parameters, n names -/
def fnDen (ar n : Nat) (body : M Out) : Den := fun args mem => if args.length = ar then
    match body ⟨args.map .val ++ List.replicate (n - ar) .un, mem⟩ with
    | .ok .nx s => .ok .non s.mem
    | .ok (.rt d) s => .ok d s.mem
    | .ok _ _ => .stuck
    | .err e s => .err e s.mem
    | .stuck => .stuck
  else .stuck
theorem fn_mk {B : Bs} {x qual : Str} {st : Stmt} {f : Addr} {fd : FuncData} {N ps : List Str} {k : Nat} {body : M Out} (F : Fun B.K x qual st f fd) (Sc : FnScope N ps (defScope st))
    (h : VB ⟨B, N, defScope st, k, true, true, fun _ => true⟩ (defBody st) body) : FnOk B.P B.w B.K B.mg B.base (L2.CX B.P B.w) (k + 1) f fd ps (spD B (fnDen ps.length N.length body)) := by
  have hpl : ps.length ≤ N.length := by have := congrArg List.length Sc.pre; rw [List.length_take] at this; omega
  refine F.okX Sc (fun vs H Q E hs => ?_) (fun cdv A outer s H vs Q E hr hs => ?_)
  · obtain ⟨ma, S, ds, mem, cf, r, hd⟩ := hs
    rw [← r.length]
    unfold fnDen at hd
    by_cases hl : ds.length = ps.length
    · exact hl
    · rw [if_neg hl] at hd; exact hd.elim
  · obtain ⟨ma, S, ds, mem, cf, r, hd⟩ := hs
    unfold fnDen at hd
    by_cases hl : ds.length = ps.length
    · rw [if_pos hl] at hd
      obtain ⟨t, p, q⟩ := h.run (cxOf (L2.CX B.P B.w) B.P B.w B.K B.mg B.base N qual (defScope st) f cdv A outer s H E) (fun cls d _ H' => E cls d H')
        ⟨⟨B.exc, k, true, _, rfl⟩, fun _ => hr, Sc.nd, fun _ _ => rfl, takes_of rfl rfl rfl rfl, passes_of rfl, fun _ => ⟨rfl, rfl⟩⟩
      refine ⟨t, p, ?_⟩
      have e : L2.start N vs = vs.map some ++ List.replicate (N.length - ps.length) none := by unfold L2.start; rw [← r.length, hl]
      rw [e]
      refine q (around S H ma) ma S H _ ⟨ds.map .val ++ List.replicate (N.length - ps.length) .un, mem⟩ _ (cf.pad _) ?_
      revert hd
      cases body ⟨ds.map .val ++ List.replicate (N.length - ps.length) .un, mem⟩ with
      | stuck => exact fun h => h
      | err ec s' => exact fun h ma' S' H' σ' ex c1 => h ma' S' H' ex c1.bare
      | ok o s' =>
        cases o with
        | nx => exact fun h ma' S' H' σ' ex c1 => h ma' S' H' _ ex c1.bare .non
        | bk => exact fun h => h.elim
        | ct => exact fun h => h.elim
        | rt d => exact fun h ma' S' H' σ' ex c1 v r => h ma' S' H' v ex c1.bare r
    · rw [if_neg hl] at hd; exact hd.elim

/-! ### errors -/
structure ExcF (B : Bs) (x : Str) (nm : String) : Prop where
  ex : ∃ C, B.exc nm = .ref C ∧ B.mg x = some (.ref C) ∧ PySem.W.excIn B.K C [.type "ValueError", .type "Exception", .type "BaseException", .type "object"] "ValueError.__new__" = true ∧ PySem.W.keepIn B.K (.ref C) = true ∧
    PySem.W.subIn B.K (.ref C) (.type "BaseException") = some true ∧ PySem.W.typeIn B.K (.ref C) = some (.type "type")
def raiseM (nm : String) : M Out := fun s => .err nm s
theorem s_raise {c : SC} {x m : Str} {nm : String} {j : Nat} {p p2 pos pos2 : Pos} (hc : c.calm = true) (h : ExcF c.B x nm) (hg : Glo c.sc x) (hdb : (x == ("__debug__" : Str)) = false := by decide) :
    VS c (.Raise (some (.Call (.Name x p) [.Constant (.str m) j p2] [] pos)) none pos2) (raiseM nm) := by
  refine ⟨fun X W ok => ?_⟩
  have tk := ok.tk
  obtain ⟨exc, k', isdef, fnc, rfl⟩ := ok.eq
  obtain ⟨C, h1, h2, h3, h4, h5, h6⟩ := h.ex
  refine ⟨_, ps_raise hc tk (pmk_own PySem.F.excBase_ValueError h3 h2 h4 (raises_own h5 h6) hg hdb), fun F ma S H σ ds E cf h => ?_⟩
  have h : ∀ ma' S' H' σ', Ext ma S ma' S' → Cf X.K F ma' S' H' σ' ds → W (exc nm) none σ' H' := h
  have q := h ma S H σ Ext.refl cf
  have h1 : exc nm = .ref C := h1
  rw [h1] at q
  exact q
/-- the errors of L are told apart by their names -/
def ExmF (B : Bs) (L : List String) : Prop := ∀ a ∈ L, ∀ b ∈ L, PySem.W.exmOne B.K (B.exc a) (B.exc b) = some (decide (a = b))
def handM (e : String) : List (String × M Out) → M Out
  | [] => fun s => .err e s
  | (h, g) :: r => if e = h then fun s => noErr (g s) else handM e r
def tryM (L : List String) (f : M Out) (hs : List (String × M Out)) : M Out := fun s => match f s with
  | .err e s' => if e ∈ L then handM e hs s' else .stuck
  | r => r
def SC.suite (c : SC) : SC := { c with calm := false, isdef := false }
inductive VHs (c : SC) (L : List String) : List ExceptHandler → List (String × M Out) → Prop
  | nil : VHs c L [] []
  | cons {x : Str} {nm : String} {b₀ : Stmt} {suite : List Stmt} {g : M Out} {np pos' : Pos} {hds : List ExceptHandler} {l : List (String × M Out)} (hx : ExcF c.B x nm) (hL : nm ∈ L) (hg : Glo c.sc x) (hdb : (x == ("__debug__" : Str)) = false) (hsu : VB c.suite (b₀ :: suite) g) (r : VHs c L hds l) :
      VHs c L (.ExceptHandler (some (.Name x np)) none (b₀ :: suite) pos' :: hds) ((nm, g) :: l)
theorem Ok.suite {c : SC} {X : Cx} {W : WX} (ok : Ok c X W) (a : Addr) (pn : List (Addr × Obj)) : Ok c.suite (X.suite a pn) W0 := by
  obtain ⟨⟨exc, k, isdef, fnc, rfl⟩, h2, h3, h4, h5, h6, h7⟩ := ok
  exact ⟨⟨exc, k, _, _, rfl⟩, fun h => absurd (show false = true from h) Bool.false_ne_true, h3, h4, takes0, PassesOwn.never, fun h => absurd (show false = true from h) Bool.false_ne_true⟩
theorem Ok.tr {c : SC} {X : Cx} {W W' : WX} {pn : List (Addr × Obj)} {xe : Value → Shared → Prop} (ok : Ok c X W) (tk : Takes (X.tr pn xe) W') (po : PassesOwn (model X.prog X.w) X.A X.env xe) : Ok c (X.tr pn xe) W' := by
  obtain ⟨⟨exc, k, isdef, fnc, rfl⟩, h2, h3, h4, h5, h6, h7⟩ := ok
  exact ⟨⟨exc, k, _, _, rfl⟩, h2, h3, h4, tk, po, h7⟩
theorem SRes.noErr {B : Bs} {W : WX} {F : Hp} {ma : List Addr} {S : Hp} {r : R Out} {E : Ends} (h : SRes B W F ma S (noErr r) E) : SRes B W0 F ma S r E := by
  cases r with
  | ok o ds => exact h
  | err e ds => exact h.elim
  | stuck => exact h
theorem s_try {c : SC} {L : List String} {body : List Stmt} {fb : M Out} {h₀ : ExceptHandler} {hds : List ExceptHandler} {l : List (String × M Out)} {pos : Pos} (hd : c.isdef = true) (hex : ExmF c.B L) (hb : VB c body fb) (hh : VHs c L (h₀ :: hds) l) : VS c (.Try body (h₀ :: hds) [] [] pos) (tryM L fb l) := by
  refine ⟨fun X W ok => ?_⟩
  have dfn := ok.dfn hd
  have tk := ok.tk
  have hb' := fun (W' : WX) (pn : List (Addr × Obj)) (xe : Value → Shared → Prop) (tk' : Takes (X.tr pn xe) W') (po : PassesOwn (model X.prog X.w) X.A X.env xe) => hb.run (X.tr pn xe) W' (ok.tr tk' po)
  -- the clauses
  have cl : ∀ {hds : List ExceptHandler} {l : List (String × M Out)}, VHs c L hds l → ∃ l' : List (Value × (Addr → Value → Option Addr → TS)), HdsOk X hds l' ∧ ∀ e F ma S E, e ∈ L → ∀ σ H ds, Cf c.B.K F ma S H σ ds → SRes c.B W F ma S (handM e l ds) E → wMany X.K W E l' (c.B.exc e) none σ H := by
    intro hds l vh
    induction vh with
    | nil =>
      refine ⟨[], .nil, fun e F ma S E he σ H ds cf h => h ma S H σ Ext.refl cf⟩
    | @cons x nm b₀ suite g np pos' hds l hx hL hg hdb hsu r ih =>
      obtain ⟨l', ok', q'⟩ := ih
      have hs' := fun (a : Addr) (oe : Obj) (pn : List (Addr × Obj)) => hsu.run _ _ (ok.suite a ((a, oe) :: pn))
      obtain ⟨C, e1, e2, e3, e4, e5, e6⟩ := hx.ex
      have eqc := ok.eq
      refine ⟨(.ref C, fun a cls d D σ H => ∀ oe pn, (hs' a oe pn).choose D σ H) :: l', .cons ?_ (fun a oe cls d pn hz hf => ⟨fun pins s σ H D I h => (hs' a oe pn).choose_spec.1.run pins s σ H D I (h oe pn)⟩) ok', fun e F ma S E he σ H ds cf h => ?_⟩
      · obtain ⟨exc, k, isdef, fnc, rfl⟩ := eqc
        exact ⟨hg, hdb, .inl e2⟩
      · have hm := hex e he nm hL
        rw [e1] at hm
        have eK : X.K = c.B.K := by obtain ⟨exc, k, isdef, fnc, rfl⟩ := eqc; rfl
        rw [eK]
        refine ⟨_, hm, fun hb a ha oe pn => ?_, fun hb => ?_⟩
        · have hb := of_decide_eq_true hb
          have h : SRes c.B W F ma S ((if e = nm then fun s => noErr (g s) else handM e l) ds) E := h
          rw [if_pos hb] at h
          exact (hs' a oe pn).choose_spec.2 F ma S H σ ds E cf h.noErr
        · have hb := of_decide_eq_false hb
          have h : SRes c.B W F ma S ((if e = nm then fun s => noErr (g s) else handM e l) ds) E := h
          rw [if_neg hb] at h
          have := q' e F ma S E he σ H ds cf h
          rw [eK] at this
          exact this
  obtain ⟨l', hk, ql⟩ := cl hh
  refine ⟨_, ps_try_many (tb := fun W' D σ H => ∀ pn xe (tk' : Takes (X.tr pn xe) W') (po : PassesOwn (model X.prog X.w) X.A X.env xe), (hb' W' pn xe tk' po).choose D σ H) dfn.1 dfn.2 tk (fun W' pn xe tk' po => ⟨fun pins s σ H D I h => (hb' W' pn xe tk' po).choose_spec.1.run pins s σ H D I (h pn xe tk' po)⟩) hk, fun F ma S H σ ds E cf h => ?_⟩
  intro pn xe tk' po
  refine (hb' _ pn xe tk' po).choose_spec.2 F ma S H σ ds E cf ?_
  have h : SRes c.B W F ma S (match fb ds with
    | .err e s' => if e ∈ L then handM e l s' else .stuck
    | r => r) E := h
  revert h
  cases fb ds with
  | stuck => exact fun h => h
  | ok o s' => exact fun h => h
  | err e s' =>
    intro h ma1 S1 H1 σ1 ex c1
    have h : SRes c.B W F ma S (if e ∈ L then handM e l s' else .stuck) E := h
    by_cases he : e ∈ L
    · rw [if_pos he] at h
      exact ql e F ma1 S1 E he σ1 H1 s' c1 (SRes.later h ex)
    · rw [if_neg he] at h; exact h.elim
end Vl
namespace Vl
open PySem PySem.Spec PyProof.Rows L2

/-! ### values as data -/
mutual
def toP : D → PyData
  | .non => .none
  | .bl b => .bool b
  | .int i => .int i
  | .str x => .str x
  | .lst xs => .list (toPs xs)
  | .frl xs => .list (toPs xs)
  | .tup xs => .tuple (toPs xs)
  | .dK _ _ => .dict []
  | .dT _ _ => .dict []
  | .mut _ => .dict []
def toPs : List D → List PyData
  | [] => []
  | d :: ds => toP d :: toPs ds
end
theorem toPs_map : ∀ xs : List D, toPs xs = xs.map toP
  | [] => rfl
  | x :: xs => by rw [toPs, toPs_map xs]; rfl
theorem toPs_length (xs : List D) : (toPs xs).length = xs.length := by rw [toPs_map]; simp
section
variable {X : Cx} {pins : List (Addr × Obj)} {σ : L2.St} {H S F : Hp} {s : Shared} {ma : List Addr} {ds : DS}
mutual
theorem Rep.reads (I : Inv X pins σ H s) (sm : Same S H) : ∀ {d : D} {v : V} {u : Value}, Rep X.K S ma d v → RelV v u → (toP d).plain = true → ∃ as, Reads s.heap u (toP d) as
  | _, _, _, .non, r, _ => by cases r; exact ⟨_, .none⟩
  | _, _, _, .bl b, r, _ => by cases r; exact ⟨_, .bool b⟩
  | _, _, _, .int i, r, _ => by obtain ⟨t, rfl⟩ := r; exact ⟨_, .int i t⟩
  | _, _, _, .str x, r, _ => by obtain ⟨t, rfl⟩ := r; exact ⟨_, .str x t⟩
  | _, _, _, .lst h q, r, p => by
    cases r
    obtain ⟨its, rv, ⟨o, n, ho, hc, _, hd⟩, _⟩ := I.list (.inl (.inl (sm _ _ h)))
    obtain ⟨as, hr⟩ := RepL.reads I sm q rv (by simpa [toP, PyData.plain] using p)
    exact ⟨_, Reads.list ho hc hd hr⟩
  | _, _, _, .frl h q, r, p => by
    cases r
    obtain ⟨its, rv, ⟨o, n, ho, hc, _, hd⟩, _⟩ := I.list (sm.seq h)
    obtain ⟨as, hr⟩ := RepL.reads I sm q rv (by simpa [toP, PyData.plain] using p)
    exact ⟨_, Reads.list ho hc hd hr⟩
  | _, _, _, .tup h q, r, p => by
    cases r
    obtain ⟨its, rv, ⟨o, ho, hc, n, hd⟩, _⟩ := I.tuple (seqT sm h)
    obtain ⟨as, hr⟩ := RepL.reads I sm q rv (by simpa [toP, PyData.plain] using p)
    exact ⟨_, Reads.tuple ho hc hd hr⟩
  | _, _, _, .dK _ _ _, _, p => by simp [toP, PyData.plain] at p
  | _, _, _, .dT _ _ _, _, p => by simp [toP, PyData.plain] at p
  | _, _, _, .mut _, _, p => by simp [toP, PyData.plain] at p
theorem RepL.reads (I : Inv X pins σ H s) (sm : Same S H) : ∀ {d : List D} {v : List V} {u : List Value}, RepL X.K S ma d v → Vals v u → PyData.plainAll (toPs d) = true → ∃ as, ReadsAll s.heap u (toPs d) as
  | _, _, _, .nil, r, _ => by cases r; exact ⟨_, .nil⟩
  | _, _, _, .cons h q, r, p => by
    cases r with
    | cons r1 r2 =>
      rw [toPs, PyData.plainAll, Bool.and_eq_true] at p
      obtain ⟨as, h1⟩ := Rep.reads I sm h r1 p.1
      obtain ⟨bs, h2⟩ := RepL.reads I sm q r2 p.2
      exact ⟨_, .cons h1 h2⟩
end
end
/-- plain and not too deep -/
def dat (d : D) : Bool := (toP d).plain && decide ((toP d).depth ≤ 60)
def dats (xs : List D) : Bool := PyData.plainAll (toPs xs) && decide (PyData.depthAll (toPs xs) ≤ 60)
def eqvD (a b : D) : Bool := PyData.eqv (toP a) (toP b)
def likeD (a b : D) : Bool := PySem.W.alike (toP a) (toP b)
def ltD (a b : D) : Bool := PySem.W.dataLt (toP a) (toP b)
theorem room60 {c : SC} {X : Cx} {W : WX} (ok : Ok c X W) (hc : c.calm = true) : X.A.units + 120 < cLine := by
  have := (ok.room hc).un
  omega

section
variable {c : SC}
/-- from a rule without a new object -/
theorem OpV.flat {f : Value → Value → Sem Value} {g : D → D → Option D}
    (h : ∀ X W, Ok c X W → ∀ (pins : List (Addr × Obj)) (s : Shared) (σ : L2.St) (ma : List Addr) (S H : Hp) a b d x y v u Q, Inv X pins σ H s → Same S H → Rep c.B.K S ma a x → Rep c.B.K S ma b y → RelV x v → RelV y u → g a b = some d →
      (∀ (z : V) s', Inv X pins σ H s' → Rep c.B.K S ma d z → ∀ w, RelV z w → Q w s') → wpAny (model X.prog X.w) X.A (f v u) Q X.xe s) : OpV c f g := by
  intro X W ok
  refine ⟨fun x y H Q => ∃ ma S a b d, Same S H ∧ Rep c.B.K S ma a x ∧ Rep c.B.K S ma b y ∧ g a b = some d ∧ ∀ z, Rep c.B.K S ma d z → Q z H, ?_, ?_⟩
  · intro pins s σ H x y v u Q I rx ry ⟨ma, S, a, b, d, cf, ra, rb, hg, q⟩
    exact h X W ok pins s σ ma S H a b d x y v u _ I cf ra rb rx ry hg fun z s' I' rz w rw => ⟨z, H, I', rw, q z rz⟩
  · intro F ma S H σ ds a b x y Q cf ra rb hr
    cases hg : g a b with
    | none => rw [hg] at hr; exact hr.elim
    | some d =>
      rw [hg] at hr
      exact ⟨ma, S, a, b, d, cf.sub, ra, rb, hg, fun z rz => hr ma S H z Ext.refl cf rz⟩
/-- ints -/
theorem OpV.ints {f : Value → Value → Sem Value} {g : D → D → Option D} {C : Int → Int → Prop} {k : Int → Int → V} (ho : ∀ X : Cx, OpR X f (rI C k)) (hg : ∀ a b d, g a b = some d → ∃ i j e, a = .int i ∧ b = .int j ∧ C i j ∧ d = e ∧ ∀ K S ma, Rep K S ma e (k i j)) : OpV c f g := by
  intro X W ok
  refine ⟨_, ho X, fun F ma S H σ ds a b x y Q cf ra rb hr => ?_⟩
  cases e : g a b with
  | none => rw [e] at hr; exact hr.elim
  | some d =>
    rw [e] at hr
    obtain ⟨i, j, e', rfl, rfl, hc, rfl, rk⟩ := hg a b d e
    cases ra
    cases rb
    exact ⟨i, j, rfl, rfl, hc, hr ma S H _ Ext.refl cf (rk _ _ _)⟩
theorem OpV.ints0 {f : Value → Value → Sem Value} {g : D → D → Option D} {k : Int → Int → V} (ho : ∀ X : Cx, OpR X f (rI0 k)) (hg : ∀ a b d, g a b = some d → ∃ i j e, a = .int i ∧ b = .int j ∧ d = e ∧ ∀ K S ma, Rep K S ma e (k i j)) : OpV c f g := by
  intro X W ok
  refine ⟨_, ho X, fun F ma S H σ ds a b x y Q cf ra rb hr => ?_⟩
  cases e : g a b with
  | none => rw [e] at hr; exact hr.elim
  | some d =>
    rw [e] at hr
    obtain ⟨i, j, e', rfl, rfl, rfl, rk⟩ := hg a b d e
    cases ra
    cases rb
    exact ⟨i, j, rfl, rfl, hr ma S H _ Ext.refl cf (rk _ _ _)⟩
/-- one of two -/
theorem OpV.or {f : Value → Value → Sem Value} {g g' k : D → D → Option D} (h : OpV c f g) (h' : OpV c f g') (hk : ∀ a b, k a b = g a b ∨ k a b = g' a b) : OpV c f k := by
  intro X W ok
  obtain ⟨r, p, q⟩ := h X W ok
  obtain ⟨r', p', q'⟩ := h' X W ok
  refine ⟨_, p.or p', fun F ma S H σ ds a b x y Q cf ra rb hr => ?_⟩
  rcases hk a b with e | e
  · rw [e] at hr; exact .inl (q F ma S H σ ds a b x y Q cf ra rb hr)
  · rw [e] at hr; exact .inr (q' F ma S H σ ds a b x y Q cf ra rb hr)

/-! ### + -/
def addI : D → D → Option D
  | .int i, .int j => some (.int (i + j))
  | _, _ => none
def addS : D → D → Option D
  | .str a, .str b => if a.length + b.length ≤ 16777216 then some (.str (a ++ b)) else none
  | _, _ => none
def addL : D → D → Option D
  | .lst a, .lst b => if a.length + b.length ≤ 16777216 then some (.lst (a ++ b)) else none
  | _, _ => none
def addT : D → D → Option D
  | .tup a, .tup b => if a.length + b.length ≤ 16777216 then some (.tup (a ++ b)) else none
  | _, _ => none
def addD : D → D → Option D
  | .int i, .int j => some (.int (i + j))
  | .str a, .str b => if a.length + b.length ≤ 16777216 then some (.str (a ++ b)) else none
  | .lst a, .lst b => if a.length + b.length ≤ 16777216 then some (.lst (a ++ b)) else none
  | .tup a, .tup b => if a.length + b.length ≤ 16777216 then some (.tup (a ++ b)) else none
  | _, _ => none
theorem o_addI : OpV c (binaryOp .Add) addI := OpV.ints0 (fun _ => op_add) fun a b d h => by
  unfold addI at h
  split at h <;> cases h
  exact ⟨_, _, _, rfl, rfl, rfl, fun _ _ _ => .int _⟩
theorem o_addS : OpV c (binaryOp .Add) addS := by
  intro X W ok
  refine ⟨_, op_add_str, fun F ma S H σ ds a b x y Q cf ra rb hr => ?_⟩
  cases ra with
  | str i =>
    cases rb with
    | str j =>
      have hr : Res c.B W F (RpV c.B.K) σ ma S (opt (if i.length + j.length ≤ 16777216 then some (D.str (i ++ j)) else none) ds) Q := hr
      by_cases hz : i.length + j.length ≤ 16777216
      · rw [if_pos hz] at hr
        exact ⟨i, j, rfl, rfl, by rw [sizeLine_eq]; exact hz, hr ma S H _ Ext.refl cf (.str _)⟩
      · rw [if_neg hz] at hr; exact hr.elim
    | _ => exact (show False from hr).elim
  | _ => exact (show False from hr).elim
theorem o_addL : OpV c (binaryOp .Add) addL := by
  intro X W ok
  refine ⟨_, op_cat, fun F ma S H σ ds a b x y Q cf ra rb hr => ?_⟩
  cases ra with
  | @lst a i vs h1 h2 =>
    cases rb with
    | @lst b j us h3 h4 =>
      have hr : Res c.B W F (RpV c.B.K) σ ma S (opt (if i.length + j.length ≤ 16777216 then some (D.lst (i ++ j)) else none) ds) Q := hr
      by_cases hz : i.length + j.length ≤ 16777216
      · rw [if_pos hz] at hr
        refine ⟨a, b, vs, us, rfl, rfl, cf.sub _ _ h1, cf.sub _ _ h3, by rw [sizeLine_eq, ← h2.length, ← h4.length]; exact hz, fun p hp => ?_⟩
        obtain ⟨c2, ex⟩ := cf.lay (.lst (vs ++ us)) hp
        exact hr ma _ _ _ ex c2 (.lst upd_same ((h2.app h4).mono ex))
      · rw [if_neg hz] at hr; exact hr.elim
    | _ => exact (show False from hr).elim
  | _ => exact (show False from hr).elim
theorem o_addT : OpV c (binaryOp .Add) addT := by
  intro X W ok
  obtain ⟨exc, k, isdef, fnc, rfl⟩ := ok.eq
  refine ⟨_, op_catA, fun F ma S H σ ds a b x y Q cf ra rb hr => ?_⟩
  cases ra with
  | @tup a i vs h1 h2 =>
    cases rb with
    | @tup b j us h3 h4 =>
      have hr : Res _ W F (RpV X.K) σ ma S (opt (if i.length + j.length ≤ 16777216 then some (D.tup (i ++ j)) else none) ds) Q := hr
      by_cases hz : i.length + j.length ≤ 16777216
      · rw [if_pos hz] at hr
        refine ⟨a, b, vs, us, rfl, rfl, seqT cf.sub h1, seqT cf.sub h3, by rw [sizeLine_eq, ← h2.length, ← h4.length]; exact hz, fun e => ?_, fun e1 e => ?_, fun e1 e2 p hp => ?_⟩
        · subst e
          have : i = [] := List.eq_nil_of_length_eq_zero h2.length
          subst this
          exact hr ma S H _ Ext.refl cf (.tup h3 h4)
        · subst e
          have : j = [] := List.eq_nil_of_length_eq_zero h4.length
          subst this
          exact hr ma S H _ Ext.refl cf (.tup h1 (by simpa using h2))
        · obtain ⟨c2, ex⟩ := cf.lay (.tup (vs ++ us)) hp
          exact hr ma _ _ _ ex c2 (.tup (.inl (.inl upd_same)) ((h2.app h4).mono ex))
      · rw [if_neg hz] at hr; exact hr.elim
    | _ => exact (show False from hr).elim
  | _ => exact (show False from hr).elim
theorem o_add : OpV c (binaryOp .Add) addD := by
  refine (o_addI.or o_addS (k := fun a b => match a with | .int _ => addI a b | _ => addS a b) fun a b => by cases a <;> simp).or (o_addL.or o_addT (k := fun a b => match a with | .lst _ => addL a b | _ => addT a b) fun a b => by cases a <;> simp) fun a b => ?_
  cases a with
  | lst x => exact .inr (by cases b <;> rfl)
  | tup x => exact .inr (by cases b <;> rfl)
  | int x => exact .inl (by cases b <;> rfl)
  | str x => exact .inl (by cases b <;> rfl)
  | _ => exact .inl (by cases b <;> rfl)
def subD : D → D → Option D
  | .int i, .int j => some (.int (i - j))
  | _, _ => none
theorem o_sub : OpV c (binaryOp .Sub) subD := OpV.ints0 (fun _ => op_sub) fun a b d h => by
  unfold subD at h
  split at h <;> cases h
  exact ⟨_, _, _, rfl, rfl, rfl, fun _ _ _ => .int _⟩
/-! ### * -/
def mulI : D → D → Option D
  | .int i, .int j => if i.natAbs < 18446744073709551616 ∨ j.natAbs < 18446744073709551616 then some (.int (i * j)) else none
  | _, _ => none
def mulL : D → D → Option D
  | .lst xs, .int k => if k.natAbs ≤ 1000000 ∧ xs.length * k.toNat ≤ 16777216 then some (.lst (List.replicate k.toNat xs).flatten) else none
  | _, _ => none
def mulS : D → D → Option D
  | .str x, .int k => if 2 ≤ k ∧ k ≤ 1000000 ∧ 1 ≤ x.length ∧ x.length * k.toNat ≤ 16777216 then some (.str ⟨((List.replicate k.toNat x.cps.toList).flatten).toArray⟩) else none
  | _, _ => none
def mulD : D → D → Option D
  | .int i, .int j => if i.natAbs < 18446744073709551616 ∨ j.natAbs < 18446744073709551616 then some (.int (i * j)) else none
  | .lst xs, .int k => if k.natAbs ≤ 1000000 ∧ xs.length * k.toNat ≤ 16777216 then some (.lst (List.replicate k.toNat xs).flatten) else none
  | .str x, .int k => if 2 ≤ k ∧ k ≤ 1000000 ∧ 1 ≤ x.length ∧ x.length * k.toNat ≤ 16777216 then some (.str ⟨((List.replicate k.toNat x.cps.toList).flatten).toArray⟩) else none
  | _, _ => none
theorem o_mulI : OpV c (binaryOp .Mult) mulI := OpV.ints (fun _ => op_mul) fun a b d h => by
  unfold mulI at h
  split at h
  · rename_i i j
    split at h
    · rename_i hz
      cases h
      refine ⟨i, j, _, rfl, rfl, ?_, rfl, fun _ _ _ => .int _⟩
      unfold CMul
      rcases hz with hz | hz
      · left; omega
      · right; omega
    · cases h
  · cases h
theorem RepL.rep {K : PySem.W.Frag} {S : Hp} {ma : List Addr} {xs : List D} {vs : List V} (h : RepL K S ma xs vs) : ∀ n, RepL K S ma (List.replicate n xs).flatten (List.replicate n vs).flatten
  | 0 => .nil
  | n + 1 => by
    rw [List.replicate_succ, List.replicate_succ, List.flatten_cons, List.flatten_cons]
    exact h.app (RepL.rep h n)
theorem o_mulL : OpV c (binaryOp .Mult) mulL := by
  intro X W ok
  refine ⟨_, op_rep, fun F ma S H σ ds a b x y Q cf ra rb hr => ?_⟩
  cases ra with
  | @lst a i vs h1 h2 =>
    cases rb with
    | int k =>
      have hr : Res c.B W F (RpV c.B.K) σ ma S (opt (if k.natAbs ≤ 1000000 ∧ i.length * k.toNat ≤ 16777216 then some (D.lst (List.replicate k.toNat i).flatten) else none) ds) Q := hr
      by_cases hz : k.natAbs ≤ 1000000 ∧ i.length * k.toNat ≤ 16777216
      · rw [if_pos hz] at hr
        refine ⟨a, k, vs, rfl, rfl, cf.sub _ _ h1, by omega, by omega, by rw [sizeLine_eq, ← h2.length]; exact hz.2, fun p hp => ?_⟩
        obtain ⟨c2, ex⟩ := cf.lay (.lst (List.replicate k.toNat vs).flatten) hp
        exact hr ma _ _ _ ex c2 (.lst upd_same ((h2.rep k.toNat).mono ex))
      · rw [if_neg hz] at hr; exact hr.elim
    | _ => exact (show False from hr).elim
  | _ => exact (show False from hr).elim
theorem foldl_app (x : Array Nat) : ∀ (n : Nat) (acc : Array Nat), (List.replicate n x).foldl (· ++ ·) acc = acc ++ ((List.replicate n x.toList).flatten).toArray
  | 0, acc => by simp
  | n + 1, acc => by
    rw [List.replicate_succ, List.foldl_cons, foldl_app x n, List.replicate_succ, List.flatten_cons]
    cases x
    simp
theorem o_mulS : OpV c (binaryOp .Mult) mulS := OpV.flat fun X W ok pins s σ ma S H a b d x y v u Q I cf ra rb rv ru hg q => by
  unfold mulS at hg
  split at hg
  · rename_i z k
    split at hg
    · rename_i hz
      cases hg
      cases ra
      cases rb
      obtain ⟨t, rfl⟩ := rv
      obtain ⟨t', rfl⟩ := ru
      obtain ⟨h1, h2, h3, h4⟩ := hz
      have hk : (k == 1 || z.length == 0) = false := by
        have e1 : (k == 1) = false := by simp; omega
        have e2 : (z.length == 0) = false := by simp; omega
        rw [e1, e2]; rfl
      have hzl : (z.length : Int) ≤ 16777216 := by
        have : z.length * 1 ≤ z.length * k.toNat := Nat.mul_le_mul_left _ (by omega)
        omega
      refine PySem.P.mul_str (by rw [decide_eq_false (by omega), decide_eq_false (by omega)]; rfl) (fun _ _ => ?_) (fun _ _ => ?_) ?_
      · have e : (2 ^ 63 - 1) / 1000000 ≤ (2 ^ 63 - 1) / k := by
          refine (Int.le_ediv_iff_mul_le (by omega)).mpr ?_
          have : (2 ^ 63 - 1 : Int) / 1000000 * k ≤ (2 ^ 63 - 1 : Int) / 1000000 * 1000000 := Int.mul_le_mul_of_nonneg_left h2 (by decide)
          have h5 : (2 ^ 63 - 1 : Int) / 1000000 * 1000000 ≤ 2 ^ 63 - 1 := by decide
          omega
        have e6 : (16777216 : Int) ≤ (2 ^ 63 - 1) / 1000000 := by decide
        omega
      · unfold Builtin.Str.tooLong
        exact decide_eq_false (by rw [sizeLine_eq]; omega)
      · rw [if_neg (by omega), if_neg (by rw [hk]; exact Bool.false_ne_true)]
        have ea : (List.replicate k.toNat z.cps).foldl (· ++ ·) #[] = ((List.replicate k.toNat z.cps.toList).flatten).toArray := by
          rw [foldl_app]; simp
        rw [ea]
        refine ⟨?_, q _ _ (I.tok _) (.str _) _ ⟨_, rfl⟩⟩
        show ((List.replicate k.toNat z.cps.toList).flatten).toArray.size ≤ sizeLine
        rw [List.size_toArray, List.length_flatten, List.map_replicate, List.sum_replicate_nat, sizeLine_eq, Array.length_toList]
        have : z.cps.size = z.length := rfl
        rw [this, Nat.mul_comm]
        exact h4
    · cases hg
  · cases hg
theorem o_mul : OpV c (binaryOp .Mult) mulD := by
  refine o_mulI.or (o_mulL.or o_mulS (k := fun a b => match a with | .lst _ => mulL a b | _ => mulS a b) fun a b => by cases a <;> simp) fun a b => ?_
  cases a with
  | lst x => exact .inr (by cases b <;> rfl)
  | str x => exact .inr (by cases b <;> rfl)
  | _ => exact .inl (by cases b <;> rfl)
def fdivD : D → D → Option D
  | .int i, .int j => if j ≠ 0 ∧ j.natAbs < 1073741824 then some (.int (i.fdiv j)) else none
  | _, _ => none
theorem o_fdiv : OpV c (binaryOp .FloorDiv) fdivD := OpV.ints (fun _ => op_fdivN) fun a b d h => by
  unfold fdivD at h
  split at h
  · split at h
    · rename_i hz
      cases h
      exact ⟨_, _, _, rfl, rfl, hz, rfl, fun _ _ _ => .int _⟩
    · cases h
  · cases h
def modD : D → D → Option D
  | .int i, .int j => if j ≠ 0 then some (.int (i.fmod j)) else none
  | _, _ => none
theorem o_mod : OpV c (binaryOp .Mod) modD := OpV.ints (fun _ => op_modN) fun a b d h => by
  unfold modD at h
  split at h
  · split at h
    · rename_i hz
      cases h
      exact ⟨_, _, _, rfl, rfl, hz, rfl, fun _ _ _ => .int _⟩
    · cases h
  · cases h
def powD : D → D → Option D
  | .int i, .int j => if 0 ≤ j ∧ j ≤ 1000000 ∧ i.natAbs < 18446744073709551616 then some (.int (i ^ j.toNat)) else none
  | _, _ => none
theorem o_pow : OpV c (binaryOp .Pow) powD := OpV.ints (fun _ => op_pow) fun a b d h => by
  unfold powD at h
  split at h
  · split at h
    · rename_i hz
      cases h
      exact ⟨_, _, _, rfl, rfl, hz, rfl, fun _ _ _ => .int _⟩
    · cases h
  · cases h
/-- in place -/
theorem oi_addI : OpV c (inplaceOp .Add) addI := OpV.ints0 (fun _ => iop_add) fun a b d h => by
  unfold addI at h
  split at h <;> cases h
  exact ⟨_, _, _, rfl, rfl, rfl, fun _ _ _ => .int _⟩
theorem oi_sub : OpV c (inplaceOp .Sub) subD := OpV.ints0 (fun _ => iop_sub) fun a b d h => by
  unfold subD at h
  split at h <;> cases h
  exact ⟨_, _, _, rfl, rfl, rfl, fun _ _ _ => .int _⟩
/-! ### -x -/
def negD : D → Option D
  | .int i => some (.int (-i))
  | _ => none
def unM (g : D → Option D) (f : M D) : M D := bnd f fun d => opt (g d)
theorem v_neg {e : Expr} {f : M D} {pos : Pos} (h : VE c e f) : VE c (.UnaryOp .USub e pos) (unM negD f) := by
  refine ⟨fun X W ok => ?_⟩
  obtain ⟨t, p, q⟩ := h.run X W ok
  refine ⟨_, pe_un un_neg p, fun F ma S H σ ds Q cf h => ?_⟩
  refine q F ma S H σ ds _ cf (Res.bind h fun d ds1 ma1 S1 H1 x e1 c1 r1 h1 => ?_)
  cases r1 with
  | int i => exact ⟨i, rfl, h1 ma1 S1 H1 _ Ext.refl c1 (.int _)⟩
  | _ => exact (show False from h1).elim

/-! ### ==, !=, in, not in, <, <=, >, >= -/
def eqD (a b : D) : Option D := if dat a = true ∧ dat b = true then some (.bl (eqvD a b)) else none
def neD (a b : D) : Option D := if dat a = true ∧ dat b = true then some (.bl (!eqvD a b)) else none
theorem dat_split {a : D} (h : dat a = true) : (toP a).plain = true ∧ (toP a).depth ≤ 60 := by
  unfold dat at h
  rw [Bool.and_eq_true] at h
  exact ⟨h.1, of_decide_eq_true h.2⟩
theorem o_eq (hc : c.calm = true) : OpV c (compareOp .Eq) eqD := OpV.flat fun X W ok pins s σ ma S H a b d x y v u Q I cf ra rb rv ru hg q => by
  unfold eqD at hg
  split at hg
  · rename_i hz
    cases hg
    have hu := room60 ok hc
    obtain ⟨exc, k, isdef, fnc, rfl⟩ := ok.eq
    obtain ⟨p1, d1⟩ := dat_split hz.1
    obtain ⟨p2, d2⟩ := dat_split hz.2
    obtain ⟨as, r1⟩ := ra.reads I cf rv p1
    obtain ⟨bs, r2⟩ := rb.reads I cf ru p2
    exact PySem.SeqAt.eq_plain r1 r2 p1 p2 (by omega) (q _ _ I (.bl _) _ rfl)
  · cases hg
theorem o_ne (hc : c.calm = true) : OpV c (compareOp .NotEq) neD := OpV.flat fun X W ok pins s σ ma S H a b d x y v u Q I cf ra rb rv ru hg q => by
  unfold neD at hg
  split at hg
  · rename_i hz
    cases hg
    have hu := room60 ok hc
    obtain ⟨exc, k, isdef, fnc, rfl⟩ := ok.eq
    obtain ⟨p1, d1⟩ := dat_split hz.1
    obtain ⟨p2, d2⟩ := dat_split hz.2
    obtain ⟨as, r1⟩ := ra.reads I cf rv p1
    obtain ⟨bs, r2⟩ := rb.reads I cf ru p2
    exact PySem.SeqAt.ne_plain r1 r2 p1 p2 (by omega) (q _ _ I (.bl _) _ rfl)
  · cases hg
def inStr (j i : Str) : Bool := !(Builtin.Str.occurrences j i 0 j.length 1).isEmpty
def inD : D → D → Option D
  | a, .lst xs => if dat a = true ∧ dat (.lst xs) = true then some (.bl (xs.any fun y => eqvD y a)) else none
  | a, .frl xs => if dat a = true ∧ dat (.frl xs) = true then some (.bl (xs.any fun y => eqvD y a)) else none
  | a, .tup xs => if dat a = true ∧ dat (.tup xs) = true then some (.bl (xs.any fun y => eqvD y a)) else none
  | .str a, .str b => some (.bl (inStr b a))
  | _, _ => none
def notInD (a b : D) : Option D := match inD a b with
  | some (.bl k) => some (.bl (!k))
  | _ => none
theorem any_toPs (xs : List D) (a : D) : ((toPs xs).any fun y => PyData.eqv y (toP a)) = xs.any fun y => eqvD y a := by
  rw [toPs_map, List.any_map]; rfl
theorem o_in (hc : c.calm = true) : OpV c (compareOp .In) inD := OpV.flat fun X W ok pins s σ ma S H a b d x y v u Q I cf ra rb rv ru hg q => by
  have hu := room60 ok hc
  obtain ⟨exc, k, isdef, fnc, rfl⟩ := ok.eq
  unfold inD at hg
  split at hg
  · rename_i xs
    split at hg
    · rename_i hz
      cases hg
      obtain ⟨p1, d1⟩ := dat_split hz.1
      obtain ⟨p2, d2⟩ := dat_split hz.2
      obtain ⟨as, r1⟩ := ra.reads I cf rv p1
      obtain ⟨bs, r2⟩ := rb.reads I cf ru p2
      have p3 : PyData.plainAll (toPs xs) = true := by simpa [toP, PyData.plain] using p2
      exact PySem.SeqAt.in_list_data (xs := toPs xs) (d := toP a) (by simpa [toP] using r2) r1 p3 p1 (by omega) (by rw [any_toPs]; exact q _ _ I (.bl _) _ rfl)
    · cases hg
  · rename_i xs
    split at hg
    · rename_i hz
      cases hg
      obtain ⟨p1, d1⟩ := dat_split hz.1
      obtain ⟨p2, d2⟩ := dat_split hz.2
      obtain ⟨as, r1⟩ := ra.reads I cf rv p1
      obtain ⟨bs, r2⟩ := rb.reads I cf ru p2
      have p3 : PyData.plainAll (toPs xs) = true := by simpa [toP, PyData.plain] using p2
      exact PySem.SeqAt.in_list_data (xs := toPs xs) (d := toP a) (by simpa [toP] using r2) r1 p3 p1 (by omega) (by rw [any_toPs]; exact q _ _ I (.bl _) _ rfl)
    · cases hg
  · rename_i xs
    split at hg
    · rename_i hz
      cases hg
      obtain ⟨p1, d1⟩ := dat_split hz.1
      obtain ⟨p2, d2⟩ := dat_split hz.2
      obtain ⟨as, r1⟩ := ra.reads I cf rv p1
      obtain ⟨bs, r2⟩ := rb.reads I cf ru p2
      have p3 : PyData.plainAll (toPs xs) = true := by simpa [toP, PyData.plain] using p2
      exact PySem.SeqAt.in_tuple_data (xs := toPs xs) (d := toP a) (by simpa [toP] using r2) r1 p3 p1 (by omega) (by rw [any_toPs]; exact q _ _ I (.bl _) _ rfl)
    · cases hg
  · cases hg
    cases ra
    cases rb
    obtain ⟨t, rfl⟩ := rv
    obtain ⟨t', rfl⟩ := ru
    exact in_str (q _ _ I (.bl _) _ rfl)
  · cases hg
theorem o_notIn (hc : c.calm = true) : OpV c (compareOp .NotIn) notInD := OpV.flat fun X W ok pins s σ ma S H a b d x y v u Q I cf ra rb rv ru hg q => by
  have hu := room60 ok hc
  obtain ⟨exc, k, isdef, fnc, rfl⟩ := ok.eq
  unfold notInD at hg
  split at hg
  · rename_i kk hin
    cases hg
    unfold inD at hin
    split at hin
    · rename_i xs
      split at hin
      · rename_i hz
        cases hin
        obtain ⟨p1, d1⟩ := dat_split hz.1
        obtain ⟨p2, d2⟩ := dat_split hz.2
        obtain ⟨as, r1⟩ := ra.reads I cf rv p1
        obtain ⟨bs, r2⟩ := rb.reads I cf ru p2
        have p3 : PyData.plainAll (toPs xs) = true := by simpa [toP, PyData.plain] using p2
        exact PySem.SeqAt.notIn_list_data (xs := toPs xs) (d := toP a) (by simpa [toP] using r2) r1 p3 p1 (by omega) (by rw [any_toPs]; exact q _ _ I (.bl _) _ rfl)
      · cases hin
    · rename_i xs
      split at hin
      · rename_i hz
        cases hin
        obtain ⟨p1, d1⟩ := dat_split hz.1
        obtain ⟨p2, d2⟩ := dat_split hz.2
        obtain ⟨as, r1⟩ := ra.reads I cf rv p1
        obtain ⟨bs, r2⟩ := rb.reads I cf ru p2
        have p3 : PyData.plainAll (toPs xs) = true := by simpa [toP, PyData.plain] using p2
        exact PySem.SeqAt.notIn_list_data (xs := toPs xs) (d := toP a) (by simpa [toP] using r2) r1 p3 p1 (by omega) (by rw [any_toPs]; exact q _ _ I (.bl _) _ rfl)
      · cases hin
    · rename_i xs
      split at hin
      · rename_i hz
        cases hin
        obtain ⟨p1, d1⟩ := dat_split hz.1
        obtain ⟨p2, d2⟩ := dat_split hz.2
        obtain ⟨as, r1⟩ := ra.reads I cf rv p1
        obtain ⟨bs, r2⟩ := rb.reads I cf ru p2
        have p3 : PyData.plainAll (toPs xs) = true := by simpa [toP, PyData.plain] using p2
        exact PySem.SeqAt.notIn_tuple_data (xs := toPs xs) (d := toP a) (by simpa [toP] using r2) r1 p3 p1 (by omega) (by rw [any_toPs]; exact q _ _ I (.bl _) _ rfl)
      · cases hin
    · cases hin
      cases ra
      cases rb
      obtain ⟨t, rfl⟩ := rv
      obtain ⟨t', rfl⟩ := ru
      exact notIn_str (q _ _ I (.bl _) _ rfl)
    · cases hin
  · cases hg
/-- the two can be compared by < -/
def ordD (a b : D) : Bool := dat a && dat b && likeD a b && !(match a with | .non => true | _ => false)
theorem alike_plain : ∀ {a : PyData}, True := trivial
def cmpV (op : Bool → Bool → Bool) (a b : D) : Option D := if ordD a b = true then some (.bl (op (ltD a b) (ltD b a))) else none
def ltV : D → D → Option D := cmpV fun l _ => l
def gtV : D → D → Option D := cmpV fun _ g => g
def leV : D → D → Option D := cmpV fun _ g => !g
def geV : D → D → Option D := cmpV fun l _ => !l
theorem ord_split {a b : D} (h : ordD a b = true) : dat a = true ∧ dat b = true ∧ PySem.W.alike (toP a) (toP b) = true ∧ toP a ≠ .none := by
  unfold ordD at h
  simp only [Bool.and_eq_true] at h
  obtain ⟨⟨⟨h1, h2⟩, h3⟩, h4⟩ := h
  refine ⟨h1, h2, h3, fun e => ?_⟩
  cases a <;> simp [toP] at e
  exact absurd h4 (by decide)
theorem cmp_any {op : CmpOp} {k : Bool → Bool → Bool} (hc : c.calm = true)
    (rule : ∀ (X : Cx) (s : Shared) (a b : Value) (da db : PyData) as bs (Q : Value → Shared → Prop), Reads s.heap a da as → Reads s.heap b db bs → PySem.W.alike da db = true → da ≠ .none → X.A.units + min da.depth db.depth < cLine → Q (.bool (k (PySem.W.dataLt da db) (PySem.W.dataLt db da))) s →
      wpAny (model X.prog X.w) X.A (compareOp op a b) Q X.xe s) : OpV c (compareOp op) (cmpV k) := OpV.flat fun X W ok pins s σ ma S H a b d x y v u Q I cf ra rb rv ru hg q => by
  have hu := room60 ok hc
  obtain ⟨exc, kk, isdef, fnc, rfl⟩ := ok.eq
  unfold cmpV at hg
  split at hg
  · rename_i hz
    cases hg
    obtain ⟨z1, z2, z3, z4⟩ := ord_split hz
    obtain ⟨p1, d1⟩ := dat_split z1
    obtain ⟨p2, d2⟩ := dat_split z2
    obtain ⟨as, r1⟩ := ra.reads I cf rv p1
    obtain ⟨bs, r2⟩ := rb.reads I cf ru p2
    exact rule X s v u _ _ as bs Q r1 r2 z3 z4 (by omega) (q _ _ I (.bl _) _ rfl)
  · cases hg
theorem o_lt (hc : c.calm = true) : OpV c (compareOp .Lt) ltV := cmp_any hc fun X s a b da db as bs Q h1 h2 h3 h4 h5 h6 => PySem.W.lt_data h1 h2 h3 h4 h5 h6
theorem o_gt (hc : c.calm = true) : OpV c (compareOp .Gt) gtV := cmp_any hc fun X s a b da db as bs Q h1 h2 h3 h4 h5 h6 => PySem.W.gt_data h1 h2 h3 h4 h5 h6
theorem o_le (hc : c.calm = true) : OpV c (compareOp .LtE) leV := cmp_any hc fun X s a b da db as bs Q h1 h2 h3 h4 h5 h6 => PySem.W.le_data h1 h2 h3 h4 h5 h6
theorem o_ge (hc : c.calm = true) : OpV c (compareOp .GtE) geV := cmp_any hc fun X s a b da db as bs Q h1 h2 h3 h4 h5 h6 => PySem.W.ge_data h1 h2 h3 h4 h5 h6
/-! is None, is not None -/
def isNon : D → Bool
  | .non => true
  | _ => false
def isNV (a b : D) : Option D := if isNon b = true then some (.bl (isNon a)) else none
def notNV (a b : D) : Option D := if isNon b = true then some (.bl (!isNon a)) else none
theorem rep_non {K : PySem.W.Frag} {S : Hp} {ma : List Addr} {a : D} {x : V} (r : Rep K S ma a x) : decide (x = .non) = isNon a := by
  cases r <;> rfl
theorem o_isN : OpV c (compareOp .Is) isNV := by
  intro X W ok
  refine ⟨_, op_isN, fun F ma S H σ ds a b x y Q cf ra rb hr => ?_⟩
  have hr : Res c.B W F (RpV c.B.K) σ ma S (opt (if isNon b = true then some (D.bl (isNon a)) else none) ds) Q := hr
  cases rb with
  | non => exact ⟨rfl, by rw [rep_non ra]; exact hr ma S H _ Ext.refl cf (.bl _)⟩
  | _ => exact hr.elim
theorem o_notN : OpV c (compareOp .IsNot) notNV := by
  intro X W ok
  refine ⟨_, op_notN, fun F ma S H σ ds a b x y Q cf ra rb hr => ?_⟩
  have hr : Res c.B W F (RpV c.B.K) σ ma S (opt (if isNon b = true then some (D.bl (!isNon a)) else none) ds) Q := hr
  cases rb with
  | non => exact ⟨rfl, by rw [rep_non ra]; exact hr ma S H _ Ext.refl cf (.bl _)⟩
  | _ => exact hr.elim
/-! a < b < c -/
def chM (g h : D → D → Option D) (fa fb fc : M D) : M D := bnd fa fun x => bnd fb fun y => bnd (opt (g x y)) fun z => bnd (opt (asB z)) fun k => if k = true then bnd fc fun w => opt (h y w) else rtn (.bl false)
theorem chain_run {X : Cx} {W : WX} {r r' : R2} {g g' : D → D → Option D} {fa fb fc : M D} {ta tb tc : TE}
    (qa : ∀ F ma S H σ ds Q, Cf c.B.K F ma S H σ ds → Res c.B W F (RpV c.B.K) σ ma S (fa ds) Q → ta σ H Q) (qb : ∀ F ma S H σ ds Q, Cf c.B.K F ma S H σ ds → Res c.B W F (RpV c.B.K) σ ma S (fb ds) Q → tb σ H Q) (qc : ∀ F ma S H σ ds Q, Cf c.B.K F ma S H σ ds → Res c.B W F (RpV c.B.K) σ ma S (fc ds) Q → tc σ H Q)
    (qr : ∀ F ma S H σ ds a b x y Q, Cf c.B.K F ma S H σ ds → Rep c.B.K S ma a x → Rep c.B.K S ma b y → Res c.B W F (RpV c.B.K) σ ma S (opt (g a b) ds) Q → r x y H Q)
    (qr' : ∀ F ma S H σ ds a b x y Q, Cf c.B.K F ma S H σ ds → Rep c.B.K S ma a x → Rep c.B.K S ma b y → Res c.B W F (RpV c.B.K) σ ma S (opt (g' a b) ds) Q → r' x y H Q) :
    ∀ F ma S H σ ds Q, Cf c.B.K F ma S H σ ds → Res c.B W F (RpV c.B.K) σ ma S (chM g g' fa fb fc ds) Q → tChain r r' ta tb tc σ H Q := by
  intro F ma S H σ ds Q cf h
  refine qa F ma S H σ ds _ cf (Res.bind h fun d1 ds1 ma1 S1 H1 x e1 c1 r1 h1 => ?_)
  refine qb F ma1 S1 H1 σ ds1 _ c1 (Res.bind h1 fun d2 ds2 ma2 S2 H2 y e2 c2 r2 h2 => ?_)
  refine qr F ma2 S2 H2 σ ds2 d1 d2 x y _ c2 (Rep.mono e2 r1) r2 (Res.bind h2 fun d3 ds3 ma3 S3 H3 z e3 c3 r3 h3 => ?_)
  cases r3 with
  | bl k =>
    refine ⟨k, rfl, ?_⟩
    cases k with
    | false => rw [if_neg Bool.false_ne_true]; exact h3 ma3 S3 H3 _ Ext.refl c3 (.bl false)
    | true =>
      rw [if_pos rfl]
      have h3 : Res c.B W F (RpV c.B.K) σ ma3 S3 ((fc ds3).bind fun w s => opt (g' d2 w) s) Q := h3
      refine qc F ma3 S3 H3 σ ds3 _ c3 (Res.bind h3 fun d4 ds4 ma4 S4 H4 w e4 c4 r4 h4 => ?_)
      exact qr' F ma4 S4 H4 σ ds4 d2 d4 y w Q c4 (Rep.mono (e3.trans e4) r2) r4 h4
  | _ => exact (show False from h3).elim
theorem v_chain {op op' : CmpOp} {g g' : D → D → Option D} {a b e : Expr} {fa fb fc : M D} {pos : Pos} (ho : OpV c (compareOp op) g) (ho' : OpV c (compareOp op') g') (ha : VE c a fa) (hb : VE c b fb) (hc : VE c e fc)
    (hm : lastMarks [op, op'] [b, e] = false) : VE c (.Compare a [op, op'] [b, e] pos) (chM g g' fa fb fc) := by
  refine ⟨fun X W ok => ?_⟩
  obtain ⟨ta, pa, qa⟩ := ha.run X W ok
  obtain ⟨tb, pb, qb⟩ := hb.run X W ok
  obtain ⟨tc, pc, qc⟩ := hc.run X W ok
  obtain ⟨r, po, qo⟩ := ho X W ok
  obtain ⟨r', po', qo'⟩ := ho' X W ok
  exact ⟨_, pe_chain po po' pa pb pc hm, chain_run (X := X) qa qb qc qo qo'⟩
theorem t_chain {op op' : CmpOp} {g g' : D → D → Option D} {a b e : Expr} {fa fb fc : M D} {pos : Pos} (ho : OpV c (compareOp op) g) (ho' : OpV c (compareOp op') g') (ha : VE c a fa) (hb : VE c b fb) (hc : VE c e fc)
    (hm : lastMarks [op, op'] [b, e] = false) : VT c (.Compare a [op, op'] [b, e] pos) (tstM (chM g g' fa fb fc)) := by
  refine ⟨fun X W ok => ?_⟩
  obtain ⟨ta, pa, qa⟩ := ha.run X W ok
  obtain ⟨tb, pb, qb⟩ := hb.run X W ok
  obtain ⟨tc, pc, qc⟩ := hc.run X W ok
  obtain ⟨r, po, qo⟩ := ho X W ok
  obtain ⟨r', po', qo'⟩ := ho' X W ok
  refine ⟨_, pt_chain po po' pa pb pc hm, fun F ma S H σ ds Q cf h => ?_⟩
  refine chain_run (X := X) qa qb qc qo qo' F ma S H σ ds _ cf (Res.bind h fun d ds1 ma1 S1 H1 x e1 c1 r1 h1 => ?_)
  cases r1 with
  | bl k => exact ⟨k, rfl, h1 ma1 S1 H1 k Ext.refl c1 rfl⟩
  | _ => exact (show False from h1).elim
end
end Vl
namespace Vl
open PySem PySem.Spec PyProof.Rows L2

/-! ### looking at what may still change -/
/-- a value, or the present content of a list (table) that may change -/
inductive Vw (K : PySem.W.Frag) (S : Hp) (ma : List Addr) (H : Hp) : D → V → Prop
  | rep {d : D} {v : V} : Rep K S ma d v → Vw K S ma H d v
  | lst {a : Addr} {xs : List D} {vs : List V} : H a = some (.lst vs) → RepL K S ma xs vs → Vw K S ma H (.lst xs) (.ref a)
  | dK {a : Addr} {ks : List Key} {xs : List D} {vs : List V} : H a = some (.dK (ks.zip vs)) → ks.length = vs.length → RepL K S ma xs vs → Vw K S ma H (.dK ks xs) (.ref a)
  | dT {a : Addr} {ks : List (List Key)} {xs : List D} {vs : List V} : H a = some (.dT (ks.zip vs)) → ks.length = vs.length → RepL K S ma xs vs → Vw K S ma H (.dT ks xs) (.ref a)
def MO.shut : MO → D
  | .lst ds => .lst ds
  | .dK ks ds => .dK ks ds
  | .dT ks ds => .dT ks ds
def lookD (s : DS) : D → D
  | .mut n => match s.mem[n]? with
    | some o => o.shut
    | none => .mut n
  | d => d
section
variable {K : PySem.W.Frag} {F S H : Hp} {ma : List Addr} {σ : L2.St} {ds : DS}
theorem Vw.mo {a : Addr} {o : MO} {vs : List V} (h : H a = some (o.ho vs)) (r : RepL K S ma o.ds vs) (f : o.fit) : Vw K S ma H o.shut (.ref a) := by
  cases o with
  | lst xs => exact .lst h r
  | dK ks xs => exact .dK h (by rw [← r.length]; exact f) r
  | dT ks xs => exact .dT h (by rw [← r.length]; exact f) r
theorem Vw.slot {a : Addr} {o : Slot} {vs : List V} (ho : o.isOwn = true) (h : H a = some (o.ho vs)) (r : RepL K S ma o.ds vs) (f : o.fit) : Vw K S ma H o.shut (.ref a) := by
  cases o with
  | un => cases ho
  | val d => cases ho
  | own xs => exact .lst h r
  | ownK ks xs => exact .dK h (by rw [← r.length]; exact f) r
  | ownT ks xs => exact .dT h (by rw [← r.length]; exact f) r
theorem Cf.look (c : Cf K F ma S H σ ds) {d : D} {v : V} (r : Rep K S ma d v) : Vw K S ma H (lookD ds d) v := by
  cases d with
  | «mut» n =>
    cases e : ds.mem[n]? with
    | none => 
      have q : lookD ds (.mut n) = .mut n := by unfold lookD; simp only [e]
      rw [q]; exact .rep r
    | some o =>
      have q : lookD ds (.mut n) = o.shut := by unfold lookD; simp only [e]
      rw [q]
      cases r with
      | «mut» h =>
        obtain ⟨vs, h1, _, _, h2, h3⟩ := c.mem n _ o h e
        exact Vw.mo h1 h2 h3
  | _ => exact .rep r
def peekD (i : Nat) (s : DS) : Option D := match s.env[i]? with
  | some (.val d) => some (lookD s d)
  | some .un => none
  | some sl => some sl.shut
  | none => none
theorem Cf.peek (c : Cf K F ma S H σ ds) {i : Nat} {d : D} (h : peekD i ds = some d) : ∃ v, σ[i]? = some (some v) ∧ Vw K S ma H d v := by
  unfold peekD at h
  cases e : ds.env[i]? with
  | none => rw [e] at h; cases h
  | some sl =>
    rw [e] at h
    have own : sl.isOwn = true → sl.shut = d → ∃ v, σ[i]? = some (some v) ∧ Vw K S ma H d v := fun ho hd => by
      obtain ⟨p, vs, e1, e2, _, _, _, e3, e4⟩ := c.own i sl e ho
      subst hd
      exact ⟨_, e1, Vw.slot ho e2 e3 e4⟩
    cases sl with
    | un => cases h
    | val x =>
      cases h
      obtain ⟨v, e1, r⟩ := c.val i x e
      exact ⟨v, e1, c.look r⟩
    | own xs => exact own rfl (Option.some.inj h)
    | ownK ks xs => exact own rfl (Option.some.inj h)
    | ownT ks xs => exact own rfl (Option.some.inj h)
/-- what may be looked at is a value of the present heap -/
theorem Vw.now (c : Cf K F ma S H σ ds) {d : D} {v : V} (h : Vw K S ma H d v) : Rep K H ma d v := by
  have ex : Ext ma S ma H := ⟨c.sub, [], by simp⟩
  cases h with
  | rep r => exact r.mono ex
  | lst h r => exact .lst h (r.mono ex)
  | dK h l r => exact .dK (.inl h) l (r.mono ex)
  | dT h l r => exact .dT (.inl h) l (r.mono ex)
/-- a list, by what is seen -/
theorem Vw.seqL (c : Cf K F ma S H σ ds) {xs : List D} {v : V} (h : Vw K S ma H (.lst xs) v) : ∃ a vs, v = .ref a ∧ SqL K H a vs ∧ RepL K S ma xs vs := by
  cases h with
  | rep r =>
    cases r with
    | lst h r => exact ⟨_, _, rfl, .inl (.inl (c.sub _ _ h)), r⟩
  | lst h r => exact ⟨_, _, rfl, .inl (.inl h), r⟩
theorem Vw.seqF (c : Cf K F ma S H σ ds) {xs : List D} {v : V} (h : Vw K S ma H (.frl xs) v) : ∃ a vs, v = .ref a ∧ SqL K H a vs ∧ RepL K S ma xs vs := by
  cases h with
  | rep r =>
    cases r with
    | frl h r => exact ⟨_, _, rfl, c.sub.seq h, r⟩
theorem Vw.seqT (c : Cf K F ma S H σ ds) {xs : List D} {v : V} (h : Vw K S ma H (.tup xs) v) : ∃ a vs, v = .ref a ∧ SqT K H a vs ∧ RepL K S ma xs vs := by
  cases h with
  | rep r =>
    cases r with
    | tup h r => exact ⟨_, _, rfl, Vl.seqT c.sub h, r⟩
end
abbrev RpW (K : PySem.W.Frag) : RpT D V := fun _ ma S H _ _ d v => Vw K S ma H d v
structure VO (c : SC) (e : Expr) (f : M D) : Prop where
  run : ∀ X W, Ok c X W → ∃ t : TE, PE X e t ∧ ∀ F ma S H σ ds Q, Cf c.B.K F ma S H σ ds → Res c.B W F (RpW c.B.K) σ ma S (f ds) Q → t σ H Q
def peekM (i : Nat) : M D := fun s => opt (peekD i s) s
def lookM (f : M D) : M D := bnd f fun d s => .ok (lookD s d) s
section
variable {c : SC} {pos p : Pos} {a b e : Expr} {fa fb : M D}
theorem o_peek (i : Nat) {x : Str} (hN : c.N[i]? = some x) (hv : Vis c.sc x) (hd : (x == ("__debug__" : Str)) = false := by decide) (hcd : (x == ("__classdict__" : Str)) = false := by decide) : VO c (.Name x pos) (peekM i) := by
  refine ⟨fun X W ok => ?_⟩
  obtain ⟨exc, k, isdef, fnc, rfl⟩ := ok.eq
  refine ⟨tVar i, pe_var hN hv hd hcd, fun F ma S H σ ds Q cf h => ?_⟩
  unfold peekM at h
  cases q : peekD i ds with
  | none => rw [q] at h; exact h.elim
  | some d =>
    rw [q] at h
    obtain ⟨v, e1, r⟩ := cf.peek q
    exact ⟨v, e1, h ma S H v Ext.refl cf r⟩
theorem o_look (h : VE c e fa) : VO c e (lookM fa) := by
  refine ⟨fun X W ok => ?_⟩
  obtain ⟨ta, pa, qa⟩ := h.run X W ok
  refine ⟨ta, pa, fun F ma S H σ ds Q cf h => ?_⟩
  exact qa F ma S H σ ds _ cf (Res.bind h fun d ds1 ma1 S1 H1 x e1 c1 r1 h1 => h1 ma1 S1 H1 x Ext.refl c1 (c1.look r1))

/-! ### a two-place operation whose right hand may be looked at -/
def OpW (c : SC) (f : Value → Value → Sem Value) (g : D → D → Option D) : Prop := ∀ X W, Ok c X W → ∃ r : R2, OpR X f r ∧ ∀ F ma S H σ ds a b x y Q, Cf c.B.K F ma S H σ ds → Rep c.B.K S ma a x → Vw c.B.K S ma H b y →
  Res c.B W F (RpV c.B.K) σ ma S (opt (g a b) ds) Q → r x y H Q
variable {g : D → D → Option D}
theorem v_cmpW {op : CmpOp} (ho : OpW c (compareOp op) g) (ha : VE c a fa) (hb : VO c b fb) (hm : behindInMarks op b = false) : VE c (.Compare a [op] [b] pos) (binM g fa fb) := by
  refine ⟨fun X W ok => ?_⟩
  obtain ⟨ta, pa, qa⟩ := ha.run X W ok
  obtain ⟨tb, pb, qb⟩ := hb.run X W ok
  obtain ⟨r, po, qr⟩ := ho X W ok
  refine ⟨tOp r ta tb, pe_cmpR po pa pb hm, fun F ma S H σ ds Q cf h => ?_⟩
  refine qa F ma S H σ ds _ cf (Res.bind h fun d1 ds1 ma1 S1 H1 x e1 c1 r1 h1 => ?_)
  refine qb F ma1 S1 H1 σ ds1 _ c1 (Res.bind h1 fun d2 ds2 ma2 S2 H2 y e2 c2 r2 h2 => ?_)
  exact qr F ma2 S2 H2 σ ds2 d1 d2 x y Q c2 (Rep.mono e2 r1) r2 h2
theorem t_cmpW {op : CmpOp} (ho : OpW c (compareOp op) g) (ha : VE c a fa) (hb : VO c b fb) (hm : behindInMarks op b = false) : VT c (.Compare a [op] [b] pos) (tstM (binM g fa fb)) := by
  refine ⟨fun X W ok => ?_⟩
  obtain ⟨ta, pa, qa⟩ := ha.run X W ok
  obtain ⟨tb, pb, qb⟩ := hb.run X W ok
  obtain ⟨r, po, qr⟩ := ho X W ok
  refine ⟨_, pt_cmpR po pa pb hm, fun F ma S H σ ds Q cf h => ?_⟩
  have h : Res c.B W F RpB σ ma S ((bnd fa fun x => bnd (bnd fb fun y => opt (g x y)) fun d => opt (asB d)) ds) Q := by
    have e : (bnd fa fun x => bnd (bnd fb fun y => opt (g x y)) fun d => opt (asB d)) ds = tstM (binM g fa fb) ds := by
      unfold tstM binM bnd
      cases fa ds <;> rfl
    rw [e]; exact h
  refine qa F ma S H σ ds _ cf (Res.bind h fun d1 ds1 ma1 S1 H1 x e1 c1 r1 h1 => ?_)
  have h1 : Res c.B W F RpB σ ma1 S1 ((bnd fb fun y => bnd (opt (g d1 y)) fun d => opt (asB d)) ds1) Q := by
    have e : (bnd fb fun y => bnd (opt (g d1 y)) fun d => opt (asB d)) ds1 = (bnd (bnd fb fun y => opt (g d1 y)) fun d => opt (asB d)) ds1 := by
      unfold bnd
      cases fb ds1 <;> rfl
    rw [e]; exact h1
  refine qb F ma1 S1 H1 σ ds1 _ c1 (Res.bind h1 fun d2 ds2 ma2 S2 H2 y e2 c2 r2 h2 => ?_)
  refine qr F ma2 S2 H2 σ ds2 d1 d2 x y _ c2 (Rep.mono e2 r1) r2 (Res.bind h2 fun d ds3 ma3 S3 H3 z e3 c3 r3 h3 => ?_)
  cases r3 with
  | bl k => exact ⟨k, rfl, h3 ma3 S3 H3 k Ext.refl c3 rfl⟩
  | _ => exact (show False from h3).elim
/-- from a rule for two values -/
theorem OpW.flat {f : Value → Value → Sem Value}
    (h : ∀ X W, Ok c X W → ∀ (pins : List (Addr × Obj)) (s : Shared) (σ : L2.St) (ma : List Addr) (S H : Hp) a b d x y v u Q, Inv X pins σ H s → Same S H → Rep c.B.K S ma a x → Rep c.B.K S ma b y → RelV x v → RelV y u → g a b = some d →
      (∀ (k : Bool) s', Inv X pins σ H s' → d = .bl k → ∀ w, RelV (.bl k) w → Q w s') → wpAny (model X.prog X.w) X.A (f v u) Q X.xe s) : OpW c f g := by
  intro X W ok
  refine ⟨fun x y H Q => ∃ ma S a b d, Same S H ∧ Rep c.B.K S ma a x ∧ Rep c.B.K S ma b y ∧ g a b = some d ∧ ∀ k, d = .bl k → Q (.bl k) H, ?_, ?_⟩
  · intro pins s σ H x y v u Q I rx ry ⟨ma, S, a, b, d, cf, ra, rb, hg, q⟩
    exact h X W ok pins s σ ma S H a b d x y v u _ I cf ra rb rx ry hg fun k s' I' e w rw => ⟨.bl k, H, I', rw, q k e⟩
  · intro F ma S H σ ds a b x y Q cf ra rb hr
    cases hg : g a b with
    | none => rw [hg] at hr; exact hr.elim
    | some d =>
      rw [hg] at hr
      refine ⟨ma, H, a, b, d, Same.refl _, ra.mono ⟨cf.sub, [], by simp⟩, rb.now cf, hg, fun k e => ?_⟩
      subst e
      exact hr ma S H _ Ext.refl cf (.bl k)
theorem in_any {X : Cx} {W : WX} {pins : List (Addr × Obj)} {s : Shared} {σ : L2.St} {ma : List Addr} {S H : Hp} {d1 d2 : D} {x y : V} {v u : Value} {Q : Value → Shared → Prop} {k : Bool} (ok : Ok c X W) (hc : c.calm = true)
    (I : Inv X pins σ H s) (cf : Same S H) (ra : Rep c.B.K S ma d1 x) (rb : Rep c.B.K S ma d2 y) (rv : RelV x v) (ru : RelV y u) (hg : inD d1 d2 = some (.bl k)) :
    (Q (.bool k) s → wpAny (model X.prog X.w) X.A (compareOp .In v u) Q X.xe s) ∧ (Q (.bool (!k)) s → wpAny (model X.prog X.w) X.A (compareOp .NotIn v u) Q X.xe s) := by
  have hu := room60 ok hc
  obtain ⟨exc, k', isdef, fnc, rfl⟩ := ok.eq
  unfold inD at hg
  split at hg
  · rename_i xs
    split at hg
    · rename_i hz
      cases hg
      obtain ⟨p1, d1⟩ := dat_split hz.1
      obtain ⟨p2, d2⟩ := dat_split hz.2
      obtain ⟨as, r1⟩ := ra.reads I cf rv p1
      obtain ⟨bs, r2⟩ := rb.reads I cf ru p2
      have p3 : PyData.plainAll (toPs xs) = true := by simpa [toP, PyData.plain] using p2
      exact ⟨fun q => PySem.SeqAt.in_list_data (xs := toPs xs) (by simpa [toP] using r2) r1 p3 p1 (by omega) (by rw [any_toPs]; exact q),
        fun q => PySem.SeqAt.notIn_list_data (xs := toPs xs) (by simpa [toP] using r2) r1 p3 p1 (by omega) (by rw [any_toPs]; exact q)⟩
    · cases hg
  · rename_i xs
    split at hg
    · rename_i hz
      cases hg
      obtain ⟨p1, d1⟩ := dat_split hz.1
      obtain ⟨p2, d2⟩ := dat_split hz.2
      obtain ⟨as, r1⟩ := ra.reads I cf rv p1
      obtain ⟨bs, r2⟩ := rb.reads I cf ru p2
      have p3 : PyData.plainAll (toPs xs) = true := by simpa [toP, PyData.plain] using p2
      exact ⟨fun q => PySem.SeqAt.in_list_data (xs := toPs xs) (by simpa [toP] using r2) r1 p3 p1 (by omega) (by rw [any_toPs]; exact q),
        fun q => PySem.SeqAt.notIn_list_data (xs := toPs xs) (by simpa [toP] using r2) r1 p3 p1 (by omega) (by rw [any_toPs]; exact q)⟩
    · cases hg
  · rename_i xs
    split at hg
    · rename_i hz
      cases hg
      obtain ⟨p1, d1⟩ := dat_split hz.1
      obtain ⟨p2, d2⟩ := dat_split hz.2
      obtain ⟨as, r1⟩ := ra.reads I cf rv p1
      obtain ⟨bs, r2⟩ := rb.reads I cf ru p2
      have p3 : PyData.plainAll (toPs xs) = true := by simpa [toP, PyData.plain] using p2
      exact ⟨fun q => PySem.SeqAt.in_tuple_data (xs := toPs xs) (by simpa [toP] using r2) r1 p3 p1 (by omega) (by rw [any_toPs]; exact q),
        fun q => PySem.SeqAt.notIn_tuple_data (xs := toPs xs) (by simpa [toP] using r2) r1 p3 p1 (by omega) (by rw [any_toPs]; exact q)⟩
    · cases hg
  · cases hg
    cases ra
    cases rb
    obtain ⟨t, rfl⟩ := rv
    obtain ⟨t', rfl⟩ := ru
    exact ⟨fun q => in_str q, fun q => notIn_str q⟩
  · cases hg
theorem inD_bl {a b d : D} (h : inD a b = some d) : ∃ k, d = .bl k := by
  unfold inD at h
  split at h
  · split at h
    · cases h; exact ⟨_, rfl⟩
    · cases h
  · split at h
    · cases h; exact ⟨_, rfl⟩
    · cases h
  · split at h
    · cases h; exact ⟨_, rfl⟩
    · cases h
  · cases h; exact ⟨_, rfl⟩
  · cases h
theorem w_in (hc : c.calm = true) : OpW c (compareOp .In) inD := OpW.flat fun X W ok pins s σ ma S H a b d x y v u Q I cf ra rb rv ru hg q => by
  obtain ⟨k, rfl⟩ := inD_bl hg
  exact (in_any ok hc I cf ra rb rv ru hg).1 (q k s I rfl _ rfl)
theorem w_notIn (hc : c.calm = true) : OpW c (compareOp .NotIn) notInD := OpW.flat fun X W ok pins s σ ma S H a b d x y v u Q I cf ra rb rv ru hg q => by
  unfold notInD at hg
  split at hg
  · rename_i k e
    cases hg
    exact (in_any ok hc I cf ra rb rv ru e).2 (q (!k) s I rfl _ rfl)
  · cases hg

/-! ### subscripts -/
def ixD : D → D → Option D
  | .lst xs, .int i => (ixN xs.length i).bind fun j => xs[j]?
  | .frl xs, .int i => (ixN xs.length i).bind fun j => xs[j]?
  | .tup xs, .int i => (ixN xs.length i).bind fun j => xs[j]?
  | .str z, .int i => if z.length ≤ 16777216 then ((ixN z.cps.toList.length i).bind fun j => z.cps.toList[j]?).map sign else none
  | _, _ => none
theorem atI_rep {K : PySem.W.Frag} {S : Hp} {ma : List Addr} {xs : List D} {vs : List V} {i : Int} {d : D} (r : RepL K S ma xs vs) (h : ((ixN xs.length i).bind fun j => xs[j]?) = some d) : ∃ v, atI vs i = some v ∧ Rep K S ma d v := by
  unfold atI
  rw [r.length] at h
  cases e : ixN vs.length i with
  | none => rw [e] at h; cases h
  | some j =>
    rw [e] at h
    obtain ⟨v, h1, h2⟩ := r.get (show xs[j]? = some d from h)
    exact ⟨v, h1, h2⟩
def rIx (K : PySem.W.Frag) : R2 := fun x y H Q => (rIxL K x y H Q ∨ rIxT K x y H Q) ∨ rIxS x y H Q
theorem rIx_of {B : Bs} {W : WX} {F S H : Hp} {ma : List Addr} {σ : L2.St} {ds : DS} {da db : D} {x y : V} {Q : VK} (cf : Cf B.K F ma S H σ ds) (ra : Vw B.K S ma H da x) (rb : Rep B.K S ma db y) (h : Res B W F (RpV B.K) σ ma S (opt (ixD da db) ds) Q) : rIx B.K x y H Q := by
  have seq : ∀ (xs : List D) (i : Int), ixD da db = ((ixN xs.length i).bind fun j => xs[j]?) → ∀ (vs : List V), RepL B.K S ma xs vs → ∃ v, atI vs i = some v ∧ Q v H := fun xs i e vs r => by
    rw [e] at h
    cases e2 : ((ixN xs.length i).bind fun j => xs[j]?) with
    | none => rw [e2] at h; exact h.elim
    | some d =>
      rw [e2] at h
      obtain ⟨v, h1, h2⟩ := atI_rep r e2
      exact ⟨v, h1, h ma S H v Ext.refl cf h2⟩
  unfold ixD at h
  split at h
  · rename_i xs i
    cases rb
    obtain ⟨a, vs, rfl, hs, r⟩ := ra.seqL cf
    obtain ⟨v, h1, h2⟩ := seq xs i rfl vs r
    exact .inl (.inl ⟨a, vs, i, v, rfl, rfl, hs, h1, h2⟩)
  · rename_i xs i
    cases rb
    obtain ⟨a, vs, rfl, hs, r⟩ := ra.seqF cf
    obtain ⟨v, h1, h2⟩ := seq xs i rfl vs r
    exact .inl (.inl ⟨a, vs, i, v, rfl, rfl, hs, h1, h2⟩)
  · rename_i xs i
    cases rb
    obtain ⟨a, vs, rfl, hs, r⟩ := ra.seqT cf
    obtain ⟨v, h1, h2⟩ := seq xs i rfl vs r
    exact .inl (.inr ⟨a, vs, i, v, rfl, rfl, hs, h1, h2⟩)
  · rename_i z i
    cases rb
    split at h
    · rename_i hz
      cases ra with
      | rep ra =>
        cases ra
        cases e2 : ((ixN z.cps.toList.length i).bind fun j => z.cps.toList[j]?) with
        | none => rw [e2] at h; exact h.elim
        | some d =>
          rw [e2] at h
          exact .inr ⟨z, i, d, rfl, rfl, by rw [sizeLine_eq]; exact hz, e2, h ma S H _ Ext.refl cf (.str _)⟩
    · exact h.elim
  · exact h.elim
def ixM (fa fb : M D) : M D := bnd fa fun x => bnd fb fun y s => opt (ixD (lookD s x) y) s
def ixvM (i : Nat) (fb : M D) : M D := fun s => match s.env[i]? with
  | none => .stuck
  | some .un => .stuck
  | some _ => (bnd fb fun y s => opt ((peekD i s).bind fun x => ixD x y) s) s
theorem v_ix (ha : VE c a fa) (hb : VE c b fb) (hs : PlainIx b := by intro _ _; rfl) : VE c (.Subscript a b pos) (ixM fa fb) := by
  refine ⟨fun X W ok => ?_⟩
  obtain ⟨ta, pa, qa⟩ := ha.run X W ok
  obtain ⟨tb, pb, qb⟩ := hb.run X W ok
  obtain ⟨exc, k, isdef, fnc, rfl⟩ := ok.eq
  refine ⟨_, pe_ix ((ix_list.or ix_tup).or ix_str) pa pb hs, fun F ma S H σ ds Q cf h => ?_⟩
  refine qa F ma S H σ ds _ cf (Res.bind h fun d1 ds1 ma1 S1 H1 x e1 c1 r1 h1 => ?_)
  refine qb F ma1 S1 H1 σ ds1 _ c1 (Res.bind h1 fun d2 ds2 ma2 S2 H2 y e2 c2 r2 h2 => ?_)
  exact rIx_of c2 (c2.look (r1.mono e2)) r2 h2
theorem v_ixv (i : Nat) {x : Str} (hN : c.N[i]? = some x) (hv : Vis c.sc x) (hb : VE c b fb) (hs : PlainIx b := by intro _ _; rfl) (hd : (x == ("__debug__" : Str)) = false := by decide) (hcd : (x == ("__classdict__" : Str)) = false := by decide) :
    VE c (.Subscript (.Name x p) b pos) (ixvM i fb) := by
  refine ⟨fun X W ok => ?_⟩
  obtain ⟨tb, pb, qb⟩ := hb.run X W ok
  obtain ⟨exc, k, isdef, fnc, rfl⟩ := ok.eq
  refine ⟨_, pe_ix ((ix_list.or ix_tup).or ix_str) (pe_var hN hv hd hcd) pb hs, fun F ma S H σ ds Q cf h => ?_⟩
  have go : (∃ v, σ[i]? = some (some v)) → Res _ W F (RpV X.K) σ ma S ((bnd fb fun y s => opt ((peekD i s).bind fun x => ixD x y) s) ds) Q → tOp (fun x y H Q => (rIxL X.K x y H Q ∨ rIxT X.K x y H Q) ∨ rIxS x y H Q) (tVar i) tb σ H Q := fun ⟨v, ev⟩ h => by
    refine ⟨v, ev, qb F ma S H σ ds _ cf (Res.bind h fun d2 ds2 ma2 S2 H2 y e2 c2 r2 h2 => ?_)⟩
    have h2 : Res _ W F (RpV X.K) σ ma2 S2 (opt ((peekD i ds2).bind fun x => ixD x d2) ds2) Q := h2
    cases q : peekD i ds2 with
    | none => rw [q] at h2; exact h2.elim
    | some d =>
      rw [q] at h2
      obtain ⟨v', ev', r⟩ := c2.peek q
      rw [ev] at ev'
      cases ev'
      exact rIx_of c2 r r2 h2
  unfold ixvM at h
  cases e : ds.env[i]? with
  | none => rw [e] at h; exact h.elim
  | some sl =>
    rw [e] at h
    have own : sl.isOwn = true → ∃ v, σ[i]? = some (some v) := fun ho => by
      obtain ⟨p, vs, e1, _⟩ := cf.own i sl e ho
      exact ⟨_, e1⟩
    cases sl with
    | un => exact h.elim
    | val d =>
      obtain ⟨v, e1, _⟩ := cf.val i d e
      exact go ⟨v, e1⟩ h
    | own xs => exact go (own rfl) h
    | ownK ks xs => exact go (own rfl) h
    | ownT ks xs => exact go (own rfl) h
end
end Vl
namespace Vl
open PySem PySem.Spec PyProof.Rows L2

/-! ### calls of what is built in -/
/-- a call by values -/
def CalV (c : SC) (f : Value) (g : List D → M D) : Prop := ∀ X W, Ok c X W → ∃ r : List V → Hp → VK → Prop, CallR X f r ∧ ∀ F ma S H σ ds xs vs Q, Cf c.B.K F ma S H σ ds → RepL c.B.K S ma xs vs → Res c.B W F (RpV c.B.K) σ ma S (g xs ds) Q → r vs H Q
/-- a call that makes a new list -/
def CalF (c : SC) (f : Value) (g : List D → M (List D)) : Prop := ∀ X W, Ok c X W → ∃ r : List V → Hp → VK → Prop, CallR X f r ∧ ∀ F ma S H σ ds xs vs Q, Cf c.B.K F ma S H σ ds → RepL c.B.K S ma xs vs → Res c.B W F (RpF c.B.K) σ ma S (g xs ds) Q → r vs H Q
/-- a call with one thing that is looked at -/
def CalO (c : SC) (f : Value) (g : D → Option D) : Prop := ∀ X W, Ok c X W → ∃ r : List V → Hp → VK → Prop, CallR X f r ∧ ∀ F ma S H σ ds x v Q, Cf c.B.K F ma S H σ ds → Vw c.B.K S ma H x v → Res c.B W F (RpV c.B.K) σ ma S (opt (g x) ds) Q → r [v] H Q
section
variable {c : SC} {pos p : Pos} {a b e : Expr} {es : List Expr} {fa fb : M D} {fs : M (List D)} {x : Str} {id T : String}
theorem v_bcall {g : List D → M D} (hc : CalV c (.builtin id) g) (ha : VA c (e :: es) fs) (hg : Glo c.sc x) (hm : c.B.mg x = none) (hv : bootBuiltins x = some (.builtin id)) (hn : x ≠ "__name__" := by decide) (hdb : (x == ("__debug__" : Str)) = false := by decide)
    (he : ∀ env : Env, starEach (e :: es) env = (false, eval e env) :: starEach es env := by intro _; rfl) (hpl : ∀ env : Env, (backTo pos (starEach es env)).any (·.1) = false := by intro _; rfl) : VE c (.Call (.Name x p) (e :: es) [] pos) (bnd fs g) := by
  refine ⟨fun X W ok => ?_⟩
  obtain ⟨t, pa, qa⟩ := ha.run X W ok
  obtain ⟨r, hr, qr⟩ := hc X W ok
  obtain ⟨exc, k, isdef, fnc, rfl⟩ := ok.eq
  refine ⟨_, pe_callB hr hg hm hv pa hn hdb (he X.env) (hpl X.env), fun F ma S H σ ds Q cf h => ?_⟩
  exact qa F ma S H σ ds _ cf (Res.bind h fun d ds1 ma1 S1 H1 v e1 c1 r1 h1 => qr F ma1 S1 H1 σ ds1 d v Q c1 r1 h1)
theorem v_tcall {g : List D → M D} (hc : CalV c (.type T) g) (ha : VA c (e :: es) fs) (hg : Glo c.sc x) (hm : c.B.mg x = none) (hv : bootBuiltins x = some (.type T)) (hn : x ≠ "__name__" := by decide) (hdb : (x == ("__debug__" : Str)) = false := by decide)
    (he : ∀ env : Env, starEach (e :: es) env = (false, eval e env) :: starEach es env := by intro _; rfl) (hpl : ∀ env : Env, (backTo pos (starEach es env)).any (·.1) = false := by intro _; rfl) : VE c (.Call (.Name x p) (e :: es) [] pos) (bnd fs g) := by
  refine ⟨fun X W ok => ?_⟩
  obtain ⟨t, pa, qa⟩ := ha.run X W ok
  obtain ⟨r, hr, qr⟩ := hc X W ok
  obtain ⟨exc, k, isdef, fnc, rfl⟩ := ok.eq
  refine ⟨_, pe_callTy hr hg hm hv pa hn hdb (he X.env) (hpl X.env), fun F ma S H σ ds Q cf h => ?_⟩
  exact qa F ma S H σ ds _ cf (Res.bind h fun d ds1 ma1 S1 H1 v e1 c1 r1 h1 => qr F ma1 S1 H1 σ ds1 d v Q c1 r1 h1)
theorem f_bcall {g : List D → M (List D)} (hc : CalF c (.builtin id) g) (ha : VA c (e :: es) fs) (hg : Glo c.sc x) (hm : c.B.mg x = none) (hv : bootBuiltins x = some (.builtin id)) (hn : x ≠ "__name__" := by decide) (hdb : (x == ("__debug__" : Str)) = false := by decide)
    (he : ∀ env : Env, starEach (e :: es) env = (false, eval e env) :: starEach es env := by intro _; rfl) (hpl : ∀ env : Env, (backTo pos (starEach es env)).any (·.1) = false := by intro _; rfl) : VF c (.Call (.Name x p) (e :: es) [] pos) (bnd fs g) := by
  refine ⟨fun X W ok => ?_⟩
  obtain ⟨t, pa, qa⟩ := ha.run X W ok
  obtain ⟨r, hr, qr⟩ := hc X W ok
  obtain ⟨exc, k, isdef, fnc, rfl⟩ := ok.eq
  refine ⟨_, pe_callB hr hg hm hv pa hn hdb (he X.env) (hpl X.env), fun F ma S H σ ds Q cf h => ?_⟩
  exact qa F ma S H σ ds _ cf (Res.bind h fun d ds1 ma1 S1 H1 v e1 c1 r1 h1 => qr F ma1 S1 H1 σ ds1 d v Q c1 r1 h1)
theorem f_tcall {g : List D → M (List D)} (hc : CalF c (.type T) g) (ha : VA c (e :: es) fs) (hg : Glo c.sc x) (hm : c.B.mg x = none) (hv : bootBuiltins x = some (.type T)) (hn : x ≠ "__name__" := by decide) (hdb : (x == ("__debug__" : Str)) = false := by decide)
    (he : ∀ env : Env, starEach (e :: es) env = (false, eval e env) :: starEach es env := by intro _; rfl) (hpl : ∀ env : Env, (backTo pos (starEach es env)).any (·.1) = false := by intro _; rfl) : VF c (.Call (.Name x p) (e :: es) [] pos) (bnd fs g) := by
  refine ⟨fun X W ok => ?_⟩
  obtain ⟨t, pa, qa⟩ := ha.run X W ok
  obtain ⟨r, hr, qr⟩ := hc X W ok
  obtain ⟨exc, k, isdef, fnc, rfl⟩ := ok.eq
  refine ⟨_, pe_callTy hr hg hm hv pa hn hdb (he X.env) (hpl X.env), fun F ma S H σ ds Q cf h => ?_⟩
  exact qa F ma S H σ ds _ cf (Res.bind h fun d ds1 ma1 S1 H1 v e1 c1 r1 h1 => qr F ma1 S1 H1 σ ds1 d v Q c1 r1 h1)
def lookM1 (g : D → Option D) (f : M D) : M D := bnd f fun x => opt (g x)
theorem v_ocall {g : D → Option D} (hc : CalO c (.builtin id) g) (ha : VO c e fa) (hg : Glo c.sc x) (hm : c.B.mg x = none) (hv : bootBuiltins x = some (.builtin id)) (hn : x ≠ "__name__" := by decide) (hdb : (x == ("__debug__" : Str)) = false := by decide)
    (he : ∀ env : Env, starEach [e] env = [(false, eval e env)] := by intro _; rfl) : VE c (.Call (.Name x p) [e] [] pos) (lookM1 g fa) := by
  refine ⟨fun X W ok => ?_⟩
  obtain ⟨t, pa, qa⟩ := ha.run X W ok
  obtain ⟨r, hr, qr⟩ := hc X W ok
  obtain ⟨exc, k, isdef, fnc, rfl⟩ := ok.eq
  refine ⟨_, pe_callB hr hg hm hv (pa_cons pa pa_nil (he X.env)) hn hdb (he X.env) rfl, fun F ma S H σ ds Q cf h => ?_⟩
  exact qa F ma S H σ ds _ cf (Res.bind h fun d ds1 ma1 S1 H1 v e1 c1 r1 h1 => qr F ma1 S1 H1 σ ds1 d v Q c1 r1 h1)

/-! len -/
def lenD : D → Option D
  | .str z => if z.length ≤ 16777216 then some (.int z.length) else none
  | .lst xs => some (.int xs.length)
  | .frl xs => some (.int xs.length)
  | .tup xs => some (.int xs.length)
  | _ => none
theorem cal_len : CalO c (.builtin "len") lenD := by
  intro X W ok
  refine ⟨_, call_len, fun F ma S H σ ds d v Q cf r h => ?_⟩
  obtain ⟨exc, k, isdef, fnc, rfl⟩ := ok.eq
  unfold lenD at h
  split at h
  · rename_i z
    split at h
    · rename_i hz
      cases r with
      | rep r => cases r; exact ⟨_, z.length, rfl, ⟨by rw [sizeLine_eq]; exact hz, rfl⟩, h ma S H _ Ext.refl cf (.int _)⟩
    · exact h.elim
  · obtain ⟨a, vs, rfl, hs, rl⟩ := r.seqL cf
    exact ⟨_, vs.length, rfl, .inl ⟨vs, hs, rfl⟩, h ma S H _ Ext.refl cf (by rw [rl.length]; exact .int _)⟩
  · obtain ⟨a, vs, rfl, hs, rl⟩ := r.seqF cf
    exact ⟨_, vs.length, rfl, .inl ⟨vs, hs, rfl⟩, h ma S H _ Ext.refl cf (by rw [rl.length]; exact .int _)⟩
  · obtain ⟨a, vs, rfl, hs, rl⟩ := r.seqT cf
    exact ⟨_, vs.length, rfl, .inr ⟨vs, hs, rfl⟩, h ma S H _ Ext.refl cf (by rw [rl.length]; exact .int _)⟩
  · exact h.elim

/-! isinstance(x, T), T built in -/
def tyD : D → Option String
  | .non => some "NoneType"
  | .bl _ => some "bool"
  | .int _ => some "int"
  | .str _ => some "str"
  | .lst _ => some "list"
  | .frl _ => some "list"
  | .tup _ => some "tuple"
  | .dK _ _ => some "dict"
  | .dT _ _ => none
  | .mut _ => none
def isiD (T : String) (d : D) : Option D := (tyD d).bind fun t => (kitB t T).map .bl
theorem tyX_of {K : PySem.W.Frag} {S H : Hp} {ma : List Addr} {d : D} {v : V} {t : String} (sm : Same S H) (r : Rep K S ma d v) (h : tyD d = some t) : TyX K H v (.type t) := by
  cases r with
  | non => cases h; exact .base .non
  | bl k => cases h; exact .base (.bl k)
  | int i => cases h; exact .base (.int i)
  | str x => cases h; exact .base (.str x)
  | lst e _ => cases h; exact .base (.lst (sm _ _ e))
  | frl e _ =>
    cases h
    rcases e with (e | ⟨o, e⟩) | e
    · exact .base (.lst (sm _ _ e))
    · exact .base (.frz (sm _ _ e))
    · obtain ⟨o, _, _, h1, h2, _⟩ := e
      exact .kList h1 h2
  | tup e _ =>
    cases h
    rcases e with (e | ⟨o, e⟩) | e
    · exact .base (.tup (sm _ _ e))
    · exact .fTuple (sm _ _ e)
    · obtain ⟨o, _, _, h1, h2, _⟩ := e
      exact .kTuple h1 h2
  | dK e _ _ =>
    cases h
    rcases e with e | ⟨o, e⟩
    · exact .base (.dK (sm _ _ e))
    · exact .fDict (sm _ _ e)
  | dT _ _ _ => cases h
  | «mut» _ => cases h
def isiM (T : String) (f : M D) : M D := bnd f fun x => opt (isiD T x)
theorem v_isi {y : Str} {py : Pos} (hc : VE c a fa) (hg : Glo c.sc "isinstance") (hm : c.B.mg "isinstance" = none) (hgy : Glo c.sc y) (hmy : c.B.mg y = none) (hv : bootBuiltins y = some (.type T)) (hn : y ≠ "__name__" := by decide) (hdb : (y == ("__debug__" : Str)) = false := by decide)
    (he : ∀ env : Env, starEach [a, .Name y py] env = (false, eval a env) :: starEach [.Name y py] env := by intro _; rfl) : VE c (.Call (.Name "isinstance" p) [a, .Name y py] [] pos) (isiM T fa) := by
  refine ⟨fun X W ok => ?_⟩
  obtain ⟨t, pa, qa⟩ := hc.run X W ok
  obtain ⟨exc, k, isdef, fnc, rfl⟩ := ok.eq
  refine ⟨_, pe_callB call_isi hg hm (by rfl) (pa_cons pa (pa_cons (pe_bltn hgy hmy hv (v := .ty T) rfl hn hdb) pa_nil rfl) (he X.env)) (by decide) (by decide) (he X.env) rfl, fun F ma S H σ ds Q cf h => ?_⟩
  refine qa F ma S H σ ds _ cf (Res.bind h fun d ds1 ma1 S1 H1 v e1 c1 r1 h1 => ?_)
  have h1 : Res _ W F (RpV X.K) σ ma1 S1 (opt ((tyD d).bind fun t => (kitB t T).map .bl) ds1) Q := h1
  cases e2 : tyD d with
  | none => rw [e2] at h1; exact h1.elim
  | some t =>
    rw [e2] at h1
    cases e3 : kitB t T with
    | none => simp only [Option.bind_some, e3] at h1; exact h1.elim
    | some bb =>
      simp only [Option.bind_some, e3] at h1
      exact ⟨v, .ty T, .type t, .type T, bb, rfl, .ty T, tyX_of c1.sub r1 e2, kit_ty e3, h1 ma1 S1 H1 _ Ext.refl c1 (.bl bb)⟩

/-! abs, min, max of two -/
def absF : List D → M D
  | [.int i] => rtn (.int (if i < 0 then -i else i))
  | _ => fun _ => .stuck
theorem RepL.i1 {K : PySem.W.Frag} {S : Hp} {ma : List Addr} {i : Int} {vs : List V} (r : RepL K S ma [.int i] vs) : vs = [.int i] := by
  cases r with | cons a b => cases a; cases b; rfl
theorem RepL.i2 {K : PySem.W.Frag} {S : Hp} {ma : List Addr} {i j : Int} {vs : List V} (r : RepL K S ma [.int i, .int j] vs) : vs = [.int i, .int j] := by
  cases r with | cons a b => cases a; cases b with | cons a b => cases a; cases b; rfl
theorem RepL.s2 {K : PySem.W.Frag} {S : Hp} {ma : List Addr} {i j : Str} {vs : List V} (r : RepL K S ma [.str i, .str j] vs) : vs = [.str i, .str j] := by
  cases r with | cons a b => cases a; cases b with | cons a b => cases a; cases b; rfl
theorem cal_abs : CalV c (.builtin "abs") absF := by
  intro X W ok
  refine ⟨_, call_abs, fun F ma S H σ ds xs vs Q cf r h => ?_⟩
  unfold absF at h
  split at h
  · rename_i i
    exact ⟨i, r.i1, h ma S H _ Ext.refl cf (.int _)⟩
  · exact h.elim
theorem two_strs {P : Program} {w : World} {A : Around} {E : Value → Shared → Prop} {s : Shared} {a b : Str} {t u : Tok} {Q : Value → Shared → Prop} (hh : A.handled = none) (hu : A.units + 5 < cLine)
    (h : ∀ h' tk, (∀ c o, s.heap.get? c = some o → h'.get? c = some o) → Q (if PySem.W.dataLt (.str b) (.str a) = true then .str b u else .str a t) { s with heap := h', toks := tk }) :
    wpAny (model P w) A (call (.builtin "min") [.str a t, .str b u]) Q E s := by
  have hT : (s.heap.push { cls := .type "tuple", data := .seq #[.str a t, .str b u] }).IsTuple s.heap.objs.size #[.str a t, .str b u] := ⟨_, Heap.get?_push_size _ rfl, rfl, 0, rfl⟩
  refine call_min_two (wpAny_pyIter_tuple hT ?_)
  have hsz : (s.heap.push { cls := .type "tuple", data := .seq #[.str a t, .str b u] }).objs.size = s.heap.objs.size + 1 := Heap.size_push ..
  let pd : Nat → PyData := fun i => if i = 0 then .str a else .str b
  have hrd : ∀ (i : Nat) (v : Value), (#[Value.str a t, Value.str b u] : Array Value)[i]? = some v → ∀ hp : Heap, ∃ as, Reads hp v (pd i) as := fun i v e hp => by
    match i, e with
    | 0, e => cases Option.some.inj e; exact ⟨_, .str a t⟩
    | 1, e => cases Option.some.inj e; exact ⟨_, .str b u⟩
  have hal : ∀ i j, PySem.W.alike (pd i) (pd j) = true := fun i j => by
    show PySem.W.alike (if i = 0 then PyData.str a else .str b) (if j = 0 then PyData.str a else .str b) = true
    split <;> split <;> rfl
  have hnn : ∀ i, pd i ≠ .none := fun i => by
    show (if i = 0 then PyData.str a else .str b) ≠ .none
    split <;> exact fun z => nomatch z
  have hdp : ∀ i, (pd i).depth = 0 := fun i => by
    show (if i = 0 then PyData.str a else .str b).depth = 0
    split <;> rfl
  have hcmp : CmpOf P w A.in1 .Lt (fun i v => (#[Value.str a t, Value.str b u] : Array Value)[i]? = some v) (fun i j => PySem.W.dataLt (pd i) (pd j)) := fun i j vi vj s' Q' E' hi hj hq => by
    obtain ⟨as, r1⟩ := hrd i vi hi s'.heap
    obtain ⟨bs, r2⟩ := hrd j vj hj s'.heap
    refine PySem.W.rcLt_alike _ _ A.in1 s' vi vj _ _ r1 r2 (hal i j) (hnn i) ?_ P w E' Q' hq
    rw [hdp i]
    show A.units + 1 + min 0 _ < _
    omega
  refine ⟨_, [_, s.heap.objs.size], [_], _, _, _, _, rfl, Walks.tuple (A := A.in1) hh _ s.heap.objs.size (by rw [hsz]; exact Nat.ne_of_lt (Nat.lt_succ_self _)) #[.str a t, .str b u],
    ⟨⟨_, Heap.get?_push_size _ rfl, rfl, rfl⟩, hT.push _⟩, fun c hc => ?_, by simp, hcmp, fun v h' tk hP hk => ?_⟩
  · show c < ((s.heap.push _).push _).objs.size
    rw [Heap.size_push, hsz]
    rcases List.mem_cons.mp hc with rfl | hc
    · rw [hsz]; exact Nat.lt_succ_self _
    · rcases List.mem_cons.mp hc with rfl | hc
      · exact Nat.lt_succ_of_lt (Nat.lt_succ_self _)
      · cases hc
  · have hold : ∀ c o, s.heap.get? c = some o → h'.get? c = some o := fun c o e => by
      refine hk c o (fun hm => ?_) (Heap.get?_push_of_some _ (Heap.get?_push_of_some _ e))
      rcases List.mem_cons.mp hm with e1 | hm
      · have := Heap.lt_size e; rw [e1, hsz] at this; exact Nat.lt_irrefl _ (Nat.lt_of_succ_lt this)
      · cases hm
    have := h h' tk hold
    have hv : v = if PySem.W.dataLt (.str b) (.str a) = true then Value.str b u else Value.str a t := by
      have hP' : (#[Value.str a t, Value.str b u] : Array Value)[argBest (fun i j => PySem.W.dataLt (pd i) (pd j)) 1]? = some v := hP
      by_cases hba : PySem.W.dataLt (.str b) (.str a) = true
      · have e : argBest (fun i j => PySem.W.dataLt (pd i) (pd j)) 1 = 1 := by
          show (if PySem.W.dataLt (pd 1) (pd 0) = true then 1 else 0) = 1
          exact if_pos hba
        rw [e] at hP'
        rw [if_pos hba]
        exact (Option.some.inj hP').symm
      · have e : argBest (fun i j => PySem.W.dataLt (pd i) (pd j)) 1 = 0 := by
          show (if PySem.W.dataLt (pd 1) (pd 0) = true then 1 else 0) = 0
          exact if_neg hba
        rw [e] at hP'
        rw [if_neg hba]
        exact (Option.some.inj hP').symm
    rw [hv]; exact this
def min2F : List D → M D
  | [.int i, .int j] => rtn (.int (if j < i then j else i))
  | [.str x, .str y] => rtn (.str (if ltD (.str y) (.str x) = true then y else x))
  | _ => fun _ => .stuck
def max2F : List D → M D
  | [.int i, .int j] => rtn (.int (if j > i then j else i))
  | _ => fun _ => .stuck
theorem CallR.or {X : Cx} {f : Value} {r r' : List V → Hp → VK → Prop} (h : CallR X f r) (h' : CallR X f r') : CallR X f (fun x H Q => r x H Q ∨ r' x H Q) := by
  intro pins s σ H xs us Q I rx q
  rcases q with q | q
  · exact h pins s σ H xs us Q I rx q
  · exact h' pins s σ H xs us Q I rx q
theorem call_min2s {X : Cx} (hc : X.calm = true) (hu : X.A.units + 5 < cLine) : CallR X (.builtin "min") (fun xs H Q => ∃ i j, xs = [.str i, .str j] ∧ Q (.str (if ltD (.str j) (.str i) = true then j else i)) H) := by
  intro pins s σ H xs us Q I r h
  obtain ⟨i, j, rfl, q⟩ := h
  obtain ⟨u, w', rfl, ⟨t, rfl⟩, ⟨t', rfl⟩⟩ := vals2 r
  refine two_strs (I.ok.hd hc) hu fun h' tk k => ⟨_, H, I.kept k, ?_, q⟩
  by_cases hj : ltD (.str j) (.str i) = true
  · have hj' : PySem.W.dataLt (.str j) (.str i) = true := hj
    rw [if_pos hj, if_pos hj']; exact ⟨_, rfl⟩
  · have hj' : ¬ PySem.W.dataLt (.str j) (.str i) = true := hj
    rw [if_neg hj, if_neg hj']; exact ⟨_, rfl⟩
theorem cal_min2 (hc : c.calm = true) : CalV c (.builtin "min") min2F := by
  intro X W ok
  have hu := room60 ok hc
  have hcx : X.calm = true := by obtain ⟨exc, k, isdef, fnc, rfl⟩ := ok.eq; exact hc
  refine ⟨_, (call_min2 hcx).or (call_min2s hcx (by omega)), fun F ma S H σ ds xs vs Q cf r h => ?_⟩
  unfold min2F at h
  split at h
  · rename_i i j
    exact .inl ⟨i, j, r.i2, h ma S H _ Ext.refl cf (.int _)⟩
  · rename_i i j
    exact .inr ⟨i, j, r.s2, h ma S H _ Ext.refl cf (.str _)⟩
  · exact h.elim
theorem cal_max2 (hc : c.calm = true) : CalV c (.builtin "max") max2F := by
  intro X W ok
  have hcx : X.calm = true := by obtain ⟨exc, k, isdef, fnc, rfl⟩ := ok.eq; exact hc
  refine ⟨_, call_max2 hcx, fun F ma S H σ ds xs vs Q cf r h => ?_⟩
  unfold max2F at h
  split at h
  · rename_i i j
    exact ⟨i, j, r.i2, h ma S H _ Ext.refl cf (.int _)⟩
  · exact h.elim

/-! sum -/
def intsD : List D → Option (List Int)
  | [] => some []
  | .int i :: r => (intsD r).map (i :: ·)
  | _ => none
theorem RepL.ints {K : PySem.W.Frag} {S : Hp} {ma : List Addr} : ∀ {xs : List D} {vs : List V} {ns : List Int}, RepL K S ma xs vs → intsD xs = some ns → vs = ns.map V.int
  | _, _, _, .nil, e => by cases e; rfl
  | _, _, _, .cons (d := d) (ds := ds) a r, e => by
    cases a with
    | int i =>
      cases q : intsD ds with
      | none => simp [intsD, q] at e
      | some m =>
        simp [intsD, q] at e
        subst e
        rw [List.map_cons, RepL.ints r q]
    | _ => cases e
def sumF : List D → M D
  | [.lst xs] => opt ((intsD xs).map fun ns => .int ns.sum)
  | [.frl xs] => opt ((intsD xs).map fun ns => .int ns.sum)
  | _ => fun _ => .stuck
theorem cal_sum (hc : c.calm = true) : CalV c (.builtin "sum") sumF := by
  intro X W ok
  have hcx : X.calm = true := by obtain ⟨exc, k, isdef, fnc, rfl⟩ := ok.eq; exact hc
  refine ⟨_, cr_sum hcx, fun F ma S H σ ds xs vs Q cf r h => ?_⟩
  obtain ⟨exc, k, isdef, fnc, rfl⟩ := ok.eq
  have go : ∀ (xs : List D) (ws : List V) (a : Addr), SqL X.K H a ws → RepL X.K S ma xs ws → Res _ W F (RpV X.K) σ ma S (opt ((intsD xs).map fun ns => .int ns.sum) ds) Q → rSum X.K [.ref a] H Q := fun xs ws a hs rl h => by
    cases e : intsD xs with
    | none => rw [e] at h; exact h.elim
    | some ns =>
      rw [e] at h
      have := rl.ints e
      subst this
      exact ⟨a, ns, rfl, hs, h ma S H _ Ext.refl cf (.int _)⟩
  unfold sumF at h
  split at h
  · cases r with
    | cons r1 r2 =>
      cases r2
      cases r1 with
      | lst hs rl => exact go _ _ _ (.inl (.inl (cf.sub _ _ hs))) rl h
  · cases r with
    | cons r1 r2 =>
      cases r2
      cases r1 with
      | frl hs rl => exact go _ _ _ (cf.sub.seq hs) rl h
  · exact h.elim

/-! list(xs), tuple(xs) -/
def itemsF : List D → M (List D)
  | [.lst xs] => rtn xs
  | [.frl xs] => rtn xs
  | [.tup xs] => rtn xs
  | _ => fun _ => .stuck
def tupF : List D → M D
  | [.lst xs] => rtn (.tup xs)
  | [.frl xs] => rtn (.tup xs)
  | [.tup xs] => rtn (.tup xs)
  | _ => fun _ => .stuck
theorem cal_list : CalF c (.type "list") itemsF := by
  intro X W ok
  refine ⟨_, call_list_of, fun F ma S H σ ds xs vs Q cf r h => ?_⟩
  obtain ⟨exc, k, isdef, fnc, rfl⟩ := ok.eq
  have go : ∀ (xs : List D) (ws : List V), RepL X.K S ma xs ws → Res _ W F (RpF X.K) σ ma S (rtn xs ds) Q → ∀ l, H l = none → Q (.ref l) (upd H l (.lst ws)) := fun xs ws rl h l hl =>
    h ma S _ _ Ext.refl (cf.grow (.lst ws) hl) ⟨l, ws, rfl, upd_same, cf.fre hl, rl⟩
  unfold itemsF at h
  split at h
  · cases r with
    | cons r1 r2 =>
      cases r2
      cases r1 with
      | lst hs rl => exact ⟨_, _, rfl, .inl (.inl (.inl (cf.sub _ _ hs))), go _ _ rl h⟩
  · cases r with
    | cons r1 r2 =>
      cases r2
      cases r1 with
      | frl hs rl => exact ⟨_, _, rfl, .inl (cf.sub.seq hs), go _ _ rl h⟩
  · cases r with
    | cons r1 r2 =>
      cases r2
      cases r1 with
      | tup hs rl => exact ⟨_, _, rfl, .inr (Vl.seqT cf.sub hs), go _ _ rl h⟩
  · exact h.elim
theorem cal_tuple : CalV c (.type "tuple") tupF := by
  intro X W ok
  refine ⟨_, call_tuple_of, fun F ma S H σ ds xs vs Q cf r h => ?_⟩
  obtain ⟨exc, k, isdef, fnc, rfl⟩ := ok.eq
  have go : ∀ (xs : List D) (ws : List V), RepL X.K S ma xs ws → Res _ W F (RpV X.K) σ ma S (rtn (.tup xs) ds) Q → ∀ l, H l = none → Q (.ref l) (upd H l (.tup ws)) := fun xs ws rl h l hl => by
    obtain ⟨c2, ex⟩ := cf.lay (.tup ws) hl
    exact h ma _ _ _ ex c2 (.tup (.inl (.inl upd_same)) (rl.mono ex))
  unfold tupF at h
  split at h
  · cases r with
    | cons r1 r2 =>
      cases r2
      cases r1 with
      | lst hs rl => exact ⟨_, _, rfl, .inl ⟨.inl (.inl (cf.sub _ _ hs)), go _ _ rl h⟩⟩
  · cases r with
    | cons r1 r2 =>
      cases r2
      cases r1 with
      | frl hs rl => exact ⟨_, _, rfl, .inl ⟨cf.sub.seq hs, go _ _ rl h⟩⟩
  · cases r with
    | cons r1 r2 =>
      cases r2
      cases r1 with
      | tup hs rl => exact ⟨_, _, rfl, .inr ⟨Vl.seqT cf.sub hs, h ma S H _ Ext.refl cf (.tup hs rl)⟩⟩
  · exact h.elim
end
end Vl
namespace Vl
open PySem PySem.Spec PyProof.Rows L2

/-! ### slices -/
structure VPt (c : SC) (e : Option Expr) (f : M (Option Int)) : Prop where
  run : ∀ X W, Ok c X W → ∃ t : TO, PO X e t ∧ ∀ F ma S H σ ds Q, Cf c.B.K F ma S H σ ds → Res c.B W F (fun _ _ _ _ _ _ a b => a = b) σ ma S (f ds) Q → t σ H Q
def asI : D → Option Int
  | .int i => some i
  | _ => none
def partM (f : M D) : M (Option Int) := bnd f fun d => bnd (opt (asI d)) fun i => rtn (some i)
def cutD (xs : List D) (lo hi : Option Int) : List D := (xs.drop (HT.sIx xs.length 0 lo)).take (HT.sIx xs.length xs.length hi - HT.sIx xs.length 0 lo)
def slD : D → Option Int → Option Int → Option D
  | .lst xs, lo, hi => some (.lst (cutD xs lo hi))
  | .frl xs, lo, hi => some (.lst (cutD xs lo hi))
  | .tup xs, lo, hi => some (.tup (cutD xs lo hi))
  | .str z, lo, hi => if z.length ≤ 16777216 then some (.str (cutS z lo hi)) else none
  | _, _, _ => none
def slM (f : M D) (lo hi : M (Option Int)) : M D := bnd f fun d => bnd lo fun l => bnd hi fun h s => opt (slD (lookD s d) l h) s
section
variable {c : SC} {pos p p2 : Pos} {a b e : Expr} {es : List Expr} {fa fb : M D} {fs : M (List D)} {x : Str} {id T : String} {lo hi : Option Expr} {fl fh : M (Option Int)}
theorem p_none : VPt c none (rtn none) := ⟨fun X W ok => ⟨tNoPart, po_none, fun F ma S H σ ds Q cf h => h ma S H none Ext.refl cf rfl⟩⟩
theorem p_some (h : VE c e fa) : VPt c (some e) (partM fa) := by
  refine ⟨fun X W ok => ?_⟩
  obtain ⟨t, pa, qa⟩ := h.run X W ok
  refine ⟨_, po_some pa, fun F ma S H σ ds Q cf h => ?_⟩
  refine qa F ma S H σ ds _ cf (Res.bind h fun d ds1 ma1 S1 H1 v e1 c1 r1 h1 => ?_)
  cases r1 with
  | int i => exact ⟨i, rfl, h1 ma1 S1 H1 _ Ext.refl c1 rfl⟩
  | _ => exact (show False from h1).elim
theorem RepL.cut {K : PySem.W.Frag} {S : Hp} {ma : List Addr} {xs : List D} {vs : List V} (r : RepL K S ma xs vs) (lo hi : Option Int) : RepL K S ma (cutD xs lo hi) (cutV vs lo hi) := by
  unfold cutD cutV
  rw [r.length]
  exact (r.drop _).take _
def rSlAll (K : PySem.W.Frag) : V → Option Int → Option Int → Hp → VK → Prop := fun x l h H Q => (rSlL K x l h H Q ∨ rSlA K x l h H Q) ∨ rSlS x l h H Q
theorem rSl_of {B : Bs} {W : WX} {F S H : Hp} {ma : List Addr} {σ : L2.St} {ds : DS} {d : D} {v : V} {l h : Option Int} {Q : VK} (cf : Cf B.K F ma S H σ ds) (r : Vw B.K S ma H d v) (hh : Res B W F (RpV B.K) σ ma S (opt (slD d l h) ds) Q) : rSlAll B.K v l h H Q := by
  have mk : ∀ (xs : List D) (vs : List V), RepL B.K S ma xs vs → Res B W F (RpV B.K) σ ma S (opt (some (D.lst (cutD xs l h))) ds) Q → ∀ p, H p = none → Q (.ref p) (upd H p (.lst (cutV vs l h))) := fun xs vs rl hh p hp => by
    obtain ⟨c2, ex⟩ := cf.lay (.lst (cutV vs l h)) hp
    exact hh ma _ _ _ ex c2 (.lst upd_same ((rl.cut l h).mono ex))
  unfold slD at hh
  split at hh
  · obtain ⟨a, vs, rfl, hs, rl⟩ := r.seqL cf
    exact .inl (.inl ⟨a, vs, rfl, hs, mk _ _ rl hh⟩)
  · obtain ⟨a, vs, rfl, hs, rl⟩ := r.seqF cf
    exact .inl (.inl ⟨a, vs, rfl, hs, mk _ _ rl hh⟩)
  · rename_i xs
    obtain ⟨a, vs, rfl, hs, rl⟩ := r.seqT cf
    have rt : ∃ a', V.ref a = .ref a' ∧ Rep B.K S ma (.tup xs) (.ref a') := by
      cases r with
      | rep r => exact ⟨a, rfl, r⟩
    obtain ⟨a', ea, rt⟩ := rt
    cases ea
    refine .inl (.inr ⟨a, vs, rfl, hs, fun hw => ?_, fun hw p hp => ?_⟩)
    · have e : cutD xs l h = xs := by
        unfold cutD
        rw [rl.length, hw.1, hw.2, List.drop_zero, Nat.sub_zero, ← rl.length, List.take_length]
      rw [e] at hh
      exact hh ma S H _ Ext.refl cf rt
    · obtain ⟨c2, ex⟩ := cf.lay (.tup (cutV vs l h)) hp
      exact hh ma _ _ _ ex c2 (.tup (.inl (.inl upd_same)) ((rl.cut l h).mono ex))
  · rename_i z
    split at hh
    · rename_i hz
      cases r with
      | rep r => cases r; exact .inr ⟨z, rfl, by rw [sizeLine_eq]; exact hz, hh ma S H _ Ext.refl cf (.str _)⟩
    · exact hh.elim
  · exact hh.elim
theorem v_sl (ha : VE c a fa) (hl : VPt c lo fl) (hh : VPt c hi fh) : VE c (.Subscript a (.Slice lo hi none p2) pos) (slM fa fl fh) := by
  refine ⟨fun X W ok => ?_⟩
  obtain ⟨ta, pa, qa⟩ := ha.run X W ok
  obtain ⟨tl, pl, ql⟩ := hl.run X W ok
  obtain ⟨th, ph, qh⟩ := hh.run X W ok
  obtain ⟨exc, k, isdef, fnc, rfl⟩ := ok.eq
  refine ⟨_, pe_slice (sl_list.or sl_tupA |>.or sl_str) pa pl ph, fun F ma S H σ ds Q cf h => ?_⟩
  refine qa F ma S H σ ds _ cf (Res.bind h fun d ds1 ma1 S1 H1 v e1 c1 r1 h1 => ?_)
  refine ql F ma1 S1 H1 σ ds1 _ c1 (Res.bind h1 fun l ds2 ma2 S2 H2 l' e2 c2 r2 h2 => ?_)
  refine qh F ma2 S2 H2 σ ds2 _ c2 (Res.bind h2 fun u ds3 ma3 S3 H3 u' e3 c3 r3 h3 => ?_)
  cases r2
  cases r3
  exact rSl_of c3 (c3.look ((r1.mono e2).mono e3)) h3
/-- a slice of a list, a new list -/
def flD : D → Option Int → Option Int → Option (List D)
  | .lst xs, lo, hi => some (cutD xs lo hi)
  | .frl xs, lo, hi => some (cutD xs lo hi)
  | _, _, _ => none
def slfM (f : M D) (lo hi : M (Option Int)) : M (List D) := bnd f fun d => bnd lo fun l => bnd hi fun h s => opt (flD (lookD s d) l h) s
theorem f_sl (ha : VE c a fa) (hl : VPt c lo fl) (hh : VPt c hi fh) : VF c (.Subscript a (.Slice lo hi none p2) pos) (slfM fa fl fh) := by
  refine ⟨fun X W ok => ?_⟩
  obtain ⟨ta, pa, qa⟩ := ha.run X W ok
  obtain ⟨tl, pl, ql⟩ := hl.run X W ok
  obtain ⟨th, ph, qh⟩ := hh.run X W ok
  obtain ⟨exc, k, isdef, fnc, rfl⟩ := ok.eq
  refine ⟨_, pe_slice sl_list pa pl ph, fun F ma S H σ ds Q cf h => ?_⟩
  refine qa F ma S H σ ds _ cf (Res.bind h fun d ds1 ma1 S1 H1 v e1 c1 r1 h1 => ?_)
  refine ql F ma1 S1 H1 σ ds1 _ c1 (Res.bind h1 fun l ds2 ma2 S2 H2 l' e2 c2 r2 h2 => ?_)
  refine qh F ma2 S2 H2 σ ds2 _ c2 (Res.bind h2 fun u ds3 ma3 S3 H3 u' e3 c3 r3 h3 => ?_)
  cases r2
  cases r3
  have rv := c3.look ((r1.mono e2).mono e3)
  have mk : ∀ (xs : List D) (vs : List V), RepL X.K S3 ma3 xs vs → Res _ W F (RpF X.K) σ ma3 S3 (opt (some (cutD xs l u)) ds3) Q → ∀ p, H3 p = none → Q (.ref p) (upd H3 p (.lst (cutV vs l u))) := fun xs vs rl hh p hp =>
    hh ma3 S3 _ _ Ext.refl (c3.grow (.lst (cutV vs l u)) hp) ⟨p, _, rfl, upd_same, c3.fre hp, rl.cut l u⟩
  have h3 : Res _ W F (RpF X.K) σ ma3 S3 (opt (flD (lookD ds3 d) l u) ds3) Q := h3
  unfold flD at h3
  split at h3
  · rename_i xs _ _ e0 _
    rw [e0] at rv
    obtain ⟨a, vs, rfl, hs, rl⟩ := rv.seqL c3
    exact ⟨a, vs, rfl, hs, mk _ _ rl h3⟩
  · rename_i xs _ _ e0 _
    rw [e0] at rv
    obtain ⟨a, vs, rfl, hs, rl⟩ := rv.seqF c3
    exact ⟨a, vs, rfl, hs, mk _ _ rl h3⟩
  · exact h3.elim

/-! ### [::-1] -/
def revS (z : Str) : Str := ⟨z.cps.toList.reverse.toArray⟩
theorem tRev_pe {X : Cx} {te : TE} {k : Nat} {p1 p2 p3 pos : Pos} (he : PE X e te) : PE X (.Subscript e (.Slice none none (some (.UnaryOp .USub (.Constant (.int 1) k p1) p2)) p3) pos)
    (fun σ H Q => te σ H fun x H1 => (∃ a xs, x = .ref a ∧ SqL X.K H1 a xs ∧ ∀ p, H1 p = none → Q (.ref p) (upd H1 p (.lst xs.reverse))) ∨ ∃ z, x = .str z ∧ z.length ≤ sizeLine ∧ Q (.str (revS z)) H1) := by
  refine ⟨fun pins s σ H Q I h => ?_⟩
  refine Subscript_ (thn (he.run pins s σ H _ I h) fun v s1 ⟨x, H1, I1, r1, q1⟩ => ?_)
  have hst : PO X (some (.UnaryOp .USub (.Constant (.int 1) k p1) p2)) (tPart (tUn (rU fun i => .int (-i)) (tC (.int 1)))) := po_some (pe_un un_neg pe_int)
  refine wpAny_Slice (thn (po_none.run pins s1 σ H1 (fun o H2 => o = none ∧ H2 = H1) I1 ⟨rfl, rfl⟩) fun vl s2 ⟨l, H2, I2, pl, el, e2⟩ => ?_)
  subst el e2
  refine thn (po_none.run pins s2 σ H2 (fun o H3 => o = none ∧ H3 = H2) I2 ⟨rfl, rfl⟩) fun vu s3 ⟨u, H3, I3, pu, eu, e3⟩ => ?_
  subst eu e3
  refine thn (hst.run pins s3 σ H3 (fun o H4 => o = some (-1) ∧ H4 = H3) I3 ⟨1, rfl, -1, rfl, rfl, rfl⟩) fun vs s4 ⟨o, H4, I4, ps, eo, e4⟩ => ?_
  subst eo e4
  have I5 : Inv X pins σ H4 { s4 with heap := s4.heap.push { cls := .type "slice", data := .fields #[vl, vu, vs] } } := I4.kept (t' := s4.toks) fun b ob q => Heap.get?_push_of_some _ q
  show wpAny (model X.prog X.w) X.A (subscriptTail e (.Slice none none (some (.UnaryOp .USub (.Constant (.int 1) k p1) p2)) p3) v (.ref s4.heap.objs.size)) (EP X pins σ Q) X.xe { s4 with heap := s4.heap.push { cls := .type "slice", data := .fields #[vl, vu, vs] } }
  rcases q1 with ⟨a, xs, ex, hx, q⟩ | ⟨z, ex, hz, q⟩
  · subst ex
    cases r1
    obtain ⟨its, r, ht, hz⟩ := I5.list hx
    have hlen := r.length
    refine tail_any (ops := [.ref a, .ref s4.heap.objs.size]) ht.isList.typeIs (PySem.slot_list_getitem.lookup) ?_ (by with_unfolding_all rfl)
    refine wpAny_getItem_list_slice ht.isList (Heap.IsSliceOf.new _ vl vu vs) pl pu ps (by decide) ?_ (by rw [List.size_toArray]; omega)
    rw [PySem.W.krv_pick]
    refine ⟨.ref _, _, I5.laid (t' := s4.toks) (o := .lst xs.reverse) (fun b ob q => Heap.get?_push_of_some _ q) (Nat.le_refl _) ?_, rfl, q _ (I5.hok.fresh (Nat.le_refl _))⟩
    exact ⟨by rw [List.length_reverse]; exact hz, _, 0, r.reverse, Heap.get?_push_size _ rfl⟩
  · subst ex
    obtain ⟨t, rfl⟩ := r1
    refine tail_any (ops := [.str z t, .ref s4.heap.objs.size]) (typeIs_str _ _ _) F.slot_str_getitem.lookup ?_ (by with_unfolding_all rfl)
    obtain ⟨l, rfl, el⟩ := IsPart.raw pl
    obtain ⟨u, rfl, eu⟩ := IsPart.raw pu
    obtain ⟨w, rfl, ew⟩ := IsPart.raw ps
    obtain ⟨os, hos, hcs, hds⟩ := Heap.IsSliceOf.new s4.heap (partValue l) (partValue u) (partValue w)
    refine wpAny_getItem_str_slice (l := l) (u := u) (st := w) ⟨os, hos, hcs, hds⟩ (by rw [ew]; decide) ?_
    have hpick : slicePicked z l u w = (List.range z.length).reverse := by
      unfold slicePicked
      rw [el, eu, ew]
      show sliceRange ((z.length : Int) - 1) (-1) (-1) = _
      rw [PySem.W.krv_sliceRange, PySem.W.krv_range]
    have hm : sliceMade z t l u w = .str (revS z) := by
      unfold sliceMade
      rw [hpick, ew]
      rw [if_neg (by intro z; have z := (Bool.and_eq_true _ _ ▸ z).1; exact absurd z (by decide)), List.filterMap_reverse, show z.length = z.cps.size from rfl, PySem.W.krv_all]
      rfl
    rw [hm]
    have hl : (revS z).length ≤ sizeLine := by
      show (z.cps.toList.reverse.toArray).size ≤ _
      rw [List.size_toArray, List.length_reverse]
      exact hz
    exact ⟨hl, .str _, H4, I5.tok _, ⟨_, rfl⟩, q⟩
def revD : D → Option D
  | .lst xs => some (.lst xs.reverse)
  | .frl xs => some (.lst xs.reverse)
  | .str z => if z.length ≤ 16777216 then some (.str (revS z)) else none
  | _ => none
def revM (f : M D) : M D := bnd f fun d s => opt (revD (lookD s d)) s
theorem v_rev {k : Nat} {p1 p3 : Pos} (ha : VE c a fa) : VE c (.Subscript a (.Slice none none (some (.UnaryOp .USub (.Constant (.int 1) k p1) p2)) p3) pos) (revM fa) := by
  refine ⟨fun X W ok => ?_⟩
  obtain ⟨ta, pa, qa⟩ := ha.run X W ok
  obtain ⟨exc, k, isdef, fnc, rfl⟩ := ok.eq
  refine ⟨_, tRev_pe pa, fun F ma S H σ ds Q cf h => ?_⟩
  refine qa F ma S H σ ds _ cf (Res.bind h fun d ds1 ma1 S1 H1 v e1 c1 r1 h1 => ?_)
  have rv := c1.look r1
  have mk : ∀ (xs : List D) (vs : List V), RepL X.K S1 ma1 xs vs → Res _ W F (RpV X.K) σ ma1 S1 (opt (some (D.lst xs.reverse)) ds1) Q → ∀ p, H1 p = none → Q (.ref p) (upd H1 p (.lst vs.reverse)) := fun xs vs rl hh p hp => by
    obtain ⟨c2, ex⟩ := c1.lay (.lst vs.reverse) hp
    exact hh ma1 _ _ _ ex c2 (.lst upd_same (rl.rev.mono ex))
  have h1 : Res _ W F (RpV X.K) σ ma1 S1 (opt (revD (lookD ds1 d)) ds1) Q := h1
  generalize lookD ds1 d = y at h1 rv
  unfold revD at h1
  split at h1
  · obtain ⟨a, vs, rfl, hs, rl⟩ := rv.seqL c1
    exact .inl ⟨a, vs, rfl, hs, mk _ _ rl h1⟩
  · obtain ⟨a, vs, rfl, hs, rl⟩ := rv.seqF c1
    exact .inl ⟨a, vs, rfl, hs, mk _ _ rl h1⟩
  · rename_i z
    split at h1
    · rename_i hz
      cases rv with
      | rep r => cases r; exact .inr ⟨z, rfl, by rw [sizeLine_eq]; exact hz, h1 ma1 S1 H1 _ Ext.refl c1 (.str _)⟩
    · exact h1.elim
  · exact h1.elim

/-! ### join -/
def strsD : List D → Option (List Str)
  | [] => some []
  | .str i :: r => (strsD r).map (i :: ·)
  | _ => none
theorem RepL.strs {K : PySem.W.Frag} {S : Hp} {ma : List Addr} : ∀ {xs : List D} {vs : List V} {ns : List Str}, RepL K S ma xs vs → strsD xs = some ns → vs = ns.map V.str
  | _, _, _, .nil, e => by cases e; rfl
  | _, _, _, .cons (d := d) (ds := ds) a r, e => by
    cases a with
    | str i =>
      cases q : strsD ds with
      | none => simp [strsD, q] at e
      | some m =>
        simp [strsD, q] at e
        subst e
        rw [List.map_cons, RepL.strs r q]
    | _ => cases e
def joinS (a : Str) (ys : List Str) : Option D := if (ys.map (·.length)).sum + ys.length * a.length ≤ 16777216 then some (.str (Txt.join a ys)) else none
def joinD : D → D → Option D
  | .str a, .lst xs => (strsD xs).bind (joinS a)
  | .str a, .frl xs => (strsD xs).bind (joinS a)
  | .str a, .tup xs => (strsD xs).bind (joinS a)
  | _, _ => none
def isS : D → Bool
  | .str _ => true
  | _ => false
def joinM (fa fb : M D) : M D := bnd fa fun x => if isS x = true then bnd fb fun y => opt (joinD x y) else fun _ => .stuck
theorem v_join {apos : Pos} (ha : VE c a fa) (hb : VE c b fb) (hs : ∀ env : Env, starEach [b] env = [(false, eval b env)] := by intro _; rfl) (hbase : ∀ env : Env, attributeBase a "join" env (eval a env) = eval a env := by intro _; rfl) (hline : (apos.endLine == pos.line) = true := by rfl) :
    VE c (.Call (.Attribute a "join" apos) [b] [] pos) (joinM fa fb) := by
  refine ⟨fun X W ok => ?_⟩
  obtain ⟨ta, pa, qa⟩ := ha.run X W ok
  obtain ⟨tb, pb, qb⟩ := hb.run X W ok
  obtain ⟨exc, k, isdef, fnc, rfl⟩ := ok.eq
  refine ⟨_, pe_join pa pb (hs X.env) (hbase X.env) hline, fun F ma S H σ ds Q cf h => ?_⟩
  refine qa F ma S H σ ds _ cf (Res.bind h fun d ds1 ma1 S1 H1 v e1 c1 r1 h1 => ?_)
  have h1 : Res _ W F (RpV X.K) σ ma1 S1 ((if isS d = true then bnd fb fun y => opt (joinD d y) else fun _ => .stuck) ds1) Q := h1
  by_cases hd : isS d = true
  · rw [if_pos hd] at h1
    cases r1 with
    | str z =>
      refine ⟨⟨z, rfl⟩, qb F ma1 S1 H1 σ ds1 _ c1 (Res.bind h1 fun d2 ds2 ma2 S2 H2 y e2 c2 r2 h2 => ?_)⟩
      have go : ∀ (xs : List D) (a : Addr) (vs : List V), RepL X.K S2 ma2 xs vs → (SqL X.K H2 a vs ∨ SqT X.K H2 a vs) → Res _ W F (RpV X.K) σ ma2 S2 (opt ((strsD xs).bind (joinS z)) ds2) Q →
          ∃ a' p, ∃ ys : List Str, V.str z = .str a' ∧ [V.ref a] = [.ref p] ∧ (SqL X.K H2 p (ys.map V.str) ∨ SqT X.K H2 p (ys.map V.str)) ∧ (ys.map (·.length)).sum + ys.length * a'.length ≤ 16777216 ∧ Q (.str (Txt.join a' ys)) H2 := fun xs a vs rl hs h => by
        cases e : strsD xs with
        | none => rw [e] at h; exact h.elim
        | some ns =>
          rw [e] at h
          have := rl.strs e
          subst this
          have h : Res _ W F (RpV X.K) σ ma2 S2 (opt (joinS z ns) ds2) Q := h
          unfold joinS at h
          split at h
          · rename_i hz
            exact ⟨z, a, ns, rfl, rfl, hs, hz, h ma2 S2 H2 _ Ext.refl c2 (.str _)⟩
          · exact h.elim
      cases r2 with
      | lst hs rl => exact go _ _ _ rl (.inl (.inl (.inl (c2.sub _ _ hs)))) h2
      | frl hs rl => exact go _ _ _ rl (.inl (c2.sub.seq hs)) h2
      | tup hs rl => exact go _ _ _ rl (.inr (Vl.seqT c2.sub hs)) h2
      | _ => exact (show False from h2).elim
    | _ => cases hd
  · rw [if_neg hd] at h1; exact h1.elim
end
end Vl
namespace Vl
open PySem PySem.Spec PyProof.Rows L2

/-! ### lists that change -/
/-- what a method does to a list: its content and the arguments; an answer and the new content -/
abbrev MutF := List D → List D → Option (D × List D)
structure MutV (c : SC) (name : Str) (id : String) (g : MutF) : Prop where
  slot : PySem.Slot "list" name id
  hty : typeOf (.builtin id) = pure (.type "method_descriptor")
  run : ∀ X W, Ok c X W → ∃ r, MtR X id r ∧ ∀ (S H : Hp) (ma : List Addr) (l : Addr) (ws : List V) (xs as : List D) (vs : List V) (d : D) (xs' : List D) Q, Same S H → H l = some (.lst ws) → RepL c.B.K S ma xs ws → RepL c.B.K S ma as vs → g xs as = some (d, xs') →
    (∀ v ws', Rep c.B.K S ma d v → RepL c.B.K S ma xs' ws' → Q v (upd H l (.lst ws'))) → r (.ref l) vs H Q
section
variable {c : SC} {pos p apos : Pos} {a b e : Expr} {es : List Expr} {fa fb : M D} {fs : M (List D)} {x name : Str} {id : String} {g : MutF}
/-- a name's own list or a shared one: its content is taken when the arguments are known -/
def mutAt (g : MutF) (i : Nat) (as : List D) : M D := fun s => match s.env[i]? with
  | some (.own xs) => match g xs as with
    | some (d, ys) => .ok d { s with env := s.env.set i (.own ys) }
    | none => .stuck
  | some (.val (.mut n)) => match s.mem[n]? with
    | some (.lst xs) => match g xs as with
      | some (d, ys) => .ok d { s with mem := s.mem.set n (.lst ys) }
      | none => .stuck
    | _ => .stuck
  | _ => .stuck
def seeL (i : Nat) (s : DS) : Bool := match s.env[i]? with
  | some (.own _) => true
  | some (.val (.mut n)) => match s.mem[n]? with
    | some (.lst _) => true
    | _ => false
  | _ => false
def mutvM (g : MutF) (i : Nat) (fs : M (List D)) : M D := fun s => if seeL i s = true then (bnd fs fun as => mutAt g i as) s else .stuck
theorem Cf.seeL {K : PySem.W.Frag} {F S H : Hp} {ma : List Addr} {σ : L2.St} {ds : DS} (cf : Cf K F ma S H σ ds) {i : Nat} (h : seeL i ds = true) : ∃ p vs, σ[i]? = some (some (.ref p)) ∧ H p = some (.lst vs) := by
  unfold Vl.seeL at h
  split at h
  · rename_i xs e
    obtain ⟨p, vs, e1, e2, _⟩ := cf.own i _ e rfl
    exact ⟨p, vs, e1, e2⟩
  · rename_i n e
    split at h
    · rename_i xs e2
      obtain ⟨v, e1, r⟩ := cf.val i _ e
      cases r with
      | «mut» hm =>
        obtain ⟨vs, h1, _⟩ := cf.mem n _ _ hm e2
        exact ⟨_, vs, e1, h1⟩
    · cases h
  · cases h
theorem mutAt_run {B : Bs} {W : WX} {F S H : Hp} {ma : List Addr} {σ : L2.St} {ds : DS} {i : Nat} {as : List D} {vs : List V} {p : Addr} {Q : VK} {r : V → List V → Hp → VK → Prop} (cf : Cf B.K F ma S H σ ds) (ra : RepL B.K S ma as vs) (ev : σ[i]? = some (some (.ref p)))
    (hr : ∀ (S H : Hp) (ma : List Addr) (l : Addr) (ws : List V) (xs as : List D) (vs : List V) (d : D) (xs' : List D) Q, Same S H → H l = some (.lst ws) → RepL B.K S ma xs ws → RepL B.K S ma as vs → g xs as = some (d, xs') →
    (∀ v ws', Rep B.K S ma d v → RepL B.K S ma xs' ws' → Q v (upd H l (.lst ws'))) → r (.ref l) vs H Q)
    (h : Res B W F (RpV B.K) σ ma S (mutAt g i as ds) Q) : r (.ref p) vs H Q := by
  unfold mutAt at h
  split at h
  · rename_i xs e
    split at h
    · rename_i d ys eg
      obtain ⟨q, ws, e1, e2, _, _, _, rl, _⟩ := cf.own i _ e rfl
      rw [ev] at e1
      cases e1
      refine hr S H ma p ws xs as vs d ys Q cf.sub e2 rl ra eg fun v ws' rv rl' => ?_
      exact h ma S _ v Ext.refl (cf.ownWrite (u := .own ys) e rfl ev rfl rl' trivial) rv
    · exact h.elim
  · rename_i n e
    split at h
    · rename_i xs e2
      split at h
      · rename_i d ys eg
        obtain ⟨v, e1, r0⟩ := cf.val i _ e
        rw [ev] at e1
        cases e1
        cases r0 with
        | «mut» hm =>
          obtain ⟨ws, h1, _, _, rl, _⟩ := cf.mem n _ _ hm e2
          refine hr S H ma p ws xs as vs d ys Q cf.sub h1 rl ra eg fun v ws' rv rl' => ?_
          exact h ma S _ v Ext.refl (cf.memWrite (o := .lst ys) hm rl' trivial) rv
      · exact h.elim
    · exact h.elim
  · exact h.elim
theorem v_mut (i : Nat) (hm : MutV c name id g) (hN : c.N[i]? = some x) (hv : Vis c.sc x) (ha : VA c (e :: es) fs)
    (hbase : ∀ env : Env, attributeBase (.Name x p) name env (eval (.Name x p) env) = eval (.Name x p) env := by intro _; rfl)
    (hfew : ∀ env : Env, ((backTo pos (starEach (e :: es) env)).all (fun x => !x.1) && (backToKw pos (keywordEach [] env)).all (fun x => x.1.isSome)
      && decide ((e :: es).length + ([] : List Keyword).length + (if ([] : List Keyword).isEmpty then 0 else 1) < 30)) = true := by intro _; rfl)
    (hline : (apos.endLine == pos.line) = true := by rfl) (hs : ∀ env : Env, starEach (e :: es) env = (false, eval e env) :: starEach es env := by intro _; rfl) (hplain : ∀ env : Env, (backTo pos (starEach es env)).any (·.1) = false := by intro _; rfl)
    (hd : (x == ("__debug__" : Str)) = false := by decide) (hcd : (x == ("__classdict__" : Str)) = false := by decide) :
    VE c (.Call (.Attribute (.Name x p) name apos) (e :: es) [] pos) (mutvM g i fs) := by
  refine ⟨fun X W ok => ?_⟩
  obtain ⟨ta, pa, qa⟩ := ha.run X W ok
  obtain ⟨r, hr, qr⟩ := hm.run X W ok
  obtain ⟨exc, k, isdef, fnc, rfl⟩ := ok.eq
  refine ⟨_, pe_bm PySem.F.plainAttrs_list hm.slot hm.hty hr (pe_var hN hv hd hcd) pa (hbase X.env) (hfew X.env) hline (hs X.env) (hplain X.env), fun F ma S H σ ds Q cf h => ?_⟩
  unfold mutvM at h
  by_cases hq : seeL i ds = true
  · rw [if_pos hq] at h
    obtain ⟨p, vs, e1, e2⟩ := cf.seeL hq
    refine ⟨_, e1, .inl ⟨rfl, vs, .inl (.inl e2)⟩, ?_⟩
    refine qa F ma S H σ ds _ cf (Res.bind h fun as ds1 ma1 S1 H1 ws x1 c1 r1 h1 => ?_)
    exact mutAt_run c1 r1 e1 qr h1
  · rw [if_neg hq] at h; exact h.elim
theorem v_mut0 (i : Nat) (hm : MutV c name id g) (hN : c.N[i]? = some x) (hv : Vis c.sc x)
    (hbase : ∀ env : Env, attributeBase (.Name x p) name env (eval (.Name x p) env) = eval (.Name x p) env := by intro _; rfl)
    (hline : (apos.endLine == pos.line) = true := by rfl)
    (hd : (x == ("__debug__" : Str)) = false := by decide) (hcd : (x == ("__classdict__" : Str)) = false := by decide) :
    VE c (.Call (.Attribute (.Name x p) name apos) [] [] pos) (mutvM g i (rtn [])) := by
  refine ⟨fun X W ok => ?_⟩
  obtain ⟨r, hr, qr⟩ := hm.run X W ok
  obtain ⟨exc, k, isdef, fnc, rfl⟩ := ok.eq
  refine ⟨_, pe_bm0 PySem.F.plainAttrs_list hm.slot hm.hty hr (pe_var hN hv hd hcd) (hbase X.env) hline, fun F ma S H σ ds Q cf h => ?_⟩
  unfold mutvM at h
  by_cases hq : seeL i ds = true
  · rw [if_pos hq] at h
    obtain ⟨p, vs, e1, e2⟩ := cf.seeL hq
    refine ⟨_, e1, .inl ⟨rfl, vs, .inl (.inl e2)⟩, ?_⟩
    exact mutAt_run cf .nil e1 qr h
  · rw [if_neg hq] at h; exact h.elim
/-- the n-th shared list, as a value -/
def mutN (g : MutF) (d : D) (as : List D) : M D := fun s => match d with
  | .mut n => match s.mem[n]? with
    | some (.lst xs) => match g xs as with
      | some (d, ys) => .ok d { s with mem := s.mem.set n (.lst ys) }
      | none => .stuck
    | _ => .stuck
  | _ => .stuck
def seeN (d : D) (s : DS) : Bool := match d with
  | .mut n => match s.mem[n]? with
    | some (.lst _) => true
    | _ => false
  | _ => false
def muteM (g : MutF) (fa : M D) (fs : M (List D)) : M D := bnd fa fun d s => if seeN d s = true then (bnd fs fun as => mutN g d as) s else .stuck
theorem v_mutE (hm : MutV c name id g) (hb : VE c a fa) (ha : VA c (e :: es) fs)
    (hbase : ∀ env : Env, attributeBase a name env (eval a env) = eval a env := by intro _; rfl)
    (hfew : ∀ env : Env, ((backTo pos (starEach (e :: es) env)).all (fun x => !x.1) && (backToKw pos (keywordEach [] env)).all (fun x => x.1.isSome)
      && decide ((e :: es).length + ([] : List Keyword).length + (if ([] : List Keyword).isEmpty then 0 else 1) < 30)) = true := by intro _; rfl)
    (hline : (apos.endLine == pos.line) = true := by rfl) (hs : ∀ env : Env, starEach (e :: es) env = (false, eval e env) :: starEach es env := by intro _; rfl) (hplain : ∀ env : Env, (backTo pos (starEach es env)).any (·.1) = false := by intro _; rfl) :
    VE c (.Call (.Attribute a name apos) (e :: es) [] pos) (muteM g fa fs) := by
  refine ⟨fun X W ok => ?_⟩
  obtain ⟨tb, pb, qb⟩ := hb.run X W ok
  obtain ⟨ta, pa, qa⟩ := ha.run X W ok
  obtain ⟨r, hr, qr⟩ := hm.run X W ok
  obtain ⟨exc, k, isdef, fnc, rfl⟩ := ok.eq
  refine ⟨_, pe_bm PySem.F.plainAttrs_list hm.slot hm.hty hr pb pa (hbase X.env) (hfew X.env) hline (hs X.env) (hplain X.env), fun F ma S H σ ds Q cf h => ?_⟩
  refine qb F ma S H σ ds _ cf (Res.bind h fun d ds1 ma1 S1 H1 v e1 c1 r1 h1 => ?_)
  have h1 : Res _ W F (RpV X.K) σ ma1 S1 (if seeN d ds1 = true then (bnd fs fun as => mutN g d as) ds1 else .stuck) Q := h1
  by_cases hq : seeN d ds1 = true
  · rw [if_pos hq] at h1
    cases d with
    | «mut» n =>
      unfold seeN at hq
      dsimp only at hq
      split at hq
      · rename_i xs em
        cases r1 with
        | «mut» hma =>
          obtain ⟨vs, z1, _⟩ := c1.mem n _ (.lst xs) hma em
          refine ⟨.inl ⟨rfl, vs, .inl (.inl z1)⟩, ?_⟩
          refine qa F ma1 S1 H1 σ ds1 _ c1 (Res.bind h1 fun as ds2 ma2 S2 H2 ws e2 c2 r2 h2 => ?_)
          have h2 : Res _ W F (RpV X.K) σ ma2 S2 (mutN g (.mut n) as ds2) Q := h2
          have hma2 := e2.get hma
          cases em2 : ds2.mem[n]? with
          | none => simp only [mutN, em2] at h2; exact h2.elim
          | some o =>
            cases o with
            | lst xs =>
              cases eg : g xs as with
              | none => simp only [mutN, em2, eg] at h2; exact h2.elim
              | some dy =>
                obtain ⟨dd, ys⟩ := dy
                simp only [mutN, em2, eg] at h2
                obtain ⟨us, y1, _, _, rl, _⟩ := c2.mem n _ (.lst xs) hma2 em2
                refine qr S2 H2 ma2 _ us xs as ws dd ys Q c2.sub y1 rl r2 eg fun v ws' rv rl' => ?_
                exact h2 ma2 S2 _ v Ext.refl (c2.memWrite (o := .lst ys) hma2 rl' trivial) rv
            | _ => simp only [mutN, em2] at h2; exact h2.elim
      · cases hq
    | _ => cases hq
  · rw [if_neg hq] at h1; exact h1.elim

def appF : MutF
  | xs, [y] => if xs.length < 1000000 then some (.non, xs ++ [y]) else none
  | _, _ => none
theorem lt_line {n : Nat} (h : n < 1000000) : n < sizeLine := by rw [sizeLine_eq]; omega
theorem m_append : MutV c "append" "list.append" appF := by
  refine ⟨PySem.F.slot_list_append, PySem.F.type_list_append, fun X W ok => ⟨_, mt_append, fun S H ma l ws xs as vs d xs' Q sm hl rl ra hg q => ?_⟩⟩
  unfold appF at hg
  split at hg
  · rename_i y
    split at hg
    · rename_i hz
      cases hg
      cases ra with
      | cons r1 r2 =>
        cases r2
        exact ⟨l, ws, _, rfl, rfl, hl, by rw [← rl.length]; exact lt_line hz, q _ _ .non (rl.app (.cons r1 .nil))⟩
    · cases hg
  · cases hg
def extF : MutF
  | xs, [.lst ys] => if xs.length + ys.length < 1000000 then some (.non, xs ++ ys) else none
  | _, _ => none
theorem m_extend : MutV c "extend" "list.extend" extF := by
  refine ⟨PySem.F.slot_list_extend, PySem.F.type_list_extend, fun X W ok => ⟨_, mt_extend, fun S H ma l ws xs as vs d xs' Q sm hl rl ra hg q => ?_⟩⟩
  unfold extF at hg
  split at hg
  · rename_i ys
    split at hg
    · rename_i hz
      cases hg
      cases ra with
      | cons r1 r2 =>
        cases r2
        cases r1 with
        | lst h2 r3 =>
          exact ⟨l, _, ws, _, rfl, rfl, hl, sm _ _ h2, by rw [← rl.length, ← r3.length]; exact Nat.le_of_lt (lt_line hz), q _ _ .non (rl.app r3)⟩
    · cases hg
  · cases hg
theorem RepL.last {K : PySem.W.Frag} {S : Hp} {ma : List Addr} : ∀ {xs : List D} {vs : List V}, RepL K S ma xs vs → RepL K S ma xs.dropLast vs.dropLast := by
  intro xs vs r
  rw [List.dropLast_eq_take, List.dropLast_eq_take, r.length]
  exact r.take _
def popF : MutF
  | xs, [] => match xs[xs.length - 1]? with
    | some y => some (y, xs.dropLast)
    | none => none
  | _, _ => none
theorem m_pop : MutV c "pop" "list.pop" popF := by
  refine ⟨PySem.F.slot_list_pop, PySem.F.type_list_pop, fun X W ok => ⟨_, mt_pop, fun S H ma l ws xs as vs d xs' Q sm hl rl ra hg q => ?_⟩⟩
  unfold popF at hg
  split at hg
  · split at hg
    · rename_i y hy
      cases hg
      cases ra
      obtain ⟨v, e1, e2⟩ := rl.get hy
      exact ⟨l, ws, v, rfl, rfl, hl, by rw [← rl.length]; exact e1, q _ _ e2 rl.last⟩
    · cases hg
  · cases hg
theorem RepL.erase {K : PySem.W.Frag} {S : Hp} {ma : List Addr} : ∀ {xs : List D} {vs : List V} (i : Nat), RepL K S ma xs vs → RepL K S ma (xs.eraseIdx i) (vs.eraseIdx i)
  | _, _, _, .nil => .nil
  | _, _, 0, .cons _ t => t
  | _, _, i + 1, .cons r t => .cons r (RepL.erase i t)
/-- pop(i), 0 ≤ i -/
def popAtF : MutF
  | xs, [.int i] => if 0 ≤ i ∧ i < 1000000 then match xs[i.toNat]? with
    | some y => some (y, xs.eraseIdx i.toNat)
    | none => none
    else none
  | _, _ => none
theorem m_popAt : MutV c "pop" "list.pop" popAtF := by
  refine ⟨PySem.F.slot_list_pop, PySem.F.type_list_pop, fun X W ok => ⟨_, mt_popAt, fun S H ma l ws xs as vs d xs' Q sm hl rl ra hg q => ?_⟩⟩
  unfold popAtF at hg
  split at hg
  · rename_i i
    split at hg
    · rename_i hi
      split at hg
      · rename_i y hy
        cases hg
        have := ra.i1
        subst this
        obtain ⟨v, e1, e2⟩ := rl.get hy
        have hlt : i.toNat < ws.length := (List.getElem?_eq_some_iff.mp e1).1
        exact ⟨l, ws, i, i.toNat, v, rfl, rfl, hl, by omega, by omega, seqIndex_of hi.1 (by omega), e1, q _ _ e2 (rl.erase _)⟩
      · cases hg
    · cases hg
  · cases hg
def insF : MutF
  | xs, [.int i, y] => if 0 ≤ i ∧ i < 1000000 ∧ xs.length < 1000000 then some (.non, xs.take i.toNat ++ [y] ++ xs.drop i.toNat) else none
  | _, _ => none
theorem m_insert : MutV c "insert" "list.insert" insF := by
  refine ⟨PySem.F.slot_list_insert, PySem.F.type_list_insert, fun X W ok => ⟨_, mt_insert, fun S H ma l ws xs as vs d xs' Q sm hl rl ra hg q => ?_⟩⟩
  unfold insF at hg
  split at hg
  · rename_i i y
    split at hg
    · rename_i hi
      cases hg
      cases ra with
      | cons r1 r2 =>
        cases r1
        cases r2 with
        | cons r3 r4 =>
          cases r4
          exact ⟨l, ws, i, _, rfl, rfl, hl, by rw [← rl.length]; exact lt_line hi.2.2, hi.1, by omega, q _ _ .non (((rl.take _).app (.cons r3 .nil)).app (rl.drop _))⟩
    · cases hg
  · cases hg

/-! ### x[i] = v -/
def putI (xs : List D) (i : D) (d : D) : Option (List D) := match i with
  | .int k => (ixN xs.length k).map fun j => xs.set j d
  | _ => none
def putAt (i : Nat) (k d : D) : M Unit := fun s => match s.env[i]? with
  | some (.own xs) => match putI xs k d with
    | some ys => .ok () { s with env := s.env.set i (.own ys) }
    | none => .stuck
  | some (.val (.mut n)) => match s.mem[n]? with
    | some (.lst xs) => match putI xs k d with
      | some ys => .ok () { s with mem := s.mem.set n (.lst ys) }
      | none => .stuck
    | _ => .stuck
  | _ => .stuck
def putvM (i : Nat) (fk : M D) (d : D) : M Unit := fun s => if seeL i s = true then (bnd fk fun k => putAt i k d) s else .stuck
theorem putI_run {K : PySem.W.Frag} {S H : Hp} {ma : List Addr} {xs ys : List D} {ws : List V} {k d : D} {u v : V} {p : Addr} {Q : Hp → Prop} (hl : H p = some (.lst ws)) (rl : RepL K S ma xs ws) (rk : Rep K S ma k u) (rd : Rep K S ma d v) (h : putI xs k d = some ys) (q : ∀ us, RepL K S ma ys us → Q (upd H p (.lst us))) : rSetL (.ref p) u v H Q := by
  unfold putI at h
  split at h
  · rename_i i
    cases rk
    cases e : ixN xs.length i with
    | none => rw [e] at h; cases h
    | some j =>
      rw [e] at h
      cases h
      exact ⟨p, ws, i, j, rfl, rfl, hl, by rw [← rl.length]; exact e, q _ (rl.set rd j)⟩
  · cases h
theorem g_set (i : Nat) (hN : c.N[i]? = some x) (hv : Vis c.sc x) (hb : VE c b fb) (hd : (x == ("__debug__" : Str)) = false := by decide) (hcd : (x == ("__classdict__" : Str)) = false := by decide)
    (hz : ∀ (X : Cx) to ti, PE X (.Name x p) to → PE X b ti → PG X (.Subscript (.Name x p) b pos) (gSub to ti rSetL) := by intro X to ti h1 h2; exact L2.pg_sub h1 h2 L2.set_list) :
    TG1 c (.Subscript (.Name x p) b pos) [] (putvM i fb) := by
  refine ⟨fun X W ok => ?_⟩
  obtain ⟨tb, pb, qb⟩ := hb.run X W ok
  obtain ⟨exc, k, isdef, fnc, rfl⟩ := ok.eq
  refine ⟨_, hz X _ _ (pe_var hN hv hd hcd) pb, fun F ma S H σ ds d v Q cf r h => ?_⟩
  unfold putvM at h
  by_cases hq : seeL i ds = true
  · rw [if_pos hq] at h
    obtain ⟨p, vs, e1, e2⟩ := cf.seeL hq
    refine ⟨_, e1, qb F ma S H σ ds _ cf ?_⟩
    unfold bnd at h
    cases er : fb ds with
    | stuck => rw [er] at h; exact h.elim
    | err z ds1 =>
      rw [er] at h
      exact fun ma' S' H' ex c1 => h ma' S' H' σ ex c1
    | ok k ds1 =>
      rw [er] at h
      refine fun ma1 S1 H1 u ex c1 rk => ?_
      have h : TRes _ W F [] σ ma S (putAt i k d ds1) Q := h
      have rd := r.mono ex
      have rk : Rep X.K S1 ma1 k u := rk
      unfold putAt at h
      split at h
      · rename_i xs e
        split at h
        · rename_i ys eg
          obtain ⟨q, ws, e1', e2', _, _, _, rl, _⟩ := c1.own i _ e rfl
          rw [e1] at e1'
          cases e1'
          exact putI_run e2' rl rk rd eg fun us rl' => h ma1 S1 _ σ ex (c1.ownWrite (u := .own ys) e rfl e1 rfl rl' trivial) Tch.refl
        · exact h.elim
      · rename_i n e
        split at h
        · rename_i xs em
          split at h
          · rename_i ys eg
            obtain ⟨v', e1', r0⟩ := c1.val i _ e
            rw [e1] at e1'
            cases e1'
            cases r0 with
            | «mut» hm =>
              obtain ⟨ws, h1, _, _, rl, _⟩ := c1.mem n _ _ hm em
              exact putI_run h1 rl rk rd eg fun us rl' => h ma1 S1 _ σ ex (c1.memWrite (o := .lst ys) hm rl' trivial) Tch.refl
          · exact h.elim
        · exact h.elim
      · exact h.elim
  · rw [if_neg hq] at h; exact h.elim
def putN (d0 k d : D) : M Unit := fun s => match d0 with
  | .mut n => match s.mem[n]? with
    | some (.lst xs) => match putI xs k d with
      | some ys => .ok () { s with mem := s.mem.set n (.lst ys) }
      | none => .stuck
    | _ => .stuck
  | _ => .stuck
def puteM (fa fk : M D) (d : D) : M Unit := bnd fa fun d0 => bnd fk fun k => putN d0 k d
theorem g_setE (ha : VE c a fa) (hb : VE c b fb)
    (hz : ∀ (X : Cx) to ti, PE X a to → PE X b ti → PG X (.Subscript a b pos) (gSub to ti rSetL) := by intro X to ti h1 h2; exact L2.pg_sub h1 h2 L2.set_list) :
    TG1 c (.Subscript a b pos) [] (puteM fa fb) := by
  refine ⟨fun X W ok => ?_⟩
  obtain ⟨ta, pa, qa⟩ := ha.run X W ok
  obtain ⟨tb, pb, qb⟩ := hb.run X W ok
  obtain ⟨exc, k, isdef, fnc, rfl⟩ := ok.eq
  refine ⟨_, hz X _ _ pa pb, fun F ma S H σ ds d v Q cf r h => ?_⟩
  refine qa F ma S H σ ds _ cf ?_
  unfold puteM bnd at h
  cases er : fa ds with
  | stuck => rw [er] at h; exact h.elim
  | err z ds1 => rw [er] at h; exact fun ma' S' H' ex c1 => h ma' S' H' σ ex c1
  | ok d0 ds1 =>
    rw [er] at h
    refine fun ma1 S1 H1 u ex c1 r0 => ?_
    refine qb F ma1 S1 H1 σ ds1 _ c1 ?_
    have h : TRes _ W F [] σ ma S ((fb ds1).bind fun k s => putN d0 k d s) Q := h
    cases er2 : fb ds1 with
    | stuck => rw [er2] at h; exact h.elim
    | err z ds2 => rw [er2] at h; exact fun ma' S' H' ex2 c2 => h ma' S' H' σ (ex.trans ex2) c2
    | ok k ds2 =>
      rw [er2] at h
      refine fun ma2 S2 H2 w ex2 c2 rk => ?_
      have rk : Rep X.K S2 ma2 k w := rk
      have r0 : Rep X.K S1 ma1 d0 u := r0
      have h : TRes _ W F [] σ ma S (putN d0 k d ds2) Q := h
      have rd := (r.mono ex).mono ex2
      cases d0 with
      | «mut» n =>
        have hm : ∃ a, u = .ref a ∧ ma1[n]? = some a := by cases r0 with | «mut» hm => exact ⟨_, rfl, hm⟩
        obtain ⟨a, rfl, hm⟩ := hm
        have hm2 := ex2.get hm
        cases em : ds2.mem[n]? with
        | none => simp only [putN, em] at h; exact h.elim
        | some o =>
          cases o with
          | lst xs =>
            cases eg : putI xs k d with
            | none => simp only [putN, em, eg] at h; exact h.elim
            | some ys =>
              simp only [putN, em, eg] at h
              obtain ⟨ws, y1, _, _, rl, _⟩ := c2.mem n _ (.lst xs) hm2 em
              exact putI_run y1 rl rk rd eg fun us rl' => h ma2 S2 _ σ (ex.trans ex2) (c2.memWrite (o := .lst ys) hm2 rl' trivial) Tch.refl
          | _ => simp only [putN, em] at h; exact h.elim
      | _ => exact (show False from h).elim
/-- a new list as a shared one -/
def newM (f : M (List D)) : M D := bnd f fun ds s => .ok (.mut s.mem.length) { s with mem := s.mem ++ [.lst ds] }
theorem v_new (h : VF c e fs) : VE c e (newM fs) := by
  refine ⟨fun X W ok => ?_⟩
  obtain ⟨t, p, q⟩ := h.run X W ok
  refine ⟨t, p, fun F ma S H σ ds Q cf h => ?_⟩
  refine q F ma S H σ ds _ cf (Res.bind h fun d ds1 ma1 S1 H1 x e1 c1 r1 h1 => ?_)
  obtain ⟨p, vs, rfl, hp, fr, r⟩ := r1
  obtain ⟨c2, ex⟩ := c1.memNew (o := .lst d) hp fr r trivial
  refine h1 (ma1 ++ [p]) S1 H1 _ ex c2 (.mut ?_)
  rw [← c1.mlen]
  simp
end
end Vl
namespace Vl
open PySem PySem.Spec PyProof.Rows L2
section
variable {c : SC} {pos p : Pos} {a b e : Expr} {es : List Expr} {fa fb : M D} {fs : M (List D)} {x : Str}
/-- truth of what is looked at -/
theorem t_truO (h : VO c e fa) (he : ∀ (env : Env) whole, isTrue e env whole = (do let v ← whole; standAt e.pos; holding [v] (truthy v)) := by intro _ _; rfl) : VT c e (truM fa) := by
  refine ⟨fun X W ok => ?_⟩
  obtain ⟨ta, pa, qa⟩ := h.run X W ok
  obtain ⟨exc, k, isdef, fnc, rfl⟩ := ok.eq
  refine ⟨_, pt_truth pa (he X.env), fun F ma S H σ ds Q cf h => ?_⟩
  refine qa F ma S H σ ds _ cf (Res.bind h fun d ds1 ma1 S1 H1 x e1 c1 r1 h1 => ?_)
  have fin : ∀ k, truD d = some k → Q k H1 := fun k e => by
    have h1 : Res _ W F RpB σ ma1 S1 (opt (truD d) ds1) Q := h1
    rw [e] at h1
    exact h1 ma1 S1 H1 k Ext.refl c1 rfl
  cases d with
  | non => cases r1 with | rep r => cases r; exact ⟨false, rfl, fin _ rfl⟩
  | bl b => cases r1 with | rep r => cases r; exact ⟨b, rfl, fin _ rfl⟩
  | int i => cases r1 with | rep r => cases r; exact ⟨_, rfl, fin _ rfl⟩
  | str z =>
    by_cases hz : z.length ≤ 16777216
    · cases r1 with | rep r => cases r; exact ⟨_, ⟨by rw [sizeLine_eq]; exact hz, rfl⟩, fin _ (if_pos hz)⟩
    · have h1 : Res _ W F RpB σ ma1 S1 (opt (truD (.str z)) ds1) Q := h1
      have e : truD (.str z) = none := if_neg hz
      rw [e] at h1
      exact h1.elim
  | lst xs =>
    obtain ⟨p, vs, rfl, hs, rl⟩ := r1.seqL c1
    exact ⟨_, .inl ⟨_, hs, rfl⟩, fin _ (by rw [← rl.isEmpty]; rfl)⟩
  | frl xs =>
    obtain ⟨p, vs, rfl, hs, rl⟩ := r1.seqF c1
    exact ⟨_, .inl ⟨_, hs, rfl⟩, fin _ (by rw [← rl.isEmpty]; rfl)⟩
  | tup xs =>
    obtain ⟨p, vs, rfl, hs, rl⟩ := r1.seqT c1
    exact ⟨_, .inr (.inl ⟨_, hs, rfl⟩), fin _ (by rw [← rl.isEmpty]; rfl)⟩
  | _ => exact (show False from h1).elim
/-- a, b, c = x, y, z: plain local names -/
def par3M (i j l : Nat) (fs : M (List D)) : M Out := bnd fs fun ds => match ds with
  | [a, b, d] => bnd (setM i a) fun _ => bnd (setM j b) fun _ => bnd (setM l d) fun _ => rtn .nx
  | _ => fun _ => .stuck
theorem s_par3 (i j l : Nat) {x y z : Str} {a b d : Expr} {fs : M (List D)} {px py pz pt : Pos} {kt k2 pt2} (hc : c.calm = true) (hi : c.N[i]? = some x) (hj : c.N[j]? = some y) (hl : c.N[l]? = some z) (hij : i ≠ j) (hil : i ≠ l) (hjl : j ≠ l)
    (hx : c.sc.names.lookup x = some .local) (hy : c.sc.names.lookup y = some .local) (hz : c.sc.names.lookup z = some .local) (ha : VA c [a, b, d] fs)
    (hw : ∀ env : Env, env.scope = c.sc → swappedStores [.Tuple [.Name x px, .Name y py, .Name z pz] kt pt] (.Tuple [a, b, d] k2 pt2) env = pure (some [x, y, z]))
    (hs : ∀ env : Env, swapsWithSole [.Tuple [.Name x px, .Name y py, .Name z pz] kt pt] (.Tuple [a, b, d] k2 pt2) pos.line env = pure false := by intro _; rfl) :
    VS c (.Assign [.Tuple [.Name x px, .Name y py, .Name z pz] kt pt] (.Tuple [a, b, d] k2 pt2) pos) (par3M i j l fs) := by
  refine ⟨fun X W ok => ?_⟩
  obtain ⟨t, p, q⟩ := ha.run X W ok
  have nd := ok.nd
  obtain ⟨exc, k, isdef, fnc, rfl⟩ := ok.eq
  refine ⟨_, ps_par3 hc nd hi hj hl hij hil hjl hx hy hz p (hw X.env rfl) (hs X.env), fun F ma S H σ ds E cf h => ?_⟩
  refine q F ma S H σ ds _ cf (SRes.bind h fun d ds1 ma1 S1 H1 v x c1 r1 h1 => ?_)
  cases r1 with
  | nil => exact (show False from h1).elim
  | cons a1 b1 =>
    cases b1 with
    | nil => exact (show False from h1).elim
    | cons a2 b2 =>
      cases b2 with
      | nil => exact (show False from h1).elim
      | cons a3 b3 =>
        cases b3 with
        | cons _ _ => exact (show False from h1).elim
        | nil => exact ⟨_, _, _, rfl, h1 ma1 S1 H1 _ Ext.refl (((c1.put a1 i).put a2 j).put a3 l)⟩
theorem VB.none {st : List Stmt} : VB c st (fun _ => .stuck) := ⟨fun X W ok => ⟨fun _ _ _ => False, ⟨fun pins s σ H D I h => h.elim⟩, fun F ma S H σ ds E cf h => h.elim⟩⟩
/-- name = [..]: a shared list -/
theorem s_memLc (i : Nat) {y : Str} {py : Pos} {elt tg iter : Expr} {ifs : List Expr} {scope : Scope} {lpos : Pos} (own : List (Str × Nat)) {is : List Nat} {fi : M (List D)} {ft : D → M Unit} {tt : M Bool} {fe : M D} (hc : c.calm = true) (hN : c.N[i]? = some y) (hyl : c.sc.names.lookup y = some .local)
    (hsw : ∀ env : Env, env.scope = c.sc → swapsWith (.ListComp elt [⟨tg, iter, ifs, 0⟩] scope lpos) (some (.Name y py)) pos.line env = pure true) (okB : BlkOk c.N c.sc scope own) (hi : VI c tg iter fi) (hg : TG1 (c.blk scope) tg is ft)
    (ht : VTs (c.blk scope) ifs tt) (he : VE (c.blk scope) elt fe) (his : ∀ i ∈ is, i ∈ own.map (·.2)) (hs : ∀ (env : Env) x, foldedSetIterable iter env x = pure x := by intro _ _; rfl) :
    VS c (.Assign [.Name y py] (.ListComp elt [⟨tg, iter, ifs, 0⟩] scope lpos) pos) (memM i (compM (own.map (·.2)) fi ft tt fe)) := by
  refine ⟨fun X W ok => ?_⟩
  obtain ⟨wi, g, t, te, h1, h2, h3, h4, h5⟩ := lc_reads ok hi hg his ht he
  have nd := ok.nd
  obtain ⟨exc, k, isdef, fnc, rfl⟩ := ok.eq
  refine ⟨_, ps_setLc hc nd hN hyl (hsw X.env rfl) h1 okB h2 h3 h4 (hs X.env), fun F ma S H σ ds E cf h => ?_⟩
  have h : SRes _ W F ma S ((compM (own.map (·.2)) fi ft tt fe ds).bind fun x s => .ok Out.nx { env := s.env.set i (.val (.mut s.mem.length)), mem := s.mem ++ [.lst x] }) E := h
  refine h5 F ma S H σ ds _ cf ?_
  revert h
  cases compM (own.map (·.2)) fi ft tt fe ds with
  | stuck => exact fun h => h
  | err ec ds1 => exact fun h ma1 S1 H1 ex c1 => h ma1 S1 H1 σ ex c1
  | ok xs ds1 =>
    intro h ma1 S1 H1 v ex c1 r
    obtain ⟨p, vs, rfl, hp, f, r⟩ := r
    obtain ⟨c2, ex2⟩ := c1.memNew (o := .lst xs) hp f r trivial
    refine h (ma1 ++ [p]) S1 H1 _ (ex.trans ex2) (c2.put (.mut ?_) i)
    rw [← c1.mlen]
    simp

/-! ### list(range(..)) -/
def lrngM (fs : M (List D)) (g : List D → Option (List D)) : M (List D) := bnd fs fun xs => bnd (opt (g xs)) fun l => if l.length ≤ 1000000 then rtn l else fun _ => .stuck
theorem rgV_rep {K : PySem.W.Frag} {S : Hp} {ma : List Addr} {lo hi : Int} : RepL K S ma (rngL lo (hi - lo).toNat) (rgV lo hi) := by
  unfold rngL rgV
  have : ∀ l : List Nat, RepL K S ma (l.map fun i => D.int (lo + (i : Nat))) (l.map fun i => V.int (lo + (i : Nat))) := fun l => by
    induction l with
    | nil => exact .nil
    | cons a r ih => exact .cons (.int _) ih
  exact this _
theorem fits_iff {i : Int} (h : fits i = true) : -(2 ^ 62) ≤ i ∧ i < 2 ^ 62 := of_decide_eq_true h
theorem f_lrng1 {p2 q : Pos} (ha : VE c a fa) (hc : c.calm = true) (hg : Glo c.sc "list") (hm : c.B.mg "list" = none) (hg2 : Glo c.sc "range") (hm2 : c.B.mg "range" = none)
    (na : ∀ env : Env, starEach [a] env = (false, eval a env) :: starEach [] env := by intro _; rfl) (na2 : ∀ env : Env, starEach [.Call (.Name "range" p2) [a] [] q] env = (false, eval (.Call (.Name "range" p2) [a] [] q) env) :: starEach [] env := by intro _; rfl) :
    VF c (.Call (.Name "list" p) [.Call (.Name "range" p2) [a] [] q] [] pos) (lrngM (consM fa (rtn [])) rng1) := by
  refine ⟨fun X W ok => ?_⟩
  obtain ⟨t, pa, qa⟩ := ha.run X W ok
  obtain ⟨exc, k, isdef, fnc, rfl⟩ := ok.eq
  refine ⟨_, pe_listRg hc hg hm (prg_1 hg2 hm2 pa (na X.env)) (na2 X.env), fun F ma S H σ ds Q cf h => ?_⟩
  unfold lrngM consM bnd at h
  refine qa F ma S H σ ds _ cf ?_
  cases er : fa ds with
  | stuck => rw [er] at h; exact h.elim
  | err z ds1 => rw [er] at h; exact h
  | ok d ds1 =>
    rw [er] at h
    intro ma1 S1 H1 v ex c1 r
    have h : Res ⟨X.prog, X.w, X.K, X.mg, X.base, exc⟩ W F (RpF X.K) σ ma S ((opt (rng1 [d]) ds1).bind fun l s => (if l.length ≤ 1000000 then rtn l else fun _ => .stuck : M (List D)) s) Q := h
    cases r with
    | int i =>
      have e1 : rng1 [.int i] = if fits i = true then some (rngL 0 i.toNat) else none := rfl
      rw [e1] at h
      by_cases hf : fits i = true
      · rw [if_pos hf] at h
        have h : Res ⟨X.prog, X.w, X.K, X.mg, X.base, exc⟩ W F (RpF X.K) σ ma S ((if (rngL 0 i.toNat).length ≤ 1000000 then rtn (rngL 0 i.toNat) else fun _ => .stuck : M (List D)) ds1) Q := h
        by_cases hl : (rngL 0 i.toNat).length ≤ 1000000
        · rw [if_pos hl] at h
          obtain ⟨f1, f2⟩ := fits_iff hf
          have hl2 : i.toNat ≤ 1000000 := by unfold rngL at hl; rw [List.length_map, List.length_range] at hl; exact hl
          refine ⟨i, rfl, ⟨by omega, by omega, f1, f2, by omega⟩, fun q hq => ?_⟩
          have rr := rgV_rep (K := X.K) (S := S1) (ma := ma1) (lo := 0) (hi := i)
          rw [Int.sub_zero] at rr
          exact h ma1 S1 _ _ ex (c1.grow (.lst (rgV 0 i)) hq) ⟨q, _, rfl, upd_same, c1.fre hq, rr⟩
        · rw [if_neg hl] at h; exact h.elim
      · rw [if_neg hf] at h; exact h.elim
    | _ => exact (show False from h).elim
theorem f_lrng2 {p2 q : Pos} (ha : VE c a fa) (hb : VE c b fb) (hc : c.calm = true) (hg : Glo c.sc "list") (hm : c.B.mg "list" = none) (hg2 : Glo c.sc "range") (hm2 : c.B.mg "range" = none)
    (na : ∀ env : Env, starEach [a, b] env = (false, eval a env) :: starEach [b] env := by intro _; rfl) (nb : ∀ env : Env, starEach [b] env = (false, eval b env) :: starEach [] env := by intro _; rfl)
    (na2 : ∀ env : Env, starEach [.Call (.Name "range" p2) [a, b] [] q] env = (false, eval (.Call (.Name "range" p2) [a, b] [] q) env) :: starEach [] env := by intro _; rfl) :
    VF c (.Call (.Name "list" p) [.Call (.Name "range" p2) [a, b] [] q] [] pos) (lrngM (consM fa (consM fb (rtn []))) rng2) := by
  refine ⟨fun X W ok => ?_⟩
  obtain ⟨t, pa, qa⟩ := ha.run X W ok
  obtain ⟨t2, pb, qb⟩ := hb.run X W ok
  obtain ⟨exc, k, isdef, fnc, rfl⟩ := ok.eq
  have hpl : (backTo q (starEach [b] X.env)).any (·.1) = false := by rw [nb X.env]; rfl
  refine ⟨_, pe_listRg hc hg hm (prg_2 hg2 hm2 pa pb (na X.env) (nb X.env) hpl) (na2 X.env), fun F ma S H σ ds Q cf h => ?_⟩
  unfold lrngM consM bnd at h
  refine qa F ma S H σ ds _ cf ?_
  cases er : fa ds with
  | stuck => rw [er] at h; exact h.elim
  | err z ds1 => rw [er] at h; exact h
  | ok d ds1 =>
    rw [er] at h
    intro ma1 S1 H1 v ex c1 r
    refine qb F ma1 S1 H1 σ ds1 _ c1 ?_
    have h : Res ⟨X.prog, X.w, X.K, X.mg, X.base, exc⟩ W F (RpF X.K) σ ma S (((((fb ds1).bind fun a s' => ((rtn ([] : List D)) s').bind fun l s' => rtn (a :: l) s').bind fun ds' s => rtn (d :: ds') s)).bind fun xs s => ((opt (rng2 xs) s).bind fun l s => (if l.length ≤ 1000000 then rtn l else fun _ => .stuck : M (List D)) s)) Q := h
    cases er2 : fb ds1 with
    | stuck => rw [er2] at h; exact h.elim
    | err z ds2 => rw [er2] at h; exact fun ma' S' H' ex2 c2 => h ma' S' H' (ex.trans ex2) c2
    | ok d2 ds2 =>
      rw [er2] at h
      intro ma2 S2 H2 v2 ex2 c2 r2
      have h : Res ⟨X.prog, X.w, X.K, X.mg, X.base, exc⟩ W F (RpF X.K) σ ma S ((opt (rng2 [d, d2]) ds2).bind fun l s => (if l.length ≤ 1000000 then rtn l else fun _ => .stuck : M (List D)) s) Q := h
      have r2 : Rep X.K S2 ma2 d2 v2 := r2
      have r : Rep X.K S1 ma1 d v := r
      cases r with
      | int i =>
        cases r2 with
        | int j =>
          have e1 : rng2 [.int i, .int j] = if fits i = true ∧ fits j = true then some (rngL i (j - i).toNat) else none := rfl
          rw [e1] at h
          by_cases hf : fits i = true ∧ fits j = true
          · rw [if_pos hf] at h
            have h : Res ⟨X.prog, X.w, X.K, X.mg, X.base, exc⟩ W F (RpF X.K) σ ma S ((if (rngL i (j - i).toNat).length ≤ 1000000 then rtn (rngL i (j - i).toNat) else fun _ => .stuck : M (List D)) ds2) Q := h
            by_cases hl : (rngL i (j - i).toNat).length ≤ 1000000
            · rw [if_pos hl] at h
              obtain ⟨f1, f2⟩ := fits_iff hf.1
              obtain ⟨f3, f4⟩ := fits_iff hf.2
              have hl2 : (j - i).toNat ≤ 1000000 := by unfold rngL at hl; rw [List.length_map, List.length_range] at hl; exact hl
              refine ⟨i, j, rfl, rfl, ⟨f1, f2, f3, f4, by omega⟩, fun q hq => ?_⟩
              exact h ma2 S2 _ _ (ex.trans ex2) (c2.grow (.lst (rgV i j)) hq) ⟨q, _, rfl, upd_same, c2.fre hq, rgV_rep⟩
            · rw [if_neg hl] at h; exact h.elim
          · rw [if_neg hf] at h; exact h.elim
        | _ => exact (show False from h).elim
      | _ => exact (show False from h).elim

/-! ### a new list by + and * -/
def OpF (c : SC) (f : Value → Value → Sem Value) (g : D → D → Option (List D)) : Prop := ∀ X W, Ok c X W → ∃ r : R2, OpR X f r ∧ ∀ F ma S H σ ds a b x y Q, Cf c.B.K F ma S H σ ds → Rep c.B.K S ma a x → Rep c.B.K S ma b y →
  Res c.B W F (RpF c.B.K) σ ma S (opt (g a b) ds) Q → r x y H Q
def binF (g : D → D → Option (List D)) (fa fb : M D) : M (List D) := bnd fa fun x => bnd fb fun y => opt (g x y)
theorem f_op {op : Operator} {g : D → D → Option (List D)} (ho : OpF c (binaryOp op) g) (ha : VE c a fa) (hb : VE c b fb) : VF c (.BinOp a op b pos) (binF g fa fb) := by
  refine ⟨fun X W ok => ?_⟩
  obtain ⟨ta, pa, qa⟩ := ha.run X W ok
  obtain ⟨tb, pb, qb⟩ := hb.run X W ok
  obtain ⟨r, po, qr⟩ := ho X W ok
  refine ⟨tOp r ta tb, pe_op po pa pb, fun F ma S H σ ds Q cf h => ?_⟩
  refine qa F ma S H σ ds _ cf (Res.bind h fun d1 ds1 ma1 S1 H1 x e1 c1 r1 h1 => ?_)
  refine qb F ma1 S1 H1 σ ds1 _ c1 (Res.bind h1 fun d2 ds2 ma2 S2 H2 y e2 c2 r2 h2 => ?_)
  exact qr F ma2 S2 H2 σ ds2 d1 d2 x y Q c2 (Rep.mono e2 r1) r2 h2
end

/-! ### defs and their callers -/
structure DefF (B : Bs) (x : Str) (st : Stmt) (ps : List Str) : Prop where
  ex : ∃ f fd, Fun B.K x x st f fd ∧ B.mg x = some (.ref f) ∧ Binds B.K fd ps []
theorem callee_mk {B : Bs} {x : Str} {st : Stmt} {N ps : List Str} {k : Nat} {body : M Out} (d : DefF B x st ps) (Sc : FnScope N ps (defScope st)) (h : VB ⟨B, N, defScope st, k, true, true, fun _ => true⟩ (defBody st) body) :
    Callee B x (fnDen ps.length N.length body) (k + 1) := by
  obtain ⟨f, fd, F, hm, hb⟩ := d.ex
  exact ⟨f, fd, ps, fn_mk F Sc h, hm, F.kp, hb⟩
theorem Callee.to {B : Bs} {x : Str} {den den' : Den} {k : Nat} (h : Callee B x den k) (e : den = den') : Callee B x den' k := e ▸ h
theorem Callee.le {B : Bs} {x : Str} {den : Den} {j k : Nat} (h : Callee B x den j) (e : j ≤ k) : Callee B x den k := by
  obtain ⟨f, fd, ps, F, h1, h2, h3⟩ := h.ex
  exact ⟨f, fd, ps, F.mono e, h1, h2, h3⟩
/-- no meaning known -/
def noDen : Den := fun _ _ => .stuck
theorem callee_none {B : Bs} {x : Str} {st : Stmt} {N ps : List Str} {k : Nat} (d : DefF B x st ps) (Sc : FnScope N ps (defScope st)) : Callee B x noDen (k + 1) := by
  have h := callee_mk (k := k) d Sc VB.none
  refine h.to (funext fun args => funext fun mem => ?_)
  unfold fnDen noDen
  split <;> rfl

/-! ### the law itself -/
/-- what a law promises, whatever the classes of errors are -/
def spLaw (K : PySem.W.Frag) (den : Den) : Sp := fun vs H Q _ => ∃ ma S ds mem d m, Cf K (around S H ma) ma S H (vs.map some) ⟨ds.map .val, mem⟩ ∧ RepL K S ma ds vs ∧ den ds mem = .ok d m ∧ ∀ ma' S' H' v, Ext ma S ma' S' → Rep K S' ma' d v → Q v H'
theorem spLaw_of {B : Bs} {den : Den} {vs : List V} {H : Hp} {Q : VK} {E : XK} (h : spLaw B.K den vs H Q E) : spD B den vs H Q E := by
  obtain ⟨ma, S, ds, mem, d, m, h1, h2, h3, h4⟩ := h
  refine ⟨ma, S, ds, mem, h1, h2, ?_⟩
  rw [h3]
  exact fun ma' S' H' v ex _ r => h4 ma' S' H' v ex r
/-- a script's list: nothing else stands -/
theorem spLaw_script {K : PySem.W.Frag} {den : Den} {H : Hp} {a : Addr} {ns : List Int} (hS : SqL K H a (ns.map V.int)) (h : ∃ m, den [.frl (ns.map .int)] [] = .ok (.bl true) m) : spLaw K den [.ref a] H (fun v _ => v = .bl true) fun _ _ _ => False := by
  obtain ⟨m, hm⟩ := h
  have rl : ∀ l : List Int, RepL K H [] (l.map D.int) (l.map V.int) := fun l => by
    induction l with
    | nil => exact .nil
    | cons x r ih => exact .cons (.int x) ih
  have rp : RepL K H [] [.frl (ns.map .int)] [.ref a] := .cons (.frl hS (rl ns)) .nil
  refine ⟨[], H, [.frl (ns.map .int)], [], .bl true, m, ?_, rp, hm, fun ma' S' H' v ex r => by cases r; rfl⟩
  have c0 : Cf K (fun _ => none) [] H H [] ⟨[], []⟩ := {
    sub := Same.refl H
    fr := fun b o e => by cases e
    dis := fun b o e => by cases e
    len := rfl
    val := fun i d e => by simp at e
    own := fun i s e => by simp at e
    apart := fun i j s u p e => by simp at e
    mlen := rfl
    mem := fun n a o e => by simp at e
    nd := List.nodup_nil }
  exact c0.toCall rp
theorem law_fn {B : Bs} {x : Str} {den : Den} {k : Nat} (h : Callee B x den k) {fa : Addr} (hfa : B.mg x = some (.ref fa)) : ∃ fd ps, FnOk B.P B.w B.K B.mg B.base (L2.CX B.P B.w) k fa fd ps (spLaw B.K den) ∧ Binds B.K fd ps [] := by
  obtain ⟨f, fd, ps, F, hm, kp, hb⟩ := h.ex
  rw [hfa] at hm
  cases hm
  exact ⟨fd, ps, F.imp fun vs H Q E q => spLaw_of q, hb⟩
end Vl
namespace Vl
open PySem PySem.Spec PyProof.Rows L2

/-! ### the least, the greatest, the sorted -/
mutual
/-- no list within -/
def flatD : D → Bool
  | .non => true
  | .bl _ => true
  | .int _ => true
  | .str _ => true
  | .tup xs => flatDs xs
  | _ => false
def flatDs : List D → Bool
  | [] => true
  | x :: xs => flatD x && flatDs xs
end
mutual
theorem toP_inj : ∀ {a b : D}, flatD a = true → flatD b = true → toP a = toP b → a = b
  | .non, .non, _, _, _ => rfl
  | .non, .bl _, _, _, h => by simp [toP] at h
  | .non, .int _, _, _, h => by simp [toP] at h
  | .non, .str _, _, _, h => by simp [toP] at h
  | .non, .tup _, _, _, h => by simp [toP] at h
  | .bl _, .bl _, _, _, h => by simp [toP] at h; rw [h]
  | .bl _, .non, _, _, h => by simp [toP] at h
  | .bl _, .int _, _, _, h => by simp [toP] at h
  | .bl _, .str _, _, _, h => by simp [toP] at h
  | .bl _, .tup _, _, _, h => by simp [toP] at h
  | .int _, .int _, _, _, h => by simp [toP] at h; rw [h]
  | .int _, .non, _, _, h => by simp [toP] at h
  | .int _, .bl _, _, _, h => by simp [toP] at h
  | .int _, .str _, _, _, h => by simp [toP] at h
  | .int _, .tup _, _, _, h => by simp [toP] at h
  | .str _, .str _, _, _, h => by simp [toP] at h; rw [h]
  | .str _, .non, _, _, h => by simp [toP] at h
  | .str _, .bl _, _, _, h => by simp [toP] at h
  | .str _, .int _, _, _, h => by simp [toP] at h
  | .str _, .tup _, _, _, h => by simp [toP] at h
  | .tup _, .non, _, _, h => by simp [toP] at h
  | .tup _, .bl _, _, _, h => by simp [toP] at h
  | .tup _, .int _, _, _, h => by simp [toP] at h
  | .tup _, .str _, _, _, h => by simp [toP] at h
  | .tup xs, .tup ys, h1, h2, h => by
    simp only [toP, PyData.tuple.injEq] at h
    rw [flatD] at h1 h2
    rw [toPs_inj h1 h2 h]
  | .lst _, _, h, _, _ => by simp [flatD] at h
  | .frl _, _, h, _, _ => by simp [flatD] at h
  | .dK _ _, _, h, _, _ => by simp [flatD] at h
  | .dT _ _, _, h, _, _ => by simp [flatD] at h
  | .mut _, _, h, _, _ => by simp [flatD] at h
  | _, .lst _, _, h, _ => by simp [flatD] at h
  | _, .frl _, _, h, _ => by simp [flatD] at h
  | _, .dK _ _, _, h, _ => by simp [flatD] at h
  | _, .dT _ _, _, h, _ => by simp [flatD] at h
  | _, .mut _, _, h, _ => by simp [flatD] at h
theorem toPs_inj : ∀ {a b : List D}, flatDs a = true → flatDs b = true → toPs a = toPs b → a = b
  | [], [], _, _, _ => rfl
  | [], _ :: _, _, _, h => by simp [toPs] at h
  | _ :: _, [], _, _, h => by simp [toPs] at h
  | x :: xs, y :: ys, h1, h2, h => by
    simp only [toPs, List.cons.injEq] at h
    rw [flatDs, Bool.and_eq_true] at h1 h2
    rw [toP_inj h1.1 h2.1 h.1, toPs_inj h1.2 h2.2 h.2]
end
/-- a list that can be ordered -/
def ordL (xs : List D) : Bool := dats xs && xs.all fun a => (xs.all fun b => likeD a b) && !(match a with | .non => true | _ => false)
def minDs (x : D) (xs : List D) : D := xs.foldl (fun a y => if ltD y a = true then y else a) x
def maxDs (x : D) (xs : List D) : D := xs.foldl (fun a y => if ltD a y = true then y else a) x
theorem minDs_toP (x : D) : ∀ xs : List D, toP (minDs x xs) = PySem.W.minD (toP x) (toPs xs) := by
  intro xs
  unfold minDs PySem.W.minD
  induction xs generalizing x with
  | nil => rfl
  | cons y r ih =>
    rw [toPs, List.foldl_cons, List.foldl_cons, ih]
    congr 1
    show toP (if PySem.W.dataLt (toP y) (toP x) = true then y else x) = if PySem.W.dataLt (toP y) (toP x) = true then toP y else toP x
    split <;> rfl
theorem maxDs_toP (x : D) : ∀ xs : List D, toP (maxDs x xs) = PySem.W.maxD (toP x) (toPs xs) := by
  intro xs
  unfold maxDs PySem.W.maxD
  induction xs generalizing x with
  | nil => rfl
  | cons y r ih =>
    rw [toPs, List.foldl_cons, List.foldl_cons, ih]
    congr 1
    show toP (if PySem.W.dataLt (toP x) (toP y) = true then y else x) = if PySem.W.dataLt (toP x) (toP y) = true then toP y else toP x
    split <;> rfl
theorem minDs_mem (x : D) : ∀ xs : List D, minDs x xs ∈ x :: xs := by
  intro xs
  unfold minDs
  induction xs generalizing x with
  | nil => simp
  | cons y r ih =>
    rw [List.foldl_cons]
    have := ih (if ltD y x = true then y else x)
    rcases List.mem_cons.mp this with h | h
    · rw [h]; split <;> simp
    · simp [h]
theorem maxDs_mem (x : D) : ∀ xs : List D, maxDs x xs ∈ x :: xs := by
  intro xs
  unfold maxDs
  induction xs generalizing x with
  | nil => simp
  | cons y r ih =>
    rw [List.foldl_cons]
    have := ih (if ltD x y = true then y else x)
    rcases List.mem_cons.mp this with h | h
    · rw [h]; split <;> simp
    · simp [h]
theorem flat_mem : ∀ {xs : List D} {x : D}, flatDs xs = true → x ∈ xs → flatD x = true
  | y :: r, x, h, m => by
    rw [flatDs, Bool.and_eq_true] at h
    rcases List.mem_cons.mp m with rfl | m
    · exact h.1
    · exact flat_mem h.2 m
theorem ordL_all {xs : List D} (h : ordL xs = true) : dats xs = true ∧ PySem.W.AlikeAll (toPs xs) := by
  unfold ordL at h
  rw [Bool.and_eq_true] at h
  refine ⟨h.1, fun p hp q hq => ?_, fun p hp => ?_⟩
  · rw [toPs_map] at hp hq
    obtain ⟨a, ha, rfl⟩ := List.mem_map.mp hp
    obtain ⟨b, hb, rfl⟩ := List.mem_map.mp hq
    have := List.all_eq_true.mp h.2 a ha
    rw [Bool.and_eq_true] at this
    exact List.all_eq_true.mp this.1 b hb
  · rw [toPs_map] at hp
    obtain ⟨a, ha, rfl⟩ := List.mem_map.mp hp
    have := List.all_eq_true.mp h.2 a ha
    rw [Bool.and_eq_true] at this
    cases a with
    | non => simp at this
    | _ => intro z; simp [toP] at z
theorem dats_split {xs : List D} (h : dats xs = true) : PyData.plainAll (toPs xs) = true ∧ PyData.depthAll (toPs xs) ≤ 60 := by
  unfold dats at h
  rw [Bool.and_eq_true] at h
  exact ⟨h.1, of_decide_eq_true h.2⟩
def leastF (f : D → List D → D) : List D → Option D
  | [] => none
  | x :: xs => if ordL (x :: xs) = true ∧ flatDs (x :: xs) = true then some (f x xs) else none
/-- min(xs), max(xs) -/
def leastM (f : D → List D → D) : List D → M D
  | [.lst xs] => opt (leastF f xs)
  | [.frl xs] => opt (leastF f xs)
  | [.tup xs] => opt (leastF f xs)
  | _ => fun _ => .stuck
section
variable {c : SC}
def rLeast (K : PySem.W.Frag) (mn : Bool) : List V → Hp → VK → Prop := fun vs H Q => ∃ (a : Addr) (ws : List V) (S : Hp) (ma : List Addr) (x : D) (xs : List D), vs = [.ref a] ∧ (SqL K H a ws ∨ SqT K H a ws) ∧ Same S H ∧ RepL K S ma (x :: xs) ws ∧ ordL (x :: xs) = true ∧ flatDs (x :: xs) = true ∧
  ∀ v, Rep K S ma (if mn = true then minDs x xs else maxDs x xs) v → Q v H
theorem vals_get {vs : List V} {us : List Value} (r : Vals vs us) {i : Nat} {u : Value} (h : us[i]? = some u) : ∃ v, vs[i]? = some v ∧ RelV v u := by
  induction r generalizing i with
  | nil => simp at h
  | cons a b ih =>
    cases i with
    | zero => simp at h; subst h; exact ⟨_, rfl, a⟩
    | succ i =>
      obtain ⟨v, h1, h2⟩ := ih (i := i) (by simpa using h)
      exact ⟨v, by simpa using h1, h2⟩
theorem call_least {X : Cx} (mn : Bool) (hc : X.calm = true) (hu : X.A.units + 64 < cLine) : CallR X (.builtin (if mn = true then "min" else "max")) (rLeast X.K mn) := by
  intro pins s σ H vs us Q I r h
  obtain ⟨a, ws, S, ma, x, xs, rfl, hs, sm, rl, ho, hf, q⟩ := h
  rw [Vals.ref1 r]
  obtain ⟨hd, ha⟩ := ordL_all ho
  obtain ⟨p1, d1⟩ := dats_split hd
  -- what the answer is
  have fin : ∀ (its : List Value) (i : Nat) v h' tk bs, Vals ws its → its.toArray[i]? = some v → Reads h' v (toP (if mn = true then minDs x xs else maxDs x xs)) bs → (∀ b o, s.heap.get? b = some o → h'.get? b = some o) → (∃ as, ReadsAll s.heap its (toPs (x :: xs)) as) → EP X pins σ Q v { s with heap := h', toks := tk } := by
    intro its i v h' tk bs rv hv hr hk ⟨as, hra⟩
    obtain ⟨bs2, r2, hi, hm, _⟩ := PySem.W.readsAll_at hra i v (by simpa using hv)
    have rr := PySem.W.reads_keeps hk r2
    have hm2 : (if mn = true then minDs x xs else maxDs x xs) ∈ x :: xs := by
      split
      · exact minDs_mem x xs
      · exact maxDs_mem x xs
    have e1 : toP (if mn = true then minDs x xs else maxDs x xs) = (toPs (x :: xs)).getD i .none := by
      refine PySem.W.alike_unique _ _ _ _ _ ?_ hr rr
      refine ha.1 _ ?_ _ hm
      rw [toPs_map]
      exact List.mem_map.mpr ⟨_, hm2, rfl⟩
    obtain ⟨vv, h1, h2⟩ := vals_get rv (by simpa using hv)
    obtain ⟨dd, h3, h4⟩ := rl.get' h1
    have e2 : (toPs (x :: xs)).getD i .none = toP dd := by
      rw [toPs_map, List.getD_eq_getElem?_getD, List.getElem?_map, h3]; rfl
    have e3 : (if mn = true then minDs x xs else maxDs x xs) = dd := toP_inj (flat_mem hf hm2) (flat_mem hf (List.mem_of_getElem? h3)) (e1.trans e2)
    exact ⟨vv, H, I.kept hk, h2, q vv (e3 ▸ h4)⟩
  rcases hs with hs | hs
  · obtain ⟨its, rv, hl, _⟩ := I.list hs
    obtain ⟨as, hra⟩ := rl.reads I sm rv p1
    cases mn with
    | true =>
      refine PySem.W.min_list_data (vs := its.toArray) (x := toP x) (xs := toPs xs) (I.ok.hd hc) hl.isList (by simpa [toPs] using hra) (by simpa [toPs] using ha) (by have := d1; rw [toPs] at this; omega) fun i v h' tk bs hv hr hk => ?_
      exact fin its i v h' tk bs rv hv (by rw [if_pos rfl, minDs_toP]; exact hr) hk ⟨as, hra⟩
    | false =>
      refine PySem.W.max_list_data (vs := its.toArray) (x := toP x) (xs := toPs xs) (I.ok.hd hc) hl.isList (by simpa [toPs] using hra) (by simpa [toPs] using ha) (by have := d1; rw [toPs] at this; omega) fun i v h' tk bs hv hr hk => ?_
      exact fin its i v h' tk bs rv hv (by rw [if_neg (by decide), maxDs_toP]; exact hr) hk ⟨as, hra⟩
  · obtain ⟨its, rv, hl, _⟩ := I.tuple hs
    obtain ⟨as, hra⟩ := rl.reads I sm rv p1
    cases mn with
    | true =>
      refine PySem.W.min_tuple_data (vs := its.toArray) (x := toP x) (xs := toPs xs) (I.ok.hd hc) hl (by simpa [toPs] using hra) (by simpa [toPs] using ha) (by have := d1; rw [toPs] at this; omega) fun i v h' tk bs hv hr hk => ?_
      exact fin its i v h' tk bs rv hv (by rw [if_pos rfl, minDs_toP]; exact hr) hk ⟨as, hra⟩
    | false =>
      refine PySem.W.max_tuple_data (vs := its.toArray) (x := toP x) (xs := toPs xs) (I.ok.hd hc) hl (by simpa [toPs] using hra) (by simpa [toPs] using ha) (by have := d1; rw [toPs] at this; omega) fun i v h' tk bs hv hr hk => ?_
      exact fin its i v h' tk bs rv hv (by rw [if_neg (by decide), maxDs_toP]; exact hr) hk ⟨as, hra⟩
theorem cal_least (mn : Bool) (hc : c.calm = true) : CalV c (.builtin (if mn = true then "min" else "max")) (leastM (if mn = true then minDs else maxDs)) := by
  intro X W ok
  have hu := room60 ok hc
  have hcx : X.calm = true := by obtain ⟨exc, k, isdef, fnc, rfl⟩ := ok.eq; exact hc
  refine ⟨_, call_least mn hcx (by omega), fun F ma S H σ ds xs vs Q cf r h => ?_⟩
  obtain ⟨exc, k, isdef, fnc, rfl⟩ := ok.eq
  have go : ∀ (l : List D) (ws : List V) (a : Addr), (SqL X.K H a ws ∨ SqT X.K H a ws) → RepL X.K S ma l ws → Res ⟨X.prog, X.w, X.K, X.mg, X.base, exc⟩ W F (RpV X.K) σ ma S (opt (leastF (if mn = true then minDs else maxDs) l) ds) Q → rLeast X.K mn [.ref a] H Q := fun l ws a hs rl h => by
    cases l with
    | nil => exact h.elim
    | cons x r =>
      unfold leastF at h
      dsimp only at h
      by_cases hz : ordL (x :: r) = true ∧ flatDs (x :: r) = true
      · rw [if_pos hz] at h
        refine ⟨a, ws, S, ma, x, r, rfl, hs, cf.sub, rl, hz.1, hz.2, fun v rv => h ma S H v Ext.refl cf ?_⟩
        have e : (if mn = true then minDs else maxDs) x r = if mn = true then minDs x r else maxDs x r := by split <;> rfl
        rw [e]; exact rv
      · rw [if_neg hz] at h; exact h.elim
  unfold leastM at h
  split at h
  · cases r with
    | cons r1 r2 =>
      cases r2
      cases r1 with
      | lst hs rl => exact go _ _ _ (.inl (.inl (.inl (cf.sub _ _ hs)))) rl h
  · cases r with
    | cons r1 r2 =>
      cases r2
      cases r1 with
      | frl hs rl => exact go _ _ _ (.inl (cf.sub.seq hs)) rl h
  · cases r with
    | cons r1 r2 =>
      cases r2
      cases r1 with
      | tup hs rl => exact go _ _ _ (.inr (Vl.seqT cf.sub hs)) rl h
  · exact h.elim
theorem cal_min (hc : c.calm = true) : CalV c (.builtin "min") (leastM minDs) := cal_least true hc
theorem cal_max (hc : c.calm = true) : CalV c (.builtin "max") (leastM maxDs) := cal_least false hc

/-! sorted -/
def tup1 : D → Bool
  | .tup (_ :: _) => true
  | _ => false
def notup : D → Bool
  | .non => false
  | .tup _ => false
  | _ => true
def sortable (xs : List D) : Bool := dats xs && (xs.all fun a => xs.all fun b => likeD a b) && (xs.all tup1 || xs.all notup) && decide (xs.length ≤ 1000000)
def sortD (xs : List D) : List D := xs.mergeSort (PySem.W.dataLe false toP)
def sortF (xs : List D) : Option (List D) := if sortable xs = true then some (sortD xs) else none
def sortM : List D → M (List D)
  | [.lst xs] => opt (sortF xs)
  | [.frl xs] => opt (sortF xs)
  | _ => fun _ => .stuck
theorem each_of {K : PySem.W.Frag} {S : Hp} {ma : List Addr} : ∀ {xs : List D} {vs : List V} {us : List Value}, RepL K S ma xs vs → Vals vs us → PySem.W.EachIs (fun (u : Value) (d : D) => ∃ v, RelV v u ∧ Rep K S ma d v) us xs
  | _, _, _, .nil, .nil => .nil
  | _, _, _, .cons a b, .cons c d => .cons ⟨_, c, a⟩ (each_of b d)
theorem each_back {K : PySem.W.Frag} {S : Hp} {ma : List Addr} : ∀ {xs : List D} {us : List Value}, PySem.W.EachIs (fun (u : Value) (d : D) => ∃ v, RelV v u ∧ Rep K S ma d v) us xs → ∃ vs, RepL K S ma xs vs ∧ Vals vs us
  | _, _, .nil => ⟨[], .nil, .nil⟩
  | _, _, .cons a b => by
    obtain ⟨v, h1, h2⟩ := a
    obtain ⟨vs, h3, h4⟩ := each_back b
    exact ⟨v :: vs, .cons h2 h3, .cons h1 h4⟩
theorem depth_mem : ∀ {ds : List PyData} {d : PyData}, d ∈ ds → d.depth ≤ PyData.depthAll ds
  | x :: r, d, h => by
    rcases List.mem_cons.mp h with rfl | h
    · exact Nat.le_max_left _ _
    · exact Nat.le_trans (depth_mem h) (Nat.le_max_right _ _)
theorem plain_mem : ∀ {ds : List PyData} {d : PyData}, PyData.plainAll ds = true → d ∈ ds → d.plain = true
  | x :: r, d, p, h => by
    rw [PyData.plainAll, Bool.and_eq_true] at p
    rcases List.mem_cons.mp h with rfl | h
    · exact p.1
    · exact plain_mem p.2 h
def rSort (K : PySem.W.Frag) : List V → Hp → VK → Prop := fun vs H Q => ∃ (a : Addr) (ws : List V) (S : Hp) (ma : List Addr) (xs : List D), vs = [.ref a] ∧ SqL K H a ws ∧ Same S H ∧ RepL K S ma xs ws ∧ sortable xs = true ∧
  ∀ p us, H p = none → RepL K S ma (sortD xs) us → Q (.ref p) (upd H p (.lst us))
theorem call_sorted {X : Cx} (hu : X.A.units + 64 < cLine) : CallR X (.builtin "sorted") (rSort X.K) := by
  intro pins s σ H vs us Q I r h
  obtain ⟨a, ws, S, ma, xs, rfl, hs, sm, rl, ho, q⟩ := h
  rw [Vals.ref1 r]
  unfold sortable at ho
  rw [Bool.and_eq_true, Bool.and_eq_true, Bool.and_eq_true] at ho
  obtain ⟨⟨⟨h1, h2⟩, h3⟩, h4⟩ := ho
  have h4 := of_decide_eq_true h4
  obtain ⟨p1, d1⟩ := dats_split h1
  obtain ⟨its, rv, hl, hz⟩ := I.list hs
  have hlen : its.length = xs.length := by rw [← rv.length, rl.length]
  have er : PySem.W.EachIs (fun v b => ∃ as, Reads s.heap v (toP b) as) its xs := by
    have : ∀ {xs : List D} {vs : List V} {us : List Value}, RepL X.K S ma xs vs → Vals vs us → PyData.plainAll (toPs xs) = true → PySem.W.EachIs (fun v b => ∃ as, Reads s.heap v (toP b) as) us xs := by
      intro xs
      induction xs with
      | nil => intro vs us r v _; cases r; cases v; exact .nil
      | cons x r ih =>
        intro vs us r v p
        rw [toPs, PyData.plainAll, Bool.and_eq_true] at p
        cases r with
        | cons r1 r2 =>
          cases v with
          | cons v1 v2 => exact .cons (r1.reads I sm v1 p.1) (ih r2 v2 p.2)
    exact this rl rv p1
  have em : ∀ d, d ∈ xs.map toP → ∃ b, b ∈ xs ∧ toP b = d := fun d hd => by obtain ⟨b, hb, e⟩ := List.mem_map.mp hd; exact ⟨b, hb, e⟩
  refine PySem.W.sorted_data (vs := its) (bs := xs) (enc := toP) hl.isList (each_of rl rv) er (fun d hd d' hd' => ?_) ?_ (by rw [sizeLine_eq]; omega) (fun b hb => ?_) fun out ol eo => ?_
  · obtain ⟨b, hb, rfl⟩ := em d hd
    obtain ⟨b', hb', rfl⟩ := em d' hd'
    exact List.all_eq_true.mp (List.all_eq_true.mp h2 b hb) b' hb'
  · rcases Bool.or_eq_true_iff.mp h3 with h3 | h3
    · refine .inl fun d hd => ?_
      obtain ⟨b, hb, rfl⟩ := em d hd
      have := List.all_eq_true.mp h3 b hb
      cases b with
      | tup ys =>
        cases ys with
        | nil => cases this
        | cons y r => exact ⟨toP y, toPs r, by rw [toP, toPs]⟩
      | _ => cases this
    · refine .inr fun d hd => ?_
      obtain ⟨b, hb, rfl⟩ := em d hd
      have := List.all_eq_true.mp h3 b hb
      cases b with
      | non => cases this
      | tup _ => cases this
      | _ => exact ⟨fun z => by simp [toP] at z, fun _ z => by simp [toP] at z⟩
  · have : (toP b).depth ≤ 60 := Nat.le_trans (depth_mem (by rw [toPs_map]; exact List.mem_map.mpr ⟨b, hb, rfl⟩)) d1
    omega
  · obtain ⟨vs', r1, r2⟩ := each_back eo
    obtain ⟨en, hg⟩ := PyProof.Rows.sortedAll_at s.heap its out.toArray
    have hfree : H (s.heap.objs.size + 1) = none := I.hok.fresh (Nat.le_succ _)
    refine ⟨.ref (s.heap.objs.size + 1), upd H (s.heap.objs.size + 1) (.lst vs'), ?_, rfl, q _ _ hfree r1⟩
    refine I.laid (t' := s.toks) (o := .lst vs') (fun b ob hb => PyProof.Rows.sortedAll_old hb) (Nat.le_succ _) ?_
    refine ⟨?_, out, en, r2, hg⟩
    rw [r2.length, ol, sizeLine_eq]; omega
theorem cal_sorted (hc : c.calm = true) : CalF c (.builtin "sorted") sortM := by
  intro X W ok
  have hu := room60 ok hc
  refine ⟨_, call_sorted (by omega), fun F ma S H σ ds xs vs Q cf r h => ?_⟩
  obtain ⟨exc, k, isdef, fnc, rfl⟩ := ok.eq
  have go : ∀ (l : List D) (ws : List V) (a : Addr), SqL X.K H a ws → RepL X.K S ma l ws → Res ⟨X.prog, X.w, X.K, X.mg, X.base, exc⟩ W F (RpF X.K) σ ma S (opt (sortF l) ds) Q → rSort X.K [.ref a] H Q := fun l ws a hs rl h => by
    unfold sortF at h
    by_cases hz : sortable l = true
    · rw [if_pos hz] at h
      refine ⟨a, ws, S, ma, l, rfl, hs, cf.sub, rl, hz, fun p us hp rr => ?_⟩
      exact h ma S _ _ Ext.refl (cf.grow (.lst us) hp) ⟨p, us, rfl, upd_same, cf.fre hp, rr⟩
    · rw [if_neg hz] at h; exact h.elim
  unfold sortM at h
  split at h
  · cases r with
    | cons r1 r2 =>
      cases r2
      cases r1 with
      | lst hs rl => exact go _ _ _ (.inl (.inl (cf.sub _ _ hs))) rl h
  · cases r with
    | cons r1 r2 =>
      cases r2
      cases r1 with
      | frl hs rl => exact go _ _ _ (cf.sub.seq hs) rl h
  · exact h.elim
end
end Vl
namespace Vl
open PySem PySem.Spec PyProof.Rows L2
mutual
/-- a constant of the written part -/
inductive GRep (K : PySem.W.Frag) : Value → D → Prop
  | non : GRep K .none .non
  | bl (b : Bool) : GRep K (.bool b) (.bl b)
  | int (i : Int) (t : Tok) : GRep K (.int i t) (.int i)
  | str (x : Str) (t : Tok) : GRep K (.str x t) (.str x)
  | tup {a : Addr} {dd : Option Addr} {its : Array Value} {n : Nat} {sl : Array (Option Value)} {ds : List D} : K.lookup a = some ⟨.type "tuple", dd, .seq its n, sl⟩ → its.size ≤ 1000 → GReps K its.toList ds → GRep K (.ref a) (.tup ds)
  | lst {a : Addr} {its : Array Value} {n : Nat} {sl : Array (Option Value)} {ds : List D} : K.lookup a = some ⟨.type "list", none, .seq its n, sl⟩ → its.size ≤ 1000 → GReps K its.toList ds → GRep K (.ref a) (.frl ds)
inductive GReps (K : PySem.W.Frag) : List Value → List D → Prop
  | nil : GReps K [] []
  | cons {u : Value} {us : List Value} {d : D} {ds : List D} : GRep K u d → GReps K us ds → GReps K (u :: us) (d :: ds)
end
mutual
theorem GRep.ex {K : PySem.W.Frag} : ∀ {u : Value} {d : D}, GRep K u d → ∃ v, RelV v u ∧ ∀ S ma, Rep K S ma d v
  | _, _, .non => ⟨.non, rfl, fun _ _ => .non⟩
  | _, _, .bl b => ⟨.bl b, rfl, fun _ _ => .bl b⟩
  | _, _, .int i t => ⟨.int i, ⟨t, rfl⟩, fun _ _ => .int i⟩
  | _, _, .str x t => ⟨.str x, ⟨t, rfl⟩, fun _ _ => .str x⟩
  | _, _, .tup (a := a) hl hz hr => by
    obtain ⟨vs, h1, h2⟩ := GReps.ex hr
    exact ⟨.ref a, rfl, fun S ma => .tup (.inr ⟨_, _, _, hl, rfl, rfl, Nat.le_trans hz (by decide), h1⟩) (h2 S ma)⟩
  | _, _, .lst (a := a) hl hz hr => by
    obtain ⟨vs, h1, h2⟩ := GReps.ex hr
    exact ⟨.ref a, rfl, fun S ma => .frl (.inr ⟨_, _, _, hl, rfl, rfl, rfl, Nat.le_trans hz (by decide), h1⟩) (h2 S ma)⟩
theorem GReps.ex {K : PySem.W.Frag} : ∀ {us : List Value} {ds : List D}, GReps K us ds → ∃ vs, Vals vs us ∧ ∀ S ma, RepL K S ma ds vs
  | _, _, .nil => ⟨[], .nil, fun _ _ => .nil⟩
  | _, _, .cons h t => by
    obtain ⟨v, h1, h2⟩ := GRep.ex h
    obtain ⟨vs, h3, h4⟩ := GReps.ex t
    exact ⟨v :: vs, .cons h1 h3, fun S ma => .cons (h2 S ma) (h4 S ma)⟩
end
theorem gconst_of {B : Bs} {x : Str} {u : Value} {d : D} (h : B.mg x = some u) (g : GRep B.K u d) : GConst B x d := by
  obtain ⟨v, h1, h2⟩ := g.ex
  exact ⟨⟨u, v, h, h1, h2⟩⟩
theorem exm_one {K : PySem.W.Frag} {A C : Addr} {r : Bool} (h1 : PySem.W.subIn K (.ref C) (.type "BaseException") = some true) (h2 : PySem.W.isClsIn K C = true) (h3 : PySem.W.typeIn K (.ref C) = some (.type "type")) (h4 : PySem.W.subIn K (.ref A) (.ref C) = some r) :
    PySem.W.exmOne K (.ref A) (.ref C) = some r := by
  have e1 : (PySem.W.subIn K (.ref C) (.type "BaseException") == some true) = true := by rw [h1] <;> rfl
  have e2 : ((PySem.W.clsIn K C).isSome && PySem.W.typeIn K (.ref C) == some (.type "type")) = true := by
    have h2' : (PySem.W.clsIn K C).isSome = true := h2
    rw [h2', h3] <;> rfl
  show (if (PySem.W.subIn K (.ref C) (.type "BaseException") == some true) = true then (if ((PySem.W.clsIn K C).isSome && PySem.W.typeIn K (.ref C) == some (.type "type")) = true then PySem.W.subIn K (.ref A) (.ref C) else none) else none) = some r
  rw [if_pos e1, if_pos e2]
  exact h4
end Vl
namespace Vl
open PySem PySem.Spec PyProof.Rows L2

/-! ### reckoning with meanings -/
/-- f from s ends well, in Q, or by an error, in E -/
def ru {α : Type} (E : String → DS → Prop) (f : M α) (s : DS) (Q : α → DS → Prop) : Prop := match f s with
  | .ok a s' => Q a s'
  | .err c s' => E c s'
  | .stuck => False
/-- no error -/
abbrev NE : String → DS → Prop := fun _ _ => False
section
variable {α β : Type} {s : DS} {env : List Slot} {mem : List MO} {E : String → DS → Prop}
theorem ru_eq {f : M α} {Q : α → DS → Prop} {a : α} {s' : DS} (h : f s = .ok a s') (q : Q a s') : ru E f s Q := by unfold ru; rw [h]; exact q
theorem ru_err {f : M α} {Q : α → DS → Prop} {c : String} {s' : DS} (h : f s = .err c s') (q : E c s') : ru E f s Q := by unfold ru; rw [h]; exact q
theorem ru_get {f : M α} {Q : α → DS → Prop} (h : ru NE f s Q) : ∃ a s', f s = .ok a s' ∧ Q a s' := by
  unfold ru at h
  cases e : f s with
  | ok a s' => rw [e] at h; exact ⟨a, s', rfl, h⟩
  | err c s' => rw [e] at h; exact h.elim
  | stuck => rw [e] at h; exact h.elim
theorem ru_cases {f : M α} {Q : α → DS → Prop} (h : ru E f s Q) : (∃ a s', f s = .ok a s' ∧ Q a s') ∨ ∃ c s', f s = .err c s' ∧ E c s' := by
  unfold ru at h
  cases e : f s with
  | ok a s' => rw [e] at h; exact .inl ⟨a, s', rfl, h⟩
  | err c s' => rw [e] at h; exact .inr ⟨c, s', rfl, h⟩
  | stuck => rw [e] at h; exact h.elim
theorem ru_mono {f : M α} {Q Q' : α → DS → Prop} (h : ru E f s Q) (k : ∀ a s', Q a s' → Q' a s') : ru E f s Q' := by
  rcases ru_cases h with ⟨a, s', e, q⟩ | ⟨c, s', e, q⟩
  · exact ru_eq e (k a s' q)
  · exact ru_err e q
theorem ru_monoE {f : M α} {E' : String → DS → Prop} {Q Q' : α → DS → Prop} (h : ru E f s Q) (k : ∀ a s', Q a s' → Q' a s') (k' : ∀ a s', E a s' → E' a s') : ru E' f s Q' := by
  rcases ru_cases h with ⟨a, s', e, q⟩ | ⟨c, s', e, q⟩
  · exact ru_eq e (k a s' q)
  · exact ru_err e (k' c s' q)
@[simp] theorem ru_bnd {f : M α} {g : α → M β} {Q : β → DS → Prop} : ru E (bnd f g) s Q ↔ ru E f s fun a s' => ru E (g a) s' Q := by
  unfold ru bnd
  cases f s <;> rfl
@[simp] theorem ru_rtn {a : α} {Q : α → DS → Prop} : ru E (rtn a) s Q ↔ Q a s := Iff.rfl
@[simp] theorem ru_opt_some {a : α} {Q : α → DS → Prop} : ru E (opt (some a)) s Q ↔ Q a s := Iff.rfl
@[simp] theorem ru_opt_none {Q : α → DS → Prop} : ru E (opt (none : Option α)) s Q ↔ False := Iff.rfl
theorem ru_opt {o : Option α} {Q : α → DS → Prop} {a : α} (h : o = some a) : ru E (opt o) s Q ↔ Q a s := by subst h; rfl
@[simp] theorem ru_stuck {Q : α → DS → Prop} : ru E (fun _ => R.stuck) s Q ↔ False := Iff.rfl
/-- a name's value by the slot -/
def slotV (env : List Slot) (i : Nat) (Q : D → List Slot → Prop) : Prop := match env[i]? with
  | some (.val d) => Q d env
  | some .un => False
  | some sl => Q sl.shut (env.set i (.val sl.shut))
  | none => False
@[simp] theorem ru_var {i : Nat} {Q : D → DS → Prop} : ru E (varM i) ⟨env, mem⟩ Q ↔ slotV env i fun d e => Q d ⟨e, mem⟩ := by
  unfold ru varM slotV
  dsimp only
  cases h : env[i]? with
  | none => exact Iff.rfl
  | some sl => cases sl <;> exact Iff.rfl
@[simp] theorem slotV_val0 {d : D} {r : List Slot} {Q : D → List Slot → Prop} : slotV (.val d :: r) 0 Q ↔ Q d (.val d :: r) := Iff.rfl
@[simp] theorem slotV_own0 {d : List D} {r : List Slot} {Q : D → List Slot → Prop} : slotV (.own d :: r) 0 Q ↔ Q (.lst d) (.val (.lst d) :: r) := Iff.rfl
@[simp] theorem slotV_succ {x : Slot} {r : List Slot} {i : Nat} {Q : D → List Slot → Prop} : slotV (x :: r) (i + 1) Q ↔ slotV r i fun d e => Q d (x :: e) := by
  unfold slotV
  simp only [List.getElem?_cons_succ, List.set_cons_succ]
@[simp] theorem ru_binM {g : D → D → Option D} {fa fb : M D} {Q : D → DS → Prop} : ru E (binM g fa fb) s Q ↔ ru E fa s fun x s1 => ru E fb s1 fun y s2 => ru E (opt (g x y)) s2 Q := by
  unfold binM; simp only [ru_bnd]
@[simp] theorem ru_unM {g : D → Option D} {fa : M D} {Q : D → DS → Prop} : ru E (unM g fa) s Q ↔ ru E fa s fun x s1 => ru E (opt (g x)) s1 Q := by
  unfold unM; simp only [ru_bnd]
@[simp] theorem ru_tst {f : M D} {Q : Bool → DS → Prop} : ru E (tstM f) s Q ↔ ru E f s fun d s1 => ru E (opt (asB d)) s1 Q := by unfold tstM; simp only [ru_bnd]
@[simp] theorem ru_tru {f : M D} {Q : Bool → DS → Prop} : ru E (truM f) s Q ↔ ru E f s fun d s1 => ru E (opt (truD d)) s1 Q := by unfold truM; simp only [ru_bnd]
@[simp] theorem ru_ite {c : Prop} [Decidable c] {f g : M α} {Q : α → DS → Prop} : ru E (if c then f else g) s Q ↔ if c then ru E f s Q else ru E g s Q := by split <;> rfl
@[simp] theorem ru_and {f g : M Bool} {Q : Bool → DS → Prop} : ru E (andM f g) s Q ↔ ru E f s fun k s1 => if k = true then ru E g s1 Q else Q false s1 := by unfold andM; simp
@[simp] theorem ru_or {f g : M Bool} {Q : Bool → DS → Prop} : ru E (orM f g) s Q ↔ ru E f s fun k s1 => if k = true then Q true s1 else ru E g s1 Q := by unfold orM; simp
@[simp] theorem ru_not {f : M Bool} {Q : Bool → DS → Prop} : ru E (notM f) s Q ↔ ru E f s fun k s1 => Q (!k) s1 := by unfold notM; simp
@[simp] theorem ru_andV {f g : M D} {Q : D → DS → Prop} : ru E (andV f g) s Q ↔ ru E f s fun d s1 => ru E (opt (asB d)) s1 fun k s2 => if k = true then ru E g s2 Q else Q (.bl false) s2 := by unfold andV; simp
@[simp] theorem ru_orV {f g : M D} {Q : D → DS → Prop} : ru E (orV f g) s Q ↔ ru E f s fun d s1 => ru E (opt (asB d)) s1 fun k s2 => if k = true then Q (.bl true) s2 else ru E g s2 Q := by unfold orV; simp
@[simp] theorem ru_notV {f : M D} {Q : D → DS → Prop} : ru E (notV f) s Q ↔ ru E f s fun d s1 => ru E (opt (asB d)) s1 fun k s2 => Q (.bl (!k)) s2 := by unfold notV; simp
@[simp] theorem ru_iteM {t : M Bool} {f g : M α} {Q : α → DS → Prop} : ru E (iteM t f g) s Q ↔ ru E t s fun k s1 => if k = true then ru E f s1 Q else ru E g s1 Q := by unfold iteM; simp
@[simp] theorem ru_cons {f : M D} {g : M (List D)} {Q : List D → DS → Prop} : ru E (consM f g) s Q ↔ ru E f s fun d s1 => ru E g s1 fun ds s2 => Q (d :: ds) s2 := by unfold consM; simp
@[simp] theorem ru_tup {f : M (List D)} {Q : D → DS → Prop} : ru E (tupM f) s Q ↔ ru E f s fun ds s1 => ds.length ≤ 1000 ∧ Q (.tup ds) s1 := by unfold tupM; simp
@[simp] theorem ru_lst {f : M (List D)} {Q : List D → DS → Prop} : ru E (lstM f) s Q ↔ ru E f s fun ds s1 => ds.length ≤ 1000 ∧ Q ds s1 := by unfold lstM; simp
@[simp] theorem ru_shut {f : M (List D)} {Q : D → DS → Prop} : ru E (shutM f) s Q ↔ ru E f s fun ds s1 => Q (.lst ds) s1 := by unfold shutM; simp
@[simp] theorem ru_set {i : Nat} {d : D} {Q : Unit → DS → Prop} : ru E (setM i d) s Q ↔ Q () ⟨s.env.set i (.val d), s.mem⟩ := Iff.rfl
@[simp] theorem ru_sets {f : D → M Unit} {g : List D → M Unit} {d : D} {ds : List D} {Q : Unit → DS → Prop} : ru E (setsM f g (d :: ds)) s Q ↔ ru E (f d) s fun _ s1 => ru E (g ds) s1 Q := by unfold setsM; simp
@[simp] theorem ru_sets0 {f : D → M Unit} {g : List D → M Unit} {Q : Unit → DS → Prop} : ru E (setsM f g []) s Q ↔ False := Iff.rfl
@[simp] theorem ru_end0 {Q : Unit → DS → Prop} : ru E (endM []) s Q ↔ Q () s := Iff.rfl
@[simp] theorem ru_end1 {d : D} {ds : List D} {Q : Unit → DS → Prop} : ru E (endM (d :: ds)) s Q ↔ False := Iff.rfl
@[simp] theorem ru_untup {n : Nat} {f : List D → M Unit} {ds : List D} {Q : Unit → DS → Prop} : ru E (untupM n f (.tup ds)) s Q ↔ ds.length = n ∧ ru E (f ds) s Q := by unfold untupM; simp
@[simp] theorem ru_seq {f g : M Out} {Q : Out → DS → Prop} : ru E (seqM f g) s Q ↔ ru E f s fun o s1 => match o with
    | .nx => ru E g s1 Q
    | .bk => Q .bk s1
    | .ct => Q .ct s1
    | .rt d => Q (.rt d) s1 := by
  unfold seqM
  rw [ru_bnd]
  constructor
  · intro h; exact ru_mono h fun o s' q => by cases o <;> exact q
  · intro h; exact ru_mono h fun o s' q => by cases o <;> exact q
@[simp] theorem ru_ret {f : M D} {Q : Out → DS → Prop} : ru E (retM f) s Q ↔ ru E f s fun d s1 => Q (.rt d) s1 := by unfold retM; simp
@[simp] theorem ru_drop {f : M D} {Q : Out → DS → Prop} : ru E (dropM f) s Q ↔ ru E f s fun _ s1 => Q .nx s1 := by unfold dropM; simp
@[simp] theorem ru_if {t : M Bool} {f g : M Out} {Q : Out → DS → Prop} : ru E (ifM t f g) s Q ↔ ru E t s fun k s1 => if k = true then ru E f s1 Q else ru E g s1 Q := by unfold ifM; simp
@[simp] theorem ru_asg {f : M D} {g : D → M Unit} {Q : Out → DS → Prop} : ru E (asgM f g) s Q ↔ ru E f s fun d s1 => ru E (g d) s1 fun _ s2 => Q .nx s2 := by unfold asgM; simp
@[simp] theorem ru_own {i : Nat} {f : M (List D)} {Q : Out → DS → Prop} : ru E (ownM i f) s Q ↔ ru E f s fun ds s1 => Q .nx ⟨s1.env.set i (.own ds), s1.mem⟩ := by
  unfold ownM; rw [ru_bnd]; exact Iff.rfl
@[simp] theorem ru_mem {i : Nat} {f : M (List D)} {Q : Out → DS → Prop} : ru E (memM i f) s Q ↔ ru E f s fun ds s1 => Q .nx ⟨s1.env.set i (.val (.mut s1.mem.length)), s1.mem ++ [.lst ds]⟩ := by
  unfold memM; rw [ru_bnd]; exact Iff.rfl
@[simp] theorem ru_par {i j : Nat} {f : M (List D)} {Q : Out → DS → Prop} : ru E (parM i j f) s Q ↔ ru E f s fun ds s1 => ∃ a b, ds = [a, b] ∧ Q .nx ⟨(s1.env.set i (.val a)).set j (.val b), s1.mem⟩ := by
  unfold parM
  rw [ru_bnd]
  constructor
  · intro h
    refine ru_mono h fun ds s1 q => ?_
    split at q
    · exact ⟨_, _, rfl, by simpa using q⟩
    · exact q.elim
  · intro h
    refine ru_mono h fun ds s1 ⟨a, b, e, q⟩ => ?_
    subst e
    simpa using q
@[simp] theorem ru_aug {g : D → D → Option D} {i : Nat} {f : M D} {Q : Out → DS → Prop} : ru E (augM g i f) s Q ↔ ru E (varM i) s fun x s1 => ru E f s1 fun y s2 => ru E (opt (g x y)) s2 fun z s3 => Q .nx ⟨s3.env.set i (.val z), s3.mem⟩ := by
  unfold augM; simp only [ru_bnd, ru_rtn]; exact Iff.rfl
/-- a call's answer is well, in Q, or an error, in E -/
def frQ (E : String → List MO → Prop) (r : FR) (Q : D → List MO → Prop) : Prop := match r with
  | .ok d m => Q d m
  | .err c m => E c m
  | .stuck => False
@[simp] theorem frQ_ok {E : String → List MO → Prop} {d : D} {m : List MO} {Q : D → List MO → Prop} : frQ E (.ok d m) Q ↔ Q d m := Iff.rfl
@[simp] theorem frQ_err {E : String → List MO → Prop} {c : String} {m : List MO} {Q : D → List MO → Prop} : frQ E (.err c m) Q ↔ E c m := Iff.rfl
@[simp] theorem ru_call {den : Den} {fs : M (List D)} {Q : D → DS → Prop} : ru E (callM den fs) s Q ↔ ru E fs s fun args s1 => frQ (fun c m => E c ⟨s1.env, m⟩) (den args s1.mem) fun d m => Q d ⟨s1.env, m⟩ := by
  unfold callM
  rw [ru_bnd]
  have e : ∀ (args : List D) (s1 : DS), ru E (fun s => match den args s.mem with
    | .ok d m => .ok d { s with mem := m }
    | .err e m => .err e { s with mem := m }
    | .stuck => .stuck) s1 Q ↔ frQ (fun c m => E c ⟨s1.env, m⟩) (den args s1.mem) fun d m => Q d ⟨s1.env, m⟩ := fun args s1 => by
    unfold ru frQ
    dsimp only
    cases den args s1.mem <;> exact Iff.rfl
  constructor
  · intro h; exact ru_mono h fun args s1 q => (e args s1).mp q
  · intro h; exact ru_mono h fun args s1 q => (e args s1).mpr q
@[simp] theorem ru_peek {i : Nat} {Q : D → DS → Prop} : ru E (peekM i) s Q ↔ ∃ d, peekD i s = some d ∧ Q d s := by
  have e : ru E (peekM i) s Q ↔ ru E (opt (peekD i s)) s Q := Iff.rfl
  rw [e]
  cases h : peekD i s <;> simp
@[simp] theorem ru_look {f : M D} {Q : D → DS → Prop} : ru E (lookM f) s Q ↔ ru E f s fun d s1 => Q (lookD s1 d) s1 := by unfold lookM; rw [ru_bnd]; exact Iff.rfl
@[simp] theorem ru_look1 {g : D → Option D} {f : M D} {Q : D → DS → Prop} : ru E (lookM1 g f) s Q ↔ ru E f s fun d s1 => ru E (opt (g d)) s1 Q := by unfold lookM1; simp
@[simp] theorem ru_isi {T : String} {f : M D} {Q : D → DS → Prop} : ru E (isiM T f) s Q ↔ ru E f s fun d s1 => ru E (opt (isiD T d)) s1 Q := by unfold isiM; simp
@[simp] theorem ru_ix {fa fb : M D} {Q : D → DS → Prop} : ru E (ixM fa fb) s Q ↔ ru E fa s fun x s1 => ru E fb s1 fun y s2 => ru E (opt (ixD (lookD s2 x) y)) s2 Q := by
  unfold ixM; simp only [ru_bnd]; exact Iff.rfl
theorem ru_ixv {i : Nat} {fb : M D} {Q : D → DS → Prop} {sl : Slot} (h : s.env[i]? = some sl) (hu : sl ≠ .un) : ru E (ixvM i fb) s Q ↔ ru E fb s fun y s2 => ru E (opt ((peekD i s2).bind fun x => ixD x y)) s2 Q := by
  have e : ixvM i fb s = (bnd fb fun y s => opt ((peekD i s).bind fun x => ixD x y) s) s := by
    unfold ixvM
    rw [h]
    cases sl with
    | un => exact absurd rfl hu
    | _ => rfl
  have : ru E (ixvM i fb) s Q ↔ ru E (bnd fb fun y s => opt ((peekD i s).bind fun x => ixD x y) s) s Q := by unfold ru; rw [e]
  rw [this, ru_bnd]
  exact Iff.rfl
/-- the slot is known -/
def knownB : Option Slot → Bool
  | some .un => false
  | none => false
  | _ => true
@[simp] theorem ru_ixv' {i : Nat} {fb : M D} {Q : D → DS → Prop} : ru E (ixvM i fb) s Q ↔ knownB s.env[i]? = true ∧ ru E fb s fun y s2 => ru E (opt ((peekD i s2).bind fun x => ixD x y)) s2 Q := by
  cases h : s.env[i]? with
  | none =>
    have : ru E (ixvM i fb) s Q ↔ False := by unfold ru ixvM; rw [h]
    rw [this]; simp [knownB]
  | some sl =>
    cases sl with
    | un =>
      have : ru E (ixvM i fb) s Q ↔ False := by unfold ru ixvM; rw [h]
      rw [this]; simp [knownB]
    | val d => rw [ru_ixv h (by intro z; cases z)]; simp [knownB]
    | own d => rw [ru_ixv h (by intro z; cases z)]; simp [knownB]
    | ownK k d => rw [ru_ixv h (by intro z; cases z)]; simp [knownB]
    | ownT k d => rw [ru_ixv h (by intro z; cases z)]; simp [knownB]
/-! what is seen -/
@[simp] theorem peekD_val0 {d : D} {r : List Slot} : peekD 0 ⟨.val d :: r, mem⟩ = some (lookD ⟨.val d :: r, mem⟩ d) := rfl
@[simp] theorem peekD_own0 {d : List D} {r : List Slot} : peekD 0 ⟨.own d :: r, mem⟩ = some (.lst d) := rfl
theorem lookD_env {e e' : List Slot} {d : D} : lookD ⟨e, mem⟩ d = lookD ⟨e', mem⟩ d := by cases d <;> rfl
@[simp] theorem peekD_succ {x : Slot} {r : List Slot} {i : Nat} : peekD (i + 1) ⟨x :: r, mem⟩ = peekD i ⟨r, mem⟩ := by
  unfold peekD
  simp only [List.getElem?_cons_succ]
  cases h : r[i]? with
  | none => rfl
  | some sl => cases sl <;> first | rfl | (simp only []; rw [lookD_env])
@[simp] theorem lookD_non : lookD s .non = .non := rfl
@[simp] theorem lookD_bl {b : Bool} : lookD s (.bl b) = .bl b := rfl
@[simp] theorem lookD_int {i : Int} : lookD s (.int i) = .int i := rfl
@[simp] theorem lookD_str {x : Str} : lookD s (.str x) = .str x := rfl
@[simp] theorem lookD_lst {xs : List D} : lookD s (.lst xs) = .lst xs := rfl
@[simp] theorem lookD_frl {xs : List D} : lookD s (.frl xs) = .frl xs := rfl
@[simp] theorem lookD_tup {xs : List D} : lookD s (.tup xs) = .tup xs := rfl
@[simp] theorem lookD_mut0 {e : List Slot} {o : MO} {r : List MO} : lookD ⟨e, o :: r⟩ (.mut 0) = o.shut := rfl
@[simp] theorem shut_lst {xs : List D} : (MO.lst xs).shut = .lst xs := rfl
@[simp] theorem knownB_val {d : D} : knownB (some (.val d)) = true := rfl
@[simp] theorem knownB_own {d : List D} : knownB (some (.own d)) = true := rfl
/-! operations on ints -/
@[simp] theorem addD_ii {i j : Int} : addD (.int i) (.int j) = some (.int (i + j)) := rfl
@[simp] theorem addI_ii {i j : Int} : addI (.int i) (.int j) = some (.int (i + j)) := rfl
@[simp] theorem subD_ii {i j : Int} : subD (.int i) (.int j) = some (.int (i - j)) := rfl
@[simp] theorem negD_i {i : Int} : negD (.int i) = some (.int (-i)) := rfl
theorem mulD_ii {i j : Int} (h : i.natAbs < 18446744073709551616 ∨ j.natAbs < 18446744073709551616) : mulD (.int i) (.int j) = some (.int (i * j)) := if_pos h
theorem fdivD_ii {i j : Int} (h : 0 < j) (h2 : j < 1073741824) : fdivD (.int i) (.int j) = some (.int (i / j)) := by
  have e : fdivD (.int i) (.int j) = if j ≠ 0 ∧ j.natAbs < 1073741824 then some (.int (i.fdiv j)) else none := rfl
  rw [e, if_pos ⟨by omega, by omega⟩, Int.fdiv_eq_ediv_of_nonneg _ (by omega)]
theorem modD_ii {i j : Int} (h : 0 < j) : modD (.int i) (.int j) = some (.int (i % j)) := by
  have e : modD (.int i) (.int j) = if j ≠ 0 then some (.int (i.fmod j)) else none := rfl
  rw [e, if_pos (by omega), Int.fmod_eq_emod_of_nonneg _ (by omega)]
@[simp] theorem asB_bl {b : Bool} : asB (.bl b) = some b := rfl
@[simp] theorem truD_bl {b : Bool} : truD (.bl b) = some b := rfl
@[simp] theorem truD_int {i : Int} : truD (.int i) = some (i != 0) := rfl
@[simp] theorem truD_non : truD .non = some false := rfl
@[simp] theorem truD_lst {xs : List D} : truD (.lst xs) = some (!xs.isEmpty) := rfl
@[simp] theorem truD_frl {xs : List D} : truD (.frl xs) = some (!xs.isEmpty) := rfl
@[simp] theorem truD_tup {xs : List D} : truD (.tup xs) = some (!xs.isEmpty) := rfl
@[simp] theorem eqD_ii {i j : Int} : eqD (.int i) (.int j) = some (.bl (i == j)) := rfl
@[simp] theorem neD_ii {i j : Int} : neD (.int i) (.int j) = some (.bl (!(i == j))) := rfl
@[simp] theorem eqD_ss {i j : Str} : eqD (.str i) (.str j) = some (.bl (i == j)) := rfl
@[simp] theorem neD_ss {i j : Str} : neD (.str i) (.str j) = some (.bl (!(i == j))) := rfl
@[simp] theorem ltV_ii {i j : Int} : ltV (.int i) (.int j) = some (.bl (decide (i < j))) := by
  have : ltV (.int i) (.int j) = some (.bl (PySem.W.dataLt (.int i) (.int j))) := rfl
  rw [this, PySem.W.dataLt_int]
@[simp] theorem gtV_ii {i j : Int} : gtV (.int i) (.int j) = some (.bl (decide (j < i))) := by
  have : gtV (.int i) (.int j) = some (.bl (PySem.W.dataLt (.int j) (.int i))) := rfl
  rw [this, PySem.W.dataLt_int]
@[simp] theorem leV_ii {i j : Int} : leV (.int i) (.int j) = some (.bl (decide (i ≤ j))) := by
  have : leV (.int i) (.int j) = some (.bl (!PySem.W.dataLt (.int j) (.int i))) := rfl
  rw [this, PySem.W.dataLt_int]
  by_cases h : j < i
  · first | (simp [h]; done) | (simp [h]; omega)
  · first | (simp [h]; done) | (simp [h]; omega)
@[simp] theorem geV_ii {i j : Int} : geV (.int i) (.int j) = some (.bl (decide (j ≤ i))) := by
  have : geV (.int i) (.int j) = some (.bl (!PySem.W.dataLt (.int i) (.int j))) := rfl
  rw [this, PySem.W.dataLt_int]
  by_cases h : i < j
  · first | (simp [h]; done) | (simp [h]; omega)
  · first | (simp [h]; done) | (simp [h]; omega)
@[simp] theorem isNV_non {a : D} : isNV a .non = some (.bl (isNon a)) := rfl
@[simp] theorem notNV_non {a : D} : notNV a .non = some (.bl (!isNon a)) := rfl
@[simp] theorem lenD_lst {xs : List D} : lenD (.lst xs) = some (.int xs.length) := rfl
@[simp] theorem lenD_frl {xs : List D} : lenD (.frl xs) = some (.int xs.length) := rfl
@[simp] theorem lenD_tup {xs : List D} : lenD (.tup xs) = some (.int xs.length) := rfl
theorem lenD_str {z : Str} (h : z.length ≤ 16777216) : lenD (.str z) = some (.int z.length) := if_pos h
/-! errors -/
@[simp] theorem ru_raise {nm : String} {Q : Out → DS → Prop} : ru E (raiseM nm) s Q ↔ E nm s := Iff.rfl
theorem ru_noErr {f : M α} {Q : α → DS → Prop} (h : ru NE f s Q) : ru E (fun s => noErr (f s)) s Q := by
  obtain ⟨a, s', e, q⟩ := ru_get h
  exact ru_eq (by show noErr (f s) = _; rw [e]; rfl) q
theorem ru_try {L : List String} {f : M Out} {hs : List (String × M Out)} {Q : Out → DS → Prop} (h : ru (fun c s' => c ∈ L ∧ ru E (handM c hs) s' Q) f s Q) : ru E (tryM L f hs) s Q := by
  rcases ru_cases h with ⟨a, s', e, q⟩ | ⟨c, s', e, q⟩
  · exact ru_eq (by unfold tryM; rw [e]) q
  · have e2 : tryM L f hs s = handM c hs s' := by unfold tryM; rw [e]; exact if_pos q.1
    unfold ru
    rw [e2]
    exact q.2
theorem ru_hand {c : String} {g : M Out} {r : List (String × M Out)} {Q : Out → DS → Prop} (h : ru NE g s Q) : ru E (handM c ((c, g) :: r)) s Q := by
  have e : handM c ((c, g) :: r) = fun s => noErr (g s) := if_pos rfl
  rw [e]
  exact ru_noErr h
theorem ru_hand2 {c c' : String} (hc : c ≠ c') {g : M Out} {r : List (String × M Out)} {Q : Out → DS → Prop} (h : ru E (handM c r) s Q) : ru E (handM c ((c', g) :: r)) s Q := by
  have e : handM c ((c', g) :: r) = handM c r := if_neg hc
  rw [e]; exact h

/-! loops -/
theorem ru_for {fi : M (List D)} {g : D → M Unit} {b : M Out} {Q : Out → DS → Prop} : ru E (forM fi g b) s Q ↔ ru E fi s fun items s1 => ru E (forL g b items) s1 Q := by unfold forM; simp
@[simp] theorem ru_forL0 {g : D → M Unit} {b : M Out} {Q : Out → DS → Prop} : ru E (forL g b []) s Q ↔ Q .nx s := Iff.rfl
theorem ru_forL1 {g : D → M Unit} {b : M Out} {d : D} {r : List D} {Q : Out → DS → Prop} : ru E (forL g b (d :: r)) s Q ↔ ru E (g d) s fun _ s1 => ru E b s1 fun o s2 => match o with
    | .nx => ru E (forL g b r) s2 Q
    | .ct => ru E (forL g b r) s2 Q
    | .bk => Q .nx s2
    | .rt v => Q (.rt v) s2 := by
  have e : forL g b (d :: r) = bnd (g d) fun _ => bnd b fun o => match o with
    | .nx => forL g b r
    | .ct => forL g b r
    | .bk => rtn .nx
    | .rt v => rtn (.rt v) := rfl
  rw [e, ru_bnd]
  constructor
  · intro h
    refine ru_mono h fun _ s1 q => ?_
    rw [ru_bnd] at q
    exact ru_mono q fun o s2 q => by cases o <;> exact q
  · intro h
    refine ru_mono h fun _ s1 q => ?_
    rw [ru_bnd]
    exact ru_mono q fun o s2 q => by cases o <;> exact q
/-- what a loop's body is to leave -/
def stepQ (I : DS → Prop) (Q : Out → DS → Prop) (o : Out) (s : DS) : Prop := match o with
  | .nx => I s
  | .ct => I s
  | .bk => Q .nx s
  | .rt v => Q (.rt v) s
@[simp] theorem stepQ_nx {I : DS → Prop} {Q : Out → DS → Prop} : stepQ I Q .nx s ↔ I s := Iff.rfl
@[simp] theorem stepQ_ct {I : DS → Prop} {Q : Out → DS → Prop} : stepQ I Q .ct s ↔ I s := Iff.rfl
@[simp] theorem stepQ_bk {I : DS → Prop} {Q : Out → DS → Prop} : stepQ I Q .bk s ↔ Q .nx s := Iff.rfl
@[simp] theorem stepQ_rt {I : DS → Prop} {Q : Out → DS → Prop} {v : D} : stepQ I Q (.rt v) s ↔ Q (.rt v) s := Iff.rfl
theorem ru_forI {g : D → M Unit} {b : M Out} {items : List D} {Q : Out → DS → Prop} (I : Nat → DS → Prop) (h0 : I 0 s) (step : ∀ i d s, items[i]? = some d → I i s → ru E (g d) s fun _ s1 => ru E b s1 (stepQ (I (i + 1)) Q))
    (hd : ∀ s, I items.length s → Q .nx s) : ru E (forL g b items) s Q := by
  have : ∀ (r : List D) (k : Nat) (s : DS), items.drop k = r → k ≤ items.length → I k s → ru E (forL g b r) s Q := by
    intro r
    induction r with
    | nil =>
      intro k s e hk hi
      have : items.length ≤ k := List.drop_eq_nil_iff.mp e
      have : k = items.length := by omega
      subst this
      exact hd s hi
    | cons d r ih =>
      intro k s e hk hi
      rw [ru_forL1]
      have e1 : items[k]? = some d := by
        have := congrArg (·[0]?) e
        simpa using this
      have hlt : k < items.length := (List.getElem?_eq_some_iff.mp e1).1
      have e2 : items.drop (k + 1) = r := by
        rw [← List.drop_drop, e]; rfl
      refine ru_mono (step k d s e1 hi) fun _ s1 q => ru_mono q fun o s2 q => ?_
      cases o with
      | nx => exact ih (k + 1) s2 e2 hlt q
      | ct => exact ih (k + 1) s2 e2 hlt q
      | bk => exact q
      | rt v => exact q
  exact this items 0 s rfl (Nat.zero_le _) h0
theorem ru_whileN {t : M Bool} {b : M Out} {Q : Out → DS → Prop} (I : DS → Prop) (mu : DS → Nat) (step : ∀ s, I s → ru E t s fun k s1 => if k = true then ru E b s1 (stepQ (fun s2 => I s2 ∧ mu s2 < mu s) Q) else Q .nx s1) :
    ∀ (n : Nat) (s : DS), I s → mu s < n → ru E (whileN t b n) s Q := by
  intro n
  induction n with
  | zero => intro s _ h; omega
  | succ n ih =>
    intro s hi hn
    have e : whileN t b (n + 1) = bnd t fun k => if k = true then bnd b fun o => match o with
      | .nx => whileN t b n
      | .ct => whileN t b n
      | .bk => rtn .nx
      | .rt v => rtn (.rt v)
      else rtn .nx := rfl
    rw [e, ru_bnd]
    refine ru_mono (step s hi) fun k s1 q => ?_
    cases k with
    | true =>
      simp only [if_true] at q ⊢
      rw [ru_bnd]
      refine ru_mono q fun o s2 q => ?_
      cases o with
      | nx => exact ih s2 q.1 (by have := q.2; omega)
      | ct => exact ih s2 q.1 (by have := q.2; omega)
      | bk => exact q
      | rt v => exact q
    | false => simpa using q
theorem ru_while {t : M Bool} {b : M Out} {Q : Out → DS → Prop} (I : DS → Prop) (mu : DS → Nat) (h0 : I s) (step : ∀ s, I s → ru E t s fun k s1 => if k = true then ru E b s1 (stepQ (fun s2 => I s2 ∧ mu s2 < mu s) Q) else Q .nx s1) : ru E (whileM t b) s Q := by
  have h := ru_whileN I mu step (mu s + 1) s h0 (Nat.lt_succ_self _)
  have hs : whileN t b (mu s + 1) s ≠ .stuck := fun z => by unfold ru at h; rw [z] at h; exact h
  have e := whileM_of (mu s + 1) hs
  unfold ru at h ⊢
  rw [e]
  exact h
/-! comprehensions -/
theorem ru_comp {vs : List Nat} {fi : M (List D)} {g : D → M Unit} {t : M Bool} {el : M D} {Q : List D → DS → Prop} (h : ru E fi s fun items s1 => anyOwn vs s1.env = false ∧ items.length ≤ 1000000 ∧ ru NE (lcL vs g t el items []) s1 fun acc s2 => Q acc ⟨restE s1.env s2.env vs, s2.mem⟩) : ru E (compM vs fi g t el) s Q := by
  unfold compM
  rw [ru_bnd]
  refine ru_mono h fun items s1 ⟨h1, h2, h3⟩ => ?_
  obtain ⟨acc, s2, e, q⟩ := ru_get h3
  refine ru_eq (a := acc) (s' := ⟨restE s1.env s2.env vs, s2.mem⟩) ?_ q
  rw [if_pos ⟨h1, h2⟩, e]
  rfl
@[simp] theorem ru_lc0 {vs : List Nat} {g : D → M Unit} {t : M Bool} {el : M D} {acc : List D} {Q : List D → DS → Prop} : ru E (lcL vs g t el [] acc) s Q ↔ Q acc (wp vs s) := Iff.rfl
theorem ru_lc1 {vs : List Nat} {g : D → M Unit} {t : M Bool} {el : M D} {d : D} {r acc : List D} {Q : List D → DS → Prop} : ru E (lcL vs g t el (d :: r) acc) s Q ↔ ru E (g d) (wp vs s) fun _ s1 => ru E t s1 fun k s2 => if k = true then ru E el s2 fun y s3 => ru E (lcL vs g t el r (acc ++ [y])) s3 Q else ru E (lcL vs g t el r acc) s2 Q := by
  have e : lcL vs g t el (d :: r) acc = fun s => (bnd (g d) fun _ => bnd t fun k => if k = true then bnd el fun y => lcL vs g t el r (acc ++ [y]) else lcL vs g t el r acc) (wp vs s) := by
    funext s
    show ((g d (wp vs s)).bind fun _ s1 => (t s1).bind fun k s2 => if k = true then (el s2).bind fun y s3 => lcL vs g t el r (acc ++ [y]) s3 else lcL vs g t el r acc s2) = _
    unfold bnd
    congr 1
    funext _ s1
    congr 1
    funext k s2
    cases k <;> rfl
  rw [e]
  have : ∀ Q, ru E (fun s => (bnd (g d) fun _ => bnd t fun k => if k = true then bnd el fun y => lcL vs g t el r (acc ++ [y]) else lcL vs g t el r acc) (wp vs s)) s Q ↔ ru E (bnd (g d) fun _ => bnd t fun k => if k = true then bnd el fun y => lcL vs g t el r (acc ++ [y]) else lcL vs g t el r acc) (wp vs s) Q := fun Q => Iff.rfl
  rw [this]
  simp
/-- with what has been gathered and the shared objects; the names stay -/
theorem ru_lcI {vs : List Nat} {g : D → M Unit} {t : M Bool} {el : M D} {items : List D} {Q : List D → DS → Prop} (I : Nat → List D → List MO → Prop) (h0 : I 0 [] s.mem)
    (step : ∀ i d acc mem, items[i]? = some d → I i acc mem → ru E (g d) ⟨wipeE s.env vs, mem⟩ fun _ s1 => ru E t s1 fun k s2 => if k = true then ru E el s2 fun y s3 => wipeE s3.env vs = wipeE s.env vs ∧ I (i + 1) (acc ++ [y]) s3.mem else wipeE s2.env vs = wipeE s.env vs ∧ I (i + 1) acc s2.mem)
    (hd : ∀ acc mem, I items.length acc mem → Q acc ⟨wipeE s.env vs, mem⟩) : ru E (lcL vs g t el items []) s Q := by
  have : ∀ (r : List D) (k : Nat) (acc : List D) (s1 : DS), items.drop k = r → k ≤ items.length → wipeE s1.env vs = wipeE s.env vs → I k acc s1.mem → ru E (lcL vs g t el r acc) s1 Q := by
    intro r
    induction r with
    | nil =>
      intro k acc s1 e hk he hi
      have : items.length ≤ k := List.drop_eq_nil_iff.mp e
      have : k = items.length := by omega
      subst this
      rw [ru_lc0]
      unfold wp
      rw [he]
      exact hd acc s1.mem hi
    | cons d r ih =>
      intro k acc s1 e hk he hi
      rw [ru_lc1]
      have e1 : items[k]? = some d := by
        have := congrArg (·[0]?) e
        simpa using this
      have hlt : k < items.length := (List.getElem?_eq_some_iff.mp e1).1
      have e2 : items.drop (k + 1) = r := by
        rw [← List.drop_drop, e]; rfl
      unfold wp
      rw [he]
      refine ru_mono (step k d acc s1.mem e1 hi) fun _ s2 q => ru_mono q fun b s3 q => ?_
      cases b with
      | true =>
        simp only [if_true] at q ⊢
        exact ru_mono q fun y s4 q => ih (k + 1) _ s4 e2 hlt q.1 q.2
      | false =>
        simp only [Bool.false_eq_true, if_false] at q ⊢
        exact ih (k + 1) _ s3 e2 hlt q.1 q.2
  exact this items 0 [] s rfl (Nat.zero_le _) rfl h0
/-- nothing but the list is made -/
theorem ru_lcF {vs : List Nat} {g : D → M Unit} {t : M Bool} {el : M D} {items : List D} {Q : List D → DS → Prop} (f : D → Option D)
    (step : ∀ d, d ∈ items → ru E (g d) ⟨wipeE s.env vs, s.mem⟩ fun _ s1 => ru E t s1 fun k s2 => if k = true then ru E el s2 fun y s3 => wipeE s3.env vs = wipeE s.env vs ∧ f d = some y ∧ s3.mem = s.mem else wipeE s2.env vs = wipeE s.env vs ∧ f d = none ∧ s2.mem = s.mem)
    (hd : Q (items.filterMap f) ⟨wipeE s.env vs, s.mem⟩) : ru E (lcL vs g t el items []) s Q := by
  refine ru_lcI (fun i acc mem => acc = (items.take i).filterMap f ∧ mem = s.mem) ⟨rfl, rfl⟩ (fun i d acc mem hi ⟨ha, hm⟩ => ?_) (fun acc mem ⟨ha, hm⟩ => ?_)
  · subst ha hm
    have ht : items.take (i + 1) = items.take i ++ [d] := by rw [List.take_add_one, hi]; rfl
    refine ru_mono (step d (List.mem_of_getElem? hi)) fun _ s1 q => ru_mono q fun k s2 q => ?_
    cases k with
    | true =>
      simp only [if_true] at q ⊢
      refine ru_mono q fun y s3 ⟨q1, q2, q3⟩ => ⟨q1, ?_, q3⟩
      rw [ht, List.filterMap_append]
      simp [q2]
    | false =>
      simp only [Bool.false_eq_true, if_false] at q ⊢
      obtain ⟨q1, q2, q3⟩ := q
      refine ⟨q1, ?_, q3⟩
      rw [ht, List.filterMap_append]
      simp [q2]
  · subst hm
    rw [ha, List.take_length]
    exact hd
@[simp] theorem wipeE_nil : wipeE env [] = env := rfl
@[simp] theorem wipeE_cons {v : Nat} {vs : List Nat} : wipeE env (v :: vs) = (wipeE env vs).set v .un := rfl
@[simp] theorem restE_nil {e0 : List Slot} : restE e0 env [] = env := rfl
@[simp] theorem restE_cons {e0 : List Slot} {v : Nat} {vs : List Nat} : restE e0 env (v :: vs) = (restE e0 env vs).set v (e0.getD v .un) := rfl
@[simp] theorem ru_itM {f : M D} {Q : List D → DS → Prop} : ru E (itM f) s Q ↔ ru E f s fun d s1 => ru E (opt (itemsD d)) s1 Q := by unfold itM; simp
@[simp] theorem itemsD_lst {xs : List D} : itemsD (.lst xs) = some xs := rfl
@[simp] theorem itemsD_frl {xs : List D} : itemsD (.frl xs) = some xs := rfl
@[simp] theorem itemsD_tup {xs : List D} : itemsD (.tup xs) = some xs := rfl
@[simp] theorem itemsD_str {z : Str} : itemsD (.str z) = some (z.cps.toList.map sign) := rfl
theorem rng1_int {j : Int} (h : -(2 ^ 62) ≤ j) (h2 : j < 2 ^ 62) : rng1 [.int j] = some (rngL 0 j.toNat) := if_pos (decide_eq_true ⟨h, h2⟩)
theorem rng2_int {i j : Int} (h : -(2 ^ 62) ≤ i) (h2 : i < 2 ^ 62) (h3 : -(2 ^ 62) ≤ j) (h4 : j < 2 ^ 62) : rng2 [.int i, .int j] = some (rngL i (j - i).toNat) := if_pos ⟨decide_eq_true ⟨h, h2⟩, decide_eq_true ⟨h3, h4⟩⟩
@[simp] theorem rngL_length {lo : Int} {n : Nat} : (rngL lo n).length = n := by unfold rngL; simp
theorem rngL_get {lo : Int} {n i : Nat} {d : D} (h : (rngL lo n)[i]? = some d) : i < n ∧ d = .int (lo + i) := by
  have hi : i < n := by have := (List.getElem?_eq_some_iff.mp h).1; simpa using this
  unfold rngL at h
  rw [List.getElem?_map, List.getElem?_range hi] at h
  exact ⟨hi, (Option.some.inj h).symm⟩
theorem rngL_mem {lo : Int} {n : Nat} {d : D} (h : d ∈ rngL lo n) : ∃ i, i < n ∧ d = .int (lo + (i : Nat)) := by
  obtain ⟨i, hi⟩ := List.getElem?_of_mem h
  obtain ⟨a, b⟩ := rngL_get hi
  exact ⟨i, a, b⟩
/-! the end of a def -/
theorem fn_ok {ar n : Nat} {body : M Out} {args : List D} {d : D} {m : List MO} (hl : args.length = ar) (h : ru NE body ⟨args.map .val ++ List.replicate (n - ar) .un, mem⟩ fun o s => (o = .rt d ∨ o = .nx ∧ d = .non) ∧ s.mem = m) : fnDen ar n body args mem = .ok d m := by
  obtain ⟨o, s', e, q, hm⟩ := ru_get h
  unfold fnDen
  rw [if_pos hl, e]
  rcases q with rfl | ⟨rfl, rfl⟩
  · rw [← hm]
  · rw [← hm]
theorem fn_ex {ar n : Nat} {body : M Out} {args : List D} {P : D → List MO → Prop} (hl : args.length = ar) (h : ru NE body ⟨args.map .val ++ List.replicate (n - ar) .un, mem⟩ fun o s => match o with
    | .rt d => P d s.mem
    | .nx => P .non s.mem
    | _ => False) : ∃ d m, fnDen ar n body args mem = .ok d m ∧ P d m := by
  obtain ⟨o, s', e, q⟩ := ru_get h
  unfold fnDen
  rw [if_pos hl, e]
  cases o with
  | nx => exact ⟨_, _, rfl, q⟩
  | rt d => exact ⟨_, _, rfl, q⟩
  | bk => exact q.elim
  | ct => exact q.elim
theorem fn_err {ar n : Nat} {body : M Out} {args : List D} {nm : String} {m : List MO} (hl : args.length = ar) (h : ru (fun c s => c = nm ∧ s.mem = m) body ⟨args.map .val ++ List.replicate (n - ar) .un, mem⟩ fun _ _ => False) : fnDen ar n body args mem = .err nm m := by
  rcases ru_cases h with ⟨a, s', e, q⟩ | ⟨c, s', e, q1, q2⟩
  · exact q.elim
  · unfold fnDen
    rw [if_pos hl, e, q1, ← q2]
end
end Vl
namespace Vl
open PySem PySem.Spec PyProof.Rows
/-! ### kinds of values -/
theorem kb_NoneType_int : L2.kitB "NoneType" "int" = some false := by decide +kernel
theorem kb_bool_int : L2.kitB "bool" "int" = some true := by decide +kernel
theorem kb_int_int : L2.kitB "int" "int" = some true := by decide +kernel
theorem kb_str_int : L2.kitB "str" "int" = some false := by decide +kernel
theorem kb_list_int : L2.kitB "list" "int" = some false := by decide +kernel
theorem kb_tuple_int : L2.kitB "tuple" "int" = some false := by decide +kernel
theorem kb_dict_int : L2.kitB "dict" "int" = some false := by decide +kernel
@[simp] theorem isi_non_int : isiD "int" .non = some (.bl false) := by show (L2.kitB "NoneType" "int").map D.bl = _; rw [kb_NoneType_int]; rfl
@[simp] theorem isi_bl_int {b : Bool} : isiD "int" (.bl b) = some (.bl true) := by show (L2.kitB "bool" "int").map D.bl = _; rw [kb_bool_int]; rfl
@[simp] theorem isi_int_int {i : Int} : isiD "int" (.int i) = some (.bl true) := by show (L2.kitB "int" "int").map D.bl = _; rw [kb_int_int]; rfl
@[simp] theorem isi_str_int {z : Str} : isiD "int" (.str z) = some (.bl false) := by show (L2.kitB "str" "int").map D.bl = _; rw [kb_str_int]; rfl
@[simp] theorem isi_lst_int {xs : List D} : isiD "int" (.lst xs) = some (.bl false) := by show (L2.kitB "list" "int").map D.bl = _; rw [kb_list_int]; rfl
@[simp] theorem isi_frl_int {xs : List D} : isiD "int" (.frl xs) = some (.bl false) := by show (L2.kitB "list" "int").map D.bl = _; rw [kb_list_int]; rfl
@[simp] theorem isi_tup_int {xs : List D} : isiD "int" (.tup xs) = some (.bl false) := by show (L2.kitB "tuple" "int").map D.bl = _; rw [kb_tuple_int]; rfl
@[simp] theorem isi_dK_int {ks : List L2.Key} {xs : List D} : isiD "int" (.dK ks xs) = some (.bl false) := by show (L2.kitB "dict" "int").map D.bl = _; rw [kb_dict_int]; rfl
theorem kb_NoneType_bool : L2.kitB "NoneType" "bool" = some false := by decide +kernel
theorem kb_bool_bool : L2.kitB "bool" "bool" = some true := by decide +kernel
theorem kb_int_bool : L2.kitB "int" "bool" = some false := by decide +kernel
theorem kb_str_bool : L2.kitB "str" "bool" = some false := by decide +kernel
theorem kb_list_bool : L2.kitB "list" "bool" = some false := by decide +kernel
theorem kb_tuple_bool : L2.kitB "tuple" "bool" = some false := by decide +kernel
theorem kb_dict_bool : L2.kitB "dict" "bool" = some false := by decide +kernel
@[simp] theorem isi_non_bool : isiD "bool" .non = some (.bl false) := by show (L2.kitB "NoneType" "bool").map D.bl = _; rw [kb_NoneType_bool]; rfl
@[simp] theorem isi_bl_bool {b : Bool} : isiD "bool" (.bl b) = some (.bl true) := by show (L2.kitB "bool" "bool").map D.bl = _; rw [kb_bool_bool]; rfl
@[simp] theorem isi_int_bool {i : Int} : isiD "bool" (.int i) = some (.bl false) := by show (L2.kitB "int" "bool").map D.bl = _; rw [kb_int_bool]; rfl
@[simp] theorem isi_str_bool {z : Str} : isiD "bool" (.str z) = some (.bl false) := by show (L2.kitB "str" "bool").map D.bl = _; rw [kb_str_bool]; rfl
@[simp] theorem isi_lst_bool {xs : List D} : isiD "bool" (.lst xs) = some (.bl false) := by show (L2.kitB "list" "bool").map D.bl = _; rw [kb_list_bool]; rfl
@[simp] theorem isi_frl_bool {xs : List D} : isiD "bool" (.frl xs) = some (.bl false) := by show (L2.kitB "list" "bool").map D.bl = _; rw [kb_list_bool]; rfl
@[simp] theorem isi_tup_bool {xs : List D} : isiD "bool" (.tup xs) = some (.bl false) := by show (L2.kitB "tuple" "bool").map D.bl = _; rw [kb_tuple_bool]; rfl
@[simp] theorem isi_dK_bool {ks : List L2.Key} {xs : List D} : isiD "bool" (.dK ks xs) = some (.bl false) := by show (L2.kitB "dict" "bool").map D.bl = _; rw [kb_dict_bool]; rfl
theorem kb_NoneType_str : L2.kitB "NoneType" "str" = some false := by decide +kernel
theorem kb_bool_str : L2.kitB "bool" "str" = some false := by decide +kernel
theorem kb_int_str : L2.kitB "int" "str" = some false := by decide +kernel
theorem kb_str_str : L2.kitB "str" "str" = some true := by decide +kernel
theorem kb_list_str : L2.kitB "list" "str" = some false := by decide +kernel
theorem kb_tuple_str : L2.kitB "tuple" "str" = some false := by decide +kernel
theorem kb_dict_str : L2.kitB "dict" "str" = some false := by decide +kernel
@[simp] theorem isi_non_str : isiD "str" .non = some (.bl false) := by show (L2.kitB "NoneType" "str").map D.bl = _; rw [kb_NoneType_str]; rfl
@[simp] theorem isi_bl_str {b : Bool} : isiD "str" (.bl b) = some (.bl false) := by show (L2.kitB "bool" "str").map D.bl = _; rw [kb_bool_str]; rfl
@[simp] theorem isi_int_str {i : Int} : isiD "str" (.int i) = some (.bl false) := by show (L2.kitB "int" "str").map D.bl = _; rw [kb_int_str]; rfl
@[simp] theorem isi_str_str {z : Str} : isiD "str" (.str z) = some (.bl true) := by show (L2.kitB "str" "str").map D.bl = _; rw [kb_str_str]; rfl
@[simp] theorem isi_lst_str {xs : List D} : isiD "str" (.lst xs) = some (.bl false) := by show (L2.kitB "list" "str").map D.bl = _; rw [kb_list_str]; rfl
@[simp] theorem isi_frl_str {xs : List D} : isiD "str" (.frl xs) = some (.bl false) := by show (L2.kitB "list" "str").map D.bl = _; rw [kb_list_str]; rfl
@[simp] theorem isi_tup_str {xs : List D} : isiD "str" (.tup xs) = some (.bl false) := by show (L2.kitB "tuple" "str").map D.bl = _; rw [kb_tuple_str]; rfl
@[simp] theorem isi_dK_str {ks : List L2.Key} {xs : List D} : isiD "str" (.dK ks xs) = some (.bl false) := by show (L2.kitB "dict" "str").map D.bl = _; rw [kb_dict_str]; rfl
theorem kb_NoneType_list : L2.kitB "NoneType" "list" = some false := by decide +kernel
theorem kb_bool_list : L2.kitB "bool" "list" = some false := by decide +kernel
theorem kb_int_list : L2.kitB "int" "list" = some false := by decide +kernel
theorem kb_str_list : L2.kitB "str" "list" = some false := by decide +kernel
theorem kb_list_list : L2.kitB "list" "list" = some true := by decide +kernel
theorem kb_tuple_list : L2.kitB "tuple" "list" = some false := by decide +kernel
theorem kb_dict_list : L2.kitB "dict" "list" = some false := by decide +kernel
@[simp] theorem isi_non_list : isiD "list" .non = some (.bl false) := by show (L2.kitB "NoneType" "list").map D.bl = _; rw [kb_NoneType_list]; rfl
@[simp] theorem isi_bl_list {b : Bool} : isiD "list" (.bl b) = some (.bl false) := by show (L2.kitB "bool" "list").map D.bl = _; rw [kb_bool_list]; rfl
@[simp] theorem isi_int_list {i : Int} : isiD "list" (.int i) = some (.bl false) := by show (L2.kitB "int" "list").map D.bl = _; rw [kb_int_list]; rfl
@[simp] theorem isi_str_list {z : Str} : isiD "list" (.str z) = some (.bl false) := by show (L2.kitB "str" "list").map D.bl = _; rw [kb_str_list]; rfl
@[simp] theorem isi_lst_list {xs : List D} : isiD "list" (.lst xs) = some (.bl true) := by show (L2.kitB "list" "list").map D.bl = _; rw [kb_list_list]; rfl
@[simp] theorem isi_frl_list {xs : List D} : isiD "list" (.frl xs) = some (.bl true) := by show (L2.kitB "list" "list").map D.bl = _; rw [kb_list_list]; rfl
@[simp] theorem isi_tup_list {xs : List D} : isiD "list" (.tup xs) = some (.bl false) := by show (L2.kitB "tuple" "list").map D.bl = _; rw [kb_tuple_list]; rfl
@[simp] theorem isi_dK_list {ks : List L2.Key} {xs : List D} : isiD "list" (.dK ks xs) = some (.bl false) := by show (L2.kitB "dict" "list").map D.bl = _; rw [kb_dict_list]; rfl
theorem kb_NoneType_tuple : L2.kitB "NoneType" "tuple" = some false := by decide +kernel
theorem kb_bool_tuple : L2.kitB "bool" "tuple" = some false := by decide +kernel
theorem kb_int_tuple : L2.kitB "int" "tuple" = some false := by decide +kernel
theorem kb_str_tuple : L2.kitB "str" "tuple" = some false := by decide +kernel
theorem kb_list_tuple : L2.kitB "list" "tuple" = some false := by decide +kernel
theorem kb_tuple_tuple : L2.kitB "tuple" "tuple" = some true := by decide +kernel
theorem kb_dict_tuple : L2.kitB "dict" "tuple" = some false := by decide +kernel
@[simp] theorem isi_non_tuple : isiD "tuple" .non = some (.bl false) := by show (L2.kitB "NoneType" "tuple").map D.bl = _; rw [kb_NoneType_tuple]; rfl
@[simp] theorem isi_bl_tuple {b : Bool} : isiD "tuple" (.bl b) = some (.bl false) := by show (L2.kitB "bool" "tuple").map D.bl = _; rw [kb_bool_tuple]; rfl
@[simp] theorem isi_int_tuple {i : Int} : isiD "tuple" (.int i) = some (.bl false) := by show (L2.kitB "int" "tuple").map D.bl = _; rw [kb_int_tuple]; rfl
@[simp] theorem isi_str_tuple {z : Str} : isiD "tuple" (.str z) = some (.bl false) := by show (L2.kitB "str" "tuple").map D.bl = _; rw [kb_str_tuple]; rfl
@[simp] theorem isi_lst_tuple {xs : List D} : isiD "tuple" (.lst xs) = some (.bl false) := by show (L2.kitB "list" "tuple").map D.bl = _; rw [kb_list_tuple]; rfl
@[simp] theorem isi_frl_tuple {xs : List D} : isiD "tuple" (.frl xs) = some (.bl false) := by show (L2.kitB "list" "tuple").map D.bl = _; rw [kb_list_tuple]; rfl
@[simp] theorem isi_tup_tuple {xs : List D} : isiD "tuple" (.tup xs) = some (.bl true) := by show (L2.kitB "tuple" "tuple").map D.bl = _; rw [kb_tuple_tuple]; rfl
@[simp] theorem isi_dK_tuple {ks : List L2.Key} {xs : List D} : isiD "tuple" (.dK ks xs) = some (.bl false) := by show (L2.kitB "dict" "tuple").map D.bl = _; rw [kb_dict_tuple]; rfl
theorem kb_NoneType_dict : L2.kitB "NoneType" "dict" = some false := by decide +kernel
theorem kb_bool_dict : L2.kitB "bool" "dict" = some false := by decide +kernel
theorem kb_int_dict : L2.kitB "int" "dict" = some false := by decide +kernel
theorem kb_str_dict : L2.kitB "str" "dict" = some false := by decide +kernel
theorem kb_list_dict : L2.kitB "list" "dict" = some false := by decide +kernel
theorem kb_tuple_dict : L2.kitB "tuple" "dict" = some false := by decide +kernel
theorem kb_dict_dict : L2.kitB "dict" "dict" = some true := by decide +kernel
@[simp] theorem isi_non_dict : isiD "dict" .non = some (.bl false) := by show (L2.kitB "NoneType" "dict").map D.bl = _; rw [kb_NoneType_dict]; rfl
@[simp] theorem isi_bl_dict {b : Bool} : isiD "dict" (.bl b) = some (.bl false) := by show (L2.kitB "bool" "dict").map D.bl = _; rw [kb_bool_dict]; rfl
@[simp] theorem isi_int_dict {i : Int} : isiD "dict" (.int i) = some (.bl false) := by show (L2.kitB "int" "dict").map D.bl = _; rw [kb_int_dict]; rfl
@[simp] theorem isi_str_dict {z : Str} : isiD "dict" (.str z) = some (.bl false) := by show (L2.kitB "str" "dict").map D.bl = _; rw [kb_str_dict]; rfl
@[simp] theorem isi_lst_dict {xs : List D} : isiD "dict" (.lst xs) = some (.bl false) := by show (L2.kitB "list" "dict").map D.bl = _; rw [kb_list_dict]; rfl
@[simp] theorem isi_frl_dict {xs : List D} : isiD "dict" (.frl xs) = some (.bl false) := by show (L2.kitB "list" "dict").map D.bl = _; rw [kb_list_dict]; rfl
@[simp] theorem isi_tup_dict {xs : List D} : isiD "dict" (.tup xs) = some (.bl false) := by show (L2.kitB "tuple" "dict").map D.bl = _; rw [kb_tuple_dict]; rfl
@[simp] theorem isi_dK_dict {ks : List L2.Key} {xs : List D} : isiD "dict" (.dK ks xs) = some (.bl true) := by show (L2.kitB "dict" "dict").map D.bl = _; rw [kb_dict_dict]; rfl
@[simp] theorem eqD_bb {a b : Bool} : eqD (.bl a) (.bl b) = some (.bl (a == b)) := rfl
@[simp] theorem neD_bb {a b : Bool} : neD (.bl a) (.bl b) = some (.bl (!(a == b))) := rfl
@[simp] theorem ru_chM {E : String → DS → Prop} {s : DS} {g h : D → D → Option D} {fa fb fc : M D} {Q : D → DS → Prop} : ru E (chM g h fa fb fc) s Q ↔ ru E fa s fun x s1 => ru E fb s1 fun y s2 => ru E (opt (g x y)) s2 fun z s3 => ru E (opt (asB z)) s3 fun k s4 => if k = true then ru E fc s4 fun w s5 => ru E (opt (h y w)) s5 Q else Q (.bl false) s4 := by
  unfold chM; simp
theorem eqD_t2 {a b c d : Int} : eqD (.tup [.int a, .int b]) (.tup [.int c, .int d]) = some (.bl (a == c && (b == d && true))) := rfl
theorem neD_t2 {a b c d : Int} : neD (.tup [.int a, .int b]) (.tup [.int c, .int d]) = some (.bl (!(a == c && (b == d && true)))) := rfl
end Vl
namespace Vl.P
open Vl
/-! ### what every law begins with -/
noncomputable def body__law_mixed : M Out := seqM (asgM (binM modD (binM addD (binM addD (binM mulD (varM 0) (rtn (.int 48271))) (binM mulD (varM 1) (rtn (.int 69621)))) (rtn (.int 12345))) (rtn (.int 2147483647))) (setM 2))
 (retM (binM modD (binM addD (binM mulD (varM 2) (binM addD (binM fdivD (varM 2) (rtn (.int 65536))) (rtn (.int 3)))) (varM 1)) (rtn (.int 2147483647))))
noncomputable def den__law_mixed : Den := fnDen 2 3 body__law_mixed
noncomputable def body__law_numbers : M Out := seqM (ownM 1 (lstM (rtn [])))
 (seqM (forM (itM (varM 0)) (setM 2) (ifM (tstM (binM geV (varM 2) (binM powD (rtn (.int 10)) (rtn (.int 18))))) (seqM (asgM (varM 2) (setM 3))
 (forM (bnd (consM (rtn (.int 60)) (rtn [])) (fun xs => opt (rng1 xs))) (setM 4) (ifM (tstM (binM gtV (varM 3) (rtn (.int 0)))) (seqM (dropM (mutvM appF 1 (consM (binM modD (varM 3) (rtn (.int 1000000))) (rtn []))))
 (asgM (binM fdivD (varM 3) (rtn (.int 1000000))) (setM 3))) (rtn .nx)))) (seqM (dropM (mutvM appF 1 (consM (binM modD (varM 2) (rtn (.int 1000000))) (rtn []))))
 (forM (bnd (consM (rtn (.int 5)) (rtn [])) (fun xs => opt (rng1 xs))) (setM 4) (dropM (mutvM appF 1 (consM (binM modD (callM den__law_mixed (consM (callM den__law_mixed (consM (binM modD (varM 2) (rtn (.int 2147483647))) (consM (varM 4) (rtn [])))) (consM (binM addD (varM 4) (rtn (.int 7))) (rtn [])))) (rtn (.int 1000000))) (rtn []))))))))
 (retM (varM 1)))
noncomputable def den__law_numbers : Den := fnDen 1 5 body__law_numbers
noncomputable def body__law_draw : M Out := seqM (asgM (ixvM 0 (rtn (.int 1))) (setM 2))
 (seqM (asgM (binM addD (varM 2) (rtn (.int 1))) (putvM 0 (rtn (.int 1))))
 (seqM (ifM (tstM (binM ltV (varM 2) (lookM1 lenD (lookM (ixvM 0 (rtn (.int 0))))))) (retM (binM modD (ixM (ixvM 0 (rtn (.int 0))) (varM 2)) (varM 1))) (rtn .nx))
 (seqM (asgM (binM addD (rtn (.int 1)) (varM 2)) (setM 3))
 (seqM (ifM (tstM (binM gtV (lookM1 lenD (lookM (ixvM 0 (rtn (.int 0))))) (rtn (.int 0)))) (asgM (binM addD (varM 3) (binM mulD (rtn (.int 1009)) (ixM (ixvM 0 (rtn (.int 0))) (rtn (.int 0))))) (setM 3)) (rtn .nx))
 (retM (binM modD (binM fdivD (callM den__law_mixed (consM (callM den__law_mixed (consM (varM 3) (consM (varM 2) (rtn [])))) (consM (rtn (.int 5)) (rtn [])))) (rtn (.int 7))) (varM 1)))))))
noncomputable def den__law_draw : Den := fnDen 2 4 body__law_draw
mutual
noncomputable def den__law_equal : Nat → Den
  | 0 => noDen
  | n + 1 => fnDen 2 2 (seqM (ifM (truM (isiM "list" (varM 1))) (retM (andV (isiM "list" (varM 0)) (andV (binM eqD (lookM1 lenD (peekM 0)) (lookM1 lenD (peekM 1))) (callM (den__law_all_equal n) (consM (varM 0) (consM (varM 1) (rtn []))))))) (rtn .nx))
 (seqM (ifM (truM (isiM "tuple" (varM 1))) (retM (andV (isiM "tuple" (varM 0)) (andV (binM eqD (lookM1 lenD (peekM 0)) (lookM1 lenD (peekM 1))) (callM (den__law_all_equal n) (consM (varM 0) (consM (varM 1) (rtn []))))))) (rtn .nx))
 (seqM (ifM (truM (isiM "bool" (varM 1))) (retM (andV (isiM "bool" (varM 0)) (binM eqD (varM 0) (varM 1)))) (rtn .nx))
 (seqM (ifM (truM (isiM "int" (varM 1))) (retM (andV (isiM "int" (varM 0)) (andV (notV (isiM "bool" (varM 0))) (binM eqD (varM 0) (varM 1))))) (rtn .nx))
 (seqM (ifM (truM (isiM "str" (varM 1))) (retM (andV (isiM "str" (varM 0)) (binM eqD (varM 0) (varM 1)))) (rtn .nx))
 (retM (binM isNV (varM 0) (rtn .non))))))))
noncomputable def den__law_all_equal : Nat → Den
  | 0 => noDen
  | n + 1 => fnDen 2 3 (seqM (forM (bnd (consM (lookM1 lenD (peekM 1)) (rtn [])) (fun xs => opt (rng1 xs))) (setM 2) (ifM (notM (truM (callM (den__law_equal n) (consM (ixvM 0 (varM 2)) (consM (ixvM 1 (varM 2)) (rtn [])))))) (retM (rtn (.bl false))) (rtn .nx)))
 (retM (rtn (.bl true))))
end
def mixI (n k : Int) : Int := ((n * 48271 + k * 69621 + 12345) % 2147483647 * ((n * 48271 + k * 69621 + 12345) % 2147483647 / 65536 + 3) + k) % 2147483647
theorem mixI_range (n k : Int) : 0 ≤ mixI n k ∧ mixI n k < 2147483647 := by unfold mixI; omega
theorem mixed_ok (n k : Int) (m : List MO) : den__law_mixed [.int n, .int k] m = .ok (.int (mixI n k)) m := by
  refine fn_ok rfl ?_
  have h1 : mulD (.int n) (.int 48271) = some (.int (n * 48271)) := mulD_ii (by omega)
  have h2 : mulD (.int k) (.int 69621) = some (.int (k * 69621)) := mulD_ii (by omega)
  have h3 : ∀ a : Int, mulD (.int ((n * 48271 + k * 69621 + 12345) % 2147483647)) (.int a) = some (.int ((n * 48271 + k * 69621 + 12345) % 2147483647 * a)) := fun a => mulD_ii (by omega)
  simp [body__law_mixed, h1, h2, h3, modD_ii, fdivD_ii, mixI]
/-- a list of numbers, none below 0 -/
def Nn (ns : List Int) : Prop := ∀ x ∈ ns, 0 ≤ x
theorem Nn.app {ns : List Int} (h : Nn ns) {x : Int} (hx : 0 ≤ x) : Nn (ns ++ [x]) := fun y hy => by
  rcases List.mem_append.mp hy with hy | hy
  · exact h y hy
  · simp at hy; subst hy; exact hx
/-- numbers.append(x) -/
theorem ru_app {E : String → DS → Prop} {env : List Slot} {mem : List MO} {i : Nat} {f : M D} {Q : D → DS → Prop} {xs : List D} (hs : env[i]? = some (.own xs)) (hl : xs.length < 1000000)
    (h : ru E f ⟨env, mem⟩ fun y s1 => s1 = ⟨env, mem⟩ ∧ Q .non ⟨env.set i (.own (xs ++ [y])), mem⟩) : ru E (mutvM appF i (consM f (rtn []))) ⟨env, mem⟩ Q := by
  have e : mutvM appF i (consM f (rtn [])) ⟨env, mem⟩ = (bnd (consM f (rtn [])) fun as => mutAt appF i as) ⟨env, mem⟩ := by
    unfold mutvM seeL
    rw [show (⟨env, mem⟩ : DS).env = env from rfl, hs]
    exact if_pos rfl
  have : ru E (bnd (consM f (rtn [])) fun as => mutAt appF i as) ⟨env, mem⟩ Q := by
    simp only [ru_bnd, ru_cons, ru_rtn]
    refine ru_mono h fun y s1 ⟨e1, q⟩ => ?_
    subst e1
    refine ru_eq (a := .non) (s' := ⟨env.set i (.own (xs ++ [y])), mem⟩) ?_ q
    have e2 : appF xs [y] = some (.non, xs ++ [y]) := if_pos hl
    unfold mutAt
    rw [show (⟨env, mem⟩ : DS).env = env from rfl, hs]
    dsimp only
    rw [e2]
  unfold ru at this ⊢
  rw [e]
  exact this
theorem numbers_ok (ns : List Int) (hl : ns.length ≤ 63) (m : List MO) : ∃ nums, Nn nums ∧ den__law_numbers [.frl (ns.map .int)] m = .ok (.lst (nums.map .int)) m := by
  have : ∃ d m', den__law_numbers [.frl (ns.map .int)] m = .ok d m' ∧ (∃ nums : List Int, Nn nums ∧ d = .lst (nums.map .int) ∧ m' = m) := by
    refine fn_ex rfl ?_
    unfold body__law_numbers
    simp only [ru_seq, ru_own, ru_lst, ru_rtn, ru_for, ru_itM]
    refine ⟨by simp, ?_⟩
    simp only [List.map_cons, List.map_nil, List.cons_append, List.nil_append, List.replicate, List.set_cons_succ, List.set_cons_zero, ru_var, slotV_val0, itemsD_frl, ru_opt_some]
    refine ru_forI (fun i s => ∃ (nums : List Int) (c2 c3 c4 : Slot), s = ⟨[.val (.frl (ns.map .int)), .own (nums.map .int), c2, c3, c4], m⟩ ∧ Nn nums ∧ nums.length ≤ 60 * i) ⟨[], .un, .un, .un, rfl, fun _ h => (by cases h), by simp⟩ (fun i d s hi hI => ?_) (fun s hI => ?_)
    · obtain ⟨nums, c2, c3, c4, rfl, hn, hlen⟩ := hI
      have hi63 : i < 63 := by
        have := (List.getElem?_eq_some_iff.mp hi).1
        simp at this; omega
      rw [List.getElem?_map] at hi
      cases ec : ns[i]? with
      | none => rw [ec] at hi; cases hi
      | some cell =>
        rw [ec] at hi
        cases hi
        have hp : powD (.int 10) (.int 18) = some (.int 1000000000000000000) := rfl
        simp only [ru_set, List.set_cons_succ, List.set_cons_zero, ru_if, ru_tst, ru_binM, ru_var, slotV_succ, slotV_val0, ru_rtn, hp, ru_opt_some, geV_ii, asB_bl]
        split
        · -- a great number
          rename_i hc
          simp only [ru_seq, ru_asg, ru_var, slotV_succ, slotV_val0, ru_set, List.set_cons_succ, List.set_cons_zero, ru_for, ru_bnd, ru_cons, ru_rtn, rng1_int (j := 60) (by decide) (by decide), ru_opt_some]
          refine ru_forI (fun j s => ∃ (nums' : List Int) (rest : Int) (c4 : Slot), s = ⟨[.val (.frl (ns.map .int)), .own (nums'.map .int), .val (.int cell), .val (.int rest), c4], m⟩ ∧ Nn nums' ∧ nums'.length ≤ 60 * i + j) ⟨nums, cell, c4, rfl, hn, by omega⟩ (fun j d s hj hJ => ?_) (fun s hJ => ?_)
          · obtain ⟨nums', rest, c4, rfl, hn', hlen'⟩ := hJ
            obtain ⟨hj2, rfl⟩ := rngL_get hj
            have hj3 : j < 60 := by simpa using hj2
            simp only [ru_set, List.set_cons_succ, List.set_cons_zero, ru_if, ru_tst, ru_binM, ru_var, slotV_succ, slotV_val0, ru_rtn, ru_opt_some, gtV_ii, asB_bl]
            split
            · rename_i hr
              have hr : 0 < rest := of_decide_eq_true hr
              simp only [ru_seq, ru_drop]
              refine ru_app (xs := nums'.map .int) rfl (by rw [List.length_map]; omega) ?_
              simp only [ru_binM, ru_var, slotV_succ, slotV_val0, ru_rtn, modD_ii (show (0 : Int) < 1000000 by decide), ru_opt_some]
              refine ⟨trivial, ?_⟩
              simp only [ru_asg, ru_binM, ru_var, slotV_succ, slotV_val0, ru_rtn, List.set_cons_succ, List.set_cons_zero, fdivD_ii (show (0 : Int) < 1000000 by decide) (show (1000000 : Int) < 1073741824 by decide), ru_opt_some, ru_set, stepQ_nx]
              exact ⟨nums' ++ [rest % 1000000], rest / 1000000, .val (.int (0 + (j : Nat))), by simp, hn'.app (by omega), by simp; omega⟩
            · simp only [stepQ_nx]
              exact ⟨nums', rest, _, rfl, hn', by omega⟩
          · obtain ⟨nums', rest, c4, rfl, hn', hlen'⟩ := hJ
            simp only [rngL_length] at hlen'
            simp only [stepQ_nx]
            exact ⟨nums', _, _, _, rfl, hn', by
              have : (60 : Int).toNat = 60 := rfl
              rw [this] at hlen'
              omega⟩
        · simp only [ru_seq, ru_drop]
          refine ru_app (xs := nums.map .int) rfl (by rw [List.length_map]; omega) ?_
          simp only [ru_binM, ru_var, slotV_succ, slotV_val0, ru_rtn, modD_ii (show (0 : Int) < 1000000 by decide), ru_opt_some]
          refine ⟨trivial, ?_⟩
          simp only [List.set_cons_succ, List.set_cons_zero, ru_for, ru_bnd, ru_cons, ru_rtn, rng1_int (j := 5) (by decide) (by decide), ru_opt_some]
          refine ru_forI (fun j s => ∃ (nums' : List Int) (c3 c4 : Slot), s = ⟨[.val (.frl (ns.map .int)), .own (nums'.map .int), .val (.int cell), c3, c4], m⟩ ∧ Nn nums' ∧ nums'.length ≤ 60 * i + 1 + j) ⟨nums ++ [cell % 1000000], c3, c4, by simp, hn.app (by omega), by simp; omega⟩ (fun j d s hj hJ => ?_) (fun s hJ => ?_)
          · obtain ⟨nums', c3, c4, rfl, hn', hlen'⟩ := hJ
            obtain ⟨hj2, rfl⟩ := rngL_get hj
            have hj3 : j < 5 := by simpa using hj2
            simp only [ru_set, List.set_cons_succ, List.set_cons_zero, ru_drop]
            refine ru_app (xs := nums'.map .int) rfl (by rw [List.length_map]; omega) ?_
            simp only [ru_binM, ru_call, ru_cons, ru_var, slotV_succ, slotV_val0, ru_rtn, modD_ii (show (0 : Int) < 2147483647 by decide), modD_ii (show (0 : Int) < 1000000 by decide), ru_opt_some, mixed_ok, frQ_ok, addD_ii]
            refine ⟨trivial, ?_⟩
            simp only [stepQ_nx, List.set_cons_succ, List.set_cons_zero]
            exact ⟨_, _, _, by rw [← List.map_singleton, ← List.map_append], hn'.app (by omega), by simp; omega⟩
          · obtain ⟨nums', c3, c4, rfl, hn', hlen'⟩ := hJ
            simp only [rngL_length] at hlen'
            simp only [stepQ_nx]
            exact ⟨nums', _, _, _, rfl, hn', by
              have : (5 : Int).toNat = 5 := rfl
              rw [this] at hlen'
              omega⟩
    · obtain ⟨nums, c2, c3, c4, rfl, hn, hlen⟩ := hI
      simp only [ru_ret, ru_var, slotV_succ, slotV_own0, Slot.shut]
      exact ⟨nums, hn, rfl, trivial⟩
  obtain ⟨d, m', e, nums, hn, rfl, rfl⟩ := this
  exact ⟨nums, hn, e⟩
/-- the draws stand at place 0 -/
def Drw (mem : List MO) : Prop := ∃ (nums : List Int) (at' : Int) (rest : List MO), mem = .lst [.lst (nums.map .int), .int at'] :: rest ∧ Nn nums ∧ 0 ≤ at'
theorem ixD_at {xs : List D} {i : Int} {d : D} (h0 : 0 ≤ i) (h : xs[i.toNat]? = some d) : ixD (.lst xs) (.int i) = some d := by
  have hl : i.toNat < xs.length := (List.getElem?_eq_some_iff.mp h).1
  show ((L2.ixN xs.length i).bind fun j => xs[j]?) = some d
  unfold L2.ixN
  rw [if_pos h0, if_pos (by omega)]
  exact h
theorem draw_ok {mem : List MO} (hd : Drw mem) (many : Int) (hm : 0 < many) : ∃ v mem', den__law_draw [.mut 0, .int many] mem = .ok (.int v) mem' ∧ 0 ≤ v ∧ v < many ∧ Drw mem' ∧ mem'.tail = mem.tail := by
  obtain ⟨nums, at', rest, rfl, hn, ha⟩ := hd
  have : ∃ d m', den__law_draw [.mut 0, .int many] (.lst [.lst (nums.map .int), .int at'] :: rest) = .ok d m' ∧ (∃ v, d = .int v ∧ 0 ≤ v ∧ v < many ∧ m' = .lst [.lst (nums.map .int), .int (at' + 1)] :: rest) := by
    refine fn_ex rfl ?_
    have i0 : ∀ a b : D, ixD (.lst [a, b]) (.int 0) = some a := fun a b => rfl
    have i1 : ∀ a b : D, ixD (.lst [a, b]) (.int 1) = some b := fun a b => rfl
    have hput : ∀ (env : List Slot) (a b d : D) (Q : Unit → DS → Prop), env[0]? = some (.val (.mut 0)) → Q () ⟨env, .lst [a, d] :: rest⟩ → ru NE (putvM 0 (rtn (.int 1)) d) ⟨env, .lst [a, b] :: rest⟩ Q := fun env a b d Q he q => by
      refine ru_eq (a := ()) (s' := ⟨env, .lst [a, d] :: rest⟩) ?_ q
      unfold putvM seeL
      rw [show (⟨env, MO.lst [a, b] :: rest⟩ : DS).env = env from rfl, he]
      show (if true = true then (bnd (rtn (.int 1)) fun k => putAt 0 k d) ⟨env, MO.lst [a, b] :: rest⟩ else R.stuck) = _
      rw [if_pos rfl]
      show putAt 0 (.int 1) d ⟨env, MO.lst [a, b] :: rest⟩ = _
      unfold putAt
      rw [show (⟨env, MO.lst [a, b] :: rest⟩ : DS).env = env from rfl, he]
      rfl
    unfold body__law_draw
    simp only [List.map_cons, List.map_nil, List.cons_append, List.nil_append, List.replicate, ru_seq, ru_asg, ru_ixv', List.getElem?_cons_zero, knownB_val, ru_rtn, peekD_val0, lookD_mut0, shut_lst, Option.bind_some, i1, ru_opt_some, ru_set, List.set_cons_succ, List.set_cons_zero, true_and, ru_binM, ru_var, slotV_succ, slotV_val0, addD_ii]
    refine hput _ _ _ _ _ rfl ?_
    simp only [ru_if, ru_tst, ru_binM, ru_var, slotV_succ, slotV_val0, ru_look1, ru_look, ru_ixv', List.getElem?_cons_zero, knownB_val, ru_rtn, peekD_val0, lookD_mut0, shut_lst, Option.bind_some, i0, ru_opt_some, lookD_lst, lenD_lst, List.length_map, ltV_ii, asB_bl, true_and]
    by_cases h1 : at' < (nums.length : Int)
    · rw [if_pos (decide_eq_true h1)]
      have hx : ∃ x, nums[at'.toNat]? = some x := ⟨_, List.getElem?_eq_getElem (by omega)⟩
      obtain ⟨x, hx⟩ := hx
      have hix : ixD (.lst (nums.map .int)) (.int at') = some (.int x) := ixD_at ha (by rw [List.getElem?_map, hx]; rfl)
      simp only [ru_ret, ru_binM, ru_ix, ru_ixv', List.getElem?_cons_zero, knownB_val, ru_rtn, peekD_val0, lookD_mut0, shut_lst, Option.bind_some, i0, ru_opt_some, ru_var, slotV_succ, slotV_val0, lookD_lst, hix, modD_ii hm, true_and]
      exact ⟨x % many, rfl, Int.emod_nonneg _ (by omega), Int.emod_lt_of_pos _ hm, trivial⟩
    · rw [if_neg (by simpa using h1)]
      simp only [ru_rtn, ru_asg, ru_binM, ru_var, slotV_succ, slotV_val0, addD_ii, ru_opt_some, ru_set, List.set_cons_succ, List.set_cons_zero, ru_if, ru_tst, ru_look1, ru_look, ru_ixv', List.getElem?_cons_zero, knownB_val, peekD_val0, lookD_mut0, shut_lst, Option.bind_some, i0, lookD_lst, lenD_lst, List.length_map, gtV_ii, asB_bl, true_and]
      have fin : ∀ a b : Int, ∃ v, D.int (mixI (mixI a at') 5 / 7 % many) = .int v ∧ 0 ≤ v ∧ v < many ∧ True := fun a b => ⟨_, rfl, Int.emod_nonneg _ (by omega), Int.emod_lt_of_pos _ hm, trivial⟩
      by_cases h2 : (0 : Int) < (nums.length : Int)
      · rw [if_pos (decide_eq_true h2)]
        have hx : ∃ x, nums[(0 : Int).toNat]? = some x := ⟨_, List.getElem?_eq_getElem (by simpa using h2)⟩
        obtain ⟨x, hx⟩ := hx
        have hix : ixD (.lst (nums.map .int)) (.int 0) = some (.int x) := ixD_at (Int.le_refl _) (by rw [List.getElem?_map, hx]; rfl)
        have hm1 : ∀ y, mulD (.int 1009) (.int y) = some (.int (1009 * y)) := fun y => mulD_ii (by omega)
        simp only [ru_asg, ru_ix, ru_binM, ru_ixv', List.getElem?_cons_zero, knownB_val, ru_rtn, peekD_val0, lookD_mut0, shut_lst, Option.bind_some, i0, ru_opt_some, ru_var, slotV_succ, slotV_val0, lookD_lst, hix, hm1, addD_ii, ru_set, List.set_cons_succ, List.set_cons_zero, ru_ret, ru_call, ru_cons, mixed_ok, frQ_ok, fdivD_ii (show (0 : Int) < 7 by decide) (show (7 : Int) < 1073741824 by decide), modD_ii hm, true_and]
        exact fin _ 0
      · rw [if_neg (by simpa using h2)]
        simp only [ru_rtn, ru_ret, ru_binM, ru_call, ru_cons, ru_var, slotV_succ, slotV_val0, mixed_ok, frQ_ok, fdivD_ii (show (0 : Int) < 7 by decide) (show (7 : Int) < 1073741824 by decide), modD_ii hm, ru_opt_some]
        exact fin _ 0
  obtain ⟨d, m', e, v, rfl, h1, h2, rfl⟩ := this
  exact ⟨v, _, e, h1, h2, ⟨nums, at' + 1, rest, rfl, hn, by omega⟩, rfl⟩

/-! equal values are told equal -/
mutual
inductive SameD : D → D → Prop
  | non : SameD .non .non
  | bl (b : Bool) : SameD (.bl b) (.bl b)
  | int (i : Int) : SameD (.int i) (.int i)
  | str (x : PySem.Str) : SameD (.str x) (.str x)
  | tup {xs ys : List D} : SameDs xs ys → SameD (.tup xs) (.tup ys)
  | lst {xs ys : List D} : SameDs xs ys → SameD (.lst xs) (.lst ys)
  | lf {xs ys : List D} : SameDs xs ys → SameD (.lst xs) (.frl ys)
  | fl {xs ys : List D} : SameDs xs ys → SameD (.frl xs) (.lst ys)
  | ff {xs ys : List D} : SameDs xs ys → SameD (.frl xs) (.frl ys)
inductive SameDs : List D → List D → Prop
  | nil : SameDs [] []
  | cons {a b : D} {xs ys : List D} : SameD a b → SameDs xs ys → SameDs (a :: xs) (b :: ys)
end
theorem SameDs.len : ∀ {xs ys : List D}, SameDs xs ys → xs.length = ys.length
  | _, _, .nil => rfl
  | _, _, .cons _ h => by simp [h.len]
theorem SameDs.get : ∀ {xs ys : List D} {i : Nat} {b : D}, SameDs xs ys → ys[i]? = some b → ∃ a, xs[i]? = some a ∧ SameD a b
  | _, _, 0, _, .cons h _, e => by simp at e; subst e; exact ⟨_, rfl, h⟩
  | _, _, i + 1, _, .cons _ h, e => by
    obtain ⟨a, h1, h2⟩ := h.get (i := i) (by simpa using e)
    exact ⟨a, by simpa using h1, h2⟩
mutual
def dpD : D → Nat
  | .tup xs => dpDs xs + 1
  | .lst xs => dpDs xs + 1
  | .frl xs => dpDs xs + 1
  | _ => 0
def dpDs : List D → Nat
  | [] => 0
  | x :: xs => max (dpD x) (dpDs xs)
end
theorem dpDs_get : ∀ {xs : List D} {i : Nat} {b : D}, xs[i]? = some b → dpD b ≤ dpDs xs
  | [], i, b, h => by simp at h
  | x :: xs, 0, b, h => by simp at h; subst h; rw [dpDs]; exact Nat.le_max_left _ _
  | x :: xs, i + 1, b, h => by
    have := dpDs_get (xs := xs) (i := i) (by simpa using h)
    rw [dpDs]; exact Nat.le_trans this (Nat.le_max_right _ _)
/-- what is shown of a list's or a tuple's items -/
def Seqs : D → List D → Prop
  | .tup xs, ys => xs = ys
  | .lst xs, ys => xs = ys
  | .frl xs, ys => xs = ys
  | _, _ => False
theorem Seqs.ix {d : D} {xs : List D} (h : Seqs d xs) {i : Nat} {a : D} (e : xs[i]? = some a) (s : DS) : ixD (lookD s d) (.int (i : Int)) = some a := by
  have hl : i < xs.length := (List.getElem?_eq_some_iff.mp e).1
  have go : ((L2.ixN xs.length (i : Int)).bind fun j => xs[j]?) = some a := by
    unfold L2.ixN
    rw [if_pos (by omega), if_pos (by omega)]
    exact e
  cases d with
  | tup ys => cases h; exact go
  | lst ys => cases h; exact go
  | frl ys => cases h; exact go
  | _ => exact h.elim
theorem Seqs.len {d : D} {xs : List D} (h : Seqs d xs) (s : DS) : lenD (lookD s d) = some (.int xs.length) := by
  cases d with
  | tup ys => cases h; rfl
  | lst ys => cases h; rfl
  | frl ys => cases h; rfl
  | _ => exact h.elim
theorem all_equal_okw {g : Nat} {x y : D} {xs ys : List D} {m : List MO} (hx : Seqs x xs) (hy : Seqs y ys) (hs : SameDs xs ys) (hn : ys.length ≤ 1000000)
    (ih : ∀ (i : Nat) a b, ys[i]? = some b → SameD a b → dpD b ≤ dpDs ys → den__law_equal g [a, b] m = .ok (.bl true) m) : den__law_all_equal (g + 1) [x, y] m = .ok (.bl true) m := by
  rw [den__law_all_equal]
  refine fn_ok rfl ?_
  simp only [List.map_cons, List.map_nil, List.cons_append, List.nil_append, List.replicate, ru_seq, ru_for, ru_bnd, ru_cons, ru_look1, ru_peek, peekD_succ, peekD_val0, ru_rtn]
  refine ⟨_, rfl, ?_⟩
  rw [hy.len]
  simp only [ru_opt_some, rng1_int (show (-(2 ^ 62) : Int) ≤ (ys.length : Int) by omega) (show (ys.length : Int) < 2 ^ 62 by omega)]
  refine ru_forI (fun i s => ∃ c : Slot, s = ⟨[.val x, .val y, c], m⟩) ⟨.un, rfl⟩ (fun i d s hi ⟨c, hI⟩ => ?_) (fun s ⟨c, hI⟩ => ?_)
  · subst hI
    obtain ⟨h1, rfl⟩ := rngL_get hi
    have h1 : i < ys.length := by simpa using h1
    have hy1 : ys[i]? = some ys[i] := List.getElem?_eq_getElem h1
    obtain ⟨a, ha, hab⟩ := hs.get hy1
    have ey := fun s => hy.ix hy1 s
    have ex := fun s => hx.ix ha s
    simp only [ru_set, List.set_cons_succ, List.set_cons_zero, ru_if, ru_not, ru_tru, ru_call, ru_cons, ru_ixv', List.getElem?_cons_zero, List.getElem?_cons_succ, knownB_val, ru_var, slotV_succ, slotV_val0, peekD_succ, peekD_val0, Option.bind_some, Int.zero_add, ex, ey, ru_opt_some, ru_rtn, true_and, ih i a _ hy1 hab (dpDs_get hy1), frQ_ok, truD_bl, Bool.not_true, Bool.false_eq_true, if_false, stepQ_nx]
    exact ⟨_, rfl⟩
  · subst hI
    simp only [ru_ret, ru_rtn, true_or, and_self]
mutual
/-- no list is very long -/
def wideD : D → Bool
  | .tup xs => decide (xs.length ≤ 1000000) && wideDs xs
  | .lst xs => decide (xs.length ≤ 1000000) && wideDs xs
  | .frl xs => decide (xs.length ≤ 1000000) && wideDs xs
  | _ => true
def wideDs : List D → Bool
  | [] => true
  | x :: xs => wideD x && wideDs xs
end
theorem wideDs_get : ∀ {xs : List D} {b : D}, wideDs xs = true → b ∈ xs → wideD b = true
  | x :: xs, b, h, m => by
    rw [wideDs, Bool.and_eq_true] at h
    rcases List.mem_cons.mp m with rfl | m
    · exact h.1
    · exact wideDs_get h.2 m
theorem equal_ok : ∀ (n : Nat) (a b : D) (m : List MO) (fuel : Nat), SameD a b → dpD b ≤ n → 2 * n + 1 ≤ fuel → wideD b = true → den__law_equal fuel [a, b] m = .ok (.bl true) m := by
  intro n
  induction n with
  | zero =>
    intro a b m fuel h hd hf hw
    obtain ⟨f, rfl⟩ : ∃ f, fuel = f + 1 := ⟨fuel - 1, by omega⟩
    rw [den__law_equal]
    refine fn_ok rfl ?_
    cases h with
    | non => simp [isNon]
    | bl b => simp
    | int i => simp
    | str x => simp
    | tup _ => rw [dpD] at hd; omega
    | lst _ => rw [dpD] at hd; omega
    | lf _ => rw [dpD] at hd; omega
    | fl _ => rw [dpD] at hd; omega
    | ff _ => rw [dpD] at hd; omega
  | succ n ih =>
    intro a b m fuel h hd hf hw
    obtain ⟨f, rfl⟩ : ∃ f, fuel = f + 1 + 1 := ⟨fuel - 2, by omega⟩
    have go : ∀ (xs ys : List D), SameDs xs ys → dpDs ys ≤ n → ys.length ≤ 1000000 → wideDs ys = true → ∀ (x y : D), Seqs x xs → Seqs y ys → den__law_all_equal (f + 1) [x, y] m = .ok (.bl true) m := fun xs ys hs hd hl hw x y hx hy => by
      have hs' : ∀ (i : Nat) (b : D), ys[i]? = some b → wideD b = true := fun i b e => wideDs_get hw (List.mem_of_getElem? e)
      refine all_equal_okw hx hy hs hl fun i a b hb hab hdb => ?_
      exact ih a b m f hab (by omega) (by omega) (hs' i b hb)
    rw [den__law_equal]
    refine fn_ok rfl ?_
    cases h with
    | non => simp [isNon]
    | bl b => simp
    | int i => simp
    | str x => simp
    | tup hs =>
      rename_i xs ys
      rw [dpD] at hd
      rw [wideD, Bool.and_eq_true] at hw
      simp [go xs ys hs (by omega) (of_decide_eq_true hw.1) hw.2 (.tup xs) (.tup ys) rfl rfl, hs.len]
    | lst hs =>
      rename_i xs ys
      rw [dpD] at hd
      rw [wideD, Bool.and_eq_true] at hw
      simp [go xs ys hs (by omega) (of_decide_eq_true hw.1) hw.2 (.lst xs) (.lst ys) rfl rfl, hs.len]
    | lf hs =>
      rename_i xs ys
      rw [dpD] at hd
      rw [wideD, Bool.and_eq_true] at hw
      simp [go xs ys hs (by omega) (of_decide_eq_true hw.1) hw.2 (.lst xs) (.frl ys) rfl rfl, hs.len]
    | fl hs =>
      rename_i xs ys
      rw [dpD] at hd
      rw [wideD, Bool.and_eq_true] at hw
      simp [go xs ys hs (by omega) (of_decide_eq_true hw.1) hw.2 (.frl xs) (.lst ys) rfl rfl, hs.len]
    | ff hs =>
      rename_i xs ys
      rw [dpD] at hd
      rw [wideD, Bool.and_eq_true] at hw
      simp [go xs ys hs (by omega) (of_decide_eq_true hw.1) hw.2 (.frl xs) (.frl ys) rfl rfl, hs.len]
end Vl.P
namespace Vl
open PySem PySem.Spec PyProof.Rows
theorem ru_compI {E : String → DS → Prop} {s : DS} {vs : List Nat} {fi : M (List D)} {g : D → M Unit} {t : M Bool} {el : M D} {Q : List D → DS → Prop} : ru E (compM vs fi g t el) s Q ↔ ru E fi s fun items s1 => anyOwn vs s1.env = false ∧ items.length ≤ 1000000 ∧ ru NE (lcL vs g t el items []) s1 fun acc s2 => Q acc ⟨restE s1.env s2.env vs, s2.mem⟩ := by
  refine ⟨fun h => ?_, ru_comp⟩
  unfold compM at h
  rw [ru_bnd] at h
  refine ru_mono h fun items s1 q => ?_
  have q : ru E (fun s1 => if anyOwn vs s1.env = false ∧ items.length ≤ 1000000 then (noErr (lcL vs g t el items [] s1)).bind fun acc s2 => .ok acc { s2 with env := restE s1.env s2.env vs } else .stuck) s1 Q := q
  unfold ru at q
  dsimp only at q
  by_cases hc : anyOwn vs s1.env = false ∧ items.length ≤ 1000000
  · rw [if_pos hc] at q
    refine ⟨hc.1, hc.2, ?_⟩
    unfold ru
    cases e : lcL vs g t el items [] s1 with
    | ok acc s2 => rw [e] at q; exact q
    | err c s2 => rw [e] at q; exact q.elim
    | stuck => rw [e] at q; exact q.elim
  · rw [if_neg hc] at q; exact q.elim
@[simp] theorem isS_str {z : PySem.Str} : isS (.str z) = true := rfl
@[simp] theorem ru_join {E : String → DS → Prop} {s : DS} {fa fb : M D} {Q : D → DS → Prop} : ru E (joinM fa fb) s Q ↔ ru E fa s fun x s1 => isS x = true ∧ ru E fb s1 fun y s2 => ru E (opt (joinD x y)) s2 Q := by
  unfold joinM
  rw [ru_bnd]
  have e : ∀ x s1, ru E (if isS x = true then bnd fb fun y => opt (joinD x y) else fun _ => .stuck) s1 Q ↔ (isS x = true ∧ ru E fb s1 fun y s2 => ru E (opt (joinD x y)) s2 Q) := fun x s1 => by
    by_cases h : isS x = true
    · rw [if_pos h]; simp [h]
    · rw [if_neg h]; simp [h]
  constructor
  · intro h; exact ru_mono h fun x s1 q => (e x s1).mp q
  · intro h; exact ru_mono h fun x s1 q => (e x s1).mpr q
@[simp] theorem ru_rev {E : String → DS → Prop} {s : DS} {f : M D} {Q : D → DS → Prop} : ru E (revM f) s Q ↔ ru E f s fun d s1 => ru E (opt (revD (lookD s1 d))) s1 Q := by unfold revM; rw [ru_bnd]; exact Iff.rfl
@[simp] theorem revD_lst {xs : List D} : revD (.lst xs) = some (.lst xs.reverse) := rfl
@[simp] theorem revD_frl {xs : List D} : revD (.frl xs) = some (.lst xs.reverse) := rfl
@[simp] theorem ru_part {E : String → DS → Prop} {s : DS} {f : M D} {Q : Option Int → DS → Prop} : ru E (partM f) s Q ↔ ru E f s fun d s1 => ru E (opt (asI d)) s1 fun i s2 => Q (some i) s2 := by unfold partM; simp
@[simp] theorem asI_int {i : Int} : asI (.int i) = some i := rfl
@[simp] theorem ru_sl {E : String → DS → Prop} {s : DS} {f : M D} {lo hi : M (Option Int)} {Q : D → DS → Prop} : ru E (slM f lo hi) s Q ↔ ru E f s fun d s1 => ru E lo s1 fun l s2 => ru E hi s2 fun h s3 => ru E (opt (slD (lookD s3 d) l h)) s3 Q := by
  unfold slM; simp only [ru_bnd]; exact Iff.rfl
/-! ### texts by their signs -/
abbrev txt (l : List Nat) : D := .str ⟨l.toArray⟩
theorem txt_inj {a b : List Nat} : txt a = txt b ↔ a = b := by
  constructor
  · intro h
    have := D.str.inj h
    have := PySem.Str.mk.inj this
    simpa using this
  · intro h; rw [h]
theorem addD_tt {a b : List Nat} (h : a.length + b.length ≤ 16777216) : addD (txt a) (txt b) = some (txt (a ++ b)) := by
  have e : addD (txt a) (txt b) = if (⟨a.toArray⟩ : PySem.Str).length + (⟨b.toArray⟩ : PySem.Str).length ≤ 16777216 then some (.str ((⟨a.toArray⟩ : PySem.Str) ++ (⟨b.toArray⟩ : PySem.Str))) else none := rfl
  rw [e, if_pos (by simpa [PySem.Str.length] using h)]
  have : ((⟨a.toArray⟩ : PySem.Str) ++ (⟨b.toArray⟩ : PySem.Str)) = ⟨(a ++ b).toArray⟩ := by
    show PySem.Str.mk (a.toArray ++ b.toArray) = _
    simp
  rw [this]
theorem lenD_t {a : List Nat} (h : a.length ≤ 16777216) : lenD (txt a) = some (.int a.length) := by
  have := lenD_str (z := ⟨a.toArray⟩) (by simpa [PySem.Str.length] using h)
  rw [this]
  simp [PySem.Str.length]
theorem ixD_t {l : List Nat} {i : Int} {n : Nat} (h : l.length ≤ 16777216) (h0 : 0 ≤ i) (hi : l[i.toNat]? = some n) : ixD (txt l) (.int i) = some (txt [n]) := by
  have hl : i.toNat < l.length := (List.getElem?_eq_some_iff.mp hi).1
  have e : ixD (txt l) (.int i) = if (⟨l.toArray⟩ : PySem.Str).length ≤ 16777216 then ((L2.ixN (⟨l.toArray⟩ : PySem.Str).cps.toList.length i).bind fun j => (⟨l.toArray⟩ : PySem.Str).cps.toList[j]?).map sign else none := rfl
  rw [e, if_pos (by simpa [PySem.Str.length] using h)]
  have e2 : (⟨l.toArray⟩ : PySem.Str).cps.toList = l := by simp
  rw [e2]
  have e3 : L2.ixN l.length i = some i.toNat := by unfold L2.ixN; rw [if_pos h0, if_pos (by omega)]
  rw [e3]
  show (l[i.toNat]?).map sign = _
  rw [hi]
  rfl
theorem strsD_txt : ∀ ls : List (List Nat), strsD (ls.map txt) = some (ls.map fun l => (⟨l.toArray⟩ : PySem.Str))
  | [] => rfl
  | l :: r => by
    rw [List.map_cons, List.map_cons]
    show (strsD (r.map txt)).map _ = _
    rw [strsD_txt r]
    rfl
theorem glue_fold : ∀ (ls : List (List Nat)) (acc : List Nat), (ls.map fun l => (⟨l.toArray⟩ : PySem.Str)).foldl (fun acc p => acc ++ (⟨#[]⟩ : PySem.Str).cps ++ p.cps) acc.toArray = (acc ++ ls.flatten).toArray
  | [], acc => by simp
  | l :: r, acc => by
    rw [List.map_cons, List.foldl_cons]
    have := glue_fold r (acc ++ l)
    have e : acc.toArray ++ (⟨#[]⟩ : PySem.Str).cps ++ (⟨l.toArray⟩ : PySem.Str).cps = (acc ++ l).toArray := by simp
    rw [e, this]
    simp
theorem join_empty : ∀ ls : List (List Nat), PySem.Txt.join ⟨#[]⟩ (ls.map fun l => (⟨l.toArray⟩ : PySem.Str)) = ⟨ls.flatten.toArray⟩
  | [] => rfl
  | l :: r => by
    show PySem.Builtin.Str.glued ⟨#[]⟩ ((l :: r).map fun l => (⟨l.toArray⟩ : PySem.Str)) = _
    unfold PySem.Builtin.Str.glued
    show PySem.Str.mk ((r.map fun l => (⟨l.toArray⟩ : PySem.Str)).foldl (fun acc p => acc ++ (⟨#[]⟩ : PySem.Str).cps ++ p.cps) l.toArray) = _
    rw [glue_fold]
    simp
theorem sum_len : ∀ ls : List (List Nat), ((ls.map fun l => (⟨l.toArray⟩ : PySem.Str)).map (·.length)).sum = ls.flatten.length
  | [] => rfl
  | l :: r => by
    rw [List.map_cons, List.map_cons, List.sum_cons, sum_len r, List.flatten_cons, List.length_append]
    simp [PySem.Str.length]
theorem joinD_t {ls : List (List Nat)} (h : ls.flatten.length ≤ 16777216) : joinD (txt []) (.lst (ls.map txt)) = some (txt ls.flatten) := by
  show (strsD (ls.map txt)).bind (joinS ⟨#[]⟩) = _
  rw [strsD_txt]
  show joinS ⟨#[]⟩ _ = _
  unfold joinS
  rw [sum_len, if_pos (by simpa [PySem.Str.length] using h)]
  have : PySem.Txt.join (⟨#[]⟩ : PySem.Str) (ls.map fun l => (⟨l.toArray⟩ : PySem.Str)) = ⟨ls.flatten.toArray⟩ := join_empty ls
  rw [this]
theorem revD_t {l : List Nat} (h : l.length ≤ 16777216) : revD (txt l) = some (txt l.reverse) := by
  have e : revD (txt l) = if (⟨l.toArray⟩ : PySem.Str).length ≤ 16777216 then some (.str (revS ⟨l.toArray⟩)) else none := rfl
  rw [e, if_pos (by simpa [PySem.Str.length] using h)]
  simp [revS]
theorem eqD_tt {a b : List Nat} : eqD (txt a) (txt b) = some (.bl (a == b)) := by
  rw [eqD_ss]
  have : ((⟨a.toArray⟩ : PySem.Str) == ⟨b.toArray⟩) = (a == b) := by
    rw [Bool.eq_iff_iff]
    simp
  rw [this]
theorem neD_tt {a b : List Nat} : neD (txt a) (txt b) = some (.bl (!(a == b))) := by
  rw [neD_ss]
  have : ((⟨a.toArray⟩ : PySem.Str) == ⟨b.toArray⟩) = (a == b) := by
    rw [Bool.eq_iff_iff]
    simp
  rw [this]
theorem itemsD_t {l : List Nat} : itemsD (txt l) = some (l.map fun n => txt [n]) := by
  rw [itemsD_str]
  simp [sign]
theorem isi_t_str {l : List Nat} : isiD "str" (txt l) = some (.bl true) := isi_str_str
theorem slD_take {l : List Nat} {k : Int} (h : l.length ≤ 16777216) (h0 : 0 ≤ k) : slD (txt l) none (some k) = some (txt (l.take k.toNat)) := by
  have e : slD (txt l) none (some k) = if (⟨l.toArray⟩ : PySem.Str).length ≤ 16777216 then some (.str (L2.cutS ⟨l.toArray⟩ none (some k))) else none := rfl
  rw [e, if_pos (by simpa [PySem.Str.length] using h)]
  unfold L2.cutS
  have e1 : (⟨l.toArray⟩ : PySem.Str).length = l.length := by simp [PySem.Str.length]
  rw [e1]
  have e2 : HT.sIx l.length l.length (some k) = min k.toNat l.length := by
    show (if k < 0 then _ else min k.toNat l.length) = _
    rw [if_neg (by omega)]
  rw [e2]
  show some (D.str ⟨_⟩) = _
  simp [HT.sIx]
theorem slD_drop {l : List Nat} {k : Int} (h : l.length ≤ 16777216) (h0 : 0 ≤ k) : slD (txt l) (some k) none = some (txt (l.drop k.toNat)) := by
  have e : slD (txt l) (some k) none = if (⟨l.toArray⟩ : PySem.Str).length ≤ 16777216 then some (.str (L2.cutS ⟨l.toArray⟩ (some k) none)) else none := rfl
  rw [e, if_pos (by simpa [PySem.Str.length] using h)]
  unfold L2.cutS
  have e1 : (⟨l.toArray⟩ : PySem.Str).length = l.length := by simp [PySem.Str.length]
  rw [e1]
  have e2 : HT.sIx l.length 0 (some k) = min k.toNat l.length := by
    show (if k < 0 then _ else min k.toNat l.length) = _
    rw [if_neg (by omega)]
  have e3 : HT.sIx l.length l.length none = l.length := rfl
  rw [e2, e3]
  have e4 : (List.drop (min k.toNat l.length) l).take (l.length - min k.toNat l.length) = l.drop k.toNat := by
    rw [List.take_of_length_le (by rw [List.length_drop]; omega)]
    by_cases hk : k.toNat ≤ l.length
    · rw [Nat.min_eq_left hk]
    · rw [List.drop_eq_nil_of_le (by omega), List.drop_eq_nil_of_le (by omega)]
  rw [show (⟨l.toArray⟩ : PySem.Str).cps.toList = l by simp, e4]
end Vl
namespace K14
open PySem PySem.Spec PyProof.Rows Vl
open L2 (FnScope defScope defBody defArgs nomark)
/-! ### the text -/
def topS (i : Nat) : Stmt := PySem.Challenge.pw_everyfield_k14_motions_of_tiles.main.body.getD i (.Pass ⟨0, 0, 0, 0⟩)
theorem bt_bool : bootBuiltins "bool" = some (.type "bool") := by decide +kernel
theorem bt_int : bootBuiltins "int" = some (.type "int") := by decide +kernel
theorem bt_isinstance : bootBuiltins "isinstance" = some (.builtin "isinstance") := by decide +kernel
theorem bt_len : bootBuiltins "len" = some (.builtin "len") := by decide +kernel
theorem bt_list : bootBuiltins "list" = some (.type "list") := by decide +kernel
theorem bt_min : bootBuiltins "min" = some (.builtin "min") := by decide +kernel
theorem bt_range : bootBuiltins "range" = some (.type "range") := by decide +kernel
theorem bt_str : bootBuiltins "str" = some (.type "str") := by decide +kernel
theorem bt_tuple : bootBuiltins "tuple" = some (.type "tuple") := by decide +kernel
abbrev s_is_number : Stmt := topS 6
abbrev s_is_motion : Stmt := topS 14
abbrev s_check_motion : Stmt := topS 15
abbrev s_turned : Stmt := topS 16
abbrev s_led_to : Stmt := topS 17
abbrev s_led : Stmt := topS 18
abbrev s_turned_twice : Stmt := topS 20
abbrev s_joined : Stmt := topS 19
abbrev s_both : Stmt := topS 21
abbrev s_undone : Stmt := topS 22
abbrev s_back : Stmt := topS 23
abbrev s_is_wall : Stmt := topS 12
abbrev s_check_wall : Stmt := topS 13
abbrev s_sign_at : Stmt := topS 24
abbrev s_led_wall : Stmt := topS 25
abbrev s_moved : Stmt := topS 26
abbrev s__law_mixed : Stmt := topS 28
abbrev s__law_numbers : Stmt := topS 29
abbrev s__law_draw : Stmt := topS 30
abbrev s__law_equal : Stmt := topS 31
abbrev s__law_all_equal : Stmt := topS 32
abbrev s__law_tiles : Stmt := topS 33
abbrev s__law_sign : Stmt := topS 34
abbrev s__law_led : Stmt := topS 35
abbrev s__law_motion : Stmt := topS 39
abbrev s_law : Stmt := topS 40
def c_LETTERS : D := .str "abcdefghijklmnopqrstuvwxyz"
def c_MOST_SIDE : D := .int (6)
def c_MOST_STEP : D := .int (100)
def c_TURNS : D := .tup [.tup [.int (1), .int (0), .int (0), .int (1)], .tup [.int (0), .int (1), .int (-1), .int (0)], .tup [.int (-1), .int (0), .int (0), .int (-1)], .tup [.int (0), .int (-1), .int (1), .int (0)], .tup [.int (1), .int (0), .int (0), .int (-1)], .tup [.int (0), .int (1), .int (1), .int (0)], .tup [.int (-1), .int (0), .int (0), .int (1)], .tup [.int (0), .int (-1), .int (-1), .int (0)]]
def exL : List String := ["BadFormation", "BadMove", "BadPoint"]
/-- what the written part tells -/
structure Fx (B : Bs) : Prop where
  d_is_number : DefF B "is_number" s_is_number ["value", "low", "high"]
  d_is_motion : DefF B "is_motion" s_is_motion ["value", "most"]
  d_check_motion : DefF B "check_motion" s_check_motion ["value"]
  d_turned : DefF B "turned" s_turned ["turn", "r", "c"]
  d_led_to : DefF B "led_to" s_led_to ["motion", "r", "c"]
  d_led : DefF B "led" s_led ["motion", "cell"]
  d_turned_twice : DefF B "turned_twice" s_turned_twice ["one", "other", "cell"]
  d_joined : DefF B "joined" s_joined ["one", "other"]
  d_both : DefF B "both" s_both ["one", "other"]
  d_undone : DefF B "undone" s_undone ["motion"]
  d_back : DefF B "back" s_back ["motion"]
  d_is_wall : DefF B "is_wall" s_is_wall ["value"]
  d_check_wall : DefF B "check_wall" s_check_wall ["value"]
  d_sign_at : DefF B "sign_at" s_sign_at ["wall", "r", "c"]
  d_led_wall : DefF B "led_wall" s_led_wall ["wall", "motion"]
  d_moved : DefF B "moved" s_moved ["wall", "motion"]
  d__law_mixed : DefF B "_law_mixed" s__law_mixed ["number", "k"]
  d__law_numbers : DefF B "_law_numbers" s__law_numbers ["script"]
  d__law_draw : DefF B "_law_draw" s__law_draw ["draws", "many"]
  d__law_equal : DefF B "_law_equal" s__law_equal ["actual", "due"]
  d__law_all_equal : DefF B "_law_all_equal" s__law_all_equal ["actual", "due"]
  d__law_tiles : DefF B "_law_tiles" s__law_tiles ["draws", "most"]
  d__law_sign : DefF B "_law_sign" s__law_sign ["wall", "r", "c"]
  d__law_led : DefF B "_law_led" s__law_led ["motion", "r", "c"]
  d__law_motion : DefF B "_law_motion" s__law_motion ["draws"]
  d_law : DefF B "law" s_law ["script"]
  z_bool : B.mg "bool" = none
  z_int : B.mg "int" = none
  z_isinstance : B.mg "isinstance" = none
  z_len : B.mg "len" = none
  z_list : B.mg "list" = none
  z_min : B.mg "min" = none
  z_range : B.mg "range" = none
  z_str : B.mg "str" = none
  z_tuple : B.mg "tuple" = none
  c_LETTERS : GConst B "LETTERS" c_LETTERS
  c_MOST_SIDE : GConst B "MOST_SIDE" c_MOST_SIDE
  c_MOST_STEP : GConst B "MOST_STEP" c_MOST_STEP
  c_TURNS : GConst B "TURNS" c_TURNS
  e_BadFormation : ExcF B "BadFormation" "BadFormation"
  e_BadMove : ExcF B "BadMove" "BadMove"
  e_BadPoint : ExcF B "BadPoint" "BadPoint"
  xm : ExmF B exL
/-! ### each def: its meaning, and that it has this meaning -/
theorem sc_is_number : FnScope ["value", "low", "high"] ["value", "low", "high"] (defScope s_is_number) := ⟨rfl, rfl, rfl, by decide +kernel, rfl, by decide +kernel, by decide +kernel⟩
noncomputable def body_is_number : M Out := retM (andV (isiM "int" (varM 0)) (andV (notV (isiM "bool" (varM 0))) (chM leV leV (varM 1) (varM 0) (varM 2))))
noncomputable def den_is_number : Den := fnDen 3 3 body_is_number
theorem vb_is_number {B : Bs} (h : Fx B) : VB ⟨B, ["value", "low", "high"], defScope s_is_number, 0, true, true, fun _ => true⟩ (defBody s_is_number) body_is_number := (b_one (s_ret (v_and (v_isi (v_var 0 rfl (.inl rfl)) rfl h.z_isinstance rfl h.z_int bt_int) (v_and (v_not (v_isi (v_var 0 rfl (.inl rfl)) rfl h.z_isinstance rfl h.z_bool bt_bool)) (v_one (v_chain (o_le rfl) (o_le rfl) (v_var 1 rfl (.inl rfl)) (v_var 0 rfl (.inl rfl)) (v_var 2 rfl (.inl rfl)) rfl))))))
theorem ok_is_number {B : Bs} (h : Fx B) : Callee B "is_number" den_is_number 1 := callee_mk h.d_is_number sc_is_number (vb_is_number h)
theorem sc_is_motion : FnScope ["value", "most"] ["value", "most"] (defScope s_is_motion) := ⟨rfl, rfl, rfl, by decide +kernel, rfl, by decide +kernel, by decide +kernel⟩
noncomputable def body_is_motion : M Out := seqM (ifM (orM (notM (truM (isiM "tuple" (varM 0)))) (orM (tstM (binM neD (lookM1 lenD (peekM 0)) (rtn (.int 3)))) (notM (truM (callM den_is_number (consM (ixvM 0 (rtn (.int 0))) (consM (rtn (.int 0)) (consM (rtn (.int 7)) (rtn []))))))))) (retM (rtn (.bl false))) (rtn .nx))
 (retM (andV (callM den_is_number (consM (ixvM 0 (rtn (.int 1))) (consM (unM negD (varM 1)) (consM (varM 1) (rtn []))))) (callM den_is_number (consM (ixvM 0 (rtn (.int 2))) (consM (unM negD (varM 1)) (consM (varM 1) (rtn [])))))))
noncomputable def den_is_motion : Den := fnDen 2 2 body_is_motion
theorem vb_is_motion {B : Bs} (h : Fx B) : VB ⟨B, ["value", "most"], defScope s_is_motion, 1, true, true, fun _ => true⟩ (defBody s_is_motion) body_is_motion := (b_cons (s_if (t_w (w_or (t_not (t_tru (v_isi (v_var 0 rfl (.inl rfl)) rfl h.z_isinstance rfl h.z_tuple bt_tuple))) (w_or (t_cmp (o_ne rfl) (v_ocall cal_len (o_peek 0 rfl (.inl rfl)) rfl h.z_len bt_len) v_int (nomark _)) (w_or1 (t_not (t_tru (v_call (ok_is_number h) (by show 1 ≤ 1; decide) rfl rfl (a_cons (v_ixv 0 rfl (.inl rfl) v_int) (a_cons v_int (a_cons v_int a_nil)))))))))) (b_one (s_ret v_bl)) b_nil)
 (b_one (s_ret (v_and (v_call (ok_is_number h) (by show 1 ≤ 1; decide) rfl rfl (a_cons (v_ixv 0 rfl (.inl rfl) v_int) (a_cons (v_neg (v_var 1 rfl (.inl rfl))) (a_cons (v_var 1 rfl (.inl rfl)) a_nil)))) (v_one (v_call (ok_is_number h) (by show 1 ≤ 1; decide) rfl rfl (a_cons (v_ixv 0 rfl (.inl rfl) v_int) (a_cons (v_neg (v_var 1 rfl (.inl rfl))) (a_cons (v_var 1 rfl (.inl rfl)) a_nil)))))))))
theorem ok_is_motion {B : Bs} (h : Fx B) : Callee B "is_motion" den_is_motion 2 := callee_mk h.d_is_motion sc_is_motion (vb_is_motion h)
theorem sc_check_motion : FnScope ["value"] ["value"] (defScope s_check_motion) := ⟨rfl, rfl, rfl, by decide +kernel, rfl, by decide +kernel, by decide +kernel⟩
noncomputable def body_check_motion : M Out := ifM (notM (truM (callM den_is_motion (consM (varM 0) (consM (rtn c_MOST_STEP) (rtn [])))))) (raiseM "BadMove") (rtn .nx)
noncomputable def den_check_motion : Den := fnDen 1 1 body_check_motion
theorem vb_check_motion {B : Bs} (h : Fx B) : VB ⟨B, ["value"], defScope s_check_motion, 2, true, true, fun _ => true⟩ (defBody s_check_motion) body_check_motion := (b_one (s_if (t_not (t_tru (v_call (ok_is_motion h) (by show 2 ≤ 2; decide) rfl rfl (a_cons (v_var 0 rfl (.inl rfl)) (a_cons (v_glob h.c_MOST_STEP rfl) a_nil))))) (b_one (s_raise rfl h.e_BadMove rfl)) b_nil))
theorem ok_check_motion {B : Bs} (h : Fx B) : Callee B "check_motion" den_check_motion 3 := callee_mk h.d_check_motion sc_check_motion (vb_check_motion h)
theorem sc_turned : FnScope ["turn", "r", "c", "a", "b", "d", "e"] ["turn", "r", "c"] (defScope s_turned) := ⟨rfl, rfl, rfl, by decide +kernel, rfl, by decide +kernel, by decide +kernel⟩
noncomputable def body_turned : M Out := seqM (asgM (ixM (rtn c_TURNS) (varM 0)) (untupM 4 (setsM (setM 3) (setsM (setM 4) (setsM (setM 5) (setsM (setM 6) (endM)))))))
 (retM (tupM (consM (binM addD (binM mulD (varM 3) (varM 1)) (binM mulD (varM 4) (varM 2))) (consM (binM addD (binM mulD (varM 5) (varM 1)) (binM mulD (varM 6) (varM 2))) (rtn [])))))
noncomputable def den_turned : Den := fnDen 3 7 body_turned
theorem vb_turned {B : Bs} (h : Fx B) : VB ⟨B, ["turn", "r", "c", "a", "b", "d", "e"], defScope s_turned, 0, true, true, fun _ => true⟩ (defBody s_turned) body_turned := (b_cons (s_asg (v_ix (v_glob h.c_TURNS rfl) (v_var 0 rfl (.inl rfl))) (g_tup 4 rfl (gs_cons (g_name 3 rfl (.inl rfl) (.inl rfl)) (gs_cons (g_name 4 rfl (.inl rfl) (.inl rfl)) (gs_cons (g_name 5 rfl (.inl rfl) (.inl rfl)) (gs_cons (g_name 6 rfl (.inl rfl) (.inl rfl)) gs_nil))))))
 (b_one (s_ret (v_tup (a_cons (v_op o_add (v_op o_mul (v_var 3 rfl (.inl rfl)) (v_var 1 rfl (.inl rfl))) (v_op o_mul (v_var 4 rfl (.inl rfl)) (v_var 2 rfl (.inl rfl)))) (a_cons (v_op o_add (v_op o_mul (v_var 5 rfl (.inl rfl)) (v_var 1 rfl (.inl rfl))) (v_op o_mul (v_var 6 rfl (.inl rfl)) (v_var 2 rfl (.inl rfl)))) a_nil))))))
theorem ok_turned {B : Bs} (h : Fx B) : Callee B "turned" den_turned 1 := callee_mk h.d_turned sc_turned (vb_turned h)
theorem sc_led_to : FnScope ["motion", "r", "c", "i", "j"] ["motion", "r", "c"] (defScope s_led_to) := ⟨rfl, rfl, rfl, by decide +kernel, rfl, by decide +kernel, by decide +kernel⟩
noncomputable def body_led_to : M Out := seqM (asgM (callM den_turned (consM (ixvM 0 (rtn (.int 0))) (consM (varM 1) (consM (varM 2) (rtn []))))) (untupM 2 (setsM (setM 3) (setsM (setM 4) (endM)))))
 (retM (tupM (consM (binM addD (varM 3) (ixvM 0 (rtn (.int 1)))) (consM (binM addD (varM 4) (ixvM 0 (rtn (.int 2)))) (rtn [])))))
noncomputable def den_led_to : Den := fnDen 3 5 body_led_to
theorem vb_led_to {B : Bs} (h : Fx B) : VB ⟨B, ["motion", "r", "c", "i", "j"], defScope s_led_to, 1, true, true, fun _ => true⟩ (defBody s_led_to) body_led_to := (b_cons (s_asg (v_call (ok_turned h) (by show 1 ≤ 1; decide) rfl rfl (a_cons (v_ixv 0 rfl (.inl rfl) v_int) (a_cons (v_var 1 rfl (.inl rfl)) (a_cons (v_var 2 rfl (.inl rfl)) a_nil)))) (g_tup 2 rfl (gs_cons (g_name 3 rfl (.inl rfl) (.inl rfl)) (gs_cons (g_name 4 rfl (.inl rfl) (.inl rfl)) gs_nil))))
 (b_one (s_ret (v_tup (a_cons (v_op o_add (v_var 3 rfl (.inl rfl)) (v_ixv 0 rfl (.inl rfl) v_int)) (a_cons (v_op o_add (v_var 4 rfl (.inl rfl)) (v_ixv 0 rfl (.inl rfl) v_int)) a_nil))))))
theorem ok_led_to {B : Bs} (h : Fx B) : Callee B "led_to" den_led_to 2 := callee_mk h.d_led_to sc_led_to (vb_led_to h)
theorem sc_led : FnScope ["motion", "cell", "one"] ["motion", "cell"] (defScope s_led) := ⟨rfl, rfl, rfl, by decide +kernel, rfl, by decide +kernel, by decide +kernel⟩
noncomputable def body_led : M Out := seqM (dropM (callM den_check_motion (consM (varM 0) (rtn []))))
 (seqM (ifM (orM (notM (truM (isiM "tuple" (varM 1)))) (tstM (binM neD (lookM1 lenD (peekM 1)) (rtn (.int 2))))) (raiseM "BadPoint") (rtn .nx))
 (seqM (ifM (truM (shutM (compM [2] (itM (varM 1)) (setM 2) (notM (truM (callM den_is_number (consM (varM 2) (consM (unM negD (rtn c_MOST_STEP)) (consM (rtn c_MOST_STEP) (rtn []))))))) (varM 2)))) (raiseM "BadPoint") (rtn .nx))
 (retM (callM den_led_to (consM (varM 0) (consM (ixvM 1 (rtn (.int 0))) (consM (ixvM 1 (rtn (.int 1))) (rtn []))))))))
noncomputable def den_led : Den := fnDen 2 3 body_led
theorem vb_led {B : Bs} (h : Fx B) : VB ⟨B, ["motion", "cell", "one"], defScope s_led, 3, true, true, fun _ => true⟩ (defBody s_led) body_led := (b_cons (s_expr (v_call (ok_check_motion h) (by show 3 ≤ 3; decide) rfl rfl (a_cons (v_var 0 rfl (.inl rfl)) a_nil)))
 (b_cons (s_if (t_w (w_or (t_not (t_tru (v_isi (v_var 1 rfl (.inl rfl)) rfl h.z_isinstance rfl h.z_tuple bt_tuple))) (w_or1 (t_cmp (o_ne rfl) (v_ocall cal_len (o_peek 1 rfl (.inl rfl)) rfl h.z_len bt_len) v_int (nomark _))))) (b_one (s_raise rfl h.e_BadPoint rfl)) b_nil)
 (b_cons (s_if (t_tru (v_f (f_lc [("one", 2)] rfl (by refine ⟨rfl, ?_, ?_, ?_, ?_⟩ <;> (try dsimp only [SC.blk]) <;> decide +kernel) (i_seq (v_var 1 rfl (.inl rfl))) (g_name 2 rfl (.inl rfl) (.inr rfl)) (ts_one (t_not (t_tru (v_call (ok_is_number h) (by show 1 ≤ 3; decide) rfl rfl (a_cons (v_var 2 rfl (.inl rfl)) (a_cons (v_neg (v_glob h.c_MOST_STEP rfl)) (a_cons (v_glob h.c_MOST_STEP rfl) a_nil))))))) (v_var 2 rfl (.inl rfl)) (by decide)))) (b_one (s_raise rfl h.e_BadPoint rfl)) b_nil)
 (b_one (s_ret (v_call (ok_led_to h) (by show 2 ≤ 3; decide) rfl rfl (a_cons (v_var 0 rfl (.inl rfl)) (a_cons (v_ixv 1 rfl (.inl rfl) v_int) (a_cons (v_ixv 1 rfl (.inl rfl) v_int) a_nil)))))))))
theorem ok_led {B : Bs} (h : Fx B) : Callee B "led" den_led 4 := callee_mk h.d_led sc_led (vb_led h)
theorem sc_turned_twice : FnScope ["one", "other", "cell", "i", "j"] ["one", "other", "cell"] (defScope s_turned_twice) := ⟨rfl, rfl, rfl, by decide +kernel, rfl, by decide +kernel, by decide +kernel⟩
noncomputable def body_turned_twice : M Out := seqM (asgM (callM den_turned (consM (ixvM 0 (rtn (.int 0))) (consM (ixvM 2 (rtn (.int 0))) (consM (ixvM 2 (rtn (.int 1))) (rtn []))))) (untupM 2 (setsM (setM 3) (setsM (setM 4) (endM)))))
 (retM (callM den_turned (consM (ixvM 1 (rtn (.int 0))) (consM (varM 3) (consM (varM 4) (rtn []))))))
noncomputable def den_turned_twice : Den := fnDen 3 5 body_turned_twice
theorem vb_turned_twice {B : Bs} (h : Fx B) : VB ⟨B, ["one", "other", "cell", "i", "j"], defScope s_turned_twice, 1, true, true, fun _ => true⟩ (defBody s_turned_twice) body_turned_twice := (b_cons (s_asg (v_call (ok_turned h) (by show 1 ≤ 1; decide) rfl rfl (a_cons (v_ixv 0 rfl (.inl rfl) v_int) (a_cons (v_ixv 2 rfl (.inl rfl) v_int) (a_cons (v_ixv 2 rfl (.inl rfl) v_int) a_nil)))) (g_tup 2 rfl (gs_cons (g_name 3 rfl (.inl rfl) (.inl rfl)) (gs_cons (g_name 4 rfl (.inl rfl) (.inl rfl)) gs_nil))))
 (b_one (s_ret (v_call (ok_turned h) (by show 1 ≤ 1; decide) rfl rfl (a_cons (v_ixv 1 rfl (.inl rfl) v_int) (a_cons (v_var 3 rfl (.inl rfl)) (a_cons (v_var 4 rfl (.inl rfl)) a_nil)))))))
theorem ok_turned_twice {B : Bs} (h : Fx B) : Callee B "turned_twice" den_turned_twice 2 := callee_mk h.d_turned_twice sc_turned_twice (vb_turned_twice h)
theorem sc_joined : FnScope ["one", "other", "here", "there", "turn", "same", "cell"] ["one", "other"] (defScope s_joined) := ⟨rfl, rfl, rfl, by decide +kernel, rfl, by decide +kernel, by decide +kernel⟩
noncomputable def body_joined : M Out := seqM (asgM (callM den_led_to (consM (varM 0) (consM (rtn (.int 0)) (consM (rtn (.int 0)) (rtn []))))) (setM 2))
 (seqM (asgM (callM den_led_to (consM (varM 1) (consM (ixvM 2 (rtn (.int 0))) (consM (ixvM 2 (rtn (.int 1))) (rtn []))))) (setM 3))
 (seqM (forM (bnd (consM (rtn (.int 8)) (rtn [])) (fun xs => opt (rng1 xs))) (setM 4) (seqM (asgM (shutM (compM [6] (itM (tupM (consM (tupM (consM (rtn (.int 1)) (consM (rtn (.int 0)) (rtn [])))) (consM (tupM (consM (rtn (.int 0)) (consM (rtn (.int 1)) (rtn [])))) (rtn []))))) (setM 6) (tstM (binM eqD (callM den_turned (consM (varM 4) (consM (ixvM 6 (rtn (.int 0))) (consM (ixvM 6 (rtn (.int 1))) (rtn []))))) (callM den_turned_twice (consM (varM 0) (consM (varM 1) (consM (varM 6) (rtn []))))))) (varM 6))) (setM 5))
 (ifM (tstM (binM eqD (lookM1 lenD (peekM 5)) (rtn (.int 2)))) (retM (tupM (consM (varM 4) (consM (ixvM 3 (rtn (.int 0))) (consM (ixvM 3 (rtn (.int 1))) (rtn [])))))) (rtn .nx))))
 (retM (rtn .non))))
noncomputable def den_joined : Den := fnDen 2 7 body_joined
theorem vb_joined {B : Bs} (h : Fx B) : VB ⟨B, ["one", "other", "here", "there", "turn", "same", "cell"], defScope s_joined, 2, true, true, fun _ => true⟩ (defBody s_joined) body_joined := (b_cons (s_set 2 rfl (.inl rfl) (.inl rfl) (v_call (ok_led_to h) (by show 2 ≤ 2; decide) rfl rfl (a_cons (v_var 0 rfl (.inr (.inl rfl))) (a_cons v_int (a_cons v_int a_nil)))))
 (b_cons (s_set 3 rfl (.inl rfl) (.inl rfl) (v_call (ok_led_to h) (by show 2 ≤ 2; decide) rfl rfl (a_cons (v_var 1 rfl (.inr (.inl rfl))) (a_cons (v_ixv 2 rfl (.inl rfl) v_int) (a_cons (v_ixv 2 rfl (.inl rfl) v_int) a_nil)))))
 (b_cons (s_for rfl (i_rng1 (a_cons v_int a_nil) rfl h.z_range) (g_name 4 rfl (.inr rfl) (.inl rfl)) (b_cons (s_setLc 5 [("cell", 6)] rfl rfl rfl (sw_of rfl rfl rfl (by decide +kernel)) (by refine ⟨rfl, ?_, ?_, ?_, ?_⟩ <;> (try dsimp only [SC.blk]) <;> decide +kernel) (i_seq (v_tup (a_cons (v_tup (a_cons v_int (a_cons v_int a_nil))) (a_cons (v_tup (a_cons v_int (a_cons v_int a_nil))) a_nil)))) (g_name 6 rfl (.inl rfl) (.inr rfl)) (ts_one (t_cmp (o_eq rfl) (v_call (ok_turned h) (by show 1 ≤ 2; decide) rfl rfl (a_cons (v_var 4 rfl (.inr (.inl rfl))) (a_cons (v_ixv 6 rfl (.inl rfl) v_int) (a_cons (v_ixv 6 rfl (.inl rfl) v_int) a_nil)))) (v_call (ok_turned_twice h) (by show 2 ≤ 2; decide) rfl rfl (a_cons (v_var 0 rfl (.inr (.inl rfl))) (a_cons (v_var 1 rfl (.inr (.inl rfl))) (a_cons (v_var 6 rfl (.inl rfl)) a_nil)))) (nomark _))) (v_var 6 rfl (.inl rfl)) (by decide))
 (b_one (s_if (t_cmp (o_eq rfl) (v_ocall cal_len (o_peek 5 rfl (.inl rfl)) rfl h.z_len bt_len) v_int (nomark _)) (b_one (s_ret (v_tup (a_cons (v_var 4 rfl (.inr (.inl rfl))) (a_cons (v_ixv 3 rfl (.inl rfl) v_int) (a_cons (v_ixv 3 rfl (.inl rfl) v_int) a_nil)))))) b_nil))))
 (b_one (s_ret v_non)))))
theorem ok_joined {B : Bs} (h : Fx B) : Callee B "joined" den_joined 3 := callee_mk h.d_joined sc_joined (vb_joined h)
theorem sc_both : FnScope ["one", "other"] ["one", "other"] (defScope s_both) := ⟨rfl, rfl, rfl, by decide +kernel, rfl, by decide +kernel, by decide +kernel⟩
noncomputable def body_both : M Out := seqM (dropM (callM den_check_motion (consM (varM 0) (rtn []))))
 (seqM (dropM (callM den_check_motion (consM (varM 1) (rtn []))))
 (retM (callM den_joined (consM (varM 0) (consM (varM 1) (rtn []))))))
noncomputable def den_both : Den := fnDen 2 2 body_both
theorem vb_both {B : Bs} (h : Fx B) : VB ⟨B, ["one", "other"], defScope s_both, 3, true, true, fun _ => true⟩ (defBody s_both) body_both := (b_cons (s_expr (v_call (ok_check_motion h) (by show 3 ≤ 3; decide) rfl rfl (a_cons (v_var 0 rfl (.inl rfl)) a_nil)))
 (b_cons (s_expr (v_call (ok_check_motion h) (by show 3 ≤ 3; decide) rfl rfl (a_cons (v_var 1 rfl (.inl rfl)) a_nil)))
 (b_one (s_ret (v_call (ok_joined h) (by show 3 ≤ 3; decide) rfl rfl (a_cons (v_var 0 rfl (.inl rfl)) (a_cons (v_var 1 rfl (.inl rfl)) a_nil)))))))
theorem ok_both {B : Bs} (h : Fx B) : Callee B "both" den_both 4 := callee_mk h.d_both sc_both (vb_both h)
theorem sc_undone : FnScope ["motion", "turn", "found"] ["motion"] (defScope s_undone) := ⟨rfl, rfl, rfl, by decide +kernel, rfl, by decide +kernel, by decide +kernel⟩
noncomputable def body_undone : M Out := seqM (forM (bnd (consM (rtn (.int 8)) (rtn [])) (fun xs => opt (rng1 xs))) (setM 1) (seqM (asgM (callM den_joined (consM (varM 0) (consM (tupM (consM (varM 1) (consM (rtn (.int 0)) (consM (rtn (.int 0)) (rtn []))))) (rtn [])))) (setM 2))
 (ifM (tstM (binM eqD (ixvM 2 (rtn (.int 0))) (rtn (.int 0)))) (retM (tupM (consM (varM 1) (consM (unM negD (ixvM 2 (rtn (.int 1)))) (consM (unM negD (ixvM 2 (rtn (.int 2)))) (rtn [])))))) (rtn .nx))))
 (retM (rtn .non))
noncomputable def den_undone : Den := fnDen 1 3 body_undone
theorem vb_undone {B : Bs} (h : Fx B) : VB ⟨B, ["motion", "turn", "found"], defScope s_undone, 3, true, true, fun _ => true⟩ (defBody s_undone) body_undone := (b_cons (s_for rfl (i_rng1 (a_cons v_int a_nil) rfl h.z_range) (g_name 1 rfl (.inl rfl) (.inl rfl)) (b_cons (s_set 2 rfl (.inl rfl) (.inl rfl) (v_call (ok_joined h) (by show 3 ≤ 3; decide) rfl rfl (a_cons (v_var 0 rfl (.inl rfl)) (a_cons (v_tup (a_cons (v_var 1 rfl (.inl rfl)) (a_cons v_int (a_cons v_int a_nil)))) a_nil))))
 (b_one (s_if (t_cmp (o_eq rfl) (v_ixv 2 rfl (.inl rfl) v_int) v_int (nomark _)) (b_one (s_ret (v_tup (a_cons (v_var 1 rfl (.inl rfl)) (a_cons (v_neg (v_ixv 2 rfl (.inl rfl) v_int)) (a_cons (v_neg (v_ixv 2 rfl (.inl rfl) v_int)) a_nil)))))) b_nil))))
 (b_one (s_ret v_non)))
theorem ok_undone {B : Bs} (h : Fx B) : Callee B "undone" den_undone 4 := callee_mk h.d_undone sc_undone (vb_undone h)
theorem sc_back : FnScope ["motion"] ["motion"] (defScope s_back) := ⟨rfl, rfl, rfl, by decide +kernel, rfl, by decide +kernel, by decide +kernel⟩
noncomputable def body_back : M Out := seqM (dropM (callM den_check_motion (consM (varM 0) (rtn []))))
 (retM (callM den_undone (consM (varM 0) (rtn []))))
noncomputable def den_back : Den := fnDen 1 1 body_back
theorem vb_back {B : Bs} (h : Fx B) : VB ⟨B, ["motion"], defScope s_back, 4, true, true, fun _ => true⟩ (defBody s_back) body_back := (b_cons (s_expr (v_call (ok_check_motion h) (by show 3 ≤ 4; decide) rfl rfl (a_cons (v_var 0 rfl (.inl rfl)) a_nil)))
 (b_one (s_ret (v_call (ok_undone h) (by show 4 ≤ 4; decide) rfl rfl (a_cons (v_var 0 rfl (.inl rfl)) a_nil)))))
theorem ok_back {B : Bs} (h : Fx B) : Callee B "back" den_back 5 := callee_mk h.d_back sc_back (vb_back h)
theorem sc_is_wall : FnScope ["value", "row", "sign"] ["value"] (defScope s_is_wall) := ⟨rfl, rfl, rfl, by decide +kernel, rfl, by decide +kernel, by decide +kernel⟩
noncomputable def body_is_wall : M Out := seqM (ifM (orM (notM (truM (isiM "list" (varM 0)))) (notM (tstM (chM leV leV (rtn (.int 1)) (lookM1 lenD (peekM 0)) (rtn c_MOST_SIDE))))) (retM (rtn (.bl false))) (rtn .nx))
 (seqM (ifM (orM (notM (truM (isiM "str" (ixvM 0 (rtn (.int 0)))))) (notM (tstM (chM leV leV (rtn (.int 1)) (lookM1 lenD (lookM (ixvM 0 (rtn (.int 0))))) (rtn c_MOST_SIDE))))) (retM (rtn (.bl false))) (rtn .nx))
 (seqM (forM (itM (varM 0)) (setM 1) (ifM (orM (notM (truM (isiM "str" (varM 1)))) (orM (tstM (binM neD (lookM1 lenD (peekM 1)) (lookM1 lenD (lookM (ixvM 0 (rtn (.int 0))))))) (truM (shutM (compM [2] (itM (varM 1)) (setM 2) (tstM (binM notInD (varM 2) (lookM (rtn c_LETTERS)))) (varM 2)))))) (retM (rtn (.bl false))) (rtn .nx)))
 (retM (rtn (.bl true)))))
noncomputable def den_is_wall : Den := fnDen 1 3 body_is_wall
theorem vb_is_wall {B : Bs} (h : Fx B) : VB ⟨B, ["value", "row", "sign"], defScope s_is_wall, 0, true, true, fun _ => true⟩ (defBody s_is_wall) body_is_wall := (b_cons (s_if (t_w (w_or (t_not (t_tru (v_isi (v_var 0 rfl (.inl rfl)) rfl h.z_isinstance rfl h.z_list bt_list))) (w_or1 (t_not (t_chain (o_le rfl) (o_le rfl) v_int (v_ocall cal_len (o_peek 0 rfl (.inl rfl)) rfl h.z_len bt_len) (v_glob h.c_MOST_SIDE rfl) rfl))))) (b_one (s_ret v_bl)) b_nil)
 (b_cons (s_if (t_w (w_or (t_not (t_tru (v_isi (v_ixv 0 rfl (.inl rfl) v_int) rfl h.z_isinstance rfl h.z_str bt_str))) (w_or1 (t_not (t_chain (o_le rfl) (o_le rfl) v_int (v_ocall cal_len (o_look (v_ixv 0 rfl (.inl rfl) v_int)) rfl h.z_len bt_len) (v_glob h.c_MOST_SIDE rfl) rfl))))) (b_one (s_ret v_bl)) b_nil)
 (b_cons (s_for rfl (i_seq (v_var 0 rfl (.inl rfl))) (g_name 1 rfl (.inl rfl) (.inl rfl)) (b_one (s_if (t_w (w_or (t_not (t_tru (v_isi (v_var 1 rfl (.inl rfl)) rfl h.z_isinstance rfl h.z_str bt_str))) (w_or (t_cmp (o_ne rfl) (v_ocall cal_len (o_peek 1 rfl (.inl rfl)) rfl h.z_len bt_len) (v_ocall cal_len (o_look (v_ixv 0 rfl (.inl rfl) v_int)) rfl h.z_len bt_len) (nomark _)) (w_or1 (t_tru (v_f (f_lc [("sign", 2)] rfl (by refine ⟨rfl, ?_, ?_, ?_, ?_⟩ <;> (try dsimp only [SC.blk]) <;> decide +kernel) (i_seq (v_var 1 rfl (.inl rfl))) (g_name 2 rfl (.inl rfl) (.inr rfl)) (ts_one (t_cmpW (w_notIn rfl) (v_var 2 rfl (.inl rfl)) (o_look (v_glob h.c_LETTERS rfl)) rfl)) (v_var 2 rfl (.inl rfl)) (by decide)))))))) (b_one (s_ret v_bl)) b_nil)))
 (b_one (s_ret v_bl)))))
theorem ok_is_wall {B : Bs} (h : Fx B) : Callee B "is_wall" den_is_wall 1 := callee_mk h.d_is_wall sc_is_wall (vb_is_wall h)
theorem sc_check_wall : FnScope ["value"] ["value"] (defScope s_check_wall) := ⟨rfl, rfl, rfl, by decide +kernel, rfl, by decide +kernel, by decide +kernel⟩
noncomputable def body_check_wall : M Out := ifM (notM (truM (callM den_is_wall (consM (varM 0) (rtn []))))) (raiseM "BadFormation") (rtn .nx)
noncomputable def den_check_wall : Den := fnDen 1 1 body_check_wall
theorem vb_check_wall {B : Bs} (h : Fx B) : VB ⟨B, ["value"], defScope s_check_wall, 1, true, true, fun _ => true⟩ (defBody s_check_wall) body_check_wall := (b_one (s_if (t_not (t_tru (v_call (ok_is_wall h) (by show 1 ≤ 1; decide) rfl rfl (a_cons (v_var 0 rfl (.inl rfl)) a_nil)))) (b_one (s_raise rfl h.e_BadFormation rfl)) b_nil))
theorem ok_check_wall {B : Bs} (h : Fx B) : Callee B "check_wall" den_check_wall 2 := callee_mk h.d_check_wall sc_check_wall (vb_check_wall h)
theorem sc_sign_at : FnScope ["wall", "r", "c"] ["wall", "r", "c"] (defScope s_sign_at) := ⟨rfl, rfl, rfl, by decide +kernel, rfl, by decide +kernel, by decide +kernel⟩
noncomputable def body_sign_at : M Out := retM (ixM (ixvM 0 (binM modD (varM 1) (lookM1 lenD (peekM 0)))) (binM modD (varM 2) (lookM1 lenD (lookM (ixvM 0 (rtn (.int 0)))))))
noncomputable def den_sign_at : Den := fnDen 3 3 body_sign_at
theorem vb_sign_at {B : Bs} (h : Fx B) : VB ⟨B, ["wall", "r", "c"], defScope s_sign_at, 0, true, true, fun _ => true⟩ (defBody s_sign_at) body_sign_at := (b_one (s_ret (v_ix (v_ixv 0 rfl (.inl rfl) (v_op o_mod (v_var 1 rfl (.inl rfl)) (v_ocall cal_len (o_peek 0 rfl (.inl rfl)) rfl h.z_len bt_len))) (v_op o_mod (v_var 2 rfl (.inl rfl)) (v_ocall cal_len (o_look (v_ixv 0 rfl (.inl rfl) v_int)) rfl h.z_len bt_len)))))
theorem ok_sign_at {B : Bs} (h : Fx B) : Callee B "sign_at" den_sign_at 1 := callee_mk h.d_sign_at sc_sign_at (vb_sign_at h)
theorem sc_led_wall : FnScope ["wall", "motion", "rows", "columns", "away", "found", "r", "row", "c", "i", "j"] ["wall", "motion"] (defScope s_led_wall) := ⟨rfl, rfl, rfl, by decide +kernel, rfl, by decide +kernel, by decide +kernel⟩
noncomputable def body_led_wall : M Out := seqM (parM 2 3 (consM (lookM1 lenD (peekM 0)) (consM (lookM1 lenD (lookM (ixvM 0 (rtn (.int 0))))) (rtn []))))
 (seqM (ifM (tstM (binM neD (binM mulD (binM fdivD (ixvM 1 (rtn (.int 0))) (rtn (.int 2))) (rtn (.int 2))) (ixvM 1 (rtn (.int 0))))) (parM 2 3 (consM (varM 3) (consM (varM 2) (rtn [])))) (rtn .nx))
 (seqM (asgM (callM den_undone (consM (varM 1) (rtn []))) (setM 4))
 (seqM (ownM 5 (lstM (rtn [])))
 (seqM (forM (bnd (consM (varM 2) (rtn [])) (fun xs => opt (rng1 xs))) (setM 6) (seqM (asgM (rtn (.str "")) (setM 7))
 (seqM (forM (bnd (consM (varM 3) (rtn [])) (fun xs => opt (rng1 xs))) (setM 8) (seqM (asgM (callM den_led_to (consM (varM 4) (consM (varM 6) (consM (varM 8) (rtn []))))) (untupM 2 (setsM (setM 9) (setsM (setM 10) (endM)))))
 (asgM (binM addD (varM 7) (callM den_sign_at (consM (varM 0) (consM (varM 9) (consM (varM 10) (rtn [])))))) (setM 7))))
 (dropM (mutvM appF 5 (consM (varM 7) (rtn [])))))))
 (retM (varM 5))))))
noncomputable def den_led_wall : Den := fnDen 2 11 body_led_wall
theorem vb_led_wall {B : Bs} (h : Fx B) : VB ⟨B, ["wall", "motion", "rows", "columns", "away", "found", "r", "row", "c", "i", "j"], defScope s_led_wall, 4, true, true, fun _ => true⟩ (defBody s_led_wall) body_led_wall := (b_cons (s_par 2 3 rfl rfl rfl (by decide) rfl rfl (a_cons (v_ocall cal_len (o_peek 0 rfl (.inl rfl)) rfl h.z_len bt_len) (a_cons (v_ocall cal_len (o_look (v_ixv 0 rfl (.inl rfl) v_int)) rfl h.z_len bt_len) a_nil)) (by intro env h; cases env; cases h; rfl))
 (b_cons (s_if (t_cmp (o_ne rfl) (v_op o_mul (v_op o_fdiv (v_ixv 1 rfl (.inl rfl) v_int) v_int) v_int) (v_ixv 1 rfl (.inl rfl) v_int) (nomark _)) (b_one (s_par 2 3 rfl rfl rfl (by decide) rfl rfl (a_cons (v_var 3 rfl (.inl rfl)) (a_cons (v_var 2 rfl (.inl rfl)) a_nil)) (by intro env h; cases env; cases h; rfl))) b_nil)
 (b_cons (s_set 4 rfl (.inl rfl) (.inl rfl) (v_call (ok_undone h) (by show 4 ≤ 4; decide) rfl rfl (a_cons (v_var 1 rfl (.inl rfl)) a_nil)))
 (b_cons (s_own 5 rfl (.inl rfl) (.inl rfl) (f_lst a_nil))
 (b_cons (s_for rfl (i_rng1 (a_cons (v_var 2 rfl (.inl rfl)) a_nil) rfl h.z_range) (g_name 6 rfl (.inl rfl) (.inl rfl)) (b_cons (s_set 7 rfl (.inl rfl) (.inl rfl) v_str)
 (b_cons (s_for rfl (i_rng1 (a_cons (v_var 3 rfl (.inl rfl)) a_nil) rfl h.z_range) (g_name 8 rfl (.inl rfl) (.inl rfl)) (b_cons (s_asg (v_call (ok_led_to h) (by show 2 ≤ 4; decide) rfl rfl (a_cons (v_var 4 rfl (.inl rfl)) (a_cons (v_var 6 rfl (.inl rfl)) (a_cons (v_var 8 rfl (.inl rfl)) a_nil)))) (g_tup 2 rfl (gs_cons (g_name 9 rfl (.inl rfl) (.inl rfl)) (gs_cons (g_name 10 rfl (.inl rfl) (.inl rfl)) gs_nil))))
 (b_one (s_set 7 rfl (.inl rfl) (.inl rfl) (v_op o_add (v_var 7 rfl (.inl rfl)) (v_call (ok_sign_at h) (by show 1 ≤ 4; decide) rfl rfl (a_cons (v_var 0 rfl (.inl rfl)) (a_cons (v_var 9 rfl (.inl rfl)) (a_cons (v_var 10 rfl (.inl rfl)) a_nil)))))))))
 (b_one (s_expr (v_mut 5 m_append rfl (.inl rfl) (a_cons (v_var 7 rfl (.inl rfl)) a_nil)))))))
 (b_one (s_ret (v_var 5 rfl (.inl rfl)))))))))
theorem ok_led_wall {B : Bs} (h : Fx B) : Callee B "led_wall" den_led_wall 5 := callee_mk h.d_led_wall sc_led_wall (vb_led_wall h)
theorem sc_moved : FnScope ["wall", "motion"] ["wall", "motion"] (defScope s_moved) := ⟨rfl, rfl, rfl, by decide +kernel, rfl, by decide +kernel, by decide +kernel⟩
noncomputable def body_moved : M Out := seqM (dropM (callM den_check_wall (consM (varM 0) (rtn []))))
 (seqM (dropM (callM den_check_motion (consM (varM 1) (rtn []))))
 (retM (callM den_led_wall (consM (varM 0) (consM (varM 1) (rtn []))))))
noncomputable def den_moved : Den := fnDen 2 2 body_moved
theorem vb_moved {B : Bs} (h : Fx B) : VB ⟨B, ["wall", "motion"], defScope s_moved, 5, true, true, fun _ => true⟩ (defBody s_moved) body_moved := (b_cons (s_expr (v_call (ok_check_wall h) (by show 2 ≤ 5; decide) rfl rfl (a_cons (v_var 0 rfl (.inl rfl)) a_nil)))
 (b_cons (s_expr (v_call (ok_check_motion h) (by show 3 ≤ 5; decide) rfl rfl (a_cons (v_var 1 rfl (.inl rfl)) a_nil)))
 (b_one (s_ret (v_call (ok_led_wall h) (by show 5 ≤ 5; decide) rfl rfl (a_cons (v_var 0 rfl (.inl rfl)) (a_cons (v_var 1 rfl (.inl rfl)) a_nil)))))))
theorem ok_moved {B : Bs} (h : Fx B) : Callee B "moved" den_moved 6 := callee_mk h.d_moved sc_moved (vb_moved h)
theorem sc__law_mixed : FnScope ["number", "k", "step"] ["number", "k"] (defScope s__law_mixed) := ⟨rfl, rfl, rfl, by decide +kernel, rfl, by decide +kernel, by decide +kernel⟩
theorem vb__law_mixed {B : Bs} (h : Fx B) : VB ⟨B, ["number", "k", "step"], defScope s__law_mixed, 0, true, true, fun _ => true⟩ (defBody s__law_mixed) P.body__law_mixed := (b_cons (s_set 2 rfl (.inl rfl) (.inl rfl) (v_op o_mod (v_op o_add (v_op o_add (v_op o_mul (v_var 0 rfl (.inl rfl)) v_int) (v_op o_mul (v_var 1 rfl (.inl rfl)) v_int)) v_int) v_int))
 (b_one (s_ret (v_op o_mod (v_op o_add (v_op o_mul (v_var 2 rfl (.inl rfl)) (v_op o_add (v_op o_fdiv (v_var 2 rfl (.inl rfl)) v_int) v_int)) (v_var 1 rfl (.inl rfl))) v_int))))
theorem ok__law_mixed {B : Bs} (h : Fx B) : Callee B "_law_mixed" P.den__law_mixed 1 := callee_mk h.d__law_mixed sc__law_mixed (vb__law_mixed h)
theorem sc__law_numbers : FnScope ["script", "numbers", "cell", "rest", "k"] ["script"] (defScope s__law_numbers) := ⟨rfl, rfl, rfl, by decide +kernel, rfl, by decide +kernel, by decide +kernel⟩
theorem vb__law_numbers {B : Bs} (h : Fx B) : VB ⟨B, ["script", "numbers", "cell", "rest", "k"], defScope s__law_numbers, 1, true, true, fun _ => true⟩ (defBody s__law_numbers) P.body__law_numbers := (b_cons (s_own 1 rfl (.inl rfl) (.inl rfl) (f_lst a_nil))
 (b_cons (s_for rfl (i_seq (v_var 0 rfl (.inl rfl))) (g_name 2 rfl (.inl rfl) (.inl rfl)) (b_one (s_if (t_cmp (o_ge rfl) (v_var 2 rfl (.inl rfl)) (v_op o_pow v_int v_int) (nomark _)) (b_cons (s_set 3 rfl (.inl rfl) (.inl rfl) (v_var 2 rfl (.inl rfl)))
 (b_one (s_for rfl (i_rng1 (a_cons v_int a_nil) rfl h.z_range) (g_name 4 rfl (.inl rfl) (.inl rfl)) (b_one (s_if (t_cmp (o_gt rfl) (v_var 3 rfl (.inl rfl)) v_int (nomark _)) (b_cons (s_expr (v_mut 1 m_append rfl (.inl rfl) (a_cons (v_op o_mod (v_var 3 rfl (.inl rfl)) v_int) a_nil)))
 (b_one (s_set 3 rfl (.inl rfl) (.inl rfl) (v_op o_fdiv (v_var 3 rfl (.inl rfl)) v_int)))) b_nil))))) (b_cons (s_expr (v_mut 1 m_append rfl (.inl rfl) (a_cons (v_op o_mod (v_var 2 rfl (.inl rfl)) v_int) a_nil)))
 (b_one (s_for rfl (i_rng1 (a_cons v_int a_nil) rfl h.z_range) (g_name 4 rfl (.inl rfl) (.inl rfl)) (b_one (s_expr (v_mut 1 m_append rfl (.inl rfl) (a_cons (v_op o_mod (v_call (ok__law_mixed h) (by show 1 ≤ 1; decide) rfl rfl (a_cons (v_call (ok__law_mixed h) (by show 1 ≤ 1; decide) rfl rfl (a_cons (v_op o_mod (v_var 2 rfl (.inl rfl)) v_int) (a_cons (v_var 4 rfl (.inl rfl)) a_nil))) (a_cons (v_op o_add (v_var 4 rfl (.inl rfl)) v_int) a_nil))) v_int) a_nil))))))))))
 (b_one (s_ret (v_var 1 rfl (.inl rfl))))))
theorem ok__law_numbers {B : Bs} (h : Fx B) : Callee B "_law_numbers" P.den__law_numbers 2 := callee_mk h.d__law_numbers sc__law_numbers (vb__law_numbers h)
theorem sc__law_draw : FnScope ["draws", "many", "at", "first"] ["draws", "many"] (defScope s__law_draw) := ⟨rfl, rfl, rfl, by decide +kernel, rfl, by decide +kernel, by decide +kernel⟩
theorem vb__law_draw {B : Bs} (h : Fx B) : VB ⟨B, ["draws", "many", "at", "first"], defScope s__law_draw, 1, true, true, fun _ => true⟩ (defBody s__law_draw) P.body__law_draw := (b_cons (s_set 2 rfl (.inl rfl) (.inl rfl) (v_ixv 0 rfl (.inl rfl) v_int))
 (b_cons (s_asg (v_op o_add (v_var 2 rfl (.inl rfl)) v_int) (g_set 0 rfl (.inl rfl) v_int))
 (b_cons (s_if (t_cmp (o_lt rfl) (v_var 2 rfl (.inl rfl)) (v_ocall cal_len (o_look (v_ixv 0 rfl (.inl rfl) v_int)) rfl h.z_len bt_len) (nomark _)) (b_one (s_ret (v_op o_mod (v_ix (v_ixv 0 rfl (.inl rfl) v_int) (v_var 2 rfl (.inl rfl))) (v_var 1 rfl (.inl rfl))))) b_nil)
 (b_cons (s_set 3 rfl (.inl rfl) (.inl rfl) (v_op o_add v_int (v_var 2 rfl (.inl rfl))))
 (b_cons (s_if (t_cmp (o_gt rfl) (v_ocall cal_len (o_look (v_ixv 0 rfl (.inl rfl) v_int)) rfl h.z_len bt_len) v_int (nomark _)) (b_one (s_set 3 rfl (.inl rfl) (.inl rfl) (v_op o_add (v_var 3 rfl (.inl rfl)) (v_op o_mul v_int (v_ix (v_ixv 0 rfl (.inl rfl) v_int) v_int))))) b_nil)
 (b_one (s_ret (v_op o_mod (v_op o_fdiv (v_call (ok__law_mixed h) (by show 1 ≤ 1; decide) rfl rfl (a_cons (v_call (ok__law_mixed h) (by show 1 ≤ 1; decide) rfl rfl (a_cons (v_var 3 rfl (.inl rfl)) (a_cons (v_var 2 rfl (.inl rfl)) a_nil))) (a_cons v_int a_nil))) v_int) (v_var 1 rfl (.inl rfl))))))))))
theorem ok__law_draw {B : Bs} (h : Fx B) : Callee B "_law_draw" P.den__law_draw 2 := callee_mk h.d__law_draw sc__law_draw (vb__law_draw h)
theorem sc__law_equal : FnScope ["actual", "due"] ["actual", "due"] (defScope s__law_equal) := ⟨rfl, rfl, rfl, by decide +kernel, rfl, by decide +kernel, by decide +kernel⟩
theorem sc__law_all_equal : FnScope ["actual", "due", "k"] ["actual", "due"] (defScope s__law_all_equal) := ⟨rfl, rfl, rfl, by decide +kernel, rfl, by decide +kernel, by decide +kernel⟩
theorem okg__law_equal {B : Bs} (h : Fx B) : ∀ n, Callee B "_law_equal" (P.den__law_equal n) (0 + n + 1) ∧ Callee B "_law_all_equal" (P.den__law_all_equal n) (0 + n + 1)
  | 0 => ⟨callee_none h.d__law_equal sc__law_equal, callee_none h.d__law_all_equal sc__law_all_equal⟩
  | n + 1 => by
    have ih := okg__law_equal h n
    obtain ⟨ih__law_equal, ih__law_all_equal⟩ := ih
    exact ⟨(by rw [P.den__law_equal]; exact callee_mk (k := 0 + n + 1) h.d__law_equal sc__law_equal (b_cons (s_if (t_tru (v_isi (v_var 1 rfl (.inl rfl)) rfl h.z_isinstance rfl h.z_list bt_list)) (b_one (s_ret (v_and (v_isi (v_var 0 rfl (.inl rfl)) rfl h.z_isinstance rfl h.z_list bt_list) (v_and (v_cmp (o_eq rfl) (v_ocall cal_len (o_peek 0 rfl (.inl rfl)) rfl h.z_len bt_len) (v_ocall cal_len (o_peek 1 rfl (.inl rfl)) rfl h.z_len bt_len) (nomark _)) (v_one (v_call ih__law_all_equal (Nat.le_refl _) rfl rfl (a_cons (v_var 0 rfl (.inl rfl)) (a_cons (v_var 1 rfl (.inl rfl)) a_nil)))))))) b_nil)
 (b_cons (s_if (t_tru (v_isi (v_var 1 rfl (.inl rfl)) rfl h.z_isinstance rfl h.z_tuple bt_tuple)) (b_one (s_ret (v_and (v_isi (v_var 0 rfl (.inl rfl)) rfl h.z_isinstance rfl h.z_tuple bt_tuple) (v_and (v_cmp (o_eq rfl) (v_ocall cal_len (o_peek 0 rfl (.inl rfl)) rfl h.z_len bt_len) (v_ocall cal_len (o_peek 1 rfl (.inl rfl)) rfl h.z_len bt_len) (nomark _)) (v_one (v_call ih__law_all_equal (Nat.le_refl _) rfl rfl (a_cons (v_var 0 rfl (.inl rfl)) (a_cons (v_var 1 rfl (.inl rfl)) a_nil)))))))) b_nil)
 (b_cons (s_if (t_tru (v_isi (v_var 1 rfl (.inl rfl)) rfl h.z_isinstance rfl h.z_bool bt_bool)) (b_one (s_ret (v_and (v_isi (v_var 0 rfl (.inl rfl)) rfl h.z_isinstance rfl h.z_bool bt_bool) (v_one (v_cmp (o_eq rfl) (v_var 0 rfl (.inl rfl)) (v_var 1 rfl (.inl rfl)) (nomark _)))))) b_nil)
 (b_cons (s_if (t_tru (v_isi (v_var 1 rfl (.inl rfl)) rfl h.z_isinstance rfl h.z_int bt_int)) (b_one (s_ret (v_and (v_isi (v_var 0 rfl (.inl rfl)) rfl h.z_isinstance rfl h.z_int bt_int) (v_and (v_not (v_isi (v_var 0 rfl (.inl rfl)) rfl h.z_isinstance rfl h.z_bool bt_bool)) (v_one (v_cmp (o_eq rfl) (v_var 0 rfl (.inl rfl)) (v_var 1 rfl (.inl rfl)) (nomark _))))))) b_nil)
 (b_cons (s_if (t_tru (v_isi (v_var 1 rfl (.inl rfl)) rfl h.z_isinstance rfl h.z_str bt_str)) (b_one (s_ret (v_and (v_isi (v_var 0 rfl (.inl rfl)) rfl h.z_isinstance rfl h.z_str bt_str) (v_one (v_cmp (o_eq rfl) (v_var 0 rfl (.inl rfl)) (v_var 1 rfl (.inl rfl)) (nomark _)))))) b_nil)
 (b_one (s_ret (v_cmp o_isN (v_var 0 rfl (.inl rfl)) v_non (nomark _)))))))))),
      (by rw [P.den__law_all_equal]; exact callee_mk (k := 0 + n + 1) h.d__law_all_equal sc__law_all_equal (b_cons (s_for rfl (i_rng1 (a_cons (v_ocall cal_len (o_peek 1 rfl (.inl rfl)) rfl h.z_len bt_len) a_nil) rfl h.z_range) (g_name 2 rfl (.inl rfl) (.inl rfl)) (b_one (s_if (t_not (t_tru (v_call ih__law_equal (Nat.le_refl _) rfl rfl (a_cons (v_ixv 0 rfl (.inl rfl) (v_var 2 rfl (.inl rfl))) (a_cons (v_ixv 1 rfl (.inl rfl) (v_var 2 rfl (.inl rfl))) a_nil))))) (b_one (s_ret v_bl)) b_nil)))
 (b_one (s_ret v_bl))))⟩
theorem ok__law_equal {B : Bs} (h : Fx B) (n : Nat) : Callee B "_law_equal" (P.den__law_equal n) (0 + n + 1) := (okg__law_equal h n).1
theorem ok__law_all_equal {B : Bs} (h : Fx B) (n : Nat) : Callee B "_law_all_equal" (P.den__law_all_equal n) (0 + n + 1) := (okg__law_equal h n).2
theorem sc__law_tiles : FnScope ["draws", "most", "rows", "columns", "signs", "wall", "pick", "r", "c", "row"] ["draws", "most"] (defScope s__law_tiles) := ⟨rfl, rfl, rfl, by decide +kernel, rfl, by decide +kernel, by decide +kernel⟩
noncomputable def body__law_tiles : M Out := seqM (asgM (tupM (consM (binM addD (rtn (.int 1)) (callM P.den__law_draw (consM (varM 0) (consM (varM 1) (rtn []))))) (consM (binM addD (rtn (.int 1)) (callM P.den__law_draw (consM (varM 0) (consM (varM 1) (rtn []))))) (rtn [])))) (untupM 2 (setsM (setM 2) (setsM (setM 3) (endM)))))
 (seqM (asgM (ixM (shutM (lstM (consM (rtn (.str "ab")) (consM (rtn (.str "ab")) (consM (rtn (.str "abz")) (rtn [])))))) (callM P.den__law_draw (consM (varM 0) (consM (rtn (.int 3)) (rtn []))))) (setM 4))
 (seqM (asgM (shutM (compM [7] (bnd (consM (varM 2) (rtn [])) (fun xs => opt (rng1 xs))) (setM 7) (rtn true) (joinM (rtn (.str "")) (shutM (compM [8] (bnd (consM (varM 3) (rtn [])) (fun xs => opt (rng1 xs))) (setM 8) (rtn true) (ixvM 4 (callM P.den__law_draw (consM (varM 0) (consM (lookM1 lenD (peekM 4)) (rtn [])))))))))) (setM 5))
 (seqM (asgM (callM P.den__law_draw (consM (varM 0) (consM (rtn (.int 6)) (rtn [])))) (setM 6))
 (seqM (ifM (tstM (binM eqD (varM 6) (rtn (.int 0)))) (asgM (binM addD (varM 5) (revM (varM 5))) (setM 5)) (rtn .nx))
 (seqM (ifM (tstM (binM eqD (varM 6) (rtn (.int 1)))) (asgM (shutM (compM [9] (itM (varM 5)) (setM 9) (rtn true) (binM addD (varM 9) (revM (varM 9))))) (setM 5)) (rtn .nx))
 (seqM (ifM (tstM (binM eqD (varM 6) (rtn (.int 2)))) (asgM (binM addD (varM 5) (shutM (compM [9] (itM (revM (varM 5))) (setM 9) (rtn true) (revM (varM 9))))) (setM 5)) (rtn .nx))
 (seqM (ifM (andM (tstM (binM eqD (varM 6) (rtn (.int 3)))) (tstM (binM gtV (varM 3) (rtn (.int 1))))) (asgM (binM addD (varM 5) (shutM (compM [9] (itM (varM 5)) (setM 9) (rtn true) (binM addD (slM (varM 9) (partM (binM fdivD (varM 3) (rtn (.int 2)))) (rtn none)) (slM (varM 9) (rtn none) (partM (binM fdivD (varM 3) (rtn (.int 2))))))))) (setM 5)) (rtn .nx))
 (seqM (ifM (andM (tstM (binM eqD (varM 6) (rtn (.int 4)))) (tstM (binM eqD (varM 2) (varM 3)))) (asgM (shutM (compM [7] (bnd (consM (varM 2) (rtn [])) (fun xs => opt (rng1 xs))) (setM 7) (rtn true) (joinM (rtn (.str "")) (shutM (compM [8] (bnd (consM (varM 3) (rtn [])) (fun xs => opt (rng1 xs))) (setM 8) (rtn true) (bnd (consM (ixM (ixvM 5 (varM 7)) (varM 8)) (consM (ixM (ixvM 5 (varM 8)) (varM 7)) (rtn []))) min2F)))))) (setM 5)) (rtn .nx))
 (retM (varM 5))))))))))
noncomputable def den__law_tiles : Den := fnDen 2 10 body__law_tiles
theorem vb__law_tiles {B : Bs} (h : Fx B) : VB ⟨B, ["draws", "most", "rows", "columns", "signs", "wall", "pick", "r", "c", "row"], defScope s__law_tiles, 2, true, true, fun _ => true⟩ (defBody s__law_tiles) body__law_tiles := (b_cons (s_asg (v_tup (a_cons (v_op o_add v_int (v_call (ok__law_draw h) (by show 2 ≤ 2; decide) rfl rfl (a_cons (v_var 0 rfl (.inr (.inl rfl))) (a_cons (v_var 1 rfl (.inl rfl)) a_nil)))) (a_cons (v_op o_add v_int (v_call (ok__law_draw h) (by show 2 ≤ 2; decide) rfl rfl (a_cons (v_var 0 rfl (.inr (.inl rfl))) (a_cons (v_var 1 rfl (.inl rfl)) a_nil)))) a_nil))) (g_tup 2 rfl (gs_cons (g_name 2 rfl (.inl rfl) (.inl rfl)) (gs_cons (g_name 3 rfl (.inr rfl) (.inl rfl)) gs_nil))) (by intro env h; cases env; cases h; rfl) (by intro env h; cases env; cases h; rfl))
 (b_cons (s_set 4 rfl (.inr rfl) (.inl rfl) (v_ix (v_f (f_lst (a_cons v_str (a_cons v_str (a_cons v_str a_nil))))) (v_call (ok__law_draw h) (by show 2 ≤ 2; decide) rfl rfl (a_cons (v_var 0 rfl (.inr (.inl rfl))) (a_cons v_int a_nil)))))
 (b_cons (s_set 5 rfl (.inr rfl) (.inl rfl) (v_f (f_lc [("r", 7)] rfl (by refine ⟨rfl, ?_, ?_, ?_, ?_⟩ <;> (try dsimp only [SC.blk]) <;> decide +kernel) (i_rng1 (a_cons (v_var 2 rfl (.inl rfl)) a_nil) rfl h.z_range) (g_name 7 rfl (.inl rfl) (.inr rfl)) ts_nil (v_join v_str (v_f (f_lc [("c", 8)] rfl (by refine ⟨rfl, ?_, ?_, ?_, ?_⟩ <;> (try dsimp only [SC.blk]) <;> decide +kernel) (i_rng1 (a_cons (v_var 3 rfl (.inr (.inl rfl))) a_nil) rfl h.z_range) (g_name 8 rfl (.inl rfl) (.inr rfl)) ts_nil (v_ixv 4 rfl (.inr (.inl rfl)) (v_call (ok__law_draw h) (by show 2 ≤ 2; decide) rfl rfl (a_cons (v_var 0 rfl (.inr (.inl rfl))) (a_cons (v_ocall cal_len (o_peek 4 rfl (.inr (.inl rfl))) rfl h.z_len bt_len) a_nil)))) (by decide)))) (by decide))) (by intro env h; cases env; cases h; rfl))
 (b_cons (s_set 6 rfl (.inl rfl) (.inl rfl) (v_call (ok__law_draw h) (by show 2 ≤ 2; decide) rfl rfl (a_cons (v_var 0 rfl (.inr (.inl rfl))) (a_cons v_int a_nil))))
 (b_cons (s_if (t_cmp (o_eq rfl) (v_var 6 rfl (.inl rfl)) v_int (nomark _)) (b_one (s_set 5 rfl (.inr rfl) (.inl rfl) (v_op o_add (v_var 5 rfl (.inr (.inl rfl))) (v_rev (v_var 5 rfl (.inr (.inl rfl))))))) b_nil)
 (b_cons (s_if (t_cmp (o_eq rfl) (v_var 6 rfl (.inl rfl)) v_int (nomark _)) (b_one (s_set 5 rfl (.inr rfl) (.inl rfl) (v_f (f_lc [("row", 9)] rfl (by refine ⟨rfl, ?_, ?_, ?_, ?_⟩ <;> (try dsimp only [SC.blk]) <;> decide +kernel) (i_seq (v_var 5 rfl (.inr (.inl rfl)))) (g_name 9 rfl (.inl rfl) (.inr rfl)) ts_nil (v_op o_add (v_var 9 rfl (.inl rfl)) (v_rev (v_var 9 rfl (.inl rfl)))) (by decide))) (by intro env h; cases env; cases h; rfl))) b_nil)
 (b_cons (s_if (t_cmp (o_eq rfl) (v_var 6 rfl (.inl rfl)) v_int (nomark _)) (b_one (s_set 5 rfl (.inr rfl) (.inl rfl) (v_op o_add (v_var 5 rfl (.inr (.inl rfl))) (v_f (f_lc [("row", 9)] rfl (by refine ⟨rfl, ?_, ?_, ?_, ?_⟩ <;> (try dsimp only [SC.blk]) <;> decide +kernel) (i_seq (v_rev (v_var 5 rfl (.inr (.inl rfl))))) (g_name 9 rfl (.inl rfl) (.inr rfl)) ts_nil (v_rev (v_var 9 rfl (.inl rfl))) (by decide)))))) b_nil)
 (b_cons (s_if (t_w (w_and (t_cmp (o_eq rfl) (v_var 6 rfl (.inl rfl)) v_int (nomark _)) (w_and1 (t_cmp (o_gt rfl) (v_var 3 rfl (.inr (.inl rfl))) v_int (nomark _))))) (b_one (s_set 5 rfl (.inr rfl) (.inl rfl) (v_op o_add (v_var 5 rfl (.inr (.inl rfl))) (v_f (f_lc [("row", 9)] rfl (by refine ⟨rfl, ?_, ?_, ?_, ?_⟩ <;> (try dsimp only [SC.blk]) <;> decide +kernel) (i_seq (v_var 5 rfl (.inr (.inl rfl)))) (g_name 9 rfl (.inl rfl) (.inr rfl)) ts_nil (v_op o_add (v_sl (v_var 9 rfl (.inl rfl)) (p_some (v_op o_fdiv (v_var 3 rfl (.inr (.inl rfl))) v_int)) p_none) (v_sl (v_var 9 rfl (.inl rfl)) p_none (p_some (v_op o_fdiv (v_var 3 rfl (.inr (.inl rfl))) v_int)))) (by decide)))))) b_nil)
 (b_cons (s_if (t_w (w_and (t_cmp (o_eq rfl) (v_var 6 rfl (.inl rfl)) v_int (nomark _)) (w_and1 (t_cmp (o_eq rfl) (v_var 2 rfl (.inl rfl)) (v_var 3 rfl (.inr (.inl rfl))) (nomark _))))) (b_one (s_set 5 rfl (.inr rfl) (.inl rfl) (v_f (f_lc [("r", 7)] rfl (by refine ⟨rfl, ?_, ?_, ?_, ?_⟩ <;> (try dsimp only [SC.blk]) <;> decide +kernel) (i_rng1 (a_cons (v_var 2 rfl (.inl rfl)) a_nil) rfl h.z_range) (g_name 7 rfl (.inr rfl) (.inl rfl)) ts_nil (v_join v_str (v_f (f_lc [("c", 8)] rfl (by refine ⟨rfl, ?_, ?_, ?_, ?_⟩ <;> (try dsimp only [SC.blk]) <;> decide +kernel) (i_rng1 (a_cons (v_var 3 rfl (.inr (.inl rfl))) a_nil) rfl h.z_range) (g_name 8 rfl (.inl rfl) (.inr rfl)) ts_nil (v_bcall (cal_min2 rfl) (a_cons (v_ix (v_ixv 5 rfl (.inr (.inl rfl)) (v_var 7 rfl (.inr (.inl rfl)))) (v_var 8 rfl (.inl rfl))) (a_cons (v_ix (v_ixv 5 rfl (.inr (.inl rfl)) (v_var 8 rfl (.inl rfl))) (v_var 7 rfl (.inr (.inl rfl)))) a_nil)) rfl h.z_min bt_min) (by decide)))) (by decide))) (by intro env h; cases env; cases h; rfl))) b_nil)
 (b_one (s_ret (v_var 5 rfl (.inr (.inl rfl))))))))))))))
theorem ok__law_tiles {B : Bs} (h : Fx B) : Callee B "_law_tiles" den__law_tiles 3 := callee_mk h.d__law_tiles sc__law_tiles (vb__law_tiles h)
theorem sc__law_sign : FnScope ["wall", "r", "c"] ["wall", "r", "c"] (defScope s__law_sign) := ⟨rfl, rfl, rfl, by decide +kernel, rfl, by decide +kernel, by decide +kernel⟩
noncomputable def body__law_sign : M Out := retM (ixM (ixvM 0 (binM subD (varM 1) (binM mulD (binM fdivD (varM 1) (lookM1 lenD (peekM 0))) (lookM1 lenD (peekM 0))))) (binM subD (varM 2) (binM mulD (binM fdivD (varM 2) (lookM1 lenD (lookM (ixvM 0 (rtn (.int 0)))))) (lookM1 lenD (lookM (ixvM 0 (rtn (.int 0))))))))
noncomputable def den__law_sign : Den := fnDen 3 3 body__law_sign
theorem vb__law_sign {B : Bs} (h : Fx B) : VB ⟨B, ["wall", "r", "c"], defScope s__law_sign, 0, true, true, fun _ => true⟩ (defBody s__law_sign) body__law_sign := (b_one (s_ret (v_ix (v_ixv 0 rfl (.inl rfl) (v_op o_sub (v_var 1 rfl (.inl rfl)) (v_op o_mul (v_op o_fdiv (v_var 1 rfl (.inl rfl)) (v_ocall cal_len (o_peek 0 rfl (.inl rfl)) rfl h.z_len bt_len)) (v_ocall cal_len (o_peek 0 rfl (.inl rfl)) rfl h.z_len bt_len)))) (v_op o_sub (v_var 2 rfl (.inl rfl)) (v_op o_mul (v_op o_fdiv (v_var 2 rfl (.inl rfl)) (v_ocall cal_len (o_look (v_ixv 0 rfl (.inl rfl) v_int)) rfl h.z_len bt_len)) (v_ocall cal_len (o_look (v_ixv 0 rfl (.inl rfl) v_int)) rfl h.z_len bt_len))))))
theorem ok__law_sign {B : Bs} (h : Fx B) : Callee B "_law_sign" den__law_sign 1 := callee_mk h.d__law_sign sc__law_sign (vb__law_sign h)
theorem sc__law_led : FnScope ["motion", "r", "c", "turn", "dr", "dc", "i", "j"] ["motion", "r", "c"] (defScope s__law_led) := ⟨rfl, rfl, rfl, by decide +kernel, rfl, by decide +kernel, by decide +kernel⟩
noncomputable def body__law_led : M Out := seqM (asgM (varM 0) (untupM 3 (setsM (setM 3) (setsM (setM 4) (setsM (setM 5) (endM))))))
 (seqM (asgM (ixM (shutM (lstM (consM (tupM (consM (varM 1) (consM (varM 2) (rtn [])))) (consM (tupM (consM (varM 2) (consM (unM negD (varM 1)) (rtn [])))) (consM (tupM (consM (unM negD (varM 1)) (consM (unM negD (varM 2)) (rtn [])))) (consM (tupM (consM (unM negD (varM 2)) (consM (varM 1) (rtn [])))) (consM (tupM (consM (varM 1) (consM (unM negD (varM 2)) (rtn [])))) (consM (tupM (consM (varM 2) (consM (varM 1) (rtn [])))) (consM (tupM (consM (unM negD (varM 1)) (consM (varM 2) (rtn [])))) (consM (tupM (consM (unM negD (varM 2)) (consM (unM negD (varM 1)) (rtn [])))) (rtn []))))))))))) (varM 3)) (untupM 2 (setsM (setM 6) (setsM (setM 7) (endM)))))
 (retM (tupM (consM (binM addD (varM 6) (varM 4)) (consM (binM addD (varM 7) (varM 5)) (rtn []))))))
noncomputable def den__law_led : Den := fnDen 3 8 body__law_led
theorem vb__law_led {B : Bs} (h : Fx B) : VB ⟨B, ["motion", "r", "c", "turn", "dr", "dc", "i", "j"], defScope s__law_led, 0, true, true, fun _ => true⟩ (defBody s__law_led) body__law_led := (b_cons (s_asg (v_var 0 rfl (.inl rfl)) (g_tup 3 rfl (gs_cons (g_name 3 rfl (.inl rfl) (.inl rfl)) (gs_cons (g_name 4 rfl (.inl rfl) (.inl rfl)) (gs_cons (g_name 5 rfl (.inl rfl) (.inl rfl)) gs_nil)))))
 (b_cons (s_asg (v_ix (v_f (f_lst (a_cons (v_tup (a_cons (v_var 1 rfl (.inl rfl)) (a_cons (v_var 2 rfl (.inl rfl)) a_nil))) (a_cons (v_tup (a_cons (v_var 2 rfl (.inl rfl)) (a_cons (v_neg (v_var 1 rfl (.inl rfl))) a_nil))) (a_cons (v_tup (a_cons (v_neg (v_var 1 rfl (.inl rfl))) (a_cons (v_neg (v_var 2 rfl (.inl rfl))) a_nil))) (a_cons (v_tup (a_cons (v_neg (v_var 2 rfl (.inl rfl))) (a_cons (v_var 1 rfl (.inl rfl)) a_nil))) (a_cons (v_tup (a_cons (v_var 1 rfl (.inl rfl)) (a_cons (v_neg (v_var 2 rfl (.inl rfl))) a_nil))) (a_cons (v_tup (a_cons (v_var 2 rfl (.inl rfl)) (a_cons (v_var 1 rfl (.inl rfl)) a_nil))) (a_cons (v_tup (a_cons (v_neg (v_var 1 rfl (.inl rfl))) (a_cons (v_var 2 rfl (.inl rfl)) a_nil))) (a_cons (v_tup (a_cons (v_neg (v_var 2 rfl (.inl rfl))) (a_cons (v_neg (v_var 1 rfl (.inl rfl))) a_nil))) a_nil)))))))))) (v_var 3 rfl (.inl rfl))) (g_tup 2 rfl (gs_cons (g_name 6 rfl (.inl rfl) (.inl rfl)) (gs_cons (g_name 7 rfl (.inl rfl) (.inl rfl)) gs_nil))))
 (b_one (s_ret (v_tup (a_cons (v_op o_add (v_var 6 rfl (.inl rfl)) (v_var 4 rfl (.inl rfl))) (a_cons (v_op o_add (v_var 7 rfl (.inl rfl)) (v_var 5 rfl (.inl rfl))) a_nil)))))))
theorem ok__law_led {B : Bs} (h : Fx B) : Callee B "_law_led" den__law_led 1 := callee_mk h.d__law_led sc__law_led (vb__law_led h)
theorem sc__law_motion : FnScope ["draws"] ["draws"] (defScope s__law_motion) := ⟨rfl, rfl, rfl, by decide +kernel, rfl, by decide +kernel, by decide +kernel⟩
noncomputable def body__law_motion : M Out := retM (tupM (consM (callM P.den__law_draw (consM (varM 0) (consM (rtn (.int 8)) (rtn [])))) (consM (binM subD (callM P.den__law_draw (consM (varM 0) (consM (rtn (.int 201)) (rtn [])))) (rtn (.int 100))) (consM (binM subD (callM P.den__law_draw (consM (varM 0) (consM (rtn (.int 201)) (rtn [])))) (rtn (.int 100))) (rtn [])))))
noncomputable def den__law_motion : Den := fnDen 1 1 body__law_motion
theorem vb__law_motion {B : Bs} (h : Fx B) : VB ⟨B, ["draws"], defScope s__law_motion, 2, true, true, fun _ => true⟩ (defBody s__law_motion) body__law_motion := (b_one (s_ret (v_tup (a_cons (v_call (ok__law_draw h) (by show 2 ≤ 2; decide) rfl rfl (a_cons (v_var 0 rfl (.inl rfl)) (a_cons v_int a_nil))) (a_cons (v_op o_sub (v_call (ok__law_draw h) (by show 2 ≤ 2; decide) rfl rfl (a_cons (v_var 0 rfl (.inl rfl)) (a_cons v_int a_nil))) v_int) (a_cons (v_op o_sub (v_call (ok__law_draw h) (by show 2 ≤ 2; decide) rfl rfl (a_cons (v_var 0 rfl (.inl rfl)) (a_cons v_int a_nil))) v_int) a_nil))))))
theorem ok__law_motion {B : Bs} (h : Fx B) : Callee B "_law_motion" den__law_motion 3 := callee_mk h.d__law_motion sc__law_motion (vb__law_motion h)
theorem sc_law : FnScope ["script", "draws", "wall", "one", "other", "cell", "there", "joint", "r", "c", "here", "told", "rows", "columns", "i", "j", "bad", "row"] ["script"] (defScope s_law) := ⟨rfl, rfl, rfl, by decide +kernel, rfl, by decide +kernel, by decide +kernel⟩
noncomputable def body_law : M Out := seqM (memM 1 (lstM (consM (callM P.den__law_numbers (consM (varM 0) (rtn []))) (consM (rtn (.int 0)) (rtn [])))))
 (seqM (asgM (callM den__law_tiles (consM (varM 1) (consM (rtn (.int 3)) (rtn [])))) (setM 2))
 (seqM (parM 3 4 (consM (callM den__law_motion (consM (varM 1) (rtn []))) (consM (callM den__law_motion (consM (varM 1) (rtn []))) (rtn []))))
 (seqM (asgM (tupM (consM (binM subD (callM P.den__law_draw (consM (varM 1) (consM (rtn (.int 201)) (rtn [])))) (rtn (.int 100))) (consM (binM subD (callM P.den__law_draw (consM (varM 1) (consM (rtn (.int 201)) (rtn [])))) (rtn (.int 100))) (rtn [])))) (setM 5))
 (seqM (asgM (callM den__law_led (consM (varM 3) (consM (ixvM 5 (rtn (.int 0))) (consM (ixvM 5 (rtn (.int 1))) (rtn []))))) (setM 6))
 (seqM (ifM (notM (truM (callM (P.den__law_equal 12) (consM (callM den_led (consM (varM 3) (consM (varM 5) (rtn [])))) (consM (varM 6) (rtn [])))))) (retM (rtn (.bl false))) (rtn .nx))
 (seqM (asgM (callM den_both (consM (varM 3) (consM (varM 4) (rtn [])))) (setM 7))
 (seqM (forM (itM (shutM (lstM (consM (tupM (consM (rtn (.int 0)) (consM (rtn (.int 0)) (rtn [])))) (consM (tupM (consM (rtn (.int 1)) (consM (rtn (.int 0)) (rtn [])))) (consM (tupM (consM (rtn (.int 0)) (consM (rtn (.int 1)) (rtn [])))) (consM (varM 5) (rtn [])))))))) (untupM 2 (setsM (setM 8) (setsM (setM 9) (endM)))) (seqM (asgM (callM den__law_led (consM (varM 3) (consM (varM 8) (consM (varM 9) (rtn []))))) (setM 10))
 (seqM (ifM (orM (tstM (binM neD (callM den__law_led (consM (varM 7) (consM (varM 8) (consM (varM 9) (rtn []))))) (callM den__law_led (consM (varM 4) (consM (ixvM 10 (rtn (.int 0))) (consM (ixvM 10 (rtn (.int 1))) (rtn []))))))) (notM (truM (isiM "tuple" (varM 7))))) (retM (rtn (.bl false))) (rtn .nx))
 (ifM (tstM (binM neD (callM den__law_led (consM (callM den_back (consM (varM 3) (rtn []))) (consM (ixvM 10 (rtn (.int 0))) (consM (ixvM 10 (rtn (.int 1))) (rtn []))))) (tupM (consM (varM 8) (consM (varM 9) (rtn [])))))) (retM (rtn (.bl false))) (rtn .nx)))))
 (seqM (asgM (callM den_moved (consM (varM 2) (consM (varM 3) (rtn [])))) (setM 11))
 (seqM (asgM (iteM (tstM (binM inD (ixvM 3 (rtn (.int 0))) (lookM (tupM (consM (rtn (.int 0)) (consM (rtn (.int 2)) (consM (rtn (.int 4)) (consM (rtn (.int 6)) (rtn []))))))))) (tupM (consM (lookM1 lenD (peekM 2)) (consM (lookM1 lenD (lookM (ixvM 2 (rtn (.int 0))))) (rtn [])))) (tupM (consM (lookM1 lenD (lookM (ixvM 2 (rtn (.int 0))))) (consM (lookM1 lenD (peekM 2)) (rtn []))))) (untupM 2 (setsM (setM 12) (setsM (setM 13) (endM)))))
 (seqM (ifM (orM (notM (truM (isiM "list" (varM 11)))) (orM (tstM (binM neD (lookM1 lenD (peekM 11)) (varM 12))) (tstM (binM gtV (lookM1 lenD (lookM (shutM (compM [17] (itM (varM 11)) (setM 17) (orM (notM (truM (isiM "str" (varM 17)))) (tstM (binM neD (lookM1 lenD (peekM 17)) (varM 13)))) (varM 17))))) (rtn (.int 0)))))) (retM (rtn (.bl false))) (rtn .nx))
 (seqM (forM (bnd (consM (lookM1 lenD (peekM 2)) (rtn [])) (fun xs => opt (rng1 xs))) (setM 8) (forM (bnd (consM (lookM1 lenD (lookM (ixvM 2 (rtn (.int 0))))) (rtn [])) (fun xs => opt (rng1 xs))) (setM 9) (seqM (asgM (callM den__law_led (consM (varM 3) (consM (varM 8) (consM (varM 9) (rtn []))))) (untupM 2 (setsM (setM 14) (setsM (setM 15) (endM)))))
 (ifM (tstM (binM neD (callM den__law_sign (consM (varM 11) (consM (varM 14) (consM (varM 15) (rtn []))))) (ixM (ixvM 2 (varM 8)) (varM 9)))) (retM (rtn (.bl false))) (rtn .nx)))))
 (seqM (ifM (orM (tstM (binM neD (callM den_moved (consM (varM 2) (consM (tupM (consM (rtn (.int 0)) (consM (rtn (.int 0)) (consM (rtn (.int 0)) (rtn []))))) (rtn [])))) (varM 2))) (tstM (binM neD (callM den_moved (consM (callM den_moved (consM (varM 2) (consM (varM 3) (rtn [])))) (consM (callM den_back (consM (varM 3) (rtn []))) (rtn [])))) (varM 2)))) (retM (rtn (.bl false))) (rtn .nx))
 (seqM (forM (itM (shutM (lstM (consM (rtn .non) (consM (tupM (consM (rtn (.int 8)) (consM (rtn (.int 0)) (consM (rtn (.int 0)) (rtn []))))) (consM (tupM (consM (unM negD (rtn (.int 1))) (consM (rtn (.int 0)) (consM (rtn (.int 0)) (rtn []))))) (consM (tupM (consM (rtn (.int 0)) (consM (rtn (.int 101)) (consM (rtn (.int 0)) (rtn []))))) (consM (tupM (consM (rtn (.int 0)) (consM (rtn (.int 0)) (consM (unM negD (rtn (.int 101))) (rtn []))))) (consM (tupM (consM (rtn (.int 0)) (consM (rtn (.int 0)) (rtn [])))) (consM (shutM (lstM (consM (rtn (.int 0)) (consM (rtn (.int 0)) (consM (rtn (.int 0)) (rtn [])))))) (consM (tupM (consM (rtn (.bl true)) (consM (rtn (.int 0)) (consM (rtn (.int 0)) (rtn []))))) (consM (tupM (consM (rtn (.int 0)) (consM (rtn (.int 0)) (consM (rtn .non) (rtn []))))) (rtn []))))))))))))) (setM 16) (tryM exL (seqM (dropM (callM den_moved (consM (varM 2) (consM (varM 16) (rtn [])))))
 (retM (rtn (.bl false)))) [("BadMove", rtn .nx)]))
 (seqM (forM (itM (shutM (lstM (consM (rtn .non) (consM (shutM (lstM (rtn []))) (consM (shutM (lstM (consM (rtn (.str "")) (rtn [])))) (consM (shutM (lstM (consM (rtn (.str "a")) (consM (rtn (.str "ab")) (rtn []))))) (consM (shutM (lstM (consM (rtn (.str "A")) (rtn [])))) (consM (shutM (lstM (consM (binM mulD (rtn (.str "a")) (rtn (.int 7))) (rtn [])))) (consM (binM mulD (shutM (lstM (consM (rtn (.str "a")) (rtn [])))) (rtn (.int 7))) (consM (shutM (lstM (consM (rtn (.int 1)) (rtn [])))) (consM (rtn (.str "a")) (rtn []))))))))))))) (setM 16) (tryM exL (seqM (dropM (callM den_moved (consM (varM 16) (consM (varM 3) (rtn [])))))
 (retM (rtn (.bl false)))) [("BadFormation", rtn .nx)]))
 (seqM (forM (itM (shutM (lstM (consM (rtn .non) (consM (tupM (consM (rtn (.int 0)) (rtn []))) (consM (tupM (consM (rtn (.int 101)) (consM (rtn (.int 0)) (rtn [])))) (consM (tupM (consM (rtn (.int 0)) (consM (unM negD (rtn (.int 101))) (rtn [])))) (consM (shutM (lstM (consM (rtn (.int 0)) (consM (rtn (.int 0)) (rtn []))))) (consM (tupM (consM (rtn (.bl true)) (consM (rtn (.int 0)) (rtn [])))) (rtn [])))))))))) (setM 16) (tryM exL (seqM (dropM (callM den_led (consM (varM 3) (consM (varM 16) (rtn [])))))
 (retM (rtn (.bl false)))) [("BadPoint", rtn .nx)]))
 (retM (rtn (.bl true))))))))))))))))))
noncomputable def den_law : Den := fnDen 1 18 body_law
theorem vb_law {B : Bs} (h : Fx B) : VB ⟨B, ["script", "draws", "wall", "one", "other", "cell", "there", "joint", "r", "c", "here", "told", "rows", "columns", "i", "j", "bad", "row"], defScope s_law, 13, true, true, fun _ => true⟩ (defBody s_law) body_law := (b_cons (s_mem 1 rfl (.inl rfl) (.inl rfl) (f_lst (a_cons (v_call (ok__law_numbers h) (by show 2 ≤ 13; decide) rfl rfl (a_cons (v_var 0 rfl (.inl rfl)) a_nil)) (a_cons v_int a_nil))))
 (b_cons (s_set 2 rfl (.inl rfl) (.inl rfl) (v_call (ok__law_tiles h) (by show 3 ≤ 13; decide) rfl rfl (a_cons (v_var 1 rfl (.inl rfl)) (a_cons v_int a_nil))))
 (b_cons (s_par 3 4 rfl rfl rfl (by decide) rfl rfl (a_cons (v_call (ok__law_motion h) (by show 3 ≤ 13; decide) rfl rfl (a_cons (v_var 1 rfl (.inl rfl)) a_nil)) (a_cons (v_call (ok__law_motion h) (by show 3 ≤ 13; decide) rfl rfl (a_cons (v_var 1 rfl (.inl rfl)) a_nil)) a_nil)) (by intro env h; cases env; cases h; rfl))
 (b_cons (s_set 5 rfl (.inl rfl) (.inl rfl) (v_tup (a_cons (v_op o_sub (v_call (ok__law_draw h) (by show 2 ≤ 13; decide) rfl rfl (a_cons (v_var 1 rfl (.inl rfl)) (a_cons v_int a_nil))) v_int) (a_cons (v_op o_sub (v_call (ok__law_draw h) (by show 2 ≤ 13; decide) rfl rfl (a_cons (v_var 1 rfl (.inl rfl)) (a_cons v_int a_nil))) v_int) a_nil))))
 (b_cons (s_set 6 rfl (.inl rfl) (.inl rfl) (v_call (ok__law_led h) (by show 1 ≤ 13; decide) rfl rfl (a_cons (v_var 3 rfl (.inl rfl)) (a_cons (v_ixv 5 rfl (.inl rfl) v_int) (a_cons (v_ixv 5 rfl (.inl rfl) v_int) a_nil)))))
 (b_cons (s_if (t_not (t_tru (v_call (ok__law_equal h 12) (by show 13 ≤ 13; decide) rfl rfl (a_cons (v_call (ok_led h) (by show 4 ≤ 13; decide) rfl rfl (a_cons (v_var 3 rfl (.inl rfl)) (a_cons (v_var 5 rfl (.inl rfl)) a_nil))) (a_cons (v_var 6 rfl (.inl rfl)) a_nil))))) (b_one (s_ret v_bl)) b_nil)
 (b_cons (s_set 7 rfl (.inl rfl) (.inl rfl) (v_call (ok_both h) (by show 4 ≤ 13; decide) rfl rfl (a_cons (v_var 3 rfl (.inl rfl)) (a_cons (v_var 4 rfl (.inl rfl)) a_nil))))
 (b_cons (s_for rfl (i_seq (v_f (f_lst (a_cons (v_tup (a_cons v_int (a_cons v_int a_nil))) (a_cons (v_tup (a_cons v_int (a_cons v_int a_nil))) (a_cons (v_tup (a_cons v_int (a_cons v_int a_nil))) (a_cons (v_var 5 rfl (.inl rfl)) a_nil))))))) (g_tup 2 rfl (gs_cons (g_name 8 rfl (.inl rfl) (.inl rfl)) (gs_cons (g_name 9 rfl (.inl rfl) (.inl rfl)) gs_nil))) (b_cons (s_set 10 rfl (.inl rfl) (.inl rfl) (v_call (ok__law_led h) (by show 1 ≤ 13; decide) rfl rfl (a_cons (v_var 3 rfl (.inl rfl)) (a_cons (v_var 8 rfl (.inl rfl)) (a_cons (v_var 9 rfl (.inl rfl)) a_nil)))))
 (b_cons (s_if (t_w (w_or (t_cmp (o_ne rfl) (v_call (ok__law_led h) (by show 1 ≤ 13; decide) rfl rfl (a_cons (v_var 7 rfl (.inl rfl)) (a_cons (v_var 8 rfl (.inl rfl)) (a_cons (v_var 9 rfl (.inl rfl)) a_nil)))) (v_call (ok__law_led h) (by show 1 ≤ 13; decide) rfl rfl (a_cons (v_var 4 rfl (.inl rfl)) (a_cons (v_ixv 10 rfl (.inl rfl) v_int) (a_cons (v_ixv 10 rfl (.inl rfl) v_int) a_nil)))) (nomark _)) (w_or1 (t_not (t_tru (v_isi (v_var 7 rfl (.inl rfl)) rfl h.z_isinstance rfl h.z_tuple bt_tuple)))))) (b_one (s_ret v_bl)) b_nil)
 (b_one (s_if (t_cmp (o_ne rfl) (v_call (ok__law_led h) (by show 1 ≤ 13; decide) rfl rfl (a_cons (v_call (ok_back h) (by show 5 ≤ 13; decide) rfl rfl (a_cons (v_var 3 rfl (.inl rfl)) a_nil)) (a_cons (v_ixv 10 rfl (.inl rfl) v_int) (a_cons (v_ixv 10 rfl (.inl rfl) v_int) a_nil)))) (v_tup (a_cons (v_var 8 rfl (.inl rfl)) (a_cons (v_var 9 rfl (.inl rfl)) a_nil))) (nomark _)) (b_one (s_ret v_bl)) b_nil)))))
 (b_cons (s_set 11 rfl (.inl rfl) (.inl rfl) (v_call (ok_moved h) (by show 6 ≤ 13; decide) rfl rfl (a_cons (v_var 2 rfl (.inl rfl)) (a_cons (v_var 3 rfl (.inl rfl)) a_nil))))
 (b_cons (s_asg (v_ifexp (t_cmpW (w_in rfl) (v_ixv 3 rfl (.inl rfl) v_int) (o_look (v_tup (a_cons v_int (a_cons v_int (a_cons v_int (a_cons v_int a_nil)))))) rfl) (v_tup (a_cons (v_ocall cal_len (o_peek 2 rfl (.inl rfl)) rfl h.z_len bt_len) (a_cons (v_ocall cal_len (o_look (v_ixv 2 rfl (.inl rfl) v_int)) rfl h.z_len bt_len) a_nil))) (v_tup (a_cons (v_ocall cal_len (o_look (v_ixv 2 rfl (.inl rfl) v_int)) rfl h.z_len bt_len) (a_cons (v_ocall cal_len (o_peek 2 rfl (.inl rfl)) rfl h.z_len bt_len) a_nil)))) (g_tup 2 rfl (gs_cons (g_name 12 rfl (.inl rfl) (.inl rfl)) (gs_cons (g_name 13 rfl (.inr rfl) (.inl rfl)) gs_nil))))
 (b_cons (s_if (t_w (w_or (t_not (t_tru (v_isi (v_var 11 rfl (.inl rfl)) rfl h.z_isinstance rfl h.z_list bt_list))) (w_or (t_cmp (o_ne rfl) (v_ocall cal_len (o_peek 11 rfl (.inl rfl)) rfl h.z_len bt_len) (v_var 12 rfl (.inl rfl)) (nomark _)) (w_or1 (t_cmp (o_gt rfl) (v_ocall cal_len (o_look (v_f (f_lc [("row", 17)] rfl (by refine ⟨rfl, ?_, ?_, ?_, ?_⟩ <;> (try dsimp only [SC.blk]) <;> decide +kernel) (i_seq (v_var 11 rfl (.inl rfl))) (g_name 17 rfl (.inl rfl) (.inr rfl)) (ts_one (t_w (w_or (t_not (t_tru (v_isi (v_var 17 rfl (.inl rfl)) rfl h.z_isinstance rfl h.z_str bt_str))) (w_or1 (t_cmp (o_ne rfl) (v_ocall cal_len (o_peek 17 rfl (.inl rfl)) rfl h.z_len bt_len) (v_var 13 rfl (.inr (.inl rfl))) (nomark _)))))) (v_var 17 rfl (.inl rfl)) (by decide)))) rfl h.z_len bt_len) v_int (nomark _)))))) (b_one (s_ret v_bl)) b_nil)
 (b_cons (s_for rfl (i_rng1 (a_cons (v_ocall cal_len (o_peek 2 rfl (.inl rfl)) rfl h.z_len bt_len) a_nil) rfl h.z_range) (g_name 8 rfl (.inl rfl) (.inl rfl)) (b_one (s_for rfl (i_rng1 (a_cons (v_ocall cal_len (o_look (v_ixv 2 rfl (.inl rfl) v_int)) rfl h.z_len bt_len) a_nil) rfl h.z_range) (g_name 9 rfl (.inl rfl) (.inl rfl)) (b_cons (s_asg (v_call (ok__law_led h) (by show 1 ≤ 13; decide) rfl rfl (a_cons (v_var 3 rfl (.inl rfl)) (a_cons (v_var 8 rfl (.inl rfl)) (a_cons (v_var 9 rfl (.inl rfl)) a_nil)))) (g_tup 2 rfl (gs_cons (g_name 14 rfl (.inl rfl) (.inl rfl)) (gs_cons (g_name 15 rfl (.inl rfl) (.inl rfl)) gs_nil))))
 (b_one (s_if (t_cmp (o_ne rfl) (v_call (ok__law_sign h) (by show 1 ≤ 13; decide) rfl rfl (a_cons (v_var 11 rfl (.inl rfl)) (a_cons (v_var 14 rfl (.inl rfl)) (a_cons (v_var 15 rfl (.inl rfl)) a_nil)))) (v_ix (v_ixv 2 rfl (.inl rfl) (v_var 8 rfl (.inl rfl))) (v_var 9 rfl (.inl rfl))) (nomark _)) (b_one (s_ret v_bl)) b_nil))))))
 (b_cons (s_if (t_w (w_or (t_cmp (o_ne rfl) (v_call (ok_moved h) (by show 6 ≤ 13; decide) rfl rfl (a_cons (v_var 2 rfl (.inl rfl)) (a_cons (v_tup (a_cons v_int (a_cons v_int (a_cons v_int a_nil)))) a_nil))) (v_var 2 rfl (.inl rfl)) (nomark _)) (w_or1 (t_cmp (o_ne rfl) (v_call (ok_moved h) (by show 6 ≤ 13; decide) rfl rfl (a_cons (v_call (ok_moved h) (by show 6 ≤ 13; decide) rfl rfl (a_cons (v_var 2 rfl (.inl rfl)) (a_cons (v_var 3 rfl (.inl rfl)) a_nil))) (a_cons (v_call (ok_back h) (by show 5 ≤ 13; decide) rfl rfl (a_cons (v_var 3 rfl (.inl rfl)) a_nil)) a_nil))) (v_var 2 rfl (.inl rfl)) (nomark _))))) (b_one (s_ret v_bl)) b_nil)
 (b_cons (s_for rfl (i_seq (v_f (f_lst (a_cons v_non (a_cons (v_tup (a_cons v_int (a_cons v_int (a_cons v_int a_nil)))) (a_cons (v_tup (a_cons (v_neg v_int) (a_cons v_int (a_cons v_int a_nil)))) (a_cons (v_tup (a_cons v_int (a_cons v_int (a_cons v_int a_nil)))) (a_cons (v_tup (a_cons v_int (a_cons v_int (a_cons (v_neg v_int) a_nil)))) (a_cons (v_tup (a_cons v_int (a_cons v_int a_nil))) (a_cons (v_f (f_lst (a_cons v_int (a_cons v_int (a_cons v_int a_nil))))) (a_cons (v_tup (a_cons v_bl (a_cons v_int (a_cons v_int a_nil)))) (a_cons (v_tup (a_cons v_int (a_cons v_int (a_cons v_non a_nil)))) a_nil)))))))))))) (g_name 16 rfl (.inl rfl) (.inl rfl)) (b_one (s_try rfl h.xm (b_cons (s_expr (v_call (ok_moved h) (by show 6 ≤ 13; decide) rfl rfl (a_cons (v_var 2 rfl (.inl rfl)) (a_cons (v_var 16 rfl (.inl rfl)) a_nil))))
 (b_one (s_ret v_bl))) (VHs.cons h.e_BadMove (by decide) rfl rfl (b_one s_pass) VHs.nil))))
 (b_cons (s_for rfl (i_seq (v_f (f_lst (a_cons v_non (a_cons (v_f (f_lst a_nil)) (a_cons (v_f (f_lst (a_cons v_str a_nil))) (a_cons (v_f (f_lst (a_cons v_str (a_cons v_str a_nil)))) (a_cons (v_f (f_lst (a_cons v_str a_nil))) (a_cons (v_f (f_lst (a_cons (v_op o_mul v_str v_int) a_nil))) (a_cons (v_op o_mul (v_f (f_lst (a_cons v_str a_nil))) v_int) (a_cons (v_f (f_lst (a_cons v_int a_nil))) (a_cons v_str a_nil)))))))))))) (g_name 16 rfl (.inl rfl) (.inl rfl)) (b_one (s_try rfl h.xm (b_cons (s_expr (v_call (ok_moved h) (by show 6 ≤ 13; decide) rfl rfl (a_cons (v_var 16 rfl (.inl rfl)) (a_cons (v_var 3 rfl (.inl rfl)) a_nil))))
 (b_one (s_ret v_bl))) (VHs.cons h.e_BadFormation (by decide) rfl rfl (b_one s_pass) VHs.nil))))
 (b_cons (s_for rfl (i_seq (v_f (f_lst (a_cons v_non (a_cons (v_tup (a_cons v_int a_nil)) (a_cons (v_tup (a_cons v_int (a_cons v_int a_nil))) (a_cons (v_tup (a_cons v_int (a_cons (v_neg v_int) a_nil))) (a_cons (v_f (f_lst (a_cons v_int (a_cons v_int a_nil)))) (a_cons (v_tup (a_cons v_bl (a_cons v_int a_nil))) a_nil))))))))) (g_name 16 rfl (.inl rfl) (.inl rfl)) (b_one (s_try rfl h.xm (b_cons (s_expr (v_call (ok_led h) (by show 4 ≤ 13; decide) rfl rfl (a_cons (v_var 3 rfl (.inl rfl)) (a_cons (v_var 16 rfl (.inl rfl)) a_nil))))
 (b_one (s_ret v_bl))) (VHs.cons h.e_BadPoint (by decide) rfl rfl (b_one s_pass) VHs.nil))))
 (b_one (s_ret v_bl))))))))))))))))))
theorem ok_law {B : Bs} (h : Fx B) : Callee B "law" den_law 14 := callee_mk h.d_law sc_law (vb_law h)
end K14
namespace K14
open Vl
/-! ### turns -/
def tA : Nat → Int | 0 => 1 | 1 => 0 | 2 => -1 | 3 => 0 | 4 => 1 | 5 => 0 | 6 => -1 | _ => 0
def tB : Nat → Int | 0 => 0 | 1 => 1 | 2 => 0 | 3 => -1 | 4 => 0 | 5 => 1 | 6 => 0 | _ => -1
def tD : Nat → Int | 0 => 0 | 1 => -1 | 2 => 0 | 3 => 1 | 4 => 0 | 5 => 1 | 6 => 0 | _ => -1
def tE : Nat → Int | 0 => 1 | 1 => 0 | 2 => -1 | 3 => 0 | 4 => -1 | 5 => 0 | 6 => 1 | _ => 0
theorem eight {P : Nat → Prop} (h : P 0 ∧ P 1 ∧ P 2 ∧ P 3 ∧ P 4 ∧ P 5 ∧ P 6 ∧ P 7) (t : Nat) (ht : t < 8) : P t := by
  obtain ⟨h0, h1, h2, h3, h4, h5, h6, h7⟩ := h
  have : t = 0 ∨ t = 1 ∨ t = 2 ∨ t = 3 ∨ t = 4 ∨ t = 5 ∨ t = 6 ∨ t = 7 := by omega
  rcases this with rfl | rfl | rfl | rfl | rfl | rfl | rfl | rfl <;> assumption
theorem turned_ok (t : Nat) (ht : t < 8) (r c : Int) (m) : den_turned [.int t, .int r, .int c] m = .ok (.tup [.int (tA t * r + tB t * c), .int (tD t * r + tE t * c)]) m := by
  have hix : ixD c_TURNS (.int t) = some (.tup [.int (tA t), .int (tB t), .int (tD t), .int (tE t)]) :=
    eight (P := fun t => ixD c_TURNS (.int t) = some (.tup [.int (tA t), .int (tB t), .int (tD t), .int (tE t)])) ⟨rfl, rfl, rfl, rfl, rfl, rfl, rfl, rfl⟩ t ht
  have hb : ∀ x : Int, (x = tA t ∨ x = tB t ∨ x = tD t ∨ x = tE t) → x.natAbs < 18446744073709551616 := by
    have : t = 0 ∨ t = 1 ∨ t = 2 ∨ t = 3 ∨ t = 4 ∨ t = 5 ∨ t = 6 ∨ t = 7 := by omega
    rcases this with rfl | rfl | rfl | rfl | rfl | rfl | rfl | rfl <;> intro x hx <;> simp [tA, tB, tD, tE] at hx <;> omega
  refine fn_ok rfl ?_
  have hl : ∀ s : DS, lookD s c_TURNS = c_TURNS := fun _ => rfl
  simp [body_turned, hl, hix, mulD_ii, hb]
abbrev mot (t : Nat) (a b : Int) : D := .tup [.int t, .int a, .int b]
@[simp] theorem ix_m0 {a b c : D} : ixD (.tup [a, b, c]) (.int 0) = some a := rfl
@[simp] theorem ix_m1 {a b c : D} : ixD (.tup [a, b, c]) (.int 1) = some b := rfl
@[simp] theorem ix_m2 {a b c : D} : ixD (.tup [a, b, c]) (.int 2) = some c := rfl
@[simp] theorem ix_p0 {a b : D} : ixD (.tup [a, b]) (.int 0) = some a := rfl
@[simp] theorem ix_p1 {a b : D} : ixD (.tup [a, b]) (.int 1) = some b := rfl
theorem led_to_ok (t : Nat) (ht : t < 8) (a b r c : Int) (m) : den_led_to [mot t a b, .int r, .int c] m = .ok (.tup [.int (tA t * r + tB t * c + a), .int (tD t * r + tE t * c + b)]) m := by
  refine fn_ok rfl ?_
  simp [body_led_to, turned_ok t ht]
theorem twice_ok (t u : Nat) (ht : t < 8) (hu : u < 8) (a b a' b' x y : Int) (m) : den_turned_twice [mot t a b, mot u a' b', .tup [.int x, .int y]] m = .ok (.tup [.int (tA u * (tA t * x + tB t * y) + tB u * (tD t * x + tE t * y)), .int (tD u * (tA t * x + tB t * y) + tE u * (tD t * x + tE t * y))]) m := by
  refine fn_ok rfl ?_
  simp [body_turned_twice, turned_ok t ht, turned_ok u hu]
/-- the turn that does t, then u -/
def same (t u k : Nat) : Bool := (tA k == tA u * tA t + tB u * tD t) && (tB k == tA u * tB t + tB u * tE t) && (tD k == tD u * tA t + tE u * tD t) && (tE k == tD u * tB t + tE u * tE t)
def cmp (t u : Nat) : Nat := ((List.range 8).find? (same t u)).getD 0
theorem cmp_all : ∀ t : Fin 8, ∀ u : Fin 8, cmp t u < 8 ∧ same t u (cmp t u) = true ∧ ∀ k : Fin 8, same t u k = true → k.val = cmp t u := by decide +kernel
theorem cmp_ok (t u : Nat) (ht : t < 8) (hu : u < 8) : cmp t u < 8 ∧ same t u (cmp t u) = true ∧ ∀ k, k < 8 → same t u k = true → k = cmp t u := by
  obtain ⟨h1, h2, h3⟩ := cmp_all ⟨t, ht⟩ ⟨u, hu⟩
  exact ⟨h1, h2, fun k hk e => h3 ⟨k, hk⟩ e⟩
theorem joined_ok (t u : Nat) (ht : t < 8) (hu : u < 8) (a b a' b' : Int) (m) :
    den_joined [mot t a b, mot u a' b'] m = .ok (mot (cmp t u) (tA u * a + tB u * b + a') (tD u * a + tE u * b + b')) m := by
  refine fn_ok rfl ?_
  obtain ⟨hc1, hc2, hc3⟩ := cmp_ok t u ht hu
  simp only [body_joined, List.map_cons, List.map_nil, List.cons_append, List.nil_append, List.replicate, ru_seq, ru_asg, ru_call, ru_cons, ru_var, slotV_val0, ru_rtn, led_to_ok t ht, frQ_ok, ru_set, List.set_cons_succ, List.set_cons_zero, slotV_succ, ru_ixv', List.getElem?_cons_zero, List.getElem?_cons_succ, knownB_val, peekD_succ, peekD_val0, lookD_tup, Option.bind_some, ix_p0, ix_p1, ru_opt_some, true_and, led_to_ok u hu, ru_for, ru_bnd, rng1_int (j := 8) (by decide) (by decide)]
  generalize e1 : D.tup [D.int (tA t * 0 + tB t * 0 + a), D.int (tD t * 0 + tE t * 0 + b)] = here
  have e3 : tA u * (tA t * 0 + tB t * 0 + a) + tB u * (tD t * 0 + tE t * 0 + b) + a' = tA u * a + tB u * b + a' := by simp
  have e4 : tD u * (tA t * 0 + tB t * 0 + a) + tE u * (tD t * 0 + tE t * 0 + b) + b' = tD u * a + tE u * b + b' := by simp
  rw [e3, e4]
  generalize tA u * a + tB u * b + a' = x
  generalize tD u * a + tE u * b + b' = y
  refine ru_forI (fun i s => ∃ c4 c5 c6 : Slot, s = ⟨[.val (mot t a b), .val (mot u a' b'), .val here, .val (.tup [.int x, .int y]), c4, c5, c6], m⟩ ∧ c6.isOwn = false ∧ i ≤ cmp t u) ⟨.un, .un, .un, rfl, rfl, Nat.zero_le _⟩ (fun i d s hi hI => ?_) (fun s hI => ?_)
  · obtain ⟨c4, c5, c6, rfl, ho, hle⟩ := hI
    obtain ⟨hi8, rfl⟩ := rngL_get hi
    have hi8 : i < 8 := by simpa using hi8
    simp only [ru_set, List.set_cons_succ, List.set_cons_zero, ru_seq, ru_asg, ru_shut]
    refine ru_comp ?_
    simp only [ru_itM, ru_tup, ru_cons, ru_rtn, itemsD_tup, ru_opt_some]
    refine ⟨by simp, by simp, by simp, by simp [anyOwn, ho], by simp, ?_⟩
    simp only [ru_lc1, ru_lc0, wp, wipeE_cons, wipeE_nil, List.set_cons_succ, List.set_cons_zero, ru_set, ru_tst, ru_binM, ru_call, ru_cons, ru_rtn, ru_var, slotV_succ, slotV_val0, ru_ixv', List.getElem?_cons_zero, List.getElem?_cons_succ, knownB_val, peekD_succ, peekD_val0, lookD_tup, Option.bind_some, ix_p0, ix_p1, ru_opt_some, true_and, Int.zero_add, turned_ok i hi8, frQ_ok, twice_ok t u ht hu, eqD_t2, asB_bl, Int.mul_one, Int.mul_zero, Int.add_zero, Bool.and_true]
    by_cases h : same t u i = true
    · have hi2 := hc3 i hi8 h
      subst hi2
      unfold same at h
      simp only [Bool.and_eq_true] at h
      obtain ⟨⟨⟨q1, q2⟩, q3⟩, q4⟩ := h
      simp [q1, q2, q3, q4]
    · have hne : i ≠ cmp t u := fun z => h (z ▸ hc2)
      have hlt : i + 1 ≤ cmp t u := by omega
      have hn : ¬ ((tA i == tA u * tA t + tB u * tD t && tD i == tD u * tA t + tE u * tD t) = true ∧ (tB i == tA u * tB t + tB u * tE t && tE i == tD u * tB t + tE u * tE t) = true) := fun z => by
        apply h
        unfold same
        simp only [Bool.and_eq_true] at z ⊢
        exact ⟨⟨⟨z.1.1, z.2.1⟩, z.1.2⟩, z.2.2⟩
      by_cases h1 : (tA i == tA u * tA t + tB u * tD t && tD i == tD u * tA t + tE u * tD t) = true
      · have h2 : ¬ (tB i == tA u * tB t + tB u * tE t && tE i == tD u * tB t + tE u * tE t) = true := fun z => hn ⟨h1, z⟩
        rw [if_pos h1, if_neg h2]
        simp [hlt]
        exact ⟨_, _, _, ⟨rfl, rfl, rfl⟩, ho⟩
      · rw [if_neg h1]
        by_cases h2 : (tB i == tA u * tB t + tB u * tE t && tE i == tD u * tB t + tE u * tE t) = true
        · rw [if_pos h2]
          simp [hlt]
          exact ⟨_, _, _, ⟨rfl, rfl, rfl⟩, ho⟩
        · rw [if_neg h2]
          simp [hlt]
          exact ⟨_, _, _, ⟨rfl, rfl, rfl⟩, ho⟩
  · obtain ⟨c4, c5, c6, rfl, ho, hle⟩ := hI
    exfalso
    simp at hle
    omega
def inv (t : Nat) : Nat := match t with | 1 => 3 | 3 => 1 | t => t
theorem inv_all : ∀ t : Fin 8, inv t < 8 ∧ cmp t (inv t) = 0 ∧ ∀ k : Fin 8, cmp t k = 0 → k.val = inv t := by decide +kernel
theorem inv_ok (t : Nat) (ht : t < 8) : inv t < 8 ∧ cmp t (inv t) = 0 ∧ ∀ k, k < 8 → cmp t k = 0 → k = inv t := by
  obtain ⟨h1, h2, h3⟩ := inv_all ⟨t, ht⟩
  exact ⟨h1, h2, fun k hk e => h3 ⟨k, hk⟩ e⟩
theorem undone_ok (t : Nat) (ht : t < 8) (a b : Int) (m) :
    den_undone [mot t a b] m = .ok (mot (inv t) (-(tA (inv t) * a + tB (inv t) * b)) (-(tD (inv t) * a + tE (inv t) * b))) m := by
  refine fn_ok rfl ?_
  obtain ⟨hc1, hc2, hc3⟩ := inv_ok t ht
  simp only [body_undone, List.map_cons, List.map_nil, List.cons_append, List.nil_append, List.replicate, ru_seq, ru_for, ru_bnd, ru_cons, ru_rtn, rng1_int (j := 8) (by decide) (by decide), ru_opt_some]
  refine ru_forI (fun i s => ∃ c1 c2 : Slot, s = ⟨[.val (mot t a b), c1, c2], m⟩ ∧ i ≤ inv t) ⟨.un, .un, rfl, Nat.zero_le _⟩ (fun i d s hi hI => ?_) (fun s hI => ?_)
  · obtain ⟨c1, c2, rfl, hle⟩ := hI
    obtain ⟨hi8, rfl⟩ := rngL_get hi
    have hi8 : i < 8 := by simpa using hi8
    have hj := joined_ok t i ht hi8 a b 0 0 m
    simp only [mot, Int.add_zero] at hj
    simp only [Int.zero_add, ru_set, List.set_cons_succ, List.set_cons_zero, ru_seq, ru_asg, ru_call, ru_cons, ru_tup, ru_var, slotV_succ, slotV_val0, ru_rtn, mot, hj, frQ_ok, ru_if, ru_tst, ru_binM, ru_ixv', List.getElem?_cons_zero, List.getElem?_cons_succ, knownB_val, peekD_succ, peekD_val0, lookD_tup, Option.bind_some, ix_m0, ix_m1, ix_m2, ru_opt_some, true_and, eqD_ii, asB_bl]
    refine ⟨by simp, ?_⟩
    by_cases h : cmp t i = 0
    · have := hc3 i hi8 h
      subst this
      rw [h]
      simp
    · have hne : i ≠ inv t := fun z => h (z ▸ hc2)
      have hlt : i + 1 ≤ inv t := by omega
      rw [if_neg (by simpa using h)]
      simp [hlt]
  · obtain ⟨c1, c2, rfl, hle⟩ := hI
    exfalso
    simp at hle
    omega
/-! ### numbers and motions that are what they should be -/
theorem num_ok (i lo hi : Int) (m) : den_is_number [.int i, .int lo, .int hi] m = .ok (.bl (decide (lo ≤ i ∧ i ≤ hi))) m := by
  refine fn_ok rfl ?_
  by_cases h1 : lo ≤ i
  · simp [body_is_number, h1]
  · simp [body_is_number, h1]
def noInt : D → Bool
  | .int _ => false
  | .dT _ _ => false
  | .mut _ => false
  | _ => true
theorem num_no (d : D) (h : noInt d = true) (lo hi : Int) (m) : den_is_number [d, .int lo, .int hi] m = .ok (.bl false) m := by
  refine fn_ok rfl ?_
  cases d <;> simp [noInt] at h <;> simp [body_is_number]
theorem motion_ok (t : Nat) (ht : t < 8) (a b most : Int) (ha : -most ≤ a ∧ a ≤ most) (hb : -most ≤ b ∧ b ≤ most) (m) : den_is_motion [mot t a b, .int most] m = .ok (.bl true) m := by
  refine fn_ok rfl ?_
  have ht' : (t : Int) ≤ 7 := by omega
  simp [body_is_motion, num_ok, ha, hb, ht']
theorem check_ok (t : Nat) (ht : t < 8) (a b : Int) (ha : -100 ≤ a ∧ a ≤ 100) (hb : -100 ≤ b ∧ b ≤ 100) (m) : den_check_motion [mot t a b] m = .ok .non m := by
  refine fn_ok rfl ?_
  simp [body_check_motion, c_MOST_STEP, motion_ok t ht a b 100 ha hb]
theorem both_ok (t u : Nat) (ht : t < 8) (hu : u < 8) (a b a' b' : Int) (ha : -100 ≤ a ∧ a ≤ 100) (hb : -100 ≤ b ∧ b ≤ 100) (ha' : -100 ≤ a' ∧ a' ≤ 100) (hb' : -100 ≤ b' ∧ b' ≤ 100) (m) :
    den_both [mot t a b, mot u a' b'] m = .ok (mot (cmp t u) (tA u * a + tB u * b + a') (tD u * a + tE u * b + b')) m := by
  refine fn_ok rfl ?_
  simp [body_both, check_ok, joined_ok, ht, hu, ha, hb, ha', hb']
theorem back_ok (t : Nat) (ht : t < 8) (a b : Int) (ha : -100 ≤ a ∧ a ≤ 100) (hb : -100 ≤ b ∧ b ≤ 100) (m) :
    den_back [mot t a b] m = .ok (mot (inv t) (-(tA (inv t) * a + tB (inv t) * b)) (-(tD (inv t) * a + tE (inv t) * b))) m := by
  refine fn_ok rfl ?_
  simp [body_back, check_ok, undone_ok, ht, ha, hb]
theorem led_ok (t : Nat) (ht : t < 8) (a b x y : Int) (ha : -100 ≤ a ∧ a ≤ 100) (hb : -100 ≤ b ∧ b ≤ 100) (hx : -100 ≤ x ∧ x ≤ 100) (hy : -100 ≤ y ∧ y ≤ 100) (m) :
    den_led [mot t a b, .tup [.int x, .int y]] m = .ok (.tup [.int (tA t * x + tB t * y + a), .int (tD t * x + tE t * y + b)]) m := by
  refine fn_ok rfl ?_
  simp only [body_led, List.map_cons, List.map_nil, List.cons_append, List.nil_append, List.replicate, ru_seq, ru_drop, ru_call, ru_cons, ru_var, slotV_succ, slotV_val0, ru_rtn, check_ok t ht a b ha hb, frQ_ok, ru_if, ru_or, ru_not, ru_tru, ru_isi, isi_tup_tuple, ru_opt_some, truD_bl, Bool.not_true, Bool.false_eq_true, if_false, ru_tst, ru_binM, ru_look1, ru_peek, peekD_succ, peekD_val0, lookD_tup]
  refine ⟨_, rfl, ?_⟩
  simp only [lenD_tup, ru_opt_some, List.length_cons, List.length_nil, neD_ii, asB_bl]
  rw [if_neg (by decide)]
  simp only [ru_shut]
  refine ru_comp ?_
  simp only [ru_itM, ru_var, slotV_succ, slotV_val0, itemsD_tup, ru_opt_some]
  refine ⟨by simp [anyOwn, Slot.isOwn], by simp, ?_⟩
  simp [ru_lc1, wp, c_MOST_STEP, num_ok, hx, hy, led_to_ok, ht]
end K14
namespace K14
open Vl
/-! ### walls -/
abbrev WD (wl : List (List Nat)) : D := .lst (wl.map txt)
def let3 (n : Nat) : Prop := n = 97 ∨ n = 98 ∨ n = 122
structure Good (wl : List (List Nat)) (R C : Nat) : Prop where
  len : wl.length = R
  row : ∀ row ∈ wl, row.length = C
  sg : ∀ row ∈ wl, ∀ n ∈ row, let3 n
  r1 : 1 ≤ R
  r6 : R ≤ 6
  c1 : 1 ≤ C
  c6 : C ≤ 6
theorem let_in {n : Nat} (h : let3 n) (s : DS) : notInD (txt [n]) (lookD s c_LETTERS) = some (.bl false) := by
  have e : lookD s c_LETTERS = c_LETTERS := rfl
  rw [e]
  have go : ∀ k : Nat, inStr "abcdefghijklmnopqrstuvwxyz" ⟨#[k]⟩ = true → notInD (txt [k]) c_LETTERS = some (.bl false) := fun k hk => by
    show (match some (D.bl (inStr "abcdefghijklmnopqrstuvwxyz" ⟨#[k]⟩)) with
      | some (.bl k) => some (D.bl (!k))
      | _ => none) = _
    rw [hk]; rfl
  rcases h with rfl | rfl | rfl
  · exact go 97 (by decide +kernel)
  · exact go 98 (by decide +kernel)
  · exact go 122 (by decide +kernel)
theorem ixD_l {xs : List D} {i : Nat} {d : D} (h : xs[i]? = some d) : ixD (.lst xs) (.int (i : Int)) = some d := P.ixD_at (by omega) (by simpa using h)
theorem ix_W {wl : List (List Nat)} {i : Nat} {row : List Nat} (h : wl[i]? = some row) : ixD (WD wl) (.int (i : Int)) = some (txt row) := ixD_l (by rw [List.getElem?_map, h]; rfl)
theorem Good.first {wl : List (List Nat)} {R C : Nat} (g : Good wl R C) : ∃ row, wl[0]? = some row ∧ row ∈ wl ∧ row.length = C := by
  have h : 0 < wl.length := by rw [g.len]; exact g.r1
  exact ⟨wl[0], List.getElem?_eq_getElem h, List.getElem_mem h, g.row _ (List.getElem_mem h)⟩
theorem Good.first_ix {wl : List (List Nat)} {R C : Nat} (g : Good wl R C) : ∃ row, ixD (WD wl) (.int 0) = some (txt row) ∧ lenD (txt row) = some (.int C) := by
  obtain ⟨row, h1, h2, h3⟩ := g.first
  refine ⟨row, ix_W (i := 0) h1, ?_⟩
  have := g.c6
  rw [lenD_t (by omega), h3]
theorem is_wall_ok {wl : List (List Nat)} {R C : Nat} (g : Good wl R C) (m) : den_is_wall [WD wl] m = .ok (.bl true) m := by
  refine fn_ok rfl ?_
  obtain ⟨row0, h1, h2⟩ := g.first_ix
  have hR := g.len
  have r1 : (1 : Int) ≤ (wl.length : Int) := by have := g.r1; omega
  have r6 : (wl.length : Int) ≤ 6 := by have := g.r6; omega
  have c1 : (1 : Int) ≤ (C : Int) := by have := g.c1; omega
  have c6 : (C : Int) ≤ 6 := by have := g.c6; omega
  have hc6 := g.c6
  simp only [body_is_wall, List.map_cons, List.map_nil, List.cons_append, List.nil_append, List.replicate, ru_seq, ru_if, ru_or, ru_not, ru_tru, ru_isi, ru_var, slotV_val0, isi_lst_list, isi_t_str, ru_opt_some, truD_bl, Bool.not_true, Bool.false_eq_true, if_false, ru_tst, ru_chM, ru_rtn, ru_look1, ru_peek, peekD_val0, lookD_lst, lookD_str, c_MOST_SIDE]
  refine ⟨_, rfl, ?_⟩
  simp only [lenD_lst, List.length_map, ru_opt_some, leV_ii, asB_bl, r1, r6, decide_true, if_true, Bool.not_true, Bool.false_eq_true, if_false, ru_rtn, ru_seq, ru_if, ru_or, ru_not, ru_tru, ru_isi, ru_ixv', List.getElem?_cons_zero, knownB_val, peekD_val0, lookD_lst, Option.bind_some, h1, isi_t_str, truD_bl, ru_tst, ru_chM, ru_look1, ru_look, lookD_str, h2, c1, c6, true_and, ru_for, ru_itM, ru_var, slotV_val0, itemsD_lst]
  refine ru_forI (fun i s => ∃ c1 c2 : Slot, s = ⟨[.val (WD wl), c1, c2], m⟩ ∧ c2.isOwn = false) ⟨.un, .un, rfl, rfl⟩ (fun i d s hi hI => ?_) (fun s hI => ?_)
  · obtain ⟨c1', c2', rfl, ho⟩ := hI
    rw [List.getElem?_map] at hi
    cases er : wl[i]? with
    | none => rw [er] at hi; cases hi
    | some row =>
      rw [er] at hi
      cases hi
      have hm : row ∈ wl := List.mem_of_getElem? er
      have hl := g.row row hm
      have hl2 : lenD (txt row) = some (.int C) := by rw [lenD_t (by omega), hl]
      simp only [ru_set, List.set_cons_succ, List.set_cons_zero, ru_if, ru_or, ru_not, ru_tru, ru_isi, ru_var, slotV_succ, slotV_val0, isi_t_str, ru_opt_some, truD_bl, Bool.not_true, Bool.false_eq_true, if_false, ru_tst, ru_binM, ru_look1, ru_peek, peekD_succ, peekD_val0, lookD_str]
      refine ⟨_, rfl, ?_⟩
      simp only [hl2, ru_opt_some, ru_look, ru_ixv', List.getElem?_cons_zero, knownB_val, peekD_val0, lookD_lst, Option.bind_some, ru_rtn, h1, h2, lookD_str, neD_ii, asB_bl, true_and, beq_self_eq_true, Bool.not_true, Bool.false_eq_true, if_false, ru_shut]
      refine ru_comp ?_
      simp only [ru_itM, ru_var, slotV_succ, slotV_val0, itemsD_t, ru_opt_some]
      refine ⟨by simp [anyOwn, ho], by rw [List.length_map]; omega, ?_⟩
      refine ru_lcF (fun _ => none) (fun d hd => ?_) ?_
      · obtain ⟨n, hn, rfl⟩ := List.mem_map.mp hd
        simp only [wipeE_cons, wipeE_nil, List.set_cons_succ, List.set_cons_zero, ru_set, ru_tst, ru_binM, ru_var, slotV_succ, slotV_val0, ru_look, ru_rtn, let_in (g.sg row hm n hn), ru_opt_some, asB_bl, Bool.false_eq_true, if_false]
        exact ⟨trivial, trivial, trivial⟩
      · simp
        exact ⟨_, _, ⟨rfl, rfl⟩, ho⟩
  · obtain ⟨c1', c2', rfl, ho⟩ := hI
    simp
theorem check_wall_ok {wl : List (List Nat)} {R C : Nat} (g : Good wl R C) (m) : den_check_wall [WD wl] m = .ok .non m := by
  refine fn_ok rfl ?_
  simp [body_check_wall, is_wall_ok g]
/-- the sign at a place, the wall going on in all directions -/
def cw (wl : List (List Nat)) (i j : Nat) : Nat := ((wl[i]?).getD [])[j]?.getD 0
def pw (wl : List (List Nat)) (R C : Nat) (r c : Int) : Nat := cw wl (r % R).toNat (c % C).toNat
theorem Good.at {wl : List (List Nat)} {R C : Nat} (g : Good wl R C) {i j : Nat} (hi : i < R) (hj : j < C) : ∃ row, wl[i]? = some row ∧ row ∈ wl ∧ row[j]? = some (cw wl i j) := by
  have h : i < wl.length := by rw [g.len]; exact hi
  have hm := List.getElem_mem h
  have e : wl[i]? = some wl[i] := List.getElem?_eq_getElem h
  have hj2 : j < wl[i].length := by rw [g.row _ hm]; exact hj
  refine ⟨wl[i], e, hm, ?_⟩
  unfold cw
  rw [e, Option.getD_some, List.getElem?_eq_getElem hj2, Option.getD_some]
theorem sign_at_ok {wl : List (List Nat)} {R C : Nat} (g : Good wl R C) (r c : Int) (m) : den_sign_at [WD wl, .int r, .int c] m = .ok (txt [pw wl R C r c]) m := by
  refine fn_ok rfl ?_
  obtain ⟨row0, h1, h2⟩ := g.first_ix
  have hR := g.len
  have hr1 := g.r1
  have hc1 := g.c1
  have hc6 := g.c6
  have b1 : 0 ≤ r % (R : Int) := Int.emod_nonneg _ (by omega)
  have b2 : r % (R : Int) < R := Int.emod_lt_of_pos _ (by omega)
  have b3 : 0 ≤ c % (C : Int) := Int.emod_nonneg _ (by omega)
  have b4 : c % (C : Int) < C := Int.emod_lt_of_pos _ (by omega)
  obtain ⟨row, k1, k2, k3⟩ := g.at (i := (r % (R : Int)).toNat) (j := (c % (C : Int)).toNat) (by omega) (by omega)
  have k4 := g.row row k2
  have e1 : ixD (WD wl) (.int (r % (R : Int))) = some (txt row) := by
    have := ix_W k1
    rwa [Int.toNat_of_nonneg b1] at this
  have e2 : ixD (txt row) (.int (c % (C : Int))) = some (txt [pw wl R C r c]) := ixD_t (by omega) b3 k3
  have hR2 : ((wl.length : Nat) : Int) = (R : Int) := by rw [hR]
  simp only [body_sign_at, List.map_cons, List.map_nil, List.cons_append, List.nil_append, List.replicate, ru_ret, ru_ix, ru_ixv', List.getElem?_cons_zero, knownB_val, ru_binM, ru_var, slotV_succ, slotV_val0, ru_look1, ru_peek, peekD_val0, lookD_lst, true_and]
  refine ⟨_, rfl, ?_⟩
  simp only [lenD_lst, List.length_map, ru_opt_some, hR2, modD_ii (show (0 : Int) < (R : Int) by omega), Option.bind_some, e1, peekD_val0, lookD_lst, ru_look, ru_ixv', List.getElem?_cons_zero, knownB_val, ru_rtn, h1, lookD_str, h2, modD_ii (show (0 : Int) < (C : Int) by omega), e2, true_and, ru_var, slotV_succ, slotV_val0, ru_binM, ru_look1]
  simp
theorem law_sign_ok {wl : List (List Nat)} {R C : Nat} (g : Good wl R C) (r c : Int) (m) : den__law_sign [WD wl, .int r, .int c] m = .ok (txt [pw wl R C r c]) m := by
  refine fn_ok rfl ?_
  obtain ⟨row0, h1, h2⟩ := g.first_ix
  have hR := g.len
  have hr1 := g.r1
  have hr6 := g.r6
  have hc1 := g.c1
  have hc6 := g.c6
  have b1 : 0 ≤ r % (R : Int) := Int.emod_nonneg _ (by omega)
  have b2 : r % (R : Int) < R := Int.emod_lt_of_pos _ (by omega)
  have b3 : 0 ≤ c % (C : Int) := Int.emod_nonneg _ (by omega)
  have b4 : c % (C : Int) < C := Int.emod_lt_of_pos _ (by omega)
  obtain ⟨row, k1, k2, k3⟩ := g.at (i := (r % (R : Int)).toNat) (j := (c % (C : Int)).toNat) (by omega) (by omega)
  have k4 := g.row row k2
  have q1 : r - r / (R : Int) * R = r % R := by have := Int.emod_add_mul_ediv r R; rw [Int.mul_comm] at this; omega
  have q2 : c - c / (C : Int) * C = c % C := by have := Int.emod_add_mul_ediv c C; rw [Int.mul_comm] at this; omega
  have e1 : ixD (WD wl) (.int (r % (R : Int))) = some (txt row) := by
    have := ix_W k1
    rwa [Int.toNat_of_nonneg b1] at this
  have e2 : ixD (txt row) (.int (c % (C : Int))) = some (txt [pw wl R C r c]) := ixD_t (by omega) b3 k3
  have hR2 : ((wl.length : Nat) : Int) = (R : Int) := by rw [hR]
  simp only [body__law_sign, List.map_cons, List.map_nil, List.cons_append, List.nil_append, List.replicate, ru_ret, ru_ix, ru_ixv', List.getElem?_cons_zero, knownB_val, ru_binM, ru_var, slotV_succ, slotV_val0, ru_look1, ru_peek, peekD_val0, lookD_lst, true_and]
  refine ⟨_, rfl, ?_⟩
  simp only [lenD_lst, List.length_map, ru_opt_some, hR2, fdivD_ii (show (0 : Int) < (R : Int) by omega) (show (R : Int) < 1073741824 by omega)]
  refine ⟨_, rfl, ?_⟩
  simp only [lenD_lst, List.length_map, ru_opt_some, hR2, mulD_ii (i := r / (R : Int)) (j := (R : Int)) (by omega), subD_ii, q1, Option.bind_some, e1, peekD_val0, lookD_lst, ru_look, ru_ixv', List.getElem?_cons_zero, knownB_val, ru_rtn, h1, lookD_str, h2, fdivD_ii (show (0 : Int) < (C : Int) by omega) (show (C : Int) < 1073741824 by omega), mulD_ii (i := c / (C : Int)) (j := (C : Int)) (by omega), q2, e2, true_and, ru_var, slotV_succ, slotV_val0, ru_binM, ru_look1]
  simp
/-! ### a wall led by a motion -/
def mk (R C : Nat) (f : Nat → Nat → Nat) : List (List Nat) := (List.range R).map fun r => (List.range C).map (f r)
def L1 (t : Nat) (a b x y : Int) : Int := tA t * x + tB t * y + a
def L2 (t : Nat) (a b x y : Int) : Int := tD t * x + tE t * y + b
def rr (t R C : Nat) : Nat := if t % 2 = 0 then R else C
/-- what led_wall makes -/
def ledW (wl : List (List Nat)) (R C t : Nat) (a b : Int) : List (List Nat) :=
  mk (rr t R C) (rr t C R) fun r c => pw wl R C (L1 (inv t) (-(tA (inv t) * a + tB (inv t) * b)) (-(tD (inv t) * a + tE (inv t) * b)) r c) (L2 (inv t) (-(tA (inv t) * a + tB (inv t) * b)) (-(tD (inv t) * a + tE (inv t) * b)) r c)
theorem rr_le {t R C n : Nat} (h : R ≤ n) (h2 : C ≤ n) : rr t R C ≤ n := by unfold rr; split <;> assumption
theorem led_wall_ok {wl : List (List Nat)} {R C : Nat} (g : Good wl R C) (t : Nat) (ht : t < 8) (a b : Int) (m) : den_led_wall [WD wl, mot t a b] m = .ok (WD (ledW wl R C t a b)) m := by
  refine fn_ok rfl ?_
  obtain ⟨row0, h1, h2⟩ := g.first_ix
  obtain ⟨hi8, _, _⟩ := inv_ok t ht
  have hu := undone_ok t ht a b m
  have hR := g.len
  have hr1 := g.r1
  have hr6 := g.r6
  have hc1 := g.c1
  have hc6 := g.c6
  have hR2 : ((wl.length : Nat) : Int) = (R : Int) := by rw [hR]
  have hodd : (!((t : Int) / 2 * 2 == (t : Int))) = !decide (t % 2 = 0) := by
    by_cases z : t % 2 = 0
    · have : (t : Int) / 2 * 2 = t := by omega
      simp [z, this]
    · have : (t : Int) / 2 * 2 ≠ t := by omega
      simp [z, this]
  -- rows and columns
  have main : ∀ (A : Int) (B : Int), A = (rr t R C : Int) → B = (rr t C R : Int) → ru NE (seqM (asgM (callM den_undone (consM (varM 1) (rtn []))) (setM 4))
 (seqM (ownM 5 (lstM (rtn [])))
 (seqM (forM (bnd (consM (varM 2) (rtn [])) (fun xs => opt (rng1 xs))) (setM 6) (seqM (asgM (rtn (.str "")) (setM 7))
 (seqM (forM (bnd (consM (varM 3) (rtn [])) (fun xs => opt (rng1 xs))) (setM 8) (seqM (asgM (callM den_led_to (consM (varM 4) (consM (varM 6) (consM (varM 8) (rtn []))))) (untupM 2 (setsM (setM 9) (setsM (setM 10) (endM)))))
 (asgM (binM addD (varM 7) (callM den_sign_at (consM (varM 0) (consM (varM 9) (consM (varM 10) (rtn [])))))) (setM 7))))
 (dropM (mutvM appF 5 (consM (varM 7) (rtn [])))))))
 (retM (varM 5))))) ⟨[.val (WD wl), .val (mot t a b), .val (.int A), .val (.int B), .un, .un, .un, .un, .un, .un, .un], m⟩ (fun o s => (o = .rt (WD (ledW wl R C t a b)) ∨ o = .nx ∧ WD (ledW wl R C t a b) = .non) ∧ s.mem = m) := by
    intro A B hA hB
    subst hA hB
    have bR := rr_le (t := t) hr6 hc6
    have bC := rr_le (t := t) hc6 hr6
    generalize hx : -(tA (inv t) * a + tB (inv t) * b) = x at hu
    generalize hy : -(tD (inv t) * a + tE (inv t) * b) = y at hu
    have eW : ledW wl R C t a b = mk (rr t R C) (rr t C R) fun r c => pw wl R C (L1 (inv t) x y r c) (L2 (inv t) x y r c) := by unfold ledW; rw [hx, hy]
    rw [eW]
    generalize hf : (fun r c : Nat => pw wl R C (L1 (inv t) x y r c) (L2 (inv t) x y r c)) = f
    simp only [ru_seq, ru_asg, ru_call, ru_cons, ru_var, slotV_succ, slotV_val0, ru_rtn, hu, frQ_ok, ru_set, List.set_cons_succ, List.set_cons_zero, ru_own, ru_lst, ru_for, ru_bnd, rng1_int (show (-(2 ^ 62) : Int) ≤ (rr t R C : Int) by omega) (show (rr t R C : Int) < 2 ^ 62 by omega), ru_opt_some]
    refine ⟨by simp, ?_⟩
    refine ru_forI (fun i s => ∃ c6 c7 c8 c9 c10 : Slot, s = ⟨[.val (WD wl), .val (mot t a b), .val (.int (rr t R C)), .val (.int (rr t C R)), .val (mot (inv t) x y), .own ((mk i (rr t C R) f).map txt), c6, c7, c8, c9, c10], m⟩) ⟨_, _, _, _, _, rfl⟩ (fun i d s hi hI => ?_) (fun s hI => ?_)
    · obtain ⟨c6, c7, c8, c9, c10, rfl⟩ := hI
      have hi2 := (rngL_get hi).1
      have hd2 := (rngL_get hi).2
      subst hd2
      have hi3 : i < rr t R C := by simpa using hi2
      have e0 : D.str "" = txt [] := rfl
      simp only [Int.zero_add, ru_set, List.set_cons_succ, List.set_cons_zero, ru_seq, ru_asg, ru_rtn, ru_for, ru_bnd, ru_cons, ru_var, slotV_succ, slotV_val0, rng1_int (show (-(2 ^ 62) : Int) ≤ (rr t C R : Int) by omega) (show (rr t C R : Int) < 2 ^ 62 by omega), ru_opt_some]
      refine ru_forI (fun j s => ∃ c8 c9 c10 : Slot, s = ⟨[.val (WD wl), .val (mot t a b), .val (.int (rr t R C)), .val (.int (rr t C R)), .val (mot (inv t) x y), .own ((mk i (rr t C R) f).map txt), .val (.int i), .val (txt ((List.range j).map (f i))), c8, c9, c10], m⟩) ⟨_, _, _, rfl⟩ (fun j d s hj hJ => ?_) (fun s hJ => ?_)
      · obtain ⟨c8, c9, c10, rfl⟩ := hJ
        obtain ⟨hj2, rfl⟩ := rngL_get hj
        have hj3 : j < rr t C R := by simpa using hj2
        have ea : addD (txt ((List.range j).map (f i))) (txt [f i j]) = some (txt ((List.range (j + 1)).map (f i))) := by
          rw [addD_tt (by simp; omega), List.range_succ, List.map_append]
          rfl
        have ef : pw wl R C (tA (inv t) * (i : Int) + tB (inv t) * (j : Int) + x) (tD (inv t) * (i : Int) + tE (inv t) * (j : Int) + y) = f i j := by subst hf; rfl
        simp only [Int.zero_add, ru_set, List.set_cons_succ, List.set_cons_zero, ru_seq, ru_asg, ru_call, ru_cons, ru_var, slotV_succ, slotV_val0, ru_rtn, led_to_ok (inv t) hi8, frQ_ok, ru_untup, ru_sets, ru_end0, ru_binM, sign_at_ok g, ef, ea, ru_opt_some, stepQ_nx]
        exact ⟨rfl, _, _, _, rfl⟩
      · obtain ⟨c8, c9, c10, rfl⟩ := hJ
        simp only [stepQ_nx, ru_drop]
        refine P.ru_app (xs := (mk i (rr t C R) f).map txt) rfl (by simp [mk]; omega) ?_
        simp only [ru_var, slotV_succ, slotV_val0, List.set_cons_succ, List.set_cons_zero, stepQ_nx]
        have e : (mk (i + 1) (rr t C R) f).map txt = (mk i (rr t C R) f).map txt ++ [txt ((List.range (rngL 0 (rr t C R : Int).toNat).length).map (f i))] := by
          unfold mk
          rw [List.range_succ, List.map_append, List.map_append]
          simp
        rw [← e]
        exact ⟨trivial, _, _, _, _, _, rfl⟩
    · obtain ⟨c6, c7, c8, c9, c10, rfl⟩ := hI
      simp [Slot.shut]
  simp only [body_led_wall, List.map_cons, List.map_nil, List.cons_append, List.nil_append, List.replicate]
  rw [ru_seq]
  simp only [ru_par, ru_cons, ru_look1, ru_peek, peekD_val0, lookD_lst]
  refine ⟨_, rfl, ?_⟩
  simp only [lenD_lst, List.length_map, ru_opt_some, hR2, ru_look, ru_ixv', List.getElem?_cons_zero, knownB_val, ru_rtn, peekD_val0, lookD_lst, Option.bind_some, h1, lookD_str, h2, true_and]
  refine ⟨_, _, rfl, ?_⟩
  simp only [List.set_cons_succ, List.set_cons_zero]
  rw [ru_seq]
  simp only [ru_if, ru_tst, ru_binM, ru_ixv', List.getElem?_cons_succ, List.getElem?_cons_zero, knownB_val, ru_rtn, peekD_succ, peekD_val0, lookD_tup, Option.bind_some, ix_m0, ru_opt_some, fdivD_ii (show (0 : Int) < 2 by decide) (show (2 : Int) < 1073741824 by decide), mulD_ii (i := (t : Int) / 2) (j := 2) (by omega), neD_ii, asB_bl, hodd, true_and]
  by_cases z : t % 2 = 0
  · rw [if_neg (by simp [z])]
    exact main _ _ (by unfold rr; rw [if_pos z]) (by unfold rr; rw [if_pos z])
  · rw [if_pos (by simp [z])]
    simp only [ru_par, ru_cons, ru_var, slotV_succ, slotV_val0, ru_rtn]
    refine ⟨_, _, rfl, ?_⟩
    exact main _ _ (by unfold rr; rw [if_neg z]) (by unfold rr; rw [if_neg z])
theorem ledW_good {wl : List (List Nat)} {R C : Nat} (g : Good wl R C) (t : Nat) (a b : Int) : Good (ledW wl R C t a b) (rr t R C) (rr t C R) := by
  have pg : ∀ r c : Int, let3 (pw wl R C r c) := fun r c => by
    have hr1 := g.r1
    have hc1 := g.c1
    have b1 : 0 ≤ r % (R : Int) := Int.emod_nonneg _ (by omega)
    have b2 : r % (R : Int) < R := Int.emod_lt_of_pos _ (by omega)
    have b3 : 0 ≤ c % (C : Int) := Int.emod_nonneg _ (by omega)
    have b4 : c % (C : Int) < C := Int.emod_lt_of_pos _ (by omega)
    obtain ⟨row, k1, k2, k3⟩ := g.at (i := (r % (R : Int)).toNat) (j := (c % (C : Int)).toNat) (by omega) (by omega)
    exact g.sg row k2 _ (List.mem_of_getElem? k3)
  refine ⟨by simp [ledW, mk], fun row hr => ?_, fun row hr n hn => ?_, ?_, ?_, ?_, ?_⟩
  · unfold ledW mk at hr
    obtain ⟨i, _, rfl⟩ := List.mem_map.mp hr
    simp
  · unfold ledW mk at hr
    obtain ⟨i, _, rfl⟩ := List.mem_map.mp hr
    obtain ⟨j, _, rfl⟩ := List.mem_map.mp hn
    exact pg _ _
  · unfold rr; split; exact g.r1; exact g.c1
  · unfold rr; split; exact g.r6; exact g.c6
  · unfold rr; split; exact g.c1; exact g.r1
  · unfold rr; split; exact g.c6; exact g.r6
theorem moved_ok {wl : List (List Nat)} {R C : Nat} (g : Good wl R C) (t : Nat) (ht : t < 8) (a b : Int) (ha : -100 ≤ a ∧ a ≤ 100) (hb : -100 ≤ b ∧ b ≤ 100) (m) : den_moved [WD wl, mot t a b] m = .ok (WD (ledW wl R C t a b)) m := by
  refine fn_ok rfl ?_
  simp [body_moved, check_wall_ok g, check_ok, ht, ha, hb, led_wall_ok g]
end K14
namespace K14
open Vl
theorem law_led_ok (t : Nat) (ht : t < 8) (a b r c : Int) (m) : den__law_led [mot t a b, .int r, .int c] m = .ok (.tup [.int (L1 t a b r c), .int (L2 t a b r c)]) m := by
  refine fn_ok rfl ?_
  have go : ∃ x y : Int, ixD (.lst [.tup [.int r, .int c], .tup [.int c, .int (-r)], .tup [.int (-r), .int (-c)], .tup [.int (-c), .int r], .tup [.int r, .int (-c)], .tup [.int c, .int r], .tup [.int (-r), .int c], .tup [.int (-c), .int (-r)]]) (.int (t : Int)) = some (.tup [.int x, .int y]) ∧ x + a = L1 t a b r c ∧ y + b = L2 t a b r c := by
    have : t = 0 ∨ t = 1 ∨ t = 2 ∨ t = 3 ∨ t = 4 ∨ t = 5 ∨ t = 6 ∨ t = 7 := by omega
    unfold L1 L2
    rcases this with rfl | rfl | rfl | rfl | rfl | rfl | rfl | rfl
    · exact ⟨r, c, rfl, by simp [tA, tB], by simp [tD, tE]⟩
    · exact ⟨c, -r, rfl, by simp [tA, tB], by simp [tD, tE]⟩
    · exact ⟨-r, -c, rfl, by simp [tA, tB], by simp [tD, tE]⟩
    · exact ⟨-c, r, rfl, by simp [tA, tB], by simp [tD, tE]⟩
    · exact ⟨r, -c, rfl, by simp [tA, tB], by simp [tD, tE]⟩
    · exact ⟨c, r, rfl, by simp [tA, tB], by simp [tD, tE]⟩
    · exact ⟨-r, c, rfl, by simp [tA, tB], by simp [tD, tE]⟩
    · exact ⟨-c, -r, rfl, by simp [tA, tB], by simp [tD, tE]⟩
  obtain ⟨x, y, e, e1, e2⟩ := go
  simp [body__law_led, e, e1, e2]
theorem join_law (t u : Nat) (ht : t < 8) (hu : u < 8) (a b a' b' x y : Int) : L1 (cmp t u) (tA u * a + tB u * b + a') (tD u * a + tE u * b + b') x y = L1 u a' b' (L1 t a b x y) (L2 t a b x y) ∧ L2 (cmp t u) (tA u * a + tB u * b + a') (tD u * a + tE u * b + b') x y = L2 u a' b' (L1 t a b x y) (L2 t a b x y) := by
  obtain ⟨_, h, _⟩ := cmp_ok t u ht hu
  unfold same at h
  simp only [Bool.and_eq_true, beq_iff_eq] at h
  obtain ⟨⟨⟨q1, q2⟩, q3⟩, q4⟩ := h
  unfold L1 L2
  constructor <;> grind
theorem inv_inv (t : Nat) (ht : t < 8) : inv (inv t) = t := by
  have : ∀ t : Fin 8, inv (inv t) = t := by decide +kernel
  exact this ⟨t, ht⟩
theorem same0 (t u : Nat) (ht : t < 8) (hu : u < 8) (h : cmp t u = 0) : tA u * tA t + tB u * tD t = 1 ∧ tA u * tB t + tB u * tE t = 0 ∧ tD u * tA t + tE u * tD t = 0 ∧ tD u * tB t + tE u * tE t = 1 := by
  obtain ⟨_, h1, _⟩ := cmp_ok t u ht hu
  rw [h] at h1
  unfold same at h1
  simp only [Bool.and_eq_true, beq_iff_eq] at h1
  obtain ⟨⟨⟨q1, q2⟩, q3⟩, q4⟩ := h1
  have e1 : tA 0 = 1 := rfl
  have e2 : tB 0 = 0 := rfl
  have e3 : tD 0 = 0 := rfl
  have e4 : tE 0 = 1 := rfl
  rw [e1] at q1; rw [e2] at q2; rw [e3] at q3; rw [e4] at q4
  exact ⟨q1.symm, q2.symm, q3.symm, q4.symm⟩
theorem inv_law (t : Nat) (ht : t < 8) (a b x y : Int) : L1 (inv t) (-(tA (inv t) * a + tB (inv t) * b)) (-(tD (inv t) * a + tE (inv t) * b)) (L1 t a b x y) (L2 t a b x y) = x ∧ L2 (inv t) (-(tA (inv t) * a + tB (inv t) * b)) (-(tD (inv t) * a + tE (inv t) * b)) (L1 t a b x y) (L2 t a b x y) = y := by
  obtain ⟨h8, h0, _⟩ := inv_ok t ht
  obtain ⟨q1, q2, q3, q4⟩ := same0 t (inv t) ht h8 h0
  unfold L1 L2
  constructor <;> grind
theorem inv_back (t : Nat) (ht : t < 8) (a b : Int) : -(tA t * (-(tA (inv t) * a + tB (inv t) * b)) + tB t * (-(tD (inv t) * a + tE (inv t) * b))) = a ∧ -(tD t * (-(tA (inv t) * a + tB (inv t) * b)) + tE t * (-(tD (inv t) * a + tE (inv t) * b))) = b := by
  obtain ⟨h8, _, _⟩ := inv_ok t ht
  obtain ⟨_, h0, _⟩ := inv_ok (inv t) h8
  rw [inv_inv t ht] at h0
  obtain ⟨q1, q2, q3, q4⟩ := same0 (inv t) t h8 ht h0
  constructor <;> grind
theorem pw_mod {wl : List (List Nat)} {R C : Nat} {r c r' c' : Int} (h1 : r % R = r' % R) (h2 : c % C = c' % C) : pw wl R C r c = pw wl R C r' c' := by unfold pw; rw [h1, h2]
theorem cw_mk {R C : Nat} {f : Nat → Nat → Nat} {i j : Nat} (hi : i < R) (hj : j < C) : cw (mk R C f) i j = f i j := by
  unfold cw mk
  rw [List.getElem?_map, List.getElem?_range hi]
  simp [hj]
theorem par_inv (t : Nat) (ht : t < 8) : (t % 2 = 0 → tB (inv t) = 0 ∧ tD (inv t) = 0) ∧ (t % 2 ≠ 0 → tA (inv t) = 0 ∧ tE (inv t) = 0) ∧ inv t % 2 = t % 2 :=
  have h : ∀ t : Fin 8, (t.val % 2 = 0 → tB (inv t) = 0 ∧ tD (inv t) = 0) ∧ (t.val % 2 ≠ 0 → tA (inv t) = 0 ∧ tE (inv t) = 0) ∧ inv t % 2 = t.val % 2 := by decide +kernel
  h ⟨t, ht⟩
theorem mod_sub (x k R : Int) : (x - k * R) % R = x % R := by
  rw [Int.sub_eq_add_neg, ← Int.neg_mul]
  exact Int.add_mul_emod_self_right ..
/-- the led wall has, where the motion leads a place, the place's sign -/
theorem led_key {wl : List (List Nat)} {R C : Nat} (g : Good wl R C) (t : Nat) (ht : t < 8) (a b x y : Int) : pw (ledW wl R C t a b) (rr t R C) (rr t C R) (L1 t a b x y) (L2 t a b x y) = pw wl R C x y := by
  have g' := ledW_good g t a b
  have r1 := g'.r1
  have c1 := g'.c1
  generalize hi : L1 t a b x y = i
  generalize hj : L2 t a b x y = j
  have b1 : 0 ≤ i % (rr t R C : Int) := Int.emod_nonneg _ (by omega)
  have b2 : i % (rr t R C : Int) < rr t R C := Int.emod_lt_of_pos _ (by omega)
  have b3 : 0 ≤ j % (rr t C R : Int) := Int.emod_nonneg _ (by omega)
  have b4 : j % (rr t C R : Int) < rr t C R := Int.emod_lt_of_pos _ (by omega)
  have e : pw (ledW wl R C t a b) (rr t R C) (rr t C R) i j = pw wl R C (L1 (inv t) (-(tA (inv t) * a + tB (inv t) * b)) (-(tD (inv t) * a + tE (inv t) * b)) (i % (rr t R C : Int)) (j % (rr t C R : Int))) (L2 (inv t) (-(tA (inv t) * a + tB (inv t) * b)) (-(tD (inv t) * a + tE (inv t) * b)) (i % (rr t R C : Int)) (j % (rr t C R : Int))) := by
    show cw (ledW wl R C t a b) (i % (rr t R C : Int)).toNat (j % (rr t C R : Int)).toNat = _
    unfold ledW
    rw [cw_mk (by omega) (by omega), Int.toNat_of_nonneg b1, Int.toNat_of_nonneg b3]
  rw [e]
  obtain ⟨k1, k2⟩ := inv_law t ht a b x y
  rw [hi, hj] at k1 k2
  obtain ⟨pe, po, _⟩ := par_inv t ht
  have q1 : i % (rr t R C : Int) = i - i / (rr t R C : Int) * (rr t R C : Int) := by have := Int.emod_add_mul_ediv i (rr t R C); rw [Int.mul_comm] at this; omega
  have q2 : j % (rr t C R : Int) = j - j / (rr t C R : Int) * (rr t C R : Int) := by have := Int.emod_add_mul_ediv j (rr t C R); rw [Int.mul_comm] at this; omega
  rw [q1, q2]
  generalize i / (rr t R C : Int) = q
  generalize j / (rr t C R : Int) = p
  by_cases z : t % 2 = 0
  · have eR : rr t R C = R := by unfold rr; rw [if_pos z]
    have eC : rr t C R = C := by unfold rr; rw [if_pos z]
    obtain ⟨z1, z2⟩ := pe z
    rw [eR, eC]
    refine pw_mod ?_ ?_
    · rw [show L1 (inv t) (-(tA (inv t) * a + tB (inv t) * b)) (-(tD (inv t) * a + tE (inv t) * b)) (i - q * (R : Int)) (j - p * (C : Int)) = x - (tA (inv t) * q) * (R : Int) by
        rw [← k1]; unfold L1; rw [z1]; grind]
      exact mod_sub _ _ _
    · rw [show L2 (inv t) (-(tA (inv t) * a + tB (inv t) * b)) (-(tD (inv t) * a + tE (inv t) * b)) (i - q * (R : Int)) (j - p * (C : Int)) = y - (tE (inv t) * p) * (C : Int) by
        rw [← k2]; unfold L2; rw [z2]; grind]
      exact mod_sub _ _ _
  · have eR : rr t R C = C := by unfold rr; rw [if_neg z]
    have eC : rr t C R = R := by unfold rr; rw [if_neg z]
    obtain ⟨z1, z2⟩ := po z
    rw [eR, eC]
    refine pw_mod ?_ ?_
    · rw [show L1 (inv t) (-(tA (inv t) * a + tB (inv t) * b)) (-(tD (inv t) * a + tE (inv t) * b)) (i - q * (C : Int)) (j - p * (R : Int)) = x - (tB (inv t) * p) * (R : Int) by
        rw [← k1]; unfold L1; rw [z1]; grind]
      exact mod_sub _ _ _
    · rw [show L2 (inv t) (-(tA (inv t) * a + tB (inv t) * b)) (-(tD (inv t) * a + tE (inv t) * b)) (i - q * (C : Int)) (j - p * (R : Int)) = y - (tD (inv t) * q) * (C : Int) by
        rw [← k2]; unfold L2; rw [z2]; grind]
      exact mod_sub _ _ _
theorem mk_self {wl : List (List Nat)} {R C : Nat} (g : Good wl R C) : mk R C (fun r c => pw wl R C r c) = wl := by
  refine List.ext_getElem (by unfold mk; rw [List.length_map, List.length_range, g.len]) fun i h1 h2 => ?_
  have hi : i < R := by rw [← g.len]; exact h2
  have hc := g.row _ (List.getElem_mem h2)
  refine List.ext_getElem (by simp [mk, hc]) fun j h3 h4 => ?_
  have hj : j < C := by rw [← hc]; exact h4
  have : (mk R C fun r c => pw wl R C r c)[i][j] = pw wl R C i j := by simp [mk]
  rw [this]
  unfold pw
  rw [Int.emod_eq_of_lt (by omega) (by omega), Int.emod_eq_of_lt (by omega) (by omega)]
  unfold cw
  simp [h2, h4]
theorem mk_congr {R C : Nat} {f f' : Nat → Nat → Nat} (h : ∀ i j, f i j = f' i j) : mk R C f = mk R C f' := by
  have : f = f' := funext fun i => funext fun j => h i j
  rw [this]
theorem led_back {wl : List (List Nat)} {R C : Nat} (g : Good wl R C) (t : Nat) (ht : t < 8) (a b : Int) : ledW (ledW wl R C t a b) (rr t R C) (rr t C R) (inv t) (-(tA (inv t) * a + tB (inv t) * b)) (-(tD (inv t) * a + tE (inv t) * b)) = wl := by
  obtain ⟨e1, e2⟩ := inv_back t ht a b
  have e3 : rr (inv t) (rr t R C) (rr t C R) = R := by
    unfold rr
    rw [(par_inv t ht).2.2]
    split <;> simp_all
  have e4 : rr (inv t) (rr t C R) (rr t R C) = C := by
    unfold rr
    rw [(par_inv t ht).2.2]
    split <;> simp_all
  unfold ledW
  rw [e3, e4, inv_inv t ht, e1, e2]
  refine Eq.trans (mk_congr fun i j => ?_) (mk_self g)
  exact led_key g t ht a b i j
theorem led_none {wl : List (List Nat)} {R C : Nat} (g : Good wl R C) : ledW wl R C 0 0 0 = wl := by
  refine Eq.trans ?_ (mk_self g)
  show mk R C _ = _
  refine mk_congr fun i j => ?_
  have i0 : inv 0 = 0 := rfl
  rw [i0]
  refine pw_mod ?_ ?_ <;> simp [L1, L2, tA, tB, tD, tE]
end K14
namespace K14
open Vl
/-! ### what is refused -/
def badM : List D := [.non, .tup [.int 8, .int 0, .int 0], .tup [.int (-1), .int 0, .int 0], .tup [.int 0, .int 101, .int 0], .tup [.int 0, .int 0, .int (-101)], .tup [.int 0, .int 0], .lst [.int 0, .int 0, .int 0], .tup [.bl true, .int 0, .int 0], .tup [.int 0, .int 0, .non]]
theorem num_bl (b : Bool) (lo hi : Int) (m) : den_is_number [.bl b, .int lo, .int hi] m = .ok (.bl false) m := num_no _ rfl _ _ _
theorem num_non (lo hi : Int) (m) : den_is_number [.non, .int lo, .int hi] m = .ok (.bl false) m := num_no _ rfl _ _ _
theorem bad_motion (d : D) (hd : d ∈ badM) (m) : den_is_motion [d, .int 100] m = .ok (.bl false) m := by
  unfold badM at hd
  simp only [List.mem_cons, List.not_mem_nil, or_false] at hd
  rcases hd with rfl | rfl | rfl | rfl | rfl | rfl | rfl | rfl | rfl <;> refine fn_ok rfl ?_ <;> simp [body_is_motion, num_ok, num_bl, num_non]
theorem check_bad (d : D) (hd : d ∈ badM) (m) : den_check_motion [d] m = .err "BadMove" m := by
  refine fn_err rfl ?_
  simp [body_check_motion, c_MOST_STEP, bad_motion d hd]
theorem moved_badM {wl : List (List Nat)} {R C : Nat} (g : Good wl R C) (d : D) (hd : d ∈ badM) (m) : den_moved [WD wl, d] m = .err "BadMove" m := by
  refine fn_err rfl ?_
  simp [body_moved, check_wall_ok g, check_bad d hd]
def badC : List D := [.non, .tup [.int 0], .tup [.int 101, .int 0], .tup [.int 0, .int (-101)], .lst [.int 0, .int 0], .tup [.bl true, .int 0]]
theorem led_bad (t : Nat) (ht : t < 8) (a b : Int) (ha : -100 ≤ a ∧ a ≤ 100) (hb : -100 ≤ b ∧ b ≤ 100) (d : D) (hd : d ∈ badC) (m) : den_led [mot t a b, d] m = .err "BadPoint" m := by
  have two : ∀ x y : D, (∀ m, den_is_number [x, .int (-100), .int 100] m = .ok (.bl false) m ∨ den_is_number [y, .int (-100), .int 100] m = .ok (.bl false) m) → (∀ d, (d = x ∨ d = y) → ∃ k, ∀ m, den_is_number [d, .int (-100), .int 100] m = .ok (.bl k) m) → den_led [mot t a b, .tup [x, y]] m = .err "BadPoint" m := fun x y h hk => by
    obtain ⟨kx, ex⟩ := hk x (.inl rfl)
    obtain ⟨ky, ey⟩ := hk y (.inr rfl)
    refine fn_err rfl ?_
    simp only [body_led, List.map_cons, List.map_nil, List.cons_append, List.nil_append, List.replicate, ru_seq, ru_drop, ru_call, ru_cons, ru_var, slotV_succ, slotV_val0, ru_rtn, check_ok t ht a b ha hb, frQ_ok, ru_if, ru_or, ru_not, ru_tru, ru_isi, isi_tup_tuple, ru_opt_some, truD_bl, Bool.not_true, Bool.false_eq_true, if_false, ru_tst, ru_binM, ru_look1, ru_peek, peekD_succ, peekD_val0, lookD_tup]
    refine ⟨_, rfl, ?_⟩
    simp only [lenD_tup, ru_opt_some, List.length_cons, List.length_nil, neD_ii, asB_bl]
    rw [if_neg (by decide)]
    simp only [ru_shut, ru_rtn]
    refine ru_comp ?_
    simp only [ru_itM, ru_var, slotV_succ, slotV_val0, itemsD_tup, ru_opt_some]
    refine ⟨by simp [anyOwn, Slot.isOwn], by simp, ?_⟩
    cases kx with
    | false => cases ky <;> simp [ru_lc1, wp, c_MOST_STEP, ex, ey]
    | true =>
      cases ky with
      | false => simp [ru_lc1, wp, c_MOST_STEP, ex, ey]
      | true =>
        exfalso
        rcases h m with h | h
        · rw [ex] at h; cases h
        · rw [ey] at h; cases h
  unfold badC at hd
  simp only [List.mem_cons, List.not_mem_nil, or_false] at hd
  have ki : ∀ i : Int, ∃ k, ∀ m, den_is_number [.int i, .int (-100), .int 100] m = .ok (.bl k) m := fun i => ⟨_, fun m => num_ok i (-100) 100 m⟩
  rcases hd with rfl | rfl | rfl | rfl | rfl | rfl
  · refine fn_err rfl ?_
    simp [body_led, check_ok, ht, ha, hb]
  · refine fn_err rfl ?_
    simp [body_led, check_ok, ht, ha, hb]
  · exact two _ _ (fun m => .inl (num_ok 101 (-100) 100 m)) (fun d hd => by rcases hd with rfl | rfl <;> exact ki _)
  · exact two _ _ (fun m => .inr (num_ok (-101) (-100) 100 m)) (fun d hd => by rcases hd with rfl | rfl <;> exact ki _)
  · refine fn_err rfl ?_
    simp [body_led, check_ok, ht, ha, hb]
  · exact two _ _ (fun m => .inl (num_bl true (-100) 100 m)) (fun d hd => by
      rcases hd with rfl | rfl
      · exact ⟨_, fun m => num_bl true (-100) 100 m⟩
      · exact ki _)
def badW : List D := [.non, .lst [], .lst [txt []], .lst [txt [97], txt [97, 98]], .lst [txt [65]], .lst [txt [97, 97, 97, 97, 97, 97, 97]], .lst [txt [97], txt [97], txt [97], txt [97], txt [97], txt [97], txt [97]], .lst [.int 1], txt [97]]
theorem bad_wall (d : D) (hd : d ∈ badW) (m) : den_is_wall [d] m = .ok (.bl false) m := by
  unfold badW at hd
  simp only [List.mem_cons, List.not_mem_nil, or_false] at hd
  have i0 : ∀ (x : D) (xs : List D), ixD (.lst (x :: xs)) (.int 0) = some x := fun x xs => ixD_l (i := 0) rfl
  have l0 : ∀ l : List Nat, l.length ≤ 100 → lenD (txt l) = some (.int l.length) := fun l h => lenD_t (by omega)
  have nA : ∀ s : DS, notInD (txt [65]) (lookD s c_LETTERS) = some (.bl true) := fun s => by
    show (match some (D.bl (inStr "abcdefghijklmnopqrstuvwxyz" ⟨#[65]⟩)) with
      | some (.bl k) => some (D.bl (!k))
      | _ => none) = _
    rw [show inStr "abcdefghijklmnopqrstuvwxyz" ⟨#[65]⟩ = false by decide +kernel]; rfl
  have na : ∀ s : DS, notInD (txt [97]) (lookD s c_LETTERS) = some (.bl false) := fun s => let_in (.inl rfl) s
  have la := l0 [97] (by simp)
  have lab := l0 [97, 98] (by simp)
  have lA := l0 [65] (by simp)
  have l7 := l0 [97, 97, 97, 97, 97, 97, 97] (by simp)
  have le := l0 [] (by simp)
  simp only [List.length_cons, List.length_nil] at la lab lA l7 le
  have ia := itemsD_t (l := [97])
  have iA := itemsD_t (l := [65])
  simp only [List.map_cons, List.map_nil] at ia iA
  rcases hd with rfl | rfl | rfl | rfl | rfl | rfl | rfl | rfl | rfl
  · refine fn_ok rfl ?_
    simp [body_is_wall]
  · refine fn_ok rfl ?_
    simp [body_is_wall, c_MOST_SIDE]
  · refine fn_ok rfl ?_
    simp [body_is_wall, c_MOST_SIDE, i0, le]
  · refine fn_ok rfl ?_
    simp [body_is_wall, c_MOST_SIDE, i0, la, lab, ru_for, ru_forL1, ru_compI, ru_lc1, wp, anyOwn, Slot.isOwn, ia, na]
  · refine fn_ok rfl ?_
    simp [body_is_wall, c_MOST_SIDE, i0, lA, ru_for, ru_forL1, ru_compI, ru_lc1, wp, anyOwn, Slot.isOwn, iA, nA]
  · refine fn_ok rfl ?_
    simp [body_is_wall, c_MOST_SIDE, i0, l7]
  · refine fn_ok rfl ?_
    simp [body_is_wall, c_MOST_SIDE, i0]
  · refine fn_ok rfl ?_
    simp [body_is_wall, c_MOST_SIDE, i0]
  · refine fn_ok rfl ?_
    simp [body_is_wall, c_MOST_SIDE, i0]
theorem moved_badW (t : Nat) (a b : Int) (d : D) (hd : d ∈ badW) (m) : den_moved [d, mot t a b] m = .err "BadFormation" m := by
  have h : den_check_wall [d] m = .err "BadFormation" m := by
    refine fn_err rfl ?_
    simp [body_check_wall, bad_wall d hd]
  refine fn_err rfl ?_
  simp [body_moved, h]
end K14
namespace K14
open Vl
/-- a draw, whatever it may be -/
theorem fr_draw {E : String → List MO → Prop} {mem : List MO} {many : Int} {Q : D → List MO → Prop} (hd : P.Drw mem) (hm : 0 < many) (k : ∀ v mem', 0 ≤ v → v < many → P.Drw mem' → mem'.tail = mem.tail → Q (.int v) mem') : frQ E (P.den__law_draw [.mut 0, .int many] mem) Q := by
  obtain ⟨v, mem', e, h1, h2, h3, h4⟩ := P.draw_ok hd many hm
  rw [e]
  exact k v mem' h1 h2 h3 h4
theorem addD_ll {a b : List D} (h : a.length + b.length ≤ 16777216) : addD (.lst a) (.lst b) = some (.lst (a ++ b)) := if_pos h
theorem ru_lcM {α : Type} {E : String → DS → Prop} {s : DS} {vs : List Nat} {g : D → M Unit} {t : M Bool} {el : M D} {xs : List α} {h k : α → D} {Q : List D → DS → Prop}
    (step : ∀ x, x ∈ xs → ru E (g (h x)) ⟨wipeE s.env vs, s.mem⟩ fun _ s1 => ru E t s1 fun b s2 => b = true ∧ ru E el s2 fun y s3 => wipeE s3.env vs = wipeE s.env vs ∧ y = k x ∧ s3.mem = s.mem)
    (hd : Q (xs.map k) ⟨wipeE s.env vs, s.mem⟩) : ru E (lcL vs g t el (xs.map h) []) s Q := by
  refine ru_lcI (fun i acc mem => acc = (xs.take i).map k ∧ mem = s.mem) ⟨rfl, rfl⟩ (fun i d acc mem hi ⟨ha, hm⟩ => ?_) (fun acc mem ⟨ha, hm⟩ => ?_)
  · subst ha hm
    rw [List.getElem?_map] at hi
    cases e : xs[i]? with
    | none => rw [e] at hi; cases hi
    | some x =>
      rw [e] at hi
      cases hi
      have ht : xs.take (i + 1) = xs.take i ++ [x] := by rw [List.take_add_one, e]; rfl
      refine ru_mono (step x (List.mem_of_getElem? e)) fun _ s1 q => ru_mono q fun b s2 ⟨hb, q⟩ => ?_
      subst hb
      rw [if_pos rfl]
      refine ru_mono q fun y s3 ⟨q1, q2, q3⟩ => ⟨q1, ?_, q3⟩
      rw [ht, List.map_append, q2]
      rfl
  · subst hm
    rw [ha, List.length_map, List.take_length]
    exact hd
/-- rows of a wall that is being made -/
structure Rows (wl : List (List Nat)) (C : Nat) : Prop where
  row : ∀ row ∈ wl, row.length = C
  sg : ∀ row ∈ wl, ∀ n ∈ row, let3 n
theorem Rows.app {wl : List (List Nat)} {C : Nat} (h : Rows wl C) {row : List Nat} (h1 : row.length = C) (h2 : ∀ n ∈ row, let3 n) : Rows (wl ++ [row]) C :=
  ⟨fun r hr => by rcases List.mem_append.mp hr with hr | hr; exact h.row r hr; simp at hr; subst hr; exact h1,
   fun r hr => by rcases List.mem_append.mp hr with hr | hr; exact h.sg r hr; simp at hr; subst hr; exact h2⟩
theorem flat1 : ∀ l : List Nat, (l.map fun n => [n]).flatten = l
  | [] => rfl
  | n :: r => by rw [List.map_cons, List.flatten_cons, flat1 r]; rfl
theorem join1 {l : List Nat} (h : l.length ≤ 1000) : joinD (txt []) (.lst (l.map fun n => txt [n])) = some (txt l) := by
  have := joinD_t (ls := l.map fun n => [n]) (by rw [flat1]; omega)
  rw [flat1, List.map_map] at this
  exact this
theorem Good.rows {wl : List (List Nat)} {R C : Nat} (g : Good wl R C) : Rows wl C := ⟨g.row, g.sg⟩
theorem tiles_ok {mem : List MO} (hd : P.Drw mem) : ∃ d mem', den__law_tiles [.mut 0, .int 3] mem = .ok d mem' ∧ ((∃ wl R C, d = WD wl ∧ Good wl R C) ∧ P.Drw mem' ∧ mem'.tail = mem.tail) := by
  refine fn_ex rfl ?_
  simp only [body__law_tiles, List.map_cons, List.map_nil, List.cons_append, List.nil_append, List.replicate]
  rw [ru_seq]
  simp only [ru_asg, ru_tup, ru_cons, ru_binM, ru_rtn, ru_call, ru_var, slotV_val0, slotV_succ]
  refine fr_draw hd (by decide) fun v1 m1 a1 b1 d1 t1 => ?_
  simp only [addD_ii, ru_opt_some, ru_var, slotV_val0, slotV_succ]
  refine fr_draw d1 (by decide) fun v2 m2 a2 b2 d2 t2 => ?_
  obtain ⟨R, hR⟩ : ∃ R : Nat, 1 + v1 = (R : Int) := ⟨(1 + v1).toNat, by omega⟩
  obtain ⟨C, hC⟩ : ∃ C : Nat, 1 + v2 = (C : Int) := ⟨(1 + v2).toNat, by omega⟩
  have r1 : 1 ≤ R := by omega
  have r3 : R ≤ 3 := by omega
  have c1 : 1 ≤ C := by omega
  have c3 : C ≤ 3 := by omega
  simp only [addD_ii, ru_opt_some, hR, hC, ru_untup, ru_sets, ru_set, ru_end0, List.set_cons_succ, List.set_cons_zero, List.length_cons, List.length_nil]
  refine ⟨by decide, by decide, ?_⟩
  -- signs
  rw [ru_seq]
  simp only [ru_asg, ru_ix, ru_shut, ru_lst, ru_cons, ru_rtn, ru_call, ru_var, slotV_val0, slotV_succ]
  refine ⟨by simp, ?_⟩
  refine fr_draw d2 (by decide) fun v3 m3 a3 b3 d3 t3 => ?_
  have hs : ∃ sl : List Nat, ixD (.lst [D.str "ab", D.str "ab", D.str "abz"]) (.int v3) = some (txt sl) ∧ (∀ n ∈ sl, let3 n) ∧ 1 ≤ sl.length ∧ sl.length ≤ 3 := by
    have : v3 = 0 ∨ v3 = 1 ∨ v3 = 2 := by omega
    rcases this with rfl | rfl | rfl
    · exact ⟨[97, 98], rfl, by simp [let3], by decide, by decide⟩
    · exact ⟨[97, 98], rfl, by simp [let3], by decide, by decide⟩
    · exact ⟨[97, 98, 122], rfl, by simp [let3], by decide, by decide⟩
  obtain ⟨sl, es, hsl, hs1, hs3⟩ := hs
  simp only [lookD_lst, es, ru_opt_some, ru_set, List.set_cons_succ, List.set_cons_zero]
  -- wall
  rw [ru_seq]
  simp only [ru_asg, ru_shut, ru_compI, ru_bnd, ru_cons, ru_var, slotV_val0, slotV_succ, ru_rtn, rng1_int (show (-(2 ^ 62) : Int) ≤ (R : Int) by omega) (show (R : Int) < 2 ^ 62 by omega), ru_opt_some]
  refine ⟨by simp [anyOwn, Slot.isOwn], by simp; omega, ?_⟩
  refine ru_lcI (fun i acc mem' => ∃ wl, acc = wl.map txt ∧ wl.length = i ∧ Rows wl C ∧ P.Drw mem' ∧ mem'.tail = mem.tail) ⟨[], rfl, rfl, ⟨by simp, by simp⟩, d3, by rw [t3, t2, t1]⟩ (fun i d acc mem' hi hI => ?_) (fun acc mem' hI => ?_)
  · have ⟨wl, h1, hl, hr, hd', ht'⟩ := hI
    subst h1
    simp only [wipeE_cons, wipeE_nil, List.set_cons_succ, List.set_cons_zero, ru_set, ru_rtn, if_true]
    simp only [ru_join, isS_str, true_and, ru_rtn, ru_bnd, ru_shut, ru_compI, ru_cons, ru_var, slotV_val0, slotV_succ, ru_rtn, rng1_int (show (-(2 ^ 62) : Int) ≤ (C : Int) by omega) (show (C : Int) < 2 ^ 62 by omega), ru_opt_some]
    refine ⟨by simp [anyOwn, Slot.isOwn], by simp; omega, ?_⟩
    refine ru_lcI (fun j acc mem' => ∃ l : List Nat, acc = l.map (fun n => txt [n]) ∧ l.length = j ∧ (∀ n ∈ l, let3 n) ∧ P.Drw mem' ∧ mem'.tail = mem.tail) ⟨[], rfl, rfl, by simp, hd', ht'⟩ (fun j d2 acc2 mem2 hj hJ => ?_) (fun acc2 mem2 hJ => ?_)
    · obtain ⟨l, rfl, hl2, hln, hd2, ht2⟩ := hJ
      simp only [wipeE_cons, wipeE_nil, List.set_cons_succ, List.set_cons_zero, ru_set, ru_rtn, if_true, ru_ixv', List.getElem?_cons_succ, List.getElem?_cons_zero, knownB_val, true_and, ru_call, ru_cons, ru_var, slotV_val0, slotV_succ, ru_look1, ru_peek, peekD_succ, peekD_val0, lookD_str]
      refine ⟨_, rfl, ?_⟩
      simp only [lenD_t (show sl.length ≤ 16777216 by omega), ru_opt_some]
      refine fr_draw hd2 (by omega) fun v m' a b d' t' => ?_
      have hx : ∃ x, sl[v.toNat]? = some x := ⟨_, List.getElem?_eq_getElem (by omega)⟩
      obtain ⟨x, hx⟩ := hx
      simp only [peekD_succ, peekD_val0, lookD_str, Option.bind_some, ixD_t (show sl.length ≤ 16777216 by omega) a hx, ru_opt_some]
      refine ⟨rfl, l ++ [x], by simp, by simp [hl2], fun n hn => ?_, d', by rw [t', ht2]⟩
      rcases List.mem_append.mp hn with hn | hn
      · exact hln n hn
      · simp at hn; subst hn; exact hsl _ (List.mem_of_getElem? hx)
    · obtain ⟨l, rfl, hl2, hln, hd2, ht2⟩ := hJ
      simp only [rngL_length] at hl2
      have hl3 : l.length = C := by simpa using hl2
      have e0 : D.str "" = txt [] := rfl
      simp only [e0, join1 (show l.length ≤ 1000 by omega), ru_opt_some, wipeE_cons, wipeE_nil, restE_cons, restE_nil, List.set_cons_succ, List.set_cons_zero, List.getD_cons_succ, List.getD_cons_zero]
      exact ⟨trivial, wl ++ [l], by simp, by simp [hl], hr.app hl3 hln, hd2, ht2⟩
  obtain ⟨wl, rfl, hl, hr, hd', ht'⟩ := hI
  simp only [rngL_length] at hl
  have hl : wl.length = R := by simpa using hl
  have g0 : Good wl R C := ⟨hl, hr.row, hr.sg, r1, by omega, c1, by omega⟩
  simp only [wipeE_cons, wipeE_nil, restE_cons, restE_nil, List.set_cons_succ, List.set_cons_zero, List.getD_cons_succ, List.getD_cons_zero, ru_set]
  rw [ru_seq]
  simp only [ru_asg, ru_call, ru_cons, ru_rtn, ru_var, slotV_val0, slotV_succ]
  refine fr_draw hd' (by decide) fun v m' a b d' t' => ?_
  have ht2 : m'.tail = mem.tail := by rw [t', ht']
  simp only [ru_set, List.set_cons_succ, List.set_cons_zero]
  have fin : ∀ wl2 R2 C2, Good wl2 R2 C2 → (∃ wl R C, WD wl2 = WD wl ∧ Good wl R C) ∧ P.Drw m' ∧ m'.tail = mem.tail := fun wl2 R2 C2 g2 => ⟨⟨wl2, R2, C2, rfl, g2⟩, d', ht2⟩
  have hv : v = 0 ∨ v = 1 ∨ v = 2 ∨ v = 3 ∨ v = 4 ∨ v = 5 := by omega
  rcases hv with rfl | rfl | rfl | rfl | rfl | rfl
  · -- doubled downwards
    have e1 : addD (WD wl) (.lst (wl.map txt).reverse) = some (WD (wl ++ wl.reverse)) := by
      rw [addD_ll (by simp; omega)]
      simp [WD]
    simp only [ru_seq, ru_if, ru_and, ru_tst, ru_binM, ru_var, slotV_succ, slotV_val0, ru_rtn, eqD_ii, ru_opt_some, asB_bl, ru_ret, ru_asg, ru_rev, lookD_lst, revD_lst, e1, ru_set, List.set_cons_succ, List.set_cons_zero]
    exact fin _ (R + R) C ⟨by simp [hl], fun row h => g0.row row (by simpa using h), fun row h => g0.sg row (by simpa using h), by omega, by omega, c1, by omega⟩
  · -- each row doubled
    have e1 : ∀ row ∈ wl, addD (txt row) (txt row.reverse) = some (txt (row ++ row.reverse)) := fun row h => addD_tt (by have := g0.row row h; simp; omega)
    have e2 : ∀ row ∈ wl, revD (txt row) = some (txt row.reverse) := fun row h => revD_t (by have := g0.row row h; omega)
    simp only [ru_seq, ru_if, ru_and, ru_tst, ru_binM, ru_var, slotV_succ, slotV_val0, ru_rtn, eqD_ii, ru_opt_some, asB_bl, ru_ret, ru_asg, ru_shut, ru_compI, ru_itM, itemsD_lst]
    refine ⟨by simp [anyOwn, Slot.isOwn], by simp; omega, ?_⟩
    refine ru_lcM (k := fun row => txt (row ++ row.reverse)) (fun row hrow => ?_) ?_
    · simp only [wipeE_cons, wipeE_nil, List.set_cons_succ, List.set_cons_zero, ru_set, ru_rtn, true_and, ru_binM, ru_var, slotV_succ, slotV_val0, ru_rev, lookD_str, e2 row hrow, ru_opt_some, e1 row hrow]
      all_goals exact ⟨trivial, trivial⟩
    · simp only [wipeE_cons, wipeE_nil, restE_cons, restE_nil, List.set_cons_succ, List.set_cons_zero, List.getD_cons_succ, List.getD_cons_zero, ru_set, ru_seq, ru_if, ru_and, ru_tst, ru_binM, ru_var, slotV_succ, slotV_val0, ru_rtn, eqD_ii, ru_opt_some, asB_bl, ru_ret]
      have := fin (wl.map fun row => row ++ row.reverse) R (C + C) ⟨by simp [hl], fun row h => by
          obtain ⟨r, hr1, rfl⟩ := List.mem_map.mp h
          have := g0.row r hr1
          simp; omega, fun row h n hn => by
          obtain ⟨r, hr1, rfl⟩ := List.mem_map.mp h
          exact g0.sg r hr1 n (by simpa using hn), r1, by omega, by omega, by omega⟩
      rw [WD, List.map_map] at this
      exact this
  · -- turned by a half
    have e2 : ∀ row ∈ wl.reverse, revD (txt row) = some (txt row.reverse) := fun row h => revD_t (by have := g0.row row (by simpa using h); omega)
    simp only [ru_seq, ru_if, ru_and, ru_tst, ru_binM, ru_var, slotV_succ, slotV_val0, ru_rtn, eqD_ii, ru_opt_some, asB_bl, ru_ret, ru_asg, ru_shut, ru_compI, ru_itM, ru_rev, lookD_lst, revD_lst, itemsD_lst]
    refine ⟨by simp [anyOwn, Slot.isOwn], by simp; omega, ?_⟩
    rw [← List.map_reverse]
    refine ru_lcM (k := fun row => txt row.reverse) (fun row hrow => ?_) ?_
    · simp only [wipeE_cons, wipeE_nil, List.set_cons_succ, List.set_cons_zero, ru_set, ru_rtn, true_and, ru_binM, ru_var, slotV_succ, slotV_val0, ru_rev, lookD_str, e2 row hrow, ru_opt_some]
      all_goals exact ⟨trivial, trivial⟩
    · have e1 : addD (WD wl) (.lst (wl.reverse.map fun row => txt row.reverse)) = some (WD (wl ++ wl.reverse.map List.reverse)) := by
        rw [addD_ll (by simp; omega)]
        simp [WD]
      simp only [wipeE_cons, wipeE_nil, restE_cons, restE_nil, List.set_cons_succ, List.set_cons_zero, List.getD_cons_succ, List.getD_cons_zero, e1, ru_set, ru_seq, ru_if, ru_and, ru_tst, ru_binM, ru_var, slotV_succ, slotV_val0, ru_rtn, eqD_ii, ru_opt_some, asB_bl, ru_ret]
      refine fin _ (R + R) C ⟨by simp [hl], fun row h => ?_, fun row h n hn => ?_, by omega, by omega, c1, by omega⟩
      · rcases List.mem_append.mp h with h | h
        · exact g0.row row h
        · obtain ⟨r, hr1, rfl⟩ := List.mem_map.mp h
          have := g0.row r (by simpa using hr1)
          simpa using this
      · rcases List.mem_append.mp h with h | h
        · exact g0.sg row h n hn
        · obtain ⟨r, hr1, rfl⟩ := List.mem_map.mp h
          exact g0.sg r (by simpa using hr1) n (by simpa using hn)
  · -- moved by half a row
    simp only [ru_seq, ru_if, ru_and, ru_tst, ru_binM, ru_var, slotV_succ, slotV_val0, ru_rtn, eqD_ii, ru_opt_some, asB_bl, ru_ret, gtV_ii]
    by_cases hc : (1 : Int) < (C : Int)
    · have e5 : (C : Int) / 2 = ((C / 2 : Nat) : Int) := by omega
      have e3 : ∀ row ∈ wl, slD (txt row) (some ((C / 2 : Nat) : Int)) none = some (txt (row.drop (C / 2))) := fun row h => by
        have := slD_drop (l := row) (k := ((C / 2 : Nat) : Int)) (by have := g0.row row h; omega) (by omega)
        rw [Int.toNat_natCast] at this
        exact this
      have e4 : ∀ row ∈ wl, slD (txt row) none (some ((C / 2 : Nat) : Int)) = some (txt (row.take (C / 2))) := fun row h => by
        have := slD_take (l := row) (k := ((C / 2 : Nat) : Int)) (by have := g0.row row h; omega) (by omega)
        rw [Int.toNat_natCast] at this
        exact this
      have e1 : ∀ row ∈ wl, addD (txt (row.drop (C / 2))) (txt (row.take (C / 2))) = some (txt (row.drop (C / 2) ++ row.take (C / 2))) := fun row h => addD_tt (by have := g0.row row h; simp; omega)
      simp only [hc, decide_true, BEq.rfl, if_true, ru_asg, ru_binM, ru_var, slotV_succ, slotV_val0, ru_shut, ru_compI, ru_itM, itemsD_lst, ru_opt_some]
      refine ⟨by simp [anyOwn, Slot.isOwn], by simp; omega, ?_⟩
      refine ru_lcM (k := fun row => txt (row.drop (C / 2) ++ row.take (C / 2))) (fun row hrow => ?_) ?_
      · simp only [wipeE_cons, wipeE_nil, List.set_cons_succ, List.set_cons_zero, ru_set, ru_rtn, true_and, ru_binM, ru_var, slotV_succ, slotV_val0, ru_sl, ru_part, fdivD_ii (show (0 : Int) < 2 by decide) (show (2 : Int) < 1073741824 by decide), ru_opt_some, asI_int, e5, lookD_str, e3 row hrow, e4 row hrow, e1 row hrow]
        all_goals exact ⟨trivial, trivial⟩
      · have e1 : addD (WD wl) (.lst (wl.map fun row => txt (row.drop (C / 2) ++ row.take (C / 2)))) = some (WD (wl ++ wl.map fun row => row.drop (C / 2) ++ row.take (C / 2))) := by
          rw [addD_ll (by simp; omega)]
          simp [WD]
        simp only [wipeE_cons, wipeE_nil, restE_cons, restE_nil, List.set_cons_succ, List.set_cons_zero, List.getD_cons_succ, List.getD_cons_zero, e1, ru_set, ru_seq, ru_if, ru_and, ru_tst, ru_binM, ru_var, slotV_succ, slotV_val0, ru_rtn, eqD_ii, ru_opt_some, asB_bl, ru_ret]
        refine fin _ (R + R) C ⟨by simp [hl], fun row h => ?_, fun row h n hn => ?_, by omega, by omega, c1, by omega⟩
        · rcases List.mem_append.mp h with h | h
          · exact g0.row row h
          · obtain ⟨r, hr1, rfl⟩ := List.mem_map.mp h
            have := g0.row r hr1
            simp; omega
        · rcases List.mem_append.mp h with h | h
          · exact g0.sg row h n hn
          · obtain ⟨r, hr1, rfl⟩ := List.mem_map.mp h
            rcases List.mem_append.mp hn with hn | hn
            · exact g0.sg r hr1 n (List.mem_of_mem_drop hn)
            · exact g0.sg r hr1 n (List.mem_of_mem_take hn)
    · simp only [hc, decide_false, BEq.rfl, if_true, Bool.false_eq_true, if_false, ru_rtn]
      exact fin wl R C g0
  · -- the lesser of two signs
    simp only [ru_seq, ru_if, ru_and, ru_tst, ru_binM, ru_var, slotV_succ, slotV_val0, ru_rtn, eqD_ii, ru_opt_some, asB_bl, ru_ret]
    by_cases hc : R = C
    · subst hc
      simp only [BEq.rfl, if_true, ru_asg, ru_shut, ru_compI, ru_bnd, ru_cons, ru_var, slotV_val0, slotV_succ, ru_rtn, rng1_int (show (-(2 ^ 62) : Int) ≤ (R : Int) by omega) (show (R : Int) < 2 ^ 62 by omega), ru_opt_some]
      refine ⟨by simp [anyOwn, Slot.isOwn], by simp; omega, ?_⟩
      refine ru_lcI (fun i acc mem' => ∃ wl2, acc = wl2.map txt ∧ wl2.length = i ∧ Rows wl2 R ∧ mem' = m') ⟨[], rfl, rfl, ⟨by simp, by simp⟩, rfl⟩ (fun i d acc mem' hi hI => ?_) (fun acc mem' hI => ?_)
      · have ⟨wl2, h1, hl2, hr2, h4⟩ := hI
        subst h1 h4
        have hi2 := (rngL_get hi).1
        have hd2 := (rngL_get hi).2
        have hi3 : i < R := by simpa using hi2
        subst hd2
        simp only [Int.zero_add, wipeE_cons, wipeE_nil, List.set_cons_succ, List.set_cons_zero, ru_set, ru_rtn, if_true, ru_join, isS_str, true_and, ru_bnd, ru_shut, ru_compI, ru_cons, ru_var, slotV_val0, slotV_succ, rng1_int (show (-(2 ^ 62) : Int) ≤ (R : Int) by omega) (show (R : Int) < 2 ^ 62 by omega), ru_opt_some]
        refine ⟨by simp [anyOwn, Slot.isOwn], by simp; omega, ?_⟩
        refine ru_lcI (fun j acc mem2 => ∃ l : List Nat, acc = l.map (fun n => txt [n]) ∧ l.length = j ∧ (∀ n ∈ l, let3 n) ∧ mem2 = mem') ⟨[], rfl, rfl, by simp, rfl⟩ (fun j d2 acc2 mem2 hj hJ => ?_) (fun acc2 mem2 hJ => ?_)
        · have ⟨l, h1, hl3, hln, h4⟩ := hJ
          subst h1 h4
          have hj2 := (rngL_get hj).1
          have hd3 := (rngL_get hj).2
          have hj3 : j < R := by simpa using hj2
          subst hd3
          obtain ⟨row, k1, k2, k3⟩ := g0.at hi3 hj3
          obtain ⟨row', k1', k2', k3'⟩ := g0.at hj3 hi3
          have q1 := g0.row row k2
          have q2 := g0.row row' k2'
          have x1 := ixD_t (l := row) (i := (j : Int)) (by omega) (by omega) (by simpa using k3)
          have x2 := ixD_t (l := row') (i := (i : Int)) (by omega) (by omega) (by simpa using k3')
          simp only [Int.zero_add, wipeE_cons, wipeE_nil, List.set_cons_succ, List.set_cons_zero, ru_set, ru_rtn, if_true, ru_ix, ru_ixv', List.getElem?_cons_succ, List.getElem?_cons_zero, knownB_val, true_and, ru_bnd, ru_cons, ru_var, slotV_val0, slotV_succ, peekD_succ, peekD_val0, lookD_lst, Option.bind_some, ix_W k1, ix_W k1', ru_opt_some, lookD_str, x1, x2]
          have hm : ∃ z, let3 z ∧ ∀ s, min2F [txt [cw wl i j], txt [cw wl j i]] s = .ok (txt [z]) s := by
            by_cases hz : ltD (txt [cw wl j i]) (txt [cw wl i j]) = true
            · exact ⟨cw wl j i, g0.sg row' k2' _ (List.mem_of_getElem? k3'), fun s => by
                show Vl.R.ok (D.str (if ltD (txt [cw wl j i]) (txt [cw wl i j]) = true then _ else _)) s = _
                rw [if_pos hz]⟩
            · exact ⟨cw wl i j, g0.sg row k2 _ (List.mem_of_getElem? k3), fun s => by
                show Vl.R.ok (D.str (if ltD (txt [cw wl j i]) (txt [cw wl i j]) = true then _ else _)) s = _
                rw [if_neg hz]⟩
          obtain ⟨z, hz1, hz2⟩ := hm
          refine ru_eq (hz2 _) ?_
          refine ⟨rfl, l ++ [z], by simp, by simp [hl3], fun n hn => ?_, rfl⟩
          rcases List.mem_append.mp hn with hn | hn
          · exact hln n hn
          · simp at hn; subst hn; exact hz1
        · have ⟨l, h1, hl3, hln, h4⟩ := hJ
          subst h1 h4
          simp only [rngL_length] at hl3
          have hl4 : l.length = R := by simpa using hl3
          have e0 : D.str "" = txt [] := rfl
          simp only [e0, join1 (show l.length ≤ 1000 by omega), ru_opt_some, wipeE_cons, wipeE_nil, restE_cons, restE_nil, List.set_cons_succ, List.set_cons_zero, List.getD_cons_succ, List.getD_cons_zero]
          exact ⟨trivial, wl2 ++ [l], by simp, by simp [hl2], hr2.app hl4 hln, trivial⟩
      · have ⟨wl2, h1, hl2, hr2, h4⟩ := hI
        subst h1 h4
        simp only [rngL_length] at hl2
        have hl3 : wl2.length = R := by simpa using hl2
        simp only [wipeE_cons, wipeE_nil, restE_cons, restE_nil, List.set_cons_succ, List.set_cons_zero, List.getD_cons_succ, List.getD_cons_zero, ru_set, ru_var, slotV_val0, slotV_succ, ru_ret]
        exact fin wl2 R R ⟨hl3, hr2.row, hr2.sg, r1, by omega, r1, by omega⟩
    · have : ¬ ((R : Int) == (C : Int)) = true := by simp; omega
      simp only [this, BEq.rfl, if_true, if_false, Bool.false_eq_true, ru_rtn]
      exact fin wl R C g0
  · simp only [ru_seq, ru_if, ru_and, ru_tst, ru_binM, ru_var, slotV_succ, slotV_val0, ru_rtn, eqD_ii, ru_opt_some, asB_bl, ru_ret]
    exact fin wl R C g0
theorem motion_draw {mem : List MO} (hd : P.Drw mem) : ∃ d mem', den__law_motion [.mut 0] mem = .ok d mem' ∧ ((∃ (t : Nat) (a b : Int), d = mot t a b ∧ t < 8 ∧ (-100 ≤ a ∧ a ≤ 100) ∧ -100 ≤ b ∧ b ≤ 100) ∧ P.Drw mem' ∧ mem'.tail = mem.tail) := by
  refine fn_ex rfl ?_
  simp only [body__law_motion, List.map_cons, List.map_nil, List.cons_append, List.nil_append, List.replicate, ru_ret, ru_tup, ru_cons, ru_call, ru_rtn, ru_var, slotV_val0, slotV_succ]
  refine fr_draw hd (by decide) fun v1 m1 a1 b1 d1 t1 => ?_
  simp only [ru_binM, ru_call, ru_cons, ru_rtn, ru_var, slotV_val0, slotV_succ]
  refine fr_draw d1 (by decide) fun v2 m2 a2 b2 d2 t2 => ?_
  simp only [subD_ii, ru_opt_some, ru_binM, ru_call, ru_cons, ru_rtn, ru_var, slotV_val0, slotV_succ]
  refine fr_draw d2 (by decide) fun v3 m3 a3 b3 d3 t3 => ?_
  simp only [subD_ii, ru_opt_some]
  refine ⟨by simp, ⟨v1.toNat, v2 - 100, v3 - 100, ?_, by omega, by omega, by omega⟩, d3, by rw [t3, t2, t1]⟩
  rw [mot, Int.toNat_of_nonneg a1]
theorem fr_motion {E : String → List MO → Prop} {mem : List MO} {Q : D → List MO → Prop} (hd : P.Drw mem) (k : ∀ (t : Nat) (a b : Int) mem', t < 8 → (-100 ≤ a ∧ a ≤ 100) → (-100 ≤ b ∧ b ≤ 100) → P.Drw mem' → Q (mot t a b) mem') : frQ E (den__law_motion [.mut 0] mem) Q := by
  obtain ⟨d, mem', e, ⟨t, a, b, e1, h1, h2, h3⟩, h4, h5⟩ := motion_draw hd
  rw [e, e1]
  exact k t a b mem' h1 h2 h3 h4
theorem fr_tiles {E : String → List MO → Prop} {mem : List MO} {Q : D → List MO → Prop} (hd : P.Drw mem) (k : ∀ wl R C mem', Good wl R C → P.Drw mem' → Q (WD wl) mem') : frQ E (den__law_tiles [.mut 0, .int 3] mem) Q := by
  obtain ⟨d, mem', e, ⟨wl, R, C, e1, g⟩, h4, h5⟩ := tiles_ok hd
  rw [e, e1]
  exact k wl R C mem' g h4
end K14
namespace K14
open Vl
theorem plain_W (wl : List (List Nat)) : PySem.PyData.plainAll (toPs (wl.map txt)) = true ∧ PySem.PyData.depthAll (toPs (wl.map txt)) = 0 := by
  induction wl with
  | nil => exact ⟨rfl, rfl⟩
  | cons row r ih =>
    rw [List.map_cons, toPs, PySem.PyData.plainAll, PySem.PyData.depthAll, ih.1, ih.2]
    exact ⟨rfl, rfl⟩
theorem eqv_W (wl : List (List Nat)) : PySem.PyData.eqvAll (toPs (wl.map txt)) (toPs (wl.map txt)) = true := by
  induction wl with
  | nil => rfl
  | cons row r ih =>
    rw [List.map_cons, toPs, PySem.PyData.eqvAll, ih]
    simp [toP, PySem.PyData.eqv]
theorem neD_W (wl : List (List Nat)) : neD (WD wl) (WD wl) = some (.bl false) := by
  obtain ⟨h1, h2⟩ := plain_W wl
  have hd : dat (WD wl) = true := by
    unfold dat
    rw [toP, PySem.PyData.plain, h1, PySem.PyData.depth, h2]
    rfl
  have he : eqvD (WD wl) (WD wl) = true := by
    unfold eqvD
    rw [toP, PySem.PyData.eqv]
    exact eqv_W wl
  unfold neD
  rw [if_pos ⟨hd, hd⟩, he]
  rfl
theorem even_in (t : Nat) (ht : t < 8) (s : DS) : inD (.int t) (lookD s (.tup [.int 0, .int 2, .int 4, .int 6])) = some (.bl (decide (t % 2 = 0))) :=
  eight (P := fun t => inD (.int t) (lookD s (.tup [.int 0, .int 2, .int 4, .int 6])) = some (.bl (decide (t % 2 = 0)))) ⟨rfl, rfl, rfl, rfl, rfl, rfl, rfl, rfl⟩ t ht
/-- a loop over what is refused -/
theorem bad_loop {E : String → DS → Prop} {f : M Out} {nm : String} {items : List D} {pre post : List Slot} {m : List MO} {Q : Out → DS → Prop} {n : Nat} (hn : pre.length = n) (hnm : nm ∈ exL)
    (h : ∀ d ∈ items, ∀ Q, ru (fun c s => c = nm ∧ s = ⟨pre ++ .val d :: post, m⟩) f ⟨pre ++ .val d :: post, m⟩ Q)
    (c0 : Slot) (hd : ∀ c : Slot, Q .nx ⟨pre ++ c :: post, m⟩) : ru E (forL (setM n) (tryM exL f [(nm, rtn .nx)]) items) ⟨pre ++ c0 :: post, m⟩ Q := by
  refine ru_forI (fun _ s => ∃ c : Slot, s = ⟨pre ++ c :: post, m⟩) ⟨c0, rfl⟩ (fun i d s hi hI => ?_) (fun s hI => ?_)
  · have ⟨c, h1⟩ := hI
    subst h1
    have e : (pre ++ c :: post).set n (.val d) = pre ++ .val d :: post := by
      subst hn
      simp
    rw [ru_set]
    show ru E _ ⟨(pre ++ c :: post).set n (.val d), m⟩ _
    rw [e]
    refine ru_try ?_
    refine ru_monoE (h d (List.mem_of_getElem? hi) _) (fun a s' q => q) fun c s' q => ?_
    obtain ⟨q1, q2⟩ := q
    subst q1 q2
    refine ⟨hnm, ru_hand ?_⟩
    simp only [ru_rtn, stepQ_nx]
    exact ⟨_, rfl⟩
  · have ⟨c, h1⟩ := hI
    subst h1
    exact hd c
theorem law_true (ns : List Int) (hl : ns.length ≤ 63) : ∃ m, den_law [.frl (ns.map .int)] [] = .ok (.bl true) m := by
  have main : ∃ d m, den_law [.frl (ns.map .int)] [] = .ok d m ∧ d = .bl true := by
    refine fn_ex rfl ?_
    simp only [body_law, List.map_cons, List.map_nil, List.cons_append, List.nil_append, List.replicate]
    -- draws
    obtain ⟨nums, hnn, hnums⟩ := P.numbers_ok ns hl []
    rw [ru_seq]
    simp only [ru_mem, ru_lst, ru_cons, ru_call, ru_rtn, ru_var, slotV_val0, slotV_succ, hnums, frQ_ok, List.set_cons_succ, List.set_cons_zero, List.length_nil, List.nil_append]
    refine ⟨by simp, ?_⟩
    have d0 : P.Drw [.lst [.lst (nums.map .int), .int 0]] := ⟨nums, 0, [], rfl, hnn, by omega⟩
    generalize [MO.lst [D.lst (nums.map .int), .int 0]] = m0 at d0
    -- the wall
    rw [ru_seq]
    simp only [ru_asg, ru_cons, ru_call, ru_rtn, ru_var, slotV_val0, slotV_succ]
    refine fr_tiles d0 fun wl R C m1 g d1 => ?_
    simp only [ru_set, List.set_cons_succ, List.set_cons_zero]
    -- the motions
    rw [ru_seq]
    simp only [ru_par, ru_cons, ru_call, ru_rtn, ru_var, slotV_val0, slotV_succ]
    refine fr_motion d1 fun t a b m2 ht ha hb d2 => ?_
    refine fr_motion d2 fun u a' b' m3 hu ha' hb' d3 => ?_
    refine ⟨_, _, rfl, ?_⟩
    simp only [List.set_cons_succ, List.set_cons_zero]
    -- the cell
    rw [ru_seq]
    simp only [ru_asg, ru_tup, ru_binM, ru_cons, ru_call, ru_rtn, ru_var, slotV_val0, slotV_succ]
    refine fr_draw d3 (by decide) fun x0 m4 x1 x2 d4 _ => ?_
    simp only [subD_ii, ru_opt_some, ru_cons, ru_binM, ru_call, ru_rtn, ru_var, slotV_val0, slotV_succ]
    refine fr_draw d4 (by decide) fun y0 m5 y1 y2 d5 _ => ?_
    simp only [subD_ii, ru_opt_some, ru_set, List.set_cons_succ, List.set_cons_zero]
    refine ⟨by simp, ?_⟩
    have hx : -100 ≤ x0 - 100 ∧ x0 - 100 ≤ 100 := by omega
    have hy : -100 ≤ y0 - 100 ∧ y0 - 100 ≤ 100 := by omega
    generalize x0 - 100 = x at hx
    generalize y0 - 100 = y at hy
    clear d0 d1 d2 d3 d4 d5 hnums hnn
    -- there
    rw [ru_seq]
    simp only [ru_asg, ru_cons, ru_call, ru_rtn, ru_var, slotV_val0, slotV_succ, ru_ixv', List.getElem?_cons_succ, List.getElem?_cons_zero, knownB_val, peekD_succ, peekD_val0, lookD_tup, Option.bind_some, ix_p0, ix_p1, ru_opt_some, true_and, law_led_ok t ht, frQ_ok, ru_set, List.set_cons_succ, List.set_cons_zero]
    -- led
    rw [ru_seq]
    have heq : P.den__law_equal 12 [.tup [.int (tA t * x + tB t * y + a), .int (tD t * x + tE t * y + b)], .tup [.int (L1 t a b x y), .int (L2 t a b x y)]] m5 = .ok (.bl true) m5 :=
      P.equal_ok 1 _ _ _ 12 (.tup (.cons (.int _) (.cons (.int _) .nil))) (by simp [P.dpD, P.dpDs]) (by decide) (by simp [P.wideD, P.wideDs])
    simp only [ru_if, ru_not, ru_tru, ru_call, ru_cons, ru_rtn, ru_var, slotV_val0, slotV_succ, led_ok t ht a b x y ha hb hx hy, frQ_ok, heq, truD_bl, ru_opt_some, Bool.not_true, Bool.false_eq_true, if_false]
    -- joint
    rw [ru_seq]
    simp only [ru_asg, ru_cons, ru_call, ru_rtn, ru_var, slotV_val0, slotV_succ, both_ok t u ht hu a b a' b' ha hb ha' hb', frQ_ok, ru_set, List.set_cons_succ, List.set_cons_zero]
    obtain ⟨hc8, _, _⟩ := cmp_ok t u ht hu
    obtain ⟨hi8, _, _⟩ := inv_ok t ht
    -- four cells
    rw [ru_seq]
    simp only [ru_for, ru_itM, ru_shut, ru_lst, ru_tup, ru_cons, ru_rtn, ru_var, slotV_val0, slotV_succ, itemsD_lst, ru_opt_some]
    refine ⟨by simp, by simp, by simp, by simp, ?_⟩
    refine ru_forI (fun _ s => ∃ c8 c9 c10 : Slot, s = ⟨[.val (.frl (ns.map .int)), .val (.mut 0), .val (WD wl), .val (mot t a b), .val (mot u a' b'), .val (.tup [.int x, .int y]), .val (.tup [.int (L1 t a b x y), .int (L2 t a b x y)]), .val (mot (cmp t u) (tA u * a + tB u * b + a') (tD u * a + tE u * b + b')), c8, c9, c10, .un, .un, .un, .un, .un, .un, .un], m5⟩) ⟨_, _, _, rfl⟩ (fun i d s hi hI => ?_) (fun s hI => ?_)
    · have ⟨c8, c9, c10, h1⟩ := hI
      subst h1
      have hd : ∃ r c : Int, d = .tup [.int r, .int c] := by
        have := List.mem_of_getElem? hi
        simp only [List.mem_cons, List.not_mem_nil, or_false] at this
        rcases this with h | h | h | h <;> subst h <;> exact ⟨_, _, rfl⟩
      obtain ⟨r, c, hd⟩ := hd
      subst hd
      obtain ⟨j1, j2⟩ := join_law t u ht hu a b a' b' r c
      obtain ⟨k1, k2⟩ := inv_law t ht a b r c
      simp only [ru_untup, ru_sets, ru_set, ru_end0, List.set_cons_succ, List.set_cons_zero, List.length_cons, List.length_nil]
      refine ⟨trivial, ?_⟩
      simp only [ru_seq, ru_asg, ru_cons, ru_call, ru_rtn, ru_var, slotV_val0, slotV_succ, law_led_ok t ht, law_led_ok u hu, law_led_ok (cmp t u) hc8, law_led_ok (inv t) hi8, frQ_ok, ru_set, List.set_cons_succ, List.set_cons_zero, ru_if, ru_or, ru_tst, ru_binM, ru_ixv', List.getElem?_cons_succ, List.getElem?_cons_zero, knownB_val, peekD_succ, peekD_val0, lookD_tup, Option.bind_some, ix_p0, ix_p1, ru_opt_some, true_and, j1, j2, neD_t2, beq_self_eq_true, Bool.and_true, Bool.not_true, asB_bl, Bool.false_eq_true, if_false, ru_not, ru_tru, ru_isi, isi_tup_tuple, truD_bl, back_ok t ht a b ha hb, k1, k2, ru_tup, stepQ_nx, List.length_cons, List.length_nil]
      exact ⟨by decide, _, _, _, rfl⟩
    have ⟨c8, c9, c10, h1⟩ := hI
    subst h1
    clear hI
    have gW := ledW_good g t a b
    have gl := gW.len
    -- told
    rw [ru_seq]
    simp only [ru_asg, ru_cons, ru_call, ru_rtn, ru_var, slotV_val0, slotV_succ, moved_ok g t ht a b ha hb, frQ_ok, ru_set, List.set_cons_succ, List.set_cons_zero]
    -- rows, columns
    obtain ⟨row0, h1, h2⟩ := g.first_ix
    have hR2 : ((wl.length : Nat) : Int) = (R : Int) := by rw [g.len]
    rw [ru_seq]
    have hrc : ∀ Q : D → DS → Prop, ∀ s : DS, (∃ r, s = ⟨.val (.frl (ns.map .int)) :: .val (.mut 0) :: .val (WD wl) :: .val (mot t a b) :: r, m5⟩) → Q (.tup [.int (rr t R C), .int (rr t C R)]) s → ru NE (iteM (tstM (binM inD (ixvM 3 (rtn (.int 0))) (lookM (tupM (consM (rtn (.int 0)) (consM (rtn (.int 2)) (consM (rtn (.int 4)) (consM (rtn (.int 6)) (rtn []))))))))) (tupM (consM (lookM1 lenD (peekM 2)) (consM (lookM1 lenD (lookM (ixvM 2 (rtn (.int 0))))) (rtn [])))) (tupM (consM (lookM1 lenD (lookM (ixvM 2 (rtn (.int 0))))) (consM (lookM1 lenD (peekM 2)) (rtn []))))) s Q := by
      intro Q s ⟨r, hs⟩ q
      subst hs
      simp only [ru_iteM, ru_tst, ru_binM, ru_ixv', List.getElem?_cons_succ, List.getElem?_cons_zero, knownB_val, ru_rtn, peekD_succ, peekD_val0, lookD_tup, Option.bind_some, ix_m0, ru_opt_some, true_and, ru_look, ru_tup, ru_cons]
      refine ⟨by simp, ?_⟩
      have e := even_in t ht
      simp only [lookD_tup] at e
      rw [ru_opt (e ⟨[], []⟩)]
      simp only [asB_bl, ru_opt_some]
      by_cases z : t % 2 = 0
      · rw [if_pos (decide_eq_true z)]
        have z1 : rr t R C = R := by unfold rr; rw [if_pos z]
        have z2 : rr t C R = C := by unfold rr; rw [if_pos z]
        rw [z1, z2] at q
        simp only [ru_look1, ru_peek, peekD_succ, peekD_val0, lookD_lst]
        refine ⟨_, rfl, ?_⟩
        simp only [lenD_lst, List.length_map, ru_opt_some, hR2, ru_look, ru_ixv', List.getElem?_cons_succ, List.getElem?_cons_zero, knownB_val, ru_rtn, peekD_succ, peekD_val0, lookD_lst, Option.bind_some, h1, lookD_str, h2, true_and]
        exact ⟨by simp, q⟩
      · rw [if_neg (by simpa using z)]
        have z1 : rr t R C = C := by unfold rr; rw [if_neg z]
        have z2 : rr t C R = R := by unfold rr; rw [if_neg z]
        rw [z1, z2] at q
        simp only [ru_look1, ru_look, ru_ixv', List.getElem?_cons_succ, List.getElem?_cons_zero, knownB_val, ru_rtn, peekD_succ, peekD_val0, lookD_lst, Option.bind_some, h1, lookD_str, h2, true_and, ru_opt_some, ru_cons, ru_peek]
        refine ⟨_, rfl, ?_⟩
        simp only [lenD_lst, List.length_map, ru_opt_some, hR2]
        exact ⟨by simp, q⟩
    rw [ru_asg]
    refine hrc _ _ ⟨_, rfl⟩ ?_
    simp only [ru_untup, ru_sets, ru_set, ru_end0, List.set_cons_succ, List.set_cons_zero, List.length_cons, List.length_nil]
    refine ⟨trivial, ?_⟩
    -- its form
    rw [ru_seq]
    have gl2 : (((ledW wl R C t a b).length : Nat) : Int) = (rr t R C : Int) := by rw [gl]
    simp only [ru_if, ru_or, ru_not, ru_tru, ru_isi, ru_var, slotV_val0, slotV_succ, isi_lst_list, ru_opt_some, truD_bl, Bool.not_true, Bool.false_eq_true, if_false, ru_tst, ru_binM, ru_look1, ru_peek, peekD_succ, peekD_val0, lookD_lst]
    refine ⟨_, rfl, ?_⟩
    simp only [lenD_lst, List.length_map, gl2, ru_opt_some, ru_var, slotV_val0, slotV_succ, neD_ii, beq_self_eq_true, Bool.not_true, asB_bl, Bool.false_eq_true, if_false, ru_tst, ru_binM, ru_look1, ru_look, ru_shut, ru_compI, ru_itM, itemsD_lst]
    refine ⟨by simp [anyOwn, Slot.isOwn], by have := gW.r6; omega, ?_⟩
    refine ru_lcF (fun _ => none) (fun d hd => ?_) ?_
    · have ⟨row, hrow, hd2⟩ := List.mem_map.mp hd
      subst hd2
      have hl3 : lenD (txt row) = some (.int (rr t C R)) := by
        have := gW.row row hrow
        have := gW.c6
        rw [lenD_t (by omega), gW.row row hrow]
      simp only [wipeE_cons, wipeE_nil, List.set_cons_succ, List.set_cons_zero, ru_set, ru_or, ru_not, ru_tru, ru_isi, ru_var, slotV_succ, slotV_val0, isi_t_str, ru_opt_some, truD_bl, Bool.not_true, Bool.false_eq_true, if_false, ru_tst, ru_binM, ru_look1, ru_peek, peekD_succ, peekD_val0, lookD_str]
      refine ⟨_, rfl, ?_⟩
      simp only [hl3, ru_opt_some, ru_var, slotV_val0, slotV_succ, neD_ii, beq_self_eq_true, Bool.not_true, asB_bl, Bool.false_eq_true, if_false]
      exact ⟨rfl, by trivial, by trivial⟩
    have enone : ((ledW wl R C t a b).map txt).filterMap (fun _ => (none : Option D)) = [] := by simp
    simp only [enone, wipeE_cons, wipeE_nil, restE_cons, restE_nil, List.set_cons_succ, List.set_cons_zero, List.getD_cons_succ, List.getD_cons_zero, lookD_lst, lenD_lst, List.length_nil, ru_opt_some, ru_rtn, gtV_ii, asB_bl]
    rw [if_neg (by decide)]
    -- sign by sign
    rw [ru_seq]
    simp only [ru_rtn, ru_for, ru_bnd, ru_cons, ru_look1, ru_peek, peekD_succ, peekD_val0, lookD_lst]
    refine ⟨_, rfl, ?_⟩
    have hr6 := g.r6
    have hc6 := g.c6
    simp only [lenD_lst, List.length_map, hR2, ru_opt_some, ru_rtn, rng1_int (show (-(2 ^ 62) : Int) ≤ (R : Int) by omega) (show (R : Int) < 2 ^ 62 by omega)]
    refine ru_forI (fun _ s => ∃ c8 c9 c14 c15 : Slot, s = ⟨[.val (.frl (ns.map .int)), .val (.mut 0), .val (WD wl), .val (mot t a b), .val (mot u a' b'), .val (.tup [.int x, .int y]), .val (.tup [.int (L1 t a b x y), .int (L2 t a b x y)]), .val (mot (cmp t u) (tA u * a + tB u * b + a') (tD u * a + tE u * b + b')), c8, c9, c10, .val (WD (ledW wl R C t a b)), .val (.int (rr t R C)), .val (.int (rr t C R)), c14, c15, .un, .un], m5⟩) ⟨_, _, _, _, rfl⟩ (fun r d s hi hI => ?_) (fun s hI => ?_)
    · have ⟨c8, c9, c14, c15, h1'⟩ := hI
      subst h1'
      have hr := (rngL_get hi).1
      have hd2 := (rngL_get hi).2
      have hr' : r < R := by simpa using hr
      subst hd2
      simp only [Int.zero_add, ru_set, List.set_cons_succ, List.set_cons_zero, ru_for, ru_bnd, ru_cons, ru_look1, ru_look, ru_ixv', List.getElem?_cons_succ, List.getElem?_cons_zero, knownB_val, ru_rtn, peekD_succ, peekD_val0, lookD_lst, Option.bind_some, h1, lookD_str, h2, true_and, ru_opt_some, rng1_int (show (-(2 ^ 62) : Int) ≤ (C : Int) by omega) (show (C : Int) < 2 ^ 62 by omega)]
      refine ru_forI (fun _ s => ∃ c9 c14 c15 : Slot, s = ⟨[.val (.frl (ns.map .int)), .val (.mut 0), .val (WD wl), .val (mot t a b), .val (mot u a' b'), .val (.tup [.int x, .int y]), .val (.tup [.int (L1 t a b x y), .int (L2 t a b x y)]), .val (mot (cmp t u) (tA u * a + tB u * b + a') (tD u * a + tE u * b + b')), .val (.int r), c9, c10, .val (WD (ledW wl R C t a b)), .val (.int (rr t R C)), .val (.int (rr t C R)), c14, c15, .un, .un], m5⟩) ⟨_, _, _, rfl⟩ (fun c d s hj hJ => ?_) (fun s hJ => ?_)
      · have ⟨c9, c14, c15, h1'⟩ := hJ
        subst h1'
        have hc := (rngL_get hj).1
        have hd3 := (rngL_get hj).2
        have hc' : c < C := by simpa using hc
        subst hd3
        obtain ⟨row, k1, k2, k3⟩ := g.at hr' hc'
        have k4 := g.row row k2
        have e2 : ixD (txt row) (.int (c : Int)) = some (txt [cw wl r c]) := ixD_t (by omega) (by omega) (by simpa using k3)
        have e3 : pw wl R C r c = cw wl r c := by
          unfold pw
          rw [Int.emod_eq_of_lt (by omega) (by omega), Int.emod_eq_of_lt (by omega) (by omega)]
          simp
        have e4 := led_key g t ht a b r c
        rw [e3] at e4
        simp only [Int.zero_add, ru_set, List.set_cons_succ, List.set_cons_zero, ru_seq, ru_asg, ru_call, ru_cons, ru_rtn, ru_var, slotV_val0, slotV_succ, law_led_ok t ht, frQ_ok, ru_untup, ru_sets, ru_end0, List.length_cons, List.length_nil, true_and, ru_if, ru_tst, ru_binM, law_sign_ok gW, e4, ru_ix, ru_ixv', List.getElem?_cons_succ, List.getElem?_cons_zero, knownB_val, peekD_succ, peekD_val0, lookD_lst, Option.bind_some, ix_W k1, lookD_str, e2, ru_opt_some, neD_tt, beq_self_eq_true, Bool.not_true, asB_bl, Bool.false_eq_true, if_false, stepQ_nx]
        exact ⟨_, _, _, rfl⟩
      · have ⟨c9, c14, c15, h1'⟩ := hJ
        subst h1'
        simp only [stepQ_nx]
        exact ⟨_, _, _, _, rfl⟩
    have ⟨c8, c9, c14, c15, h1'⟩ := hI
    subst h1'
    clear hI
    -- moved twice
    rw [ru_seq]
    have m00 : ∀ m, den_moved [WD wl, .tup [.int 0, .int 0, .int 0]] m = .ok (WD wl) m := fun m => by
      have := moved_ok g 0 (by decide) 0 0 (by omega) (by omega) m
      rw [led_none g] at this
      exact this
    have hbk : ∀ m, den_moved [WD (ledW wl R C t a b), mot (inv t) (-(tA (inv t) * a + tB (inv t) * b)) (-(tD (inv t) * a + tE (inv t) * b))] m = .ok (WD wl) m := fun m => by
      have hA : -100 ≤ -(tA (inv t) * a + tB (inv t) * b) ∧ -(tA (inv t) * a + tB (inv t) * b) ≤ 100 := by
        have : inv t = 0 ∨ inv t = 1 ∨ inv t = 2 ∨ inv t = 3 ∨ inv t = 4 ∨ inv t = 5 ∨ inv t = 6 ∨ inv t = 7 := by omega
        rcases this with h | h | h | h | h | h | h | h <;> rw [h] <;> simp only [tA, tB] <;> omega
      have hB : -100 ≤ -(tD (inv t) * a + tE (inv t) * b) ∧ -(tD (inv t) * a + tE (inv t) * b) ≤ 100 := by
        have : inv t = 0 ∨ inv t = 1 ∨ inv t = 2 ∨ inv t = 3 ∨ inv t = 4 ∨ inv t = 5 ∨ inv t = 6 ∨ inv t = 7 := by omega
        rcases this with h | h | h | h | h | h | h | h <;> rw [h] <;> simp only [tD, tE] <;> omega
      have := moved_ok gW (inv t) hi8 _ _ hA hB m
      rw [led_back g t ht a b] at this
      exact this
    simp only [ru_if, ru_or, ru_tst, ru_binM, ru_call, ru_cons, ru_tup, ru_rtn, ru_var, slotV_val0, slotV_succ, m00, frQ_ok, neD_W, ru_opt_some, asB_bl, Bool.false_eq_true, if_false, moved_ok g t ht a b ha hb, back_ok t ht a b ha hb, hbk, List.length_cons, List.length_nil]
    refine ⟨by decide, ?_⟩
    -- what is refused
    rw [ru_seq]
    simp only [ru_for, ru_itM, ru_shut, ru_lst, ru_tup, ru_cons, ru_rtn, ru_unM, negD_i, ru_opt_some, itemsD_lst, List.length_cons, List.length_nil]
    refine ⟨by decide, by decide, by decide, by decide, by decide, by decide, by decide, by decide, by decide, ?_⟩
    refine bad_loop (pre := [.val (.frl (ns.map .int)), .val (.mut 0), .val (WD wl), .val (mot t a b), .val (mot u a' b'), .val (.tup [.int x, .int y]), .val (.tup [.int (L1 t a b x y), .int (L2 t a b x y)]), .val (mot (cmp t u) (tA u * a + tB u * b + a') (tD u * a + tE u * b + b')), c8, c9, c10, .val (WD (ledW wl R C t a b)), .val (.int (rr t R C)), .val (.int (rr t C R)), c14, c15]) (post := [.un]) rfl (by decide) (fun d hd Q => ?_) .un (fun c16 => ?_)
    · have hb2 := moved_badM g d hd
      simp only [List.cons_append, List.nil_append, ru_seq, ru_drop, ru_call, ru_cons, ru_rtn, ru_var, slotV_val0, slotV_succ, hb2, frQ_err, and_self]
    simp only [List.cons_append, List.nil_append]
    rw [ru_seq]
    have ea : D.str "a" = txt [97] := rfl
    have eab : D.str "ab" = txt [97, 98] := rfl
    have eA : D.str "A" = txt [65] := rfl
    have e0 : D.str "" = txt [] := rfl
    have em1 : mulD (txt [97]) (.int 7) = some (txt [97, 97, 97, 97, 97, 97, 97]) := rfl
    have em2 : mulD (.lst [txt [97]]) (.int 7) = some (.lst [txt [97], txt [97], txt [97], txt [97], txt [97], txt [97], txt [97]]) := rfl
    simp only [ru_for, ru_itM, ru_shut, ru_lst, ru_tup, ru_cons, ru_rtn, ru_binM, ru_unM, negD_i, ru_opt_some, itemsD_lst, List.length_cons, List.length_nil, ea, eab, eA, e0, em1, em2]
    refine ⟨by decide, by decide, by decide, by decide, by decide, by decide, by decide, by decide, ?_⟩
    refine bad_loop (pre := [.val (.frl (ns.map .int)), .val (.mut 0), .val (WD wl), .val (mot t a b), .val (mot u a' b'), .val (.tup [.int x, .int y]), .val (.tup [.int (L1 t a b x y), .int (L2 t a b x y)]), .val (mot (cmp t u) (tA u * a + tB u * b + a') (tD u * a + tE u * b + b')), c8, c9, c10, .val (WD (ledW wl R C t a b)), .val (.int (rr t R C)), .val (.int (rr t C R)), c14, c15]) (post := [.un]) rfl (by decide) (fun d hd Q => ?_) c16 (fun c16 => ?_)
    · have hb2 := moved_badW t a b d hd
      simp only [List.cons_append, List.nil_append, ru_seq, ru_drop, ru_call, ru_cons, ru_rtn, ru_var, slotV_val0, slotV_succ, hb2, frQ_err, and_self]
    simp only [List.cons_append, List.nil_append]
    rw [ru_seq]
    simp only [ru_for, ru_itM, ru_shut, ru_lst, ru_tup, ru_cons, ru_rtn, ru_binM, ru_unM, negD_i, ru_opt_some, itemsD_lst, List.length_cons, List.length_nil]
    refine ⟨by decide, by decide, by decide, by decide, by decide, by decide, ?_⟩
    refine bad_loop (pre := [.val (.frl (ns.map .int)), .val (.mut 0), .val (WD wl), .val (mot t a b), .val (mot u a' b'), .val (.tup [.int x, .int y]), .val (.tup [.int (L1 t a b x y), .int (L2 t a b x y)]), .val (mot (cmp t u) (tA u * a + tB u * b + a') (tD u * a + tE u * b + b')), c8, c9, c10, .val (WD (ledW wl R C t a b)), .val (.int (rr t R C)), .val (.int (rr t C R)), c14, c15]) (post := [.un]) rfl (by decide) (fun d hd Q => ?_) c16 (fun c16 => ?_)
    · have hb2 := led_bad t ht a b ha hb d hd
      simp only [List.cons_append, List.nil_append, ru_seq, ru_drop, ru_call, ru_cons, ru_rtn, ru_var, slotV_val0, slotV_succ, hb2, frQ_err, and_self]
    simp only [ru_ret, ru_rtn]
  obtain ⟨d, m, e, rfl⟩ := main
  exact ⟨m, e⟩
end K14
namespace K14
open PySem PySem.Spec PyProof.Rows Vl
open L2 (FnScope defScope defBody defArgs nomark fun_mk)
theorem all_mk {l : PySem.W.OpenLaw} {w : World} {K : PySem.W.Frag} {h : Heap} {mg : Str → Option Value} {fa : Addr} (X : K.In h) (G : h.Ns mainGlobals mg) (hfa : mg "law" = some (.ref fa))
    {f0 : Addr} {od0 an0 : Option Addr} {sl0 : Array (Option Value)} {oc0 kV0 dc0 pm0 cd0 ct0 : Value}
    {f1 : Addr} {od1 an1 : Option Addr} {sl1 : Array (Option Value)} {oc1 kV1 dc1 pm1 cd1 ct1 : Value}
    {f2 : Addr} {od2 an2 : Option Addr} {sl2 : Array (Option Value)} {oc2 kV2 dc2 pm2 cd2 ct2 : Value}
    {f3 : Addr} {od3 an3 : Option Addr} {sl3 : Array (Option Value)} {oc3 kV3 dc3 pm3 cd3 ct3 : Value}
    {f4 : Addr} {od4 an4 : Option Addr} {sl4 : Array (Option Value)} {oc4 kV4 dc4 pm4 cd4 ct4 : Value}
    {f5 : Addr} {od5 an5 : Option Addr} {sl5 : Array (Option Value)} {oc5 kV5 dc5 pm5 cd5 ct5 : Value}
    {f6 : Addr} {od6 an6 : Option Addr} {sl6 : Array (Option Value)} {oc6 kV6 dc6 pm6 cd6 ct6 : Value}
    {f7 : Addr} {od7 an7 : Option Addr} {sl7 : Array (Option Value)} {oc7 kV7 dc7 pm7 cd7 ct7 : Value}
    {f8 : Addr} {od8 an8 : Option Addr} {sl8 : Array (Option Value)} {oc8 kV8 dc8 pm8 cd8 ct8 : Value}
    {f9 : Addr} {od9 an9 : Option Addr} {sl9 : Array (Option Value)} {oc9 kV9 dc9 pm9 cd9 ct9 : Value}
    {f10 : Addr} {od10 an10 : Option Addr} {sl10 : Array (Option Value)} {oc10 kV10 dc10 pm10 cd10 ct10 : Value}
    {f11 : Addr} {od11 an11 : Option Addr} {sl11 : Array (Option Value)} {oc11 kV11 dc11 pm11 cd11 ct11 : Value}
    {f12 : Addr} {od12 an12 : Option Addr} {sl12 : Array (Option Value)} {oc12 kV12 dc12 pm12 cd12 ct12 : Value}
    {f13 : Addr} {od13 an13 : Option Addr} {sl13 : Array (Option Value)} {oc13 kV13 dc13 pm13 cd13 ct13 : Value}
    {f14 : Addr} {od14 an14 : Option Addr} {sl14 : Array (Option Value)} {oc14 kV14 dc14 pm14 cd14 ct14 : Value}
    {f15 : Addr} {od15 an15 : Option Addr} {sl15 : Array (Option Value)} {oc15 kV15 dc15 pm15 cd15 ct15 : Value}
    {f16 : Addr} {od16 an16 : Option Addr} {sl16 : Array (Option Value)} {oc16 kV16 dc16 pm16 cd16 ct16 : Value}
    {f17 : Addr} {od17 an17 : Option Addr} {sl17 : Array (Option Value)} {oc17 kV17 dc17 pm17 cd17 ct17 : Value}
    {f18 : Addr} {od18 an18 : Option Addr} {sl18 : Array (Option Value)} {oc18 kV18 dc18 pm18 cd18 ct18 : Value}
    {f19 : Addr} {od19 an19 : Option Addr} {sl19 : Array (Option Value)} {oc19 kV19 dc19 pm19 cd19 ct19 : Value}
    {f20 : Addr} {od20 an20 : Option Addr} {sl20 : Array (Option Value)} {oc20 kV20 dc20 pm20 cd20 ct20 : Value}
    {f21 : Addr} {od21 an21 : Option Addr} {sl21 : Array (Option Value)} {oc21 kV21 dc21 pm21 cd21 ct21 : Value}
    {f22 : Addr} {od22 an22 : Option Addr} {sl22 : Array (Option Value)} {oc22 kV22 dc22 pm22 cd22 ct22 : Value}
    {f23 : Addr} {od23 an23 : Option Addr} {sl23 : Array (Option Value)} {oc23 kV23 dc23 pm23 cd23 ct23 : Value}
    {f24 : Addr} {od24 an24 : Option Addr} {sl24 : Array (Option Value)} {oc24 kV24 dc24 pm24 cd24 ct24 : Value}
    {f25 : Addr} {od25 an25 : Option Addr} {sl25 : Array (Option Value)} {oc25 kV25 dc25 pm25 cd25 ct25 : Value}
    {tk1 : Tok}
    {tk2 : Tok}
    {tk3 : Tok}
    {ca4 : Addr} {cdx4 : Option Addr} {cn4 : Nat} {cs4 : Array (Option Value)}
    {ca5 : Addr} {cdx5 : Option Addr} {cn5 : Nat} {cs5 : Array (Option Value)}
    {tk6 : Tok}
    {tk7 : Tok}
    {tk8 : Tok}
    {tk9 : Tok}
    {ca10 : Addr} {cdx10 : Option Addr} {cn10 : Nat} {cs10 : Array (Option Value)}
    {tk11 : Tok}
    {tk12 : Tok}
    {tk13 : Tok}
    {tk14 : Tok}
    {ca15 : Addr} {cdx15 : Option Addr} {cn15 : Nat} {cs15 : Array (Option Value)}
    {tk16 : Tok}
    {tk17 : Tok}
    {tk18 : Tok}
    {tk19 : Tok}
    {ca20 : Addr} {cdx20 : Option Addr} {cn20 : Nat} {cs20 : Array (Option Value)}
    {tk21 : Tok}
    {tk22 : Tok}
    {tk23 : Tok}
    {tk24 : Tok}
    {ca25 : Addr} {cdx25 : Option Addr} {cn25 : Nat} {cs25 : Array (Option Value)}
    {tk26 : Tok}
    {tk27 : Tok}
    {tk28 : Tok}
    {tk29 : Tok}
    {ca30 : Addr} {cdx30 : Option Addr} {cn30 : Nat} {cs30 : Array (Option Value)}
    {tk31 : Tok}
    {tk32 : Tok}
    {tk33 : Tok}
    {tk34 : Tok}
    {ca35 : Addr} {cdx35 : Option Addr} {cn35 : Nat} {cs35 : Array (Option Value)}
    {tk36 : Tok}
    {tk37 : Tok}
    {tk38 : Tok}
    {tk39 : Tok}
    {ca40 : Addr} {cdx40 : Option Addr} {cn40 : Nat} {cs40 : Array (Option Value)}
    {tk41 : Tok}
    {tk42 : Tok}
    {tk43 : Tok}
    {tk44 : Tok}
    {e0 : Addr}
    {e1 : Addr}
    {e2 : Addr}
    (a0 : PySem.W.nsIn K mainGlobals "is_number" = some (some (.ref f0)))
    (l0 : K.lookup f0 = some ⟨oc0, od0, .func (PySem.W.fnOf "is_number" "is_number" (defArgs s_is_number) (defBody s_is_number) (defScope s_is_number) .none kV0 dc0 pm0 an0 cd0 ct0), sl0⟩)
    (q0 : PySem.W.codeIn K cd0 "is_number" = true)
    (k0 : PySem.W.keepIn K (.ref f0) = true)
    (a1 : PySem.W.nsIn K mainGlobals "is_motion" = some (some (.ref f1)))
    (l1 : K.lookup f1 = some ⟨oc1, od1, .func (PySem.W.fnOf "is_motion" "is_motion" (defArgs s_is_motion) (defBody s_is_motion) (defScope s_is_motion) .none kV1 dc1 pm1 an1 cd1 ct1), sl1⟩)
    (q1 : PySem.W.codeIn K cd1 "is_motion" = true)
    (k1 : PySem.W.keepIn K (.ref f1) = true)
    (a2 : PySem.W.nsIn K mainGlobals "check_motion" = some (some (.ref f2)))
    (l2 : K.lookup f2 = some ⟨oc2, od2, .func (PySem.W.fnOf "check_motion" "check_motion" (defArgs s_check_motion) (defBody s_check_motion) (defScope s_check_motion) .none kV2 dc2 pm2 an2 cd2 ct2), sl2⟩)
    (q2 : PySem.W.codeIn K cd2 "check_motion" = true)
    (k2 : PySem.W.keepIn K (.ref f2) = true)
    (a3 : PySem.W.nsIn K mainGlobals "turned" = some (some (.ref f3)))
    (l3 : K.lookup f3 = some ⟨oc3, od3, .func (PySem.W.fnOf "turned" "turned" (defArgs s_turned) (defBody s_turned) (defScope s_turned) .none kV3 dc3 pm3 an3 cd3 ct3), sl3⟩)
    (q3 : PySem.W.codeIn K cd3 "turned" = true)
    (k3 : PySem.W.keepIn K (.ref f3) = true)
    (a4 : PySem.W.nsIn K mainGlobals "led_to" = some (some (.ref f4)))
    (l4 : K.lookup f4 = some ⟨oc4, od4, .func (PySem.W.fnOf "led_to" "led_to" (defArgs s_led_to) (defBody s_led_to) (defScope s_led_to) .none kV4 dc4 pm4 an4 cd4 ct4), sl4⟩)
    (q4 : PySem.W.codeIn K cd4 "led_to" = true)
    (k4 : PySem.W.keepIn K (.ref f4) = true)
    (a5 : PySem.W.nsIn K mainGlobals "led" = some (some (.ref f5)))
    (l5 : K.lookup f5 = some ⟨oc5, od5, .func (PySem.W.fnOf "led" "led" (defArgs s_led) (defBody s_led) (defScope s_led) .none kV5 dc5 pm5 an5 cd5 ct5), sl5⟩)
    (q5 : PySem.W.codeIn K cd5 "led" = true)
    (k5 : PySem.W.keepIn K (.ref f5) = true)
    (a6 : PySem.W.nsIn K mainGlobals "turned_twice" = some (some (.ref f6)))
    (l6 : K.lookup f6 = some ⟨oc6, od6, .func (PySem.W.fnOf "turned_twice" "turned_twice" (defArgs s_turned_twice) (defBody s_turned_twice) (defScope s_turned_twice) .none kV6 dc6 pm6 an6 cd6 ct6), sl6⟩)
    (q6 : PySem.W.codeIn K cd6 "turned_twice" = true)
    (k6 : PySem.W.keepIn K (.ref f6) = true)
    (a7 : PySem.W.nsIn K mainGlobals "joined" = some (some (.ref f7)))
    (l7 : K.lookup f7 = some ⟨oc7, od7, .func (PySem.W.fnOf "joined" "joined" (defArgs s_joined) (defBody s_joined) (defScope s_joined) .none kV7 dc7 pm7 an7 cd7 ct7), sl7⟩)
    (q7 : PySem.W.codeIn K cd7 "joined" = true)
    (k7 : PySem.W.keepIn K (.ref f7) = true)
    (a8 : PySem.W.nsIn K mainGlobals "both" = some (some (.ref f8)))
    (l8 : K.lookup f8 = some ⟨oc8, od8, .func (PySem.W.fnOf "both" "both" (defArgs s_both) (defBody s_both) (defScope s_both) .none kV8 dc8 pm8 an8 cd8 ct8), sl8⟩)
    (q8 : PySem.W.codeIn K cd8 "both" = true)
    (k8 : PySem.W.keepIn K (.ref f8) = true)
    (a9 : PySem.W.nsIn K mainGlobals "undone" = some (some (.ref f9)))
    (l9 : K.lookup f9 = some ⟨oc9, od9, .func (PySem.W.fnOf "undone" "undone" (defArgs s_undone) (defBody s_undone) (defScope s_undone) .none kV9 dc9 pm9 an9 cd9 ct9), sl9⟩)
    (q9 : PySem.W.codeIn K cd9 "undone" = true)
    (k9 : PySem.W.keepIn K (.ref f9) = true)
    (a10 : PySem.W.nsIn K mainGlobals "back" = some (some (.ref f10)))
    (l10 : K.lookup f10 = some ⟨oc10, od10, .func (PySem.W.fnOf "back" "back" (defArgs s_back) (defBody s_back) (defScope s_back) .none kV10 dc10 pm10 an10 cd10 ct10), sl10⟩)
    (q10 : PySem.W.codeIn K cd10 "back" = true)
    (k10 : PySem.W.keepIn K (.ref f10) = true)
    (a11 : PySem.W.nsIn K mainGlobals "is_wall" = some (some (.ref f11)))
    (l11 : K.lookup f11 = some ⟨oc11, od11, .func (PySem.W.fnOf "is_wall" "is_wall" (defArgs s_is_wall) (defBody s_is_wall) (defScope s_is_wall) .none kV11 dc11 pm11 an11 cd11 ct11), sl11⟩)
    (q11 : PySem.W.codeIn K cd11 "is_wall" = true)
    (k11 : PySem.W.keepIn K (.ref f11) = true)
    (a12 : PySem.W.nsIn K mainGlobals "check_wall" = some (some (.ref f12)))
    (l12 : K.lookup f12 = some ⟨oc12, od12, .func (PySem.W.fnOf "check_wall" "check_wall" (defArgs s_check_wall) (defBody s_check_wall) (defScope s_check_wall) .none kV12 dc12 pm12 an12 cd12 ct12), sl12⟩)
    (q12 : PySem.W.codeIn K cd12 "check_wall" = true)
    (k12 : PySem.W.keepIn K (.ref f12) = true)
    (a13 : PySem.W.nsIn K mainGlobals "sign_at" = some (some (.ref f13)))
    (l13 : K.lookup f13 = some ⟨oc13, od13, .func (PySem.W.fnOf "sign_at" "sign_at" (defArgs s_sign_at) (defBody s_sign_at) (defScope s_sign_at) .none kV13 dc13 pm13 an13 cd13 ct13), sl13⟩)
    (q13 : PySem.W.codeIn K cd13 "sign_at" = true)
    (k13 : PySem.W.keepIn K (.ref f13) = true)
    (a14 : PySem.W.nsIn K mainGlobals "led_wall" = some (some (.ref f14)))
    (l14 : K.lookup f14 = some ⟨oc14, od14, .func (PySem.W.fnOf "led_wall" "led_wall" (defArgs s_led_wall) (defBody s_led_wall) (defScope s_led_wall) .none kV14 dc14 pm14 an14 cd14 ct14), sl14⟩)
    (q14 : PySem.W.codeIn K cd14 "led_wall" = true)
    (k14 : PySem.W.keepIn K (.ref f14) = true)
    (a15 : PySem.W.nsIn K mainGlobals "moved" = some (some (.ref f15)))
    (l15 : K.lookup f15 = some ⟨oc15, od15, .func (PySem.W.fnOf "moved" "moved" (defArgs s_moved) (defBody s_moved) (defScope s_moved) .none kV15 dc15 pm15 an15 cd15 ct15), sl15⟩)
    (q15 : PySem.W.codeIn K cd15 "moved" = true)
    (k15 : PySem.W.keepIn K (.ref f15) = true)
    (a16 : PySem.W.nsIn K mainGlobals "_law_mixed" = some (some (.ref f16)))
    (l16 : K.lookup f16 = some ⟨oc16, od16, .func (PySem.W.fnOf "_law_mixed" "_law_mixed" (defArgs s__law_mixed) (defBody s__law_mixed) (defScope s__law_mixed) .none kV16 dc16 pm16 an16 cd16 ct16), sl16⟩)
    (q16 : PySem.W.codeIn K cd16 "_law_mixed" = true)
    (k16 : PySem.W.keepIn K (.ref f16) = true)
    (a17 : PySem.W.nsIn K mainGlobals "_law_numbers" = some (some (.ref f17)))
    (l17 : K.lookup f17 = some ⟨oc17, od17, .func (PySem.W.fnOf "_law_numbers" "_law_numbers" (defArgs s__law_numbers) (defBody s__law_numbers) (defScope s__law_numbers) .none kV17 dc17 pm17 an17 cd17 ct17), sl17⟩)
    (q17 : PySem.W.codeIn K cd17 "_law_numbers" = true)
    (k17 : PySem.W.keepIn K (.ref f17) = true)
    (a18 : PySem.W.nsIn K mainGlobals "_law_draw" = some (some (.ref f18)))
    (l18 : K.lookup f18 = some ⟨oc18, od18, .func (PySem.W.fnOf "_law_draw" "_law_draw" (defArgs s__law_draw) (defBody s__law_draw) (defScope s__law_draw) .none kV18 dc18 pm18 an18 cd18 ct18), sl18⟩)
    (q18 : PySem.W.codeIn K cd18 "_law_draw" = true)
    (k18 : PySem.W.keepIn K (.ref f18) = true)
    (a19 : PySem.W.nsIn K mainGlobals "_law_equal" = some (some (.ref f19)))
    (l19 : K.lookup f19 = some ⟨oc19, od19, .func (PySem.W.fnOf "_law_equal" "_law_equal" (defArgs s__law_equal) (defBody s__law_equal) (defScope s__law_equal) .none kV19 dc19 pm19 an19 cd19 ct19), sl19⟩)
    (q19 : PySem.W.codeIn K cd19 "_law_equal" = true)
    (k19 : PySem.W.keepIn K (.ref f19) = true)
    (a20 : PySem.W.nsIn K mainGlobals "_law_all_equal" = some (some (.ref f20)))
    (l20 : K.lookup f20 = some ⟨oc20, od20, .func (PySem.W.fnOf "_law_all_equal" "_law_all_equal" (defArgs s__law_all_equal) (defBody s__law_all_equal) (defScope s__law_all_equal) .none kV20 dc20 pm20 an20 cd20 ct20), sl20⟩)
    (q20 : PySem.W.codeIn K cd20 "_law_all_equal" = true)
    (k20 : PySem.W.keepIn K (.ref f20) = true)
    (a21 : PySem.W.nsIn K mainGlobals "_law_tiles" = some (some (.ref f21)))
    (l21 : K.lookup f21 = some ⟨oc21, od21, .func (PySem.W.fnOf "_law_tiles" "_law_tiles" (defArgs s__law_tiles) (defBody s__law_tiles) (defScope s__law_tiles) .none kV21 dc21 pm21 an21 cd21 ct21), sl21⟩)
    (q21 : PySem.W.codeIn K cd21 "_law_tiles" = true)
    (k21 : PySem.W.keepIn K (.ref f21) = true)
    (a22 : PySem.W.nsIn K mainGlobals "_law_sign" = some (some (.ref f22)))
    (l22 : K.lookup f22 = some ⟨oc22, od22, .func (PySem.W.fnOf "_law_sign" "_law_sign" (defArgs s__law_sign) (defBody s__law_sign) (defScope s__law_sign) .none kV22 dc22 pm22 an22 cd22 ct22), sl22⟩)
    (q22 : PySem.W.codeIn K cd22 "_law_sign" = true)
    (k22 : PySem.W.keepIn K (.ref f22) = true)
    (a23 : PySem.W.nsIn K mainGlobals "_law_led" = some (some (.ref f23)))
    (l23 : K.lookup f23 = some ⟨oc23, od23, .func (PySem.W.fnOf "_law_led" "_law_led" (defArgs s__law_led) (defBody s__law_led) (defScope s__law_led) .none kV23 dc23 pm23 an23 cd23 ct23), sl23⟩)
    (q23 : PySem.W.codeIn K cd23 "_law_led" = true)
    (k23 : PySem.W.keepIn K (.ref f23) = true)
    (a24 : PySem.W.nsIn K mainGlobals "_law_motion" = some (some (.ref f24)))
    (l24 : K.lookup f24 = some ⟨oc24, od24, .func (PySem.W.fnOf "_law_motion" "_law_motion" (defArgs s__law_motion) (defBody s__law_motion) (defScope s__law_motion) .none kV24 dc24 pm24 an24 cd24 ct24), sl24⟩)
    (q24 : PySem.W.codeIn K cd24 "_law_motion" = true)
    (k24 : PySem.W.keepIn K (.ref f24) = true)
    (a25 : PySem.W.nsIn K mainGlobals "law" = some (some (.ref f25)))
    (l25 : K.lookup f25 = some ⟨oc25, od25, .func (PySem.W.fnOf "law" "law" (defArgs s_law) (defBody s_law) (defScope s_law) .none kV25 dc25 pm25 an25 cd25 ct25), sl25⟩)
    (q25 : PySem.W.codeIn K cd25 "law" = true)
    (k25 : PySem.W.keepIn K (.ref f25) = true)
    (z_bool : PySem.W.nsIn K mainGlobals "bool" = some none)
    (z_int : PySem.W.nsIn K mainGlobals "int" = some none)
    (z_isinstance : PySem.W.nsIn K mainGlobals "isinstance" = some none)
    (z_len : PySem.W.nsIn K mainGlobals "len" = some none)
    (z_list : PySem.W.nsIn K mainGlobals "list" = some none)
    (z_min : PySem.W.nsIn K mainGlobals "min" = some none)
    (z_range : PySem.W.nsIn K mainGlobals "range" = some none)
    (z_str : PySem.W.nsIn K mainGlobals "str" = some none)
    (z_tuple : PySem.W.nsIn K mainGlobals "tuple" = some none)
    (v_LETTERS : PySem.W.nsIn K mainGlobals "LETTERS" = some (some (.str "abcdefghijklmnopqrstuvwxyz" tk1)))
    (v_MOST_SIDE : PySem.W.nsIn K mainGlobals "MOST_SIDE" = some (some (.int (6) tk2)))
    (v_MOST_STEP : PySem.W.nsIn K mainGlobals "MOST_STEP" = some (some (.int (100) tk3)))
    (v_TURNS : PySem.W.nsIn K mainGlobals "TURNS" = some (some (.ref ca4)))
    (cl4 : K.lookup ca4 = some ⟨.type "tuple", cdx4, .seq #[.ref ca5, .ref ca10, .ref ca15, .ref ca20, .ref ca25, .ref ca30, .ref ca35, .ref ca40] cn4, cs4⟩)
    (cl5 : K.lookup ca5 = some ⟨.type "tuple", cdx5, .seq #[.int (1) tk6, .int (0) tk7, .int (0) tk8, .int (1) tk9] cn5, cs5⟩)
    (cl10 : K.lookup ca10 = some ⟨.type "tuple", cdx10, .seq #[.int (0) tk11, .int (1) tk12, .int (-1) tk13, .int (0) tk14] cn10, cs10⟩)
    (cl15 : K.lookup ca15 = some ⟨.type "tuple", cdx15, .seq #[.int (-1) tk16, .int (0) tk17, .int (0) tk18, .int (-1) tk19] cn15, cs15⟩)
    (cl20 : K.lookup ca20 = some ⟨.type "tuple", cdx20, .seq #[.int (0) tk21, .int (-1) tk22, .int (1) tk23, .int (0) tk24] cn20, cs20⟩)
    (cl25 : K.lookup ca25 = some ⟨.type "tuple", cdx25, .seq #[.int (1) tk26, .int (0) tk27, .int (0) tk28, .int (-1) tk29] cn25, cs25⟩)
    (cl30 : K.lookup ca30 = some ⟨.type "tuple", cdx30, .seq #[.int (0) tk31, .int (1) tk32, .int (1) tk33, .int (0) tk34] cn30, cs30⟩)
    (cl35 : K.lookup ca35 = some ⟨.type "tuple", cdx35, .seq #[.int (-1) tk36, .int (0) tk37, .int (0) tk38, .int (1) tk39] cn35, cs35⟩)
    (cl40 : K.lookup ca40 = some ⟨.type "tuple", cdx40, .seq #[.int (0) tk41, .int (-1) tk42, .int (-1) tk43, .int (0) tk44] cn40, cs40⟩)
    (g_BadFormation : PySem.W.nsIn K mainGlobals "BadFormation" = some (some (.ref e0)))
    (x_BadFormation : PySem.W.excIn K e0 [.type "ValueError", .type "Exception", .type "BaseException", .type "object"] "ValueError.__new__" = true)
    (y_BadFormation : PySem.W.keepIn K (.ref e0) = true)
    (b_BadFormation : PySem.W.subIn K (.ref e0) (.type "BaseException") = some true)
    (t_BadFormation : PySem.W.typeIn K (.ref e0) = some (.type "type"))
    (i_BadFormation : PySem.W.isClsIn K e0 = true)
    (g_BadMove : PySem.W.nsIn K mainGlobals "BadMove" = some (some (.ref e1)))
    (x_BadMove : PySem.W.excIn K e1 [.type "ValueError", .type "Exception", .type "BaseException", .type "object"] "ValueError.__new__" = true)
    (y_BadMove : PySem.W.keepIn K (.ref e1) = true)
    (b_BadMove : PySem.W.subIn K (.ref e1) (.type "BaseException") = some true)
    (t_BadMove : PySem.W.typeIn K (.ref e1) = some (.type "type"))
    (i_BadMove : PySem.W.isClsIn K e1 = true)
    (g_BadPoint : PySem.W.nsIn K mainGlobals "BadPoint" = some (some (.ref e2)))
    (x_BadPoint : PySem.W.excIn K e2 [.type "ValueError", .type "Exception", .type "BaseException", .type "object"] "ValueError.__new__" = true)
    (y_BadPoint : PySem.W.keepIn K (.ref e2) = true)
    (b_BadPoint : PySem.W.subIn K (.ref e2) (.type "BaseException") = some true)
    (t_BadPoint : PySem.W.typeIn K (.ref e2) = some (.type "type"))
    (i_BadPoint : PySem.W.isClsIn K e2 = true)
    (p_BadFormation_BadFormation : PySem.W.subIn K (.ref e0) (.ref e0) = some true)
    (p_BadFormation_BadMove : PySem.W.subIn K (.ref e0) (.ref e1) = some false)
    (p_BadFormation_BadPoint : PySem.W.subIn K (.ref e0) (.ref e2) = some false)
    (p_BadMove_BadFormation : PySem.W.subIn K (.ref e1) (.ref e0) = some false)
    (p_BadMove_BadMove : PySem.W.subIn K (.ref e1) (.ref e1) = some true)
    (p_BadMove_BadPoint : PySem.W.subIn K (.ref e1) (.ref e2) = some false)
    (p_BadPoint_BadFormation : PySem.W.subIn K (.ref e2) (.ref e0) = some false)
    (p_BadPoint_BadMove : PySem.W.subIn K (.ref e2) (.ref e1) = some false)
    (p_BadPoint_BadPoint : PySem.W.subIn K (.ref e2) (.ref e2) = some true) :
    ∃ fd : FuncData, (∀ (s : Shared) (v : Value), BindsTo s fd ⟨[v], []⟩ [("script", v)]) ∧ ∀ base : Heap, K.In base → base.Ns mainGlobals mg → L2.FnOk l.prog w K mg base (L2.CX l.prog w) 14 fa fd ["script"] (spLaw K den_law) := by
  have e := hfa.symm.trans (PySem.W.mg_of X G a25)
  cases e
  refine ⟨PySem.W.fnOf "law" "law" (defArgs s_law) (defBody s_law) (defScope s_law) .none kV25 dc25 pm25 an25 cd25 ct25, fun s v => .of_eq rfl, fun base _ _ => ?_⟩
  have hF : Fx ⟨l.prog, w, K, mg, base, fun s => if s = "BadFormation" then .ref e0 else if s = "BadMove" then .ref e1 else if s = "BadPoint" then .ref e2 else .none⟩ :=
    { d_is_number := ⟨⟨f0, _, fun_mk (st := s_is_number) l0 q0 k0, PySem.W.mg_of X G a0, (fun_mk (st := s_is_number) l0 q0 k0).binds (ps := ["value", "low", "high"]) fun _ _ _ _ _ _ us hl => match us, hl with | [_, _, _], _ => rfl⟩⟩
      d_is_motion := ⟨⟨f1, _, fun_mk (st := s_is_motion) l1 q1 k1, PySem.W.mg_of X G a1, (fun_mk (st := s_is_motion) l1 q1 k1).binds (ps := ["value", "most"]) fun _ _ _ _ _ _ us hl => match us, hl with | [_, _], _ => rfl⟩⟩
      d_check_motion := ⟨⟨f2, _, fun_mk (st := s_check_motion) l2 q2 k2, PySem.W.mg_of X G a2, (fun_mk (st := s_check_motion) l2 q2 k2).binds (ps := ["value"]) fun _ _ _ _ _ _ us hl => match us, hl with | [_], _ => rfl⟩⟩
      d_turned := ⟨⟨f3, _, fun_mk (st := s_turned) l3 q3 k3, PySem.W.mg_of X G a3, (fun_mk (st := s_turned) l3 q3 k3).binds (ps := ["turn", "r", "c"]) fun _ _ _ _ _ _ us hl => match us, hl with | [_, _, _], _ => rfl⟩⟩
      d_led_to := ⟨⟨f4, _, fun_mk (st := s_led_to) l4 q4 k4, PySem.W.mg_of X G a4, (fun_mk (st := s_led_to) l4 q4 k4).binds (ps := ["motion", "r", "c"]) fun _ _ _ _ _ _ us hl => match us, hl with | [_, _, _], _ => rfl⟩⟩
      d_led := ⟨⟨f5, _, fun_mk (st := s_led) l5 q5 k5, PySem.W.mg_of X G a5, (fun_mk (st := s_led) l5 q5 k5).binds (ps := ["motion", "cell"]) fun _ _ _ _ _ _ us hl => match us, hl with | [_, _], _ => rfl⟩⟩
      d_turned_twice := ⟨⟨f6, _, fun_mk (st := s_turned_twice) l6 q6 k6, PySem.W.mg_of X G a6, (fun_mk (st := s_turned_twice) l6 q6 k6).binds (ps := ["one", "other", "cell"]) fun _ _ _ _ _ _ us hl => match us, hl with | [_, _, _], _ => rfl⟩⟩
      d_joined := ⟨⟨f7, _, fun_mk (st := s_joined) l7 q7 k7, PySem.W.mg_of X G a7, (fun_mk (st := s_joined) l7 q7 k7).binds (ps := ["one", "other"]) fun _ _ _ _ _ _ us hl => match us, hl with | [_, _], _ => rfl⟩⟩
      d_both := ⟨⟨f8, _, fun_mk (st := s_both) l8 q8 k8, PySem.W.mg_of X G a8, (fun_mk (st := s_both) l8 q8 k8).binds (ps := ["one", "other"]) fun _ _ _ _ _ _ us hl => match us, hl with | [_, _], _ => rfl⟩⟩
      d_undone := ⟨⟨f9, _, fun_mk (st := s_undone) l9 q9 k9, PySem.W.mg_of X G a9, (fun_mk (st := s_undone) l9 q9 k9).binds (ps := ["motion"]) fun _ _ _ _ _ _ us hl => match us, hl with | [_], _ => rfl⟩⟩
      d_back := ⟨⟨f10, _, fun_mk (st := s_back) l10 q10 k10, PySem.W.mg_of X G a10, (fun_mk (st := s_back) l10 q10 k10).binds (ps := ["motion"]) fun _ _ _ _ _ _ us hl => match us, hl with | [_], _ => rfl⟩⟩
      d_is_wall := ⟨⟨f11, _, fun_mk (st := s_is_wall) l11 q11 k11, PySem.W.mg_of X G a11, (fun_mk (st := s_is_wall) l11 q11 k11).binds (ps := ["value"]) fun _ _ _ _ _ _ us hl => match us, hl with | [_], _ => rfl⟩⟩
      d_check_wall := ⟨⟨f12, _, fun_mk (st := s_check_wall) l12 q12 k12, PySem.W.mg_of X G a12, (fun_mk (st := s_check_wall) l12 q12 k12).binds (ps := ["value"]) fun _ _ _ _ _ _ us hl => match us, hl with | [_], _ => rfl⟩⟩
      d_sign_at := ⟨⟨f13, _, fun_mk (st := s_sign_at) l13 q13 k13, PySem.W.mg_of X G a13, (fun_mk (st := s_sign_at) l13 q13 k13).binds (ps := ["wall", "r", "c"]) fun _ _ _ _ _ _ us hl => match us, hl with | [_, _, _], _ => rfl⟩⟩
      d_led_wall := ⟨⟨f14, _, fun_mk (st := s_led_wall) l14 q14 k14, PySem.W.mg_of X G a14, (fun_mk (st := s_led_wall) l14 q14 k14).binds (ps := ["wall", "motion"]) fun _ _ _ _ _ _ us hl => match us, hl with | [_, _], _ => rfl⟩⟩
      d_moved := ⟨⟨f15, _, fun_mk (st := s_moved) l15 q15 k15, PySem.W.mg_of X G a15, (fun_mk (st := s_moved) l15 q15 k15).binds (ps := ["wall", "motion"]) fun _ _ _ _ _ _ us hl => match us, hl with | [_, _], _ => rfl⟩⟩
      d__law_mixed := ⟨⟨f16, _, fun_mk (st := s__law_mixed) l16 q16 k16, PySem.W.mg_of X G a16, (fun_mk (st := s__law_mixed) l16 q16 k16).binds (ps := ["number", "k"]) fun _ _ _ _ _ _ us hl => match us, hl with | [_, _], _ => rfl⟩⟩
      d__law_numbers := ⟨⟨f17, _, fun_mk (st := s__law_numbers) l17 q17 k17, PySem.W.mg_of X G a17, (fun_mk (st := s__law_numbers) l17 q17 k17).binds (ps := ["script"]) fun _ _ _ _ _ _ us hl => match us, hl with | [_], _ => rfl⟩⟩
      d__law_draw := ⟨⟨f18, _, fun_mk (st := s__law_draw) l18 q18 k18, PySem.W.mg_of X G a18, (fun_mk (st := s__law_draw) l18 q18 k18).binds (ps := ["draws", "many"]) fun _ _ _ _ _ _ us hl => match us, hl with | [_, _], _ => rfl⟩⟩
      d__law_equal := ⟨⟨f19, _, fun_mk (st := s__law_equal) l19 q19 k19, PySem.W.mg_of X G a19, (fun_mk (st := s__law_equal) l19 q19 k19).binds (ps := ["actual", "due"]) fun _ _ _ _ _ _ us hl => match us, hl with | [_, _], _ => rfl⟩⟩
      d__law_all_equal := ⟨⟨f20, _, fun_mk (st := s__law_all_equal) l20 q20 k20, PySem.W.mg_of X G a20, (fun_mk (st := s__law_all_equal) l20 q20 k20).binds (ps := ["actual", "due"]) fun _ _ _ _ _ _ us hl => match us, hl with | [_, _], _ => rfl⟩⟩
      d__law_tiles := ⟨⟨f21, _, fun_mk (st := s__law_tiles) l21 q21 k21, PySem.W.mg_of X G a21, (fun_mk (st := s__law_tiles) l21 q21 k21).binds (ps := ["draws", "most"]) fun _ _ _ _ _ _ us hl => match us, hl with | [_, _], _ => rfl⟩⟩
      d__law_sign := ⟨⟨f22, _, fun_mk (st := s__law_sign) l22 q22 k22, PySem.W.mg_of X G a22, (fun_mk (st := s__law_sign) l22 q22 k22).binds (ps := ["wall", "r", "c"]) fun _ _ _ _ _ _ us hl => match us, hl with | [_, _, _], _ => rfl⟩⟩
      d__law_led := ⟨⟨f23, _, fun_mk (st := s__law_led) l23 q23 k23, PySem.W.mg_of X G a23, (fun_mk (st := s__law_led) l23 q23 k23).binds (ps := ["motion", "r", "c"]) fun _ _ _ _ _ _ us hl => match us, hl with | [_, _, _], _ => rfl⟩⟩
      d__law_motion := ⟨⟨f24, _, fun_mk (st := s__law_motion) l24 q24 k24, PySem.W.mg_of X G a24, (fun_mk (st := s__law_motion) l24 q24 k24).binds (ps := ["draws"]) fun _ _ _ _ _ _ us hl => match us, hl with | [_], _ => rfl⟩⟩
      d_law := ⟨⟨fa, _, fun_mk (st := s_law) l25 q25 k25, PySem.W.mg_of X G a25, (fun_mk (st := s_law) l25 q25 k25).binds (ps := ["script"]) fun _ _ _ _ _ _ us hl => match us, hl with | [_], _ => rfl⟩⟩
      z_bool := PySem.W.mg_none_of X G z_bool
      z_int := PySem.W.mg_none_of X G z_int
      z_isinstance := PySem.W.mg_none_of X G z_isinstance
      z_len := PySem.W.mg_none_of X G z_len
      z_list := PySem.W.mg_none_of X G z_list
      z_min := PySem.W.mg_none_of X G z_min
      z_range := PySem.W.mg_none_of X G z_range
      z_str := PySem.W.mg_none_of X G z_str
      z_tuple := PySem.W.mg_none_of X G z_tuple
      c_LETTERS := gconst_of (PySem.W.mg_of X G v_LETTERS) (.str _ _)
      c_MOST_SIDE := gconst_of (PySem.W.mg_of X G v_MOST_SIDE) (.int _ _)
      c_MOST_STEP := gconst_of (PySem.W.mg_of X G v_MOST_STEP) (.int _ _)
      c_TURNS := gconst_of (PySem.W.mg_of X G v_TURNS) (.tup cl4 (Nat.le_of_ble_eq_true rfl) (.cons (.tup cl5 (Nat.le_of_ble_eq_true rfl) (.cons (.int _ _) (.cons (.int _ _) (.cons (.int _ _) (.cons (.int _ _) GReps.nil))))) (.cons (.tup cl10 (Nat.le_of_ble_eq_true rfl) (.cons (.int _ _) (.cons (.int _ _) (.cons (.int _ _) (.cons (.int _ _) GReps.nil))))) (.cons (.tup cl15 (Nat.le_of_ble_eq_true rfl) (.cons (.int _ _) (.cons (.int _ _) (.cons (.int _ _) (.cons (.int _ _) GReps.nil))))) (.cons (.tup cl20 (Nat.le_of_ble_eq_true rfl) (.cons (.int _ _) (.cons (.int _ _) (.cons (.int _ _) (.cons (.int _ _) GReps.nil))))) (.cons (.tup cl25 (Nat.le_of_ble_eq_true rfl) (.cons (.int _ _) (.cons (.int _ _) (.cons (.int _ _) (.cons (.int _ _) GReps.nil))))) (.cons (.tup cl30 (Nat.le_of_ble_eq_true rfl) (.cons (.int _ _) (.cons (.int _ _) (.cons (.int _ _) (.cons (.int _ _) GReps.nil))))) (.cons (.tup cl35 (Nat.le_of_ble_eq_true rfl) (.cons (.int _ _) (.cons (.int _ _) (.cons (.int _ _) (.cons (.int _ _) GReps.nil))))) (.cons (.tup cl40 (Nat.le_of_ble_eq_true rfl) (.cons (.int _ _) (.cons (.int _ _) (.cons (.int _ _) (.cons (.int _ _) GReps.nil))))) GReps.nil)))))))))
      e_BadFormation := ⟨⟨e0, by simp, PySem.W.mg_of X G g_BadFormation, x_BadFormation, y_BadFormation, b_BadFormation, t_BadFormation⟩⟩
      e_BadMove := ⟨⟨e1, by simp, PySem.W.mg_of X G g_BadMove, x_BadMove, y_BadMove, b_BadMove, t_BadMove⟩⟩
      e_BadPoint := ⟨⟨e2, by simp, PySem.W.mg_of X G g_BadPoint, x_BadPoint, y_BadPoint, b_BadPoint, t_BadPoint⟩⟩
      xm := by
        intro a ha b hb
        simp only [exL, List.mem_cons, List.not_mem_nil, or_false] at ha hb
        rcases ha with rfl | rfl | rfl <;> rcases hb with rfl | rfl | rfl
        · simpa using exm_one b_BadFormation i_BadFormation t_BadFormation p_BadFormation_BadFormation
        · simpa using exm_one b_BadMove i_BadMove t_BadMove p_BadFormation_BadMove
        · simpa using exm_one b_BadPoint i_BadPoint t_BadPoint p_BadFormation_BadPoint
        · simpa using exm_one b_BadFormation i_BadFormation t_BadFormation p_BadMove_BadFormation
        · simpa using exm_one b_BadMove i_BadMove t_BadMove p_BadMove_BadMove
        · simpa using exm_one b_BadPoint i_BadPoint t_BadPoint p_BadMove_BadPoint
        · simpa using exm_one b_BadFormation i_BadFormation t_BadFormation p_BadPoint_BadFormation
        · simpa using exm_one b_BadMove i_BadMove t_BadMove p_BadPoint_BadMove
        · simpa using exm_one b_BadPoint i_BadPoint t_BadPoint p_BadPoint_BadPoint }
  exact (fn_mk (fun_mk (st := s_law) l25 q25 k25) sc_law (vb_law hF)).imp fun vs H Q E q => spLaw_of q
end K14
open PySem PySem.W PyProof.Rows
set_option maxHeartbeats 0 in
theorem PySem.Challenge.cw_everyfield_k14_motions_of_tiles_holds : PySem.Challenge.rw_everyfield_k14_motions_of_tiles.Holds := by
  w_on; o_law; k_head; (case hw => w_witness2)
  k_fill
  refine L2.walk_of (l := PySem.Challenge.rw_everyfield_k14_motions_of_tiles) (n := 63) (k := 14) (x := "script") (CX := fun w => L2.CX PySem.Challenge.rw_everyfield_k14_motions_of_tiles.prog w) (sp := fun w => Vl.spLaw _ K14.den_law) rfl (by decide) rfl ⟨rfl, by decide, by decide⟩ (fun w h Y => PySem.W.kIn_of Y) ?F (fun _ _ a ns hl _ hS => Vl.spLaw_script hS (K14.law_true ns hl)) (fun _ _ _ _ _ ⟨_, _, _, _, _, h⟩ => h.2.2.2.2.2.2.2)
  case F =>
    intro w mg fa h KX G hmg
    refine' K14.all_mk KX G hmg ?a0 ?l0 ?q0 ?k0 ?a1 ?l1 ?q1 ?k1 ?a2 ?l2 ?q2 ?k2 ?a3 ?l3 ?q3 ?k3 ?a4 ?l4 ?q4 ?k4 ?a5 ?l5 ?q5 ?k5 ?a6 ?l6 ?q6 ?k6 ?a7 ?l7 ?q7 ?k7 ?a8 ?l8 ?q8 ?k8 ?a9 ?l9 ?q9 ?k9 ?a10 ?l10 ?q10 ?k10 ?a11 ?l11 ?q11 ?k11 ?a12 ?l12 ?q12 ?k12 ?a13 ?l13 ?q13 ?k13 ?a14 ?l14 ?q14 ?k14 ?a15 ?l15 ?q15 ?k15 ?a16 ?l16 ?q16 ?k16 ?a17 ?l17 ?q17 ?k17 ?a18 ?l18 ?q18 ?k18 ?a19 ?l19 ?q19 ?k19 ?a20 ?l20 ?q20 ?k20 ?a21 ?l21 ?q21 ?k21 ?a22 ?l22 ?q22 ?k22 ?a23 ?l23 ?q23 ?k23 ?a24 ?l24 ?q24 ?k24 ?a25 ?l25 ?q25 ?k25 ?z_bool ?z_int ?z_isinstance ?z_len ?z_list ?z_min ?z_range ?z_str ?z_tuple ?v_LETTERS ?v_MOST_SIDE ?v_MOST_STEP ?v_TURNS ?cl4 ?cl5 ?cl10 ?cl15 ?cl20 ?cl25 ?cl30 ?cl35 ?cl40 ?g_BadFormation ?x_BadFormation ?y_BadFormation ?b_BadFormation ?t_BadFormation ?i_BadFormation ?g_BadMove ?x_BadMove ?y_BadMove ?b_BadMove ?t_BadMove ?i_BadMove ?g_BadPoint ?x_BadPoint ?y_BadPoint ?b_BadPoint ?t_BadPoint ?i_BadPoint ?p_BadFormation_BadFormation ?p_BadFormation_BadMove ?p_BadFormation_BadPoint ?p_BadMove_BadFormation ?p_BadMove_BadMove ?p_BadMove_BadPoint ?p_BadPoint_BadFormation ?p_BadPoint_BadMove ?p_BadPoint_BadPoint
    (case a0 => first | k_is | rfl)
    (case l0 => first | k_is | rfl)
    (case q0 => first | k_is | rfl)
    (case k0 => first | k_is | rfl)
    (case a1 => first | k_is | rfl)
    (case l1 => first | k_is | rfl)
    (case q1 => first | k_is | rfl)
    (case k1 => first | k_is | rfl)
    (case a2 => first | k_is | rfl)
    (case l2 => first | k_is | rfl)
    (case q2 => first | k_is | rfl)
    (case k2 => first | k_is | rfl)
    (case a3 => first | k_is | rfl)
    (case l3 => first | k_is | rfl)
    (case q3 => first | k_is | rfl)
    (case k3 => first | k_is | rfl)
    (case a4 => first | k_is | rfl)
    (case l4 => first | k_is | rfl)
    (case q4 => first | k_is | rfl)
    (case k4 => first | k_is | rfl)
    (case a5 => first | k_is | rfl)
    (case l5 => first | k_is | rfl)
    (case q5 => first | k_is | rfl)
    (case k5 => first | k_is | rfl)
    (case a6 => first | k_is | rfl)
    (case l6 => first | k_is | rfl)
    (case q6 => first | k_is | rfl)
    (case k6 => first | k_is | rfl)
    (case a7 => first | k_is | rfl)
    (case l7 => first | k_is | rfl)
    (case q7 => first | k_is | rfl)
    (case k7 => first | k_is | rfl)
    (case a8 => first | k_is | rfl)
    (case l8 => first | k_is | rfl)
    (case q8 => first | k_is | rfl)
    (case k8 => first | k_is | rfl)
    (case a9 => first | k_is | rfl)
    (case l9 => first | k_is | rfl)
    (case q9 => first | k_is | rfl)
    (case k9 => first | k_is | rfl)
    (case a10 => first | k_is | rfl)
    (case l10 => first | k_is | rfl)
    (case q10 => first | k_is | rfl)
    (case k10 => first | k_is | rfl)
    (case a11 => first | k_is | rfl)
    (case l11 => first | k_is | rfl)
    (case q11 => first | k_is | rfl)
    (case k11 => first | k_is | rfl)
    (case a12 => first | k_is | rfl)
    (case l12 => first | k_is | rfl)
    (case q12 => first | k_is | rfl)
    (case k12 => first | k_is | rfl)
    (case a13 => first | k_is | rfl)
    (case l13 => first | k_is | rfl)
    (case q13 => first | k_is | rfl)
    (case k13 => first | k_is | rfl)
    (case a14 => first | k_is | rfl)
    (case l14 => first | k_is | rfl)
    (case q14 => first | k_is | rfl)
    (case k14 => first | k_is | rfl)
    (case a15 => first | k_is | rfl)
    (case l15 => first | k_is | rfl)
    (case q15 => first | k_is | rfl)
    (case k15 => first | k_is | rfl)
    (case a16 => first | k_is | rfl)
    (case l16 => first | k_is | rfl)
    (case q16 => first | k_is | rfl)
    (case k16 => first | k_is | rfl)
    (case a17 => first | k_is | rfl)
    (case l17 => first | k_is | rfl)
    (case q17 => first | k_is | rfl)
    (case k17 => first | k_is | rfl)
    (case a18 => first | k_is | rfl)
    (case l18 => first | k_is | rfl)
    (case q18 => first | k_is | rfl)
    (case k18 => first | k_is | rfl)
    (case a19 => first | k_is | rfl)
    (case l19 => first | k_is | rfl)
    (case q19 => first | k_is | rfl)
    (case k19 => first | k_is | rfl)
    (case a20 => first | k_is | rfl)
    (case l20 => first | k_is | rfl)
    (case q20 => first | k_is | rfl)
    (case k20 => first | k_is | rfl)
    (case a21 => first | k_is | rfl)
    (case l21 => first | k_is | rfl)
    (case q21 => first | k_is | rfl)
    (case k21 => first | k_is | rfl)
    (case a22 => first | k_is | rfl)
    (case l22 => first | k_is | rfl)
    (case q22 => first | k_is | rfl)
    (case k22 => first | k_is | rfl)
    (case a23 => first | k_is | rfl)
    (case l23 => first | k_is | rfl)
    (case q23 => first | k_is | rfl)
    (case k23 => first | k_is | rfl)
    (case a24 => first | k_is | rfl)
    (case l24 => first | k_is | rfl)
    (case q24 => first | k_is | rfl)
    (case k24 => first | k_is | rfl)
    (case a25 => first | k_is | rfl)
    (case l25 => first | k_is | rfl)
    (case q25 => first | k_is | rfl)
    (case k25 => first | k_is | rfl)
    (case z_bool => first | k_is | rfl)
    (case z_int => first | k_is | rfl)
    (case z_isinstance => first | k_is | rfl)
    (case z_len => first | k_is | rfl)
    (case z_list => first | k_is | rfl)
    (case z_min => first | k_is | rfl)
    (case z_range => first | k_is | rfl)
    (case z_str => first | k_is | rfl)
    (case z_tuple => first | k_is | rfl)
    (case v_LETTERS => first | k_is | rfl)
    (case v_MOST_SIDE => first | k_is | rfl)
    (case v_MOST_STEP => first | k_is | rfl)
    (case v_TURNS => first | k_is | rfl)
    (case cl4 => first | k_is | rfl)
    (case cl5 => first | k_is | rfl)
    (case cl10 => first | k_is | rfl)
    (case cl15 => first | k_is | rfl)
    (case cl20 => first | k_is | rfl)
    (case cl25 => first | k_is | rfl)
    (case cl30 => first | k_is | rfl)
    (case cl35 => first | k_is | rfl)
    (case cl40 => first | k_is | rfl)
    (case g_BadFormation => first | k_is | rfl)
    (case x_BadFormation => k_exc)
    (case y_BadFormation => first | k_is | rfl)
    (case b_BadFormation => first | k_is | rfl)
    (case t_BadFormation => first | k_is | rfl)
    (case i_BadFormation => first | k_is | rfl)
    (case g_BadMove => first | k_is | rfl)
    (case x_BadMove => k_exc)
    (case y_BadMove => first | k_is | rfl)
    (case b_BadMove => first | k_is | rfl)
    (case t_BadMove => first | k_is | rfl)
    (case i_BadMove => first | k_is | rfl)
    (case g_BadPoint => first | k_is | rfl)
    (case x_BadPoint => k_exc)
    (case y_BadPoint => first | k_is | rfl)
    (case b_BadPoint => first | k_is | rfl)
    (case t_BadPoint => first | k_is | rfl)
    (case i_BadPoint => first | k_is | rfl)
    (case p_BadFormation_BadFormation => first | k_is | rfl)
    (case p_BadFormation_BadMove => first | k_is | rfl)
    (case p_BadFormation_BadPoint => first | k_is | rfl)
    (case p_BadMove_BadFormation => first | k_is | rfl)
    (case p_BadMove_BadMove => first | k_is | rfl)
    (case p_BadMove_BadPoint => first | k_is | rfl)
    (case p_BadPoint_BadFormation => first | k_is | rfl)
    (case p_BadPoint_BadMove => first | k_is | rfl)
    (case p_BadPoint_BadPoint => first | k_is | rfl)
