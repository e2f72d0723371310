import PyProof.Rows.All
import Wide.All
import OpenK.AllK
import Wide.FinOn
import PyProof.EqAt
import PyProof.EqKinds
import PyProof.TupleCall
import HandS.ForMost
import HandS.ForExc
import HandS.IsInst
import HandS.Walk
import HandS.TryMany
import HandS.Wide
import KE.KDictKeyed
import KE.KDictWalk
import KE.KDictLaw
import HandS.Style
import HandS.TupAny
import KE.DataCmp
import KE.DataEq
import KE.DataMinMax
import KE.SortData
import HandS.Iter
import HandS.TupLen
import HandS.Conv
import HandS.Small
import HandS.Text
import HandS.More
import KE.KDictSum
import PyProof.Transfer
import HandS.TupSets
import HandS.List
import PyProof.IsRules
import HandS.Strs
import PySem.Challenge.RW_everyfield_k07_whole_counts_of_strips
set_option Elab.async false
set_option linter.all false
set_option maxRecDepth 100000
set_option maxHeartbeats 4000000
namespace Vl
open PySem PySem.Spec PyProof.Rows L2

/-! ### plain values -/
/-- a value by its content: lists, tuples, tables; frl, ktp: a list, a tuple of the text or a known one; mut n: the n-th shared object -/
inductive D where
  | non | bl (b : Bool) | int (i : Int) | str (x : Str)
  | lst (xs : List D) | tup (xs : List D) | frl (xs : List D) | ktp (xs : List D)
  | dK (ks : List Key) (xs : List D) | dT (ks : List D) (xs : List D)
  | mut (n : Nat)
instance : Inhabited D := ⟨.non⟩

/-- what a name holds: nothing known; a value; a list (table) that is this name's alone -/
inductive Slot where
  | un | val (d : D) | own (ds : List D) | ownK (ks : List Key) (ds : List D) | ownT (ks ds : List D)
/-- a shared object: a list, a table, an instance of a class -/
inductive MO where
  | lst (ds : List D) | dK (ks : List Key) (ds : List D) | dT (ks ds : List D) | obj (c : Str) (ns : List Str) (ds : List D)
structure DS where
  env : List Slot
  mem : List MO
inductive R (α : Type) where
  | ok (a : α) (s : DS) | err (c : String) (s : DS) | stuck
abbrev M (α : Type) := DS → R α
def R.bind {α β : Type} : R α → (α → DS → R β) → R β
  | .ok a s, g => g a s
  | .err c s, _ => .err c s
  | .stuck, _ => .stuck
def bnd {α β : Type} (f : M α) (g : α → M β) : M β := fun s => (f s).bind fun a s' => g a s'
def rtn {α : Type} (a : α) : M α := fun s => .ok a s
def opt {α : Type} : Option α → M α
  | some a => rtn a
  | none => fun _ => .stuck

/-- the written part, the world (texts' hashes hang on it), the module's names -/
structure KW where
  K : PySem.W.Frag
  w : World
  mg : Str → Option Value
instance : Coe KW PySem.W.Frag := ⟨KW.K⟩
abbrev xkw (X : Cx) : KW := ⟨X.K, X.w, X.mg⟩
/-- where a class of the module stands -/
def KW.cls (K : KW) (c : Str) : Addr := match K.mg c with
  | some (.ref a) => a
  | _ => 0
/-! ### keys of tables: tuples of ints and texts, nested -/
mutual
def keyN : D → Option NestedKey
  | .non => some .none
  | .int i => some (.num i)
  | .str x => some (.text x)
  | .tup ds => (keysN ds).map .tup
  | _ => none
def keysN : List D → Option (List NestedKey)
  | [] => some []
  | d :: r => (keyN d).bind fun k => (keysN r).map (k :: ·)
end
def keyT : D → Option NestedKey
  | .tup ds => (keyN (.tup ds)).bind fun k => if k.depth ≤ 8 then some k else none
  | _ => none
/-- at a stands a table: its keys, where their tuples stand, its values -/
def NTab (w : World) (a : Addr) (nks : List NestedKey) (bs : List Addr) (vs : List V) (h : Heap) : Prop :=
  ∃ us : List Value, Vals vs us ∧ ∃ o es ep, h.get? a = some o ∧ o.ExactDict ∧ o.data = .dict es ep ∧ es.toList = (nks.zip (bs.zip us)).map fun x => (⟨x.1.hash w, .ref x.2.1, x.2.2⟩ : DictEntry)
/-- the keys' names and numbers -/
structure TF (ks : List D) (a : Addr) (nks : List NestedKey) (bs : List Addr) (vs : List V) : Prop where
  keys : ks.map keyT = nks.map some
  nd : nks.Nodup
  bl : bs.length = ks.length
  vl : vs.length = ks.length
  few : ks.length ≤ 1000000
  sys : (a == sysModules) = false
/-! ### how a value stands in the heap -/
section
variable (K : KW) (S : Hp) (ma : List Addr)
mutual
inductive Rep : D → V → Prop
  | non : Rep .non .non
  | bl (b : Bool) : Rep (.bl b) (.bl b)
  | int (i : Int) : Rep (.int i) (.int i)
  | str (x : Str) : Rep (.str x) (.str x)
  | lst {a : Addr} {ds : List D} {vs : List V} : S a = some (.lst vs) → RepL ds vs → Rep (.lst ds) (.ref a)
  | frl {a : Addr} {ds : List D} {vs : List V} : SqL K S a vs → RepL ds vs → Rep (.frl ds) (.ref a)
  | tup {a : Addr} {ds : List D} {vs : List V} : S a = some (.tup vs) → RepL ds vs → Rep (.tup ds) (.ref a)
  | ktp {a : Addr} {ds : List D} {vs : List V} : SqT K S a vs → RepL ds vs → Rep (.ktp ds) (.ref a)
  | dK {a : Addr} {o : Obj} {ks : List Key} {ds : List D} {vs : List V} : S a = some (.frz o (.dK (ks.zip vs))) → ks.length = vs.length → RepL ds vs → Rep (.dK ks ds) (.ref a)
  | dT {a : Addr} {o : Obj} {ks ds : List D} {nks : List NestedKey} {bs : List Addr} {vs : List V} : S a = some (.frz o (.ext (NTab K.w a nks bs vs))) → TF ks a nks bs vs → RepL ks (bs.map .ref) → RepL ds vs → Rep (.dT ks ds) (.ref a)
  | mut {n : Nat} {a : Addr} : ma[n]? = some a → Rep (.mut n) (.ref a)
inductive RepL : List D → List V → Prop
  | nil : RepL [] []
  | cons {d : D} {v : V} {ds : List D} {vs : List V} : Rep d v → RepL ds vs → RepL (d :: ds) (v :: vs)
end
end
/-- later: what stood stands, more shared objects -/
structure Ext (ma : List Addr) (S : Hp) (ma' : List Addr) (S' : Hp) : Prop where
  same : Same S S'
  pre : ∃ t, ma' = ma ++ t
theorem Ext.refl {ma : List Addr} {S : Hp} : Ext ma S ma S := ⟨Same.refl _, [], by simp⟩
theorem Ext.trans {ma ma1 ma2 : List Addr} {S S1 S2 : Hp} (a : Ext ma S ma1 S1) (b : Ext ma1 S1 ma2 S2) : Ext ma S ma2 S2 := by
  obtain ⟨a1, t, rfl⟩ := a
  obtain ⟨b1, u, rfl⟩ := b
  exact ⟨a1.trans b1, t ++ u, by simp⟩
theorem Ext.get {ma ma1 : List Addr} {S S1 : Hp} (a : Ext ma S ma1 S1) {n : Nat} {x : Addr} (h : ma[n]? = some x) : ma1[n]? = some x := by
  obtain ⟨_, t, rfl⟩ := a
  rw [List.getElem?_append_left (List.getElem?_eq_some_iff.mp h).1]
  exact h
theorem Ext.mem {ma ma1 : List Addr} {S S1 : Hp} (a : Ext ma S ma1 S1) {x : Addr} (h : x ∈ ma) : x ∈ ma1 := by
  obtain ⟨_, t, rfl⟩ := a
  exact List.mem_append_left _ h
theorem seqT {K : PySem.W.Frag} {H H' : Hp} {a : Addr} {xs : List V} (e : Same H H') (h : SqT K H a xs) : SqT K H' a xs := by
  rcases h with (h | ⟨o, h⟩) | h
  · exact .inl (.inl (e _ _ h))
  · exact .inl (.inr ⟨o, e _ _ h⟩)
  · exact .inr h
theorem tsq {K : PySem.W.Frag} {H : Hp} {a : Addr} {xs : List V} (h : H a = some (.tup xs)) : SqT K H a xs := .inl (.inl h)
theorem rdMono {H H' : Hp} {a : Addr} {u : HO} (e : Same H H') (h : Rd H a u) : Rd H' a u := h.elim (fun q => .inl (e _ _ q)) fun ⟨o, q⟩ => .inr ⟨o, e _ _ q⟩
section
variable {K : KW} {S S1 : Hp} {ma ma1 : List Addr}
mutual
theorem Rep.mono (e : Ext ma S ma1 S1) : ∀ {d : D} {v : V}, Rep K S ma d v → Rep K S1 ma1 d v
  | _, _, .non => .non
  | _, _, .bl b => .bl b
  | _, _, .int i => .int i
  | _, _, .str x => .str x
  | _, _, .lst h r => .lst (e.same _ _ h) (RepL.mono e r)
  | _, _, .frl h r => .frl (e.same.seq h) (RepL.mono e r)
  | _, _, .tup h r => .tup (e.same _ _ h) (RepL.mono e r)
  | _, _, .ktp h r => .ktp (seqT e.same h) (RepL.mono e r)
  | _, _, .dK h l r => .dK (e.same _ _ h) l (RepL.mono e r)
  | _, _, .dT h l q r => .dT (e.same _ _ h) l (RepL.mono e q) (RepL.mono e r)
  | _, _, .mut h => .mut (e.get h)
theorem RepL.mono (e : Ext ma S ma1 S1) : ∀ {ds : List D} {vs : List V}, RepL K S ma ds vs → RepL K S1 ma1 ds vs
  | _, _, .nil => .nil
  | _, _, .cons h r => .cons (Rep.mono e h) (RepL.mono e r)
end
theorem RepL.length {ds : List D} {vs : List V} (h : RepL K S ma ds vs) : ds.length = vs.length := by
  induction ds generalizing vs with
  | nil => cases h; rfl
  | cons d ds ih => cases h with | cons a b => simp [ih b]
theorem RepL.get : ∀ {ds : List D} {vs : List V} {i : Nat} {d : D}, RepL K S ma ds vs → ds[i]? = some d → ∃ v, vs[i]? = some v ∧ Rep K S ma d v
  | _, _, 0, _, .cons h _, e => by simp at e; subst e; exact ⟨_, rfl, h⟩
  | _, _, i + 1, _, .cons _ r, e => by
    obtain ⟨v, h1, h2⟩ := RepL.get (i := i) r (by simpa using e)
    exact ⟨v, by simpa using h1, h2⟩
theorem RepL.get' : ∀ {ds : List D} {vs : List V} {i : Nat} {v : V}, RepL K S ma ds vs → vs[i]? = some v → ∃ d, ds[i]? = some d ∧ Rep K S ma d v
  | _, _, 0, _, .cons h _, e => by simp at e; subst e; exact ⟨_, rfl, h⟩
  | _, _, i + 1, _, .cons _ r, e => by
    obtain ⟨v, h1, h2⟩ := RepL.get' (i := i) r (by simpa using e)
    exact ⟨v, by simpa using h1, h2⟩
theorem RepL.app : ∀ {ds es : List D} {vs us : List V}, RepL K S ma ds vs → RepL K S ma es us → RepL K S ma (ds ++ es) (vs ++ us)
  | _, _, _, _, .nil, r => r
  | _, _, _, _, .cons h r, q => .cons h (RepL.app r q)
theorem RepL.take : ∀ {ds : List D} {vs : List V} (n : Nat), RepL K S ma ds vs → RepL K S ma (ds.take n) (vs.take n)
  | _, _, 0, _ => .nil
  | _, _, _ + 1, .nil => .nil
  | _, _, n + 1, .cons h r => .cons h (RepL.take n r)
theorem RepL.drop : ∀ {ds : List D} {vs : List V} (n : Nat), RepL K S ma ds vs → RepL K S ma (ds.drop n) (vs.drop n)
  | _, _, 0, r => r
  | _, _, _ + 1, .nil => .nil
  | _, _, n + 1, .cons _ r => RepL.drop n r
theorem RepL.set {d : D} {v : V} (q : Rep K S ma d v) : ∀ {ds : List D} {vs : List V} (n : Nat), RepL K S ma ds vs → RepL K S ma (ds.set n d) (vs.set n v)
  | _, _, _, .nil => .nil
  | _, _, 0, .cons _ r => .cons q r
  | _, _, n + 1, .cons h r => .cons h (RepL.set q n r)
theorem RepL.rev : ∀ {ds : List D} {vs : List V}, RepL K S ma ds vs → RepL K S ma ds.reverse vs.reverse
  | _, _, .nil => .nil
  | _, _, .cons h r => by
    rw [List.reverse_cons, List.reverse_cons]
    exact RepL.app (RepL.rev r) (.cons h .nil)
theorem RepL.none {ds : List D} {vs : List V} {i : Nat} (h : RepL K S ma ds vs) (e : ds[i]? = Option.none) : vs[i]? = Option.none := by
  rw [List.getElem?_eq_none_iff] at e ⊢
  rw [← h.length]
  exact e
end

/-! ### the state -/
def Slot.isOwn : Slot → Bool
  | .un => false
  | .val _ => false
  | _ => true
/-- what stands behind a name that has an object of its own -/
def Slot.mo : Slot → Option MO
  | .own ds => some (.lst ds)
  | .ownK ks ds => some (.dK ks ds)
  | .ownT ks ds => some (.dT ks ds)
  | _ => none
theorem Slot.mo_of {s : Slot} (h : s.isOwn = true) : ∃ o, s.mo = some o := by
  cases s with
  | un => cases h
  | val _ => cases h
  | own _ => exact ⟨_, rfl⟩
  | ownK _ _ => exact ⟨_, rfl⟩
  | ownT _ _ => exact ⟨_, rfl⟩
theorem Slot.own_of {s : Slot} {o : MO} (h : s.mo = some o) : s.isOwn = true := by
  cases s with
  | un => cases h
  | val _ => cases h
  | _ => rfl
/-- an object's present content -/
def At (K : KW) (S : Hp) (ma : List Addr) (H : Hp) (p : Addr) : MO → Prop
  | .lst ds => ∃ vs, H p = some (.lst vs) ∧ RepL K S ma ds vs
  | .dK ks ds => ∃ vs, H p = some (.dK (ks.zip vs)) ∧ RepL K S ma ds vs ∧ ks.length = ds.length
  | .dT ks ds => ∃ nks bs vs, H p = some (.ext (NTab K.w p nks bs vs)) ∧ TF ks p nks bs vs ∧ RepL K S ma ks (bs.map .ref) ∧ RepL K S ma ds vs
  | .obj c ns ds => ∃ x vs, H p = some (.ins (K.cls c) x (ns.zip vs)) ∧ H x = some (.own p) ∧ S x = none ∧ x ∉ ma ∧ RepL K S ma ds vs ∧ ns.length = ds.length ∧ ns.Nodup
/-- a free standing address: known to nobody but us -/
structure Fre (F : Hp) (ma : List Addr) (S : Hp) (σ : L2.St) (env : List Slot) (p : Addr) : Prop where
  s : S p = none
  f : F p = none
  m : p ∉ ma
  o : ∀ (j : Nat) (s : Slot), env[j]? = some s → s.isOwn = true → σ[j]? ≠ some (some (V.ref p))
/-- the state: F what is kept around, S what is known by values, H the heap -/
structure Cf (K : KW) (F : Hp) (ma : List Addr) (S H : Hp) (σ : L2.St) (ds : DS) : Prop where
  sub : Same S H
  fr : Same F H
  dis : ∀ b o, F b = some o → S b = none
  len : σ.length = ds.env.length
  val : ∀ (i : Nat) (d : D), ds.env[i]? = some (Slot.val d) → ∃ v, σ[i]? = some (some v) ∧ Rep K S ma d v
  own : ∀ (i : Nat) (s : Slot) (o : MO), ds.env[i]? = some s → s.mo = some o → ∃ p : Addr, σ[i]? = some (some (V.ref p)) ∧ At K S ma H p o ∧ S p = none ∧ F p = none ∧ p ∉ ma
  apart : ∀ (i j : Nat) (s u : Slot) (p : Addr), ds.env[i]? = some s → ds.env[j]? = some u → s.isOwn = true → u.isOwn = true → σ[i]? = some (some (V.ref p)) → σ[j]? = some (some (V.ref p)) → i = j
  mlen : ma.length = ds.mem.length
  mem : ∀ (n : Nat) (a : Addr) (o : MO), ma[n]? = some a → ds.mem[n]? = some o → At K S ma H a o ∧ S a = none ∧ F a = none
  nd : ma.Nodup

section
variable {K : KW} {F : Hp} {ma : List Addr} {S H : Hp} {σ : L2.St} {ds : DS}
theorem At.head {p : Addr} {o : MO} (h : At K S ma H p o) : ∃ u, H p = some u ∧ Mut (some u) := by
  cases o with
  | lst _ => obtain ⟨vs, e, _⟩ := h; exact ⟨_, e, trivial⟩
  | dK _ _ => obtain ⟨vs, e, _⟩ := h; exact ⟨_, e, trivial⟩
  | dT _ _ => obtain ⟨_, _, vs, e, _⟩ := h; exact ⟨_, e, trivial⟩
  | obj _ _ _ => obtain ⟨x, vs, e, _⟩ := h; exact ⟨_, e, trivial⟩
/-- an object stays what it is -/
theorem At.keep {S1 H1 : Hp} {ma1 : List Addr} {p : Addr} {o : MO} (h : At K S ma H p o) (e : Ext ma S ma1 S1) (hp : H1 p = H p) (hx : ∀ x, H x = some (.own p) → S x = none → x ∉ ma → H1 x = some (.own p) ∧ S1 x = none ∧ x ∉ ma1) : At K S1 ma1 H1 p o := by
  cases o with
  | lst _ => obtain ⟨vs, z1, z2⟩ := h; exact ⟨vs, hp.trans z1, z2.mono e⟩
  | dK _ _ => obtain ⟨vs, z1, z2, z3⟩ := h; exact ⟨vs, hp.trans z1, z2.mono e, z3⟩
  | dT _ _ => obtain ⟨nks, bs, vs, z1, z2, z3, z4⟩ := h; exact ⟨nks, bs, vs, hp.trans z1, z2, z3.mono e, z4.mono e⟩
  | obj _ _ _ =>
    obtain ⟨x, vs, z1, z2, z3, z4, z5, z6⟩ := h
    obtain ⟨y1, y2, y3⟩ := hx x z2 z3 z4
    exact ⟨x, vs, hp.trans z1, y1, y2, y3, z5.mono e, z6⟩
theorem own_ne {x y q : Addr} {u : HO} (h : H x = some (.own y)) (hq : H q = some u) (hu : ∀ y, u ≠ .own y) : x ≠ q := fun z => by
  subst z
  rw [hq] at h
  exact hu _ (Option.some.inj h)
theorem mut_own {u : HO} (h : Mut (some u)) : ∀ y, u ≠ .own y := fun y z => by subst z; exact h
theorem Cf.mfree (c : Cf K F ma S H σ ds) {a : Addr} (h : a ∈ ma) : S a = none ∧ F a = none ∧ ∃ o, H a = some o ∧ Mut (some o) := by
  obtain ⟨n, hn, e⟩ := List.getElem_of_mem h
  have h1 : ma[n]? = some a := by rw [List.getElem?_eq_getElem hn, e]
  have h2 : n < ds.mem.length := by rw [← c.mlen]; exact hn
  obtain ⟨q, s, f⟩ := c.mem n a ds.mem[n] h1 (List.getElem?_eq_getElem h2)
  exact ⟨s, f, q.head⟩
/-- a new address is free -/
theorem Cf.fre (c : Cf K F ma S H σ ds) {p : Addr} (h : H p = none) : Fre F ma S σ ds.env p where
  s := c.sub.free h
  f := c.fr.free h
  m := fun q => by
    obtain ⟨_, _, o, e, _⟩ := c.mfree q
    rw [h] at e; cases e
  o := fun j s e1 e2 e3 => by
    obtain ⟨o, e2⟩ := Slot.mo_of e2
    obtain ⟨q, e4, e5, _⟩ := c.own j s o e1 e2
    rw [e3] at e4
    cases e4
    obtain ⟨u, e5, _⟩ := e5.head
    rw [h] at e5; cases e5
/-- a new object is laid -/
theorem Cf.grow (c : Cf K F ma S H σ ds) {p : Addr} (o : HO) (h : H p = none) : Cf K F ma S (upd H p o) σ ds where
  sub := fun b u e => by
    have := c.sub b u e
    rw [upd_ne (ne_of_none this h)]; exact this
  fr := fun b u e => by
    have := c.fr b u e
    rw [upd_ne (ne_of_none this h)]; exact this
  dis := c.dis
  len := c.len
  val := c.val
  own := fun i s o e1 e2 => by
    obtain ⟨q, e3, e4, r⟩ := c.own i s o e1 e2
    obtain ⟨u, e5, _⟩ := e4.head
    exact ⟨q, e3, e4.keep Ext.refl (upd_ne (ne_of_none e5 h)) fun x z1 z2 z3 => ⟨by rw [upd_ne (ne_of_none z1 h)]; exact z1, z2, z3⟩, r⟩
  apart := c.apart
  mlen := c.mlen
  mem := fun n a o e1 e2 => by
    obtain ⟨e4, r⟩ := c.mem n a o e1 e2
    obtain ⟨u, e5, _⟩ := e4.head
    exact ⟨e4.keep Ext.refl (upd_ne (ne_of_none e5 h)) fun x z1 z2 z3 => ⟨by rw [upd_ne (ne_of_none z1 h)]; exact z1, z2, z3⟩, r⟩
  nd := c.nd
/-- a free object becomes known -/
theorem Cf.adopt (c : Cf K F ma S H σ ds) {p : Addr} {o : HO} (h : H p = some o) (f : Fre F ma S σ ds.env p) (hn : ∀ y, o ≠ .own y := by intro _ z; cases z) : Cf K F ma (upd S p o) H σ ds ∧ Ext ma S ma (upd S p o) := by
  have sm : Same S (upd S p o) := fun b u e => by rw [upd_ne (ne_of_none e f.s)]; exact e
  have ex : Ext ma S ma (upd S p o) := ⟨sm, [], by simp⟩
  have hx : ∀ {q x : Addr}, H x = some (.own q) → S x = none → x ∉ ma → H x = some (.own q) ∧ upd S p o x = none ∧ x ∉ ma := fun z1 z2 z3 => ⟨z1, by rw [upd_ne (own_ne z1 h hn)]; exact z2, z3⟩
  refine ⟨⟨fun b u e => ?_, c.fr, fun b u e => ?_, c.len, fun i d e => ?_, fun i s u e1 e2 => ?_, c.apart, c.mlen, fun n a u e1 e2 => ?_, c.nd⟩, ex⟩
  · by_cases hb : b = p
    · subst hb; rw [upd_same] at e; cases e; exact h
    · rw [upd_ne hb] at e; exact c.sub b u e
  · by_cases hb : b = p
    · subst hb; rw [f.f] at e; cases e
    · rw [upd_ne hb]; exact c.dis b u e
  · obtain ⟨v, e1, r⟩ := c.val i d e
    exact ⟨v, e1, r.mono ex⟩
  · obtain ⟨q, e3, e4, e5, e6, e7⟩ := c.own i s u e1 e2
    have hq : q ≠ p := fun z => f.o i s e1 (Slot.own_of e2) (by rw [← z]; exact e3)
    exact ⟨q, e3, e4.keep ex rfl fun x => hx, by rw [upd_ne hq]; exact e5, e6, e7⟩
  · obtain ⟨e3, e4, e5⟩ := c.mem n a u e1 e2
    have hq : a ≠ p := fun z => f.m (by rw [← z]; exact List.mem_of_getElem? e1)
    exact ⟨e3.keep ex rfl fun x => hx, by rw [upd_ne hq]; exact e4, e5⟩
/-- a new known object -/
theorem Cf.lay (c : Cf K F ma S H σ ds) {p : Addr} (o : HO) (h : H p = none) (hn : ∀ y, o ≠ .own y := by intro _ z; cases z) : Cf K F ma (upd S p o) (upd H p o) σ ds ∧ Ext ma S ma (upd S p o) :=
  (c.grow o h).adopt upd_same (c.fre h) hn

theorem get_set {α : Type} {l : List α} {i j : Nat} {x y : α} (h : (l.set i x)[j]? = some y) : (i = j ∧ y = x) ∨ (i ≠ j ∧ l[j]? = some y) := by
  by_cases e : i = j
  · subst e
    by_cases hl : i < l.length
    · rw [List.getElem?_set_self hl] at h; exact .inl ⟨rfl, (Option.some.inj h).symm⟩
    · rw [List.getElem?_eq_none (by simpa using hl)] at h; cases h
  · rw [List.getElem?_set_ne e] at h
    exact .inr ⟨e, h⟩
/-- a name gets a value -/
theorem Cf.put (c : Cf K F ma S H σ ds) {d : D} {v : V} (r : Rep K S ma d v) (i : Nat) : Cf K F ma S H (σ.set i (some v)) { ds with env := ds.env.set i (.val d) } where
  sub := c.sub
  fr := c.fr
  dis := c.dis
  len := by simp [c.len]
  val := fun j e h => by
    have h : (ds.env.set i (.val d))[j]? = some (.val e) := h
    have hj : j < (ds.env.set i (.val d)).length := (List.getElem?_eq_some_iff.mp h).1
    rcases get_set h with ⟨rfl, q⟩ | ⟨hne, q⟩
    · cases q
      exact ⟨v, by rw [List.getElem?_set_self (by rw [c.len]; simpa using hj)], r⟩
    · obtain ⟨w, e1, e2⟩ := c.val j e q
      exact ⟨w, by rw [List.getElem?_set_ne hne]; exact e1, e2⟩
  own := fun j s o h1 h2 => by
    rcases get_set h1 with ⟨rfl, q⟩ | ⟨hne, q⟩
    · subst q; cases h2
    · obtain ⟨p, e1, e2⟩ := c.own j s o q h2
      exact ⟨p, by rw [List.getElem?_set_ne hne]; exact e1, e2⟩
  apart := fun a b s u p h1 h2 h3 h4 h5 h6 => by
    rcases get_set h1 with ⟨rfl, q⟩ | ⟨hne, q⟩
    · subst q; cases h3
    · rcases get_set h2 with ⟨rfl, q'⟩ | ⟨hne', q'⟩
      · subst q'; cases h4
      · rw [List.getElem?_set_ne hne] at h5
        rw [List.getElem?_set_ne hne'] at h6
        exact c.apart a b s u p q q' h3 h4 h5 h6
  mlen := c.mlen
  mem := c.mem
  nd := c.nd
/-- a name is forgotten -/
theorem Cf.drop (c : Cf K F ma S H σ ds) (i : Nat) (o : Option V) : Cf K F ma S H (σ.set i o) { ds with env := ds.env.set i .un } where
  sub := c.sub
  fr := c.fr
  dis := c.dis
  len := by simp [c.len]
  val := fun j e h => by
    rcases get_set h with ⟨rfl, q⟩ | ⟨hne, q⟩
    · cases q
    · obtain ⟨w, e1, e2⟩ := c.val j e q
      exact ⟨w, by rw [List.getElem?_set_ne hne]; exact e1, e2⟩
  own := fun j s o h1 h2 => by
    rcases get_set h1 with ⟨rfl, q⟩ | ⟨hne, q⟩
    · subst q; cases h2
    · obtain ⟨p, e1, e2⟩ := c.own j s o q h2
      exact ⟨p, by rw [List.getElem?_set_ne hne]; exact e1, e2⟩
  apart := fun a b s u p h1 h2 h3 h4 h5 h6 => by
    rcases get_set h1 with ⟨rfl, q⟩ | ⟨hne, q⟩
    · subst q; cases h3
    · rcases get_set h2 with ⟨rfl, q'⟩ | ⟨hne', q'⟩
      · subst q'; cases h4
      · rw [List.getElem?_set_ne hne] at h5
        rw [List.getElem?_set_ne hne'] at h6
        exact c.apart a b s u p q q' h3 h4 h5 h6
  mlen := c.mlen
  mem := c.mem
  nd := c.nd
/-- a name gets a list (table) of its own -/
theorem Cf.putOwn (c : Cf K F ma S H σ ds) {p : Addr} {s : Slot} {o : MO} (hs : s.mo = some o) (h : At K S ma H p o) (f : Fre F ma S σ ds.env p) (i : Nat) :
    Cf K F ma S H (σ.set i (some (.ref p))) { ds with env := ds.env.set i s } where
  sub := c.sub
  fr := c.fr
  dis := c.dis
  len := by simp [c.len]
  val := fun j e h => by
    rcases get_set h with ⟨rfl, q⟩ | ⟨hne, q⟩
    · subst q; cases hs
    · obtain ⟨w, e1, e2⟩ := c.val j e q
      exact ⟨w, by rw [List.getElem?_set_ne hne]; exact e1, e2⟩
  own := fun j u o' h1 h2 => by
    have h1 : (ds.env.set i s)[j]? = some u := h1
    have hj : j < (ds.env.set i s).length := (List.getElem?_eq_some_iff.mp h1).1
    rcases get_set h1 with ⟨rfl, q⟩ | ⟨hne, q⟩
    · subst q
      rw [hs] at h2
      cases h2
      exact ⟨p, by rw [List.getElem?_set_self (by rw [c.len]; simpa using hj)], h, f.s, f.f, f.m⟩
    · obtain ⟨p, e1, e2⟩ := c.own j u o' q h2
      exact ⟨p, by rw [List.getElem?_set_ne hne]; exact e1, e2⟩
  apart := fun a b t u q h1 h2 h3 h4 h5 h6 => by
    have h1 : (ds.env.set i s)[a]? = some t := h1
    have h2 : (ds.env.set i s)[b]? = some u := h2
    have ha : a < (ds.env.set i s).length := (List.getElem?_eq_some_iff.mp h1).1
    have hb : b < (ds.env.set i s).length := (List.getElem?_eq_some_iff.mp h2).1
    rcases get_set h1 with ⟨rfl, q1⟩ | ⟨hne, q1⟩
    · rcases get_set h2 with ⟨rfl, q2⟩ | ⟨hne', q2⟩
      · rfl
      · rw [List.getElem?_set_self (by rw [c.len]; simpa using ha)] at h5
        cases h5
        rw [List.getElem?_set_ne hne'] at h6
        exact absurd h6 (f.o b u q2 h4)
    · rcases get_set h2 with ⟨rfl, q2⟩ | ⟨hne', q2⟩
      · rw [List.getElem?_set_self (by rw [c.len]; simpa using hb)] at h6
        cases h6
        rw [List.getElem?_set_ne hne] at h5
        exact absurd h5 (f.o a t q1 h3)
      · rw [List.getElem?_set_ne hne] at h5
        rw [List.getElem?_set_ne hne'] at h6
        exact c.apart a b t u q q1 q2 h3 h4 h5 h6
  mlen := c.mlen
  mem := c.mem
  nd := c.nd
/-- the value of an own object -/
def Slot.shut : Slot → D
  | .own ds => .lst ds
  | .ownK ks ds => .dK ks ds
  | .ownT ks ds => .dT ks ds
  | .val d => d
  | .un => .non
theorem set_self {p : Addr} {i : Nat} (e1 : σ[i]? = some (some (V.ref p))) : σ.set i (some (.ref p)) = σ := by
  have hi : i < σ.length := (List.getElem?_eq_some_iff.mp e1).1
  refine List.ext_getElem? fun j => ?_
  by_cases hj : i = j
  · subst hj; rw [List.getElem?_set_self hi, e1]
  · rw [List.getElem?_set_ne hj]
/-- an own object is let go of -/
theorem Cf.loose (c : Cf K F ma S H σ ds) {i : Nat} {s : Slot} {o : MO} {p : Addr} (h : ds.env[i]? = some s) (hs : s.mo = some o) (e1 : σ[i]? = some (some (V.ref p))) : Cf K F ma S H σ { ds with env := ds.env.set i .un } ∧ Fre F ma S σ (ds.env.set i .un) p := by
  obtain ⟨q, z1, _, e3, e4, e5⟩ := c.own i s o h hs
  rw [e1] at z1
  cases z1
  have c1 := c.drop i (some (.ref p))
  rw [set_self e1] at c1
  refine ⟨c1, ⟨e3, e4, e5, fun j u h1 h2 h3 => ?_⟩⟩
  rcases get_set h1 with ⟨rfl, q⟩ | ⟨hne, q⟩
  · subst q; cases h2
  · exact hne (c.apart i j s u p h q (Slot.own_of hs) h2 e1 h3)
/-- a loose object is changed -/
theorem Cf.freeWrite (c : Cf K F ma S H σ ds) {p : Addr} {o u : HO} (f : Fre F ma S σ ds.env p) (h : H p = some u) (hu : ∀ y, u ≠ .own y) : Cf K F ma S (upd H p o) σ ds where
  sub := fun b o e => by
    by_cases hb : b = p
    · subst hb; rw [f.s] at e; cases e
    · rw [upd_ne hb]; exact c.sub b o e
  fr := fun b o e => by
    by_cases hb : b = p
    · subst hb; rw [f.f] at e; cases e
    · rw [upd_ne hb]; exact c.fr b o e
  dis := c.dis
  len := c.len
  val := c.val
  own := fun j w o h1 h2 => by
    obtain ⟨q, z1, z2, z3⟩ := c.own j w o h1 h2
    have hq : q ≠ p := fun z => f.o j w h1 (Slot.own_of h2) (by rw [← z]; exact z1)
    exact ⟨q, z1, z2.keep Ext.refl (upd_ne hq) fun x y1 y2 y3 => ⟨by rw [upd_ne (own_ne y1 h hu)]; exact y1, y2, y3⟩, z3⟩
  apart := c.apart
  mlen := c.mlen
  mem := fun n a o z1 z2 => by
    obtain ⟨z3, z4⟩ := c.mem n a o z1 z2
    have hq : a ≠ p := fun z => f.m (by rw [← z]; exact List.mem_of_getElem? z1)
    exact ⟨z3.keep Ext.refl (upd_ne hq) fun x y1 y2 y3 => ⟨by rw [upd_ne (own_ne y1 h hu)]; exact y1, y2, y3⟩, z4⟩
  nd := c.nd
/-- a name's own object becomes known -/
theorem Cf.share (c : Cf K F ma S H σ ds) {i : Nat} {xs : List D} (h : ds.env[i]? = some (.own xs)) :
    ∃ S' v, σ[i]? = some (some v) ∧ Rep K S' ma (.lst xs) v ∧ Cf K F ma S' H σ { ds with env := ds.env.set i (.val (.lst xs)) } ∧ Ext ma S ma S' := by
  obtain ⟨p, e1, ⟨vs, e2, e6⟩, _⟩ := c.own i _ _ h rfl
  obtain ⟨c1, f⟩ := c.loose h rfl e1
  obtain ⟨c2, ex⟩ := c1.adopt e2 f
  have r : Rep K (upd S p (.lst vs)) ma (.lst xs) (.ref p) := .lst upd_same (e6.mono ex)
  have c3 := c2.put r i
  rw [set_self e1] at c3
  refine ⟨_, _, e1, r, ?_, ex⟩
  have e8 : (ds.env.set i Slot.un).set i (.val (.lst xs)) = ds.env.set i (.val (.lst xs)) := by simp
  have c3' : Cf K F ma (upd S p (.lst vs)) H σ { ds with env := (ds.env.set i Slot.un).set i (.val (.lst xs)) } := c3
  rw [e8] at c3'
  exact c3'
/-- a name's own table becomes known: it is frozen -/
theorem Cf.shareD (c : Cf K F ma S H σ ds) {i : Nat} {s : Slot} {o : MO} (h : ds.env[i]? = some s) (hs : s.mo = some o) :
    ∃ p, σ[i]? = some (some (.ref p)) ∧ At K S ma H p o ∧ ∀ u d, (∀ y, u ≠ .own y) → (∀ S', Ext ma S ma S' → S' p = some u → Rep K S' ma d (.ref p)) → ∃ S', Ext ma S ma S' ∧ Rep K S' ma d (.ref p) ∧ Cf K F ma S' (upd H p u) σ { ds with env := ds.env.set i (.val d) } := by
  obtain ⟨p, e1, e2, _⟩ := c.own i s o h hs
  refine ⟨p, e1, e2, fun u d hu hr => ?_⟩
  obtain ⟨c1, f⟩ := c.loose h hs e1
  obtain ⟨w, hw, mw⟩ := e2.head
  have c2 : Cf K F ma S (upd H p u) σ { ds with env := ds.env.set i .un } := c1.freeWrite f hw (mut_own mw)
  obtain ⟨c3, ex⟩ := c2.adopt upd_same f hu
  have r := hr _ ex upd_same
  have c4 := c3.put r i
  rw [set_self e1] at c4
  refine ⟨_, ex, r, ?_⟩
  have e8 : (ds.env.set i Slot.un).set i (.val d) = ds.env.set i (.val d) := by simp
  have c4' : Cf K F ma (upd S p u) (upd H p u) σ { ds with env := (ds.env.set i Slot.un).set i (.val d) } := c4
  rw [e8] at c4'
  exact c4'
/-- an own object is written -/
theorem Cf.ownWrite (c : Cf K F ma S H σ ds) {i : Nat} {s t : Slot} {o o' : MO} {p : Addr} {u : HO} (h : ds.env[i]? = some s) (hs : s.mo = some o) (hp : σ[i]? = some (some (.ref p))) (ht : t.mo = some o') (ha : At K S ma (upd H p u) p o') :
    Cf K F ma S (upd H p u) σ { ds with env := ds.env.set i t } := by
  obtain ⟨c1, f⟩ := c.loose h hs hp
  obtain ⟨q, z1, e2, _⟩ := c.own i s o h hs
  rw [hp] at z1
  cases z1
  obtain ⟨w, hw, mw⟩ := e2.head
  have c2 : Cf K F ma S (upd H p u) σ { ds with env := ds.env.set i .un } := c1.freeWrite f hw (mut_own mw)
  have c3 := c2.putOwn ht ha f i
  rw [set_self hp] at c3
  have e8 : (ds.env.set i Slot.un).set i t = ds.env.set i t := by simp
  have c3' : Cf K F ma S (upd H p u) σ { ds with env := (ds.env.set i Slot.un).set i t } := c3
  rw [e8] at c3'
  exact c3'
/-- a shared object is written -/
theorem Cf.memWrite (c : Cf K F ma S H σ ds) {n : Nat} {a : Addr} {o : MO} {v : HO} (h : ma[n]? = some a) (ha : At K S ma (upd H a v) a o) : Cf K F ma S (upd H a v) σ { ds with mem := ds.mem.set n o } := by
  have hm : a ∈ ma := List.mem_of_getElem? h
  obtain ⟨e1, e2, w, hw, mw⟩ := c.mfree hm
  have hx : ∀ {q x : Addr}, H x = some (.own q) → S x = none → x ∉ ma → upd H a v x = some (.own q) ∧ S x = none ∧ x ∉ ma := fun y1 y2 y3 => ⟨by rw [upd_ne (own_ne y1 hw (mut_own mw))]; exact y1, y2, y3⟩
  refine ⟨fun b u e => ?_, fun b u e => ?_, c.dis, c.len, c.val, fun j w o h1 h2 => ?_, c.apart, by simp [c.mlen], fun k b u z1 z2 => ?_, c.nd⟩
  · by_cases hb : b = a
    · subst hb; rw [e1] at e; cases e
    · rw [upd_ne hb]; exact c.sub b u e
  · by_cases hb : b = a
    · subst hb; rw [e2] at e; cases e
    · rw [upd_ne hb]; exact c.fr b u e
  · obtain ⟨q, z1, z2, z3, z4, z5⟩ := c.own j w o h1 h2
    have hq : q ≠ a := fun z => z5 (by rw [z]; exact hm)
    exact ⟨q, z1, z2.keep Ext.refl (upd_ne hq) fun x => hx, z3, z4, z5⟩
  · have z2 : (ds.mem.set n o)[k]? = some u := z2
    by_cases hk : n = k
    · subst hk
      rw [h] at z1; cases z1
      have hn : n < ds.mem.length := by rw [← c.mlen]; exact (List.getElem?_eq_some_iff.mp h).1
      rw [List.getElem?_set_self hn] at z2
      cases z2
      exact ⟨ha, e1, e2⟩
    · rw [List.getElem?_set_ne hk] at z2
      obtain ⟨z3, z4⟩ := c.mem k b u z1 z2
      have hb : b ≠ a := fun z => by
        subst z
        have i1 := (List.getElem?_eq_some_iff.mp h)
        have i2 := (List.getElem?_eq_some_iff.mp z1)
        obtain ⟨l1, g1⟩ := i1
        obtain ⟨l2, g2⟩ := i2
        exact hk ((List.getElem_inj c.nd).mp (g1.trans g2.symm))
      exact ⟨z3.keep Ext.refl (upd_ne hb) fun x => hx, z4⟩
/-- a free object becomes shared -/
theorem Cf.memNew (c : Cf K F ma S H σ ds) {a : Addr} {o : MO} (h : At K S ma H a o) (f : Fre F ma S σ ds.env a) :
    Cf K F (ma ++ [a]) S H σ { ds with mem := ds.mem ++ [o] } ∧ Ext ma S (ma ++ [a]) S := by
  have ex : Ext ma S (ma ++ [a]) S := ⟨Same.refl _, [a], rfl⟩
  obtain ⟨w, hw, mw⟩ := h.head
  have hx : ∀ {q x : Addr}, H x = some (.own q) → S x = none → x ∉ ma → H x = some (.own q) ∧ S x = none ∧ x ∉ ma ++ [a] := fun y1 y2 y3 => ⟨y1, y2, by simp [y3, own_ne y1 hw (mut_own mw)]⟩
  refine ⟨⟨c.sub, c.fr, c.dis, c.len, fun i d e => ?_, fun i s o e1 e2 => ?_, c.apart, by simp [c.mlen], fun n b u z1 z2 => ?_, ?_⟩, ex⟩
  · obtain ⟨v, e1, r⟩ := c.val i d e
    exact ⟨v, e1, r.mono ex⟩
  · obtain ⟨q, z1, z2, z3, z4, z5⟩ := c.own i s o e1 e2
    have hq : q ≠ a := fun z => f.o i s e1 (Slot.own_of e2) (by rw [← z]; exact z1)
    exact ⟨q, z1, z2.keep ex rfl fun x => hx, z3, z4, by simp [z5, hq]⟩
  · have z2 : (ds.mem ++ [o])[n]? = some u := z2
    have hl := c.mlen
    by_cases hn : n < ma.length
    · rw [List.getElem?_append_left hn] at z1
      rw [List.getElem?_append_left (by omega)] at z2
      obtain ⟨z3, z4⟩ := c.mem n b u z1 z2
      exact ⟨z3.keep ex rfl fun x => hx, z4⟩
    · have hn2 : n < (ma ++ [a]).length := (List.getElem?_eq_some_iff.mp z1).1
      have hn3 : n = ma.length := by simp at hn2; omega
      subst hn3
      simp at z1
      subst z1
      rw [hl] at z2
      simp at z2
      subst z2
      exact ⟨h.keep ex rfl fun x => hx, f.s, f.f⟩
  · rw [List.nodup_append]
    refine ⟨c.nd, by simp, fun x hm y hy => ?_⟩
    simp at hy
    subst hy
    exact fun z => f.m (by rw [← z]; exact hm)
/-- the heap around a call -/
def around (S H : Hp) (ma : List Addr) : Hp := fun b => if (S b).isSome = true ∨ b ∈ ma then none else H b
theorem around_some {b : Addr} {o : HO} (h : around S H ma b = some o) : S b = none ∧ b ∉ ma ∧ H b = some o := by
  unfold around at h
  split at h
  · cases h
  · rename_i z
    simp only [not_or] at z
    exact ⟨by simpa using z.1, z.2, h⟩
theorem around_of {b : Addr} {o : HO} (h1 : S b = none) (h2 : b ∉ ma) (h : H b = some o) : around S H ma b = some o := by
  unfold around
  rw [if_neg (by simp [h1, h2])]
  exact h
/-- what a callee finds -/
theorem Cf.toCall (c : Cf K F ma S H σ ds) {xs : List D} {vs : List V} (r : RepL K S ma xs vs) : Cf K (around S H ma) ma S H (vs.map some) ⟨xs.map .val, ds.mem⟩ where
  sub := c.sub
  fr := fun b o h => (around_some h).2.2
  dis := fun b o h => (around_some h).1
  len := by simp [r.length]
  val := fun i d e => by
    have e : (xs.map Slot.val)[i]? = some (.val d) := e
    rw [List.getElem?_map] at e
    cases q : xs[i]? with
    | none => rw [q] at e; cases e
    | some x =>
      rw [q] at e
      simp only [Option.map_some, Option.some.injEq, Slot.val.injEq] at e
      subst e
      obtain ⟨v, h1, h2⟩ := r.get q
      exact ⟨v, by rw [List.getElem?_map, h1]; rfl, h2⟩
  own := fun i s o e h => by
    have e : (xs.map Slot.val)[i]? = some s := e
    rw [List.getElem?_map] at e
    cases q : xs[i]? with
    | none => rw [q] at e; cases e
    | some x => rw [q] at e; cases e; cases h
  apart := fun i j s u p e _ h => by
    have e : (xs.map Slot.val)[i]? = some s := e
    rw [List.getElem?_map] at e
    cases q : xs[i]? with
    | none => rw [q] at e; cases e
    | some x => rw [q] at e; cases e; cases h
  mlen := c.mlen
  mem := fun n a o e1 e2 => by
    obtain ⟨z1, z2, z3⟩ := c.mem n a o e1 e2
    refine ⟨z1, z2, ?_⟩
    unfold around
    rw [if_pos (.inr (List.mem_of_getElem? e1))]
  nd := c.nd
/-- what is kept around a call is kept -/
theorem Cf.frCall (c : Cf K F ma S H σ ds) {ma' : List Addr} {S' H' : Hp} {σ' : L2.St} {ds' : DS} (q : Cf K (around S H ma) ma' S' H' σ' ds') {b : Addr} {o : HO} (h1 : S b = none) (h2 : b ∉ ma) (h : H b = some o) : H' b = some o ∧ S' b = none ∧ b ∉ ma' := by
  have za := around_of h1 h2 h
  exact ⟨q.fr b o za, q.dis b o za, fun z => by rw [(q.mfree z).2.1] at za; cases za⟩
theorem Cf.frF (c : Cf K F ma S H σ ds) {b : Addr} {o : HO} (h : F b = some o) : S b = none ∧ b ∉ ma ∧ H b = some o :=
  ⟨c.dis b o h, (fun z => by have := (c.mfree z).2.1; rw [h] at this; cases this), c.fr b o h⟩
/-- behind the call -/
theorem Cf.ofCall (c : Cf K F ma S H σ ds) {ma' : List Addr} {S' H' : Hp} {σ' : L2.St} {ds' : DS} (e : Ext ma S ma' S') (q : Cf K (around S H ma) ma' S' H' σ' ds') : Cf K F ma' S' H' σ { ds with mem := ds'.mem } where
  sub := q.sub
  fr := fun b o h => by
    obtain ⟨z1, z2, z3⟩ := c.frF h
    exact (c.frCall q z1 z2 z3).1
  dis := fun b o h => by
    obtain ⟨z1, z2, z3⟩ := c.frF h
    exact (c.frCall q z1 z2 z3).2.1
  len := c.len
  val := fun i d h => by
    obtain ⟨v, h1, h2⟩ := c.val i d h
    exact ⟨v, h1, h2.mono e⟩
  own := fun i s o h1 h2 => by
    obtain ⟨p, z1, z2, z3, z4, z5⟩ := c.own i s o h1 h2
    obtain ⟨u, hu, _⟩ := z2.head
    obtain ⟨y1, y2, y3⟩ := c.frCall q z3 z5 hu
    exact ⟨p, z1, z2.keep e (y1.trans hu.symm) fun x x1 x2 x3 => c.frCall q x2 x3 x1, y2, z4, y3⟩
  apart := c.apart
  mlen := q.mlen
  mem := fun n a o h1 h2 => by
    obtain ⟨z1, z2, z3⟩ := q.mem n a o h1 h2
    refine ⟨z1, z2, ?_⟩
    cases hF : F a with
    | none => rfl
    | some u =>
      obtain ⟨y1, y2, y3⟩ := c.frF hF
      obtain ⟨_, _, y4⟩ := c.frCall q y1 y2 y3
      exact absurd (List.mem_of_getElem? h1) y4
  nd := q.nd
end
end Vl
namespace Vl
open PySem PySem.Spec PyProof.Rows L2

/-! ### contexts -/
/-- what the whole program shares; exc: the classes of errors by their names -/
structure Bs where
  P : Program
  w : World
  K : PySem.W.Frag
  mg : Str → Option Value
  base : Heap
  exc : String → Value
abbrev Bs.kw (B : Bs) : KW := ⟨B.K, B.w, B.mg⟩
structure SC where
  B : Bs
  N : List Str
  sc : Scope
  k : Nat
  calm : Bool
  isdef : Bool
  fnc : Str → Bool
structure Ok (c : SC) (X : Cx) (W : WX) : Prop where
  eq : ∃ exc k isdef fnc, c = ⟨⟨X.prog, X.w, X.K, X.mg, X.base, exc⟩, X.N, X.env.scope, k, X.calm, isdef, fnc⟩
  room : c.calm = true → Room c.k X.A
  nd : c.N.Nodup
  fn : ∀ x, c.fnc x = true → X.fn x = true
  tk : Takes X W
  own : PassesOwn (model X.prog X.w) X.A X.env X.xe
  dfn : c.isdef = true → X.stack = X.env :: X.outer ∧ X.env.frame = some X.env.locals

/-! ### what a computation's outcome wants -/
abbrev RpT (α β : Type) := Hp → List Addr → Hp → Hp → L2.St → DS → α → β → Prop
def Res {α β : Type} (B : Bs) (W : WX) (F : Hp) (Rp : RpT α β) (σ : L2.St) (ma : List Addr) (S : Hp) (r : R α) (Q : β → Hp → Prop) : Prop :=
  match r with
  | .ok a ds => ∀ ma' S' H' b, Ext ma S ma' S' → Cf B.kw F ma' S' H' σ ds → Rp F ma' S' H' σ ds a b → Q b H'
  | .err e ds => ∀ ma' S' H', Ext ma S ma' S' → Cf B.kw F ma' S' H' σ ds → W (B.exc e) none σ H'
  | .stuck => False
theorem Res.later {α β : Type} {B : Bs} {W : WX} {F : Hp} {Rp : RpT α β} {σ : L2.St} {ma ma1 : List Addr} {S S1 : Hp} {r : R α} {Q : β → Hp → Prop} (h : Res B W F Rp σ ma S r Q) (e : Ext ma S ma1 S1) : Res B W F Rp σ ma1 S1 r Q := by
  cases r with
  | ok a ds => exact fun ma' S' H' b x => h ma' S' H' b (e.trans x)
  | err c ds => exact fun ma' S' H' x => h ma' S' H' (e.trans x)
  | stuck => exact h
theorem Res.bind {α β γ δ : Type} {B : Bs} {W : WX} {F : Hp} {Rp : RpT α β} {Rp2 : RpT γ δ} {σ : L2.St} {ma : List Addr} {S : Hp} {r : R α} {g : α → DS → R γ} {Q : δ → Hp → Prop} {Q1 : β → Hp → Prop} (h : Res B W F Rp2 σ ma S (r.bind g) Q)
    (k : ∀ a ds ma1 S1 H1 b, Ext ma S ma1 S1 → Cf B.kw F ma1 S1 H1 σ ds → Rp F ma1 S1 H1 σ ds a b → Res B W F Rp2 σ ma1 S1 (g a ds) Q → Q1 b H1) : Res B W F Rp σ ma S r Q1 := by
  cases r with
  | ok a ds => exact fun ma' S' H' b x cf rp => k a ds ma' S' H' b x cf rp (Res.later h x)
  | err c ds => exact h
  | stuck => exact h
abbrev RpV (K : KW) : RpT D V := fun _ ma S _ _ _ d v => Rep K S ma d v
abbrev RpL (K : KW) : RpT (List D) (List V) := fun _ ma S _ _ _ d v => RepL K S ma d v
abbrev RpB : RpT Bool Bool := fun _ _ _ _ _ _ a b => a = b
/-- a new list, known to nobody -/
abbrev RpF (K : KW) : RpT (List D) V := fun F ma S H σ ds xs v => ∃ p vs, v = .ref p ∧ H p = some (.lst vs) ∧ Fre F ma S σ ds.env p ∧ RepL K S ma xs vs

/-! ### judgements -/
structure VE (c : SC) (e : Expr) (f : M D) : Prop where
  run : ∀ X W, Ok c X W → ∃ t : TE, PE X e t ∧ ∀ F ma S H σ ds Q, Cf c.B.kw F ma S H σ ds → Res c.B W F (RpV c.B.kw) σ ma S (f ds) Q → t σ H Q
structure VF (c : SC) (e : Expr) (f : M (List D)) : Prop where
  run : ∀ X W, Ok c X W → ∃ t : TE, PE X e t ∧ ∀ F ma S H σ ds Q, Cf c.B.kw F ma S H σ ds → Res c.B W F (RpF c.B.kw) σ ma S (f ds) Q → t σ H Q
structure VT (c : SC) (e : Expr) (f : M Bool) : Prop where
  run : ∀ X W, Ok c X W → ∃ t : TT, PT X e t ∧ ∀ F ma S H σ ds Q, Cf c.B.kw F ma S H σ ds → Res c.B W F RpB σ ma S (f ds) Q → t σ H Q
structure VW (c : SC) (e : Expr) (f : M Bool) : Prop where
  run : ∀ X W, Ok c X W → ∃ t : TT, PW X e t ∧ ∀ F ma S H σ ds Q, Cf c.B.kw F ma S H σ ds → Res c.B W F RpB σ ma S (f ds) Q → t σ H Q
structure VA (c : SC) (es : List Expr) (f : M (List D)) : Prop where
  run : ∀ X W, Ok c X W → ∃ t : TA, PA X es t ∧ ∀ F ma S H σ ds Q, Cf c.B.kw F ma S H σ ds → Res c.B W F (RpL c.B.kw) σ ma S (f ds) Q → t σ H Q

/-- how a statement ends -/
inductive Out where
  | nx | bk | ct | rt (d : D)
def SRes (B : Bs) (W : WX) (F : Hp) (ma : List Addr) (S : Hp) (r : R Out) (E : Ends) : Prop :=
  match r with
  | .ok o ds => ∀ ma' S' H' σ', Ext ma S ma' S' → Cf B.kw F ma' S' H' σ' ds → match o with
    | .nx => E.nx σ' H'
    | .bk => E.bk σ' H'
    | .ct => E.ct σ' H'
    | .rt d => ∀ v, Rep B.kw S' ma' d v → E.rt v H'
  | .err e ds => ∀ ma' S' H' σ', Ext ma S ma' S' → Cf B.kw F ma' S' H' σ' ds → W (B.exc e) none σ' H'
  | .stuck => False
theorem SRes.later {B : Bs} {W : WX} {F : Hp} {ma ma1 : List Addr} {S S1 : Hp} {r : R Out} {E : Ends} (h : SRes B W F ma S r E) (e : Ext ma S ma1 S1) : SRes B W F ma1 S1 r E := by
  cases r with
  | ok a ds => exact fun ma' S' H' σ' x => h ma' S' H' σ' (e.trans x)
  | err c ds => exact fun ma' S' H' σ' x => h ma' S' H' σ' (e.trans x)
  | stuck => exact h
/-- from an expression into a statement -/
theorem SRes.bind {α β : Type} {B : Bs} {W : WX} {F : Hp} {Rp : RpT α β} {σ : L2.St} {ma : List Addr} {S : Hp} {r : R α} {g : α → DS → R Out} {E : Ends} {Q1 : β → Hp → Prop} (h : SRes B W F ma S (r.bind g) E)
    (k : ∀ a ds ma1 S1 H1 b, Ext ma S ma1 S1 → Cf B.kw F ma1 S1 H1 σ ds → Rp F ma1 S1 H1 σ ds a b → SRes B W F ma1 S1 (g a ds) E → Q1 b H1) : Res B W F Rp σ ma S r Q1 := by
  cases r with
  | ok a ds => exact fun ma' S' H' b x cf rp => k a ds ma' S' H' b x cf rp (SRes.later h x)
  | err c ds => exact fun ma' S' H' x cf => h ma' S' H' σ x cf
  | stuck => exact h
structure VS (c : SC) (st : Stmt) (f : M Out) : Prop where
  run : ∀ X W, Ok c X W → ∃ t : TS, PS X st t ∧ ∀ F ma S H σ ds E, Cf c.B.kw F ma S H σ ds → SRes c.B W F ma S (f ds) E → t E σ H
structure VB (c : SC) (st : List Stmt) (f : M Out) : Prop where
  run : ∀ X W, Ok c X W → ∃ t : TS, PSs X st t ∧ ∀ F ma S H σ ds E, Cf c.B.kw F ma S H σ ds → SRes c.B W F ma S (f ds) E → t E σ H
/-- a target that a value goes to -/
def GRes (B : Bs) (W : WX) (F : Hp) (ma : List Addr) (S : Hp) (r : R Unit) (Q : L2.St → Hp → Prop) : Prop :=
  match r with
  | .ok _ ds => ∀ ma' S' H' σ', Ext ma S ma' S' → Cf B.kw F ma' S' H' σ' ds → Q σ' H'
  | .err e ds => ∀ ma' S' H' σ', Ext ma S ma' S' → Cf B.kw F ma' S' H' σ' ds → W (B.exc e) none σ' H'
  | .stuck => False
structure VG (c : SC) (tg : Expr) (f : D → M Unit) : Prop where
  run : ∀ X W, Ok c X W → ∃ t : TG, PG X tg t ∧ ∀ F ma S H σ ds d v Q, Cf c.B.kw F ma S H σ ds → Rep c.B.kw S ma d v → GRes c.B W F ma S (f d ds) Q → t v σ H Q
structure VGs (c : SC) (tg : List Expr) (f : List D → M Unit) : Prop where
  run : ∀ X W, Ok c X W → ∃ t : TGs, PGs X tg t ∧ ∀ F ma S H σ ds d v Q, Cf c.B.kw F ma S H σ ds → RepL c.B.kw S ma d v → GRes c.B W F ma S (f d ds) Q → t v σ H Q
theorem GRes.later {B : Bs} {W : WX} {F : Hp} {ma ma1 : List Addr} {S S1 : Hp} {r : R Unit} {Q : L2.St → Hp → Prop} (h : GRes B W F ma S r Q) (e : Ext ma S ma1 S1) : GRes B W F ma1 S1 r Q := by
  cases r with
  | ok a ds => exact fun ma' S' H' σ' x => h ma' S' H' σ' (e.trans x)
  | err c ds => exact fun ma' S' H' σ' x => h ma' S' H' σ' (e.trans x)
  | stuck => exact h
theorem GRes.bind {B : Bs} {W : WX} {F : Hp} {ma : List Addr} {S : Hp} {r : R Unit} {g : Unit → DS → R Unit} {Q Q1 : L2.St → Hp → Prop} (h : GRes B W F ma S (r.bind g) Q)
    (k : ∀ a ds ma1 S1 H1 σ1, Ext ma S ma1 S1 → Cf B.kw F ma1 S1 H1 σ1 ds → GRes B W F ma1 S1 (g a ds) Q → Q1 σ1 H1) : GRes B W F ma S r Q1 := by
  cases r with
  | ok a ds => exact fun ma' S' H' σ' x cf => k a ds ma' S' H' σ' x cf (GRes.later h x)
  | err c ds => exact h
  | stuck => exact h
theorem SRes.bindG {B : Bs} {W : WX} {F : Hp} {ma : List Addr} {S : Hp} {r : R Unit} {g : Unit → DS → R Out} {E : Ends} {Q1 : L2.St → Hp → Prop} (h : SRes B W F ma S (r.bind g) E)
    (k : ∀ a ds ma1 S1 H1 σ1, Ext ma S ma1 S1 → Cf B.kw F ma1 S1 H1 σ1 ds → SRes B W F ma1 S1 (g a ds) E → Q1 σ1 H1) : GRes B W F ma S r Q1 := by
  cases r with
  | ok a ds => exact fun ma' S' H' σ' x cf => k a ds ma' S' H' σ' x cf (SRes.later h x)
  | err c ds => exact h
  | stuck => exact h

/-! ### names and constants -/
def varM (i : Nat) : M D := fun s => match s.env[i]? with
  | some (.val d) => .ok d s
  | some .un => .stuck
  | some sl => .ok sl.shut { s with env := s.env.set i (.val sl.shut) }
  | none => .stuck
section
variable {c : SC} {pos p : Pos}
/-- a name, its object frozen where it is a table -/
theorem pe_varF {X : Cx} {i : Nat} {x : Str} {pos : Pos} (h : PE X (.Name x pos) (tVar i)) : PE X (.Name x pos) (fun σ H Q => tVar i σ H Q ∨ ∃ p u, σ[i]? = some (some (.ref p)) ∧ H p = some u ∧ Mut (some u) ∧ ∀ od, Q (.ref p) (upd H p (.frz od u))) := by
  refine ⟨fun pins s σ H Q I hw => ?_⟩
  rcases hw with hw | ⟨p, u, e1, e2, mu, q⟩
  · exact h.run pins s σ H Q I hw
  · refine thn (h.run pins s σ H (fun v H1 => v = .ref p ∧ H1 = H) I ⟨_, e1, rfl, rfl⟩) fun v s1 ⟨x, H1, I1, r, ex, eh⟩ => ?_
    subst ex eh
    obtain ⟨od, I2⟩ := I1.lock e2 mu
    exact ⟨.ref p, _, I2, r, q od⟩
theorem v_var (i : Nat) {x : Str} (hN : c.N[i]? = some x) (hv : Vis c.sc x) (hd : (x == ("__debug__" : Str)) = false := by decide) (hcd : (x == ("__classdict__" : Str)) = false := by decide) : VE c (.Name x pos) (varM i) := by
  refine ⟨fun X W ok => ?_⟩
  obtain ⟨exc, k, isdef, fnc, rfl⟩ := ok.eq
  refine ⟨_, pe_varF (i := i) (pe_var hN hv hd hcd), fun F ma S H σ ds Q cf h => ?_⟩
  unfold varM at h
  cases e : ds.env[i]? with
  | none => rw [e] at h; exact h.elim
  | some sl =>
    rw [e] at h
    cases sl with
    | un => exact h.elim
    | val d =>
      obtain ⟨v, e1, r⟩ := cf.val i d e
      exact .inl ⟨v, e1, h ma S H v Ext.refl cf r⟩
    | own xs =>
      obtain ⟨S', v, e1, r, cf', ex⟩ := cf.share e
      exact .inl ⟨v, e1, h ma S' H v ex cf' r⟩
    | ownK ks xs =>
      obtain ⟨p, e1, ⟨vs, e2, e3, e4⟩, go⟩ := cf.shareD e rfl
      refine .inr ⟨p, _, e1, e2, trivial, fun od => ?_⟩
      obtain ⟨S', ex, r, cf'⟩ := go (.frz od (.dK (ks.zip vs))) (.dK ks xs) (fun _ z => by cases z) fun S' ex hs => .dK hs (e4.trans e3.length) (e3.mono ex)
      exact h ma S' _ _ ex cf' r
    | ownT ks xs =>
      obtain ⟨p, e1, ⟨nks, bs, vs, e2, e3, e4, e5⟩, go⟩ := cf.shareD e rfl
      refine .inr ⟨p, _, e1, e2, trivial, fun od => ?_⟩
      obtain ⟨S', ex, r, cf'⟩ := go (.frz od (.ext (NTab X.w p nks bs vs))) (.dT ks xs) (fun _ z => by cases z) fun S' ex hs => .dT hs e3 (e4.mono ex) (e5.mono ex)
      exact h ma S' _ _ ex cf' r
theorem v_int {i : Int} {j : Nat} : VE c (.Constant (.int i) j pos) (rtn (.int i)) := by
  refine ⟨fun X W ok => ?_⟩
  obtain ⟨exc, k, isdef, fnc, rfl⟩ := ok.eq
  exact ⟨tC (.int i), pe_int, fun F ma S H σ ds Q cf h => h ma S H _ Ext.refl cf (.int i)⟩
theorem v_bl {b : Bool} {j : Nat} : VE c (.Constant (.bool b) j pos) (rtn (.bl b)) := by
  refine ⟨fun X W ok => ?_⟩
  obtain ⟨exc, k, isdef, fnc, rfl⟩ := ok.eq
  exact ⟨tC (.bl b), pe_bl, fun F ma S H σ ds Q cf h => h ma S H _ Ext.refl cf (.bl b)⟩
theorem v_non {j : Nat} : VE c (.Constant .none j pos) (rtn .non) := by
  refine ⟨fun X W ok => ?_⟩
  obtain ⟨exc, k, isdef, fnc, rfl⟩ := ok.eq
  exact ⟨tC .non, pe_non, fun F ma S H σ ds Q cf h => h ma S H _ Ext.refl cf .non⟩
theorem v_str {x : Str} {j : Nat} : VE c (.Constant (.str x) j pos) (rtn (.str x)) := by
  refine ⟨fun X W ok => ?_⟩
  obtain ⟨exc, k, isdef, fnc, rfl⟩ := ok.eq
  exact ⟨tC (.str x), pe_str, fun F ma S H σ ds Q cf h => h ma S H _ Ext.refl cf (.str x)⟩
def Glo (sc : Scope) (x : Str) : Prop := sc.names.lookup x = some .globalImplicit
/-- a module's constant -/
structure GConst (B : Bs) (x : Str) (d : D) : Prop where
  ex : ∃ u v, B.mg x = some u ∧ RelV v u ∧ ∀ S ma, Rep B.kw S ma d v
theorem v_glob {x : Str} {d : D} (g : GConst c.B x d) (hg : Glo c.sc x) (hd : (x == ("__debug__" : Str)) = false := by decide) : VE c (.Name x pos) (rtn d) := by
  refine ⟨fun X W ok => ?_⟩
  obtain ⟨exc, k, isdef, fnc, rfl⟩ := ok.eq
  obtain ⟨u, v, h1, h2, h3⟩ := g.ex
  exact ⟨tC v, pe_glob hg h1 h2 hd, fun F ma S H σ ds Q cf h => h ma S H _ Ext.refl cf (h3 _ _)⟩

/-! ### operators -/
/-- a two-place operation, by values -/
def OpV (c : SC) (f : Value → Value → Sem Value) (g : D → D → Option D) : Prop := ∀ X W, Ok c X W → ∃ r : R2, OpR X f r ∧ ∀ F ma S H σ ds a b x y Q, Cf c.B.kw F ma S H σ ds → Rep c.B.kw S ma a x → Rep c.B.kw S ma b y →
  Res c.B W F (RpV c.B.kw) σ ma S (opt (g a b) ds) Q → r x y H Q
def binM (g : D → D → Option D) (fa fb : M D) : M D := bnd fa fun x => bnd fb fun y => opt (g x y)
variable {a b e : Expr} {fa fb : M D} {g : D → D → Option D}
theorem bin_run {X : Cx} {W : WX} {B : Bs} {r : R2} {ta tb : TE} {f : Value → Value → Sem Value}
    (qa : ∀ F ma S H σ ds Q, Cf B.kw F ma S H σ ds → Res B W F (RpV B.kw) σ ma S (fa ds) Q → ta σ H Q) (qb : ∀ F ma S H σ ds Q, Cf B.kw F ma S H σ ds → Res B W F (RpV B.kw) σ ma S (fb ds) Q → tb σ H Q)
    (qr : ∀ F ma S H σ ds a b x y Q, Cf B.kw F ma S H σ ds → Rep B.kw S ma a x → Rep B.kw S ma b y → Res B W F (RpV B.kw) σ ma S (opt (g a b) ds) Q → r x y H Q) :
    ∀ F ma S H σ ds Q, Cf B.kw F ma S H σ ds → Res B W F (RpV B.kw) σ ma S (binM g fa fb ds) Q → tOp r ta tb σ H Q := by
  intro F ma S H σ ds Q cf h
  refine qa F ma S H σ ds _ cf (Res.bind h fun d1 ds1 ma1 S1 H1 x e1 c1 r1 h1 => ?_)
  refine qb F ma1 S1 H1 σ ds1 _ c1 (Res.bind h1 fun d2 ds2 ma2 S2 H2 y e2 c2 r2 h2 => ?_)
  exact qr F ma2 S2 H2 σ ds2 d1 d2 x y Q c2 (Rep.mono e2 r1) r2 h2
theorem v_op {op : Operator} (ho : OpV c (binaryOp op) g) (ha : VE c a fa) (hb : VE c b fb) : VE c (.BinOp a op b pos) (binM g fa fb) := by
  refine ⟨fun X W ok => ?_⟩
  obtain ⟨ta, pa, qa⟩ := ha.run X W ok
  obtain ⟨tb, pb, qb⟩ := hb.run X W ok
  obtain ⟨r, po, qo⟩ := ho X W ok
  exact ⟨tOp r ta tb, pe_op po pa pb, bin_run (X := X) (f := binaryOp op) qa qb qo⟩
theorem v_cmp {op : CmpOp} (ho : OpV c (compareOp op) g) (ha : VE c a fa) (hb : VE c b fb) (hm : behindInMarks op b = false) : VE c (.Compare a [op] [b] pos) (binM g fa fb) := by
  refine ⟨fun X W ok => ?_⟩
  obtain ⟨ta, pa, qa⟩ := ha.run X W ok
  obtain ⟨tb, pb, qb⟩ := hb.run X W ok
  obtain ⟨r, po, qo⟩ := ho X W ok
  exact ⟨tOp r ta tb, pe_cmpR po pa pb hm, bin_run (X := X) (f := compareOp op) qa qb qo⟩
/-- a value that must be a bool -/
def asB : D → Option Bool
  | .bl b => some b
  | _ => none
def tstM (f : M D) : M Bool := bnd f fun d => opt (asB d)
theorem t_cmp {op : CmpOp} (ho : OpV c (compareOp op) g) (ha : VE c a fa) (hb : VE c b fb) (hm : behindInMarks op b = false) : VT c (.Compare a [op] [b] pos) (tstM (binM g fa fb)) := by
  refine ⟨fun X W ok => ?_⟩
  obtain ⟨ta, pa, qa⟩ := ha.run X W ok
  obtain ⟨tb, pb, qb⟩ := hb.run X W ok
  obtain ⟨r, po, qo⟩ := ho X W ok
  refine ⟨_, pt_cmpR po pa pb hm, fun F ma S H σ ds Q cf h => ?_⟩
  refine bin_run (X := X) (f := compareOp op) qa qb qo F ma S H σ ds _ cf (Res.bind h fun d ds1 ma1 S1 H1 x e1 c1 r1 h1 => ?_)
  cases r1 with
  | bl k => exact ⟨k, rfl, h1 ma1 S1 H1 k Ext.refl c1 rfl⟩
  | _ => exact (show False from h1).elim

/-! ### tests -/
theorem t_val (h : VE c e fa) (he : ∀ (env : Env) whole, isTrue e env whole = (do let v ← whole; standAt e.pos; holding [v] (truthy v)) := by intro _ _; rfl) : VT c e (tstM fa) := by
  refine ⟨fun X W ok => ?_⟩
  obtain ⟨ta, pa, qa⟩ := h.run X W ok
  refine ⟨_, pt_val pa (he X.env), fun F ma S H σ ds Q cf h => ?_⟩
  refine qa F ma S H σ ds _ cf (Res.bind h fun d ds1 ma1 S1 H1 x e1 c1 r1 h1 => ?_)
  cases r1 with
  | bl k => exact ⟨k, rfl, h1 ma1 S1 H1 k Ext.refl c1 rfl⟩
  | _ => exact (show False from h1).elim
/-- truth -/
def truD : D → Option Bool
  | .non => some false
  | .bl b => some b
  | .int i => some (i != 0)
  | .str z => if z.length ≤ 16777216 then some ((z.length : Int) != 0) else none
  | .lst xs => some (!xs.isEmpty)
  | .frl xs => some (!xs.isEmpty)
  | .tup xs => some (!xs.isEmpty)
  | .ktp xs => some (!xs.isEmpty)
  | _ => none
def truM (f : M D) : M Bool := bnd f fun d => opt (truD d)
theorem RepL.isEmpty {K : KW} {S : Hp} {ma : List Addr} {ds : List D} {vs : List V} (h : RepL K S ma ds vs) : ds.isEmpty = vs.isEmpty := by
  cases h <;> rfl
theorem t_tru (h : VE c e fa) (he : ∀ (env : Env) whole, isTrue e env whole = (do let v ← whole; standAt e.pos; holding [v] (truthy v)) := by intro _ _; rfl) : VT c e (truM fa) := by
  refine ⟨fun X W ok => ?_⟩
  obtain ⟨ta, pa, qa⟩ := h.run X W ok
  obtain ⟨exc, k, isdef, fnc, rfl⟩ := ok.eq
  refine ⟨_, pt_truth pa (he X.env), fun F ma S H σ ds Q cf h => ?_⟩
  refine qa F ma S H σ ds _ cf (Res.bind h fun d ds1 ma1 S1 H1 x e1 c1 r1 h1 => ?_)
  have fin : ∀ k, truD d = some k → Q k H1 := fun k e => by
    have h1 : Res _ W F RpB σ ma1 S1 (opt (truD d) ds1) Q := h1
    rw [e] at h1
    exact h1 ma1 S1 H1 k Ext.refl c1 rfl
  have sq : ∀ {a : Addr} {vs : List V}, S1 a = some (.lst vs) → SqL X.K H1 a vs := fun e => .inl (.inl (c1.sub _ _ e))
  cases r1 with
  | non => exact ⟨false, rfl, fin _ rfl⟩
  | bl b => exact ⟨b, rfl, fin _ rfl⟩
  | int i => exact ⟨_, rfl, fin _ rfl⟩
  | str z =>
    by_cases hz : z.length ≤ 16777216
    · exact ⟨_, ⟨by rw [sizeLine_eq]; exact hz, rfl⟩, fin _ (if_pos hz)⟩
    · have h1 : Res _ W F RpB σ ma1 S1 (opt (truD (.str z)) ds1) Q := h1
      have e : truD (.str z) = none := if_neg hz
      rw [e] at h1
      exact h1.elim
  | lst h2 h3 => exact ⟨_, .inl ⟨_, sq h2, rfl⟩, fin _ (by rw [← h3.isEmpty]; rfl)⟩
  | frl h2 h3 => exact ⟨_, .inl ⟨_, c1.sub.seq h2, rfl⟩, fin _ (by rw [← h3.isEmpty]; rfl)⟩
  | tup h2 h3 => exact ⟨_, .inr (.inl ⟨_, seqT c1.sub (tsq h2), rfl⟩), fin _ (by rw [← h3.isEmpty]; rfl)⟩
  | ktp h2 h3 => exact ⟨_, .inr (.inl ⟨_, seqT c1.sub h2, rfl⟩), fin _ (by rw [← h3.isEmpty]; rfl)⟩
  | _ => exact (show False from h1).elim
variable {ft fu : M Bool} {rest : List Expr}
def andM (f g : M Bool) : M Bool := bnd f fun k => if k = true then g else rtn false
def orM (f g : M Bool) : M Bool := bnd f fun k => if k = true then rtn true else g
def notM (f : M Bool) : M Bool := bnd f fun k => rtn (!k)
theorem w_and1 (h : VT c a ft) : VW c (.BoolOp .And [a] pos) ft := by
  refine ⟨fun X W ok => ?_⟩
  obtain ⟨t, p, q⟩ := h.run X W ok
  exact ⟨t, pw_and1 p, q⟩
theorem w_or1 (h : VT c a ft) : VW c (.BoolOp .Or [a] pos) ft := by
  refine ⟨fun X W ok => ?_⟩
  obtain ⟨t, p, q⟩ := h.run X W ok
  exact ⟨t, pw_or1 p, q⟩
theorem w_and (h : VT c a ft) (h' : VW c (.BoolOp .And (b :: rest) pos) fu) : VW c (.BoolOp .And (a :: b :: rest) pos) (andM ft fu) := by
  refine ⟨fun X W ok => ?_⟩
  obtain ⟨t, p, q⟩ := h.run X W ok
  obtain ⟨t', p', q'⟩ := h'.run X W ok
  refine ⟨_, pw_and p p', fun F ma S H σ ds Q cf h => ?_⟩
  refine q F ma S H σ ds _ cf (Res.bind h fun d ds1 ma1 S1 H1 x e1 c1 r1 h1 => ?_)
  subst r1
  cases d with
  | true => rw [if_pos rfl]; exact q' F ma1 S1 H1 σ ds1 Q c1 h1
  | false => rw [if_neg Bool.false_ne_true]; exact h1 ma1 S1 H1 false Ext.refl c1 rfl
theorem w_or (h : VT c a ft) (h' : VW c (.BoolOp .Or (b :: rest) pos) fu) : VW c (.BoolOp .Or (a :: b :: rest) pos) (orM ft fu) := by
  refine ⟨fun X W ok => ?_⟩
  obtain ⟨t, p, q⟩ := h.run X W ok
  obtain ⟨t', p', q'⟩ := h'.run X W ok
  refine ⟨_, pw_or p p', fun F ma S H σ ds Q cf h => ?_⟩
  refine q F ma S H σ ds _ cf (Res.bind h fun d ds1 ma1 S1 H1 x e1 c1 r1 h1 => ?_)
  subst r1
  cases d with
  | true => rw [if_pos rfl]; exact h1 ma1 S1 H1 true Ext.refl c1 rfl
  | false => rw [if_neg Bool.false_ne_true]; exact q' F ma1 S1 H1 σ ds1 Q c1 h1
theorem t_w (h : VW c a ft) : VT c a ft := by
  refine ⟨fun X W ok => ?_⟩
  obtain ⟨t, p, q⟩ := h.run X W ok
  exact ⟨t, p.pt, q⟩
theorem t_not (h : VT c a ft) : VT c (.UnaryOp .Not a pos) (notM ft) := by
  refine ⟨fun X W ok => ?_⟩
  obtain ⟨t, p, q⟩ := h.run X W ok
  refine ⟨_, pt_not p, fun F ma S H σ ds Q cf h => ?_⟩
  refine q F ma S H σ ds _ cf (Res.bind h fun d ds1 ma1 S1 H1 x e1 c1 r1 h1 => ?_)
  subst r1
  exact h1 ma1 S1 H1 _ Ext.refl c1 rfl
/-! and, or, not as values; all but the last one bools -/
def andV (f g : M D) : M D := bnd f fun d => bnd (opt (asB d)) fun k => if k = true then g else rtn (.bl false)
def orV (f g : M D) : M D := bnd f fun d => bnd (opt (asB d)) fun k => if k = true then rtn (.bl true) else g
def notV (f : M D) : M D := bnd f fun d => bnd (opt (asB d)) fun k => rtn (.bl (!k))
theorem v_one {op} (h : VE c a fa) : VE c (.BoolOp op [a] pos) fa := by
  refine ⟨fun X W ok => ?_⟩
  obtain ⟨t, p, q⟩ := h.run X W ok
  exact ⟨t, pe_one p, q⟩
theorem v_and (h : VE c a fa) (h' : VE c (.BoolOp .And (b :: rest) pos) fb) : VE c (.BoolOp .And (a :: b :: rest) pos) (andV fa fb) := by
  refine ⟨fun X W ok => ?_⟩
  obtain ⟨t, p, q⟩ := h.run X W ok
  obtain ⟨t', p', q'⟩ := h'.run X W ok
  refine ⟨_, pe_and p p', fun F ma S H σ ds Q cf h => ?_⟩
  refine q F ma S H σ ds _ cf (Res.bind h fun d ds1 ma1 S1 H1 x e1 c1 r1 h1 => ?_)
  cases r1 with
  | bl k =>
    refine ⟨k, rfl, ?_⟩
    cases k with
    | true => rw [if_pos rfl]; exact q' F ma1 S1 H1 σ ds1 Q c1 h1
    | false => rw [if_neg Bool.false_ne_true]; exact h1 ma1 S1 H1 _ Ext.refl c1 (.bl false)
  | _ => exact (show False from h1).elim
theorem v_or (h : VE c a fa) (h' : VE c (.BoolOp .Or (b :: rest) pos) fb) : VE c (.BoolOp .Or (a :: b :: rest) pos) (orV fa fb) := by
  refine ⟨fun X W ok => ?_⟩
  obtain ⟨t, p, q⟩ := h.run X W ok
  obtain ⟨t', p', q'⟩ := h'.run X W ok
  refine ⟨_, pe_or p p', fun F ma S H σ ds Q cf h => ?_⟩
  refine q F ma S H σ ds _ cf (Res.bind h fun d ds1 ma1 S1 H1 x e1 c1 r1 h1 => ?_)
  cases r1 with
  | bl k =>
    refine ⟨k, rfl, ?_⟩
    cases k with
    | true => rw [if_pos rfl]; exact h1 ma1 S1 H1 _ Ext.refl c1 (.bl true)
    | false => rw [if_neg Bool.false_ne_true]; exact q' F ma1 S1 H1 σ ds1 Q c1 h1
  | _ => exact (show False from h1).elim
theorem v_not (h : VE c a fa) : VE c (.UnaryOp .Not a pos) (notV fa) := by
  refine ⟨fun X W ok => ?_⟩
  obtain ⟨t, p, q⟩ := h.run X W ok
  refine ⟨_, pe_not p, fun F ma S H σ ds Q cf h => ?_⟩
  refine q F ma S H σ ds _ cf (Res.bind h fun d ds1 ma1 S1 H1 x e1 c1 r1 h1 => ?_)
  cases r1 with
  | bl k => exact ⟨k, rfl, h1 ma1 S1 H1 _ Ext.refl c1 (.bl _)⟩
  | _ => exact (show False from h1).elim
def iteM {α : Type} (t : M Bool) (f g : M α) : M α := bnd t fun k => if k = true then f else g
theorem v_ifexp {t : Expr} (ht : VT c t ft) (ha : VE c a fa) (hb : VE c b fb) : VE c (.IfExp t a b pos) (iteM ft fa fb) := by
  refine ⟨fun X W ok => ?_⟩
  obtain ⟨tt, pt, qt⟩ := ht.run X W ok
  obtain ⟨ta, pa, qa⟩ := ha.run X W ok
  obtain ⟨tb, pb, qb⟩ := hb.run X W ok
  refine ⟨_, pe_ifExp pt pa pb, fun F ma S H σ ds Q cf h => ?_⟩
  refine qt F ma S H σ ds _ cf (Res.bind h fun d ds1 ma1 S1 H1 x e1 c1 r1 h1 => ?_)
  subst r1
  cases d with
  | true => rw [if_pos rfl]; exact qa F ma1 S1 H1 σ ds1 Q c1 h1
  | false => rw [if_neg Bool.false_ne_true]; exact qb F ma1 S1 H1 σ ds1 Q c1 h1

/-! ### argument lists, displays -/
variable {es : List Expr} {fs : M (List D)}
def consM (f : M D) (g : M (List D)) : M (List D) := bnd f fun d => bnd g fun ds => rtn (d :: ds)
theorem a_nil : VA c [] (rtn []) := by
  refine ⟨fun X W ok => ?_⟩
  obtain ⟨exc, k, isdef, fnc, rfl⟩ := ok.eq
  exact ⟨tNil, pa_nil, fun F ma S H σ ds Q cf h => h ma S H _ Ext.refl cf .nil⟩
theorem a_cons (ha : VE c e fa) (hr : VA c es fs) (hs : ∀ env : Env, starEach (e :: es) env = (false, eval e env) :: starEach es env := by intro _; rfl) : VA c (e :: es) (consM fa fs) := by
  refine ⟨fun X W ok => ?_⟩
  obtain ⟨ta, pa, qa⟩ := ha.run X W ok
  obtain ⟨tr, pr, qr⟩ := hr.run X W ok
  refine ⟨_, pa_cons pa pr (hs X.env), fun F ma S H σ ds Q cf h => ?_⟩
  refine qa F ma S H σ ds _ cf (Res.bind h fun d ds1 ma1 S1 H1 x e1 c1 r1 h1 => ?_)
  refine qr F ma1 S1 H1 σ ds1 _ c1 (Res.bind h1 fun d2 ds2 ma2 S2 H2 y e2 c2 r2 h2 => ?_)
  exact h2 ma2 S2 H2 _ Ext.refl c2 (.cons (Rep.mono e2 r1) r2)
def tupM (f : M (List D)) : M D := bnd f fun ds => if ds.length ≤ 1000 then rtn (.tup ds) else fun _ => .stuck
theorem le1000 {n : Nat} (h : n ≤ 1000) : n ≤ sizeLine := Nat.le_trans h (by decide)
theorem v_tup {x1} (h : VA c es fs) : VE c (.Tuple es x1 pos) (tupM fs) := by
  refine ⟨fun X W ok => ?_⟩
  obtain ⟨t, p, q⟩ := h.run X W ok
  refine ⟨_, pe_tup p, fun F ma S H σ ds Q cf h => ?_⟩
  refine q F ma S H σ ds _ cf (Res.bind h fun d ds1 ma1 S1 H1 x e1 c1 r1 h1 => ?_)
  have h1 : Res _ W F (RpV c.B.kw) σ ma1 S1 ((if d.length ≤ 1000 then rtn (D.tup d) else fun _ => .stuck) ds1) Q := h1
  by_cases hz : d.length ≤ 1000
  · rw [if_pos hz] at h1
    refine ⟨by rw [← r1.length]; exact le1000 hz, fun p hp => ?_⟩
    obtain ⟨c2, ex⟩ := c1.lay (.tup x) hp
    exact h1 ma1 _ _ _ ex c2 (.tup upd_same (r1.mono ex))
  · rw [if_neg hz] at h1; exact h1.elim
def lstM (f : M (List D)) : M (List D) := bnd f fun ds => if ds.length ≤ 1000 then rtn ds else fun _ => .stuck
theorem f_lst (h : VA c es fs) : VF c (.List es pos) (lstM fs) := by
  refine ⟨fun X W ok => ?_⟩
  obtain ⟨t, p, q⟩ := h.run X W ok
  refine ⟨_, pe_lst p, fun F ma S H σ ds Q cf h => ?_⟩
  refine q F ma S H σ ds _ cf (Res.bind h fun d ds1 ma1 S1 H1 x e1 c1 r1 h1 => ?_)
  have h1 : Res _ W F (RpF c.B.kw) σ ma1 S1 ((if d.length ≤ 1000 then rtn d else fun _ => .stuck) ds1) Q := h1
  by_cases hz : d.length ≤ 1000
  · rw [if_pos hz] at h1
    refine ⟨by rw [← r1.length]; exact le1000 hz, fun p hp => ?_⟩
    have c2 := c1.grow (.lst x) hp
    exact h1 ma1 _ _ _ Ext.refl c2 ⟨p, x, rfl, upd_same, c1.fre hp, r1⟩
  · rw [if_neg hz] at h1; exact h1.elim
/-- a new list as a value -/
def shutM (f : M (List D)) : M D := bnd f fun ds => rtn (.lst ds)
theorem v_f (h : VF c e fs) : VE c e (shutM fs) := by
  refine ⟨fun X W ok => ?_⟩
  obtain ⟨t, p, q⟩ := h.run X W ok
  refine ⟨t, p, fun F ma S H σ ds Q cf h => ?_⟩
  refine q F ma S H σ ds _ cf (Res.bind h fun d ds1 ma1 S1 H1 x e1 c1 r1 h1 => ?_)
  obtain ⟨p, vs, rfl, hp, fr, r⟩ := r1
  obtain ⟨c2, ex⟩ := c1.adopt hp fr
  exact h1 ma1 _ _ _ ex c2 (.lst upd_same (r.mono ex))
end
end Vl
namespace Vl
open PySem PySem.Spec PyProof.Rows L2

/-! ### targets. is: the places that a target touches -/
def Tch (is : List Nat) (σ σ' : L2.St) : Prop := σ'.length = σ.length ∧ ∀ j, j ∉ is → σ'[j]? = σ[j]?
theorem Tch.refl {is : List Nat} {σ : L2.St} : Tch is σ σ := ⟨rfl, fun _ _ => rfl⟩
def TRes (B : Bs) (W : WX) (F : Hp) (is : List Nat) (σ : L2.St) (ma : List Addr) (S : Hp) (r : R Unit) (Q : L2.St → Hp → Prop) : Prop :=
  match r with
  | .ok _ ds => ∀ ma' S' H' σ', Ext ma S ma' S' → Cf B.kw F ma' S' H' σ' ds → Tch is σ σ' → Q σ' H'
  | .err e ds => ∀ ma' S' H' σ', Ext ma S ma' S' → Cf B.kw F ma' S' H' σ' ds → W (B.exc e) none σ' H'
  | .stuck => False
structure TG1 (c : SC) (tg : Expr) (is : List Nat) (f : D → M Unit) : Prop where
  run : ∀ X W, Ok c X W → ∃ t : TG, PG X tg t ∧ ∀ F ma S H σ ds d v Q, Cf c.B.kw F ma S H σ ds → Rep c.B.kw S ma d v → TRes c.B W F is σ ma S (f d ds) Q → t v σ H Q
structure TGn (c : SC) (tg : List Expr) (is : List Nat) (f : List D → M Unit) : Prop where
  run : ∀ X W, Ok c X W → ∃ t : TGs, PGs X tg t ∧ ∀ F ma S H σ ds d v Q, Cf c.B.kw F ma S H σ ds → RepL c.B.kw S ma d v → TRes c.B W F is σ ma S (f d ds) Q → t v σ H Q
theorem TRes.later {B : Bs} {W : WX} {F : Hp} {is : List Nat} {σ : L2.St} {ma ma1 : List Addr} {S S1 : Hp} {r : R Unit} {Q : L2.St → Hp → Prop} (h : TRes B W F is σ ma S r Q) (e : Ext ma S ma1 S1) : TRes B W F is σ ma1 S1 r Q := by
  cases r with
  | ok a ds => exact fun ma' S' H' σ' x => h ma' S' H' σ' (e.trans x)
  | err c ds => exact fun ma' S' H' σ' x => h ma' S' H' σ' (e.trans x)
  | stuck => exact h
theorem SRes.bindT {B : Bs} {W : WX} {F : Hp} {is : List Nat} {σ : L2.St} {ma : List Addr} {S : Hp} {r : R Unit} {g : Unit → DS → R Out} {E : Ends} {Q1 : L2.St → Hp → Prop} (h : SRes B W F ma S (r.bind g) E)
    (k : ∀ a ds ma1 S1 H1 σ1, Ext ma S ma1 S1 → Cf B.kw F ma1 S1 H1 σ1 ds → SRes B W F ma1 S1 (g a ds) E → Q1 σ1 H1) : TRes B W F is σ ma S r Q1 := by
  cases r with
  | ok a ds => exact fun ma' S' H' σ' x cf _ => k a ds ma' S' H' σ' x cf (SRes.later h x)
  | err c ds => exact h
  | stuck => exact h
def setM (i : Nat) (d : D) : M Unit := fun s => .ok () { s with env := s.env.set i (.val d) }
def setsM (f : D → M Unit) (g : List D → M Unit) : List D → M Unit
  | d :: r => bnd (f d) fun _ => g r
  | [] => fun _ => .stuck
def endM : List D → M Unit
  | [] => rtn ()
  | _ => fun _ => .stuck
def untupM (n : Nat) (f : List D → M Unit) : D → M Unit
  | .tup ds => if ds.length = n then f ds else fun _ => .stuck
  | .ktp ds => if ds.length = n then f ds else fun _ => .stuck
  | _ => fun _ => .stuck
section
variable {c : SC} {pos p : Pos}
theorem g_name (i : Nat) {x : Str} (hi : c.N[i]? = some x) (hx : Loc c.sc x) (hf : c.fnc x = true ∨ c.sc.names.lookup x = some .local) : TG1 c (.Name x pos) [i] (setM i) := by
  refine ⟨fun X W ok => ?_⟩
  have nd := ok.nd
  have hf' : X.fn x = true ∨ c.sc.names.lookup x = some .local := hf.imp (fun h => ok.fn x h) id
  obtain ⟨exc, k, isdef, fnc, rfl⟩ := ok.eq
  refine ⟨gName i, pg_name nd hi hx hf', fun F ma S H σ ds d v Q cf r h => ?_⟩
  exact h ma S H _ Ext.refl (cf.put r i) ⟨by simp, fun j hj => by
    have hj : i ≠ j := fun e => hj (by simp [e])
    rw [List.getElem?_set_ne hj]⟩
theorem gs_nil : TGn c [] [] endM := by
  refine ⟨fun X W ok => ?_⟩
  obtain ⟨exc, k, isdef, fnc, rfl⟩ := ok.eq
  refine ⟨gNil, pgs_nil, fun F ma S H σ ds d v Q cf r h => ?_⟩
  cases r with
  | nil => exact ⟨rfl, h ma S H σ Ext.refl cf Tch.refl⟩
  | cons _ _ => exact (show False from h).elim
theorem gs_cons {e : Expr} {es : List Expr} {is js : List Nat} {f : D → M Unit} {g : List D → M Unit} (h1 : TG1 c e is f) (h2 : TGn c es js g)
    (hs : ∀ env : Env, (assignEach (e :: es) env).map (·.2) = assign e env :: (assignEach es env).map (·.2) := by intro _; rfl) : TGn c (e :: es) (is ++ js) (setsM f g) := by
  refine ⟨fun X W ok => ?_⟩
  obtain ⟨t1, p1, q1⟩ := h1.run X W ok
  obtain ⟨t2, p2, q2⟩ := h2.run X W ok
  refine ⟨gCons t1 t2, pgs_cons p1 p2 (hs X.env), fun F ma S H σ ds d v Q cf r h => ?_⟩
  cases r with
  | nil => exact (show False from h).elim
  | @cons d v dr vr r1 r2 =>
    refine ⟨v, vr, rfl, q1 F ma S H σ ds d v _ cf r1 ?_⟩
    have h : TRes c.B W F (is ++ js) σ ma S ((f d ds).bind fun _ s => g dr s) Q := h
    revert h
    cases f d ds with
    | ok u ds1 =>
      intro h ma1 S1 H1 σ1 e1 c1 t1
      refine q2 F ma1 S1 H1 σ1 ds1 dr vr Q c1 (RepL.mono e1 r2) ?_
      have h : TRes c.B W F (is ++ js) σ ma S (g dr ds1) Q := h
      revert h
      cases g dr ds1 with
      | ok u2 ds2 =>
        intro h ma2 S2 H2 σ2 e2 c2 t2
        exact h ma2 S2 H2 σ2 (e1.trans e2) c2 ⟨t2.1.trans t1.1, fun j hj => (t2.2 j fun z => hj (List.mem_append_right _ z)).trans (t1.2 j fun z => hj (List.mem_append_left _ z))⟩
      | err ec ds2 => intro h ma2 S2 H2 σ2 e2 c2; exact h ma2 S2 H2 σ2 (e1.trans e2) c2
      | stuck => intro h; exact h
    | err ec ds1 => intro h; exact h
    | stuck => intro h; exact h
theorem g_tup {es : List Expr} {k : Nat} {is : List Nat} {f : List D → M Unit} (n : Nat) (hc : c.calm = true) (h : TGn c es is f)
    (hn : ∀ env : Env, (assignEach es env).length = n := by intro _; rfl) (hst : ∀ env : Env, (assignEach es env).findIdx? (·.1) = none := by intro _; rfl) : TG1 c (.Tuple es k pos) is (untupM n f) := by
  refine ⟨fun X W ok => ?_⟩
  obtain ⟨t, p, q⟩ := h.run X W ok
  obtain ⟨exc, k', isdef, fnc, rfl⟩ := ok.eq
  refine ⟨gTup X.K n t, pg_tup hc p (hn X.env) (hst X.env), fun F ma S H σ ds d v Q cf r h => ?_⟩
  cases r with
  | @tup a xs vs h1 h2 =>
    have h : TRes _ W F is σ ma S ((if xs.length = n then f xs else fun _ => .stuck) ds) Q := h
    by_cases hn : xs.length = n
    · rw [if_pos hn] at h
      exact ⟨a, vs, rfl, seqT cf.sub (tsq h1), by rw [← h2.length]; exact hn, q F ma S H σ ds xs vs Q cf h2 h⟩
    · rw [if_neg hn] at h; exact h.elim
  | @ktp a xs vs h1 h2 =>
    have h : TRes _ W F is σ ma S ((if xs.length = n then f xs else fun _ => .stuck) ds) Q := h
    by_cases hn : xs.length = n
    · rw [if_pos hn] at h
      exact ⟨a, vs, rfl, seqT cf.sub h1, by rw [← h2.length]; exact hn, q F ma S H σ ds xs vs Q cf h2 h⟩
    · rw [if_neg hn] at h; exact h.elim
  | _ => exact (show False from h).elim

/-! ### statements -/
variable {e : Expr} {fe : M D} {ff : M (List D)} {st : Stmt} {rest : List Stmt} {f g : M Out}
@[irreducible] def seqM (f g : M Out) : M Out := bnd f fun o => match o with
  | .nx => g
  | o => rtn o
theorem b_nil : VB c [] (rtn .nx) := by
  refine ⟨fun X W ok => ?_⟩
  obtain ⟨exc, k, isdef, fnc, rfl⟩ := ok.eq
  exact ⟨tNext, pss_nil, fun F ma S H σ ds E cf h => h ma S H σ Ext.refl cf⟩
/-- what a part wants so that the whole is well -/
theorem SRes.seq {B : Bs} {W : WX} {F : Hp} {ma : List Addr} {S : Hp} {r : R Out} {g : M Out} {E : Ends} {N : L2.St → Hp → Prop} (h : SRes B W F ma S (r.bind fun o s => (match o with | .nx => g | o => rtn o : M Out) s) E)
    (k : ∀ ds ma1 S1 H1 σ1, Ext ma S ma1 S1 → Cf B.kw F ma1 S1 H1 σ1 ds → SRes B W F ma1 S1 (g ds) E → N σ1 H1) : SRes B W F ma S r { E with nx := N } := by
  cases r with
  | ok o ds =>
    intro ma' S' H' σ' x cf
    cases o with
    | nx => exact k ds ma' S' H' σ' x cf (SRes.later h x)
    | bk => exact h ma' S' H' σ' x cf
    | ct => exact h ma' S' H' σ' x cf
    | rt d => exact h ma' S' H' σ' x cf
  | err c ds => exact h
  | stuck => exact h
theorem b_cons (h1 : VS c st f) (h2 : VB c rest g) : VB c (st :: rest) (seqM f g) := by
  refine ⟨fun X W ok => ?_⟩
  obtain ⟨t1, p1, q1⟩ := h1.run X W ok
  obtain ⟨t2, p2, q2⟩ := h2.run X W ok
  refine ⟨tSeq t1 t2, pss_cons p1 p2, fun F ma S H σ ds E cf h => ?_⟩
  exact q1 F ma S H σ ds _ cf (SRes.seq (by unfold seqM at h; exact h) fun ds1 ma1 S1 H1 σ1 x cf1 h1 => q2 F ma1 S1 H1 σ1 ds1 E cf1 h1)
theorem b_one (h1 : VS c st f) : VB c [st] f := by
  refine ⟨fun X W ok => ?_⟩
  obtain ⟨t1, p1, q1⟩ := h1.run X W ok
  exact ⟨t1, pss_one p1, q1⟩
theorem s_pass : VS c (.Pass pos) (rtn .nx) := by
  refine ⟨fun X W ok => ?_⟩
  exact ⟨tNext, ps_pass, fun F ma S H σ ds E cf h => h ma S H σ Ext.refl cf⟩
theorem s_break : VS c (.Break pos) (rtn .bk) := by
  refine ⟨fun X W ok => ?_⟩
  exact ⟨tBreak, ps_break, fun F ma S H σ ds E cf h => h ma S H σ Ext.refl cf⟩
theorem s_cont : VS c (.Continue pos) (rtn .ct) := by
  refine ⟨fun X W ok => ?_⟩
  exact ⟨tCont, ps_continue, fun F ma S H σ ds E cf h => h ma S H σ Ext.refl cf⟩
def retM (f : M D) : M Out := bnd f fun d => rtn (.rt d)
theorem s_ret (h : VE c e fe) : VS c (.Return (some e) pos) (retM fe) := by
  refine ⟨fun X W ok => ?_⟩
  obtain ⟨t, p, q⟩ := h.run X W ok
  refine ⟨tRet t, ps_ret p, fun F ma S H σ ds E cf h => ?_⟩
  exact q F ma S H σ ds _ cf (SRes.bind h fun d ds1 ma1 S1 H1 v x c1 r1 h1 => h1 ma1 S1 H1 σ Ext.refl c1 v r1)
theorem s_retN : VS c (.Return none pos) (rtn (.rt .non)) := by
  refine ⟨fun X W ok => ?_⟩
  exact ⟨tRetN, ps_retN, fun F ma S H σ ds E cf h => h ma S H σ Ext.refl cf .non .non⟩
def dropM (f : M D) : M Out := bnd f fun _ => rtn .nx
theorem s_expr (h : VE c e fe) (hs : ∀ env : Env, swapsWith e none pos.line env = pure false := by intro _; rfl) : VS c (.Expr e pos) (dropM fe) := by
  refine ⟨fun X W ok => ?_⟩
  obtain ⟨t, p, q⟩ := h.run X W ok
  refine ⟨tDrop t, ps_expr p (hs X.env), fun F ma S H σ ds E cf h => ?_⟩
  exact q F ma S H σ ds _ cf (SRes.bind h fun d ds1 ma1 S1 H1 v x c1 r1 h1 => h1 ma1 S1 H1 σ Ext.refl c1)
def ifM (t : M Bool) (f g : M Out) : M Out := bnd t fun k => if k = true then f else g
theorem s_if {t : Expr} {ft : M Bool} {a b : List Stmt} (ht : VT c t ft) (ha : VB c a f) (hb : VB c b g) : VS c (.If t a b pos) (ifM ft f g) := by
  refine ⟨fun X W ok => ?_⟩
  obtain ⟨tt, pt, qt⟩ := ht.run X W ok
  obtain ⟨ta, pa, qa⟩ := ha.run X W ok
  obtain ⟨tb, pb, qb⟩ := hb.run X W ok
  refine ⟨_, ps_if pt pa pb, fun F ma S H σ ds E cf h => ?_⟩
  refine qt F ma S H σ ds _ cf (SRes.bind h fun d ds1 ma1 S1 H1 v x c1 r1 h1 => ?_)
  subst r1
  cases d with
  | true => rw [if_pos rfl]; exact qa F ma1 S1 H1 σ ds1 E c1 h1
  | false => rw [if_neg Bool.false_ne_true]; exact qb F ma1 S1 H1 σ ds1 E c1 h1
/-- target = value -/
def asgM (fe : M D) (g : D → M Unit) : M Out := bnd fe fun d => bnd (g d) fun _ => rtn .nx
theorem SRes.asg {B : Bs} {W : WX} {F : Hp} {is : List Nat} {σ : L2.St} {ma : List Addr} {S : Hp} {r : R Unit} {E : Ends} (h : SRes B W F ma S (r.bind fun _ s => rtn Out.nx s) E) : TRes B W F is σ ma S r E.nx :=
  SRes.bindT h fun _ ds1 ma1 S1 H1 σ1 _ c1 h1 => h1 ma1 S1 H1 σ1 Ext.refl c1
theorem s_set (i : Nat) {x : Str} {pos' : Pos} (hi : c.N[i]? = some x) (hx : Loc c.sc x) (hf : c.fnc x = true ∨ c.sc.names.lookup x = some .local) (he : VE c e fe)
    (hs : ∀ env : Env, env.scope = c.sc → swapsWith e (some (.Name x pos')) pos.line env = pure false := by intro _ _; rfl) : VS c (.Assign [.Name x pos'] e pos) (asgM fe (setM i)) := by
  refine ⟨fun X W ok => ?_⟩
  obtain ⟨t, p, q⟩ := he.run X W ok
  have nd := ok.nd
  have hf' : X.fn x = true ∨ c.sc.names.lookup x = some .local := hf.imp (fun h => ok.fn x h) id
  obtain ⟨exc, k, isdef, fnc, rfl⟩ := ok.eq
  refine ⟨tAsg t (gName i), ps_set nd hi hx p (hs X.env rfl) hf', fun F ma S H σ ds E cf h => ?_⟩
  refine q F ma S H σ ds _ cf (SRes.bind h fun d ds1 ma1 S1 H1 v x c1 r1 h1 => ?_)
  exact h1 ma1 S1 H1 _ Ext.refl (c1.put r1 i)
/-- name = a new list, the name's own -/
def ownM (i : Nat) (ff : M (List D)) : M Out := bnd ff fun ds s => .ok .nx { s with env := s.env.set i (.own ds) }
theorem s_own (i : Nat) {x : Str} {pos' : Pos} (hi : c.N[i]? = some x) (hx : Loc c.sc x) (hf : c.fnc x = true ∨ c.sc.names.lookup x = some .local) (he : VF c e ff)
    (hs : ∀ env : Env, env.scope = c.sc → swapsWith e (some (.Name x pos')) pos.line env = pure false := by intro _ _; rfl) : VS c (.Assign [.Name x pos'] e pos) (ownM i ff) := by
  refine ⟨fun X W ok => ?_⟩
  obtain ⟨t, p, q⟩ := he.run X W ok
  have nd := ok.nd
  have hf' : X.fn x = true ∨ c.sc.names.lookup x = some .local := hf.imp (fun h => ok.fn x h) id
  obtain ⟨exc, k, isdef, fnc, rfl⟩ := ok.eq
  refine ⟨tAsg t (gName i), ps_set nd hi hx p (hs X.env rfl) hf', fun F ma S H σ ds E cf h => ?_⟩
  refine q F ma S H σ ds _ cf (SRes.bind h fun d ds1 ma1 S1 H1 v x c1 r1 h1 => ?_)
  obtain ⟨p, vs, rfl, hp, fr, r⟩ := r1
  exact h1 ma1 S1 H1 _ Ext.refl (c1.putOwn (s := .own d) rfl ⟨_, hp, r⟩ fr i)
/-- name = a new list, shared from now on -/
def memM (i : Nat) (ff : M (List D)) : M Out := bnd ff fun ds s => .ok .nx { env := s.env.set i (.val (.mut s.mem.length)), mem := s.mem ++ [.lst ds] }
theorem s_mem (i : Nat) {x : Str} {pos' : Pos} (hi : c.N[i]? = some x) (hx : Loc c.sc x) (hf : c.fnc x = true ∨ c.sc.names.lookup x = some .local) (he : VF c e ff)
    (hs : ∀ env : Env, env.scope = c.sc → swapsWith e (some (.Name x pos')) pos.line env = pure false := by intro _ _; rfl) : VS c (.Assign [.Name x pos'] e pos) (memM i ff) := by
  refine ⟨fun X W ok => ?_⟩
  obtain ⟨t, p, q⟩ := he.run X W ok
  have nd := ok.nd
  have hf' : X.fn x = true ∨ c.sc.names.lookup x = some .local := hf.imp (fun h => ok.fn x h) id
  obtain ⟨exc, k, isdef, fnc, rfl⟩ := ok.eq
  refine ⟨tAsg t (gName i), ps_set nd hi hx p (hs X.env rfl) hf', fun F ma S H σ ds E cf h => ?_⟩
  refine q F ma S H σ ds _ cf (SRes.bind h fun d ds1 ma1 S1 H1 v x c1 r1 h1 => ?_)
  obtain ⟨p, vs, rfl, hp, fr, r⟩ := r1
  obtain ⟨c2, ex⟩ := c1.memNew (o := .lst d) ⟨_, hp, r⟩ fr
  refine h1 (ma1 ++ [p]) S1 H1 _ ex (c2.put (.mut ?_) i)
  rw [← c1.mlen]
  simp
theorem s_asg {tg : Expr} {is : List Nat} {ft : D → M Unit} (he : VE c e fe) (hg : TG1 c tg is ft) (hs : ∀ env : Env, env.scope = c.sc → swapsWithSole [tg] e pos.line env = pure false := by intro _ _; rfl)
    (hw : ∀ env : Env, env.scope = c.sc → swappedStores [tg] e env = pure none := by intro _ _; rfl) (h1 : ∀ env : Env, (assignEach [tg] env).map (·.2) = [assign tg env] := by intro _; rfl) : VS c (.Assign [tg] e pos) (asgM fe ft) := by
  refine ⟨fun X W ok => ?_⟩
  obtain ⟨t, p, q⟩ := he.run X W ok
  obtain ⟨t', p', q'⟩ := hg.run X W ok
  obtain ⟨exc, k, isdef, fnc, rfl⟩ := ok.eq
  refine ⟨tAsg t t', ps_asg p p' (hs X.env rfl) (hw X.env rfl) (h1 X.env), fun F ma S H σ ds E cf h => ?_⟩
  refine q F ma S H σ ds _ cf (SRes.bind h fun d ds1 ma1 S1 H1 v x c1 r1 h1 => ?_)
  exact q' F ma1 S1 H1 σ ds1 d v _ c1 r1 (SRes.asg h1)
/-- a, b = x, y: plain local names -/
def parM (i j : Nat) (fs : M (List D)) : M Out := bnd fs fun ds => match ds with
  | [a, b] => bnd (setM i a) fun _ => bnd (setM j b) fun _ => rtn .nx
  | _ => fun _ => .stuck
theorem s_par (i j : Nat) {x y : Str} {a b : Expr} {fs : M (List D)} {px py pt : Pos} {kt k2 pt2} (hc : c.calm = true) (hi : c.N[i]? = some x) (hj : c.N[j]? = some y) (hij : i ≠ j)
    (hx : c.sc.names.lookup x = some .local) (hy : c.sc.names.lookup y = some .local) (ha : VA c [a, b] fs)
    (hw : ∀ env : Env, env.scope = c.sc → swappedStores [.Tuple [.Name x px, .Name y py] kt pt] (.Tuple [a, b] k2 pt2) env = pure (some [x, y]))
    (hs : ∀ env : Env, swapsWithSole [.Tuple [.Name x px, .Name y py] kt pt] (.Tuple [a, b] k2 pt2) pos.line env = pure false := by intro _; rfl) :
    VS c (.Assign [.Tuple [.Name x px, .Name y py] kt pt] (.Tuple [a, b] k2 pt2) pos) (parM i j fs) := by
  refine ⟨fun X W ok => ?_⟩
  obtain ⟨t, p, q⟩ := ha.run X W ok
  have nd := ok.nd
  obtain ⟨exc, k, isdef, fnc, rfl⟩ := ok.eq
  refine ⟨_, ps_par hc nd hi hj hij hx hy p (hw X.env rfl) (hs X.env), fun F ma S H σ ds E cf h => ?_⟩
  refine q F ma S H σ ds _ cf (SRes.bind h fun d ds1 ma1 S1 H1 v x c1 r1 h1 => ?_)
  cases r1 with
  | nil => exact (show False from h1).elim
  | cons a1 b1 =>
    cases b1 with
    | nil => exact (show False from h1).elim
    | cons a2 b2 =>
      cases b2 with
      | cons _ _ => exact (show False from h1).elim
      | nil => exact ⟨_, _, rfl, h1 ma1 S1 H1 _ Ext.refl ((c1.put a1 i).put a2 j)⟩

/-- a name's value, no list (table) of its own -/
def varA (i : Nat) : M D := fun s => match s.env[i]? with
  | some (.val d) => .ok d s
  | _ => .stuck
def augM (g : D → D → Option D) (i : Nat) (fe : M D) : M Out := bnd (varA i) fun x => bnd fe fun y => bnd (opt (g x y)) fun z => bnd (setM i z) fun _ => rtn .nx
theorem s_aug (i : Nat) {x : Str} {pos' : Pos} {op : Operator} {g : D → D → Option D} (hi : c.N[i]? = some x) (hx : Loc c.sc x) (hf : c.fnc x = true ∨ c.sc.names.lookup x = some .local) (he : VE c e fe) (ho : OpV c (inplaceOp op) g) :
    VS c (.AugAssign (.Name x pos') op e pos) (augM g i fe) := by
  refine ⟨fun X W ok => ?_⟩
  obtain ⟨t, p, q⟩ := he.run X W ok
  obtain ⟨r, po, qo⟩ := ho X W ok
  have nd := ok.nd
  have hf' : X.fn x = true ∨ c.sc.names.lookup x = some .local := hf.imp (fun h => ok.fn x h) id
  obtain ⟨exc, k, isdef, fnc, rfl⟩ := ok.eq
  refine ⟨tAug i t r, ps_aug nd hi hx p po hf', fun F ma S H σ ds E cf h => ?_⟩
  have key : ∀ (d : D) (v : V) (ds1 : DS) ma1 S1, σ[i]? = some (some v) → Ext ma S ma1 S1 → Cf _ F ma1 S1 H σ ds1 → Rep _ S1 ma1 d v →
      SRes _ W F ma1 S1 ((fe ds1).bind fun y s => bnd (opt (g d y)) (fun z => bnd (setM i z) fun _ => rtn .nx) s) E → tAug i t r E σ H := fun d v ds1 ma1 S1 e1 ex c1 r1 h1 => by
    refine ⟨v, e1, q F ma1 S1 H σ ds1 _ c1 (SRes.bind h1 fun d2 ds2 ma2 S2 H2 v2 x2 c2 r2 h2 => ?_)⟩
    refine qo F ma2 S2 H2 σ ds2 d d2 v v2 _ c2 (Rep.mono x2 r1) r2 (SRes.bind h2 fun d3 ds3 ma3 S3 H3 v3 x3 c3 r3 h3 => ?_)
    exact h3 ma3 S3 H3 _ Ext.refl (c3.put r3 i)
  have h : SRes _ W F ma S ((varA i ds).bind fun x s => bnd fe (fun y => bnd (opt (g x y)) fun z => bnd (setM i z) fun _ => rtn .nx) s) E := h
  unfold varA at h
  split at h
  · rename_i d e1
    obtain ⟨v, e2, r⟩ := cf.val i d e1
    exact key d v ds ma S e2 Ext.refl cf r h
  · exact h.elim

/-! ### what a loop walks -/
def ItOk (K : KW) (S : Hp) (ma : List Addr) (J : It) (items : List D) : Prop := ∃ (G : Hp → Prop) (Y : Nat → Hp → V → Hp → Prop), Walk J items.length G Y ∧ (∀ S1 H, Same S S1 → Same S1 H → G H) ∧
  ∀ i H x H', i < items.length → G H → Y i H x H' → ∃ d, items[i]? = some d ∧ ((H' = H ∧ ∀ S1 ma1, Ext ma S ma1 S1 → Rep K S1 ma1 d x) ∨ ∃ T ws, H T = none ∧ H' = upd H T (.tup ws) ∧ ∀ S1 ma1, Ext ma S ma1 S1 → S1 T = none → Rep K (upd S1 T (.tup ws)) ma1 d x)
theorem ItOk.step {K : KW} {S S1 : Hp} {ma ma1 : List Addr} {F H H' : Hp} {σ : L2.St} {ds : DS} {d : D} {x : V} (c1 : Cf K F ma1 S1 H σ ds) (ex : Ext ma S ma1 S1)
    (h : (H' = H ∧ ∀ S1 ma1, Ext ma S ma1 S1 → Rep K S1 ma1 d x) ∨ ∃ T ws, H T = none ∧ H' = upd H T (.tup ws) ∧ ∀ S1 ma1, Ext ma S ma1 S1 → S1 T = none → Rep K (upd S1 T (.tup ws)) ma1 d x) :
    ∃ S2, Cf K F ma1 S2 H' σ ds ∧ Ext ma1 S1 ma1 S2 ∧ Rep K S2 ma1 d x := by
  rcases h with ⟨rfl, h⟩ | ⟨T, o, hT, rfl, h⟩
  · exact ⟨S1, c1, Ext.refl, h S1 ma1 ex⟩
  · obtain ⟨c2, e2⟩ := c1.lay (.tup o) hT
    exact ⟨_, c2, e2, h S1 ma1 ex (c1.sub.free hT)⟩
abbrev RpI (K : KW) : RpT (List D) It := fun _ ma S _ _ _ ds J => ItOk K S ma J ds
structure VI (c : SC) (tg iter : Expr) (f : M (List D)) : Prop where
  run : ∀ X W, Ok c X W → ∃ t : TI, PI X tg iter t ∧ ∀ F ma S H σ ds Q, Cf c.B.kw F ma S H σ ds → Res c.B W F (RpI c.B.kw) σ ma S (f ds) Q → t σ H Q
/-- over a list, a tuple, a text -/
def rSeq (K : PySem.W.Frag) : V → Hp → (It → Hp → Prop) → Prop := fun v H R => (∃ a, v = .ref a ∧ (∃ xs, SqL K H a xs) ∧ R (Itl K a) H) ∨ (∃ a, v = .ref a ∧ (∃ xs, SqT K H a xs) ∧ R (Itt K a) H) ∨ ∃ z, v = .str z ∧ R (Its z) H
theorem itv_seq {X : Cx} {tg : Expr} {pins : List (Addr × Obj)} {σ : L2.St} {H : Hp} {s : Shared} {x : V} {v : Value} {R : It → Hp → Prop} (I : Inv X pins σ H s) (r : RelV x v) (q : rSeq X.K x H R) : wpAny (model X.prog X.w) X.A (pyIter v) (PIE X pins σ tg R) X.xe s := by
  rcases q with ⟨a, e, ⟨xs, hq⟩, q⟩ | ⟨a, e, ⟨xs, hq⟩, q⟩ | ⟨x, ex, q⟩
  · subst e
    cases r
    obtain ⟨its, rv, p, hz⟩ := I.list hq
    refine wpAny_pyIter_list p.isList ?_
    refine ⟨s.heap.objs.size, [s.heap.objs.size], _, _, H, rfl, I.kept (t' := s.toks) fun b o e => Heap.get?_push_of_some _ e, turn_list a _, ⟨_, Heap.get?_push_size _ rfl, rfl, rfl⟩, fun b hb => ?_, q⟩
    have e : b = s.heap.objs.size := by simpa using hb
    subst e
    exact I.fpOk (Nat.le_refl _) (I.hok.fresh (Nat.le_refl _))
  · subst e
    cases r
    obtain ⟨its, rv, p, hz⟩ := I.tuple hq
    refine wpAny_pyIter_tuple (show s.heap.IsTuple a its.toArray from p) ?_
    refine ⟨s.heap.objs.size, [s.heap.objs.size], _, _, H, rfl, I.kept (t' := s.toks) fun b o e => Heap.get?_push_of_some _ e, turn_tuple a _, ⟨_, Heap.get?_push_size _ rfl, rfl, rfl⟩, fun b hb => ?_, q⟩
    have e : b = s.heap.objs.size := by simpa using hb
    subst e
    exact I.fpOk (Nat.le_refl _) (I.hok.fresh (Nat.le_refl _))
  · subst ex
    obtain ⟨t, rfl⟩ := r
    cases ha : x.cps.all (· < 128)
    · exact wpAny_pyIter_wide ha (pi_one (tk := s.toks) I _ (turn_str _ x t "str_iterator" (.inr rfl)) ⟨_, Heap.get?_push_size _ rfl, rfl, rfl⟩ q)
    · exact wpAny_pyIter_ascii ha (pi_one (tk := s.toks) I _ (turn_str _ x t "str_ascii_iterator" (.inl rfl)) ⟨_, Heap.get?_push_size _ rfl, rfl, rfl⟩ q)
def iSeq (K : PySem.W.Frag) (te : TE) : TI := fun σ H R => te σ H fun v H1 => rSeq K v H1 R
theorem pi_seq {X : Cx} {tg l : Expr} {tl : TE} (hl : PE X l tl) : PI X tg l (iSeq X.K tl) :=
  ⟨fun pins s σ H R I h => thn (hl.run pins s σ H _ I h) fun v s1 ⟨x, H1, I1, r1, q1⟩ => itv_seq I1 r1 q1⟩
/-- one sign as a text -/
def sign (n : Nat) : D := .str ⟨#[n]⟩
def itemsD : D → Option (List D)
  | .lst xs => some xs
  | .frl xs => some xs
  | .tup xs => some xs
  | .ktp xs => some xs
  | .str z => some (z.cps.toList.map sign)
  | _ => none
def itM (f : M D) : M (List D) := bnd f fun d => opt (itemsD d)
theorem itOk_list {K : KW} {S : Hp} {ma : List Addr} {a : Addr} {vs : List V} {xs : List D} (h : SqL K S a vs) (r : RepL K S ma xs vs) : ItOk K S ma (Itl K a) xs := by
  refine ⟨fun H => SqL K H a vs, YAt vs, by rw [r.length]; exact walk_list, fun S1 H s1 s2 => s2.seq (s1.seq h), fun i H x H' hi g y => ?_⟩
  obtain ⟨d, h1, h2⟩ := r.get' y.2
  exact ⟨d, h1, .inl ⟨y.1, fun S1 ma1 e => h2.mono e⟩⟩
theorem itOk_tup {K : KW} {S : Hp} {ma : List Addr} {a : Addr} {vs : List V} {xs : List D} (h : SqT K S a vs) (r : RepL K S ma xs vs) : ItOk K S ma (Itt K a) xs := by
  refine ⟨fun H => SqT K H a vs, YAt vs, by rw [r.length]; exact walk_tup, fun S1 H s1 s2 => seqT s2 (seqT s1 h), fun i H x H' hi g y => ?_⟩
  obtain ⟨d, h1, h2⟩ := r.get' y.2
  exact ⟨d, h1, .inl ⟨y.1, fun S1 ma1 e => h2.mono e⟩⟩
theorem itOk_str {K : KW} {S : Hp} {ma : List Addr} {z : Str} : ItOk K S ma (Its z) (z.cps.toList.map sign) := by
  refine ⟨fun _ => True, _, by rw [List.length_map, Array.length_toList]; exact walk_str, fun _ _ _ _ => trivial, fun i H x H' hi g y => ?_⟩
  obtain ⟨e, k, h1, rfl⟩ := y
  refine ⟨sign k, ?_, .inl ⟨e, fun S1 ma1 _ => .str _⟩⟩
  rw [List.getElem?_map, Array.getElem?_toList, h1]
  rfl
theorem i_seq {tg : Expr} (he : VE c e fe) : VI c tg e (itM fe) := by
  refine ⟨fun X W ok => ?_⟩
  obtain ⟨t, p, q⟩ := he.run X W ok
  obtain ⟨exc, k, isdef, fnc, rfl⟩ := ok.eq
  refine ⟨iSeq X.K t, pi_seq p, fun F ma S H σ ds Q cf h => ?_⟩
  refine q F ma S H σ ds _ cf (Res.bind h fun d ds1 ma1 S1 H1 v x c1 r1 h1 => ?_)
  cases r1 with
  | lst h2 h3 => exact .inl ⟨_, rfl, ⟨_, .inl (.inl (c1.sub _ _ h2))⟩, h1 ma1 S1 H1 _ Ext.refl c1 (itOk_list (.inl (.inl h2)) h3)⟩
  | frl h2 h3 => exact .inl ⟨_, rfl, ⟨_, c1.sub.seq h2⟩, h1 ma1 S1 H1 _ Ext.refl c1 (itOk_list h2 h3)⟩
  | tup h2 h3 => exact .inr (.inl ⟨_, rfl, ⟨_, seqT c1.sub (tsq h2)⟩, h1 ma1 S1 H1 _ Ext.refl c1 (itOk_tup (tsq h2) h3)⟩)
  | ktp h2 h3 => exact .inr (.inl ⟨_, rfl, ⟨_, seqT c1.sub h2⟩, h1 ma1 S1 H1 _ Ext.refl c1 (itOk_tup h2 h3)⟩)
  | str z => exact .inr (.inr ⟨z, rfl, h1 ma1 S1 H1 _ Ext.refl c1 itOk_str⟩)
  | _ => exact (show False from h1).elim
def rngL (lo : Int) (n : Nat) : List D := (List.range n).map fun i => .int (lo + (i : Nat))
theorem itOk_rng {K : KW} {S : Hp} {ma : List Addr} {lo : Int} {n : Nat} : ItOk K S ma (Itr lo n) (rngL lo n) := by
  refine ⟨fun _ => True, _, by unfold rngL; rw [List.length_map, List.length_range]; exact walk_range, fun _ _ _ _ => trivial, fun i H x H' hi g y => ?_⟩
  obtain ⟨e, rfl⟩ := y
  refine ⟨.int (lo + i), ?_, .inl ⟨e, fun S1 ma1 _ => .int _⟩⟩
  unfold rngL at hi ⊢
  rw [List.length_map, List.length_range] at hi
  rw [List.getElem?_map, List.getElem?_range hi]
  rfl
def fits (i : Int) : Bool := decide (-(2 ^ 62) ≤ i ∧ i < 2 ^ 62)
def rng1 : List D → Option (List D)
  | [.int j] => if fits j = true then some (rngL 0 j.toNat) else none
  | _ => none
def rng2 : List D → Option (List D)
  | [.int i, .int j] => if fits i = true ∧ fits j = true then some (rngL i (j - i).toNat) else none
  | _ => none
theorem i_rng1 {tg a : Expr} {fs : M (List D)} (ha : VA c [a] fs) (hg : Glo c.sc "range") (hm : c.B.mg "range" = none) (hs : ∀ env : Env, starEach [a] env = [(false, eval a env)] := by intro _; rfl) :
    VI c tg (.Call (.Name "range" p) [a] [] pos) (bnd fs fun ds => opt (rng1 ds)) := by
  refine ⟨fun X W ok => ?_⟩
  obtain ⟨t, pa, q⟩ := ha.run X W ok
  obtain ⟨exc, k, isdef, fnc, rfl⟩ := ok.eq
  refine ⟨_, pi_range1 hg hm pa (hs X.env), fun F ma S H σ ds Q cf h => ?_⟩
  refine q F ma S H σ ds _ cf (Res.bind h fun d ds1 ma1 S1 H1 v x c1 r1 h1 => ?_)
  cases r1 with
  | nil => exact (show False from h1).elim
  | cons a1 b1 =>
    cases b1 with
    | cons _ _ => cases a1 <;> exact (show False from h1).elim
    | nil =>
      cases a1 with
      | int j =>
        have h1 : Res _ W F _ σ ma1 S1 (opt (if fits j = true then some (rngL 0 j.toNat) else none) ds1) Q := h1
        by_cases hj : fits j = true
        · rw [if_pos hj] at h1
          have hj := of_decide_eq_true hj
          exact ⟨j, rfl, hj.1, hj.2, h1 ma1 S1 H1 _ Ext.refl c1 itOk_rng⟩
        · rw [if_neg hj] at h1; exact h1.elim
      | _ => exact (show False from h1).elim
theorem i_rng2 {tg a b : Expr} {fs : M (List D)} (ha : VA c [a, b] fs) (hg : Glo c.sc "range") (hm : c.B.mg "range" = none) (hs : ∀ env : Env, starEach [a, b] env = [(false, eval a env), (false, eval b env)] := by intro _; rfl) (hs2 : ∀ env : Env, starEach [b] env = [(false, eval b env)] := by intro _; rfl) :
    VI c tg (.Call (.Name "range" p) [a, b] [] pos) (bnd fs fun ds => opt (rng2 ds)) := by
  refine ⟨fun X W ok => ?_⟩
  obtain ⟨t, pa, q⟩ := ha.run X W ok
  obtain ⟨exc, k, isdef, fnc, rfl⟩ := ok.eq
  refine ⟨_, pi_range2 hg hm pa (hs X.env) (hs2 X.env), fun F ma S H σ ds Q cf h => ?_⟩
  refine q F ma S H σ ds _ cf (Res.bind h fun d ds1 ma1 S1 H1 v x c1 r1 h1 => ?_)
  cases r1 with
  | nil => exact (show False from h1).elim
  | cons a1 b1 =>
    cases b1 with
    | nil => cases a1 <;> exact (show False from h1).elim
    | cons a2 b2 =>
      cases b2 with
      | cons _ _ => cases a1 <;> cases a2 <;> exact (show False from h1).elim
      | nil =>
        cases a1 with
        | int i =>
          cases a2 with
          | int j =>
            have h1 : Res _ W F _ σ ma1 S1 (opt (if fits i = true ∧ fits j = true then some (rngL i (j - i).toNat) else none) ds1) Q := h1
            by_cases hj : fits i = true ∧ fits j = true
            · rw [if_pos hj] at h1
              have h2 := of_decide_eq_true hj.1
              have h3 := of_decide_eq_true hj.2
              exact ⟨i, j, rfl, ⟨h2.1, h2.2, h3.1, h3.2⟩, h1 ma1 S1 H1 _ Ext.refl c1 itOk_rng⟩
            · rw [if_neg hj] at h1; exact h1.elim
          | _ => exact (show False from h1).elim
        | _ => exact (show False from h1).elim

/-! ### for -/
def forL (g : D → M Unit) (b : M Out) : List D → M Out
  | [] => rtn .nx
  | d :: r => bnd (g d) fun _ => bnd b fun o => match o with
    | .nx => forL g b r
    | .ct => forL g b r
    | .bk => rtn .nx
    | .rt v => rtn (.rt v)
@[irreducible] def forM (fi : M (List D)) (g : D → M Unit) (b : M Out) : M Out := bnd fi fun items => forL g b items
theorem s_for {tg iter : Expr} {is : List Nat} {body : List Stmt} {fi : M (List D)} {ft : D → M Unit} {fb : M Out} (hc : c.calm = true) (hi : VI c tg iter fi) (hg : TG1 c tg is ft) (hb : VB c body fb)
    (hs : ∀ (env : Env) x, foldedSetIterable iter env x = pure x := by intro _ _; rfl) : VS c (.For tg iter body [] pos) (forM fi ft fb) := by
  refine ⟨fun X W ok => ?_⟩
  obtain ⟨ti, pi, qi⟩ := hi.run X W ok
  obtain ⟨tg', pg, qg⟩ := hg.run X W ok
  obtain ⟨tb, pb, qb⟩ := hb.run X W ok
  have own := ok.own
  obtain ⟨exc, k, isdef, fnc, rfl⟩ := ok.eq
  refine ⟨_, ps_for own hc pi pg pb (hs X.env), fun F ma S H σ ds E cf h => ?_⟩
  refine qi F ma S H σ ds _ cf (SRes.bind (by unfold forM at h; exact h) fun items ds1 ma1 S1 H1 J x c1 r1 h1 => ?_)
  obtain ⟨G, Y, wk, hG, hY⟩ := r1
  refine for_it wk (fun i σ' H' => ∃ ma2 S2 ds2, Ext ma1 S1 ma2 S2 ∧ Cf (xkw X) F ma2 S2 H' σ' ds2 ∧ SRes ⟨X.prog, X.w, X.K, X.mg, X.base, exc⟩ W F ma2 S2 (forL ft fb (items.drop i) ds2) E) ⟨ma1, S1, ds1, Ext.refl, c1, h1⟩ ?_ ?_ ?_
  · rintro i σ' H' hi ⟨ma2, S2, ds2, ex, c2, _⟩
    exact hG S2 H' ex.same c2.sub
  · rintro i v σ' H2 H3 hi ⟨ma2, S2, ds2, ex, c2, h2⟩ y
    obtain ⟨d, hd, st⟩ := hY i H2 v H3 hi (hG S2 H2 ex.same c2.sub) y
    obtain ⟨S3, c3, ex3, r3⟩ := ItOk.step c2 ex st
    have ed : items.drop i = d :: items.drop (i + 1) := by
      obtain ⟨hl, e⟩ := List.getElem?_eq_some_iff.mp hd
      rw [List.drop_eq_getElem_cons hl, e]
    rw [ed] at h2
    have h3 := SRes.later h2 ex3
    refine qg F ma2 S3 H3 σ' ds2 d v _ c3 r3 (SRes.bindT h3 fun _ ds4 ma4 S4 H4 σ4 ex4 c4 h4 => ?_)
    refine qb F ma4 S4 H4 σ4 ds4 _ c4 ?_
    have h4 : SRes _ W F ma4 S4 ((fb ds4).bind fun o s => (match o with
      | .nx => forL ft fb (items.drop (i + 1))
      | .ct => forL ft fb (items.drop (i + 1))
      | .bk => rtn .nx
      | .rt v => rtn (.rt v) : M Out) s) E := h4
    revert h4
    cases fb ds4 with
    | stuck => exact fun h => h
    | err ec ds5 => exact fun h => h
    | ok o ds5 =>
      intro h5 ma5 S5 H5 σ5 ex5 c5
      have exA : Ext ma1 S1 ma5 S5 := ((ex.trans ex3).trans ex4).trans ex5
      cases o with
      | nx => exact ⟨ma5, S5, ds5, exA, c5, SRes.later h5 ex5⟩
      | ct => exact ⟨ma5, S5, ds5, exA, c5, SRes.later h5 ex5⟩
      | bk => exact h5 ma5 S5 H5 σ5 ex5 c5
      | rt w => exact h5 ma5 S5 H5 σ5 ex5 c5
  · rintro σ' H' ⟨ma2, S2, ds2, ex, c2, h2⟩
    rw [List.drop_length] at h2
    exact h2 ma2 S2 H' σ' Ext.refl c2

/-! ### while -/
def whileN (t : M Bool) (b : M Out) : Nat → M Out
  | 0 => fun _ => .stuck
  | n + 1 => bnd t fun k => if k = true then bnd b fun o => match o with
    | .nx => whileN t b n
    | .ct => whileN t b n
    | .bk => rtn .nx
    | .rt v => rtn (.rt v)
    else rtn .nx
open Classical in
noncomputable def whileM (t : M Bool) (b : M Out) : M Out := fun s => if h : ∃ n, whileN t b n s ≠ .stuck then whileN t b h.choose s else .stuck
theorem whileN_more {t : M Bool} {b : M Out} : ∀ (n : Nat) (s : DS), whileN t b n s ≠ .stuck → whileN t b (n + 1) s = whileN t b n s
  | 0, s, h => absurd rfl h
  | n + 1, s, h => by
    have e1 : ∀ m, whileN t b (m + 1) s = (t s).bind fun k s' => (if k = true then bnd b fun o => match o with
      | .nx => whileN t b m
      | .ct => whileN t b m
      | .bk => rtn .nx
      | .rt v => rtn (.rt v)
      else rtn .nx : M Out) s' := fun m => rfl
    rw [e1] at h ⊢
    rw [e1 n]
    cases q : t s with
    | stuck => rfl
    | err _ _ => rfl
    | ok k s1 =>
      rw [q] at h
      cases k with
      | false => rfl
      | true =>
        have e2 : ∀ m, (R.ok true s1).bind (fun k s' => (if k = true then bnd b fun o => match o with
          | .nx => whileN t b m
          | .ct => whileN t b m
          | .bk => rtn .nx
          | .rt v => rtn (.rt v)
          else rtn .nx : M Out) s') = (b s1).bind fun o s' => (match o with
          | .nx => whileN t b m
          | .ct => whileN t b m
          | .bk => rtn .nx
          | .rt v => rtn (.rt v) : M Out) s' := fun m => rfl
        rw [e2] at h ⊢
        rw [e2 n]
        cases q2 : b s1 with
        | stuck => rfl
        | err _ _ => rfl
        | ok o s2 =>
          rw [q2] at h
          cases o with
          | nx => exact whileN_more n s2 h
          | ct => exact whileN_more n s2 h
          | bk => rfl
          | rt _ => rfl
theorem whileN_le {t : M Bool} {b : M Out} {n : Nat} {s : DS} (h : whileN t b n s ≠ .stuck) : ∀ m, n ≤ m → whileN t b m s = whileN t b n s := by
  intro m hm
  induction hm with
  | refl => rfl
  | @step m _ ih => rw [whileN_more m s (by rw [ih]; exact h), ih]
theorem whileM_of {t : M Bool} {b : M Out} (n : Nat) {s : DS} (h : whileN t b n s ≠ .stuck) : whileM t b s = whileN t b n s := by
  have hx : ∃ n, whileN t b n s ≠ .stuck := ⟨n, h⟩
  unfold whileM
  rw [dif_pos hx]
  rcases Nat.le_total n hx.choose with hl | hl
  · exact whileN_le h _ hl
  · exact (whileN_le hx.choose_spec _ hl).symm
theorem s_while {t : Expr} {body : List Stmt} {ft : M Bool} {fb : M Out} (ht : VT c t ft) (hb : VB c body fb) : VS c (.While t body [] pos) (whileM ft fb) := by
  refine ⟨fun X W ok => ?_⟩
  obtain ⟨tt, pt, qt⟩ := ht.run X W ok
  obtain ⟨tb, pb, qb⟩ := hb.run X W ok
  have own := ok.own
  obtain ⟨exc, k, isdef, fnc, rfl⟩ := ok.eq
  refine ⟨_, ps_while own pt pb, fun F ma S H σ ds E cf h => ?_⟩
  by_cases hx : ∃ n, whileN ft fb n ds ≠ .stuck
  · have e : whileM ft fb ds = whileN ft fb hx.choose ds := by unfold whileM; rw [dif_pos hx]
    rw [e] at h
    refine ⟨fun m σ' H' => ∃ ma2 S2 ds2, Ext ma S ma2 S2 ∧ Cf (xkw X) F ma2 S2 H' σ' ds2 ∧ SRes ⟨X.prog, X.w, X.K, X.mg, X.base, exc⟩ W F ma2 S2 (whileN ft fb m ds2) E, ⟨_, ma, S, ds, Ext.refl, cf, h⟩, ?_⟩
    rintro m σ' H' ⟨ma2, S2, ds2, ex, c2, h2⟩
    cases m with
    | zero => exact h2.elim
    | succ m =>
      refine qt F ma2 S2 H' σ' ds2 _ c2 (SRes.bind h2 fun b ds3 ma3 S3 H3 v ex3 c3 r3 h3 => ?_)
      subst r3
      cases b with
      | false => rw [if_neg Bool.false_ne_true]; exact h3 ma3 S3 H3 σ' Ext.refl c3
      | true =>
        rw [if_pos rfl]
        refine ⟨fun σ4 H4 => ∃ ma2 S2 ds2, Ext ma S ma2 S2 ∧ Cf (xkw X) F ma2 S2 H4 σ4 ds2 ∧ SRes ⟨X.prog, X.w, X.K, X.mg, X.base, exc⟩ W F ma2 S2 (whileN ft fb m ds2) E, fun σ4 H4 q => ⟨m, Nat.lt_succ_self m, q⟩, ?_⟩
        refine qb F ma3 S3 H3 σ' ds3 _ c3 ?_
        have h4 : SRes _ W F ma3 S3 ((fb ds3).bind fun o s => (match o with
          | .nx => whileN ft fb m
          | .ct => whileN ft fb m
          | .bk => rtn .nx
          | .rt v => rtn (.rt v) : M Out) s) E := h3
        revert h4
        cases fb ds3 with
        | stuck => exact fun h => h
        | err ec ds5 => exact fun h => h
        | ok o ds5 =>
          intro h5 ma5 S5 H5 σ5 ex5 c5
          have exA : Ext ma S ma5 S5 := (ex.trans ex3).trans ex5
          cases o with
          | nx => exact ⟨ma5, S5, ds5, exA, c5, SRes.later h5 ex5⟩
          | ct => exact ⟨ma5, S5, ds5, exA, c5, SRes.later h5 ex5⟩
          | bk => exact h5 ma5 S5 H5 σ5 ex5 c5
          | rt w => exact h5 ma5 S5 H5 σ5 ex5 c5
  · have e : whileM ft fb ds = .stuck := by unfold whileM; rw [dif_neg hx]
    rw [e] at h
    exact h.elim
end
end Vl
namespace Vl
open PySem PySem.Spec PyProof.Rows L2

/-! ### a comprehension's own names -/
def wipeE (env : List Slot) : List Nat → List Slot
  | [] => env
  | v :: vs => (wipeE env vs).set v .un
def wp (vs : List Nat) (s : DS) : DS := { s with env := wipeE s.env vs }
def anyOwn (vs : List Nat) (env : List Slot) : Bool := vs.any fun i => match env[i]? with
  | some s => s.isOwn
  | none => false
def restE (e0 e2 : List Slot) : List Nat → List Slot
  | [] => e2
  | v :: vs => (restE e0 e2 vs).set v (e0.getD v .un)
section
variable {K : KW} {F : Hp} {ma : List Addr} {S H : Hp} {σ : L2.St} {ds : DS}
theorem Cf.wipe (c : Cf K F ma S H σ ds) : ∀ vs, Cf K F ma S H (wipe σ vs) (wp vs ds)
  | [] => c
  | v :: vs => (Cf.wipe c vs).drop v none
theorem restE_length (e0 e2 : List Slot) : ∀ vs, (restE e0 e2 vs).length = e2.length
  | [] => rfl
  | v :: vs => by unfold restE; rw [List.length_set, restE_length e0 e2 vs]
theorem restE_in {e0 e2 : List Slot} {i : Nat} {x : Slot} : ∀ {vs : List Nat}, (restE e0 e2 vs)[i]? = some x → (i ∈ vs ∧ x = e0.getD i .un) ∨ (i ∉ vs ∧ e2[i]? = some x)
  | [], h => .inr ⟨by simp, h⟩
  | v :: vs, h => by
    unfold restE at h
    rcases get_set h with ⟨rfl, q⟩ | ⟨hne, q⟩
    · exact .inl ⟨List.mem_cons_self, q⟩
    · rcases restE_in q with ⟨h1, h2⟩ | ⟨h1, h2⟩
      · exact .inl ⟨List.mem_cons_of_mem _ h1, h2⟩
      · exact .inr ⟨by simp only [List.mem_cons, not_or]; exact ⟨fun e => hne e.symm, h1⟩, h2⟩
theorem getD_val {e0 : List Slot} {i : Nat} {x : Slot} (h : x = e0.getD i .un) (hx : x ≠ .un) : e0[i]? = some x := by
  rw [List.getD_eq_getElem?_getD] at h
  cases e : e0[i]? with
  | none => rw [e] at h; exact absurd h hx
  | some y => rw [e] at h; rw [h]; rfl
theorem Cf.restore {F0 : Hp} {ma0 : List Addr} {S0 H0 : Hp} {ds0 : DS} {vs : List Nat} (c0 : Cf K F0 ma0 S0 H0 σ ds0) (ex : Ext ma0 S0 ma S) (c : Cf K F ma S H (L2.wipe σ vs) ds) (no : anyOwn vs ds0.env = false) :
    Cf K F ma S H σ { ds with env := restE ds0.env ds.env vs } where
  sub := c.sub
  fr := c.fr
  dis := c.dis
  len := by
    have := c.len
    rw [wipe_length] at this
    show σ.length = (restE ds0.env ds.env vs).length
    rw [restE_length]; exact this
  val := fun i d h => by
    have h : (restE ds0.env ds.env vs)[i]? = some (.val d) := h
    rcases restE_in h with ⟨h1, h2⟩ | ⟨h1, h2⟩
    · obtain ⟨v, e1, r⟩ := c0.val i d (getD_val h2 (fun z => by cases z))
      exact ⟨v, e1, r.mono ex⟩
    · obtain ⟨v, e1, r⟩ := c.val i d h2
      exact ⟨v, (wipe_some e1).1, r⟩
  own := fun i s o h hs => by
    have h : (restE ds0.env ds.env vs)[i]? = some s := h
    rcases restE_in h with ⟨h1, h2⟩ | ⟨h1, h2⟩
    · have e := getD_val h2 (fun z => by subst z; cases hs)
      unfold anyOwn at no
      rw [List.any_eq_false] at no
      have := no i h1
      rw [e] at this
      exact absurd (Slot.own_of hs) this
    · obtain ⟨p, e1, r⟩ := c.own i s o h2 hs
      exact ⟨p, (wipe_some e1).1, r⟩
  apart := fun i j s u p h1 h2 hs hu e1 e2 => by
    have h1 : (restE ds0.env ds.env vs)[i]? = some s := h1
    have h2 : (restE ds0.env ds.env vs)[j]? = some u := h2
    have key : ∀ i s, (restE ds0.env ds.env vs)[i]? = some s → s.isOwn = true → i ∉ vs ∧ ds.env[i]? = some s := fun i s h hs => by
      rcases restE_in h with ⟨h1, h2⟩ | ⟨h1, h2⟩
      · have e := getD_val h2 (fun z => by subst z; cases hs)
        unfold anyOwn at no
        rw [List.any_eq_false] at no
        have := no i h1
        rw [e] at this
        exact absurd hs this
      · exact ⟨h1, h2⟩
    obtain ⟨n1, g1⟩ := key i s h1 hs
    obtain ⟨n2, g2⟩ := key j u h2 hu
    exact c.apart i j s u p g1 g2 hs hu (by rw [wipe_out n1]; exact e1) (by rw [wipe_out n2]; exact e2)
  mlen := c.mlen
  mem := c.mem
  nd := c.nd
/-- an object is kept around -/
theorem Cf.frame (c : Cf K F ma S H σ ds) {p : Addr} {o : HO} (h : H p = some o) (f : Fre F ma S σ ds.env p) : Cf K (upd F p o) ma S H σ ds where
  sub := c.sub
  fr := fun b u e => by
    by_cases hb : b = p
    · subst hb; rw [upd_same] at e; cases e; exact h
    · rw [upd_ne hb] at e; exact c.fr b u e
  dis := fun b u e => by
    by_cases hb : b = p
    · subst hb; exact f.s
    · rw [upd_ne hb] at e; exact c.dis b u e
  len := c.len
  val := c.val
  own := fun i s o h1 h2 => by
    obtain ⟨q, z1, z2, z3, z4, z5⟩ := c.own i s o h1 h2
    have hq : q ≠ p := fun z => f.o i s h1 (Slot.own_of h2) (by rw [← z]; exact z1)
    exact ⟨q, z1, z2, z3, by rw [upd_ne hq]; exact z4, z5⟩
  apart := c.apart
  mlen := c.mlen
  mem := fun n a u h1 h2 => by
    obtain ⟨z1, z2, z3⟩ := c.mem n a u h1 h2
    have hq : a ≠ p := fun z => f.m (by rw [← z]; exact List.mem_of_getElem? h1)
    exact ⟨z1, z2, by rw [upd_ne hq]; exact z3⟩
  nd := c.nd
/-- .. it is free again -/
theorem Cf.unframe {p : Addr} {o : HO} (c : Cf K (upd F p o) ma S H σ ds) (hF : F p = none) : Cf K F ma S H σ ds ∧ Fre F ma S σ ds.env p ∧ H p = some o := by
  have up : ∀ b u, F b = some u → upd F p o b = some u := fun b u e => by
    rw [upd_ne (ne_of_none e hF)]; exact e
  have dn : ∀ b, upd F p o b = none → F b = none ∧ b ≠ p := fun b e => by
    by_cases hb : b = p
    · subst hb; rw [upd_same] at e; cases e
    · rw [upd_ne hb] at e; exact ⟨e, hb⟩
  refine ⟨⟨c.sub, fun b u e => c.fr b u (up b u e), fun b u e => c.dis b u (up b u e), c.len, c.val, fun i s o h1 h2 => ?_, c.apart, c.mlen, fun n a u h1 h2 => ?_, c.nd⟩, ⟨c.dis p o upd_same, hF, fun z => ?_, fun j s h1 h2 h3 => ?_⟩, c.fr p o upd_same⟩
  · obtain ⟨q, z1, z2, z3, z4, z5⟩ := c.own i s o h1 h2
    exact ⟨q, z1, z2, z3, (dn q z4).1, z5⟩
  · obtain ⟨z1, z2, z3⟩ := c.mem n a u h1 h2
    exact ⟨z1, z2, (dn a z3).1⟩
  · exact (dn p (c.mfree z).2.1).2 rfl
  · obtain ⟨o, h2⟩ := Slot.mo_of h2
    obtain ⟨q, z1, z2, z3, z4, z5⟩ := c.own j s o h1 h2
    rw [h3] at z1
    cases z1
    exact (dn p z4).2 rfl
/-- the names aside -/
theorem Cf.bare (c : Cf K F ma S H σ ds) : Cf K F ma S H [] ⟨[], ds.mem⟩ where
  sub := c.sub
  fr := c.fr
  dis := c.dis
  len := rfl
  val := fun i d h => by simp at h
  own := fun i d o h => by simp at h
  apart := fun i j s u p h => by simp at h
  mlen := c.mlen
  mem := c.mem
  nd := c.nd
/-- further names, unknown -/
theorem Cf.pad {xs : List D} {m : List MO} {vs : List V} (c : Cf K F ma S H (vs.map some) ⟨xs.map .val, m⟩) (n : Nat) : Cf K F ma S H (vs.map some ++ List.replicate n none) ⟨xs.map .val ++ List.replicate n .un, m⟩ where
  sub := c.sub
  fr := c.fr
  dis := c.dis
  len := by have := c.len; simp only [List.length_map] at this; simp [this]
  val := fun i d h => by
    have hl := c.len
    simp only [List.length_map] at hl
    have h : (xs.map Slot.val ++ List.replicate n .un)[i]? = some (.val d) := h
    by_cases hi : i < xs.length
    · rw [List.getElem?_append_left (by simpa using hi)] at h
      obtain ⟨v, e1, r⟩ := c.val i d h
      exact ⟨v, by rw [List.getElem?_append_left (by simp; omega)]; exact e1, r⟩
    · rw [List.getElem?_append_right (by simpa using hi), List.getElem?_replicate] at h
      split at h <;> cases h
  own := fun i s o h hs => by
    have h : (xs.map Slot.val ++ List.replicate n .un)[i]? = some s := h
    by_cases hi : i < xs.length
    · rw [List.getElem?_append_left (by simpa using hi), List.getElem?_map] at h
      cases q : xs[i]? with
      | none => rw [q] at h; cases h
      | some x => rw [q] at h; cases h; cases hs
    · rw [List.getElem?_append_right (by simpa using hi), List.getElem?_replicate] at h
      split at h <;> cases h
      cases hs
  apart := fun i j s u p h _ hs => by
    have h : (xs.map Slot.val ++ List.replicate n .un)[i]? = some s := h
    by_cases hi : i < xs.length
    · rw [List.getElem?_append_left (by simpa using hi), List.getElem?_map] at h
      cases q : xs[i]? with
      | none => rw [q] at h; cases h
      | some x => rw [q] at h; cases h; cases hs
    · rw [List.getElem?_append_right (by simpa using hi), List.getElem?_replicate] at h
      split at h <;> cases h
      cases hs
  mlen := c.mlen
  mem := c.mem
  nd := c.nd
theorem wipe_get {σ : L2.St} {i : Nat} : ∀ {vs : List Nat}, i ∈ vs → (wipe σ vs)[i]? = if i < σ.length then some none else none
  | v :: vs, h => by
    unfold L2.wipe
    by_cases hv : v = i
    · subst hv
      by_cases hl : v < σ.length
      · rw [if_pos hl, List.getElem?_set_self (by rw [wipe_length]; exact hl)]
      · rw [if_neg hl, List.getElem?_eq_none (by rw [List.length_set, wipe_length]; omega)]
    · rw [List.getElem?_set_ne hv]
      rcases List.mem_cons.mp h with e | h
      · exact absurd e.symm hv
      · exact wipe_get h
theorem wipe_eq {σ σ2 : L2.St} {is vs : List Nat} (t : Tch is (wipe σ vs) σ2) (h : ∀ i ∈ is, i ∈ vs) : wipe σ2 vs = wipe σ vs := by
  have hl : σ2.length = σ.length := by rw [t.1, wipe_length]
  refine List.ext_getElem? fun j => ?_
  by_cases hj : j ∈ vs
  · rw [wipe_get hj, wipe_get hj, hl]
  · rw [wipe_out hj, t.2 j fun z => hj (h j z)]
end

/-! ### comprehensions -/
def noErr {α : Type} : R α → R α
  | .err _ _ => .stuck
  | r => r
def lcL (vs : List Nat) (g : D → M Unit) (t : M Bool) (el : M D) : List D → List D → M (List D)
  | [], acc => fun s => .ok acc (wp vs s)
  | d :: r, acc => fun s => (g d (wp vs s)).bind fun _ s1 => (t s1).bind fun k s2 => if k = true then (el s2).bind fun y s3 => lcL vs g t el r (acc ++ [y]) s3 else lcL vs g t el r acc s2
def compM (vs : List Nat) (fi : M (List D)) (g : D → M Unit) (t : M Bool) (el : M D) : M (List D) := bnd fi fun items s1 => if anyOwn vs s1.env = false ∧ items.length ≤ 1000000 then
  (noErr (lcL vs g t el items [] s1)).bind fun acc s2 => .ok acc { s2 with env := restE s1.env s2.env vs } else .stuck
structure VTs (c : SC) (ifs : List Expr) (f : M Bool) : Prop where
  run : ∀ X W, Ok c X W → ∃ t : TT, PTs X ifs t ∧ ∀ F ma S H σ ds Q, Cf c.B.kw F ma S H σ ds → Res c.B W F RpB σ ma S (f ds) Q → t σ H Q
theorem ts_nil {c : SC} : VTs c [] (rtn true) := ⟨fun X W ok => ⟨tYes, pts_nil, fun F ma S H σ ds Q cf h => h ma S H true Ext.refl cf rfl⟩⟩
theorem ts_one {c : SC} {e : Expr} {f : M Bool} (h : VT c e f) : VTs c [e] f := ⟨fun X W ok => by
  obtain ⟨t, p, q⟩ := h.run X W ok
  exact ⟨t, pts_one p, q⟩⟩
/-- within a block -/
def SC.blk (c : SC) (scope : Scope) : SC := { c with sc := relS scope c.sc, isdef := false, fnc := fun x => scope.names.lookup x == some .cell }
abbrev W0 : WX := fun _ _ _ _ => False
theorem Ok.blk {c : SC} {X : Cx} {W : WX} (ok : Ok c X W) (scope : Scope) (s : Shared) (H : Hp) (C : Addr) (cl : List (Str × Addr)) (fp : List Addr) : Ok (c.blk scope) (X.blk s H scope (compEnvC scope cl C X.env) fp) W0 := by
  obtain ⟨⟨exc, k, isdef, fnc, rfl⟩, h2, h3, h4, h5, h6, h7⟩ := ok
  exact ⟨⟨exc, k, _, _, rfl⟩, h2, h3, fun x h => h, takes0, PassesOwn.never, fun h => absurd (show false = true from h) Bool.false_ne_true⟩
section
variable {c : SC} {pos : Pos}
/-- what lcL's outcome wants -/
def LRes (K : KW) (F : Hp) (p : Addr) (σ : L2.St) (ma : List Addr) (S : Hp) (r : R (List D)) (Q : Hp → Prop) : Prop :=
  match r with
  | .ok acc ds => ∀ ma' S' H' vs, Ext ma S ma' S' → Cf K (upd F p (.lst vs)) ma' S' H' σ ds → RepL K S' ma' acc vs → Q H'
  | _ => False
theorem LRes.later {K : KW} {F : Hp} {p : Addr} {σ : L2.St} {ma ma1 : List Addr} {S S1 : Hp} {r : R (List D)} {Q : Hp → Prop} (h : LRes K F p σ ma S r Q) (e : Ext ma S ma1 S1) : LRes K F p σ ma1 S1 r Q := by
  cases r with
  | ok a ds => exact fun ma' S' H' vs x => h ma' S' H' vs (e.trans x)
  | err c ds => exact h
  | stuck => exact h
theorem LRes.bind {α β : Type} {B : Bs} {F1 F : Hp} {Rp : RpT α β} {p : Addr} {σ σ1 : L2.St} {ma : List Addr} {S : Hp} {r : R α} {g : α → DS → R (List D)} {Q : Hp → Prop} {Q1 : β → Hp → Prop} (h : LRes B.kw F p σ ma S (r.bind g) Q)
    (k : ∀ a ds ma1 S1 H1 b, Ext ma S ma1 S1 → Cf B.kw F1 ma1 S1 H1 σ1 ds → Rp F1 ma1 S1 H1 σ1 ds a b → LRes B.kw F p σ ma1 S1 (g a ds) Q → Q1 b H1) : Res B W0 F1 Rp σ1 ma S r Q1 := by
  cases r with
  | ok a ds => exact fun ma' S' H' b x cf rp => k a ds ma' S' H' b x cf rp (LRes.later h x)
  | err c ds => exact h.elim
  | stuck => exact h
theorem LRes.bindT {B : Bs} {F1 F : Hp} {is : List Nat} {p : Addr} {σ σ1 : L2.St} {ma : List Addr} {S : Hp} {r : R Unit} {g : Unit → DS → R (List D)} {Q : Hp → Prop} {Q1 : L2.St → Hp → Prop} (h : LRes B.kw F p σ ma S (r.bind g) Q)
    (k : ∀ a ds ma1 S1 H1 σ2, Ext ma S ma1 S1 → Cf B.kw F1 ma1 S1 H1 σ2 ds → Tch is σ1 σ2 → LRes B.kw F p σ ma1 S1 (g a ds) Q → Q1 σ2 H1) : TRes B W0 F1 is σ1 ma S r Q1 := by
  cases r with
  | ok a ds => exact fun ma' S' H' σ' x cf t => k a ds ma' S' H' σ' x cf t (LRes.later h x)
  | err c ds => exact h.elim
  | stuck => exact h
theorem lc_reads {elt tg iter : Expr} {ifs : List Expr} {scope : Scope} {vs is : List Nat} {fi : M (List D)} {ft : D → M Unit} {tt : M Bool} {fe : M D} {X : Cx} {W : WX} (ok : Ok c X W) (hi : VI c tg iter fi) (hg : TG1 (c.blk scope) tg is ft) (his : ∀ i ∈ is, i ∈ vs)
    (ht : VTs (c.blk scope) ifs tt) (he : VE (c.blk scope) elt fe) : ∃ (wi : TI) (g : TG) (t : TT) (te : TE), PI X tg iter wi ∧
      (∀ (s : Shared) (H : Hp) (C : Addr) (cl : List (Str × Addr)) (fp : List Addr), PG (X.blk s H scope (compEnvC scope cl C X.env) fp) tg g) ∧
      (∀ (s : Shared) (H : Hp) (C : Addr) (cl : List (Str × Addr)) (fp : List Addr), PTs (X.blk s H scope (compEnvC scope cl C X.env) fp) ifs t) ∧
      (∀ (s : Shared) (H : Hp) (C : Addr) (cl : List (Str × Addr)) (fp : List Addr), PE (X.blk s H scope (compEnvC scope cl C X.env) fp) elt te) ∧
      ∀ F ma S H σ ds Q, Cf c.B.kw F ma S H σ ds → Res c.B W F (RpF c.B.kw) σ ma S (compM vs fi ft tt fe ds) Q → tLc wi g t te vs σ H Q := by
  obtain ⟨wi, pi, qi⟩ := hi.run X W ok
  have hg' := fun s H C cl fp => hg.run _ _ (ok.blk scope s H C cl fp)
  have ht' := fun s H C cl fp => ht.run _ _ (ok.blk scope s H C cl fp)
  have he' := fun s H C cl fp => he.run _ _ (ok.blk scope s H C cl fp)
  refine ⟨wi, fun v σ H Q => ∀ s H0 C cl fp, (hg' s H0 C cl fp).choose v σ H Q, fun σ H Q => ∀ s H0 C cl fp, (ht' s H0 C cl fp).choose σ H Q, fun σ H Q => ∀ s H0 C cl fp, (he' s H0 C cl fp).choose σ H Q, pi,
    fun s H C cl fp => ⟨fun pins s' σ H' v u Q I r h => (hg' s H C cl fp).choose_spec.1.run pins s' σ H' v u Q I r (h s H C cl fp)⟩,
    fun s H C cl fp => ⟨fun pins s' σ H' Q I h => (ht' s H C cl fp).choose_spec.1.run pins s' σ H' Q I (h s H C cl fp)⟩,
    fun s H C cl fp => ⟨fun pins s' σ H' Q I h => (he' s H C cl fp).choose_spec.1.run pins s' σ H' Q I (h s H C cl fp)⟩, fun F ma S H σ ds Q cf h => ?_⟩
  have qg := fun s H C cl fp => (hg' s H C cl fp).choose_spec.2
  have qt := fun s H C cl fp => (ht' s H C cl fp).choose_spec.2
  have qe := fun s H C cl fp => (he' s H C cl fp).choose_spec.2
  refine qi F ma S H σ ds _ cf (Res.bind h fun items ds1 ma1 S1 H1 J x c1 r1 h1 => ?_)
  intro p hp
  have h1 : Res c.B W F (RpF c.B.kw) σ ma1 S1 (if anyOwn vs ds1.env = false ∧ items.length ≤ 1000000 then (noErr (lcL vs ft tt fe items [] ds1)).bind fun acc s2 => .ok acc { s2 with env := restE ds1.env s2.env vs } else .stuck) Q := h1
  by_cases hb : anyOwn vs ds1.env = false ∧ items.length ≤ 1000000
  · rw [if_pos hb] at h1
    obtain ⟨no, hz⟩ := hb
    have hz2 : (1000000 : Nat) < sizeLine := by rw [sizeLine_eq]; decide
    obtain ⟨G, Y, wk, hG, hY⟩ := r1
    have fp0 : F p = none := c1.fr.free hp
    -- the whole loop's outcome
    have hL : LRes c.B.kw F p (wipe σ vs) ma1 S1 (lcL vs ft tt fe items [] ds1) (fun H' => Q (.ref p) H') := by
      revert h1
      cases lcL vs ft tt fe items [] ds1 with
      | stuck => exact fun h => h
      | err _ _ => exact fun h => h
      | ok acc ds2 =>
        intro h1 ma2 S2 H2 us ex cf2 r2
        obtain ⟨c3, f3, h3⟩ := cf2.unframe fp0
        have c4 := Cf.restore c1 ex c3 no
        refine h1 ma2 S2 H2 _ ex c4 ⟨p, us, rfl, h3, ⟨f3.s, f3.f, f3.m, fun j s e1 e2 e3 => ?_⟩, r2⟩
        have e1 : (restE ds1.env ds2.env vs)[j]? = some s := e1
        rcases restE_in e1 with ⟨h5, h6⟩ | ⟨h5, h6⟩
        · have e := getD_val h6 (fun z => by subst z; cases e2)
          obtain ⟨o, e2⟩ := Slot.mo_of e2
          obtain ⟨q, z1, z2, _⟩ := c1.own j s o e e2
          rw [e3] at z1; cases z1
          obtain ⟨u, z2, _⟩ := z2.head
          rw [hp] at z2; cases z2
        · exact f3.o j s h6 e2 (by rw [wipe_out h5]; exact e3)
    refine lc_it (g := fun v σ H Q => ∀ s H0 C cl fp, (hg' s H0 C cl fp).choose v σ H Q) (tt := fun σ H Q => ∀ s H0 C cl fp, (ht' s H0 C cl fp).choose σ H Q) (te := fun σ H Q => ∀ s H0 C cl fp, (he' s H0 C cl fp).choose σ H Q) (Qd := fun H => Q (.ref p) H) wk (fun i H' => ∃ ma2 S2 ds2 acc us, Ext ma1 S1 ma2 S2 ∧ Cf c.B.kw (upd F p (.lst us)) ma2 S2 H' (wipe σ vs) (wp vs ds2) ∧ RepL c.B.kw S2 ma2 acc us ∧ acc.length ≤ i ∧
      LRes c.B.kw F p (wipe σ vs) ma2 S2 (lcL vs ft tt fe (items.drop i) acc ds2) (fun H' => Q (.ref p) H')) ?_ ?_ ?_ ?_
    · have c2 := (c1.grow (.lst []) hp).wipe vs
      have f2 : Fre F ma1 S1 (wipe σ vs) (wp vs ds1).env p := ((c1.wipe vs).fre hp)
      exact ⟨ma1, S1, ds1, [], [], Ext.refl, c2.frame upd_same f2, .nil, Nat.zero_le _, hL⟩
    · rintro i H' hi ⟨ma2, S2, ds2, acc, us, ex, c2, _⟩
      exact hG S2 H' ex.same c2.sub
    · rintro i v H2 H3 hi ⟨ma2, S2, ds2, acc, us, ex, c2, ra, hla, h2⟩ y
      obtain ⟨d, hd, st⟩ := hY i H2 v H3 hi (hG S2 H2 ex.same c2.sub) y
      obtain ⟨S3, c3, ex3, r3⟩ := ItOk.step c2 ex st
      have ed : items.drop i = d :: items.drop (i + 1) := by
        obtain ⟨hl, e⟩ := List.getElem?_eq_some_iff.mp hd
        rw [List.drop_eq_getElem_cons hl, e]
      rw [ed] at h2
      have h3 : LRes c.B.kw F p (wipe σ vs) ma2 S3 ((ft d (wp vs ds2)).bind fun _ s1 => (tt s1).bind fun k s2 => if k = true then (fe s2).bind fun y s3 => lcL vs ft tt fe (items.drop (i + 1)) (acc ++ [y]) s3 else lcL vs ft tt fe (items.drop (i + 1)) acc s2) _ := LRes.later h2 ex3
      intro s H0 C cl fp
      refine qg s H0 C cl fp _ ma2 S3 H3 _ (wp vs ds2) d v _ c3 r3 (LRes.bindT (is := is) h3 fun _ ds4 ma4 S4 H4 σ4 ex4 c4 tc h4 => ?_)
      refine ⟨wipe_eq tc his, fun s H0 C cl fp => ?_⟩
      refine qt s H0 C cl fp _ ma4 S4 H4 σ4 ds4 _ c4 (LRes.bind (B := c.B) h4 fun k ds5 ma5 S5 H5 b ex5 c5 r5 h5 => ?_)
      subst r5
      have fin : ∀ {ma6 : List Addr} {S6 H6 : Hp} {ds6 : DS} {us' : List V}, Cf c.B.kw (upd F p (.lst us')) ma6 S6 H6 σ4 ds6 → Cf c.B.kw (upd F p (.lst us')) ma6 S6 H6 (wipe σ vs) (wp vs ds6) := fun {ma6 S6 H6 ds6 us'} q => by
        have := q.wipe vs
        rw [wipe_eq tc his] at this
        exact this
      have ex5' : Ext ma1 S1 ma5 S5 := ((ex.trans ex3).trans ex4).trans ex5
      cases k with
      | false =>
        rw [if_neg Bool.false_ne_true] at h5 ⊢
        exact ⟨ma5, S5, ds5, acc, us, ex5', fin c5, (ra.mono ((ex3.trans ex4).trans ex5)), Nat.le_succ_of_le hla, h5⟩
      | true =>
        rw [if_pos rfl] at h5 ⊢
        intro s H0 C cl fp
        refine qe s H0 C cl fp _ ma5 S5 H5 σ4 ds5 _ c5 (LRes.bind (B := c.B) h5 fun yd ds6 ma6 S6 H6 yv ex6 c6 r6 h6 => ?_)
        have ra6 : RepL c.B.kw S6 ma6 acc us := ra.mono (((ex3.trans ex4).trans ex5).trans ex6)
        have e6 : H6 p = some (.lst us) := c6.fr p _ upd_same
        have hul : us.length < sizeLine := by rw [← ra6.length]; omega
        refine ⟨us, e6, hul, ma6, S6, ds6, acc ++ [yd], us ++ [yv], ex5'.trans ex6, ?_, ra6.app (.cons r6 .nil), by simp; omega, h6⟩
        have c7 := fin c6
        obtain ⟨c8, f8, h8⟩ := c7.unframe fp0
        exact (c8.freeWrite f8 h8 (fun _ z => by cases z)).frame upd_same f8
    · rintro H' ⟨ma2, S2, ds2, acc, us, ex, c2, ra, hla, h2⟩
      rw [List.drop_length] at h2
      exact h2 ma2 S2 H' us Ext.refl c2 ra
  · rw [if_neg hb] at h1; exact h1.elim
theorem f_lc {elt tg iter : Expr} {ifs : List Expr} {scope : Scope} (own : List (Str × Nat)) {is : List Nat} {fi : M (List D)} {ft : D → M Unit} {tt : M Bool} {fe : M D} (hc : c.calm = true) (okB : BlkOk c.N c.sc scope own) (hi : VI c tg iter fi) (hg : TG1 (c.blk scope) tg is ft)
    (ht : VTs (c.blk scope) ifs tt) (he : VE (c.blk scope) elt fe) (his : ∀ i ∈ is, i ∈ own.map (·.2)) (hs : ∀ (env : Env) x, foldedSetIterable iter env x = pure x := by intro _ _; rfl) : VF c (.ListComp elt [⟨tg, iter, ifs, 0⟩] scope pos) (compM (own.map (·.2)) fi ft tt fe) := by
  refine ⟨fun X W ok => ?_⟩
  obtain ⟨wi, g, t, te, h1, h2, h3, h4, h5⟩ := lc_reads ok hi hg his ht he
  have nd := ok.nd
  obtain ⟨exc, k, isdef, fnc, rfl⟩ := ok.eq
  exact ⟨_, pe_lc hc nd h1 okB h2 h3 h4 (hs X.env), h5⟩
theorem sw_of {elt : Expr} {gs : List Comprehension} {scope sc : Scope} {lpos py : Pos} {y : Str} {l : Nat} (hk : sc.kind = .function) (hy : sc.names.lookup y = some .local) (hl : (py.line == lpos.line) = true)
    (ha : (scope.names.any fun (n, k) => n == y && (k == .local || k == .cell)) = false) (env : Env) (e : env.scope = sc) : swapsWith (.ListComp elt gs scope lpos) (some (.Name y py)) l env = pure true := by
  subst e
  exact sw_true hk hy hl ha
/-- name = [..] -/
theorem s_setLc (i : Nat) {y : Str} {py : Pos} {elt tg iter : Expr} {ifs : List Expr} {scope : Scope} {lpos : Pos} (own : List (Str × Nat)) {is : List Nat} {fi : M (List D)} {ft : D → M Unit} {tt : M Bool} {fe : M D} (hc : c.calm = true) (hN : c.N[i]? = some y) (hyl : c.sc.names.lookup y = some .local)
    (hsw : ∀ env : Env, env.scope = c.sc → swapsWith (.ListComp elt [⟨tg, iter, ifs, 0⟩] scope lpos) (some (.Name y py)) pos.line env = pure true) (okB : BlkOk c.N c.sc scope own) (hi : VI c tg iter fi) (hg : TG1 (c.blk scope) tg is ft)
    (ht : VTs (c.blk scope) ifs tt) (he : VE (c.blk scope) elt fe) (his : ∀ i ∈ is, i ∈ own.map (·.2)) (hs : ∀ (env : Env) x, foldedSetIterable iter env x = pure x := by intro _ _; rfl) :
    VS c (.Assign [.Name y py] (.ListComp elt [⟨tg, iter, ifs, 0⟩] scope lpos) pos) (asgM (shutM (compM (own.map (·.2)) fi ft tt fe)) (setM i)) := by
  refine ⟨fun X W ok => ?_⟩
  obtain ⟨wi, g, t, te, h1, h2, h3, h4, h5⟩ := lc_reads ok hi hg his ht he
  have nd := ok.nd
  obtain ⟨exc, k, isdef, fnc, rfl⟩ := ok.eq
  refine ⟨_, ps_setLc hc nd hN hyl (hsw X.env rfl) h1 okB h2 h3 h4 (hs X.env), fun F ma S H σ ds E cf h => ?_⟩
  have h : SRes _ W F ma S (((compM (own.map (·.2)) fi ft tt fe ds).bind fun x s => rtn (D.lst x) s).bind fun d s => bnd (setM i d) (fun _ => rtn .nx) s) E := h
  refine h5 F ma S H σ ds _ cf ?_
  revert h
  cases compM (own.map (·.2)) fi ft tt fe ds with
  | stuck => exact fun h => h
  | err ec ds1 => exact fun h ma1 S1 H1 ex c1 => h ma1 S1 H1 σ ex c1
  | ok xs ds1 =>
    intro h ma1 S1 H1 v ex c1 r
    obtain ⟨p, vs, rfl, hp, f, r⟩ := r
    obtain ⟨c2, ex2⟩ := c1.adopt hp f
    exact h ma1 _ H1 _ (ex.trans ex2) (c2.put (.lst upd_same (r.mono ex2)) i)
/-- .. the name's own -/
theorem s_ownLc (i : Nat) {y : Str} {py : Pos} {elt tg iter : Expr} {ifs : List Expr} {scope : Scope} {lpos : Pos} (own : List (Str × Nat)) {is : List Nat} {fi : M (List D)} {ft : D → M Unit} {tt : M Bool} {fe : M D} (hc : c.calm = true) (hN : c.N[i]? = some y) (hyl : c.sc.names.lookup y = some .local)
    (hsw : ∀ env : Env, env.scope = c.sc → swapsWith (.ListComp elt [⟨tg, iter, ifs, 0⟩] scope lpos) (some (.Name y py)) pos.line env = pure true) (okB : BlkOk c.N c.sc scope own) (hi : VI c tg iter fi) (hg : TG1 (c.blk scope) tg is ft)
    (ht : VTs (c.blk scope) ifs tt) (he : VE (c.blk scope) elt fe) (his : ∀ i ∈ is, i ∈ own.map (·.2)) (hs : ∀ (env : Env) x, foldedSetIterable iter env x = pure x := by intro _ _; rfl) :
    VS c (.Assign [.Name y py] (.ListComp elt [⟨tg, iter, ifs, 0⟩] scope lpos) pos) (ownM i (compM (own.map (·.2)) fi ft tt fe)) := by
  refine ⟨fun X W ok => ?_⟩
  obtain ⟨wi, g, t, te, h1, h2, h3, h4, h5⟩ := lc_reads ok hi hg his ht he
  have nd := ok.nd
  obtain ⟨exc, k, isdef, fnc, rfl⟩ := ok.eq
  refine ⟨_, ps_setLc hc nd hN hyl (hsw X.env rfl) h1 okB h2 h3 h4 (hs X.env), fun F ma S H σ ds E cf h => ?_⟩
  have h : SRes _ W F ma S ((compM (own.map (·.2)) fi ft tt fe ds).bind fun x s => .ok Out.nx { s with env := s.env.set i (.own x) }) E := h
  refine h5 F ma S H σ ds _ cf ?_
  revert h
  cases compM (own.map (·.2)) fi ft tt fe ds with
  | stuck => exact fun h => h
  | err ec ds1 => exact fun h ma1 S1 H1 ex c1 => h ma1 S1 H1 σ ex c1
  | ok xs ds1 =>
    intro h ma1 S1 H1 v ex c1 r
    obtain ⟨p, vs, rfl, hp, f, r⟩ := r
    exact h ma1 S1 H1 _ ex (c1.putOwn (s := .own xs) rfl ⟨_, hp, r⟩ f i)
end

/-! ### defs -/
inductive FR where
  | ok (d : D) (m : List MO) | err (c : String) (m : List MO) | stuck
abbrev Den := List D → List MO → FR
def spD (B : Bs) (den : Den) : Sp := fun vs H Q E => ∃ ma S ds mem, Cf B.kw (around S H ma) ma S H (vs.map some) ⟨ds.map .val, mem⟩ ∧ RepL B.kw S ma ds vs ∧
  match den ds mem with
  | .ok d m => ∀ ma' S' H' v, Ext ma S ma' S' → Cf B.kw (around S H ma) ma' S' H' [] ⟨[], m⟩ → Rep B.kw S' ma' d v → Q v H'
  | .err e m => ∀ ma' S' H', Ext ma S ma' S' → Cf B.kw (around S H ma) ma' S' H' [] ⟨[], m⟩ → E (B.exc e) none H'
  | .stuck => False
structure Callee (B : Bs) (x : Str) (den : Den) (k : Nat) : Prop where
  ex : ∃ f fd ps, FnOk B.P B.w B.K B.mg B.base (L2.CX B.P B.w) k f fd ps (spD B den) ∧ B.mg x = some (.ref f) ∧ PySem.W.keepIn B.K (.ref f) = true ∧ Binds B.K fd ps []
def callM (den : Den) (fs : M (List D)) : M D := bnd fs fun ds s => match den ds s.mem with
  | .ok d m => .ok d { s with mem := m }
  | .err e m => .err e { s with mem := m }
  | .stuck => .stuck
theorem v_call {c : SC} {pos p : Pos} {x : Str} {e : Expr} {es : List Expr} {den : Den} {fs : M (List D)} {k : Nat} (hcal : Callee c.B x den k) (hk : k ≤ c.k) (hc : c.calm = true) (hg : Glo c.sc x) (ha : VA c (e :: es) fs)
    (hdb : (x == ("__debug__" : Str)) = false := by decide) (he : ∀ env : Env, starEach (e :: es) env = (false, eval e env) :: starEach es env := by intro _; rfl) (hpl : ∀ env : Env, (backTo pos (starEach es env)).any (·.1) = false := by intro _; rfl) :
    VE c (.Call (.Name x p) (e :: es) [] pos) (callM den fs) := by
  refine ⟨fun X W ok => ?_⟩
  obtain ⟨t, pa, q⟩ := ha.run X W ok
  have tk := ok.tk
  have room := ok.room hc
  obtain ⟨exc, k', isdef, fnc, rfl⟩ := ok.eq
  obtain ⟨f, fd, ps, F, hm, kp, hb⟩ := hcal.ex
  refine ⟨_, pe_callS F (room.mono hk) hg hm kp hb (fun σ => passAt tk σ) pa hdb (he X.env) (hpl X.env), fun F ma S H σ ds Q cf h => ?_⟩
  refine q F ma S H σ ds _ cf (Res.bind h fun d ds1 ma1 S1 H1 x c1 c1 r1 h1 => ?_)
  have h1 : Res _ W F (RpV (xkw X)) σ ma1 S1 (match den d ds1.mem with
    | .ok d m => .ok d { ds1 with mem := m }
    | .err e m => .err e { ds1 with mem := m }
    | .stuck => .stuck) Q := h1
  refine ⟨ma1, S1, d, ds1.mem, c1.toCall r1, r1, ?_⟩
  revert h1
  cases den d ds1.mem with
  | stuck => exact fun h => h
  | err ec m => exact fun h ma' S' H' ex cc => h ma' S' H' ex (c1.ofCall ex cc)
  | ok dd m => exact fun h ma' S' H' v ex cc r => h ma' S' H' v ex (c1.ofCall ex cc) r
/-- a def's meaning from its body's: ar parameters, n names -/
def fnDen (ar n : Nat) (body : M Out) : Den := fun args mem => if args.length = ar then
    match body ⟨args.map .val ++ List.replicate (n - ar) .un, mem⟩ with
    | .ok .nx s => .ok .non s.mem
    | .ok (.rt d) s => .ok d s.mem
    | .ok _ _ => .stuck
    | .err e s => .err e s.mem
    | .stuck => .stuck
  else .stuck
theorem fn_mk {B : Bs} {x qual : Str} {st : Stmt} {f : Addr} {fd : FuncData} {N ps : List Str} {k : Nat} {body : M Out} (F : Fun B.K x qual st f fd) (Sc : FnScope N ps (defScope st))
    (h : VB ⟨B, N, defScope st, k, true, true, fun _ => true⟩ (defBody st) body) : FnOk B.P B.w B.K B.mg B.base (L2.CX B.P B.w) (k + 1) f fd ps (spD B (fnDen ps.length N.length body)) := by
  have hpl : ps.length ≤ N.length := by have := congrArg List.length Sc.pre; rw [List.length_take] at this; omega
  refine F.okX Sc (fun vs H Q E hs => ?_) (fun cdv A outer s H vs Q E hr hs => ?_)
  · obtain ⟨ma, S, ds, mem, cf, r, hd⟩ := hs
    rw [← r.length]
    unfold fnDen at hd
    by_cases hl : ds.length = ps.length
    · exact hl
    · rw [if_neg hl] at hd; exact hd.elim
  · obtain ⟨ma, S, ds, mem, cf, r, hd⟩ := hs
    unfold fnDen at hd
    by_cases hl : ds.length = ps.length
    · rw [if_pos hl] at hd
      obtain ⟨t, p, q⟩ := h.run (cxOf (L2.CX B.P B.w) B.P B.w B.K B.mg B.base N qual (defScope st) f cdv A outer s H E) (fun cls d _ H' => E cls d H')
        ⟨⟨B.exc, k, true, _, rfl⟩, fun _ => hr, Sc.nd, fun _ _ => rfl, takes_of rfl rfl rfl rfl, passes_of rfl, fun _ => ⟨rfl, rfl⟩⟩
      refine ⟨t, p, ?_⟩
      have e : L2.start N vs = vs.map some ++ List.replicate (N.length - ps.length) none := by unfold L2.start; rw [← r.length, hl]
      rw [e]
      refine q (around S H ma) ma S H _ ⟨ds.map .val ++ List.replicate (N.length - ps.length) .un, mem⟩ _ (cf.pad _) ?_
      revert hd
      cases body ⟨ds.map .val ++ List.replicate (N.length - ps.length) .un, mem⟩ with
      | stuck => exact fun h => h
      | err ec s' => exact fun h ma' S' H' σ' ex c1 => h ma' S' H' ex c1.bare
      | ok o s' =>
        cases o with
        | nx => exact fun h ma' S' H' σ' ex c1 => h ma' S' H' _ ex c1.bare .non
        | bk => exact fun h => h.elim
        | ct => exact fun h => h.elim
        | rt d => exact fun h ma' S' H' σ' ex c1 v r => h ma' S' H' v ex c1.bare r
    · rw [if_neg hl] at hd; exact hd.elim

/-! ### errors -/
structure ExcF (B : Bs) (x : Str) (nm : String) : Prop where
  ex : ∃ C, B.exc nm = .ref C ∧ B.mg x = some (.ref C) ∧ PySem.W.excIn B.K C [.type "ValueError", .type "Exception", .type "BaseException", .type "object"] "ValueError.__new__" = true ∧ PySem.W.keepIn B.K (.ref C) = true ∧
    PySem.W.subIn B.K (.ref C) (.type "BaseException") = some true ∧ PySem.W.typeIn B.K (.ref C) = some (.type "type")
def raiseM (nm : String) : M Out := fun s => .err nm s
theorem s_raise {c : SC} {x m : Str} {nm : String} {j : Nat} {p p2 pos pos2 : Pos} (hc : c.calm = true) (h : ExcF c.B x nm) (hg : Glo c.sc x) (hdb : (x == ("__debug__" : Str)) = false := by decide) :
    VS c (.Raise (some (.Call (.Name x p) [.Constant (.str m) j p2] [] pos)) none pos2) (raiseM nm) := by
  refine ⟨fun X W ok => ?_⟩
  have tk := ok.tk
  obtain ⟨exc, k', isdef, fnc, rfl⟩ := ok.eq
  obtain ⟨C, h1, h2, h3, h4, h5, h6⟩ := h.ex
  refine ⟨_, ps_raise hc tk (pmk_own PySem.F.excBase_ValueError h3 h2 h4 (raises_own h5 h6) hg hdb), fun F ma S H σ ds E cf h => ?_⟩
  have h : ∀ ma' S' H' σ', Ext ma S ma' S' → Cf (xkw X) F ma' S' H' σ' ds → W (exc nm) none σ' H' := h
  have q := h ma S H σ Ext.refl cf
  have h1 : exc nm = .ref C := h1
  rw [h1] at q
  exact q
/-- the errors of L are told apart by their names -/
def ExmF (B : Bs) (L : List String) : Prop := ∀ a ∈ L, ∀ b ∈ L, PySem.W.exmOne B.K (B.exc a) (B.exc b) = some (decide (a = b))
def handM (e : String) : List (String × M Out) → M Out
  | [] => fun s => .err e s
  | (h, g) :: r => if e = h then fun s => noErr (g s) else handM e r
def tryM (L : List String) (f : M Out) (hs : List (String × M Out)) : M Out := fun s => match f s with
  | .err e s' => if e ∈ L then handM e hs s' else .stuck
  | r => r
def SC.suite (c : SC) : SC := { c with calm := false, isdef := false }
inductive VHs (c : SC) (L : List String) : List ExceptHandler → List (String × M Out) → Prop
  | nil : VHs c L [] []
  | cons {x : Str} {nm : String} {b₀ : Stmt} {suite : List Stmt} {g : M Out} {np pos' : Pos} {hds : List ExceptHandler} {l : List (String × M Out)} (hx : ExcF c.B x nm) (hL : nm ∈ L) (hg : Glo c.sc x) (hdb : (x == ("__debug__" : Str)) = false) (hsu : VB c.suite (b₀ :: suite) g) (r : VHs c L hds l) :
      VHs c L (.ExceptHandler (some (.Name x np)) none (b₀ :: suite) pos' :: hds) ((nm, g) :: l)
theorem Ok.suite {c : SC} {X : Cx} {W : WX} (ok : Ok c X W) (a : Addr) (pn : List (Addr × Obj)) : Ok c.suite (X.suite a pn) W0 := by
  obtain ⟨⟨exc, k, isdef, fnc, rfl⟩, h2, h3, h4, h5, h6, h7⟩ := ok
  exact ⟨⟨exc, k, _, _, rfl⟩, fun h => absurd (show false = true from h) Bool.false_ne_true, h3, h4, takes0, PassesOwn.never, fun h => absurd (show false = true from h) Bool.false_ne_true⟩
theorem Ok.tr {c : SC} {X : Cx} {W W' : WX} {pn : List (Addr × Obj)} {xe : Value → Shared → Prop} (ok : Ok c X W) (tk : Takes (X.tr pn xe) W') (po : PassesOwn (model X.prog X.w) X.A X.env xe) : Ok c (X.tr pn xe) W' := by
  obtain ⟨⟨exc, k, isdef, fnc, rfl⟩, h2, h3, h4, h5, h6, h7⟩ := ok
  exact ⟨⟨exc, k, _, _, rfl⟩, h2, h3, h4, tk, po, h7⟩
theorem SRes.noErr {B : Bs} {W : WX} {F : Hp} {ma : List Addr} {S : Hp} {r : R Out} {E : Ends} (h : SRes B W F ma S (noErr r) E) : SRes B W0 F ma S r E := by
  cases r with
  | ok o ds => exact h
  | err e ds => exact h.elim
  | stuck => exact h
theorem s_try {c : SC} {L : List String} {body : List Stmt} {fb : M Out} {h₀ : ExceptHandler} {hds : List ExceptHandler} {l : List (String × M Out)} {pos : Pos} (hd : c.isdef = true) (hex : ExmF c.B L) (hb : VB c body fb) (hh : VHs c L (h₀ :: hds) l) : VS c (.Try body (h₀ :: hds) [] [] pos) (tryM L fb l) := by
  refine ⟨fun X W ok => ?_⟩
  have dfn := ok.dfn hd
  have tk := ok.tk
  have hb' := fun (W' : WX) (pn : List (Addr × Obj)) (xe : Value → Shared → Prop) (tk' : Takes (X.tr pn xe) W') (po : PassesOwn (model X.prog X.w) X.A X.env xe) => hb.run (X.tr pn xe) W' (ok.tr tk' po)
  -- the clauses
  have cl : ∀ {hds : List ExceptHandler} {l : List (String × M Out)}, VHs c L hds l → ∃ l' : List (Value × (Addr → Value → Option Addr → TS)), HdsOk X hds l' ∧ ∀ e F ma S E, e ∈ L → ∀ σ H ds, Cf c.B.kw F ma S H σ ds → SRes c.B W F ma S (handM e l ds) E → wMany X.K W E l' (c.B.exc e) none σ H := by
    intro hds l vh
    induction vh with
    | nil =>
      refine ⟨[], .nil, fun e F ma S E he σ H ds cf h => h ma S H σ Ext.refl cf⟩
    | @cons x nm b₀ suite g np pos' hds l hx hL hg hdb hsu r ih =>
      obtain ⟨l', ok', q'⟩ := ih
      have hs' := fun (a : Addr) (oe : Obj) (pn : List (Addr × Obj)) => hsu.run _ _ (ok.suite a ((a, oe) :: pn))
      obtain ⟨C, e1, e2, e3, e4, e5, e6⟩ := hx.ex
      have eqc := ok.eq
      refine ⟨(.ref C, fun a cls d D σ H => ∀ oe pn, (hs' a oe pn).choose D σ H) :: l', .cons ?_ (fun a oe cls d pn hz hf => ⟨fun pins s σ H D I h => (hs' a oe pn).choose_spec.1.run pins s σ H D I (h oe pn)⟩) ok', fun e F ma S E he σ H ds cf h => ?_⟩
      · obtain ⟨exc, k, isdef, fnc, rfl⟩ := eqc
        exact ⟨hg, hdb, .inl e2⟩
      · have hm := hex e he nm hL
        rw [e1] at hm
        have eK : X.K = c.B.K := by obtain ⟨exc, k, isdef, fnc, rfl⟩ := eqc; rfl
        rw [eK]
        refine ⟨_, hm, fun hb a ha oe pn => ?_, fun hb => ?_⟩
        · have hb := of_decide_eq_true hb
          have h : SRes c.B W F ma S ((if e = nm then fun s => noErr (g s) else handM e l) ds) E := h
          rw [if_pos hb] at h
          exact (hs' a oe pn).choose_spec.2 F ma S H σ ds E cf h.noErr
        · have hb := of_decide_eq_false hb
          have h : SRes c.B W F ma S ((if e = nm then fun s => noErr (g s) else handM e l) ds) E := h
          rw [if_neg hb] at h
          have := q' e F ma S E he σ H ds cf h
          rw [eK] at this
          exact this
  obtain ⟨l', hk, ql⟩ := cl hh
  refine ⟨_, ps_try_many (tb := fun W' D σ H => ∀ pn xe (tk' : Takes (X.tr pn xe) W') (po : PassesOwn (model X.prog X.w) X.A X.env xe), (hb' W' pn xe tk' po).choose D σ H) dfn.1 dfn.2 tk (fun W' pn xe tk' po => ⟨fun pins s σ H D I h => (hb' W' pn xe tk' po).choose_spec.1.run pins s σ H D I (h pn xe tk' po)⟩) hk, fun F ma S H σ ds E cf h => ?_⟩
  intro pn xe tk' po
  refine (hb' _ pn xe tk' po).choose_spec.2 F ma S H σ ds E cf ?_
  have h : SRes c.B W F ma S (match fb ds with
    | .err e s' => if e ∈ L then handM e l s' else .stuck
    | r => r) E := h
  revert h
  cases fb ds with
  | stuck => exact fun h => h
  | ok o s' => exact fun h => h
  | err e s' =>
    intro h ma1 S1 H1 σ1 ex c1
    have h : SRes c.B W F ma S (if e ∈ L then handM e l s' else .stuck) E := h
    by_cases he : e ∈ L
    · rw [if_pos he] at h
      exact ql e F ma1 S1 E he σ1 H1 s' c1 (SRes.later h ex)
    · rw [if_neg he] at h; exact h.elim
end Vl
namespace Vl
open PySem PySem.Spec PyProof.Rows L2

/-! ### values as data -/
mutual
def toP : D → PyData
  | .non => .none
  | .bl b => .bool b
  | .int i => .int i
  | .str x => .str x
  | .lst xs => .list (toPs xs)
  | .frl xs => .list (toPs xs)
  | .tup xs => .tuple (toPs xs)
  | .ktp xs => .tuple (toPs xs)
  | .dK _ _ => .dict []
  | .dT _ _ => .dict []
  | .mut _ => .dict []
def toPs : List D → List PyData
  | [] => []
  | d :: ds => toP d :: toPs ds
end
theorem toPs_map : ∀ xs : List D, toPs xs = xs.map toP
  | [] => rfl
  | x :: xs => by rw [toPs, toPs_map xs]; rfl
theorem toPs_length (xs : List D) : (toPs xs).length = xs.length := by rw [toPs_map]; simp
section
variable {X : Cx} {pins : List (Addr × Obj)} {σ : L2.St} {H S F : Hp} {s : Shared} {ma : List Addr} {ds : DS}
mutual
theorem Rep.reads (I : Inv X pins σ H s) (sm : Same S H) : ∀ {d : D} {v : V} {u : Value}, Rep (xkw X) S ma d v → RelV v u → (toP d).plain = true → ∃ as, Reads s.heap u (toP d) as
  | _, _, _, .non, r, _ => by cases r; exact ⟨_, .none⟩
  | _, _, _, .bl b, r, _ => by cases r; exact ⟨_, .bool b⟩
  | _, _, _, .int i, r, _ => by obtain ⟨t, rfl⟩ := r; exact ⟨_, .int i t⟩
  | _, _, _, .str x, r, _ => by obtain ⟨t, rfl⟩ := r; exact ⟨_, .str x t⟩
  | _, _, _, .lst h q, r, p => by
    cases r
    obtain ⟨its, rv, ⟨o, n, ho, hc, _, hd⟩, _⟩ := I.list (.inl (.inl (sm _ _ h)))
    obtain ⟨as, hr⟩ := RepL.reads I sm q rv (by simpa [toP, PyData.plain] using p)
    exact ⟨_, Reads.list ho hc hd hr⟩
  | _, _, _, .frl h q, r, p => by
    cases r
    obtain ⟨its, rv, ⟨o, n, ho, hc, _, hd⟩, _⟩ := I.list (sm.seq h)
    obtain ⟨as, hr⟩ := RepL.reads I sm q rv (by simpa [toP, PyData.plain] using p)
    exact ⟨_, Reads.list ho hc hd hr⟩
  | _, _, _, .ktp h q, r, p => by
    cases r
    obtain ⟨its, rv, ⟨o, ho, hc, n, hd⟩, _⟩ := I.tuple (seqT sm h)
    obtain ⟨as, hr⟩ := RepL.reads I sm q rv (by simpa [toP, PyData.plain] using p)
    exact ⟨_, Reads.tuple ho hc hd hr⟩
  | _, _, _, .tup h q, r, p => by
    cases r
    obtain ⟨its, rv, ⟨o, ho, hc, n, hd⟩, _⟩ := I.tuple (seqT sm (tsq h))
    obtain ⟨as, hr⟩ := RepL.reads I sm q rv (by simpa [toP, PyData.plain] using p)
    exact ⟨_, Reads.tuple ho hc hd hr⟩
  | _, _, _, .dK _ _ _, _, p => by simp [toP, PyData.plain] at p
  | _, _, _, .dT _ _ _ _, _, p => by simp [toP, PyData.plain] at p
  | _, _, _, .mut _, _, p => by simp [toP, PyData.plain] at p
theorem RepL.reads (I : Inv X pins σ H s) (sm : Same S H) : ∀ {d : List D} {v : List V} {u : List Value}, RepL (xkw X) S ma d v → Vals v u → PyData.plainAll (toPs d) = true → ∃ as, ReadsAll s.heap u (toPs d) as
  | _, _, _, .nil, r, _ => by cases r; exact ⟨_, .nil⟩
  | _, _, _, .cons h q, r, p => by
    cases r with
    | cons r1 r2 =>
      rw [toPs, PyData.plainAll, Bool.and_eq_true] at p
      obtain ⟨as, h1⟩ := Rep.reads I sm h r1 p.1
      obtain ⟨bs, h2⟩ := RepL.reads I sm q r2 p.2
      exact ⟨_, .cons h1 h2⟩
end
end
/-- plain and not too deep -/
def dat (d : D) : Bool := (toP d).plain && decide ((toP d).depth ≤ 60)
def dats (xs : List D) : Bool := PyData.plainAll (toPs xs) && decide (PyData.depthAll (toPs xs) ≤ 60)
def eqvD (a b : D) : Bool := PyData.eqv (toP a) (toP b)
def likeD (a b : D) : Bool := PySem.W.alike (toP a) (toP b)
def ltD (a b : D) : Bool := PySem.W.dataLt (toP a) (toP b)
theorem room60 {c : SC} {X : Cx} {W : WX} (ok : Ok c X W) (hc : c.calm = true) : X.A.units + 120 < cLine := by
  have := (ok.room hc).un
  omega

section
variable {c : SC}
/-- from a rule without a new object -/
theorem OpV.flat {f : Value → Value → Sem Value} {g : D → D → Option D}
    (h : ∀ X W, Ok c X W → ∀ (pins : List (Addr × Obj)) (s : Shared) (σ : L2.St) (ma : List Addr) (S H : Hp) a b d x y v u Q, Inv X pins σ H s → Same S H → Rep c.B.kw S ma a x → Rep c.B.kw S ma b y → RelV x v → RelV y u → g a b = some d →
      (∀ (z : V) s', Inv X pins σ H s' → Rep c.B.kw S ma d z → ∀ w, RelV z w → Q w s') → wpAny (model X.prog X.w) X.A (f v u) Q X.xe s) : OpV c f g := by
  intro X W ok
  refine ⟨fun x y H Q => ∃ ma S a b d, Same S H ∧ Rep c.B.kw S ma a x ∧ Rep c.B.kw S ma b y ∧ g a b = some d ∧ ∀ z, Rep c.B.kw S ma d z → Q z H, ?_, ?_⟩
  · intro pins s σ H x y v u Q I rx ry ⟨ma, S, a, b, d, cf, ra, rb, hg, q⟩
    exact h X W ok pins s σ ma S H a b d x y v u _ I cf ra rb rx ry hg fun z s' I' rz w rw => ⟨z, H, I', rw, q z rz⟩
  · intro F ma S H σ ds a b x y Q cf ra rb hr
    cases hg : g a b with
    | none => rw [hg] at hr; exact hr.elim
    | some d =>
      rw [hg] at hr
      exact ⟨ma, S, a, b, d, cf.sub, ra, rb, hg, fun z rz => hr ma S H z Ext.refl cf rz⟩
/-- ints -/
theorem OpV.ints {f : Value → Value → Sem Value} {g : D → D → Option D} {C : Int → Int → Prop} {k : Int → Int → V} (ho : ∀ X : Cx, OpR X f (rI C k)) (hg : ∀ a b d, g a b = some d → ∃ i j e, a = .int i ∧ b = .int j ∧ C i j ∧ d = e ∧ ∀ K S ma, Rep K S ma e (k i j)) : OpV c f g := by
  intro X W ok
  refine ⟨_, ho X, fun F ma S H σ ds a b x y Q cf ra rb hr => ?_⟩
  cases e : g a b with
  | none => rw [e] at hr; exact hr.elim
  | some d =>
    rw [e] at hr
    obtain ⟨i, j, e', rfl, rfl, hc, rfl, rk⟩ := hg a b d e
    cases ra
    cases rb
    exact ⟨i, j, rfl, rfl, hc, hr ma S H _ Ext.refl cf (rk _ _ _)⟩
theorem OpV.ints0 {f : Value → Value → Sem Value} {g : D → D → Option D} {k : Int → Int → V} (ho : ∀ X : Cx, OpR X f (rI0 k)) (hg : ∀ a b d, g a b = some d → ∃ i j e, a = .int i ∧ b = .int j ∧ d = e ∧ ∀ K S ma, Rep K S ma e (k i j)) : OpV c f g := by
  intro X W ok
  refine ⟨_, ho X, fun F ma S H σ ds a b x y Q cf ra rb hr => ?_⟩
  cases e : g a b with
  | none => rw [e] at hr; exact hr.elim
  | some d =>
    rw [e] at hr
    obtain ⟨i, j, e', rfl, rfl, rfl, rk⟩ := hg a b d e
    cases ra
    cases rb
    exact ⟨i, j, rfl, rfl, hr ma S H _ Ext.refl cf (rk _ _ _)⟩
/-- one of two -/
theorem OpV.or {f : Value → Value → Sem Value} {g g' k : D → D → Option D} (h : OpV c f g) (h' : OpV c f g') (hk : ∀ a b, k a b = g a b ∨ k a b = g' a b) : OpV c f k := by
  intro X W ok
  obtain ⟨r, p, q⟩ := h X W ok
  obtain ⟨r', p', q'⟩ := h' X W ok
  refine ⟨_, p.or p', fun F ma S H σ ds a b x y Q cf ra rb hr => ?_⟩
  rcases hk a b with e | e
  · rw [e] at hr; exact .inl (q F ma S H σ ds a b x y Q cf ra rb hr)
  · rw [e] at hr; exact .inr (q' F ma S H σ ds a b x y Q cf ra rb hr)

/-! ### + -/
def addI : D → D → Option D
  | .int i, .int j => some (.int (i + j))
  | _, _ => none
def addS : D → D → Option D
  | .str a, .str b => if a.length + b.length ≤ 16777216 then some (.str (a ++ b)) else none
  | _, _ => none
def addL : D → D → Option D
  | .lst a, .lst b => if a.length + b.length ≤ 16777216 then some (.lst (a ++ b)) else none
  | _, _ => none
def addT : D → D → Option D
  | .tup a, .tup b => if a.length + b.length ≤ 16777216 then some (.tup (a ++ b)) else none
  | _, _ => none
def addD : D → D → Option D
  | .int i, .int j => some (.int (i + j))
  | .str a, .str b => if a.length + b.length ≤ 16777216 then some (.str (a ++ b)) else none
  | .lst a, .lst b => if a.length + b.length ≤ 16777216 then some (.lst (a ++ b)) else none
  | .tup a, .tup b => if a.length + b.length ≤ 16777216 then some (.tup (a ++ b)) else none
  | _, _ => none
theorem o_addI : OpV c (binaryOp .Add) addI := OpV.ints0 (fun _ => op_add) fun a b d h => by
  unfold addI at h
  split at h <;> cases h
  exact ⟨_, _, _, rfl, rfl, rfl, fun _ _ _ => .int _⟩
theorem o_addS : OpV c (binaryOp .Add) addS := by
  intro X W ok
  refine ⟨_, op_add_str, fun F ma S H σ ds a b x y Q cf ra rb hr => ?_⟩
  cases ra with
  | str i =>
    cases rb with
    | str j =>
      have hr : Res c.B W F (RpV c.B.kw) σ ma S (opt (if i.length + j.length ≤ 16777216 then some (D.str (i ++ j)) else none) ds) Q := hr
      by_cases hz : i.length + j.length ≤ 16777216
      · rw [if_pos hz] at hr
        exact ⟨i, j, rfl, rfl, by rw [sizeLine_eq]; exact hz, hr ma S H _ Ext.refl cf (.str _)⟩
      · rw [if_neg hz] at hr; exact hr.elim
    | _ => exact (show False from hr).elim
  | _ => exact (show False from hr).elim
theorem o_addL : OpV c (binaryOp .Add) addL := by
  intro X W ok
  refine ⟨_, op_cat, fun F ma S H σ ds a b x y Q cf ra rb hr => ?_⟩
  cases ra with
  | @lst a i vs h1 h2 =>
    cases rb with
    | @lst b j us h3 h4 =>
      have hr : Res c.B W F (RpV c.B.kw) σ ma S (opt (if i.length + j.length ≤ 16777216 then some (D.lst (i ++ j)) else none) ds) Q := hr
      by_cases hz : i.length + j.length ≤ 16777216
      · rw [if_pos hz] at hr
        refine ⟨a, b, vs, us, rfl, rfl, cf.sub _ _ h1, cf.sub _ _ h3, by rw [sizeLine_eq, ← h2.length, ← h4.length]; exact hz, fun p hp => ?_⟩
        obtain ⟨c2, ex⟩ := cf.lay (.lst (vs ++ us)) hp
        exact hr ma _ _ _ ex c2 (.lst upd_same ((h2.app h4).mono ex))
      · rw [if_neg hz] at hr; exact hr.elim
    | _ => exact (show False from hr).elim
  | _ => exact (show False from hr).elim
theorem o_addT : OpV c (binaryOp .Add) addT := by
  intro X W ok
  obtain ⟨exc, k, isdef, fnc, rfl⟩ := ok.eq
  refine ⟨_, op_catA, fun F ma S H σ ds a b x y Q cf ra rb hr => ?_⟩
  cases ra with
  | @tup a i vs h1 h2 =>
    cases rb with
    | @tup b j us h3 h4 =>
      have hr : Res _ W F (RpV (xkw X)) σ ma S (opt (if i.length + j.length ≤ 16777216 then some (D.tup (i ++ j)) else none) ds) Q := hr
      by_cases hz : i.length + j.length ≤ 16777216
      · rw [if_pos hz] at hr
        refine ⟨a, b, vs, us, rfl, rfl, seqT cf.sub (tsq h1), seqT cf.sub (tsq h3), by rw [sizeLine_eq, ← h2.length, ← h4.length]; exact hz, fun e => ?_, fun e1 e => ?_, fun e1 e2 p hp => ?_⟩
        · subst e
          have : i = [] := List.eq_nil_of_length_eq_zero h2.length
          subst this
          exact hr ma S H _ Ext.refl cf (.tup h3 h4)
        · subst e
          have : j = [] := List.eq_nil_of_length_eq_zero h4.length
          subst this
          exact hr ma S H _ Ext.refl cf (.tup h1 (by simpa using h2))
        · obtain ⟨c2, ex⟩ := cf.lay (.tup (vs ++ us)) hp
          exact hr ma _ _ _ ex c2 (.tup upd_same ((h2.app h4).mono ex))
      · rw [if_neg hz] at hr; exact hr.elim
    | _ => exact (show False from hr).elim
  | _ => exact (show False from hr).elim
theorem o_add : OpV c (binaryOp .Add) addD := by
  refine (o_addI.or o_addS (k := fun a b => match a with | .int _ => addI a b | _ => addS a b) fun a b => by cases a <;> simp).or (o_addL.or o_addT (k := fun a b => match a with | .lst _ => addL a b | _ => addT a b) fun a b => by cases a <;> simp) fun a b => ?_
  cases a with
  | lst x => exact .inr (by cases b <;> rfl)
  | tup x => exact .inr (by cases b <;> rfl)
  | int x => exact .inl (by cases b <;> rfl)
  | str x => exact .inl (by cases b <;> rfl)
  | _ => exact .inl (by cases b <;> rfl)
def subD : D → D → Option D
  | .int i, .int j => some (.int (i - j))
  | _, _ => none
theorem o_sub : OpV c (binaryOp .Sub) subD := OpV.ints0 (fun _ => op_sub) fun a b d h => by
  unfold subD at h
  split at h <;> cases h
  exact ⟨_, _, _, rfl, rfl, rfl, fun _ _ _ => .int _⟩
/-! ### * -/
def mulI : D → D → Option D
  | .int i, .int j => if i.natAbs < 18446744073709551616 ∨ j.natAbs < 18446744073709551616 then some (.int (i * j)) else none
  | _, _ => none
def mulL : D → D → Option D
  | .lst xs, .int k => if k.natAbs ≤ 1000000 ∧ xs.length * k.toNat ≤ 16777216 then some (.lst (List.replicate k.toNat xs).flatten) else none
  | _, _ => none
def mulS : D → D → Option D
  | .str x, .int k => if -1000000 ≤ k ∧ k ≤ 1000000 ∧ x.length * k.toNat ≤ 16777216 then some (.str ⟨((List.replicate k.toNat x.cps.toList).flatten).toArray⟩) else none
  | _, _ => none
def mulD : D → D → Option D
  | .int i, .int j => if i.natAbs < 18446744073709551616 ∨ j.natAbs < 18446744073709551616 then some (.int (i * j)) else none
  | .lst xs, .int k => if k.natAbs ≤ 1000000 ∧ xs.length * k.toNat ≤ 16777216 then some (.lst (List.replicate k.toNat xs).flatten) else none
  | .str x, .int k => if -1000000 ≤ k ∧ k ≤ 1000000 ∧ x.length * k.toNat ≤ 16777216 then some (.str ⟨((List.replicate k.toNat x.cps.toList).flatten).toArray⟩) else none
  | _, _ => none
theorem o_mulI : OpV c (binaryOp .Mult) mulI := OpV.ints (fun _ => op_mul) fun a b d h => by
  unfold mulI at h
  split at h
  · rename_i i j
    split at h
    · rename_i hz
      cases h
      refine ⟨i, j, _, rfl, rfl, ?_, rfl, fun _ _ _ => .int _⟩
      unfold CMul
      rcases hz with hz | hz
      · left; omega
      · right; omega
    · cases h
  · cases h
theorem RepL.rep {K : KW} {S : Hp} {ma : List Addr} {xs : List D} {vs : List V} (h : RepL K S ma xs vs) : ∀ n, RepL K S ma (List.replicate n xs).flatten (List.replicate n vs).flatten
  | 0 => .nil
  | n + 1 => by
    rw [List.replicate_succ, List.replicate_succ, List.flatten_cons, List.flatten_cons]
    exact h.app (RepL.rep h n)
theorem o_mulL : OpV c (binaryOp .Mult) mulL := by
  intro X W ok
  refine ⟨_, op_rep, fun F ma S H σ ds a b x y Q cf ra rb hr => ?_⟩
  cases ra with
  | @lst a i vs h1 h2 =>
    cases rb with
    | int k =>
      have hr : Res c.B W F (RpV c.B.kw) σ ma S (opt (if k.natAbs ≤ 1000000 ∧ i.length * k.toNat ≤ 16777216 then some (D.lst (List.replicate k.toNat i).flatten) else none) ds) Q := hr
      by_cases hz : k.natAbs ≤ 1000000 ∧ i.length * k.toNat ≤ 16777216
      · rw [if_pos hz] at hr
        refine ⟨a, k, vs, rfl, rfl, cf.sub _ _ h1, by omega, by omega, by rw [sizeLine_eq, ← h2.length]; exact hz.2, fun p hp => ?_⟩
        obtain ⟨c2, ex⟩ := cf.lay (.lst (List.replicate k.toNat vs).flatten) hp
        exact hr ma _ _ _ ex c2 (.lst upd_same ((h2.rep k.toNat).mono ex))
      · rw [if_neg hz] at hr; exact hr.elim
    | _ => exact (show False from hr).elim
  | _ => exact (show False from hr).elim
theorem foldl_app (x : Array Nat) : ∀ (n : Nat) (acc : Array Nat), (List.replicate n x).foldl (· ++ ·) acc = acc ++ ((List.replicate n x.toList).flatten).toArray
  | 0, acc => by simp
  | n + 1, acc => by
    rw [List.replicate_succ, List.foldl_cons, foldl_app x n, List.replicate_succ, List.flatten_cons]
    cases x
    simp
theorem o_mulS : OpV c (binaryOp .Mult) mulS := OpV.flat fun X W ok pins s σ ma S H a b d x y v u Q I cf ra rb rv ru hg q => by
  unfold mulS at hg
  split at hg
  · rename_i z k
    split at hg
    · rename_i hz
      cases hg
      cases ra
      cases rb
      obtain ⟨t, rfl⟩ := rv
      obtain ⟨t', rfl⟩ := ru
      obtain ⟨h1, h2, h4⟩ := hz
      have ok2 : MulOk z k := by
        refine ⟨by rw [decide_eq_false (by omega), decide_eq_false (by omega)]; rfl, fun hn hk => ?_, fun hn hk => ?_⟩
        · have hzl : (z.length : Int) ≤ 16777216 := by
            have : z.length * 1 ≤ z.length * k.toNat := Nat.mul_le_mul_left _ (by omega)
            omega
          have e : (2 ^ 63 - 1) / 1000000 ≤ (2 ^ 63 - 1) / k := by
            refine (Int.le_ediv_iff_mul_le (by omega)).mpr ?_
            have : (2 ^ 63 - 1 : Int) / 1000000 * k ≤ (2 ^ 63 - 1 : Int) / 1000000 * 1000000 := Int.mul_le_mul_of_nonneg_left h2 (by decide)
            have h5 : (2 ^ 63 - 1 : Int) / 1000000 * 1000000 ≤ 2 ^ 63 - 1 := by decide
            omega
          have e6 : (16777216 : Int) ≤ (2 ^ 63 - 1) / 1000000 := by decide
          omega
        · unfold Builtin.Str.tooLong
          exact decide_eq_false (by rw [sizeLine_eq]; omega)
      have em : Txt.mul z k = ⟨((List.replicate k.toNat z.cps.toList).flatten).toArray⟩ := by
        unfold Txt.mul
        by_cases hn : k < 1
        · rw [if_pos hn]
          have : k.toNat = 0 := by omega
          rw [this]; rfl
        · rw [if_neg hn]
          by_cases hk : (k == 1 || z.length == 0) = true
          · rw [if_pos hk]
            rw [Bool.or_eq_true, beq_iff_eq, beq_iff_eq] at hk
            rcases hk with hk | hk
            · subst hk
              simp
            · have hz : z.cps = #[] := Array.eq_empty_of_size_eq_zero hk
              have e : ∀ m : Nat, (List.replicate m ([] : List Nat)).flatten = [] := fun m => by simp
              cases z with
              | mk cps =>
                simp only at hz
                subst hz
                show Str.mk _ = Str.mk ((List.replicate k.toNat ([] : List Nat)).flatten).toArray
                rw [e]
          · rw [if_neg hk]
            have ea : (List.replicate k.toNat z.cps).foldl (· ++ ·) #[] = ((List.replicate k.toNat z.cps.toList).flatten).toArray := by
              rw [foldl_app]; simp
            rw [ea]
      refine PySem.SB.mul ok2 fun t' n => ?_
      rw [em]
      exact q _ _ (I.tok _) (.str _) _ ⟨_, rfl⟩
    · cases hg
  · cases hg
theorem o_mul : OpV c (binaryOp .Mult) mulD := by
  refine o_mulI.or (o_mulL.or o_mulS (k := fun a b => match a with | .lst _ => mulL a b | _ => mulS a b) fun a b => by cases a <;> simp) fun a b => ?_
  cases a with
  | lst x => exact .inr (by cases b <;> rfl)
  | str x => exact .inr (by cases b <;> rfl)
  | _ => exact .inl (by cases b <;> rfl)
def fdivD : D → D → Option D
  | .int i, .int j => if j ≠ 0 ∧ j.natAbs < 1073741824 then some (.int (i.fdiv j)) else none
  | _, _ => none
theorem o_fdiv : OpV c (binaryOp .FloorDiv) fdivD := OpV.ints (fun _ => op_fdivN) fun a b d h => by
  unfold fdivD at h
  split at h
  · split at h
    · rename_i hz
      cases h
      exact ⟨_, _, _, rfl, rfl, hz, rfl, fun _ _ _ => .int _⟩
    · cases h
  · cases h
def modD : D → D → Option D
  | .int i, .int j => if j ≠ 0 then some (.int (i.fmod j)) else none
  | _, _ => none
theorem o_mod : OpV c (binaryOp .Mod) modD := OpV.ints (fun _ => op_modN) fun a b d h => by
  unfold modD at h
  split at h
  · split at h
    · rename_i hz
      cases h
      exact ⟨_, _, _, rfl, rfl, hz, rfl, fun _ _ _ => .int _⟩
    · cases h
  · cases h
def powD : D → D → Option D
  | .int i, .int j => if 0 ≤ j ∧ j ≤ 1000000 ∧ i.natAbs < 18446744073709551616 then some (.int (i ^ j.toNat)) else none
  | _, _ => none
theorem o_pow : OpV c (binaryOp .Pow) powD := OpV.ints (fun _ => op_pow) fun a b d h => by
  unfold powD at h
  split at h
  · split at h
    · rename_i hz
      cases h
      exact ⟨_, _, _, rfl, rfl, hz, rfl, fun _ _ _ => .int _⟩
    · cases h
  · cases h
/-- in place -/
theorem oi_addI : OpV c (inplaceOp .Add) addI := OpV.ints0 (fun _ => iop_add) fun a b d h => by
  unfold addI at h
  split at h <;> cases h
  exact ⟨_, _, _, rfl, rfl, rfl, fun _ _ _ => .int _⟩
theorem oi_sub : OpV c (inplaceOp .Sub) subD := OpV.ints0 (fun _ => iop_sub) fun a b d h => by
  unfold subD at h
  split at h <;> cases h
  exact ⟨_, _, _, rfl, rfl, rfl, fun _ _ _ => .int _⟩
/-! ### -x -/
def negD : D → Option D
  | .int i => some (.int (-i))
  | _ => none
def unM (g : D → Option D) (f : M D) : M D := bnd f fun d => opt (g d)
theorem v_neg {e : Expr} {f : M D} {pos : Pos} (h : VE c e f) : VE c (.UnaryOp .USub e pos) (unM negD f) := by
  refine ⟨fun X W ok => ?_⟩
  obtain ⟨t, p, q⟩ := h.run X W ok
  refine ⟨_, pe_un un_neg p, fun F ma S H σ ds Q cf h => ?_⟩
  refine q F ma S H σ ds _ cf (Res.bind h fun d ds1 ma1 S1 H1 x e1 c1 r1 h1 => ?_)
  cases r1 with
  | int i => exact ⟨i, rfl, h1 ma1 S1 H1 _ Ext.refl c1 (.int _)⟩
  | _ => exact (show False from h1).elim

/-! ### ==, !=, in, not in, <, <=, >, >= -/
def eqD (a b : D) : Option D := if dat a = true ∧ dat b = true then some (.bl (eqvD a b)) else none
def neD (a b : D) : Option D := if dat a = true ∧ dat b = true then some (.bl (!eqvD a b)) else none
theorem dat_split {a : D} (h : dat a = true) : (toP a).plain = true ∧ (toP a).depth ≤ 60 := by
  unfold dat at h
  rw [Bool.and_eq_true] at h
  exact ⟨h.1, of_decide_eq_true h.2⟩
theorem o_eq (hc : c.calm = true) : OpV c (compareOp .Eq) eqD := OpV.flat fun X W ok pins s σ ma S H a b d x y v u Q I cf ra rb rv ru hg q => by
  unfold eqD at hg
  split at hg
  · rename_i hz
    cases hg
    have hu := room60 ok hc
    obtain ⟨exc, k, isdef, fnc, rfl⟩ := ok.eq
    obtain ⟨p1, d1⟩ := dat_split hz.1
    obtain ⟨p2, d2⟩ := dat_split hz.2
    obtain ⟨as, r1⟩ := ra.reads I cf rv p1
    obtain ⟨bs, r2⟩ := rb.reads I cf ru p2
    exact PySem.SeqAt.eq_plain r1 r2 p1 p2 (by omega) (q _ _ I (.bl _) _ rfl)
  · cases hg
theorem o_ne (hc : c.calm = true) : OpV c (compareOp .NotEq) neD := OpV.flat fun X W ok pins s σ ma S H a b d x y v u Q I cf ra rb rv ru hg q => by
  unfold neD at hg
  split at hg
  · rename_i hz
    cases hg
    have hu := room60 ok hc
    obtain ⟨exc, k, isdef, fnc, rfl⟩ := ok.eq
    obtain ⟨p1, d1⟩ := dat_split hz.1
    obtain ⟨p2, d2⟩ := dat_split hz.2
    obtain ⟨as, r1⟩ := ra.reads I cf rv p1
    obtain ⟨bs, r2⟩ := rb.reads I cf ru p2
    exact PySem.SeqAt.ne_plain r1 r2 p1 p2 (by omega) (q _ _ I (.bl _) _ rfl)
  · cases hg
def inStr (j i : Str) : Bool := !(Builtin.Str.occurrences j i 0 j.length 1).isEmpty
def inD : D → D → Option D
  | a, .lst xs => if dat a = true ∧ dat (.lst xs) = true then some (.bl (xs.any fun y => eqvD y a)) else none
  | a, .frl xs => if dat a = true ∧ dat (.frl xs) = true then some (.bl (xs.any fun y => eqvD y a)) else none
  | a, .tup xs => if dat a = true ∧ dat (.tup xs) = true then some (.bl (xs.any fun y => eqvD y a)) else none
  | a, .ktp xs => if dat a = true ∧ dat (.ktp xs) = true then some (.bl (xs.any fun y => eqvD y a)) else none
  | .str a, .str b => some (.bl (inStr b a))
  | _, _ => none
def notInD (a b : D) : Option D := match inD a b with
  | some (.bl k) => some (.bl (!k))
  | _ => none
theorem any_toPs (xs : List D) (a : D) : ((toPs xs).any fun y => PyData.eqv y (toP a)) = xs.any fun y => eqvD y a := by
  rw [toPs_map, List.any_map]; rfl
theorem o_in (hc : c.calm = true) : OpV c (compareOp .In) inD := OpV.flat fun X W ok pins s σ ma S H a b d x y v u Q I cf ra rb rv ru hg q => by
  have hu := room60 ok hc
  obtain ⟨exc, k, isdef, fnc, rfl⟩ := ok.eq
  unfold inD at hg
  split at hg
  · rename_i xs
    split at hg
    · rename_i hz
      cases hg
      obtain ⟨p1, d1⟩ := dat_split hz.1
      obtain ⟨p2, d2⟩ := dat_split hz.2
      obtain ⟨as, r1⟩ := ra.reads I cf rv p1
      obtain ⟨bs, r2⟩ := rb.reads I cf ru p2
      have p3 : PyData.plainAll (toPs xs) = true := by simpa [toP, PyData.plain] using p2
      exact PySem.SeqAt.in_list_data (xs := toPs xs) (d := toP a) (by simpa [toP] using r2) r1 p3 p1 (by omega) (by rw [any_toPs]; exact q _ _ I (.bl _) _ rfl)
    · cases hg
  · rename_i xs
    split at hg
    · rename_i hz
      cases hg
      obtain ⟨p1, d1⟩ := dat_split hz.1
      obtain ⟨p2, d2⟩ := dat_split hz.2
      obtain ⟨as, r1⟩ := ra.reads I cf rv p1
      obtain ⟨bs, r2⟩ := rb.reads I cf ru p2
      have p3 : PyData.plainAll (toPs xs) = true := by simpa [toP, PyData.plain] using p2
      exact PySem.SeqAt.in_list_data (xs := toPs xs) (d := toP a) (by simpa [toP] using r2) r1 p3 p1 (by omega) (by rw [any_toPs]; exact q _ _ I (.bl _) _ rfl)
    · cases hg
  · rename_i xs
    split at hg
    · rename_i hz
      cases hg
      obtain ⟨p1, d1⟩ := dat_split hz.1
      obtain ⟨p2, d2⟩ := dat_split hz.2
      obtain ⟨as, r1⟩ := ra.reads I cf rv p1
      obtain ⟨bs, r2⟩ := rb.reads I cf ru p2
      have p3 : PyData.plainAll (toPs xs) = true := by simpa [toP, PyData.plain] using p2
      exact PySem.SeqAt.in_tuple_data (xs := toPs xs) (d := toP a) (by simpa [toP] using r2) r1 p3 p1 (by omega) (by rw [any_toPs]; exact q _ _ I (.bl _) _ rfl)
    · cases hg
  · rename_i xs
    split at hg
    · rename_i hz
      cases hg
      obtain ⟨p1, d1⟩ := dat_split hz.1
      obtain ⟨p2, d2⟩ := dat_split hz.2
      obtain ⟨as, r1⟩ := ra.reads I cf rv p1
      obtain ⟨bs, r2⟩ := rb.reads I cf ru p2
      have p3 : PyData.plainAll (toPs xs) = true := by simpa [toP, PyData.plain] using p2
      exact PySem.SeqAt.in_tuple_data (xs := toPs xs) (d := toP a) (by simpa [toP] using r2) r1 p3 p1 (by omega) (by rw [any_toPs]; exact q _ _ I (.bl _) _ rfl)
    · cases hg
  · cases hg
    cases ra
    cases rb
    obtain ⟨t, rfl⟩ := rv
    obtain ⟨t', rfl⟩ := ru
    exact in_str (q _ _ I (.bl _) _ rfl)
  · cases hg
theorem o_notIn (hc : c.calm = true) : OpV c (compareOp .NotIn) notInD := OpV.flat fun X W ok pins s σ ma S H a b d x y v u Q I cf ra rb rv ru hg q => by
  have hu := room60 ok hc
  obtain ⟨exc, k, isdef, fnc, rfl⟩ := ok.eq
  unfold notInD at hg
  split at hg
  · rename_i kk hin
    cases hg
    unfold inD at hin
    split at hin
    · rename_i xs
      split at hin
      · rename_i hz
        cases hin
        obtain ⟨p1, d1⟩ := dat_split hz.1
        obtain ⟨p2, d2⟩ := dat_split hz.2
        obtain ⟨as, r1⟩ := ra.reads I cf rv p1
        obtain ⟨bs, r2⟩ := rb.reads I cf ru p2
        have p3 : PyData.plainAll (toPs xs) = true := by simpa [toP, PyData.plain] using p2
        exact PySem.SeqAt.notIn_list_data (xs := toPs xs) (d := toP a) (by simpa [toP] using r2) r1 p3 p1 (by omega) (by rw [any_toPs]; exact q _ _ I (.bl _) _ rfl)
      · cases hin
    · rename_i xs
      split at hin
      · rename_i hz
        cases hin
        obtain ⟨p1, d1⟩ := dat_split hz.1
        obtain ⟨p2, d2⟩ := dat_split hz.2
        obtain ⟨as, r1⟩ := ra.reads I cf rv p1
        obtain ⟨bs, r2⟩ := rb.reads I cf ru p2
        have p3 : PyData.plainAll (toPs xs) = true := by simpa [toP, PyData.plain] using p2
        exact PySem.SeqAt.notIn_list_data (xs := toPs xs) (d := toP a) (by simpa [toP] using r2) r1 p3 p1 (by omega) (by rw [any_toPs]; exact q _ _ I (.bl _) _ rfl)
      · cases hin
    · rename_i xs
      split at hin
      · rename_i hz
        cases hin
        obtain ⟨p1, d1⟩ := dat_split hz.1
        obtain ⟨p2, d2⟩ := dat_split hz.2
        obtain ⟨as, r1⟩ := ra.reads I cf rv p1
        obtain ⟨bs, r2⟩ := rb.reads I cf ru p2
        have p3 : PyData.plainAll (toPs xs) = true := by simpa [toP, PyData.plain] using p2
        exact PySem.SeqAt.notIn_tuple_data (xs := toPs xs) (d := toP a) (by simpa [toP] using r2) r1 p3 p1 (by omega) (by rw [any_toPs]; exact q _ _ I (.bl _) _ rfl)
      · cases hin
    · rename_i xs
      split at hin
      · rename_i hz
        cases hin
        obtain ⟨p1, d1⟩ := dat_split hz.1
        obtain ⟨p2, d2⟩ := dat_split hz.2
        obtain ⟨as, r1⟩ := ra.reads I cf rv p1
        obtain ⟨bs, r2⟩ := rb.reads I cf ru p2
        have p3 : PyData.plainAll (toPs xs) = true := by simpa [toP, PyData.plain] using p2
        exact PySem.SeqAt.notIn_tuple_data (xs := toPs xs) (d := toP a) (by simpa [toP] using r2) r1 p3 p1 (by omega) (by rw [any_toPs]; exact q _ _ I (.bl _) _ rfl)
      · cases hin
    · cases hin
      cases ra
      cases rb
      obtain ⟨t, rfl⟩ := rv
      obtain ⟨t', rfl⟩ := ru
      exact notIn_str (q _ _ I (.bl _) _ rfl)
    · cases hin
  · cases hg
/-- the two can be compared by < -/
def ordD (a b : D) : Bool := dat a && dat b && likeD a b && !(match a with | .non => true | _ => false)
theorem alike_plain : ∀ {a : PyData}, True := trivial
def cmpV (op : Bool → Bool → Bool) (a b : D) : Option D := if ordD a b = true then some (.bl (op (ltD a b) (ltD b a))) else none
def ltV : D → D → Option D := cmpV fun l _ => l
def gtV : D → D → Option D := cmpV fun _ g => g
def leV : D → D → Option D := cmpV fun _ g => !g
def geV : D → D → Option D := cmpV fun l _ => !l
theorem ord_split {a b : D} (h : ordD a b = true) : dat a = true ∧ dat b = true ∧ PySem.W.alike (toP a) (toP b) = true ∧ toP a ≠ .none := by
  unfold ordD at h
  simp only [Bool.and_eq_true] at h
  obtain ⟨⟨⟨h1, h2⟩, h3⟩, h4⟩ := h
  refine ⟨h1, h2, h3, fun e => ?_⟩
  cases a <;> simp [toP] at e
  exact absurd h4 (by decide)
theorem cmp_any {op : CmpOp} {k : Bool → Bool → Bool} (hc : c.calm = true)
    (rule : ∀ (X : Cx) (s : Shared) (a b : Value) (da db : PyData) as bs (Q : Value → Shared → Prop), Reads s.heap a da as → Reads s.heap b db bs → PySem.W.alike da db = true → da ≠ .none → X.A.units + min da.depth db.depth < cLine → Q (.bool (k (PySem.W.dataLt da db) (PySem.W.dataLt db da))) s →
      wpAny (model X.prog X.w) X.A (compareOp op a b) Q X.xe s) : OpV c (compareOp op) (cmpV k) := OpV.flat fun X W ok pins s σ ma S H a b d x y v u Q I cf ra rb rv ru hg q => by
  have hu := room60 ok hc
  obtain ⟨exc, kk, isdef, fnc, rfl⟩ := ok.eq
  unfold cmpV at hg
  split at hg
  · rename_i hz
    cases hg
    obtain ⟨z1, z2, z3, z4⟩ := ord_split hz
    obtain ⟨p1, d1⟩ := dat_split z1
    obtain ⟨p2, d2⟩ := dat_split z2
    obtain ⟨as, r1⟩ := ra.reads I cf rv p1
    obtain ⟨bs, r2⟩ := rb.reads I cf ru p2
    exact rule X s v u _ _ as bs Q r1 r2 z3 z4 (by omega) (q _ _ I (.bl _) _ rfl)
  · cases hg
theorem o_lt (hc : c.calm = true) : OpV c (compareOp .Lt) ltV := cmp_any hc fun X s a b da db as bs Q h1 h2 h3 h4 h5 h6 => PySem.W.lt_data h1 h2 h3 h4 h5 h6
theorem o_gt (hc : c.calm = true) : OpV c (compareOp .Gt) gtV := cmp_any hc fun X s a b da db as bs Q h1 h2 h3 h4 h5 h6 => PySem.W.gt_data h1 h2 h3 h4 h5 h6
theorem o_le (hc : c.calm = true) : OpV c (compareOp .LtE) leV := cmp_any hc fun X s a b da db as bs Q h1 h2 h3 h4 h5 h6 => PySem.W.le_data h1 h2 h3 h4 h5 h6
theorem o_ge (hc : c.calm = true) : OpV c (compareOp .GtE) geV := cmp_any hc fun X s a b da db as bs Q h1 h2 h3 h4 h5 h6 => PySem.W.ge_data h1 h2 h3 h4 h5 h6
/-! is None, is not None -/
def isNon : D → Bool
  | .non => true
  | _ => false
def isNV (a b : D) : Option D := if isNon b = true then some (.bl (isNon a)) else none
def notNV (a b : D) : Option D := if isNon b = true then some (.bl (!isNon a)) else none
theorem rep_non {K : KW} {S : Hp} {ma : List Addr} {a : D} {x : V} (r : Rep K S ma a x) : decide (x = .non) = isNon a := by
  cases r <;> rfl
theorem o_isN : OpV c (compareOp .Is) isNV := by
  intro X W ok
  refine ⟨_, op_isN, fun F ma S H σ ds a b x y Q cf ra rb hr => ?_⟩
  have hr : Res c.B W F (RpV c.B.kw) σ ma S (opt (if isNon b = true then some (D.bl (isNon a)) else none) ds) Q := hr
  cases rb with
  | non => exact ⟨rfl, by rw [rep_non ra]; exact hr ma S H _ Ext.refl cf (.bl _)⟩
  | _ => exact hr.elim
theorem o_notN : OpV c (compareOp .IsNot) notNV := by
  intro X W ok
  refine ⟨_, op_notN, fun F ma S H σ ds a b x y Q cf ra rb hr => ?_⟩
  have hr : Res c.B W F (RpV c.B.kw) σ ma S (opt (if isNon b = true then some (D.bl (!isNon a)) else none) ds) Q := hr
  cases rb with
  | non => exact ⟨rfl, by rw [rep_non ra]; exact hr ma S H _ Ext.refl cf (.bl _)⟩
  | _ => exact hr.elim
/-! a < b < c -/
def chM (g h : D → D → Option D) (fa fb fc : M D) : M D := bnd fa fun x => bnd fb fun y => bnd (opt (g x y)) fun z => bnd (opt (asB z)) fun k => if k = true then bnd fc fun w => opt (h y w) else rtn (.bl false)
theorem chain_run {X : Cx} {W : WX} {r r' : R2} {g g' : D → D → Option D} {fa fb fc : M D} {ta tb tc : TE}
    (qa : ∀ F ma S H σ ds Q, Cf c.B.kw F ma S H σ ds → Res c.B W F (RpV c.B.kw) σ ma S (fa ds) Q → ta σ H Q) (qb : ∀ F ma S H σ ds Q, Cf c.B.kw F ma S H σ ds → Res c.B W F (RpV c.B.kw) σ ma S (fb ds) Q → tb σ H Q) (qc : ∀ F ma S H σ ds Q, Cf c.B.kw F ma S H σ ds → Res c.B W F (RpV c.B.kw) σ ma S (fc ds) Q → tc σ H Q)
    (qr : ∀ F ma S H σ ds a b x y Q, Cf c.B.kw F ma S H σ ds → Rep c.B.kw S ma a x → Rep c.B.kw S ma b y → Res c.B W F (RpV c.B.kw) σ ma S (opt (g a b) ds) Q → r x y H Q)
    (qr' : ∀ F ma S H σ ds a b x y Q, Cf c.B.kw F ma S H σ ds → Rep c.B.kw S ma a x → Rep c.B.kw S ma b y → Res c.B W F (RpV c.B.kw) σ ma S (opt (g' a b) ds) Q → r' x y H Q) :
    ∀ F ma S H σ ds Q, Cf c.B.kw F ma S H σ ds → Res c.B W F (RpV c.B.kw) σ ma S (chM g g' fa fb fc ds) Q → tChain r r' ta tb tc σ H Q := by
  intro F ma S H σ ds Q cf h
  refine qa F ma S H σ ds _ cf (Res.bind h fun d1 ds1 ma1 S1 H1 x e1 c1 r1 h1 => ?_)
  refine qb F ma1 S1 H1 σ ds1 _ c1 (Res.bind h1 fun d2 ds2 ma2 S2 H2 y e2 c2 r2 h2 => ?_)
  refine qr F ma2 S2 H2 σ ds2 d1 d2 x y _ c2 (Rep.mono e2 r1) r2 (Res.bind h2 fun d3 ds3 ma3 S3 H3 z e3 c3 r3 h3 => ?_)
  cases r3 with
  | bl k =>
    refine ⟨k, rfl, ?_⟩
    cases k with
    | false => rw [if_neg Bool.false_ne_true]; exact h3 ma3 S3 H3 _ Ext.refl c3 (.bl false)
    | true =>
      rw [if_pos rfl]
      have h3 : Res c.B W F (RpV c.B.kw) σ ma3 S3 ((fc ds3).bind fun w s => opt (g' d2 w) s) Q := h3
      refine qc F ma3 S3 H3 σ ds3 _ c3 (Res.bind h3 fun d4 ds4 ma4 S4 H4 w e4 c4 r4 h4 => ?_)
      exact qr' F ma4 S4 H4 σ ds4 d2 d4 y w Q c4 (Rep.mono (e3.trans e4) r2) r4 h4
  | _ => exact (show False from h3).elim
theorem v_chain {op op' : CmpOp} {g g' : D → D → Option D} {a b e : Expr} {fa fb fc : M D} {pos : Pos} (ho : OpV c (compareOp op) g) (ho' : OpV c (compareOp op') g') (ha : VE c a fa) (hb : VE c b fb) (hc : VE c e fc)
    (hm : lastMarks [op, op'] [b, e] = false) : VE c (.Compare a [op, op'] [b, e] pos) (chM g g' fa fb fc) := by
  refine ⟨fun X W ok => ?_⟩
  obtain ⟨ta, pa, qa⟩ := ha.run X W ok
  obtain ⟨tb, pb, qb⟩ := hb.run X W ok
  obtain ⟨tc, pc, qc⟩ := hc.run X W ok
  obtain ⟨r, po, qo⟩ := ho X W ok
  obtain ⟨r', po', qo'⟩ := ho' X W ok
  exact ⟨_, pe_chain po po' pa pb pc hm, chain_run (X := X) qa qb qc qo qo'⟩
theorem t_chain {op op' : CmpOp} {g g' : D → D → Option D} {a b e : Expr} {fa fb fc : M D} {pos : Pos} (ho : OpV c (compareOp op) g) (ho' : OpV c (compareOp op') g') (ha : VE c a fa) (hb : VE c b fb) (hc : VE c e fc)
    (hm : lastMarks [op, op'] [b, e] = false) : VT c (.Compare a [op, op'] [b, e] pos) (tstM (chM g g' fa fb fc)) := by
  refine ⟨fun X W ok => ?_⟩
  obtain ⟨ta, pa, qa⟩ := ha.run X W ok
  obtain ⟨tb, pb, qb⟩ := hb.run X W ok
  obtain ⟨tc, pc, qc⟩ := hc.run X W ok
  obtain ⟨r, po, qo⟩ := ho X W ok
  obtain ⟨r', po', qo'⟩ := ho' X W ok
  refine ⟨_, pt_chain po po' pa pb pc hm, fun F ma S H σ ds Q cf h => ?_⟩
  refine chain_run (X := X) qa qb qc qo qo' F ma S H σ ds _ cf (Res.bind h fun d ds1 ma1 S1 H1 x e1 c1 r1 h1 => ?_)
  cases r1 with
  | bl k => exact ⟨k, rfl, h1 ma1 S1 H1 k Ext.refl c1 rfl⟩
  | _ => exact (show False from h1).elim
end
end Vl
namespace Vl
open PySem PySem.Spec PyProof.Rows L2
/-! ### keys of tables -/
def keyK : D → Option Key
  | .int i => some (.inl i)
  | .str x => some (.inr x)
  | _ => none
section
variable {κ β : Type} [DecidableEq κ]
/-- what a table holds at a key -/
def lkD : List κ → List β → κ → Option β
  | k' :: ks, d :: ds, k => if k' = k then some d else lkD ks ds k
  | _, _, _ => none
/-- a table, written at a key -/
def reD : List κ → List β → κ → β → List β
  | k' :: ks, d :: ds, k, x => (if k' = k then x else d) :: reD ks ds k x
  | _, _, _, _ => []
def puD (ks : List κ) (ds : List β) (k : κ) (x : β) : List κ × List β := if k ∈ ks then (ks, reD ks ds k x) else (ks ++ [k], ds ++ [x])
theorem reD_len {k : κ} {x : β} : ∀ {ks : List κ} {ds : List β}, ks.length = ds.length → (reD ks ds k x).length = ks.length
  | [], [], _ => rfl
  | _ :: ks, _ :: ds, h => by rw [reD, List.length_cons, reD_len (by simpa using h), List.length_cons]
  | [], _ :: _, h => by simp at h
  | _ :: _, [], h => by simp at h
theorem lkD_map {γ : Type} [DecidableEq γ] {f : κ → γ} (hf : ∀ a b, f a = f b → a = b) {k : κ} : ∀ {ks : List κ} {ds : List β}, lkD (ks.map f) ds (f k) = lkD ks ds k
  | [], _ => by cases ‹List β› <;> rfl
  | _ :: _, [] => rfl
  | k' :: ks, d :: ds => by
    rw [List.map_cons, lkD, lkD, lkD_map hf]
    by_cases h : k' = k
    · rw [if_pos h, if_pos (by rw [h])]
    · rw [if_neg h, if_neg fun z => h (hf _ _ z)]
theorem reD_map {γ : Type} [DecidableEq γ] {f : κ → γ} (hf : ∀ a b, f a = f b → a = b) {k : κ} {x : β} : ∀ {ks : List κ} {ds : List β}, reD (ks.map f) ds (f k) x = reD ks ds k x
  | [], _ => by cases ‹List β› <;> rfl
  | _ :: _, [] => rfl
  | k' :: ks, d :: ds => by
    rw [List.map_cons, reD, reD, reD_map hf]
    by_cases h : k' = k
    · rw [if_pos h, if_pos (by rw [h])]
    · rw [if_neg h, if_neg fun z => h (hf _ _ z)]
end
section
variable {K : KW} {S : Hp} {ma : List Addr}
theorem keyK_rep {d : D} {v : V} {k : Key} (r : Rep K S ma d v) (h : keyK d = some k) : v = kV k := by
  cases r <;> first | (cases h; rfl) | cases h
variable {κ : Type} [DecidableEq κ]
theorem any_zip {β : Type} {k : κ} : ∀ {ks : List κ} {vs : List β}, ks.length = vs.length → ((ks.zip vs).any fun kv => decide (kv.1 = k)) = decide (k ∈ ks)
  | [], [], _ => by simp
  | k' :: ks, v :: vs, h => by
    rw [List.zip_cons_cons, List.any_cons, any_zip (ks := ks) (by simpa using h)]
    rw [Bool.eq_iff_iff]
    simp only [Bool.or_eq_true, decide_eq_true_iff, List.mem_cons]
    constructor
    · rintro (h | h)
      · exact .inl h.symm
      · exact .inr h
    · rintro (h | h)
      · exact .inl h.symm
      · exact .inr h
  | [], _ :: _, h => by simp at h
  | _ :: _, [], h => by simp at h
theorem reD_rep {k : κ} {x : D} {v : V} (rx : Rep K S ma x v) : ∀ {ks : List κ} {ds : List D} {vs : List V}, RepL K S ma ds vs → ks.length = ds.length → ((ks.zip vs).map fun kv => if kv.1 = k then (kv.1, v) else kv) = ks.zip (reD ks vs k v) ∧ RepL K S ma (reD ks ds k x) (reD ks vs k v)
  | [], _, _, .nil, _ => ⟨rfl, .nil⟩
  | k' :: ks, _, _, .cons (v := w) (vs := vs) a r, hl => by
    obtain ⟨e1, e2⟩ := reD_rep (k := k) rx (ks := ks) r (by simpa using hl)
    rw [List.zip_cons_cons, List.map_cons, e1, reD, reD, List.zip_cons_cons]
    by_cases h : k' = k
    · simp only [if_pos h]
      exact ⟨trivial, .cons rx e2⟩
    · simp only [if_neg h]
      exact ⟨trivial, .cons a e2⟩
  | [], _, _, .cons _ _, hl => by simp at hl
  | _ :: _, _, _, .nil, hl => by simp at hl
theorem puD_rep {ks : List κ} {ds : List D} {vs : List V} {k : κ} {x : D} {v : V} (r : RepL K S ma ds vs) (hl : ks.length = ds.length) (rx : Rep K S ma x v) :
    ∃ us, putK (ks.zip vs) k v = (puD ks ds k x).1.zip us ∧ RepL K S ma (puD ks ds k x).2 us ∧ (puD ks ds k x).1.length = (puD ks ds k x).2.length := by
  have hv : ks.length = vs.length := by rw [hl, r.length]
  unfold putK puD
  rw [any_zip hv]
  by_cases h : k ∈ ks
  · rw [if_pos (decide_eq_true h), if_pos h]
    obtain ⟨e1, e2⟩ := reD_rep (k := k) rx r hl
    exact ⟨_, e1, e2, by rw [reD_len hl]⟩
  · rw [if_neg (by simpa using h), if_neg h]
    refine ⟨vs ++ [v], ?_, r.app (.cons rx .nil), by simp [hl]⟩
    rw [List.zip_append hv]
    rfl
theorem lkD_rep : ∀ {ks : List κ} {ds : List D} {vs : List V} {k : κ}, RepL K S ma ds vs → ks.length = ds.length → match lkD ks ds k with
    | some d => ∃ v, valV (ks.zip vs) k = some v ∧ Rep K S ma d v
    | none => valV (ks.zip vs) k = none
  | [], _, _, k, .nil, _ => rfl
  | k' :: ks, _, _, k, .cons (v := v) (vs := vs) a r, hl => by
    have ih := lkD_rep (ks := ks) (k := k) r (by simpa using hl)
    unfold lkD
    rw [List.zip_cons_cons]
    by_cases h : k' = k
    · rw [if_pos h]
      exact ⟨v, valV_pos h, a⟩
    · rw [if_neg h, valV_neg (p := (k', v)) h]
      exact ih
  | [], _, _, k, .cons _ _, hl => by simp at hl
  | _ :: _, _, _, k, .nil, hl => by simp at hl
/-- what is held at a key, and that -/
def OptR (K : KW) (S : Hp) (ma : List Addr) : Option D → Option V → Prop
  | some e, some v => Rep K S ma e v
  | none, none => True
  | _, _ => False
theorem lkD_opt {ks : List κ} {xs : List D} {vs : List V} {k : κ} (r : RepL K S ma xs vs) (hl : ks.length = xs.length) : OptR K S ma (lkD ks xs k) (valV (ks.zip vs) k) := by
  have := lkD_rep (k := k) r hl
  cases e : lkD ks xs k with
  | none => rw [e] at this; rw [show valV (ks.zip vs) k = none from this]; trivial
  | some d => rw [e] at this; obtain ⟨v, h1, h2⟩ := this; rw [h1]; exact h2
theorem lkD_two : ∀ {ks : List κ} {ds : List D} {vs : List V} {k : κ}, RepL K S ma ds vs → OptR K S ma (lkD ks ds k) (lkD ks vs k)
  | [], _, _, k, r => by cases r <;> trivial
  | k' :: ks, _, _, k, .nil => trivial
  | k' :: ks, _, _, k, .cons (v := v) (vs := vs) a r => by
    rw [lkD, lkD]
    by_cases h : k' = k
    · rw [if_pos h, if_pos h]; exact a
    · rw [if_neg h, if_neg h]; exact lkD_two r
theorem OptR.isSome {o : Option D} {ov : Option V} (h : OptR K S ma o ov) : ov.isSome = o.isSome := by
  cases o <;> cases ov <;> first | rfl | exact h.elim
end
/-! ### tables with keys that are tuples -/
section
variable {X : Cx} {pins : List (Addr × Obj)} {σ : L2.St} {H S : Hp} {ma : List Addr} {s : Shared}
mutual
theorem keyN_is (I : Inv X pins σ H s) (sm : Same S H) : ∀ {d : D} {v : V} {u : Value} {k : NestedKey}, Rep (xkw X) S ma d v → RelV v u → keyN d = some k → NestedIs s.heap k u
  | _, _, _, _, .non, r, h => by cases r; cases h; exact .none
  | _, _, _, _, .bl b, r, h => by cases h
  | _, _, _, _, .int i, r, h => by obtain ⟨t, rfl⟩ := r; cases h; exact .int i t
  | _, _, _, _, .str x, r, h => by obtain ⟨t, rfl⟩ := r; cases h; exact .text x t
  | _, _, _, _, .lst _ _, r, h => by cases h
  | _, _, _, _, .frl _ _, r, h => by cases h
  | _, _, _, _, .ktp _ _, r, h => by cases h
  | _, _, _, _, .dK _ _ _, r, h => by cases h
  | _, _, _, _, .dT _ _ _ _, r, h => by cases h
  | _, _, _, _, .mut _, r, h => by cases h
  | _, _, _, k, .tup (ds := ds) h1 h2, r, h => by
    cases r
    obtain ⟨its, rv, ⟨o, ho, hc, n, hd⟩, _⟩ := I.tuple (seqT sm (tsq h1))
    rw [keyN] at h
    cases e : keysN ds with
    | none => rw [e] at h; cases h
    | some ks =>
      rw [e] at h
      cases h
      exact .tup ho hc hd (by simpa using keysN_are I sm h2 rv e)
theorem keysN_are (I : Inv X pins σ H s) (sm : Same S H) : ∀ {ds : List D} {vs : List V} {us : List Value} {ks : List NestedKey}, RepL (xkw X) S ma ds vs → Vals vs us → keysN ds = some ks → NestedAll s.heap ks us
  | _, _, _, _, .nil, r, h => by cases r; cases h; exact .nil
  | _, _, _, ks, .cons (d := d) (ds := ds) a q, r, h => by
    cases r with
    | cons r1 r2 =>
      rw [keysN] at h
      cases e : keyN d with
      | none => rw [e] at h; cases h
      | some k =>
        rw [e] at h
        cases e2 : keysN ds with
        | none => rw [e2] at h; cases h
        | some l =>
          rw [e2] at h
          cases h
          exact .cons (keyN_is I sm a r1 e) (keysN_are I sm q r2 e2)
end
theorem keyT_tup {d : D} {k : NestedKey} (h : keyT d = some k) : ∃ ds, d = .tup ds ∧ keyN d = some k ∧ k.depth ≤ 8 := by
  cases d with
  | tup ds =>
    have h : ((keyN (.tup ds)).bind fun k => if k.depth ≤ 8 then some k else none) = some k := h
    obtain ⟨k', e, h⟩ := Option.bind_eq_some_iff.mp h
    split at h
    · rename_i hz; cases h; exact ⟨ds, rfl, e, hz⟩
    · cases h
  | _ => cases h
theorem keyT_is (I : Inv X pins σ H s) (sm : Same S H) {d : D} {v : V} {k : NestedKey} (r : Rep (xkw X) S ma d v) (h : keyT d = some k) : ∃ b, v = .ref b ∧ (nestedKind X.prog X.w).is s.heap k b := by
  obtain ⟨ds, rfl, h1, h2⟩ := keyT_tup h
  cases r with
  | tup a q => exact ⟨_, rfl, keyN_is I sm (.tup a q) rfl h1, h2⟩
/-- the dict at a, as the library tells it -/
theorem NTab.dict (I : Inv X pins σ H s) (sm : Same S H) {a : Addr} {ks : List D} {nks : List NestedKey} {bs : List Addr} {vs : List V} (h : Rd H a (.ext (NTab X.w a nks bs vs))) (t : TF ks a nks bs vs) (r : RepL (xkw X) S ma ks (bs.map .ref)) :
    ∃ us : List Value, Vals vs us ∧ s.heap.DictOfH (nestedKind X.prog X.w) a (nks.zip (bs.zip us)) := by
  obtain ⟨⟨us, rv, o, es, ep, h1, h2, h3, h4⟩, _⟩ := h.ok I.hok
  refine ⟨us, rv, o, es, ep, h1, h2, h3, h4, fun x hx => ?_, ?_⟩
  · have hl : nks.length = ks.length := by have := congrArg List.length t.keys; simpa using this.symm
    obtain ⟨i, hi⟩ := List.getElem?_of_mem hx
    rw [List.getElem?_zip_eq_some] at hi
    obtain ⟨e1, e2⟩ := hi
    rw [List.getElem?_zip_eq_some] at e2
    obtain ⟨e2, e3⟩ := e2
    have hik : i < ks.length := by have := (List.getElem?_eq_some_iff.mp e1).1; omega
    have ek : ks[i]? = some ks[i] := List.getElem?_eq_getElem hik
    obtain ⟨v, g1, g2⟩ := r.get ek
    rw [List.getElem?_map, e2] at g1
    cases g1
    have hk : keyT ks[i] = some x.1 := by
      have := congrArg (·[i]?) t.keys
      simp only [List.getElem?_map, ek, e1, Option.map_some, Option.some.injEq] at this
      exact this
    obtain ⟨b, hb, q⟩ := keyT_is I sm g2 hk
    cases hb
    exact q
  · have hl : nks.length = ks.length := by have := congrArg List.length t.keys; simpa using this.symm
    have e : (nks.zip (bs.zip us)).map (·.1) = nks := by
      rw [List.map_fst_zip]
      rw [List.length_zip, t.bl, ← rv.length, t.vl]
      omega
    rw [e]
    exact t.nd
theorem atKey_zip {k : NestedKey} : ∀ {nks : List NestedKey} {bs : List Addr} {vs : List V} {us : List Value}, Vals vs us → nks.length = bs.length → nks.length = vs.length → RelO (lkD nks vs k) ((atKey (nks.zip (bs.zip us)) k).map (·.2))
  | [], _, _, _, r, _, _ => by cases r <;> trivial
  | _ :: _, [], _, _, _, h, _ => by simp at h
  | _ :: _, _ :: _, _, _, .nil, _, h => by simp at h
  | k' :: nks, b :: bs, _, _, .cons (a := v) (b := u) (l₁ := vs) (l₂ := us) rv r, h1, h2 => by
    have ih := atKey_zip (k := k) (nks := nks) (bs := bs) r (by simpa using h1) (by simpa using h2)
    rw [List.zip_cons_cons, List.zip_cons_cons, lkD]
    unfold atKey
    rw [List.find?_cons]
    by_cases h : k' = k
    · rw [if_pos h, decide_eq_true h]; exact rv
    · rw [if_neg h, decide_eq_false h]
      exact ih
/-- what a table of the heap holds at y -/
def NGet (K : KW) (H : Hp) (a : Addr) (y : V) (o : Option V) : Prop := ∃ (S : Hp) (ma : List Addr) (ks : List D) (nks : List NestedKey) (bs : List Addr) (vs : List V) (kd : D) (k : NestedKey), Same S H ∧ Rd H a (.ext (NTab K.w a nks bs vs)) ∧
  TF ks a nks bs vs ∧ RepL K S ma ks (bs.map .ref) ∧ Rep K S ma kd y ∧ keyT kd = some k ∧ lkD nks vs k = o
theorem TF.nl {ks : List D} {a : Addr} {nks : List NestedKey} {bs : List Addr} {vs : List V} (t : TF ks a nks bs vs) : nks.length = ks.length := by have := congrArg List.length t.keys; simpa using this.symm
section
variable {A : Around} {E : Value → Shared → Prop} {a : Addr} {y v : V} {u r : Value} {o : Option V}
theorem NGet.dict (I : Inv X pins σ H s) (g : NGet (xkw X) H a y o) (ry : RelV y u) : ∃ b k xs, u = .ref b ∧ (nestedKind X.prog X.w).is s.heap k b ∧ s.heap.DictOfH (nestedKind X.prog X.w) a xs ∧ RelO o ((atKey xs k).map (·.2)) ∧ (a == sysModules) = false ∧ xs.length ≤ 1000000 := by
  obtain ⟨S, ma, ks, nks, bs, vs, kd, k, sm, hr, t, rk, ry', hk, rfl⟩ := g
  obtain ⟨b, rfl, hb⟩ := keyT_is I sm ry' hk
  obtain rfl : u = Value.ref b := ry
  obtain ⟨us, rv, dd⟩ := NTab.dict I sm hr t rk
  refine ⟨b, k, _, rfl, hb, dd, atKey_zip rv (by rw [t.nl, t.bl]) (by rw [t.nl, t.vl]), t.sys, ?_⟩
  rw [List.length_zip]
  have := t.nl
  have := t.few
  omega
theorem n_getItem {Q : Value → Shared → Prop} (hu : A.units + 9 < cLine) (I : Inv X pins σ H s) (g : NGet (xkw X) H a y (some v)) (ry : RelV y u) (h : ∀ w' s', Inv X pins σ H s' → RelV v w' → Q w' s') :
    wpAny (model X.prog X.w) A (getItem (.ref a) u) Q E s := by
  obtain ⟨b, k, xs, rfl, hb, dd, rel, _⟩ := g.dict I ry
  obtain ⟨w', hw, rw'⟩ := RelO.some_of rel
  obtain ⟨p, hp, hp2⟩ := Option.map_eq_some_iff.mp hw
  refine wpAny_getItem_heap (show A.units + 1 + 8 < cLine by omega) hb dd hp ?_
  rw [hp2]
  exact h w' _ (I.tok _) rw'
theorem n_in {Q : Value → Shared → Prop} (hu : A.units + 9 < cLine) (I : Inv X pins σ H s) (g : NGet (xkw X) H a y o) (ry : RelV y u) (h : ∀ s', Inv X pins σ H s' → Q (.bool o.isSome) s') :
    wpAny (model X.prog X.w) A (compareOp .In u (.ref a)) Q E s := by
  obtain ⟨b, k, xs, rfl, hb, dd, rel, hd, _⟩ := g.dict I ry
  refine wpAny_in_heap (show A.units + 1 + 8 < cLine by omega) hb hd dd ?_
  have q := rel.isSome_eq
  rw [Option.isSome_map] at q
  rw [← q]
  exact h _ (I.tok _)
theorem n_notIn {Q : Value → Shared → Prop} (hu : A.units + 9 < cLine) (I : Inv X pins σ H s) (g : NGet (xkw X) H a y o) (ry : RelV y u) (h : ∀ s', Inv X pins σ H s' → Q (.bool (!o.isSome)) s') :
    wpAny (model X.prog X.w) A (compareOp .NotIn u (.ref a)) Q E s := by
  obtain ⟨b, k, xs, rfl, hb, dd, rel, hd, _⟩ := g.dict I ry
  refine wpAny_notIn_heap (show A.units + 1 + 8 < cLine by omega) hb hd dd ?_
  have q := rel.isSome_eq
  rw [Option.isSome_map] at q
  rw [← q]
  exact h _ (I.tok _)
theorem n_typeIs (I : Inv X pins σ H s) (g : NGet (xkw X) H a y o) : s.TypeIs (.ref a) "dict" := by
  obtain ⟨S, ma, ks, nks, bs, vs, kd, k, sm, hr, t, rk, ry', hk, rfl⟩ := g
  obtain ⟨us, rv, dd⟩ := NTab.dict I sm hr t rk
  exact dd.typeIs
theorem n_get1 {Q : Value → Shared → Prop} (hu : A.units + 9 < cLine) (I : Inv X pins σ H s) (g : NGet (xkw X) H a y o) (ry : RelV y u) (h : ∀ w' s', Inv X pins σ H s' → RelV (o.getD .non) w' → Q w' s') :
    wpAny (model X.prog X.w) A (call (.builtin "dict.get") [.ref a, u]) Q E s := by
  obtain ⟨b, k, xs, rfl, hb, dd, rel, hd, _⟩ := g.dict I ry
  refine call_meetsIn F.slot_dict_get dd.typeIs F.entry_dict_get (F.args_dict_get_2 _ _) (meetsH_dict_get (nestedKind X.prog X.w) a b hd) ⟨show A.units + 1 + 8 < cLine by omega, k, xs, hb, dd, ?_⟩
  refine h _ _ (I.tok _) ?_
  cases e : (atKey xs k).map (·.2) with
  | none => rw [e] at rel; cases o with | none => rfl | some _ => exact rel.elim
  | some x => rw [e] at rel; cases o with | none => exact rel.elim | some _ => exact rel
theorem n_get2 {x : V} {w : Value} {Q : Value → Shared → Prop} (hu : A.units + 9 < cLine) (I : Inv X pins σ H s) (g : NGet (xkw X) H a y o) (ry : RelV y u) (rx : RelV x w) (h : ∀ w' s', Inv X pins σ H s' → RelV (o.getD x) w' → Q w' s') :
    wpAny (model X.prog X.w) A (call (.builtin "dict.get") [.ref a, u, w]) Q E s := by
  obtain ⟨b, k, xs, rfl, hb, dd, rel, hd, _⟩ := g.dict I ry
  refine call_meetsIn F.slot_dict_get dd.typeIs F.entry_dict_get (F.args_dict_get_3 _ _ _) (meetsH_dict_get_default (nestedKind X.prog X.w) a b hd w) ⟨show A.units + 1 + 8 < cLine by omega, k, xs, hb, dd, ?_⟩
  refine h _ _ (I.tok _) ?_
  cases e : (atKey xs k).map (·.2) with
  | none => rw [e] at rel; cases o with | none => exact rx | some _ => exact rel.elim
  | some x => rw [e] at rel; cases o with | none => exact rel.elim | some _ => exact rel
end
/-- the heap behind a[y] = v -/
def NPut (K : KW) (H : Hp) (a : Addr) (y v : V) (H' : Hp) : Prop := ∃ (S : Hp) (ma : List Addr) (ks : List D) (nks : List NestedKey) (bs : List Addr) (vs : List V) (kd : D) (k : NestedKey) (b : Addr), Same S H ∧ H a = some (.ext (NTab K.w a nks bs vs)) ∧
  TF ks a nks bs vs ∧ RepL K S ma ks (bs.map .ref) ∧ Rep K S ma kd y ∧ y = .ref b ∧ keyT kd = some k ∧ ks.length < 1000000 ∧
  H' = upd H a (.ext (if k ∈ nks then NTab K.w a nks bs (reD nks vs k v) else NTab K.w a (nks ++ [k]) (bs ++ [b]) (vs ++ [v])))
theorem ext_ok {P : Program} {w : World} {H : Hp} {h : Heap} {a : Addr} {nks : List NestedKey} {bs : List Addr} {vs : List V} (t : NTab w a nks bs vs h) : ObjOk P w H h a (.ext (NTab w a nks bs vs)) := by
  refine ⟨t, ?_, fun h1 h2 ⟨us, r, o, es, ep, z1, z2⟩ k => ⟨us, r, o, es, ep, k _ z1, z2⟩⟩
  obtain ⟨us, r, o, es, ep, z1, z2⟩ := t
  exact ⟨o, z1⟩
theorem reV {k : NestedKey} {v : V} {r : Value} (rr : RelV v r) : ∀ {nks : List NestedKey} {vs : List V} {us : List Value}, Vals vs us → nks.length = vs.length → Vals (reD nks vs k v) (reD nks us k r)
  | [], _, _, .nil, _ => .nil
  | [], _, _, .cons _ _, h => by simp at h
  | _ :: _, _, _, .nil, h => by simp at h
  | k' :: nks, _, _, .cons a q, h => by
    rw [reD, reD]
    refine .cons ?_ (reV rr q (by simpa using h))
    split
    · exact rr
    · exact a
theorem map_putAt {k : NestedKey} {r : Value} : ∀ {nks : List NestedKey} {bs : List Addr} {us : List Value}, nks.length = bs.length → nks.length = us.length → (nks.zip (bs.zip us)).map (putAt k r) = nks.zip (bs.zip (reD nks us k r))
  | [], _, _, _, _ => rfl
  | _ :: _, [], _, h, _ => by simp at h
  | _ :: _, _ :: _, [], _, h => by simp at h
  | k' :: nks, b :: bs, u :: us, h1, h2 => by
    rw [List.zip_cons_cons, List.zip_cons_cons, List.map_cons, map_putAt (by simpa using h1) (by simpa using h2), reD, List.zip_cons_cons, List.zip_cons_cons]
    unfold putAt
    split <;> rfl
theorem atKey_mem {k : NestedKey} : ∀ {nks : List NestedKey} {ps : List (Addr × Value)}, nks.length = ps.length → (atKey (nks.zip ps) k).isSome = decide (k ∈ nks)
  | [], _, _ => by simp [atKey]
  | _ :: _, [], h => by simp at h
  | k' :: nks, p :: ps, h => by
    have ih := atKey_mem (k := k) (nks := nks) (ps := ps) (by simpa using h)
    unfold atKey at ih ⊢
    rw [List.zip_cons_cons, List.find?_cons]
    by_cases e : k' = k
    · rw [decide_eq_true e]; simp [e]
    · rw [decide_eq_false e]
      rw [ih]
      rw [Bool.eq_iff_iff, decide_eq_true_iff, decide_eq_true_iff, List.mem_cons]
      exact ⟨.inr, fun h => h.resolve_left fun z => e z.symm⟩
theorem n_setItem {A : Around} {E : Value → Shared → Prop} {a : Addr} {y v : V} {u r : Value} {H' : Hp} {Q : Unit → Shared → Prop} (hu : A.units + 9 < cLine) (I : Inv X pins σ H s) (g : NPut (xkw X) H a y v H') (ry : RelV y u) (rv : RelV v r) (h : ∀ s', Inv X pins σ H' s' → Q () s') :
    wpAny (model X.prog X.w) A (setItem (.ref a) u r) Q E s := by
  obtain ⟨S, ma, ks, nks, bs, vs, kd, k, b, sm, hr, t, rk, ry', rfl, hk, hl, eH⟩ := g
  subst eH
  obtain ⟨b', hb', hb⟩ := keyT_is I sm ry' hk
  cases hb'
  obtain rfl : u = Value.ref b := ry
  obtain ⟨us, rvs, dd⟩ := NTab.dict I sm (.inl hr) t rk
  have hn := t.nl
  have hul : us.length = ks.length := by rw [← rvs.length, t.vl]
  have hz : (nks.zip (bs.zip us)).length ≤ sizeLine := by rw [List.length_zip, sizeLine_eq]; have := t.few; omega
  refine wpAny_setItem_heap (hsz := hz) (show A.units + 1 + 8 < cLine by omega) hb dd fun h' dd' hs => h _ ?_
  obtain ⟨o, es, ep, h1, h2, h3, h4, _, _⟩ := dd'
  refine d_write I (by rw [hr]; exact True.intro) hs ⟨o, h1⟩ ?_
  have hm : (atKey (nks.zip (bs.zip us)) k).isSome = decide (k ∈ nks) := atKey_mem (by rw [List.length_zip, t.bl, hul, hn, Nat.min_self])
  unfold storedH at h4
  rw [hm] at h4
  by_cases hin : k ∈ nks
  · rw [if_pos hin]
    rw [if_pos (decide_eq_true hin), map_putAt (by rw [hn, t.bl]) (by rw [hn, hul])] at h4
    exact ext_ok ⟨_, reV rv rvs (by rw [hn, t.vl]), o, es, ep, h1, h2, h3, h4⟩
  · rw [if_neg hin]
    rw [if_neg (by simpa using hin)] at h4
    refine ext_ok ⟨us ++ [r], rvs.append (.cons rv .nil), o, es, ep, h1, h2, h3, ?_⟩
    rw [h4, List.zip_append (by rw [t.bl, hul]), List.zip_append (by rw [List.length_zip, t.bl, hul, hn, Nat.min_self])]
    rfl
end
/-! the rules -/
def rIxN (K : KW) : R2 := fun x y H Q => ∃ a v, x = .ref a ∧ NGet K H a y (some v) ∧ Q v H
theorem ix_tab {X : Cx} (hu : X.A.units + 9 < cLine) : IxR X (rIxN (xkw X)) := by
  intro value slice pins s σ H x y v u Q I rx ry h hs
  obtain ⟨a, z, rfl, g, q⟩ := h
  obtain rfl : v = Value.ref a := rx
  exact tail_any (n_typeIs I g) PySem.F.slot_dict_getitem.lookup (n_getItem hu I g ry fun w' s3 I3 rw' => ⟨z, H, I3, rw', q⟩) hs
def rInN (K : KW) : R2 := fun x y H Q => ∃ a o, y = .ref a ∧ NGet K H a x o ∧ Q (.bl o.isSome) H
def rNotInN (K : KW) : R2 := fun x y H Q => ∃ a o, y = .ref a ∧ NGet K H a x o ∧ Q (.bl (!o.isSome)) H
theorem op_nin {X : Cx} (hu : X.A.units + 9 < cLine) : OpR X (compareOp .In) (rInN (xkw X)) := by
  intro pins s σ H x y v u Q I rx ry h
  obtain ⟨a, z, rfl, g, q⟩ := h
  obtain rfl : u = Value.ref a := ry
  exact n_in hu I g rx fun s3 I3 => ⟨.bl z.isSome, H, I3, rfl, q⟩
theorem op_nnotin {X : Cx} (hu : X.A.units + 9 < cLine) : OpR X (compareOp .NotIn) (rNotInN (xkw X)) := by
  intro pins s σ H x y v u Q I rx ry h
  obtain ⟨a, z, rfl, g, q⟩ := h
  obtain rfl : u = Value.ref a := ry
  exact n_notIn hu I g rx fun s3 I3 => ⟨.bl (!z.isSome), H, I3, rfl, q⟩
def rSetN (K : KW) : TSet := fun o i v H Q => ∃ a H', o = .ref a ∧ NPut K H a i v H' ∧ Q H'
theorem set_tab {X : Cx} (hu : X.A.units + 9 < cLine) : PSet X (rSetN (xkw X)) := by
  intro pins s σ H o i v ov iv u Q I ro ri rv h
  obtain ⟨a, H', eo, g, q⟩ := h
  subst eo
  cases (show ov = Value.ref a from ro)
  exact n_setItem hu I g ri rv fun s' I' => ⟨H', I', q⟩
theorem ntab_empty {w : World} (h : Heap) : NTab w h.objs.size [] [] [] (h.push { cls := .type "dict", data := .dict #[] }) :=
  ⟨[], .nil, _, #[], 0, Heap.get?_push_size _ rfl, ⟨rfl, rfl, rfl⟩, rfl, rfl⟩
def tNNew (K : KW) : TE := fun σ H Q => ∀ p, H p = none → (p == sysModules) = false → Q (.ref p) (upd H p (.ext (NTab K.w p [] [] [])))
theorem pe_nnew {X : Cx} {pos : Pos} : PE X (.Dict [] [] pos) (tNNew (xkw X)) := ⟨fun pins s σ H Q I h =>
  wpAny_Dict_empty ⟨.ref s.heap.objs.size, _, I.laid (a := s.heap.objs.size) (o := .ext (NTab X.w s.heap.objs.size [] [] [])) (t' := s.toks) (fun _ _ q => Heap.get?_push_of_some _ q) (Nat.le_refl _) (ext_ok (ntab_empty s.heap)), rfl,
    h _ (I.hok.fresh (Nat.le_refl _)) (by rw [beq_eq_false_iff_ne]; exact Nat.ne_of_gt I.big)⟩⟩
/-! walked -/
/-- the keys of the locked table at d, in their order -/
def Itn (w : World) (d : Addr) (o : Obj) (nks : List NestedKey) (bs : List Addr) (vs : List V) : It :=
  ⟨fun i H => H d = some (.frz o (.ext (NTab w d nks bs vs))) ∧ i < bs.length, fun i H x H' => H' = H ∧ ∃ b, bs[i]? = some b ∧ x = .ref b, fun i H => H d = some (.frz o (.ext (NTab w d nks bs vs))) ∧ bs.length ≤ i⟩
structure NL (nks : List NestedKey) (bs : List Addr) (vs : List V) : Prop where
  n : nks.length = bs.length
  v : vs.length = bs.length
theorem entries_get {w : World} {nks : List NestedKey} {bs : List Addr} {us : List Value} {es : Array DictEntry} (h : es.toList = (nks.zip (bs.zip us)).map fun x => (⟨x.1.hash w, .ref x.2.1, x.2.2⟩ : DictEntry)) (h1 : nks.length = bs.length) (h2 : us.length = bs.length) :
    es.size = bs.length ∧ ∀ (i : Nat) (b : Addr), bs[i]? = some b → ∃ en : DictEntry, es[i]? = some en ∧ en.key = .ref b := by
  have hs : es.size = bs.length := by
    rw [← Array.length_toList, h, List.length_map, List.length_zip, List.length_zip, h1, h2]; omega
  refine ⟨hs, fun i b hb => ?_⟩
  have hi : i < bs.length := (List.getElem?_eq_some_iff.mp hb).1
  obtain ⟨n, hn⟩ : ∃ n, nks[i]? = some n := ⟨_, List.getElem?_eq_getElem (by omega)⟩
  obtain ⟨u, hu⟩ : ∃ u, us[i]? = some u := ⟨_, List.getElem?_eq_getElem (by omega)⟩
  refine ⟨⟨n.hash w, .ref b, u⟩, ?_, rfl⟩
  rw [← Array.getElem?_toList, h, List.getElem?_map]
  have : (nks.zip (bs.zip us))[i]? = some (n, b, u) := by
    rw [List.getElem?_zip_eq_some]
    exact ⟨hn, by rw [List.getElem?_zip_eq_some]; exact ⟨hb, hu⟩⟩
  rw [this]
  rfl
theorem frzN {X : Cx} {pins : List (Addr × Obj)} {σ : L2.St} {H : Hp} {s : Shared} {d : Addr} {o : Obj} {nks : List NestedKey} {bs : List Addr} {vs : List V} (I : Inv X pins σ H s) (h : H d = some (.frz o (.ext (NTab X.w d nks bs vs)))) (nl : NL nks bs vs) :
    s.heap.get? d = some o ∧ o.ExactDict ∧ ∃ (es : Array DictEntry) (ep : Nat), o.data = .dict es ep ∧ es.size = bs.length ∧ ∀ (i : Nat) (b : Addr), bs[i]? = some b → ∃ en : DictEntry, es[i]? = some en ∧ en.key = .ref b := by
  obtain ⟨hd, ⟨us, r, o', es, ep, z1, z2, z3, z4⟩, _⟩ := I.hok d _ h
  rw [hd] at z1
  cases z1
  obtain ⟨q1, q2⟩ := entries_get z4 nl.n (by rw [← r.length]; exact nl.v)
  exact ⟨hd, z2, es, ep, z3, q1, q2⟩
section
variable {P : Program} {w : World} {K : PySem.W.Frag} {tg : Expr} {d : Addr} {o : Obj} {es : Array DictEntry} {ep : Nat}
theorem turn_tab {nks : List NestedKey} {bs : List Addr} {vs : List V} (it : Addr) (nl : NL nks bs vs) (hod : o.data = .dict es ep) : Turn P w K tg (Itn w d o nks bs vs) [it] it (fun i h => h.IsKeyIter it d i bs.length ep) where
  mem := by simp
  obj := fun i h st b hb => by
    have e : b = it := by simpa using hb
    subst e
    obtain ⟨oi, e, c, dd⟩ := st
    exact ⟨oi, e, fun v z => by rw [dd] at z; cases z⟩
  keep := fun i h h' st k => st.at fun oi e => k it (by simp) oi e
  item := by
    intro X hP hw hK hc i pins s σ H E I hf st hg
    subst hP hw hK
    obtain ⟨hd, hi⟩ := hg
    obtain ⟨f0, f1, f2, f3, f4, f5⟩ := hf it (by simp)
    obtain ⟨hgd, hx, es', ep', hdt, hsz, ent⟩ := frzN I hd nl
    obtain ⟨rfl, rfl⟩ := dict_ep hod hdt
    obtain ⟨b, hb⟩ : ∃ b, bs[i]? = some b := ⟨_, List.getElem?_eq_getElem hi⟩
    obtain ⟨en, hen, hkey⟩ := ent i b hb
    refine next_key_item st hgd hdt hsz hen fun h' st' sb => ?_
    have I1 : Inv X pins σ H { s with heap := h' } := I.turned (t' := s.toks) (fun b ob hb e => (sb.2 b hb).trans e) f0 f1 f3 f4 f5
    obtain ⟨oi, e, c, dd⟩ := id st'
    exact ⟨en.key, rfl, go_of (s := { s with heap := h' }) e c dd (by decide) ⟨.ref b, H, I1, hkey, ⟨rfl, b, hb, rfl⟩, st', fun b hb => (hf b hb).1⟩⟩
  done := by
    intro X hP hw hK hc i pins s σ H E I hf st hg
    subst hP hw hK
    obtain ⟨hd, hi⟩ := hg
    obtain ⟨f0, f1, f2, f3, f4, f5⟩ := hf it (by simp)
    obtain ⟨hgd, hx, es', ep', hdt, hsz, ent⟩ := frzN I hd nl
    obtain ⟨rfl, rfl⟩ := dict_ep hod hdt
    exact next_key_end (I.ok.hd hc) st hgd hdt hsz hi fun h' eb => ⟨rfl, I.turned (t' := s.toks) (fun b ob hb e => eb b ob hb e) f0 f1 f3 f4 f5⟩
  self := fun A i s Q E st h => wpAny_pyIter_keyiter st h
theorem walk_tab {nks : List NestedKey} {bs : List Addr} {vs : List V} : Walk (Itn w d o nks bs vs) bs.length (fun H => H d = some (.frz o (.ext (NTab w d nks bs vs)))) (fun i H x H' => H' = H ∧ ∃ b, bs[i]? = some b ∧ x = .ref b) :=
  ⟨fun _ _ hi q => ⟨q, hi⟩, fun _ q => ⟨q, Nat.le_refl _⟩, fun _ _ _ _ _ _ y => y⟩
end
/-- over a table: its keys -/
def rTab (K : KW) : V → Hp → (It → Hp → Prop) → Prop := fun x H R => ∃ d o nks bs vs, x = .ref d ∧ (d == sysModules) = false ∧ NL nks bs vs ∧ H d = some (.frz o (.ext (NTab K.w d nks bs vs))) ∧ R (Itn K.w d o nks bs vs) H
theorem itv_tab {X : Cx} {tg : Expr} {pins : List (Addr × Obj)} {σ : L2.St} {H : Hp} {s : Shared} {x : V} {v : Value} {R : It → Hp → Prop} (I : Inv X pins σ H s) (r : RelV x v) (q : rTab (xkw X) x H R) : wpAny (model X.prog X.w) X.A (pyIter v) (PIE X pins σ tg R) X.xe s := by
  obtain ⟨d, o, nks, bs, vs, rfl, hs, nl, hd, q⟩ := q
  obtain rfl : v = Value.ref d := r
  obtain ⟨hgd, hx, es, ep, hdt, hsz, ent⟩ := frzN I hd nl
  refine iter_keys hs hgd hx hdt (pi_one (tk := s.toks) I _ (turn_tab _ nl hdt) ⟨_, Heap.get?_push_size _ rfl, rfl, ?_⟩ q)
  rw [hsz] <;> rfl
def rKey : V → Hp → (It → Hp → Prop) → Prop := fun x H R => ∃ d o kvs, x = .ref d ∧ H d = some (.frz o (.dK kvs)) ∧ R (Itk d o kvs) H
theorem itv_key {X : Cx} {tg : Expr} {pins : List (Addr × Obj)} {σ : L2.St} {H : Hp} {s : Shared} {x : V} {v : Value} {R : It → Hp → Prop} (I : Inv X pins σ H s) (r : RelV x v) (q : rKey x H R) : wpAny (model X.prog X.w) X.A (pyIter v) (PIE X pins σ tg R) X.xe s := by
  obtain ⟨d, o, kvs, rfl, hd, q⟩ := q
  obtain rfl : v = Value.ref d := r
  obtain ⟨hs, hgd, hx, es, ep, vs, hdt, hsz, kv, hm⟩ := I.frzK hd
  refine iter_keys hs hgd hx hdt (pi_one (tk := s.toks) I _ (turn_keys _ hdt) ⟨_, Heap.get?_push_size _ rfl, rfl, ?_⟩ q)
  rw [hsz] <;> rfl
/-- over whatever is walked here -/
def iAny (K : KW) (te : TE) : TI := fun σ H R => te σ H fun v H1 => rSeq K.K v H1 R ∨ rKey v H1 R ∨ rTab K v H1 R
theorem pi_any {X : Cx} {tg l : Expr} {tl : TE} (hl : PE X l tl) : PI X tg l (iAny (xkw X) tl) :=
  ⟨fun pins s σ H R I h => thn (hl.run pins s σ H _ I h) fun v s1 ⟨x, H1, I1, r1, q1⟩ => by
    rcases q1 with q | q | q
    · exact itv_seq I1 r1 q
    · exact itv_key I1 r1 q
    · exact itv_tab I1 r1 q⟩
/-! tables with ints and texts for keys -/
def rIxD : R2 := fun x y H Q => ∃ a v, x = .ref a ∧ DGet H a y (some v) ∧ Q v H
theorem ix_dict {X : Cx} (hu : X.A.units + 1 < cLine) : IxR X rIxD := by
  intro value slice pins s σ H x y v u Q I rx ry h hs
  obtain ⟨a, z, rfl, g, q⟩ := h
  obtain rfl : v = Value.ref a := rx
  exact tail_any (dict_typeIs I g) PySem.F.slot_dict_getitem.lookup (d_getItem hu I g ry fun w' s3 I3 rw' => ⟨z, H, I3, rw', q⟩) hs
def rInD : R2 := fun x y H Q => ∃ a o, y = .ref a ∧ DGet H a x o ∧ Q (.bl o.isSome) H
def rNotInD : R2 := fun x y H Q => ∃ a o, y = .ref a ∧ DGet H a x o ∧ Q (.bl (!o.isSome)) H
theorem op_din {X : Cx} (hu : X.A.units + 1 < cLine) : OpR X (compareOp .In) rInD := by
  intro pins s σ H x y v u Q I rx ry h
  obtain ⟨a, z, rfl, g, q⟩ := h
  obtain rfl : u = Value.ref a := ry
  exact d_in hu I g rx fun s3 I3 => ⟨.bl z.isSome, H, I3, rfl, q⟩
theorem op_dnotin {X : Cx} (hu : X.A.units + 1 < cLine) : OpR X (compareOp .NotIn) rNotInD := by
  intro pins s σ H x y v u Q I rx ry h
  obtain ⟨a, z, rfl, g, q⟩ := h
  obtain rfl : u = Value.ref a := ry
  exact d_notIn hu I g rx fun s3 I3 => ⟨.bl (!z.isSome), H, I3, rfl, q⟩
end Vl
namespace Vl
open PySem PySem.Spec PyProof.Rows L2

/-! ### looking at what may still change -/
/-- a value, or the present content of a list (table) that may change -/
inductive Vw (K : KW) (S : Hp) (ma : List Addr) (H : Hp) : D → V → Prop
  | rep {d : D} {v : V} : Rep K S ma d v → Vw K S ma H d v
  | lst {a : Addr} {xs : List D} {vs : List V} : H a = some (.lst vs) → RepL K S ma xs vs → Vw K S ma H (.lst xs) (.ref a)
  | dK {a : Addr} {ks : List Key} {xs : List D} {vs : List V} : Rd H a (.dK (ks.zip vs)) → ks.length = vs.length → RepL K S ma xs vs → Vw K S ma H (.dK ks xs) (.ref a)
  | dT {a : Addr} {ks xs : List D} {nks : List NestedKey} {bs : List Addr} {vs : List V} : Rd H a (.ext (NTab K.w a nks bs vs)) → TF ks a nks bs vs → RepL K S ma ks (bs.map .ref) → RepL K S ma xs vs → Vw K S ma H (.dT ks xs) (.ref a)
/-- a shared object as it is seen; an instance stays what it is -/
def MO.shut (n : Nat) : MO → D
  | .lst ds => .lst ds
  | .dK ks ds => .dK ks ds
  | .dT ks ds => .dT ks ds
  | .obj _ _ _ => .mut n
def lookD (s : DS) : D → D
  | .mut n => match s.mem[n]? with
    | some o => o.shut n
    | none => .mut n
  | d => d
section
variable {K : KW} {F S H : Hp} {ma : List Addr} {σ : L2.St} {ds : DS}
theorem Vw.mo {n : Nat} {a : Addr} {o : MO} (h : At K S ma H a o) (hn : ma[n]? = some a) : Vw K S ma H (o.shut n) (.ref a) := by
  cases o with
  | lst xs => obtain ⟨vs, h, r⟩ := h; exact .lst h r
  | dK ks xs => obtain ⟨vs, h, r, f⟩ := h; exact .dK (.inl h) (by rw [← r.length]; exact f) r
  | dT ks xs => obtain ⟨nks, bs, vs, h, t, q, r⟩ := h; exact .dT (.inl h) t q r
  | obj _ _ _ => exact .rep (.mut hn)
theorem Vw.slot {a : Addr} {s : Slot} {o : MO} (ho : s.mo = some o) (h : At K S ma H a o) : Vw K S ma H s.shut (.ref a) := by
  cases s with
  | un => cases ho
  | val d => cases ho
  | own xs => cases ho; obtain ⟨vs, h, r⟩ := h; exact .lst h r
  | ownK ks xs => cases ho; obtain ⟨vs, h, r, f⟩ := h; exact .dK (.inl h) (by rw [← r.length]; exact f) r
  | ownT ks xs => cases ho; obtain ⟨nks, bs, vs, h, t, q, r⟩ := h; exact .dT (.inl h) t q r
theorem Cf.look (c : Cf K F ma S H σ ds) {d : D} {v : V} (r : Rep K S ma d v) : Vw K S ma H (lookD ds d) v := by
  cases d with
  | «mut» n =>
    cases e : ds.mem[n]? with
    | none => 
      have q : lookD ds (.mut n) = .mut n := by unfold lookD; simp only [e]
      rw [q]; exact .rep r
    | some o =>
      have q : lookD ds (.mut n) = o.shut n := by unfold lookD; simp only [e]
      rw [q]
      cases r with
      | «mut» h =>
        obtain ⟨h1, _, _⟩ := c.mem n _ o h e
        exact Vw.mo h1 h
  | _ => exact .rep r
def peekD (i : Nat) (s : DS) : Option D := match s.env[i]? with
  | some (.val d) => some (lookD s d)
  | some .un => none
  | some sl => some sl.shut
  | none => none
theorem Cf.peek (c : Cf K F ma S H σ ds) {i : Nat} {d : D} (h : peekD i ds = some d) : ∃ v, σ[i]? = some (some v) ∧ Vw K S ma H d v := by
  unfold peekD at h
  cases e : ds.env[i]? with
  | none => rw [e] at h; cases h
  | some sl =>
    rw [e] at h
    have own : sl.isOwn = true → sl.shut = d → ∃ v, σ[i]? = some (some v) ∧ Vw K S ma H d v := fun ho hd => by
      obtain ⟨o, ho⟩ := Slot.mo_of ho
      obtain ⟨p, e1, e2, _⟩ := c.own i sl o e ho
      subst hd
      exact ⟨_, e1, Vw.slot ho e2⟩
    cases sl with
    | un => cases h
    | val x =>
      cases h
      obtain ⟨v, e1, r⟩ := c.val i x e
      exact ⟨v, e1, c.look r⟩
    | own xs => exact own rfl (Option.some.inj h)
    | ownK ks xs => exact own rfl (Option.some.inj h)
    | ownT ks xs => exact own rfl (Option.some.inj h)
/-- what may be looked at is a value of the present heap -/
def noDic : D → Bool
  | .dK _ _ => false
  | .dT _ _ => false
  | _ => true
theorem Vw.now (c : Cf K F ma S H σ ds) {d : D} {v : V} (h : Vw K S ma H d v) (hd : noDic d = true) : Rep K H ma d v := by
  have ex : Ext ma S ma H := ⟨c.sub, [], by simp⟩
  cases h with
  | rep r => exact r.mono ex
  | lst h r => exact .lst h (r.mono ex)
  | dK h l r => cases hd
  | dT h l q r => cases hd
/-- a list, by what is seen -/
theorem Vw.seqL (c : Cf K F ma S H σ ds) {xs : List D} {v : V} (h : Vw K S ma H (.lst xs) v) : ∃ a vs, v = .ref a ∧ SqL K H a vs ∧ RepL K S ma xs vs := by
  cases h with
  | rep r =>
    cases r with
    | lst h r => exact ⟨_, _, rfl, .inl (.inl (c.sub _ _ h)), r⟩
  | lst h r => exact ⟨_, _, rfl, .inl (.inl h), r⟩
theorem Vw.seqF (c : Cf K F ma S H σ ds) {xs : List D} {v : V} (h : Vw K S ma H (.frl xs) v) : ∃ a vs, v = .ref a ∧ SqL K H a vs ∧ RepL K S ma xs vs := by
  cases h with
  | rep r =>
    cases r with
    | frl h r => exact ⟨_, _, rfl, c.sub.seq h, r⟩
theorem Vw.seqT (c : Cf K F ma S H σ ds) {xs : List D} {v : V} (h : Vw K S ma H (.tup xs) v) : ∃ a vs, v = .ref a ∧ SqT K H a vs ∧ RepL K S ma xs vs := by
  cases h with
  | rep r =>
    cases r with
    | tup h r => exact ⟨_, _, rfl, Vl.seqT c.sub (tsq h), r⟩
theorem Vw.seqK (c : Cf K F ma S H σ ds) {xs : List D} {v : V} (h : Vw K S ma H (.ktp xs) v) : ∃ a vs, v = .ref a ∧ SqT K H a vs ∧ RepL K S ma xs vs := by
  cases h with
  | rep r =>
    cases r with
    | ktp h r => exact ⟨_, _, rfl, Vl.seqT c.sub h, r⟩
end
abbrev RpW (K : KW) : RpT D V := fun _ ma S H _ _ d v => Vw K S ma H d v
structure VO (c : SC) (e : Expr) (f : M D) : Prop where
  run : ∀ X W, Ok c X W → ∃ t : TE, PE X e t ∧ ∀ F ma S H σ ds Q, Cf c.B.kw F ma S H σ ds → Res c.B W F (RpW c.B.kw) σ ma S (f ds) Q → t σ H Q
def peekM (i : Nat) : M D := fun s => opt (peekD i s) s
def lookM (f : M D) : M D := bnd f fun d s => .ok (lookD s d) s
section
variable {c : SC} {pos p : Pos} {a b e : Expr} {fa fb : M D}
theorem o_peek (i : Nat) {x : Str} (hN : c.N[i]? = some x) (hv : Vis c.sc x) (hd : (x == ("__debug__" : Str)) = false := by decide) (hcd : (x == ("__classdict__" : Str)) = false := by decide) : VO c (.Name x pos) (peekM i) := by
  refine ⟨fun X W ok => ?_⟩
  obtain ⟨exc, k, isdef, fnc, rfl⟩ := ok.eq
  refine ⟨tVar i, pe_var hN hv hd hcd, fun F ma S H σ ds Q cf h => ?_⟩
  unfold peekM at h
  cases q : peekD i ds with
  | none => rw [q] at h; exact h.elim
  | some d =>
    rw [q] at h
    obtain ⟨v, e1, r⟩ := cf.peek q
    exact ⟨v, e1, h ma S H v Ext.refl cf r⟩
theorem o_look (h : VE c e fa) : VO c e (lookM fa) := by
  refine ⟨fun X W ok => ?_⟩
  obtain ⟨ta, pa, qa⟩ := h.run X W ok
  refine ⟨ta, pa, fun F ma S H σ ds Q cf h => ?_⟩
  exact qa F ma S H σ ds _ cf (Res.bind h fun d ds1 ma1 S1 H1 x e1 c1 r1 h1 => h1 ma1 S1 H1 x Ext.refl c1 (c1.look r1))

/-! ### a two-place operation whose right hand may be looked at -/
def OpW (c : SC) (f : Value → Value → Sem Value) (g : D → D → Option D) : Prop := ∀ X W, Ok c X W → ∃ r : R2, OpR X f r ∧ ∀ F ma S H σ ds a b x y Q, Cf c.B.kw F ma S H σ ds → Rep c.B.kw S ma a x → Vw c.B.kw S ma H b y →
  Res c.B W F (RpV c.B.kw) σ ma S (opt (g a b) ds) Q → r x y H Q
variable {g : D → D → Option D}
theorem v_cmpW {op : CmpOp} (ho : OpW c (compareOp op) g) (ha : VE c a fa) (hb : VO c b fb) (hm : behindInMarks op b = false) : VE c (.Compare a [op] [b] pos) (binM g fa fb) := by
  refine ⟨fun X W ok => ?_⟩
  obtain ⟨ta, pa, qa⟩ := ha.run X W ok
  obtain ⟨tb, pb, qb⟩ := hb.run X W ok
  obtain ⟨r, po, qr⟩ := ho X W ok
  refine ⟨tOp r ta tb, pe_cmpR po pa pb hm, fun F ma S H σ ds Q cf h => ?_⟩
  refine qa F ma S H σ ds _ cf (Res.bind h fun d1 ds1 ma1 S1 H1 x e1 c1 r1 h1 => ?_)
  refine qb F ma1 S1 H1 σ ds1 _ c1 (Res.bind h1 fun d2 ds2 ma2 S2 H2 y e2 c2 r2 h2 => ?_)
  exact qr F ma2 S2 H2 σ ds2 d1 d2 x y Q c2 (Rep.mono e2 r1) r2 h2
theorem t_cmpW {op : CmpOp} (ho : OpW c (compareOp op) g) (ha : VE c a fa) (hb : VO c b fb) (hm : behindInMarks op b = false) : VT c (.Compare a [op] [b] pos) (tstM (binM g fa fb)) := by
  refine ⟨fun X W ok => ?_⟩
  obtain ⟨ta, pa, qa⟩ := ha.run X W ok
  obtain ⟨tb, pb, qb⟩ := hb.run X W ok
  obtain ⟨r, po, qr⟩ := ho X W ok
  refine ⟨_, pt_cmpR po pa pb hm, fun F ma S H σ ds Q cf h => ?_⟩
  have h : Res c.B W F RpB σ ma S ((bnd fa fun x => bnd (bnd fb fun y => opt (g x y)) fun d => opt (asB d)) ds) Q := by
    have e : (bnd fa fun x => bnd (bnd fb fun y => opt (g x y)) fun d => opt (asB d)) ds = tstM (binM g fa fb) ds := by
      unfold tstM binM bnd
      cases fa ds <;> rfl
    rw [e]; exact h
  refine qa F ma S H σ ds _ cf (Res.bind h fun d1 ds1 ma1 S1 H1 x e1 c1 r1 h1 => ?_)
  have h1 : Res c.B W F RpB σ ma1 S1 ((bnd fb fun y => bnd (opt (g d1 y)) fun d => opt (asB d)) ds1) Q := by
    have e : (bnd fb fun y => bnd (opt (g d1 y)) fun d => opt (asB d)) ds1 = (bnd (bnd fb fun y => opt (g d1 y)) fun d => opt (asB d)) ds1 := by
      unfold bnd
      cases fb ds1 <;> rfl
    rw [e]; exact h1
  refine qb F ma1 S1 H1 σ ds1 _ c1 (Res.bind h1 fun d2 ds2 ma2 S2 H2 y e2 c2 r2 h2 => ?_)
  refine qr F ma2 S2 H2 σ ds2 d1 d2 x y _ c2 (Rep.mono e2 r1) r2 (Res.bind h2 fun d ds3 ma3 S3 H3 z e3 c3 r3 h3 => ?_)
  cases r3 with
  | bl k => exact ⟨k, rfl, h3 ma3 S3 H3 k Ext.refl c3 rfl⟩
  | _ => exact (show False from h3).elim
/-- from a rule for two values -/
theorem OpW.flat {f : Value → Value → Sem Value} (hnd : ∀ a b d, g a b = some d → noDic b = true)
    (h : ∀ X W, Ok c X W → ∀ (pins : List (Addr × Obj)) (s : Shared) (σ : L2.St) (ma : List Addr) (S H : Hp) a b d x y v u Q, Inv X pins σ H s → Same S H → Rep c.B.kw S ma a x → Rep c.B.kw S ma b y → RelV x v → RelV y u → g a b = some d →
      (∀ (k : Bool) s', Inv X pins σ H s' → d = .bl k → ∀ w, RelV (.bl k) w → Q w s') → wpAny (model X.prog X.w) X.A (f v u) Q X.xe s) : OpW c f g := by
  intro X W ok
  refine ⟨fun x y H Q => ∃ ma S a b d, Same S H ∧ Rep c.B.kw S ma a x ∧ Rep c.B.kw S ma b y ∧ g a b = some d ∧ ∀ k, d = .bl k → Q (.bl k) H, ?_, ?_⟩
  · intro pins s σ H x y v u Q I rx ry ⟨ma, S, a, b, d, cf, ra, rb, hg, q⟩
    exact h X W ok pins s σ ma S H a b d x y v u _ I cf ra rb rx ry hg fun k s' I' e w rw => ⟨.bl k, H, I', rw, q k e⟩
  · intro F ma S H σ ds a b x y Q cf ra rb hr
    cases hg : g a b with
    | none => rw [hg] at hr; exact hr.elim
    | some d =>
      rw [hg] at hr
      refine ⟨ma, H, a, b, d, Same.refl _, ra.mono ⟨cf.sub, [], by simp⟩, rb.now cf (hnd a b d hg), hg, fun k e => ?_⟩
      subst e
      exact hr ma S H _ Ext.refl cf (.bl k)
theorem in_any {X : Cx} {W : WX} {pins : List (Addr × Obj)} {s : Shared} {σ : L2.St} {ma : List Addr} {S H : Hp} {d1 d2 : D} {x y : V} {v u : Value} {Q : Value → Shared → Prop} {k : Bool} (ok : Ok c X W) (hc : c.calm = true)
    (I : Inv X pins σ H s) (cf : Same S H) (ra : Rep c.B.kw S ma d1 x) (rb : Rep c.B.kw S ma d2 y) (rv : RelV x v) (ru : RelV y u) (hg : inD d1 d2 = some (.bl k)) :
    (Q (.bool k) s → wpAny (model X.prog X.w) X.A (compareOp .In v u) Q X.xe s) ∧ (Q (.bool (!k)) s → wpAny (model X.prog X.w) X.A (compareOp .NotIn v u) Q X.xe s) := by
  have hu := room60 ok hc
  obtain ⟨exc, k', isdef, fnc, rfl⟩ := ok.eq
  unfold inD at hg
  split at hg
  · rename_i xs
    split at hg
    · rename_i hz
      cases hg
      obtain ⟨p1, d1⟩ := dat_split hz.1
      obtain ⟨p2, d2⟩ := dat_split hz.2
      obtain ⟨as, r1⟩ := ra.reads I cf rv p1
      obtain ⟨bs, r2⟩ := rb.reads I cf ru p2
      have p3 : PyData.plainAll (toPs xs) = true := by simpa [toP, PyData.plain] using p2
      exact ⟨fun q => PySem.SeqAt.in_list_data (xs := toPs xs) (by simpa [toP] using r2) r1 p3 p1 (by omega) (by rw [any_toPs]; exact q),
        fun q => PySem.SeqAt.notIn_list_data (xs := toPs xs) (by simpa [toP] using r2) r1 p3 p1 (by omega) (by rw [any_toPs]; exact q)⟩
    · cases hg
  · rename_i xs
    split at hg
    · rename_i hz
      cases hg
      obtain ⟨p1, d1⟩ := dat_split hz.1
      obtain ⟨p2, d2⟩ := dat_split hz.2
      obtain ⟨as, r1⟩ := ra.reads I cf rv p1
      obtain ⟨bs, r2⟩ := rb.reads I cf ru p2
      have p3 : PyData.plainAll (toPs xs) = true := by simpa [toP, PyData.plain] using p2
      exact ⟨fun q => PySem.SeqAt.in_list_data (xs := toPs xs) (by simpa [toP] using r2) r1 p3 p1 (by omega) (by rw [any_toPs]; exact q),
        fun q => PySem.SeqAt.notIn_list_data (xs := toPs xs) (by simpa [toP] using r2) r1 p3 p1 (by omega) (by rw [any_toPs]; exact q)⟩
    · cases hg
  · rename_i xs
    split at hg
    · rename_i hz
      cases hg
      obtain ⟨p1, d1⟩ := dat_split hz.1
      obtain ⟨p2, d2⟩ := dat_split hz.2
      obtain ⟨as, r1⟩ := ra.reads I cf rv p1
      obtain ⟨bs, r2⟩ := rb.reads I cf ru p2
      have p3 : PyData.plainAll (toPs xs) = true := by simpa [toP, PyData.plain] using p2
      exact ⟨fun q => PySem.SeqAt.in_tuple_data (xs := toPs xs) (by simpa [toP] using r2) r1 p3 p1 (by omega) (by rw [any_toPs]; exact q),
        fun q => PySem.SeqAt.notIn_tuple_data (xs := toPs xs) (by simpa [toP] using r2) r1 p3 p1 (by omega) (by rw [any_toPs]; exact q)⟩
    · cases hg
  · rename_i xs
    split at hg
    · rename_i hz
      cases hg
      obtain ⟨p1, d1⟩ := dat_split hz.1
      obtain ⟨p2, d2⟩ := dat_split hz.2
      obtain ⟨as, r1⟩ := ra.reads I cf rv p1
      obtain ⟨bs, r2⟩ := rb.reads I cf ru p2
      have p3 : PyData.plainAll (toPs xs) = true := by simpa [toP, PyData.plain] using p2
      exact ⟨fun q => PySem.SeqAt.in_tuple_data (xs := toPs xs) (by simpa [toP] using r2) r1 p3 p1 (by omega) (by rw [any_toPs]; exact q),
        fun q => PySem.SeqAt.notIn_tuple_data (xs := toPs xs) (by simpa [toP] using r2) r1 p3 p1 (by omega) (by rw [any_toPs]; exact q)⟩
    · cases hg
  · cases hg
    cases ra
    cases rb
    obtain ⟨t, rfl⟩ := rv
    obtain ⟨t', rfl⟩ := ru
    exact ⟨fun q => in_str q, fun q => notIn_str q⟩
  · cases hg
theorem inD_bl {a b d : D} (h : inD a b = some d) : ∃ k, d = .bl k := by
  unfold inD at h
  split at h
  · split at h
    · cases h; exact ⟨_, rfl⟩
    · cases h
  · split at h
    · cases h; exact ⟨_, rfl⟩
    · cases h
  · split at h
    · cases h; exact ⟨_, rfl⟩
    · cases h
  · split at h
    · cases h; exact ⟨_, rfl⟩
    · cases h
  · cases h; exact ⟨_, rfl⟩
  · cases h
theorem inD_nd {a b d : D} (h : inD a b = some d) : noDic b = true := by
  cases b with
  | dK _ _ => cases a <;> cases h
  | dT _ _ => cases a <;> cases h
  | _ => rfl
theorem w_in (hc : c.calm = true) : OpW c (compareOp .In) inD := OpW.flat (fun a b d h => inD_nd h) fun X W ok pins s σ ma S H a b d x y v u Q I cf ra rb rv ru hg q => by
  obtain ⟨k, rfl⟩ := inD_bl hg
  exact (in_any ok hc I cf ra rb rv ru hg).1 (q k s I rfl _ rfl)
theorem w_notIn (hc : c.calm = true) : OpW c (compareOp .NotIn) notInD := OpW.flat (fun a b d h => by
    unfold notInD at h
    split at h
    · rename_i k e; exact inD_nd e
    · cases h) fun X W ok pins s σ ma S H a b d x y v u Q I cf ra rb rv ru hg q => by
  unfold notInD at hg
  split at hg
  · rename_i k e
    cases hg
    exact (in_any ok hc I cf ra rb rv ru e).2 (q (!k) s I rfl _ rfl)
  · cases hg

/-! ### tables read by key -/
section
variable {K : KW} {F S H : Hp} {ma : List Addr} {σ : L2.St} {ds : DS}
theorem Vw.dicT (cf : Cf K F ma S H σ ds) {ks xs : List D} {y : V} (r : Vw K S ma H (.dT ks xs) y) : ∃ a nks bs vs, y = .ref a ∧ Rd H a (.ext (NTab K.w a nks bs vs)) ∧ TF ks a nks bs vs ∧ RepL K S ma ks (bs.map .ref) ∧ RepL K S ma xs vs := by
  cases r with
  | rep r => cases r with
    | dT h t q rl => exact ⟨_, _, _, _, rfl, .inr ⟨_, cf.sub _ _ h⟩, t, q, rl⟩
  | dT h t q rl => exact ⟨_, _, _, _, rfl, h, t, q, rl⟩
theorem Vw.dicK (cf : Cf K F ma S H σ ds) {ks : List Key} {xs : List D} {y : V} (r : Vw K S ma H (.dK ks xs) y) : ∃ a vs, y = .ref a ∧ Rd H a (.dK (ks.zip vs)) ∧ ks.length = xs.length ∧ RepL K S ma xs vs := by
  cases r with
  | rep r => cases r with
    | dK h hl rl => exact ⟨_, _, rfl, .inr ⟨_, cf.sub _ _ h⟩, by rw [hl, rl.length], rl⟩
  | dK h hl rl => exact ⟨_, _, rfl, h, by rw [hl, rl.length], rl⟩
/-- what a table holds at a key -/
def gtD : D → D → Option (Option D)
  | .dT ks xs, k => (keyT k).map fun k => lkD (ks.map keyT) xs (some k)
  | .dK ks xs, k => (keyK k).map fun k => lkD ks xs k
  | _, _ => none
theorem gtK_rep (cf : Cf K F ma S H σ ds) {ks : List Key} {xs : List D} {k : D} {x y : V} {o : Option D} (rd : Vw K S ma H (.dK ks xs) x) (rk : Rep K S ma k y) (h : gtD (.dK ks xs) k = some o) : ∃ a ov, x = .ref a ∧ DGet H a y ov ∧ OptR K S ma o ov := by
  have h : (keyK k).map (fun k => lkD ks xs k) = some o := h
  cases e : keyK k with
  | none => rw [e] at h; cases h
  | some key =>
    rw [e] at h
    cases h
    obtain ⟨a, vs, rfl, hr, hl, rl⟩ := rd.dicK cf
    have := keyK_rep rk e
    subst this
    exact ⟨a, _, rfl, .inl ⟨_, key, hr, rfl, rfl⟩, lkD_opt rl hl⟩
theorem gtT_rep (cf : Cf K F ma S H σ ds) {ks xs : List D} {k : D} {x y : V} {o : Option D} (rd : Vw K S ma H (.dT ks xs) x) (rk : Rep K S ma k y) (h : gtD (.dT ks xs) k = some o) : ∃ a ov, x = .ref a ∧ NGet K H a y ov ∧ OptR K S ma o ov := by
  have h : (keyT k).map (fun k => lkD (ks.map keyT) xs (some k)) = some o := h
  cases e : keyT k with
  | none => rw [e] at h; cases h
  | some key =>
    rw [e] at h
    cases h
    obtain ⟨a, nks, bs, vs, rfl, hr, t, q, rl⟩ := rd.dicT cf
    refine ⟨a, _, rfl, ⟨S, ma, ks, nks, bs, vs, k, key, cf.sub, hr, t, q, rk, e, rfl⟩, ?_⟩
    show OptR K S ma (lkD (ks.map keyT) xs (some key)) _
    rw [t.keys, lkD_map fun a b h => Option.some.inj h]
    exact lkD_two rl
end
section
variable {c : SC}
def ixT (d k : D) : Option D := (gtD d k).bind id
theorem rIxD_of {B : Bs} {W : WX} {F S H : Hp} {ma : List Addr} {σ : L2.St} {ds : DS} {ks : List Key} {xs : List D} {db : D} {x y : V} {Q : VK} (cf : Cf B.kw F ma S H σ ds) (ra : Vw B.kw S ma H (.dK ks xs) x) (rb : Rep B.kw S ma db y) (h : Res B W F (RpV B.kw) σ ma S (opt (ixT (.dK ks xs) db) ds) Q) : rIxD x y H Q := by
  unfold ixT at h
  cases e : gtD (.dK ks xs) db with
  | none => rw [e] at h; exact h.elim
  | some o =>
    rw [e] at h
    cases o with
    | none => exact h.elim
    | some d =>
      obtain ⟨a, ov, rfl, g, z⟩ := gtK_rep cf ra rb e
      cases ov with
      | none => exact z.elim
      | some v => exact ⟨a, v, rfl, g, h ma S H v Ext.refl cf z⟩
theorem rIxN_of {B : Bs} {W : WX} {F S H : Hp} {ma : List Addr} {σ : L2.St} {ds : DS} {ks xs : List D} {db : D} {x y : V} {Q : VK} (cf : Cf B.kw F ma S H σ ds) (ra : Vw B.kw S ma H (.dT ks xs) x) (rb : Rep B.kw S ma db y) (h : Res B W F (RpV B.kw) σ ma S (opt (ixT (.dT ks xs) db) ds) Q) : rIxN B.kw x y H Q := by
  unfold ixT at h
  cases e : gtD (.dT ks xs) db with
  | none => rw [e] at h; exact h.elim
  | some o =>
    rw [e] at h
    cases o with
    | none => exact h.elim
    | some d =>
      obtain ⟨a, ov, rfl, g, z⟩ := gtT_rep cf ra rb e
      cases ov with
      | none => exact z.elim
      | some v => exact ⟨a, v, rfl, g, h ma S H v Ext.refl cf z⟩
def inT (k d : D) : Option D := (gtD d k).map fun o => .bl o.isSome
def notInT (k d : D) : Option D := (gtD d k).map fun o => .bl (!o.isSome)
def onK (g : D → D → Option D) (a : D) : D → Option D
  | .dK ks xs => g a (.dK ks xs)
  | _ => none
def onT (g : D → D → Option D) (a : D) : D → Option D
  | .dT ks xs => g a (.dT ks xs)
  | _ => none
theorem w_dinK (hc : c.calm = true) : OpW c (compareOp .In) (onK inT) := by
  intro X W ok
  have hu := room60 ok hc
  refine ⟨rInD, op_din (by omega), fun F ma S H σ ds a b x y Q cf ra rb hr => ?_⟩
  cases b with
  | dK ks xs =>
    have hr : Res c.B W F (RpV c.B.kw) σ ma S (opt (inT a (.dK ks xs)) ds) Q := hr
    unfold inT at hr
    cases e : gtD (.dK ks xs) a with
    | none => rw [e] at hr; exact hr.elim
    | some o =>
      rw [e] at hr
      obtain ⟨p, ov, rfl, g, z⟩ := gtK_rep cf rb ra e
      have hs := z.isSome
      exact ⟨p, ov, rfl, g, by rw [hs]; exact hr ma S H _ Ext.refl cf (.bl _)⟩
  | _ => exact (show False from hr).elim
theorem w_dnotinK (hc : c.calm = true) : OpW c (compareOp .NotIn) (onK notInT) := by
  intro X W ok
  have hu := room60 ok hc
  refine ⟨rNotInD, op_dnotin (by omega), fun F ma S H σ ds a b x y Q cf ra rb hr => ?_⟩
  cases b with
  | dK ks xs =>
    have hr : Res c.B W F (RpV c.B.kw) σ ma S (opt (notInT a (.dK ks xs)) ds) Q := hr
    unfold notInT at hr
    cases e : gtD (.dK ks xs) a with
    | none => rw [e] at hr; exact hr.elim
    | some o =>
      rw [e] at hr
      obtain ⟨p, ov, rfl, g, z⟩ := gtK_rep cf rb ra e
      have hs := z.isSome
      exact ⟨p, ov, rfl, g, by rw [hs]; exact hr ma S H _ Ext.refl cf (.bl _)⟩
  | _ => exact (show False from hr).elim
theorem w_dinT (hc : c.calm = true) : OpW c (compareOp .In) (onT inT) := by
  intro X W ok
  have hu := room60 ok hc
  obtain ⟨exc, k, isdef, fnc, rfl⟩ := ok.eq
  refine ⟨rInN (xkw X), op_nin (by omega), fun F ma S H σ ds a b x y Q cf ra rb hr => ?_⟩
  cases b with
  | dT ks xs =>
    have hr : Res _ W F (RpV (xkw X)) σ ma S (opt (inT a (.dT ks xs)) ds) Q := hr
    unfold inT at hr
    cases e : gtD (.dT ks xs) a with
    | none => rw [e] at hr; exact hr.elim
    | some o =>
      rw [e] at hr
      obtain ⟨p, ov, rfl, g, z⟩ := gtT_rep cf rb ra e
      have hs := z.isSome
      exact ⟨p, ov, rfl, g, by rw [hs]; exact hr ma S H _ Ext.refl cf (.bl _)⟩
  | _ => exact (show False from hr).elim
theorem w_dnotinT (hc : c.calm = true) : OpW c (compareOp .NotIn) (onT notInT) := by
  intro X W ok
  have hu := room60 ok hc
  obtain ⟨exc, k, isdef, fnc, rfl⟩ := ok.eq
  refine ⟨rNotInN (xkw X), op_nnotin (by omega), fun F ma S H σ ds a b x y Q cf ra rb hr => ?_⟩
  cases b with
  | dT ks xs =>
    have hr : Res _ W F (RpV (xkw X)) σ ma S (opt (notInT a (.dT ks xs)) ds) Q := hr
    unfold notInT at hr
    cases e : gtD (.dT ks xs) a with
    | none => rw [e] at hr; exact hr.elim
    | some o =>
      rw [e] at hr
      obtain ⟨p, ov, rfl, g, z⟩ := gtT_rep cf rb ra e
      have hs := z.isSome
      exact ⟨p, ov, rfl, g, by rw [hs]; exact hr ma S H _ Ext.refl cf (.bl _)⟩
  | _ => exact (show False from hr).elim
theorem OpW.or {f : Value → Value → Sem Value} {g g1 g2 : D → D → Option D} (h1 : OpW c f g1) (h2 : OpW c f g2) (hg : ∀ a b, g a b = g1 a b ∨ g a b = g2 a b) : OpW c f g := by
  intro X W ok
  obtain ⟨r1, p1, q1⟩ := h1 X W ok
  obtain ⟨r2, p2, q2⟩ := h2 X W ok
  refine ⟨fun x y H Q => r1 x y H Q ∨ r2 x y H Q, ?_, fun F ma S H σ ds a b x y Q cf ra rb hr => ?_⟩
  · intro pins s σ H x y v u Q I rx ry h
    rcases h with h | h
    · exact p1 pins s σ H x y v u Q I rx ry h
    · exact p2 pins s σ H x y v u Q I rx ry h
  · rcases hg a b with e | e
    · exact .inl (q1 F ma S H σ ds a b x y Q cf ra rb (by rw [← e]; exact hr))
    · exact .inr (q2 F ma S H σ ds a b x y Q cf ra rb (by rw [← e]; exact hr))
/-- in, of tables too -/
def inX (a b : D) : Option D := match b with
  | .dT ks xs => inT a (.dT ks xs)
  | .dK ks xs => inT a (.dK ks xs)
  | b => inD a b
def notInX (a b : D) : Option D := match b with
  | .dT ks xs => notInT a (.dT ks xs)
  | .dK ks xs => notInT a (.dK ks xs)
  | b => notInD a b
theorem w_inX (hc : c.calm = true) : OpW c (compareOp .In) inX := (w_in hc).or ((w_dinK hc).or (w_dinT hc) (g := fun a b => match b with | .dK ks xs => inT a (.dK ks xs) | b => onT inT a b) fun a b => by cases b <;> first | exact .inl rfl | exact .inr rfl) fun a b => by cases b <;> first | exact .inl rfl | exact .inr rfl
theorem w_notInX (hc : c.calm = true) : OpW c (compareOp .NotIn) notInX := (w_notIn hc).or ((w_dnotinK hc).or (w_dnotinT hc) (g := fun a b => match b with | .dK ks xs => notInT a (.dK ks xs) | b => onT notInT a b) fun a b => by cases b <;> first | exact .inl rfl | exact .inr rfl) fun a b => by cases b <;> first | exact .inl rfl | exact .inr rfl
end
/-! ### subscripts -/
def ixD : D → D → Option D
  | .lst xs, .int i => (ixN xs.length i).bind fun j => xs[j]?
  | .frl xs, .int i => (ixN xs.length i).bind fun j => xs[j]?
  | .tup xs, .int i => (ixN xs.length i).bind fun j => xs[j]?
  | .ktp xs, .int i => (ixN xs.length i).bind fun j => xs[j]?
  | .str z, .int i => if z.length ≤ 16777216 then ((ixN z.cps.toList.length i).bind fun j => z.cps.toList[j]?).map sign else none
  | .dT ks xs, k => ixT (.dT ks xs) k
  | .dK ks xs, k => ixT (.dK ks xs) k
  | _, _ => none
theorem atI_rep {K : KW} {S : Hp} {ma : List Addr} {xs : List D} {vs : List V} {i : Int} {d : D} (r : RepL K S ma xs vs) (h : ((ixN xs.length i).bind fun j => xs[j]?) = some d) : ∃ v, atI vs i = some v ∧ Rep K S ma d v := by
  unfold atI
  rw [r.length] at h
  cases e : ixN vs.length i with
  | none => rw [e] at h; cases h
  | some j =>
    rw [e] at h
    obtain ⟨v, h1, h2⟩ := r.get (show xs[j]? = some d from h)
    exact ⟨v, h1, h2⟩
def rIx (K : KW) : R2 := fun x y H Q => (((rIxL K x y H Q ∨ rIxT K x y H Q) ∨ rIxS x y H Q) ∨ rIxD x y H Q) ∨ rIxN K x y H Q
theorem rIx_of {B : Bs} {W : WX} {F S H : Hp} {ma : List Addr} {σ : L2.St} {ds : DS} {da db : D} {x y : V} {Q : VK} (cf : Cf B.kw F ma S H σ ds) (ra : Vw B.kw S ma H da x) (rb : Rep B.kw S ma db y) (h : Res B W F (RpV B.kw) σ ma S (opt (ixD da db) ds) Q) : rIx B.kw x y H Q := by
  have seq : ∀ (xs : List D) (i : Int), ixD da db = ((ixN xs.length i).bind fun j => xs[j]?) → ∀ (vs : List V), RepL B.kw S ma xs vs → ∃ v, atI vs i = some v ∧ Q v H := fun xs i e vs r => by
    rw [e] at h
    cases e2 : ((ixN xs.length i).bind fun j => xs[j]?) with
    | none => rw [e2] at h; exact h.elim
    | some d =>
      rw [e2] at h
      obtain ⟨v, h1, h2⟩ := atI_rep r e2
      exact ⟨v, h1, h ma S H v Ext.refl cf h2⟩
  unfold ixD at h
  split at h
  · rename_i xs i
    cases rb
    obtain ⟨a, vs, rfl, hs, r⟩ := ra.seqL cf
    obtain ⟨v, h1, h2⟩ := seq xs i rfl vs r
    exact .inl (.inl (.inl (.inl ⟨a, vs, i, v, rfl, rfl, hs, h1, h2⟩)))
  · rename_i xs i
    cases rb
    obtain ⟨a, vs, rfl, hs, r⟩ := ra.seqF cf
    obtain ⟨v, h1, h2⟩ := seq xs i rfl vs r
    exact .inl (.inl (.inl (.inl ⟨a, vs, i, v, rfl, rfl, hs, h1, h2⟩)))
  · rename_i xs i
    cases rb
    obtain ⟨a, vs, rfl, hs, r⟩ := ra.seqT cf
    obtain ⟨v, h1, h2⟩ := seq xs i rfl vs r
    exact .inl (.inl (.inl (.inr ⟨a, vs, i, v, rfl, rfl, hs, h1, h2⟩)))
  · rename_i xs i
    cases rb
    obtain ⟨a, vs, rfl, hs, r⟩ := ra.seqK cf
    obtain ⟨v, h1, h2⟩ := seq xs i rfl vs r
    exact .inl (.inl (.inl (.inr ⟨a, vs, i, v, rfl, rfl, hs, h1, h2⟩)))
  · rename_i z i
    cases rb
    split at h
    · rename_i hz
      cases ra with
      | rep ra =>
        cases ra
        cases e2 : ((ixN z.cps.toList.length i).bind fun j => z.cps.toList[j]?) with
        | none => rw [e2] at h; exact h.elim
        | some d =>
          rw [e2] at h
          exact .inl (.inl (.inr ⟨z, i, d, rfl, rfl, by rw [sizeLine_eq]; exact hz, e2, h ma S H _ Ext.refl cf (.str _)⟩))
    · exact h.elim
  · exact .inr (rIxN_of cf ra rb h)
  · exact .inl (.inr (rIxD_of cf ra rb h))
  · exact h.elim
def ixM (fa fb : M D) : M D := bnd fa fun x => bnd fb fun y s => opt (ixD (lookD s x) y) s
def ixvM (i : Nat) (fb : M D) : M D := fun s => match s.env[i]? with
  | none => .stuck
  | some .un => .stuck
  | some _ => (bnd fb fun y s => opt ((peekD i s).bind fun x => ixD x y) s) s
theorem v_ix (ha : VE c a fa) (hb : VE c b fb) (hs : PlainIx b := by intro _ _; rfl) (hc : c.calm = true := by rfl) : VE c (.Subscript a b pos) (ixM fa fb) := by
  refine ⟨fun X W ok => ?_⟩
  obtain ⟨ta, pa, qa⟩ := ha.run X W ok
  obtain ⟨tb, pb, qb⟩ := hb.run X W ok
  have hu := room60 ok hc
  obtain ⟨exc, k, isdef, fnc, rfl⟩ := ok.eq
  refine ⟨_, pe_ix ((((ix_list.or ix_tup).or ix_str).or (ix_dict (by omega))).or (ix_tab (by omega))) pa pb hs, fun F ma S H σ ds Q cf h => ?_⟩
  refine qa F ma S H σ ds _ cf (Res.bind h fun d1 ds1 ma1 S1 H1 x e1 c1 r1 h1 => ?_)
  refine qb F ma1 S1 H1 σ ds1 _ c1 (Res.bind h1 fun d2 ds2 ma2 S2 H2 y e2 c2 r2 h2 => ?_)
  exact rIx_of c2 (c2.look (r1.mono e2)) r2 h2
theorem v_ixv (i : Nat) {x : Str} (hN : c.N[i]? = some x) (hv : Vis c.sc x) (hb : VE c b fb) (hs : PlainIx b := by intro _ _; rfl) (hd : (x == ("__debug__" : Str)) = false := by decide) (hcd : (x == ("__classdict__" : Str)) = false := by decide) (hc : c.calm = true := by rfl) :
    VE c (.Subscript (.Name x p) b pos) (ixvM i fb) := by
  refine ⟨fun X W ok => ?_⟩
  obtain ⟨tb, pb, qb⟩ := hb.run X W ok
  have hu := room60 ok hc
  obtain ⟨exc, k, isdef, fnc, rfl⟩ := ok.eq
  refine ⟨_, pe_ix ((((ix_list.or ix_tup).or ix_str).or (ix_dict (by omega))).or (ix_tab (by omega))) (pe_var hN hv hd hcd) pb hs, fun F ma S H σ ds Q cf h => ?_⟩
  have go : (∃ v, σ[i]? = some (some v)) → Res _ W F (RpV (xkw X)) σ ma S ((bnd fb fun y s => opt ((peekD i s).bind fun x => ixD x y) s) ds) Q → tOp (rIx (xkw X)) (tVar i) tb σ H Q := fun ⟨v, ev⟩ h => by
    refine ⟨v, ev, qb F ma S H σ ds _ cf (Res.bind h fun d2 ds2 ma2 S2 H2 y e2 c2 r2 h2 => ?_)⟩
    have h2 : Res _ W F (RpV (xkw X)) σ ma2 S2 (opt ((peekD i ds2).bind fun x => ixD x d2) ds2) Q := h2
    cases q : peekD i ds2 with
    | none => rw [q] at h2; exact h2.elim
    | some d =>
      rw [q] at h2
      obtain ⟨v', ev', r⟩ := c2.peek q
      rw [ev] at ev'
      cases ev'
      exact rIx_of c2 r r2 h2
  unfold ixvM at h
  cases e : ds.env[i]? with
  | none => rw [e] at h; exact h.elim
  | some sl =>
    rw [e] at h
    have own : sl.isOwn = true → ∃ v, σ[i]? = some (some v) := fun ho => by
      obtain ⟨o, ho⟩ := Slot.mo_of ho
      obtain ⟨p, e1, _⟩ := cf.own i sl o e ho
      exact ⟨_, e1⟩
    cases sl with
    | un => exact h.elim
    | val d =>
      obtain ⟨v, e1, _⟩ := cf.val i d e
      exact go ⟨v, e1⟩ h
    | own xs => exact go (own rfl) h
    | ownK ks xs => exact go (own rfl) h
    | ownT ks xs => exact go (own rfl) h
end
end Vl
namespace Vl
open PySem PySem.Spec PyProof.Rows L2

/-! ### calls of what is built in -/
/-- a call by values -/
def CalV (c : SC) (f : Value) (g : List D → M D) : Prop := ∀ X W, Ok c X W → ∃ r : List V → Hp → VK → Prop, CallR X f r ∧ ∀ F ma S H σ ds xs vs Q, Cf c.B.kw F ma S H σ ds → RepL c.B.kw S ma xs vs → Res c.B W F (RpV c.B.kw) σ ma S (g xs ds) Q → r vs H Q
/-- a call that makes a new list -/
def CalF (c : SC) (f : Value) (g : List D → M (List D)) : Prop := ∀ X W, Ok c X W → ∃ r : List V → Hp → VK → Prop, CallR X f r ∧ ∀ F ma S H σ ds xs vs Q, Cf c.B.kw F ma S H σ ds → RepL c.B.kw S ma xs vs → Res c.B W F (RpF c.B.kw) σ ma S (g xs ds) Q → r vs H Q
/-- a call with one thing that is looked at -/
def CalO (c : SC) (f : Value) (g : D → Option D) : Prop := ∀ X W, Ok c X W → ∃ r : List V → Hp → VK → Prop, CallR X f r ∧ ∀ F ma S H σ ds x v Q, Cf c.B.kw F ma S H σ ds → Vw c.B.kw S ma H x v → Res c.B W F (RpV c.B.kw) σ ma S (opt (g x) ds) Q → r [v] H Q
section
variable {c : SC} {pos p : Pos} {a b e : Expr} {es : List Expr} {fa fb : M D} {fs : M (List D)} {x : Str} {id T : String}
theorem v_bcall {g : List D → M D} (hc : CalV c (.builtin id) g) (ha : VA c (e :: es) fs) (hg : Glo c.sc x) (hm : c.B.mg x = none) (hv : bootBuiltins x = some (.builtin id)) (hn : x ≠ "__name__" := by decide) (hdb : (x == ("__debug__" : Str)) = false := by decide)
    (he : ∀ env : Env, starEach (e :: es) env = (false, eval e env) :: starEach es env := by intro _; rfl) (hpl : ∀ env : Env, (backTo pos (starEach es env)).any (·.1) = false := by intro _; rfl) : VE c (.Call (.Name x p) (e :: es) [] pos) (bnd fs g) := by
  refine ⟨fun X W ok => ?_⟩
  obtain ⟨t, pa, qa⟩ := ha.run X W ok
  obtain ⟨r, hr, qr⟩ := hc X W ok
  obtain ⟨exc, k, isdef, fnc, rfl⟩ := ok.eq
  refine ⟨_, pe_callB hr hg hm hv pa hn hdb (he X.env) (hpl X.env), fun F ma S H σ ds Q cf h => ?_⟩
  exact qa F ma S H σ ds _ cf (Res.bind h fun d ds1 ma1 S1 H1 v e1 c1 r1 h1 => qr F ma1 S1 H1 σ ds1 d v Q c1 r1 h1)
theorem v_tcall {g : List D → M D} (hc : CalV c (.type T) g) (ha : VA c (e :: es) fs) (hg : Glo c.sc x) (hm : c.B.mg x = none) (hv : bootBuiltins x = some (.type T)) (hn : x ≠ "__name__" := by decide) (hdb : (x == ("__debug__" : Str)) = false := by decide)
    (he : ∀ env : Env, starEach (e :: es) env = (false, eval e env) :: starEach es env := by intro _; rfl) (hpl : ∀ env : Env, (backTo pos (starEach es env)).any (·.1) = false := by intro _; rfl) : VE c (.Call (.Name x p) (e :: es) [] pos) (bnd fs g) := by
  refine ⟨fun X W ok => ?_⟩
  obtain ⟨t, pa, qa⟩ := ha.run X W ok
  obtain ⟨r, hr, qr⟩ := hc X W ok
  obtain ⟨exc, k, isdef, fnc, rfl⟩ := ok.eq
  refine ⟨_, pe_callTy hr hg hm hv pa hn hdb (he X.env) (hpl X.env), fun F ma S H σ ds Q cf h => ?_⟩
  exact qa F ma S H σ ds _ cf (Res.bind h fun d ds1 ma1 S1 H1 v e1 c1 r1 h1 => qr F ma1 S1 H1 σ ds1 d v Q c1 r1 h1)
theorem f_bcall {g : List D → M (List D)} (hc : CalF c (.builtin id) g) (ha : VA c (e :: es) fs) (hg : Glo c.sc x) (hm : c.B.mg x = none) (hv : bootBuiltins x = some (.builtin id)) (hn : x ≠ "__name__" := by decide) (hdb : (x == ("__debug__" : Str)) = false := by decide)
    (he : ∀ env : Env, starEach (e :: es) env = (false, eval e env) :: starEach es env := by intro _; rfl) (hpl : ∀ env : Env, (backTo pos (starEach es env)).any (·.1) = false := by intro _; rfl) : VF c (.Call (.Name x p) (e :: es) [] pos) (bnd fs g) := by
  refine ⟨fun X W ok => ?_⟩
  obtain ⟨t, pa, qa⟩ := ha.run X W ok
  obtain ⟨r, hr, qr⟩ := hc X W ok
  obtain ⟨exc, k, isdef, fnc, rfl⟩ := ok.eq
  refine ⟨_, pe_callB hr hg hm hv pa hn hdb (he X.env) (hpl X.env), fun F ma S H σ ds Q cf h => ?_⟩
  exact qa F ma S H σ ds _ cf (Res.bind h fun d ds1 ma1 S1 H1 v e1 c1 r1 h1 => qr F ma1 S1 H1 σ ds1 d v Q c1 r1 h1)
theorem f_tcall {g : List D → M (List D)} (hc : CalF c (.type T) g) (ha : VA c (e :: es) fs) (hg : Glo c.sc x) (hm : c.B.mg x = none) (hv : bootBuiltins x = some (.type T)) (hn : x ≠ "__name__" := by decide) (hdb : (x == ("__debug__" : Str)) = false := by decide)
    (he : ∀ env : Env, starEach (e :: es) env = (false, eval e env) :: starEach es env := by intro _; rfl) (hpl : ∀ env : Env, (backTo pos (starEach es env)).any (·.1) = false := by intro _; rfl) : VF c (.Call (.Name x p) (e :: es) [] pos) (bnd fs g) := by
  refine ⟨fun X W ok => ?_⟩
  obtain ⟨t, pa, qa⟩ := ha.run X W ok
  obtain ⟨r, hr, qr⟩ := hc X W ok
  obtain ⟨exc, k, isdef, fnc, rfl⟩ := ok.eq
  refine ⟨_, pe_callTy hr hg hm hv pa hn hdb (he X.env) (hpl X.env), fun F ma S H σ ds Q cf h => ?_⟩
  exact qa F ma S H σ ds _ cf (Res.bind h fun d ds1 ma1 S1 H1 v e1 c1 r1 h1 => qr F ma1 S1 H1 σ ds1 d v Q c1 r1 h1)
def lookM1 (g : D → Option D) (f : M D) : M D := bnd f fun x => opt (g x)
theorem v_ocall {g : D → Option D} (hc : CalO c (.builtin id) g) (ha : VO c e fa) (hg : Glo c.sc x) (hm : c.B.mg x = none) (hv : bootBuiltins x = some (.builtin id)) (hn : x ≠ "__name__" := by decide) (hdb : (x == ("__debug__" : Str)) = false := by decide)
    (he : ∀ env : Env, starEach [e] env = [(false, eval e env)] := by intro _; rfl) : VE c (.Call (.Name x p) [e] [] pos) (lookM1 g fa) := by
  refine ⟨fun X W ok => ?_⟩
  obtain ⟨t, pa, qa⟩ := ha.run X W ok
  obtain ⟨r, hr, qr⟩ := hc X W ok
  obtain ⟨exc, k, isdef, fnc, rfl⟩ := ok.eq
  refine ⟨_, pe_callB hr hg hm hv (pa_cons pa pa_nil (he X.env)) hn hdb (he X.env) rfl, fun F ma S H σ ds Q cf h => ?_⟩
  exact qa F ma S H σ ds _ cf (Res.bind h fun d ds1 ma1 S1 H1 v e1 c1 r1 h1 => qr F ma1 S1 H1 σ ds1 d v Q c1 r1 h1)

theorem CallR.or {X : Cx} {f : Value} {r r' : List V → Hp → VK → Prop} (h : CallR X f r) (h' : CallR X f r') : CallR X f (fun x H Q => r x H Q ∨ r' x H Q) := by
  intro pins s σ H xs us Q I rx q
  rcases q with q | q
  · exact h pins s σ H xs us Q I rx q
  · exact h' pins s σ H xs us Q I rx q
/-! len -/
def lenD : D → Option D
  | .str z => if z.length ≤ 16777216 then some (.int z.length) else none
  | .lst xs => some (.int xs.length)
  | .frl xs => some (.int xs.length)
  | .tup xs => some (.int xs.length)
  | .ktp xs => some (.int xs.length)
  | .dK ks _ => some (.int ks.length)
  | .dT ks _ => some (.int ks.length)
  | _ => none
def rLenK : List V → Hp → VK → Prop := fun xs H Q => ∃ a kvs, xs = [V.ref a] ∧ Rd H a (.dK kvs) ∧ Q (.int kvs.length) H
theorem call_lenK {X : Cx} : CallR X (.builtin "len") rLenK := by
  intro pins s σ H xs us Q I r h
  obtain ⟨a, kvs, rfl, ha, q⟩ := h
  obtain ⟨u, rfl, ru⟩ := vals1 r
  cases ru
  exact d_len I ha fun t s' I' => ⟨.int kvs.length, H, I', ⟨t, rfl⟩, q⟩
def rLenN (K : KW) : List V → Hp → VK → Prop := fun xs H Q => ∃ (S : Hp) (ma : List Addr) (a : Addr) (ks : List D) (nks : List NestedKey) (bs : List Addr) (vs : List V), xs = [V.ref a] ∧ Same S H ∧ Rd H a (.ext (NTab K.w a nks bs vs)) ∧ TF ks a nks bs vs ∧ RepL K S ma ks (bs.map .ref) ∧ Q (.int ks.length) H
theorem call_lenN {X : Cx} : CallR X (.builtin "len") (rLenN (xkw X)) := by
  intro pins s σ H xs us Q I r h
  obtain ⟨S, ma, a, ks, nks, bs, vs, rfl, sm, ha, t, rk, q⟩ := h
  obtain ⟨u, rfl, ru⟩ := vals1 r
  cases ru
  obtain ⟨us, rv, dd⟩ := NTab.dict I sm ha t rk
  have hl : (nks.zip (bs.zip us)).length = ks.length := by
    rw [List.length_zip, List.length_zip, t.nl, t.bl, ← rv.length, t.vl, Nat.min_self, Nat.min_self]
  have := t.few
  exact call_len_dictH t.sys dd (by rw [hl]; omega) ⟨.int ks.length, H, I.tok _, ⟨_, by rw [hl]⟩, q⟩
theorem cal_len : CalO c (.builtin "len") lenD := by
  intro X W ok
  refine ⟨_, (call_len.or call_lenK).or call_lenN, fun F ma S H σ ds d v Q cf r h => ?_⟩
  obtain ⟨exc, k, isdef, fnc, rfl⟩ := ok.eq
  unfold lenD at h
  split at h
  · rename_i z
    split at h
    · rename_i hz
      cases r with
      | rep r => cases r; exact .inl (.inl ⟨_, z.length, rfl, ⟨by rw [sizeLine_eq]; exact hz, rfl⟩, h ma S H _ Ext.refl cf (.int _)⟩)
    · exact h.elim
  · obtain ⟨a, vs, rfl, hs, rl⟩ := r.seqL cf
    exact .inl (.inl ⟨_, vs.length, rfl, .inl ⟨vs, hs, rfl⟩, h ma S H _ Ext.refl cf (by rw [rl.length]; exact .int _)⟩)
  · obtain ⟨a, vs, rfl, hs, rl⟩ := r.seqF cf
    exact .inl (.inl ⟨_, vs.length, rfl, .inl ⟨vs, hs, rfl⟩, h ma S H _ Ext.refl cf (by rw [rl.length]; exact .int _)⟩)
  · obtain ⟨a, vs, rfl, hs, rl⟩ := r.seqT cf
    exact .inl (.inl ⟨_, vs.length, rfl, .inr ⟨vs, hs, rfl⟩, h ma S H _ Ext.refl cf (by rw [rl.length]; exact .int _)⟩)
  · obtain ⟨a, vs, rfl, hs, rl⟩ := r.seqK cf
    exact .inl (.inl ⟨_, vs.length, rfl, .inr ⟨vs, hs, rfl⟩, h ma S H _ Ext.refl cf (by rw [rl.length]; exact .int _)⟩)
  · rename_i ks xs
    obtain ⟨a, vs, rfl, hs, hl, rl⟩ := r.dicK cf
    have e : (ks.zip vs).length = ks.length := by rw [List.length_zip, ← rl.length, hl, Nat.min_self]
    exact .inl (.inr ⟨a, _, rfl, hs, by rw [e]; exact h ma S H _ Ext.refl cf (.int _)⟩)
  · rename_i ks xs
    obtain ⟨a, nks, bs, vs, rfl, hr, t, q, rl⟩ := r.dicT cf
    exact .inr ⟨S, ma, a, ks, nks, bs, vs, rfl, cf.sub, hr, t, q, h ma S H _ Ext.refl cf (.int _)⟩
  · exact h.elim

/-! isinstance(x, T), T built in -/
def tyD : D → Option String
  | .non => some "NoneType"
  | .bl _ => some "bool"
  | .int _ => some "int"
  | .str _ => some "str"
  | .lst _ => some "list"
  | .frl _ => some "list"
  | .tup _ => some "tuple"
  | .ktp _ => some "tuple"
  | .dK _ _ => some "dict"
  | .dT _ _ => none
  | .mut _ => none
def isiD (T : String) (d : D) : Option D := (tyD d).bind fun t => (kitB t T).map .bl
theorem tyX_of {K : KW} {S H : Hp} {ma : List Addr} {d : D} {v : V} {t : String} (sm : Same S H) (r : Rep K S ma d v) (h : tyD d = some t) : TyX K H v (.type t) := by
  cases r with
  | non => cases h; exact .base .non
  | bl k => cases h; exact .base (.bl k)
  | int i => cases h; exact .base (.int i)
  | str x => cases h; exact .base (.str x)
  | lst e _ => cases h; exact .base (.lst (sm _ _ e))
  | frl e _ =>
    cases h
    rcases e with (e | ⟨o, e⟩) | e
    · exact .base (.lst (sm _ _ e))
    · exact .base (.frz (sm _ _ e))
    · obtain ⟨o, _, _, h1, h2, _⟩ := e
      exact .kList h1 h2
  | tup e _ =>
    cases h
    exact .base (.tup (sm _ _ e))
  | ktp e _ =>
    cases h
    rcases e with (e | ⟨o, e⟩) | e
    · exact .base (.tup (sm _ _ e))
    · exact .fTuple (sm _ _ e)
    · obtain ⟨o, _, _, h1, h2, _⟩ := e
      exact .kTuple h1 h2
  | dK e _ _ =>
    cases h
    exact .fDict (sm _ _ e)
  | dT _ _ _ _ => cases h
  | «mut» _ => cases h
def isiM (T : String) (f : M D) : M D := bnd f fun x => opt (isiD T x)
theorem v_isi {y : Str} {py : Pos} (hc : VE c a fa) (hg : Glo c.sc "isinstance") (hm : c.B.mg "isinstance" = none) (hgy : Glo c.sc y) (hmy : c.B.mg y = none) (hv : bootBuiltins y = some (.type T)) (hn : y ≠ "__name__" := by decide) (hdb : (y == ("__debug__" : Str)) = false := by decide)
    (he : ∀ env : Env, starEach [a, .Name y py] env = (false, eval a env) :: starEach [.Name y py] env := by intro _; rfl) : VE c (.Call (.Name "isinstance" p) [a, .Name y py] [] pos) (isiM T fa) := by
  refine ⟨fun X W ok => ?_⟩
  obtain ⟨t, pa, qa⟩ := hc.run X W ok
  obtain ⟨exc, k, isdef, fnc, rfl⟩ := ok.eq
  refine ⟨_, pe_callB call_isi hg hm (by rfl) (pa_cons pa (pa_cons (pe_bltn hgy hmy hv (v := .ty T) rfl hn hdb) pa_nil rfl) (he X.env)) (by decide) (by decide) (he X.env) rfl, fun F ma S H σ ds Q cf h => ?_⟩
  refine qa F ma S H σ ds _ cf (Res.bind h fun d ds1 ma1 S1 H1 v e1 c1 r1 h1 => ?_)
  have h1 : Res _ W F (RpV (xkw X)) σ ma1 S1 (opt ((tyD d).bind fun t => (kitB t T).map .bl) ds1) Q := h1
  cases e2 : tyD d with
  | none => rw [e2] at h1; exact h1.elim
  | some t =>
    rw [e2] at h1
    cases e3 : kitB t T with
    | none => simp only [Option.bind_some, e3] at h1; exact h1.elim
    | some bb =>
      simp only [Option.bind_some, e3] at h1
      exact ⟨v, .ty T, .type t, .type T, bb, rfl, .ty T, tyX_of c1.sub r1 e2, kit_ty e3, h1 ma1 S1 H1 _ Ext.refl c1 (.bl bb)⟩

/-! abs, min, max of two -/
def absF : List D → M D
  | [.int i] => rtn (.int (if i < 0 then -i else i))
  | _ => fun _ => .stuck
theorem RepL.i1 {K : KW} {S : Hp} {ma : List Addr} {i : Int} {vs : List V} (r : RepL K S ma [.int i] vs) : vs = [.int i] := by
  cases r with | cons a b => cases a; cases b; rfl
theorem RepL.i2 {K : KW} {S : Hp} {ma : List Addr} {i j : Int} {vs : List V} (r : RepL K S ma [.int i, .int j] vs) : vs = [.int i, .int j] := by
  cases r with | cons a b => cases a; cases b with | cons a b => cases a; cases b; rfl
theorem RepL.s2 {K : KW} {S : Hp} {ma : List Addr} {i j : Str} {vs : List V} (r : RepL K S ma [.str i, .str j] vs) : vs = [.str i, .str j] := by
  cases r with | cons a b => cases a; cases b with | cons a b => cases a; cases b; rfl
theorem cal_abs : CalV c (.builtin "abs") absF := by
  intro X W ok
  refine ⟨_, call_abs, fun F ma S H σ ds xs vs Q cf r h => ?_⟩
  unfold absF at h
  split at h
  · rename_i i
    exact ⟨i, r.i1, h ma S H _ Ext.refl cf (.int _)⟩
  · exact h.elim
theorem two_strs {P : Program} {w : World} {A : Around} {E : Value → Shared → Prop} {s : Shared} {a b : Str} {t u : Tok} {Q : Value → Shared → Prop} (hh : A.handled = none) (hu : A.units + 5 < cLine)
    (h : ∀ h' tk, (∀ c o, s.heap.get? c = some o → h'.get? c = some o) → Q (if PySem.W.dataLt (.str b) (.str a) = true then .str b u else .str a t) { s with heap := h', toks := tk }) :
    wpAny (model P w) A (call (.builtin "min") [.str a t, .str b u]) Q E s := by
  have hT : (s.heap.push { cls := .type "tuple", data := .seq #[.str a t, .str b u] }).IsTuple s.heap.objs.size #[.str a t, .str b u] := ⟨_, Heap.get?_push_size _ rfl, rfl, 0, rfl⟩
  refine call_min_two (wpAny_pyIter_tuple hT ?_)
  have hsz : (s.heap.push { cls := .type "tuple", data := .seq #[.str a t, .str b u] }).objs.size = s.heap.objs.size + 1 := Heap.size_push ..
  let pd : Nat → PyData := fun i => if i = 0 then .str a else .str b
  have hrd : ∀ (i : Nat) (v : Value), (#[Value.str a t, Value.str b u] : Array Value)[i]? = some v → ∀ hp : Heap, ∃ as, Reads hp v (pd i) as := fun i v e hp => by
    match i, e with
    | 0, e => cases Option.some.inj e; exact ⟨_, .str a t⟩
    | 1, e => cases Option.some.inj e; exact ⟨_, .str b u⟩
  have hal : ∀ i j, PySem.W.alike (pd i) (pd j) = true := fun i j => by
    show PySem.W.alike (if i = 0 then PyData.str a else .str b) (if j = 0 then PyData.str a else .str b) = true
    split <;> split <;> rfl
  have hnn : ∀ i, pd i ≠ .none := fun i => by
    show (if i = 0 then PyData.str a else .str b) ≠ .none
    split <;> exact fun z => nomatch z
  have hdp : ∀ i, (pd i).depth = 0 := fun i => by
    show (if i = 0 then PyData.str a else .str b).depth = 0
    split <;> rfl
  have hcmp : CmpOf P w A.in1 .Lt (fun i v => (#[Value.str a t, Value.str b u] : Array Value)[i]? = some v) (fun i j => PySem.W.dataLt (pd i) (pd j)) := fun i j vi vj s' Q' E' hi hj hq => by
    obtain ⟨as, r1⟩ := hrd i vi hi s'.heap
    obtain ⟨bs, r2⟩ := hrd j vj hj s'.heap
    refine PySem.W.rcLt_alike _ _ A.in1 s' vi vj _ _ r1 r2 (hal i j) (hnn i) ?_ P w E' Q' hq
    rw [hdp i]
    show A.units + 1 + min 0 _ < _
    omega
  refine ⟨_, [_, s.heap.objs.size], [_], _, _, _, _, rfl, Walks.tuple (A := A.in1) hh _ s.heap.objs.size (by rw [hsz]; exact Nat.ne_of_lt (Nat.lt_succ_self _)) #[.str a t, .str b u],
    ⟨⟨_, Heap.get?_push_size _ rfl, rfl, rfl⟩, hT.push _⟩, fun c hc => ?_, by simp, hcmp, fun v h' tk hP hk => ?_⟩
  · show c < ((s.heap.push _).push _).objs.size
    rw [Heap.size_push, hsz]
    rcases List.mem_cons.mp hc with rfl | hc
    · rw [hsz]; exact Nat.lt_succ_self _
    · rcases List.mem_cons.mp hc with rfl | hc
      · exact Nat.lt_succ_of_lt (Nat.lt_succ_self _)
      · cases hc
  · have hold : ∀ c o, s.heap.get? c = some o → h'.get? c = some o := fun c o e => by
      refine hk c o (fun hm => ?_) (Heap.get?_push_of_some _ (Heap.get?_push_of_some _ e))
      rcases List.mem_cons.mp hm with e1 | hm
      · have := Heap.lt_size e; rw [e1, hsz] at this; exact Nat.lt_irrefl _ (Nat.lt_of_succ_lt this)
      · cases hm
    have := h h' tk hold
    have hv : v = if PySem.W.dataLt (.str b) (.str a) = true then Value.str b u else Value.str a t := by
      have hP' : (#[Value.str a t, Value.str b u] : Array Value)[argBest (fun i j => PySem.W.dataLt (pd i) (pd j)) 1]? = some v := hP
      by_cases hba : PySem.W.dataLt (.str b) (.str a) = true
      · have e : argBest (fun i j => PySem.W.dataLt (pd i) (pd j)) 1 = 1 := by
          show (if PySem.W.dataLt (pd 1) (pd 0) = true then 1 else 0) = 1
          exact if_pos hba
        rw [e] at hP'
        rw [if_pos hba]
        exact (Option.some.inj hP').symm
      · have e : argBest (fun i j => PySem.W.dataLt (pd i) (pd j)) 1 = 0 := by
          show (if PySem.W.dataLt (pd 1) (pd 0) = true then 1 else 0) = 0
          exact if_neg hba
        rw [e] at hP'
        rw [if_neg hba]
        exact (Option.some.inj hP').symm
    rw [hv]; exact this
def min2F : List D → M D
  | [.int i, .int j] => rtn (.int (if j < i then j else i))
  | [.str x, .str y] => rtn (.str (if ltD (.str y) (.str x) = true then y else x))
  | _ => fun _ => .stuck
def max2F : List D → M D
  | [.int i, .int j] => rtn (.int (if j > i then j else i))
  | _ => fun _ => .stuck
theorem call_min2s {X : Cx} (hc : X.calm = true) (hu : X.A.units + 5 < cLine) : CallR X (.builtin "min") (fun xs H Q => ∃ i j, xs = [.str i, .str j] ∧ Q (.str (if ltD (.str j) (.str i) = true then j else i)) H) := by
  intro pins s σ H xs us Q I r h
  obtain ⟨i, j, rfl, q⟩ := h
  obtain ⟨u, w', rfl, ⟨t, rfl⟩, ⟨t', rfl⟩⟩ := vals2 r
  refine two_strs (I.ok.hd hc) hu fun h' tk k => ⟨_, H, I.kept k, ?_, q⟩
  by_cases hj : ltD (.str j) (.str i) = true
  · have hj' : PySem.W.dataLt (.str j) (.str i) = true := hj
    rw [if_pos hj, if_pos hj']; exact ⟨_, rfl⟩
  · have hj' : ¬ PySem.W.dataLt (.str j) (.str i) = true := hj
    rw [if_neg hj, if_neg hj']; exact ⟨_, rfl⟩
theorem cal_min2 (hc : c.calm = true) : CalV c (.builtin "min") min2F := by
  intro X W ok
  have hu := room60 ok hc
  have hcx : X.calm = true := by obtain ⟨exc, k, isdef, fnc, rfl⟩ := ok.eq; exact hc
  refine ⟨_, (call_min2 hcx).or (call_min2s hcx (by omega)), fun F ma S H σ ds xs vs Q cf r h => ?_⟩
  unfold min2F at h
  split at h
  · rename_i i j
    exact .inl ⟨i, j, r.i2, h ma S H _ Ext.refl cf (.int _)⟩
  · rename_i i j
    exact .inr ⟨i, j, r.s2, h ma S H _ Ext.refl cf (.str _)⟩
  · exact h.elim
theorem cal_max2 (hc : c.calm = true) : CalV c (.builtin "max") max2F := by
  intro X W ok
  have hcx : X.calm = true := by obtain ⟨exc, k, isdef, fnc, rfl⟩ := ok.eq; exact hc
  refine ⟨_, call_max2 hcx, fun F ma S H σ ds xs vs Q cf r h => ?_⟩
  unfold max2F at h
  split at h
  · rename_i i j
    exact ⟨i, j, r.i2, h ma S H _ Ext.refl cf (.int _)⟩
  · exact h.elim

/-! sum -/
def intsD : List D → Option (List Int)
  | [] => some []
  | .int i :: r => (intsD r).map (i :: ·)
  | _ => none
theorem RepL.ints {K : KW} {S : Hp} {ma : List Addr} : ∀ {xs : List D} {vs : List V} {ns : List Int}, RepL K S ma xs vs → intsD xs = some ns → vs = ns.map V.int
  | _, _, _, .nil, e => by cases e; rfl
  | _, _, _, .cons (d := d) (ds := ds) a r, e => by
    cases a with
    | int i =>
      cases q : intsD ds with
      | none => simp [intsD, q] at e
      | some m =>
        simp [intsD, q] at e
        subst e
        rw [List.map_cons, RepL.ints r q]
    | _ => cases e
def sumF : List D → M D
  | [.lst xs] => opt ((intsD xs).map fun ns => .int ns.sum)
  | [.frl xs] => opt ((intsD xs).map fun ns => .int ns.sum)
  | _ => fun _ => .stuck
theorem cal_sum (hc : c.calm = true) : CalV c (.builtin "sum") sumF := by
  intro X W ok
  have hcx : X.calm = true := by obtain ⟨exc, k, isdef, fnc, rfl⟩ := ok.eq; exact hc
  refine ⟨_, cr_sum hcx, fun F ma S H σ ds xs vs Q cf r h => ?_⟩
  obtain ⟨exc, k, isdef, fnc, rfl⟩ := ok.eq
  have go : ∀ (xs : List D) (ws : List V) (a : Addr), SqL X.K H a ws → RepL (xkw X) S ma xs ws → Res _ W F (RpV (xkw X)) σ ma S (opt ((intsD xs).map fun ns => .int ns.sum) ds) Q → rSum X.K [.ref a] H Q := fun xs ws a hs rl h => by
    cases e : intsD xs with
    | none => rw [e] at h; exact h.elim
    | some ns =>
      rw [e] at h
      have := rl.ints e
      subst this
      exact ⟨a, ns, rfl, hs, h ma S H _ Ext.refl cf (.int _)⟩
  unfold sumF at h
  split at h
  · cases r with
    | cons r1 r2 =>
      cases r2
      cases r1 with
      | lst hs rl => exact go _ _ _ (.inl (.inl (cf.sub _ _ hs))) rl h
  · cases r with
    | cons r1 r2 =>
      cases r2
      cases r1 with
      | frl hs rl => exact go _ _ _ (cf.sub.seq hs) rl h
  · exact h.elim

/-! list(xs), tuple(xs) -/
def itemsF : List D → M (List D)
  | [.lst xs] => rtn xs
  | [.frl xs] => rtn xs
  | [.tup xs] => rtn xs
  | [.ktp xs] => rtn xs
  | _ => fun _ => .stuck
def tupF : List D → M D
  | [.lst xs] => rtn (.tup xs)
  | [.frl xs] => rtn (.tup xs)
  | [.tup xs] => rtn (.tup xs)
  | [.ktp xs] => rtn (.ktp xs)
  | _ => fun _ => .stuck
theorem cal_list : CalF c (.type "list") itemsF := by
  intro X W ok
  refine ⟨_, call_list_of, fun F ma S H σ ds xs vs Q cf r h => ?_⟩
  obtain ⟨exc, k, isdef, fnc, rfl⟩ := ok.eq
  have go : ∀ (xs : List D) (ws : List V), RepL (xkw X) S ma xs ws → Res _ W F (RpF (xkw X)) σ ma S (rtn xs ds) Q → ∀ l, H l = none → Q (.ref l) (upd H l (.lst ws)) := fun xs ws rl h l hl =>
    h ma S _ _ Ext.refl (cf.grow (.lst ws) hl) ⟨l, ws, rfl, upd_same, cf.fre hl, rl⟩
  unfold itemsF at h
  split at h
  · cases r with
    | cons r1 r2 =>
      cases r2
      cases r1 with
      | lst hs rl => exact ⟨_, _, rfl, .inl (.inl (.inl (cf.sub _ _ hs))), go _ _ rl h⟩
  · cases r with
    | cons r1 r2 =>
      cases r2
      cases r1 with
      | frl hs rl => exact ⟨_, _, rfl, .inl (cf.sub.seq hs), go _ _ rl h⟩
  · cases r with
    | cons r1 r2 =>
      cases r2
      cases r1 with
      | tup hs rl => exact ⟨_, _, rfl, .inr (Vl.seqT cf.sub (tsq hs)), go _ _ rl h⟩
  · cases r with
    | cons r1 r2 =>
      cases r2
      cases r1 with
      | ktp hs rl => exact ⟨_, _, rfl, .inr (Vl.seqT cf.sub hs), go _ _ rl h⟩
  · exact h.elim
theorem cal_tuple : CalV c (.type "tuple") tupF := by
  intro X W ok
  refine ⟨_, call_tuple_of, fun F ma S H σ ds xs vs Q cf r h => ?_⟩
  obtain ⟨exc, k, isdef, fnc, rfl⟩ := ok.eq
  have go : ∀ (xs : List D) (ws : List V), RepL (xkw X) S ma xs ws → Res _ W F (RpV (xkw X)) σ ma S (rtn (.tup xs) ds) Q → ∀ l, H l = none → Q (.ref l) (upd H l (.tup ws)) := fun xs ws rl h l hl => by
    obtain ⟨c2, ex⟩ := cf.lay (.tup ws) hl
    exact h ma _ _ _ ex c2 (.tup upd_same (rl.mono ex))
  unfold tupF at h
  split at h
  · cases r with
    | cons r1 r2 =>
      cases r2
      cases r1 with
      | lst hs rl => exact ⟨_, _, rfl, .inl ⟨.inl (.inl (cf.sub _ _ hs)), go _ _ rl h⟩⟩
  · cases r with
    | cons r1 r2 =>
      cases r2
      cases r1 with
      | frl hs rl => exact ⟨_, _, rfl, .inl ⟨cf.sub.seq hs, go _ _ rl h⟩⟩
  · cases r with
    | cons r1 r2 =>
      cases r2
      cases r1 with
      | tup hs rl => exact ⟨_, _, rfl, .inr ⟨Vl.seqT cf.sub (tsq hs), h ma S H _ Ext.refl cf (.tup hs rl)⟩⟩
  · cases r with
    | cons r1 r2 =>
      cases r2
      cases r1 with
      | ktp hs rl => exact ⟨_, _, rfl, .inr ⟨Vl.seqT cf.sub hs, h ma S H _ Ext.refl cf (.ktp hs rl)⟩⟩
  · exact h.elim
end
end Vl
namespace Vl
open PySem PySem.Spec PyProof.Rows L2

/-! ### slices -/
structure VPt (c : SC) (e : Option Expr) (f : M (Option Int)) : Prop where
  run : ∀ X W, Ok c X W → ∃ t : TO, PO X e t ∧ ∀ F ma S H σ ds Q, Cf c.B.kw F ma S H σ ds → Res c.B W F (fun _ _ _ _ _ _ a b => a = b) σ ma S (f ds) Q → t σ H Q
def asI : D → Option Int
  | .int i => some i
  | _ => none
def partM (f : M D) : M (Option Int) := bnd f fun d => bnd (opt (asI d)) fun i => rtn (some i)
def cutD (xs : List D) (lo hi : Option Int) : List D := (xs.drop (HT.sIx xs.length 0 lo)).take (HT.sIx xs.length xs.length hi - HT.sIx xs.length 0 lo)
def slD : D → Option Int → Option Int → Option D
  | .lst xs, lo, hi => some (.lst (cutD xs lo hi))
  | .frl xs, lo, hi => some (.lst (cutD xs lo hi))
  | .tup xs, lo, hi => some (.tup (cutD xs lo hi))
  | .str z, lo, hi => if z.length ≤ 16777216 then some (.str (cutS z lo hi)) else none
  | _, _, _ => none
def slM (f : M D) (lo hi : M (Option Int)) : M D := bnd f fun d => bnd lo fun l => bnd hi fun h s => opt (slD (lookD s d) l h) s
section
variable {c : SC} {pos p p2 : Pos} {a b e : Expr} {es : List Expr} {fa fb : M D} {fs : M (List D)} {x : Str} {id T : String} {lo hi : Option Expr} {fl fh : M (Option Int)}
theorem p_none : VPt c none (rtn none) := ⟨fun X W ok => ⟨tNoPart, po_none, fun F ma S H σ ds Q cf h => h ma S H none Ext.refl cf rfl⟩⟩
theorem p_some (h : VE c e fa) : VPt c (some e) (partM fa) := by
  refine ⟨fun X W ok => ?_⟩
  obtain ⟨t, pa, qa⟩ := h.run X W ok
  refine ⟨_, po_some pa, fun F ma S H σ ds Q cf h => ?_⟩
  refine qa F ma S H σ ds _ cf (Res.bind h fun d ds1 ma1 S1 H1 v e1 c1 r1 h1 => ?_)
  cases r1 with
  | int i => exact ⟨i, rfl, h1 ma1 S1 H1 _ Ext.refl c1 rfl⟩
  | _ => exact (show False from h1).elim
theorem RepL.cut {K : KW} {S : Hp} {ma : List Addr} {xs : List D} {vs : List V} (r : RepL K S ma xs vs) (lo hi : Option Int) : RepL K S ma (cutD xs lo hi) (cutV vs lo hi) := by
  unfold cutD cutV
  rw [r.length]
  exact (r.drop _).take _
def rSlAll (K : PySem.W.Frag) : V → Option Int → Option Int → Hp → VK → Prop := fun x l h H Q => (rSlL K x l h H Q ∨ rSlA K x l h H Q) ∨ rSlS x l h H Q
theorem rSl_of {B : Bs} {W : WX} {F S H : Hp} {ma : List Addr} {σ : L2.St} {ds : DS} {d : D} {v : V} {l h : Option Int} {Q : VK} (cf : Cf B.kw F ma S H σ ds) (r : Vw B.kw S ma H d v) (hh : Res B W F (RpV B.kw) σ ma S (opt (slD d l h) ds) Q) : rSlAll B.K v l h H Q := by
  have mk : ∀ (xs : List D) (vs : List V), RepL B.kw S ma xs vs → Res B W F (RpV B.kw) σ ma S (opt (some (D.lst (cutD xs l h))) ds) Q → ∀ p, H p = none → Q (.ref p) (upd H p (.lst (cutV vs l h))) := fun xs vs rl hh p hp => by
    obtain ⟨c2, ex⟩ := cf.lay (.lst (cutV vs l h)) hp
    exact hh ma _ _ _ ex c2 (.lst upd_same ((rl.cut l h).mono ex))
  unfold slD at hh
  split at hh
  · obtain ⟨a, vs, rfl, hs, rl⟩ := r.seqL cf
    exact .inl (.inl ⟨a, vs, rfl, hs, mk _ _ rl hh⟩)
  · obtain ⟨a, vs, rfl, hs, rl⟩ := r.seqF cf
    exact .inl (.inl ⟨a, vs, rfl, hs, mk _ _ rl hh⟩)
  · rename_i xs
    obtain ⟨a, vs, rfl, hs, rl⟩ := r.seqT cf
    have rt : ∃ a', V.ref a = .ref a' ∧ Rep B.kw S ma (.tup xs) (.ref a') := by
      cases r with
      | rep r => exact ⟨a, rfl, r⟩
    obtain ⟨a', ea, rt⟩ := rt
    cases ea
    refine .inl (.inr ⟨a, vs, rfl, hs, fun hw => ?_, fun hw p hp => ?_⟩)
    · have e : cutD xs l h = xs := by
        unfold cutD
        rw [rl.length, hw.1, hw.2, List.drop_zero, Nat.sub_zero, ← rl.length, List.take_length]
      rw [e] at hh
      exact hh ma S H _ Ext.refl cf rt
    · obtain ⟨c2, ex⟩ := cf.lay (.tup (cutV vs l h)) hp
      exact hh ma _ _ _ ex c2 (.tup upd_same ((rl.cut l h).mono ex))
  · rename_i z
    split at hh
    · rename_i hz
      cases r with
      | rep r => cases r; exact .inr ⟨z, rfl, by rw [sizeLine_eq]; exact hz, hh ma S H _ Ext.refl cf (.str _)⟩
    · exact hh.elim
  · exact hh.elim
theorem v_sl (ha : VE c a fa) (hl : VPt c lo fl) (hh : VPt c hi fh) : VE c (.Subscript a (.Slice lo hi none p2) pos) (slM fa fl fh) := by
  refine ⟨fun X W ok => ?_⟩
  obtain ⟨ta, pa, qa⟩ := ha.run X W ok
  obtain ⟨tl, pl, ql⟩ := hl.run X W ok
  obtain ⟨th, ph, qh⟩ := hh.run X W ok
  obtain ⟨exc, k, isdef, fnc, rfl⟩ := ok.eq
  refine ⟨_, pe_slice (sl_list.or sl_tupA |>.or sl_str) pa pl ph, fun F ma S H σ ds Q cf h => ?_⟩
  refine qa F ma S H σ ds _ cf (Res.bind h fun d ds1 ma1 S1 H1 v e1 c1 r1 h1 => ?_)
  refine ql F ma1 S1 H1 σ ds1 _ c1 (Res.bind h1 fun l ds2 ma2 S2 H2 l' e2 c2 r2 h2 => ?_)
  refine qh F ma2 S2 H2 σ ds2 _ c2 (Res.bind h2 fun u ds3 ma3 S3 H3 u' e3 c3 r3 h3 => ?_)
  cases r2
  cases r3
  exact rSl_of c3 (c3.look ((r1.mono e2).mono e3)) h3
/-- a slice of a list, a new list -/
def flD : D → Option Int → Option Int → Option (List D)
  | .lst xs, lo, hi => some (cutD xs lo hi)
  | .frl xs, lo, hi => some (cutD xs lo hi)
  | _, _, _ => none
def slfM (f : M D) (lo hi : M (Option Int)) : M (List D) := bnd f fun d => bnd lo fun l => bnd hi fun h s => opt (flD (lookD s d) l h) s
theorem f_sl (ha : VE c a fa) (hl : VPt c lo fl) (hh : VPt c hi fh) : VF c (.Subscript a (.Slice lo hi none p2) pos) (slfM fa fl fh) := by
  refine ⟨fun X W ok => ?_⟩
  obtain ⟨ta, pa, qa⟩ := ha.run X W ok
  obtain ⟨tl, pl, ql⟩ := hl.run X W ok
  obtain ⟨th, ph, qh⟩ := hh.run X W ok
  obtain ⟨exc, k, isdef, fnc, rfl⟩ := ok.eq
  refine ⟨_, pe_slice sl_list pa pl ph, fun F ma S H σ ds Q cf h => ?_⟩
  refine qa F ma S H σ ds _ cf (Res.bind h fun d ds1 ma1 S1 H1 v e1 c1 r1 h1 => ?_)
  refine ql F ma1 S1 H1 σ ds1 _ c1 (Res.bind h1 fun l ds2 ma2 S2 H2 l' e2 c2 r2 h2 => ?_)
  refine qh F ma2 S2 H2 σ ds2 _ c2 (Res.bind h2 fun u ds3 ma3 S3 H3 u' e3 c3 r3 h3 => ?_)
  cases r2
  cases r3
  have rv := c3.look ((r1.mono e2).mono e3)
  have mk : ∀ (xs : List D) (vs : List V), RepL (xkw X) S3 ma3 xs vs → Res _ W F (RpF (xkw X)) σ ma3 S3 (opt (some (cutD xs l u)) ds3) Q → ∀ p, H3 p = none → Q (.ref p) (upd H3 p (.lst (cutV vs l u))) := fun xs vs rl hh p hp =>
    hh ma3 S3 _ _ Ext.refl (c3.grow (.lst (cutV vs l u)) hp) ⟨p, _, rfl, upd_same, c3.fre hp, rl.cut l u⟩
  have h3 : Res _ W F (RpF (xkw X)) σ ma3 S3 (opt (flD (lookD ds3 d) l u) ds3) Q := h3
  unfold flD at h3
  split at h3
  · rename_i xs _ _ e0 _
    rw [e0] at rv
    obtain ⟨a, vs, rfl, hs, rl⟩ := rv.seqL c3
    exact ⟨a, vs, rfl, hs, mk _ _ rl h3⟩
  · rename_i xs _ _ e0 _
    rw [e0] at rv
    obtain ⟨a, vs, rfl, hs, rl⟩ := rv.seqF c3
    exact ⟨a, vs, rfl, hs, mk _ _ rl h3⟩
  · exact h3.elim

/-! ### [::-1] -/
def revS (z : Str) : Str := ⟨z.cps.toList.reverse.toArray⟩
theorem tRev_pe {X : Cx} {te : TE} {k : Nat} {p1 p2 p3 pos : Pos} (he : PE X e te) : PE X (.Subscript e (.Slice none none (some (.UnaryOp .USub (.Constant (.int 1) k p1) p2)) p3) pos)
    (fun σ H Q => te σ H fun x H1 => (∃ a xs, x = .ref a ∧ SqL X.K H1 a xs ∧ ∀ p, H1 p = none → Q (.ref p) (upd H1 p (.lst xs.reverse))) ∨ ∃ z, x = .str z ∧ z.length ≤ sizeLine ∧ Q (.str (revS z)) H1) := by
  refine ⟨fun pins s σ H Q I h => ?_⟩
  refine Subscript_ (thn (he.run pins s σ H _ I h) fun v s1 ⟨x, H1, I1, r1, q1⟩ => ?_)
  have hst : PO X (some (.UnaryOp .USub (.Constant (.int 1) k p1) p2)) (tPart (tUn (rU fun i => .int (-i)) (tC (.int 1)))) := po_some (pe_un un_neg pe_int)
  refine wpAny_Slice (thn (po_none.run pins s1 σ H1 (fun o H2 => o = none ∧ H2 = H1) I1 ⟨rfl, rfl⟩) fun vl s2 ⟨l, H2, I2, pl, el, e2⟩ => ?_)
  subst el e2
  refine thn (po_none.run pins s2 σ H2 (fun o H3 => o = none ∧ H3 = H2) I2 ⟨rfl, rfl⟩) fun vu s3 ⟨u, H3, I3, pu, eu, e3⟩ => ?_
  subst eu e3
  refine thn (hst.run pins s3 σ H3 (fun o H4 => o = some (-1) ∧ H4 = H3) I3 ⟨1, rfl, -1, rfl, rfl, rfl⟩) fun vs s4 ⟨o, H4, I4, ps, eo, e4⟩ => ?_
  subst eo e4
  have I5 : Inv X pins σ H4 { s4 with heap := s4.heap.push { cls := .type "slice", data := .fields #[vl, vu, vs] } } := I4.kept (t' := s4.toks) fun b ob q => Heap.get?_push_of_some _ q
  show wpAny (model X.prog X.w) X.A (subscriptTail e (.Slice none none (some (.UnaryOp .USub (.Constant (.int 1) k p1) p2)) p3) v (.ref s4.heap.objs.size)) (EP X pins σ Q) X.xe { s4 with heap := s4.heap.push { cls := .type "slice", data := .fields #[vl, vu, vs] } }
  rcases q1 with ⟨a, xs, ex, hx, q⟩ | ⟨z, ex, hz, q⟩
  · subst ex
    cases r1
    obtain ⟨its, r, ht, hz⟩ := I5.list hx
    have hlen := r.length
    refine tail_any (ops := [.ref a, .ref s4.heap.objs.size]) ht.isList.typeIs (PySem.slot_list_getitem.lookup) ?_ (by with_unfolding_all rfl)
    refine wpAny_getItem_list_slice ht.isList (Heap.IsSliceOf.new _ vl vu vs) pl pu ps (by decide) ?_ (by rw [List.size_toArray]; omega)
    rw [PySem.W.krv_pick]
    refine ⟨.ref _, _, I5.laid (t' := s4.toks) (o := .lst xs.reverse) (fun b ob q => Heap.get?_push_of_some _ q) (Nat.le_refl _) ?_, rfl, q _ (I5.hok.fresh (Nat.le_refl _))⟩
    exact ⟨by rw [List.length_reverse]; exact hz, _, 0, r.reverse, Heap.get?_push_size _ rfl⟩
  · subst ex
    obtain ⟨t, rfl⟩ := r1
    refine tail_any (ops := [.str z t, .ref s4.heap.objs.size]) (typeIs_str _ _ _) F.slot_str_getitem.lookup ?_ (by with_unfolding_all rfl)
    obtain ⟨l, rfl, el⟩ := IsPart.raw pl
    obtain ⟨u, rfl, eu⟩ := IsPart.raw pu
    obtain ⟨w, rfl, ew⟩ := IsPart.raw ps
    obtain ⟨os, hos, hcs, hds⟩ := Heap.IsSliceOf.new s4.heap (partValue l) (partValue u) (partValue w)
    refine wpAny_getItem_str_slice (l := l) (u := u) (st := w) ⟨os, hos, hcs, hds⟩ (by rw [ew]; decide) ?_
    have hpick : slicePicked z l u w = (List.range z.length).reverse := by
      unfold slicePicked
      rw [el, eu, ew]
      show sliceRange ((z.length : Int) - 1) (-1) (-1) = _
      rw [PySem.W.krv_sliceRange, PySem.W.krv_range]
    have hm : sliceMade z t l u w = .str (revS z) := by
      unfold sliceMade
      rw [hpick, ew]
      rw [if_neg (by intro z; have z := (Bool.and_eq_true _ _ ▸ z).1; exact absurd z (by decide)), List.filterMap_reverse, show z.length = z.cps.size from rfl, PySem.W.krv_all]
      rfl
    rw [hm]
    have hl : (revS z).length ≤ sizeLine := by
      show (z.cps.toList.reverse.toArray).size ≤ _
      rw [List.size_toArray, List.length_reverse]
      exact hz
    exact ⟨hl, .str _, H4, I5.tok _, ⟨_, rfl⟩, q⟩
def revD : D → Option D
  | .lst xs => some (.lst xs.reverse)
  | .frl xs => some (.lst xs.reverse)
  | .str z => if z.length ≤ 16777216 then some (.str (revS z)) else none
  | _ => none
def revM (f : M D) : M D := bnd f fun d s => opt (revD (lookD s d)) s
theorem v_rev {k : Nat} {p1 p3 : Pos} (ha : VE c a fa) : VE c (.Subscript a (.Slice none none (some (.UnaryOp .USub (.Constant (.int 1) k p1) p2)) p3) pos) (revM fa) := by
  refine ⟨fun X W ok => ?_⟩
  obtain ⟨ta, pa, qa⟩ := ha.run X W ok
  obtain ⟨exc, k, isdef, fnc, rfl⟩ := ok.eq
  refine ⟨_, tRev_pe pa, fun F ma S H σ ds Q cf h => ?_⟩
  refine qa F ma S H σ ds _ cf (Res.bind h fun d ds1 ma1 S1 H1 v e1 c1 r1 h1 => ?_)
  have rv := c1.look r1
  have mk : ∀ (xs : List D) (vs : List V), RepL (xkw X) S1 ma1 xs vs → Res _ W F (RpV (xkw X)) σ ma1 S1 (opt (some (D.lst xs.reverse)) ds1) Q → ∀ p, H1 p = none → Q (.ref p) (upd H1 p (.lst vs.reverse)) := fun xs vs rl hh p hp => by
    obtain ⟨c2, ex⟩ := c1.lay (.lst vs.reverse) hp
    exact hh ma1 _ _ _ ex c2 (.lst upd_same (rl.rev.mono ex))
  have h1 : Res _ W F (RpV (xkw X)) σ ma1 S1 (opt (revD (lookD ds1 d)) ds1) Q := h1
  generalize lookD ds1 d = y at h1 rv
  unfold revD at h1
  split at h1
  · obtain ⟨a, vs, rfl, hs, rl⟩ := rv.seqL c1
    exact .inl ⟨a, vs, rfl, hs, mk _ _ rl h1⟩
  · obtain ⟨a, vs, rfl, hs, rl⟩ := rv.seqF c1
    exact .inl ⟨a, vs, rfl, hs, mk _ _ rl h1⟩
  · rename_i z
    split at h1
    · rename_i hz
      cases rv with
      | rep r => cases r; exact .inr ⟨z, rfl, by rw [sizeLine_eq]; exact hz, h1 ma1 S1 H1 _ Ext.refl c1 (.str _)⟩
    · exact h1.elim
  · exact h1.elim

/-! ### join -/
def strsD : List D → Option (List Str)
  | [] => some []
  | .str i :: r => (strsD r).map (i :: ·)
  | _ => none
theorem RepL.strs {K : KW} {S : Hp} {ma : List Addr} : ∀ {xs : List D} {vs : List V} {ns : List Str}, RepL K S ma xs vs → strsD xs = some ns → vs = ns.map V.str
  | _, _, _, .nil, e => by cases e; rfl
  | _, _, _, .cons (d := d) (ds := ds) a r, e => by
    cases a with
    | str i =>
      cases q : strsD ds with
      | none => simp [strsD, q] at e
      | some m =>
        simp [strsD, q] at e
        subst e
        rw [List.map_cons, RepL.strs r q]
    | _ => cases e
def joinS (a : Str) (ys : List Str) : Option D := if (ys.map (·.length)).sum + ys.length * a.length ≤ 16777216 then some (.str (Txt.join a ys)) else none
def joinD : D → D → Option D
  | .str a, .lst xs => (strsD xs).bind (joinS a)
  | .str a, .frl xs => (strsD xs).bind (joinS a)
  | .str a, .tup xs => (strsD xs).bind (joinS a)
  | .str a, .ktp xs => (strsD xs).bind (joinS a)
  | _, _ => none
def isS : D → Bool
  | .str _ => true
  | _ => false
def joinM (fa fb : M D) : M D := bnd fa fun x => if isS x = true then bnd fb fun y s => opt (joinD x (lookD s y)) s else fun _ => .stuck
theorem v_join {apos : Pos} (ha : VE c a fa) (hb : VE c b fb) (hs : ∀ env : Env, starEach [b] env = [(false, eval b env)] := by intro _; rfl) (hbase : ∀ env : Env, attributeBase a "join" env (eval a env) = eval a env := by intro _; rfl) (hline : (apos.endLine == pos.line) = true := by rfl) :
    VE c (.Call (.Attribute a "join" apos) [b] [] pos) (joinM fa fb) := by
  refine ⟨fun X W ok => ?_⟩
  obtain ⟨ta, pa, qa⟩ := ha.run X W ok
  obtain ⟨tb, pb, qb⟩ := hb.run X W ok
  obtain ⟨exc, k, isdef, fnc, rfl⟩ := ok.eq
  refine ⟨_, pe_join pa pb (hs X.env) (hbase X.env) hline, fun F ma S H σ ds Q cf h => ?_⟩
  refine qa F ma S H σ ds _ cf (Res.bind h fun d ds1 ma1 S1 H1 v e1 c1 r1 h1 => ?_)
  have h1 : Res _ W F (RpV (xkw X)) σ ma1 S1 ((if isS d = true then bnd fb fun y s => opt (joinD d (lookD s y)) s else fun _ => .stuck) ds1) Q := h1
  by_cases hd : isS d = true
  · rw [if_pos hd] at h1
    cases r1 with
    | str z =>
      refine ⟨⟨z, rfl⟩, qb F ma1 S1 H1 σ ds1 _ c1 (Res.bind h1 fun d2 ds2 ma2 S2 H2 y e2 c2 r2 h2 => ?_)⟩
      have go : ∀ (xs : List D) (a : Addr) (vs : List V), RepL (xkw X) S2 ma2 xs vs → (SqL X.K H2 a vs ∨ SqT X.K H2 a vs) → Res _ W F (RpV (xkw X)) σ ma2 S2 (opt ((strsD xs).bind (joinS z)) ds2) Q →
          ∃ a' p, ∃ ys : List Str, V.str z = .str a' ∧ [V.ref a] = [.ref p] ∧ (SqL X.K H2 p (ys.map V.str) ∨ SqT X.K H2 p (ys.map V.str)) ∧ (ys.map (·.length)).sum + ys.length * a'.length ≤ 16777216 ∧ Q (.str (Txt.join a' ys)) H2 := fun xs a vs rl hs h => by
        cases e : strsD xs with
        | none => rw [e] at h; exact h.elim
        | some ns =>
          rw [e] at h
          have := rl.strs e
          subst this
          have h : Res _ W F (RpV (xkw X)) σ ma2 S2 (opt (joinS z ns) ds2) Q := h
          unfold joinS at h
          split at h
          · rename_i hz
            exact ⟨z, a, ns, rfl, rfl, hs, hz, h ma2 S2 H2 _ Ext.refl c2 (.str _)⟩
          · exact h.elim
      have vw := c2.look r2
      have h2 : Res _ W F (RpV (xkw X)) σ ma2 S2 (opt (joinD (.str z) (lookD ds2 d2)) ds2) Q := h2
      generalize lookD ds2 d2 = d3 at vw h2
      cases vw with
      | rep r2 =>
        cases r2 with
        | lst hs rl => exact go _ _ _ rl (.inl (.inl (.inl (c2.sub _ _ hs)))) h2
        | frl hs rl => exact go _ _ _ rl (.inl (c2.sub.seq hs)) h2
        | tup hs rl => exact go _ _ _ rl (.inr (Vl.seqT c2.sub (tsq hs))) h2
        | ktp hs rl => exact go _ _ _ rl (.inr (Vl.seqT c2.sub hs)) h2
        | _ => exact (show False from h2).elim
      | lst hs rl => exact go _ _ _ rl (.inl (.inl (.inl hs))) h2
      | _ => exact (show False from h2).elim
    | _ => cases hd
  · rw [if_neg hd] at h1; exact h1.elim
end
end Vl
namespace Vl
open PySem PySem.Spec PyProof.Rows L2

/-! ### lists that change -/
/-- what a method does to a list: its content and the arguments; an answer and the new content -/
abbrev MutF := List D → List D → Option (D × List D)
structure MutV (c : SC) (name : Str) (id : String) (g : MutF) : Prop where
  slot : PySem.Slot "list" name id
  hty : typeOf (.builtin id) = pure (.type "method_descriptor")
  run : ∀ X W, Ok c X W → ∃ r, MtR X id r ∧ ∀ (S H : Hp) (ma : List Addr) (l : Addr) (ws : List V) (xs as : List D) (vs : List V) (d : D) (xs' : List D) Q, Same S H → H l = some (.lst ws) → RepL c.B.kw S ma xs ws → RepL c.B.kw S ma as vs → g xs as = some (d, xs') →
    (∀ v ws', Rep c.B.kw S ma d v → RepL c.B.kw S ma xs' ws' → Q v (upd H l (.lst ws'))) → r (.ref l) vs H Q
section
variable {c : SC} {pos p apos : Pos} {a b e : Expr} {es : List Expr} {fa fb : M D} {fs : M (List D)} {x name : Str} {id : String} {g : MutF}
/-- a name's own list or a shared one: its content is taken when the arguments are known -/
def mutAt (g : MutF) (i : Nat) (as : List D) : M D := fun s => match s.env[i]? with
  | some (.own xs) => match g xs as with
    | some (d, ys) => .ok d { s with env := s.env.set i (.own ys) }
    | none => .stuck
  | some (.val (.mut n)) => match s.mem[n]? with
    | some (.lst xs) => match g xs as with
      | some (d, ys) => .ok d { s with mem := s.mem.set n (.lst ys) }
      | none => .stuck
    | _ => .stuck
  | _ => .stuck
def seeL (i : Nat) (s : DS) : Bool := match s.env[i]? with
  | some (.own _) => true
  | some (.val (.mut n)) => match s.mem[n]? with
    | some (.lst _) => true
    | _ => false
  | _ => false
def mutvM (g : MutF) (i : Nat) (fs : M (List D)) : M D := fun s => if seeL i s = true then (bnd fs fun as => mutAt g i as) s else .stuck
theorem Cf.seeL {K : KW} {F S H : Hp} {ma : List Addr} {σ : L2.St} {ds : DS} (cf : Cf K F ma S H σ ds) {i : Nat} (h : seeL i ds = true) : ∃ p vs, σ[i]? = some (some (.ref p)) ∧ H p = some (.lst vs) := by
  unfold Vl.seeL at h
  split at h
  · rename_i xs e
    obtain ⟨p, e1, ⟨vs, e2, _⟩, _⟩ := cf.own i _ _ e rfl
    exact ⟨p, vs, e1, e2⟩
  · rename_i n e
    split at h
    · rename_i xs e2
      obtain ⟨v, e1, r⟩ := cf.val i _ e
      cases r with
      | «mut» hm =>
        obtain ⟨⟨vs, h1, _⟩, _⟩ := cf.mem n _ _ hm e2
        exact ⟨_, vs, e1, h1⟩
    · cases h
  · cases h
theorem mutAt_run {B : Bs} {W : WX} {F S H : Hp} {ma : List Addr} {σ : L2.St} {ds : DS} {i : Nat} {as : List D} {vs : List V} {p : Addr} {Q : VK} {r : V → List V → Hp → VK → Prop} (cf : Cf B.kw F ma S H σ ds) (ra : RepL B.kw S ma as vs) (ev : σ[i]? = some (some (.ref p)))
    (hr : ∀ (S H : Hp) (ma : List Addr) (l : Addr) (ws : List V) (xs as : List D) (vs : List V) (d : D) (xs' : List D) Q, Same S H → H l = some (.lst ws) → RepL B.kw S ma xs ws → RepL B.kw S ma as vs → g xs as = some (d, xs') →
    (∀ v ws', Rep B.kw S ma d v → RepL B.kw S ma xs' ws' → Q v (upd H l (.lst ws'))) → r (.ref l) vs H Q)
    (h : Res B W F (RpV B.kw) σ ma S (mutAt g i as ds) Q) : r (.ref p) vs H Q := by
  unfold mutAt at h
  split at h
  · rename_i xs e
    split at h
    · rename_i d ys eg
      obtain ⟨q, e1, ⟨ws, e2, rl⟩, _⟩ := cf.own i _ _ e rfl
      rw [ev] at e1
      cases e1
      refine hr S H ma p ws xs as vs d ys Q cf.sub e2 rl ra eg fun v ws' rv rl' => ?_
      exact h ma S _ v Ext.refl (cf.ownWrite (t := .own ys) e rfl ev rfl ⟨_, upd_same, rl'⟩) rv
    · exact h.elim
  · rename_i n e
    split at h
    · rename_i xs e2
      split at h
      · rename_i d ys eg
        obtain ⟨v, e1, r0⟩ := cf.val i _ e
        rw [ev] at e1
        cases e1
        cases r0 with
        | «mut» hm =>
          obtain ⟨⟨ws, h1, rl⟩, _⟩ := cf.mem n _ _ hm e2
          refine hr S H ma p ws xs as vs d ys Q cf.sub h1 rl ra eg fun v ws' rv rl' => ?_
          exact h ma S _ v Ext.refl (cf.memWrite (o := .lst ys) hm ⟨_, upd_same, rl'⟩) rv
      · exact h.elim
    · exact h.elim
  · exact h.elim
theorem v_mut (i : Nat) (hm : MutV c name id g) (hN : c.N[i]? = some x) (hv : Vis c.sc x) (ha : VA c (e :: es) fs)
    (hbase : ∀ env : Env, attributeBase (.Name x p) name env (eval (.Name x p) env) = eval (.Name x p) env := by intro _; rfl)
    (hfew : ∀ env : Env, ((backTo pos (starEach (e :: es) env)).all (fun x => !x.1) && (backToKw pos (keywordEach [] env)).all (fun x => x.1.isSome)
      && decide ((e :: es).length + ([] : List Keyword).length + (if ([] : List Keyword).isEmpty then 0 else 1) < 30)) = true := by intro _; rfl)
    (hline : (apos.endLine == pos.line) = true := by rfl) (hs : ∀ env : Env, starEach (e :: es) env = (false, eval e env) :: starEach es env := by intro _; rfl) (hplain : ∀ env : Env, (backTo pos (starEach es env)).any (·.1) = false := by intro _; rfl)
    (hd : (x == ("__debug__" : Str)) = false := by decide) (hcd : (x == ("__classdict__" : Str)) = false := by decide) :
    VE c (.Call (.Attribute (.Name x p) name apos) (e :: es) [] pos) (mutvM g i fs) := by
  refine ⟨fun X W ok => ?_⟩
  obtain ⟨ta, pa, qa⟩ := ha.run X W ok
  obtain ⟨r, hr, qr⟩ := hm.run X W ok
  obtain ⟨exc, k, isdef, fnc, rfl⟩ := ok.eq
  refine ⟨_, pe_bm PySem.F.plainAttrs_list hm.slot hm.hty hr (pe_var hN hv hd hcd) pa (hbase X.env) (hfew X.env) hline (hs X.env) (hplain X.env), fun F ma S H σ ds Q cf h => ?_⟩
  unfold mutvM at h
  by_cases hq : seeL i ds = true
  · rw [if_pos hq] at h
    obtain ⟨p, vs, e1, e2⟩ := cf.seeL hq
    refine ⟨_, e1, .inl ⟨rfl, vs, .inl (.inl e2)⟩, ?_⟩
    refine qa F ma S H σ ds _ cf (Res.bind h fun as ds1 ma1 S1 H1 ws x1 c1 r1 h1 => ?_)
    exact mutAt_run c1 r1 e1 qr h1
  · rw [if_neg hq] at h; exact h.elim
theorem v_mut0 (i : Nat) (hm : MutV c name id g) (hN : c.N[i]? = some x) (hv : Vis c.sc x)
    (hbase : ∀ env : Env, attributeBase (.Name x p) name env (eval (.Name x p) env) = eval (.Name x p) env := by intro _; rfl)
    (hline : (apos.endLine == pos.line) = true := by rfl)
    (hd : (x == ("__debug__" : Str)) = false := by decide) (hcd : (x == ("__classdict__" : Str)) = false := by decide) :
    VE c (.Call (.Attribute (.Name x p) name apos) [] [] pos) (mutvM g i (rtn [])) := by
  refine ⟨fun X W ok => ?_⟩
  obtain ⟨r, hr, qr⟩ := hm.run X W ok
  obtain ⟨exc, k, isdef, fnc, rfl⟩ := ok.eq
  refine ⟨_, pe_bm0 PySem.F.plainAttrs_list hm.slot hm.hty hr (pe_var hN hv hd hcd) (hbase X.env) hline, fun F ma S H σ ds Q cf h => ?_⟩
  unfold mutvM at h
  by_cases hq : seeL i ds = true
  · rw [if_pos hq] at h
    obtain ⟨p, vs, e1, e2⟩ := cf.seeL hq
    refine ⟨_, e1, .inl ⟨rfl, vs, .inl (.inl e2)⟩, ?_⟩
    exact mutAt_run cf .nil e1 qr h
  · rw [if_neg hq] at h; exact h.elim
/-- the n-th shared list, as a value -/
def mutN (g : MutF) (d : D) (as : List D) : M D := fun s => match d with
  | .mut n => match s.mem[n]? with
    | some (.lst xs) => match g xs as with
      | some (d, ys) => .ok d { s with mem := s.mem.set n (.lst ys) }
      | none => .stuck
    | _ => .stuck
  | _ => .stuck
def seeN (d : D) (s : DS) : Bool := match d with
  | .mut n => match s.mem[n]? with
    | some (.lst _) => true
    | _ => false
  | _ => false
def muteM (g : MutF) (fa : M D) (fs : M (List D)) : M D := bnd fa fun d s => if seeN d s = true then (bnd fs fun as => mutN g d as) s else .stuck
theorem v_mutE (hm : MutV c name id g) (hb : VE c a fa) (ha : VA c (e :: es) fs)
    (hbase : ∀ env : Env, attributeBase a name env (eval a env) = eval a env := by intro _; rfl)
    (hfew : ∀ env : Env, ((backTo pos (starEach (e :: es) env)).all (fun x => !x.1) && (backToKw pos (keywordEach [] env)).all (fun x => x.1.isSome)
      && decide ((e :: es).length + ([] : List Keyword).length + (if ([] : List Keyword).isEmpty then 0 else 1) < 30)) = true := by intro _; rfl)
    (hline : (apos.endLine == pos.line) = true := by rfl) (hs : ∀ env : Env, starEach (e :: es) env = (false, eval e env) :: starEach es env := by intro _; rfl) (hplain : ∀ env : Env, (backTo pos (starEach es env)).any (·.1) = false := by intro _; rfl) :
    VE c (.Call (.Attribute a name apos) (e :: es) [] pos) (muteM g fa fs) := by
  refine ⟨fun X W ok => ?_⟩
  obtain ⟨tb, pb, qb⟩ := hb.run X W ok
  obtain ⟨ta, pa, qa⟩ := ha.run X W ok
  obtain ⟨r, hr, qr⟩ := hm.run X W ok
  obtain ⟨exc, k, isdef, fnc, rfl⟩ := ok.eq
  refine ⟨_, pe_bm PySem.F.plainAttrs_list hm.slot hm.hty hr pb pa (hbase X.env) (hfew X.env) hline (hs X.env) (hplain X.env), fun F ma S H σ ds Q cf h => ?_⟩
  refine qb F ma S H σ ds _ cf (Res.bind h fun d ds1 ma1 S1 H1 v e1 c1 r1 h1 => ?_)
  have h1 : Res _ W F (RpV (xkw X)) σ ma1 S1 (if seeN d ds1 = true then (bnd fs fun as => mutN g d as) ds1 else .stuck) Q := h1
  by_cases hq : seeN d ds1 = true
  · rw [if_pos hq] at h1
    cases d with
    | «mut» n =>
      unfold seeN at hq
      dsimp only at hq
      split at hq
      · rename_i xs em
        cases r1 with
        | «mut» hma =>
          obtain ⟨⟨vs, z1, _⟩, _⟩ := c1.mem n _ (.lst xs) hma em
          refine ⟨.inl ⟨rfl, vs, .inl (.inl z1)⟩, ?_⟩
          refine qa F ma1 S1 H1 σ ds1 _ c1 (Res.bind h1 fun as ds2 ma2 S2 H2 ws e2 c2 r2 h2 => ?_)
          have h2 : Res _ W F (RpV (xkw X)) σ ma2 S2 (mutN g (.mut n) as ds2) Q := h2
          have hma2 := e2.get hma
          cases em2 : ds2.mem[n]? with
          | none => simp only [mutN, em2] at h2; exact h2.elim
          | some o =>
            cases o with
            | lst xs =>
              cases eg : g xs as with
              | none => simp only [mutN, em2, eg] at h2; exact h2.elim
              | some dy =>
                obtain ⟨dd, ys⟩ := dy
                simp only [mutN, em2, eg] at h2
                obtain ⟨⟨us, y1, rl⟩, _⟩ := c2.mem n _ (.lst xs) hma2 em2
                refine qr S2 H2 ma2 _ us xs as ws dd ys Q c2.sub y1 rl r2 eg fun v ws' rv rl' => ?_
                exact h2 ma2 S2 _ v Ext.refl (c2.memWrite (o := .lst ys) hma2 ⟨_, upd_same, rl'⟩) rv
            | _ => simp only [mutN, em2] at h2; exact h2.elim
      · cases hq
    | _ => cases hq
  · rw [if_neg hq] at h1; exact h1.elim

def appF : MutF
  | xs, [y] => if xs.length < 1000000 then some (.non, xs ++ [y]) else none
  | _, _ => none
theorem lt_line {n : Nat} (h : n < 1000000) : n < sizeLine := by rw [sizeLine_eq]; omega
theorem m_append : MutV c "append" "list.append" appF := by
  refine ⟨PySem.F.slot_list_append, PySem.F.type_list_append, fun X W ok => ⟨_, mt_append, fun S H ma l ws xs as vs d xs' Q sm hl rl ra hg q => ?_⟩⟩
  unfold appF at hg
  split at hg
  · rename_i y
    split at hg
    · rename_i hz
      cases hg
      cases ra with
      | cons r1 r2 =>
        cases r2
        exact ⟨l, ws, _, rfl, rfl, hl, by rw [← rl.length]; exact lt_line hz, q _ _ .non (rl.app (.cons r1 .nil))⟩
    · cases hg
  · cases hg
def extF : MutF
  | xs, [.lst ys] => if xs.length + ys.length < 1000000 then some (.non, xs ++ ys) else none
  | _, _ => none
theorem m_extend : MutV c "extend" "list.extend" extF := by
  refine ⟨PySem.F.slot_list_extend, PySem.F.type_list_extend, fun X W ok => ⟨_, mt_extend, fun S H ma l ws xs as vs d xs' Q sm hl rl ra hg q => ?_⟩⟩
  unfold extF at hg
  split at hg
  · rename_i ys
    split at hg
    · rename_i hz
      cases hg
      cases ra with
      | cons r1 r2 =>
        cases r2
        cases r1 with
        | lst h2 r3 =>
          exact ⟨l, _, ws, _, rfl, rfl, hl, sm _ _ h2, by rw [← rl.length, ← r3.length]; exact Nat.le_of_lt (lt_line hz), q _ _ .non (rl.app r3)⟩
    · cases hg
  · cases hg
theorem RepL.last {K : KW} {S : Hp} {ma : List Addr} : ∀ {xs : List D} {vs : List V}, RepL K S ma xs vs → RepL K S ma xs.dropLast vs.dropLast := by
  intro xs vs r
  rw [List.dropLast_eq_take, List.dropLast_eq_take, r.length]
  exact r.take _
def popF : MutF
  | xs, [] => match xs[xs.length - 1]? with
    | some y => some (y, xs.dropLast)
    | none => none
  | _, _ => none
theorem m_pop : MutV c "pop" "list.pop" popF := by
  refine ⟨PySem.F.slot_list_pop, PySem.F.type_list_pop, fun X W ok => ⟨_, mt_pop, fun S H ma l ws xs as vs d xs' Q sm hl rl ra hg q => ?_⟩⟩
  unfold popF at hg
  split at hg
  · split at hg
    · rename_i y hy
      cases hg
      cases ra
      obtain ⟨v, e1, e2⟩ := rl.get hy
      exact ⟨l, ws, v, rfl, rfl, hl, by rw [← rl.length]; exact e1, q _ _ e2 rl.last⟩
    · cases hg
  · cases hg
theorem RepL.erase {K : KW} {S : Hp} {ma : List Addr} : ∀ {xs : List D} {vs : List V} (i : Nat), RepL K S ma xs vs → RepL K S ma (xs.eraseIdx i) (vs.eraseIdx i)
  | _, _, _, .nil => .nil
  | _, _, 0, .cons _ t => t
  | _, _, i + 1, .cons r t => .cons r (RepL.erase i t)
/-- pop(i), 0 ≤ i -/
def popAtF : MutF
  | xs, [.int i] => if 0 ≤ i ∧ i < 1000000 then match xs[i.toNat]? with
    | some y => some (y, xs.eraseIdx i.toNat)
    | none => none
    else none
  | _, _ => none
theorem m_popAt : MutV c "pop" "list.pop" popAtF := by
  refine ⟨PySem.F.slot_list_pop, PySem.F.type_list_pop, fun X W ok => ⟨_, mt_popAt, fun S H ma l ws xs as vs d xs' Q sm hl rl ra hg q => ?_⟩⟩
  unfold popAtF at hg
  split at hg
  · rename_i i
    split at hg
    · rename_i hi
      split at hg
      · rename_i y hy
        cases hg
        have := ra.i1
        subst this
        obtain ⟨v, e1, e2⟩ := rl.get hy
        have hlt : i.toNat < ws.length := (List.getElem?_eq_some_iff.mp e1).1
        exact ⟨l, ws, i, i.toNat, v, rfl, rfl, hl, by omega, by omega, seqIndex_of hi.1 (by omega), e1, q _ _ e2 (rl.erase _)⟩
      · cases hg
    · cases hg
  · cases hg
def insF : MutF
  | xs, [.int i, y] => if 0 ≤ i ∧ i < 1000000 ∧ xs.length < 1000000 then some (.non, xs.take i.toNat ++ [y] ++ xs.drop i.toNat) else none
  | _, _ => none
theorem m_insert : MutV c "insert" "list.insert" insF := by
  refine ⟨PySem.F.slot_list_insert, PySem.F.type_list_insert, fun X W ok => ⟨_, mt_insert, fun S H ma l ws xs as vs d xs' Q sm hl rl ra hg q => ?_⟩⟩
  unfold insF at hg
  split at hg
  · rename_i i y
    split at hg
    · rename_i hi
      cases hg
      cases ra with
      | cons r1 r2 =>
        cases r1
        cases r2 with
        | cons r3 r4 =>
          cases r4
          exact ⟨l, ws, i, _, rfl, rfl, hl, by rw [← rl.length]; exact lt_line hi.2.2, hi.1, by omega, q _ _ .non (((rl.take _).app (.cons r3 .nil)).app (rl.drop _))⟩
    · cases hg
  · cases hg

/-! ### x[i] = v -/
def putI (xs : List D) (i : D) (d : D) : Option (List D) := match i with
  | .int k => (ixN xs.length k).map fun j => xs.set j d
  | _ => none
/-- an object, written at a place, a key -/
def putO (o : MO) (k d : D) : Option MO := match o with
  | .lst xs => (putI xs k d).map .lst
  | .dK ks xs => (keyK k).bind fun key => if ks.length < 1000000 then some (.dK (puD ks xs key d).1 (puD ks xs key d).2) else none
  | .dT ks xs => (keyT k).bind fun key => if ks.length < 1000000 then some (.dT (if some key ∈ ks.map keyT then ks else ks ++ [k]) (puD (ks.map keyT) xs (some key) d).2) else none
  | .obj _ _ _ => none
def MO.slot : MO → Slot
  | .lst xs => .own xs
  | .dK ks xs => .ownK ks xs
  | .dT ks xs => .ownT ks xs
  | .obj _ _ _ => .un
theorem putI_run {K : KW} {S H : Hp} {ma : List Addr} {xs ys : List D} {ws : List V} {k d : D} {u v : V} {p : Addr} {Q : Hp → Prop} (hl : H p = some (.lst ws)) (rl : RepL K S ma xs ws) (rk : Rep K S ma k u) (rd : Rep K S ma d v) (h : putI xs k d = some ys) (q : ∀ us, RepL K S ma ys us → Q (upd H p (.lst us))) : rSetL (.ref p) u v H Q := by
  unfold putI at h
  split at h
  · rename_i i
    cases rk
    cases e : ixN xs.length i with
    | none => rw [e] at h; cases h
    | some j =>
      rw [e] at h
      cases h
      exact ⟨p, ws, i, j, rfl, rfl, hl, by rw [← rl.length]; exact e, q _ (rl.set rd j)⟩
  · cases h
def rSetA (K : KW) : TSet := fun o i v H Q => rSetL o i v H Q ∨ rSetD o i v H Q ∨ rSetN K o i v H Q
theorem set_any {X : Cx} (hu : X.A.units + 9 < cLine) : PSet X (rSetA (xkw X)) := by
  intro pins s σ H o i v ov iv u Q I ro ri rv h
  rcases h with h | h | h
  · exact set_list pins s σ H o i v ov iv u Q I ro ri rv h
  · exact set_dict (by omega) pins s σ H o i v ov iv u Q I ro ri rv h
  · exact set_tab hu pins s σ H o i v ov iv u Q I ro ri rv h
theorem RepL.re {K : KW} {S : Hp} {ma : List Addr} {κ : Type} [DecidableEq κ] {k : κ} {d : D} {v : V} (rd : Rep K S ma d v) : ∀ {ks : List κ} {xs : List D} {vs : List V}, RepL K S ma xs vs → RepL K S ma (reD ks xs k d) (reD ks vs k v)
  | [], _, _, r => by cases r <;> exact .nil
  | _ :: _, _, _, .nil => .nil
  | k' :: ks, _, _, .cons a r => by
    rw [reD, reD]
    refine .cons ?_ (RepL.re rd r)
    split
    · exact rd
    · exact a
theorem putO_slot {o o' : MO} {k d : D} (h : putO o k d = some o') : o'.slot.mo = some o' := by
  cases o with
  | lst xs =>
    obtain ⟨ys, _, rfl⟩ := Option.map_eq_some_iff.mp h
    rfl
  | dK ks xs =>
    obtain ⟨key, _, h⟩ := Option.bind_eq_some_iff.mp h
    split at h
    · cases h; rfl
    · cases h
  | dT ks xs =>
    obtain ⟨key, _, h⟩ := Option.bind_eq_some_iff.mp h
    split at h
    · cases h; rfl
    · cases h
  | obj _ _ _ => cases h
theorem putO_run {K : KW} {S H : Hp} {ma : List Addr} {o o' : MO} {k d : D} {u v : V} {p : Addr} {Q : Hp → Prop} (sm : Same S H) (ha : At K S ma H p o) (rk : Rep K S ma k u) (rd : Rep K S ma d v) (h : putO o k d = some o') (q : ∀ w, At K S ma (upd H p w) p o' → Q (upd H p w)) : rSetA K (.ref p) u v H Q := by
  cases o with
  | lst xs =>
    obtain ⟨ys, e, rfl⟩ := Option.map_eq_some_iff.mp h
    obtain ⟨ws, hl, rl⟩ := ha
    exact .inl (putI_run hl rl rk rd e fun us rl' => q _ ⟨us, upd_same, rl'⟩)
  | dK ks xs =>
    obtain ⟨key, ek, h⟩ := Option.bind_eq_some_iff.mp h
    split at h
    · rename_i hf
      cases h
      obtain ⟨ws, hl, rl, hn⟩ := ha
      have := keyK_rep rk ek
      subst this
      obtain ⟨us, z1, z2, z3⟩ := puD_rep (k := key) rl hn rd
      refine .inr (.inl ⟨p, _, rfl, .inl ⟨ks.zip ws, key, hl, rfl, by rw [List.length_zip, sizeLine_eq]; omega, rfl⟩, ?_⟩)
      rw [z1]
      exact q _ ⟨us, upd_same, z2, z3⟩
    · cases h
  | dT ks xs =>
    obtain ⟨key, ek, h⟩ := Option.bind_eq_some_iff.mp h
    split at h
    · rename_i hf
      cases h
      obtain ⟨nks, bs, ws, hl, t, rk', rl⟩ := ha
      obtain ⟨b, rfl⟩ : ∃ b, u = .ref b := by
        obtain ⟨ds, rfl, _⟩ := keyT_tup ek
        cases rk
        exact ⟨_, rfl⟩
      refine .inr (.inr ⟨p, _, rfl, ⟨S, ma, ks, nks, bs, ws, k, key, b, sm, hl, t, rk', rk, rfl, ek, hf, rfl⟩, ?_⟩)
      have hm : (some key ∈ ks.map keyT) ↔ key ∈ nks := by rw [t.keys]; simp
      by_cases hin : key ∈ nks
      · rw [if_pos hin]
        refine q _ ?_
        rw [if_pos (hm.mpr hin)]
        unfold puD
        rw [if_pos (hm.mpr hin), t.keys, reD_map fun a b h => Option.some.inj h]
        exact ⟨nks, bs, reD nks ws key v, upd_same, ⟨t.keys, t.nd, t.bl, by rw [reD_len (by rw [t.nl, t.vl]), t.nl], t.few, t.sys⟩, rk', RepL.re rd rl⟩
      · rw [if_neg hin]
        refine q _ ?_
        rw [if_neg (fun z => hin (hm.mp z))]
        unfold puD
        rw [if_neg (fun z => hin (hm.mp z))]
        refine ⟨nks ++ [key], bs ++ [b], ws ++ [v], upd_same, ⟨by simp [t.keys, ek], ?_, by simp [t.bl], by simp [t.vl], by simp; omega, t.sys⟩, ?_, rl.app (.cons rd .nil)⟩
        · rw [List.nodup_append]
          exact ⟨t.nd, by simp, fun x hx y hy => by simp at hy; subst hy; exact fun z => hin (by rw [← z]; exact hx)⟩
        · rw [List.map_append]
          exact rk'.app (.cons rk .nil)
    · cases h
  | obj _ _ _ => cases h
def putAt (i : Nat) (k d : D) : M Unit := fun s => match s.env[i]? with
  | some (.val (.mut n)) => match s.mem[n]? with
    | some o => match putO o k d with
      | some o' => .ok () { s with mem := s.mem.set n o' }
      | none => .stuck
    | none => .stuck
  | some sl => match sl.mo with
    | some o => match putO o k d with
      | some o' => .ok () { s with env := s.env.set i o'.slot }
      | none => .stuck
    | none => .stuck
  | none => .stuck
def seeB (i : Nat) (s : DS) : Bool := match s.env[i]? with
  | none => false
  | some .un => false
  | some _ => true
theorem Cf.seeB {K : KW} {F S H : Hp} {ma : List Addr} {σ : L2.St} {ds : DS} (cf : Cf K F ma S H σ ds) {i : Nat} (h : seeB i ds = true) : ∃ v, σ[i]? = some (some v) := by
  unfold Vl.seeB at h
  split at h
  · cases h
  · cases h
  · rename_i sl hu e
    cases em : sl.mo with
    | some o =>
      obtain ⟨p, e1, _⟩ := cf.own i sl o e em
      exact ⟨_, e1⟩
    | none =>
      cases sl with
      | un => exact absurd rfl hu
      | val d => obtain ⟨v, e1, _⟩ := cf.val i d e; exact ⟨v, e1⟩
      | own _ => cases em
      | ownK _ _ => cases em
      | ownT _ _ => cases em
def putvM (i : Nat) (fk : M D) (d : D) : M Unit := fun s => if seeB i s = true then (bnd fk fun k => putAt i k d) s else .stuck
theorem g_set (i : Nat) (hN : c.N[i]? = some x) (hv : Vis c.sc x) (hb : VE c b fb) (hc : c.calm = true := by rfl) (hd : (x == ("__debug__" : Str)) = false := by decide) (hcd : (x == ("__classdict__" : Str)) = false := by decide)
    (hz : ∀ (X : Cx) to ti t, PSet X t → PE X (.Name x p) to → PE X b ti → PG X (.Subscript (.Name x p) b pos) (gSub to ti t) := by intro X to ti t ht h1 h2; exact L2.pg_sub h1 h2 ht) :
    TG1 c (.Subscript (.Name x p) b pos) [] (putvM i fb) := by
  refine ⟨fun X W ok => ?_⟩
  obtain ⟨tb, pb, qb⟩ := hb.run X W ok
  have hu := room60 ok hc
  obtain ⟨exc, k, isdef, fnc, rfl⟩ := ok.eq
  refine ⟨_, hz X _ _ _ (set_any (by omega)) (pe_var hN hv hd hcd) pb, fun F ma S H σ ds d v Q cf r h => ?_⟩
  unfold putvM at h
  by_cases hq : seeB i ds = true
  · rw [if_pos hq] at h
    obtain ⟨vp, e1⟩ := cf.seeB hq
    refine ⟨_, e1, qb F ma S H σ ds _ cf ?_⟩
    unfold bnd at h
    cases er : fb ds with
    | stuck => rw [er] at h; exact h.elim
    | err z ds1 =>
      rw [er] at h
      exact fun ma' S' H' ex c1 => h ma' S' H' σ ex c1
    | ok k ds1 =>
      rw [er] at h
      refine fun ma1 S1 H1 u ex c1 rk => ?_
      have h : TRes _ W F [] σ ma S (putAt i k d ds1) Q := h
      have rd := r.mono ex
      have rk : Rep (xkw X) S1 ma1 k u := rk
      unfold putAt at h
      split at h
      · rename_i n e
        split at h
        · rename_i o em
          split at h
          · rename_i o' eg
            obtain ⟨v', e1', r0⟩ := c1.val i _ e
            rw [e1] at e1'
            cases e1'
            cases r0 with
            | «mut» hm =>
              obtain ⟨h1, _, _⟩ := c1.mem n _ _ hm em
              exact putO_run c1.sub h1 rk rd eg fun w hw => h ma1 S1 _ σ ex (c1.memWrite (o := o') hm hw) Tch.refl
          · exact h.elim
        · exact h.elim
      · rename_i sl hne e
        split at h
        · rename_i o em
          split at h
          · rename_i o' eg
            obtain ⟨q, e1', e2, _⟩ := c1.own i _ _ e em
            rw [e1] at e1'
            cases e1'
            exact putO_run c1.sub e2 rk rd eg fun w hw => h ma1 S1 _ σ ex (c1.ownWrite (t := o'.slot) e em e1 (putO_slot eg) hw) Tch.refl
          · exact h.elim
        · exact h.elim
      · exact h.elim
  · rw [if_neg hq] at h; exact h.elim
def putN (d0 k d : D) : M Unit := fun s => match d0 with
  | .mut n => match s.mem[n]? with
    | some o => match putO o k d with
      | some o' => .ok () { s with mem := s.mem.set n o' }
      | none => .stuck
    | none => .stuck
  | _ => .stuck
def puteM (fa fk : M D) (d : D) : M Unit := bnd fa fun d0 => bnd fk fun k => putN d0 k d
theorem g_setE (ha : VE c a fa) (hb : VE c b fb) (hc : c.calm = true := by rfl)
    (hz : ∀ (X : Cx) to ti t, PSet X t → PE X a to → PE X b ti → PG X (.Subscript a b pos) (gSub to ti t) := by intro X to ti t ht h1 h2; exact L2.pg_sub h1 h2 ht) :
    TG1 c (.Subscript a b pos) [] (puteM fa fb) := by
  refine ⟨fun X W ok => ?_⟩
  obtain ⟨ta, pa, qa⟩ := ha.run X W ok
  obtain ⟨tb, pb, qb⟩ := hb.run X W ok
  have hu := room60 ok hc
  obtain ⟨exc, k, isdef, fnc, rfl⟩ := ok.eq
  refine ⟨_, hz X _ _ _ (set_any (by omega)) pa pb, fun F ma S H σ ds d v Q cf r h => ?_⟩
  refine qa F ma S H σ ds _ cf ?_
  unfold puteM bnd at h
  cases er : fa ds with
  | stuck => rw [er] at h; exact h.elim
  | err z ds1 => rw [er] at h; exact fun ma' S' H' ex c1 => h ma' S' H' σ ex c1
  | ok d0 ds1 =>
    rw [er] at h
    refine fun ma1 S1 H1 u ex c1 r0 => ?_
    refine qb F ma1 S1 H1 σ ds1 _ c1 ?_
    have h : TRes _ W F [] σ ma S ((fb ds1).bind fun k s => putN d0 k d s) Q := h
    cases er2 : fb ds1 with
    | stuck => rw [er2] at h; exact h.elim
    | err z ds2 => rw [er2] at h; exact fun ma' S' H' ex2 c2 => h ma' S' H' σ (ex.trans ex2) c2
    | ok k ds2 =>
      rw [er2] at h
      refine fun ma2 S2 H2 w ex2 c2 rk => ?_
      have rk : Rep (xkw X) S2 ma2 k w := rk
      have r0 : Rep (xkw X) S1 ma1 d0 u := r0
      have h : TRes _ W F [] σ ma S (putN d0 k d ds2) Q := h
      have rd := (r.mono ex).mono ex2
      cases d0 with
      | «mut» n =>
        have hm : ∃ a, u = .ref a ∧ ma1[n]? = some a := by cases r0 with | «mut» hm => exact ⟨_, rfl, hm⟩
        obtain ⟨a, rfl, hm⟩ := hm
        have hm2 := ex2.get hm
        cases em : ds2.mem[n]? with
        | none => simp only [putN, em] at h; exact h.elim
        | some o =>
          cases eg : putO o k d with
          | none => simp only [putN, em, eg] at h; exact h.elim
          | some o' =>
            simp only [putN, em, eg] at h
            obtain ⟨y1, _, _⟩ := c2.mem n _ o hm2 em
            exact putO_run c2.sub y1 rk rd eg fun w hw => h ma2 S2 _ σ (ex.trans ex2) (c2.memWrite (o := o') hm2 hw) Tch.refl
      | _ => exact (show False from h).elim
/-- a new list as a shared one -/
def newM (f : M (List D)) : M D := bnd f fun ds s => .ok (.mut s.mem.length) { s with mem := s.mem ++ [.lst ds] }
theorem v_new (h : VF c e fs) : VE c e (newM fs) := by
  refine ⟨fun X W ok => ?_⟩
  obtain ⟨t, p, q⟩ := h.run X W ok
  refine ⟨t, p, fun F ma S H σ ds Q cf h => ?_⟩
  refine q F ma S H σ ds _ cf (Res.bind h fun d ds1 ma1 S1 H1 x e1 c1 r1 h1 => ?_)
  obtain ⟨p, vs, rfl, hp, fr, r⟩ := r1
  obtain ⟨c2, ex⟩ := c1.memNew (o := .lst d) ⟨_, hp, r⟩ fr
  refine h1 (ma1 ++ [p]) S1 H1 _ ex c2 (.mut ?_)
  rw [← c1.mlen]
  simp
end
end Vl
namespace Vl
open PySem PySem.Spec PyProof.Rows L2
section
variable {c : SC} {pos p : Pos} {a b e : Expr} {es : List Expr} {fa fb : M D} {fs : M (List D)} {x : Str}
/-- truth of what is looked at -/
theorem t_truO (h : VO c e fa) (he : ∀ (env : Env) whole, isTrue e env whole = (do let v ← whole; standAt e.pos; holding [v] (truthy v)) := by intro _ _; rfl) : VT c e (truM fa) := by
  refine ⟨fun X W ok => ?_⟩
  obtain ⟨ta, pa, qa⟩ := h.run X W ok
  obtain ⟨exc, k, isdef, fnc, rfl⟩ := ok.eq
  refine ⟨_, pt_truth pa (he X.env), fun F ma S H σ ds Q cf h => ?_⟩
  refine qa F ma S H σ ds _ cf (Res.bind h fun d ds1 ma1 S1 H1 x e1 c1 r1 h1 => ?_)
  have fin : ∀ k, truD d = some k → Q k H1 := fun k e => by
    have h1 : Res _ W F RpB σ ma1 S1 (opt (truD d) ds1) Q := h1
    rw [e] at h1
    exact h1 ma1 S1 H1 k Ext.refl c1 rfl
  cases d with
  | non => cases r1 with | rep r => cases r; exact ⟨false, rfl, fin _ rfl⟩
  | bl b => cases r1 with | rep r => cases r; exact ⟨b, rfl, fin _ rfl⟩
  | int i => cases r1 with | rep r => cases r; exact ⟨_, rfl, fin _ rfl⟩
  | str z =>
    by_cases hz : z.length ≤ 16777216
    · cases r1 with | rep r => cases r; exact ⟨_, ⟨by rw [sizeLine_eq]; exact hz, rfl⟩, fin _ (if_pos hz)⟩
    · have h1 : Res _ W F RpB σ ma1 S1 (opt (truD (.str z)) ds1) Q := h1
      have e : truD (.str z) = none := if_neg hz
      rw [e] at h1
      exact h1.elim
  | lst xs =>
    obtain ⟨p, vs, rfl, hs, rl⟩ := r1.seqL c1
    exact ⟨_, .inl ⟨_, hs, rfl⟩, fin _ (by rw [← rl.isEmpty]; rfl)⟩
  | frl xs =>
    obtain ⟨p, vs, rfl, hs, rl⟩ := r1.seqF c1
    exact ⟨_, .inl ⟨_, hs, rfl⟩, fin _ (by rw [← rl.isEmpty]; rfl)⟩
  | tup xs =>
    obtain ⟨p, vs, rfl, hs, rl⟩ := r1.seqT c1
    exact ⟨_, .inr (.inl ⟨_, hs, rfl⟩), fin _ (by rw [← rl.isEmpty]; rfl)⟩
  | ktp xs =>
    obtain ⟨p, vs, rfl, hs, rl⟩ := r1.seqK c1
    exact ⟨_, .inr (.inl ⟨_, hs, rfl⟩), fin _ (by rw [← rl.isEmpty]; rfl)⟩
  | _ => exact (show False from h1).elim
/-- a, b, c = x, y, z: plain local names -/
def par3M (i j l : Nat) (fs : M (List D)) : M Out := bnd fs fun ds => match ds with
  | [a, b, d] => bnd (setM i a) fun _ => bnd (setM j b) fun _ => bnd (setM l d) fun _ => rtn .nx
  | _ => fun _ => .stuck
theorem s_par3 (i j l : Nat) {x y z : Str} {a b d : Expr} {fs : M (List D)} {px py pz pt : Pos} {kt k2 pt2} (hc : c.calm = true) (hi : c.N[i]? = some x) (hj : c.N[j]? = some y) (hl : c.N[l]? = some z) (hij : i ≠ j) (hil : i ≠ l) (hjl : j ≠ l)
    (hx : c.sc.names.lookup x = some .local) (hy : c.sc.names.lookup y = some .local) (hz : c.sc.names.lookup z = some .local) (ha : VA c [a, b, d] fs)
    (hw : ∀ env : Env, env.scope = c.sc → swappedStores [.Tuple [.Name x px, .Name y py, .Name z pz] kt pt] (.Tuple [a, b, d] k2 pt2) env = pure (some [x, y, z]))
    (hs : ∀ env : Env, swapsWithSole [.Tuple [.Name x px, .Name y py, .Name z pz] kt pt] (.Tuple [a, b, d] k2 pt2) pos.line env = pure false := by intro _; rfl) :
    VS c (.Assign [.Tuple [.Name x px, .Name y py, .Name z pz] kt pt] (.Tuple [a, b, d] k2 pt2) pos) (par3M i j l fs) := by
  refine ⟨fun X W ok => ?_⟩
  obtain ⟨t, p, q⟩ := ha.run X W ok
  have nd := ok.nd
  obtain ⟨exc, k, isdef, fnc, rfl⟩ := ok.eq
  refine ⟨_, ps_par3 hc nd hi hj hl hij hil hjl hx hy hz p (hw X.env rfl) (hs X.env), fun F ma S H σ ds E cf h => ?_⟩
  refine q F ma S H σ ds _ cf (SRes.bind h fun d ds1 ma1 S1 H1 v x c1 r1 h1 => ?_)
  cases r1 with
  | nil => exact (show False from h1).elim
  | cons a1 b1 =>
    cases b1 with
    | nil => exact (show False from h1).elim
    | cons a2 b2 =>
      cases b2 with
      | nil => exact (show False from h1).elim
      | cons a3 b3 =>
        cases b3 with
        | cons _ _ => exact (show False from h1).elim
        | nil => exact ⟨_, _, _, rfl, h1 ma1 S1 H1 _ Ext.refl (((c1.put a1 i).put a2 j).put a3 l)⟩
theorem VB.none {st : List Stmt} : VB c st (fun _ => .stuck) := ⟨fun X W ok => ⟨fun _ _ _ => False, ⟨fun pins s σ H D I h => h.elim⟩, fun F ma S H σ ds E cf h => h.elim⟩⟩
/-- name = [..]: a shared list -/
theorem s_memLc (i : Nat) {y : Str} {py : Pos} {elt tg iter : Expr} {ifs : List Expr} {scope : Scope} {lpos : Pos} (own : List (Str × Nat)) {is : List Nat} {fi : M (List D)} {ft : D → M Unit} {tt : M Bool} {fe : M D} (hc : c.calm = true) (hN : c.N[i]? = some y) (hyl : c.sc.names.lookup y = some .local)
    (hsw : ∀ env : Env, env.scope = c.sc → swapsWith (.ListComp elt [⟨tg, iter, ifs, 0⟩] scope lpos) (some (.Name y py)) pos.line env = pure true) (okB : BlkOk c.N c.sc scope own) (hi : VI c tg iter fi) (hg : TG1 (c.blk scope) tg is ft)
    (ht : VTs (c.blk scope) ifs tt) (he : VE (c.blk scope) elt fe) (his : ∀ i ∈ is, i ∈ own.map (·.2)) (hs : ∀ (env : Env) x, foldedSetIterable iter env x = pure x := by intro _ _; rfl) :
    VS c (.Assign [.Name y py] (.ListComp elt [⟨tg, iter, ifs, 0⟩] scope lpos) pos) (memM i (compM (own.map (·.2)) fi ft tt fe)) := by
  refine ⟨fun X W ok => ?_⟩
  obtain ⟨wi, g, t, te, h1, h2, h3, h4, h5⟩ := lc_reads ok hi hg his ht he
  have nd := ok.nd
  obtain ⟨exc, k, isdef, fnc, rfl⟩ := ok.eq
  refine ⟨_, ps_setLc hc nd hN hyl (hsw X.env rfl) h1 okB h2 h3 h4 (hs X.env), fun F ma S H σ ds E cf h => ?_⟩
  have h : SRes _ W F ma S ((compM (own.map (·.2)) fi ft tt fe ds).bind fun x s => .ok Out.nx { env := s.env.set i (.val (.mut s.mem.length)), mem := s.mem ++ [.lst x] }) E := h
  refine h5 F ma S H σ ds _ cf ?_
  revert h
  cases compM (own.map (·.2)) fi ft tt fe ds with
  | stuck => exact fun h => h
  | err ec ds1 => exact fun h ma1 S1 H1 ex c1 => h ma1 S1 H1 σ ex c1
  | ok xs ds1 =>
    intro h ma1 S1 H1 v ex c1 r
    obtain ⟨p, vs, rfl, hp, f, r⟩ := r
    obtain ⟨c2, ex2⟩ := c1.memNew (o := .lst xs) ⟨_, hp, r⟩ f
    refine h (ma1 ++ [p]) S1 H1 _ (ex.trans ex2) (c2.put (.mut ?_) i)
    rw [← c1.mlen]
    simp

/-! ### list(range(..)) -/
def lrngM (fs : M (List D)) (g : List D → Option (List D)) : M (List D) := bnd fs fun xs => bnd (opt (g xs)) fun l => if l.length ≤ 1000000 then rtn l else fun _ => .stuck
theorem rgV_rep {K : KW} {S : Hp} {ma : List Addr} {lo hi : Int} : RepL K S ma (rngL lo (hi - lo).toNat) (rgV lo hi) := by
  unfold rngL rgV
  have : ∀ l : List Nat, RepL K S ma (l.map fun i => D.int (lo + (i : Nat))) (l.map fun i => V.int (lo + (i : Nat))) := fun l => by
    induction l with
    | nil => exact .nil
    | cons a r ih => exact .cons (.int _) ih
  exact this _
theorem fits_iff {i : Int} (h : fits i = true) : -(2 ^ 62) ≤ i ∧ i < 2 ^ 62 := of_decide_eq_true h
theorem f_lrng1 {p2 q : Pos} (ha : VE c a fa) (hc : c.calm = true) (hg : Glo c.sc "list") (hm : c.B.mg "list" = none) (hg2 : Glo c.sc "range") (hm2 : c.B.mg "range" = none)
    (na : ∀ env : Env, starEach [a] env = (false, eval a env) :: starEach [] env := by intro _; rfl) (na2 : ∀ env : Env, starEach [.Call (.Name "range" p2) [a] [] q] env = (false, eval (.Call (.Name "range" p2) [a] [] q) env) :: starEach [] env := by intro _; rfl) :
    VF c (.Call (.Name "list" p) [.Call (.Name "range" p2) [a] [] q] [] pos) (lrngM (consM fa (rtn [])) rng1) := by
  refine ⟨fun X W ok => ?_⟩
  obtain ⟨t, pa, qa⟩ := ha.run X W ok
  obtain ⟨exc, k, isdef, fnc, rfl⟩ := ok.eq
  refine ⟨_, pe_listRg hc hg hm (prg_1 hg2 hm2 pa (na X.env)) (na2 X.env), fun F ma S H σ ds Q cf h => ?_⟩
  unfold lrngM consM bnd at h
  refine qa F ma S H σ ds _ cf ?_
  cases er : fa ds with
  | stuck => rw [er] at h; exact h.elim
  | err z ds1 => rw [er] at h; exact h
  | ok d ds1 =>
    rw [er] at h
    intro ma1 S1 H1 v ex c1 r
    have h : Res ⟨X.prog, X.w, X.K, X.mg, X.base, exc⟩ W F (RpF (xkw X)) σ ma S ((opt (rng1 [d]) ds1).bind fun l s => (if l.length ≤ 1000000 then rtn l else fun _ => .stuck : M (List D)) s) Q := h
    cases r with
    | int i =>
      have e1 : rng1 [.int i] = if fits i = true then some (rngL 0 i.toNat) else none := rfl
      rw [e1] at h
      by_cases hf : fits i = true
      · rw [if_pos hf] at h
        have h : Res ⟨X.prog, X.w, X.K, X.mg, X.base, exc⟩ W F (RpF (xkw X)) σ ma S ((if (rngL 0 i.toNat).length ≤ 1000000 then rtn (rngL 0 i.toNat) else fun _ => .stuck : M (List D)) ds1) Q := h
        by_cases hl : (rngL 0 i.toNat).length ≤ 1000000
        · rw [if_pos hl] at h
          obtain ⟨f1, f2⟩ := fits_iff hf
          have hl2 : i.toNat ≤ 1000000 := by unfold rngL at hl; rw [List.length_map, List.length_range] at hl; exact hl
          refine ⟨i, rfl, ⟨by omega, by omega, f1, f2, by omega⟩, fun q hq => ?_⟩
          have rr := rgV_rep (K := xkw X) (S := S1) (ma := ma1) (lo := 0) (hi := i)
          rw [Int.sub_zero] at rr
          exact h ma1 S1 _ _ ex (c1.grow (.lst (rgV 0 i)) hq) ⟨q, _, rfl, upd_same, c1.fre hq, rr⟩
        · rw [if_neg hl] at h; exact h.elim
      · rw [if_neg hf] at h; exact h.elim
    | _ => exact (show False from h).elim
theorem f_lrng2 {p2 q : Pos} (ha : VE c a fa) (hb : VE c b fb) (hc : c.calm = true) (hg : Glo c.sc "list") (hm : c.B.mg "list" = none) (hg2 : Glo c.sc "range") (hm2 : c.B.mg "range" = none)
    (na : ∀ env : Env, starEach [a, b] env = (false, eval a env) :: starEach [b] env := by intro _; rfl) (nb : ∀ env : Env, starEach [b] env = (false, eval b env) :: starEach [] env := by intro _; rfl)
    (na2 : ∀ env : Env, starEach [.Call (.Name "range" p2) [a, b] [] q] env = (false, eval (.Call (.Name "range" p2) [a, b] [] q) env) :: starEach [] env := by intro _; rfl) :
    VF c (.Call (.Name "list" p) [.Call (.Name "range" p2) [a, b] [] q] [] pos) (lrngM (consM fa (consM fb (rtn []))) rng2) := by
  refine ⟨fun X W ok => ?_⟩
  obtain ⟨t, pa, qa⟩ := ha.run X W ok
  obtain ⟨t2, pb, qb⟩ := hb.run X W ok
  obtain ⟨exc, k, isdef, fnc, rfl⟩ := ok.eq
  have hpl : (backTo q (starEach [b] X.env)).any (·.1) = false := by rw [nb X.env]; rfl
  refine ⟨_, pe_listRg hc hg hm (prg_2 hg2 hm2 pa pb (na X.env) (nb X.env) hpl) (na2 X.env), fun F ma S H σ ds Q cf h => ?_⟩
  unfold lrngM consM bnd at h
  refine qa F ma S H σ ds _ cf ?_
  cases er : fa ds with
  | stuck => rw [er] at h; exact h.elim
  | err z ds1 => rw [er] at h; exact h
  | ok d ds1 =>
    rw [er] at h
    intro ma1 S1 H1 v ex c1 r
    refine qb F ma1 S1 H1 σ ds1 _ c1 ?_
    have h : Res ⟨X.prog, X.w, X.K, X.mg, X.base, exc⟩ W F (RpF (xkw X)) σ ma S (((((fb ds1).bind fun a s' => ((rtn ([] : List D)) s').bind fun l s' => rtn (a :: l) s').bind fun ds' s => rtn (d :: ds') s)).bind fun xs s => ((opt (rng2 xs) s).bind fun l s => (if l.length ≤ 1000000 then rtn l else fun _ => .stuck : M (List D)) s)) Q := h
    cases er2 : fb ds1 with
    | stuck => rw [er2] at h; exact h.elim
    | err z ds2 => rw [er2] at h; exact fun ma' S' H' ex2 c2 => h ma' S' H' (ex.trans ex2) c2
    | ok d2 ds2 =>
      rw [er2] at h
      intro ma2 S2 H2 v2 ex2 c2 r2
      have h : Res ⟨X.prog, X.w, X.K, X.mg, X.base, exc⟩ W F (RpF (xkw X)) σ ma S ((opt (rng2 [d, d2]) ds2).bind fun l s => (if l.length ≤ 1000000 then rtn l else fun _ => .stuck : M (List D)) s) Q := h
      have r2 : Rep (xkw X) S2 ma2 d2 v2 := r2
      have r : Rep (xkw X) S1 ma1 d v := r
      cases r with
      | int i =>
        cases r2 with
        | int j =>
          have e1 : rng2 [.int i, .int j] = if fits i = true ∧ fits j = true then some (rngL i (j - i).toNat) else none := rfl
          rw [e1] at h
          by_cases hf : fits i = true ∧ fits j = true
          · rw [if_pos hf] at h
            have h : Res ⟨X.prog, X.w, X.K, X.mg, X.base, exc⟩ W F (RpF (xkw X)) σ ma S ((if (rngL i (j - i).toNat).length ≤ 1000000 then rtn (rngL i (j - i).toNat) else fun _ => .stuck : M (List D)) ds2) Q := h
            by_cases hl : (rngL i (j - i).toNat).length ≤ 1000000
            · rw [if_pos hl] at h
              obtain ⟨f1, f2⟩ := fits_iff hf.1
              obtain ⟨f3, f4⟩ := fits_iff hf.2
              have hl2 : (j - i).toNat ≤ 1000000 := by unfold rngL at hl; rw [List.length_map, List.length_range] at hl; exact hl
              refine ⟨i, j, rfl, rfl, ⟨f1, f2, f3, f4, by omega⟩, fun q hq => ?_⟩
              exact h ma2 S2 _ _ (ex.trans ex2) (c2.grow (.lst (rgV i j)) hq) ⟨q, _, rfl, upd_same, c2.fre hq, rgV_rep⟩
            · rw [if_neg hl] at h; exact h.elim
          · rw [if_neg hf] at h; exact h.elim
        | _ => exact (show False from h).elim
      | _ => exact (show False from h).elim

/-! ### a new list by + and * -/
def OpF (c : SC) (f : Value → Value → Sem Value) (g : D → D → Option (List D)) : Prop := ∀ X W, Ok c X W → ∃ r : R2, OpR X f r ∧ ∀ F ma S H σ ds a b x y Q, Cf c.B.kw F ma S H σ ds → Rep c.B.kw S ma a x → Rep c.B.kw S ma b y →
  Res c.B W F (RpF c.B.kw) σ ma S (opt (g a b) ds) Q → r x y H Q
def binF (g : D → D → Option (List D)) (fa fb : M D) : M (List D) := bnd fa fun x => bnd fb fun y => opt (g x y)
theorem f_op {op : Operator} {g : D → D → Option (List D)} (ho : OpF c (binaryOp op) g) (ha : VE c a fa) (hb : VE c b fb) : VF c (.BinOp a op b pos) (binF g fa fb) := by
  refine ⟨fun X W ok => ?_⟩
  obtain ⟨ta, pa, qa⟩ := ha.run X W ok
  obtain ⟨tb, pb, qb⟩ := hb.run X W ok
  obtain ⟨r, po, qr⟩ := ho X W ok
  refine ⟨tOp r ta tb, pe_op po pa pb, fun F ma S H σ ds Q cf h => ?_⟩
  refine qa F ma S H σ ds _ cf (Res.bind h fun d1 ds1 ma1 S1 H1 x e1 c1 r1 h1 => ?_)
  refine qb F ma1 S1 H1 σ ds1 _ c1 (Res.bind h1 fun d2 ds2 ma2 S2 H2 y e2 c2 r2 h2 => ?_)
  exact qr F ma2 S2 H2 σ ds2 d1 d2 x y Q c2 (Rep.mono e2 r1) r2 h2
def repF : D → D → Option (List D)
  | .lst xs, .int k => if k.natAbs ≤ 1000000 ∧ xs.length * k.toNat ≤ 16777216 then some (List.replicate k.toNat xs).flatten else none
  | _, _ => none
def catF : D → D → Option (List D)
  | .lst xs, .lst ys => if xs.length + ys.length ≤ 16777216 then some (xs ++ ys) else none
  | _, _ => none
theorem of_mul : OpF c (binaryOp .Mult) repF := by
  intro X W ok
  refine ⟨_, op_rep, fun F ma S H σ ds a b x y Q cf ra rb hr => ?_⟩
  cases ra with
  | @lst a i vs h1 h2 =>
    cases rb with
    | int k =>
      have hr : Res c.B W F (RpF c.B.kw) σ ma S (opt (if k.natAbs ≤ 1000000 ∧ i.length * k.toNat ≤ 16777216 then some (List.replicate k.toNat i).flatten else none) ds) Q := hr
      by_cases hz : k.natAbs ≤ 1000000 ∧ i.length * k.toNat ≤ 16777216
      · rw [if_pos hz] at hr
        refine ⟨a, k, vs, rfl, rfl, cf.sub _ _ h1, by omega, by omega, by rw [sizeLine_eq, ← h2.length]; exact hz.2, fun p hp => ?_⟩
        exact hr ma S _ _ Ext.refl (cf.grow (.lst (List.replicate k.toNat vs).flatten) hp) ⟨p, _, rfl, upd_same, cf.fre hp, h2.rep k.toNat⟩
      · rw [if_neg hz] at hr; exact hr.elim
    | _ => exact (show False from hr).elim
  | _ => exact (show False from hr).elim
theorem of_add : OpF c (binaryOp .Add) catF := by
  intro X W ok
  refine ⟨_, op_cat, fun F ma S H σ ds a b x y Q cf ra rb hr => ?_⟩
  cases ra with
  | @lst a i vs h1 h2 =>
    cases rb with
    | @lst b j us h3 h4 =>
      have hr : Res c.B W F (RpF c.B.kw) σ ma S (opt (if i.length + j.length ≤ 16777216 then some (i ++ j) else none) ds) Q := hr
      by_cases hz : i.length + j.length ≤ 16777216
      · rw [if_pos hz] at hr
        refine ⟨a, b, vs, us, rfl, rfl, cf.sub _ _ h1, cf.sub _ _ h3, by rw [sizeLine_eq, ← h2.length, ← h4.length]; exact hz, fun p hp => ?_⟩
        exact hr ma S _ _ Ext.refl (cf.grow (.lst (vs ++ us)) hp) ⟨p, _, rfl, upd_same, cf.fre hp, h2.app h4⟩
      · rw [if_neg hz] at hr; exact hr.elim
    | _ => exact (show False from hr).elim
  | _ => exact (show False from hr).elim
end

/-! ### defs and their callers -/
structure DefF (B : Bs) (x : Str) (st : Stmt) (ps : List Str) : Prop where
  ex : ∃ f fd, Fun B.K x x st f fd ∧ B.mg x = some (.ref f) ∧ Binds B.K fd ps []
theorem callee_mk {B : Bs} {x : Str} {st : Stmt} {N ps : List Str} {k : Nat} {body : M Out} (d : DefF B x st ps) (Sc : FnScope N ps (defScope st)) (h : VB ⟨B, N, defScope st, k, true, true, fun _ => true⟩ (defBody st) body) :
    Callee B x (fnDen ps.length N.length body) (k + 1) := by
  obtain ⟨f, fd, F, hm, hb⟩ := d.ex
  exact ⟨f, fd, ps, fn_mk F Sc h, hm, F.kp, hb⟩
theorem Callee.to {B : Bs} {x : Str} {den den' : Den} {k : Nat} (h : Callee B x den k) (e : den = den') : Callee B x den' k := e ▸ h
theorem Callee.le {B : Bs} {x : Str} {den : Den} {j k : Nat} (h : Callee B x den j) (e : j ≤ k) : Callee B x den k := by
  obtain ⟨f, fd, ps, F, h1, h2, h3⟩ := h.ex
  exact ⟨f, fd, ps, F.mono e, h1, h2, h3⟩
/-- no meaning known -/
def noDen : Den := fun _ _ => .stuck
theorem callee_none {B : Bs} {x : Str} {st : Stmt} {N ps : List Str} {k : Nat} (d : DefF B x st ps) (Sc : FnScope N ps (defScope st)) : Callee B x noDen (k + 1) := by
  have h := callee_mk (k := k) d Sc VB.none
  refine h.to (funext fun args => funext fun mem => ?_)
  unfold fnDen noDen
  split <;> rfl

/-! ### the law itself -/
/-- what a law promises, whatever the classes of errors are -/
def spLaw (K : KW) (den : Den) : Sp := fun vs H Q _ => ∃ ma S ds mem d m, Cf K (around S H ma) ma S H (vs.map some) ⟨ds.map .val, mem⟩ ∧ RepL K S ma ds vs ∧ den ds mem = .ok d m ∧ ∀ ma' S' H' v, Ext ma S ma' S' → Rep K S' ma' d v → Q v H'
theorem spLaw_of {B : Bs} {den : Den} {vs : List V} {H : Hp} {Q : VK} {E : XK} (h : spLaw B.kw den vs H Q E) : spD B den vs H Q E := by
  obtain ⟨ma, S, ds, mem, d, m, h1, h2, h3, h4⟩ := h
  refine ⟨ma, S, ds, mem, h1, h2, ?_⟩
  rw [h3]
  exact fun ma' S' H' v ex _ r => h4 ma' S' H' v ex r
/-- a script's list: nothing else stands -/
theorem spLaw_script {K : KW} {den : Den} {H : Hp} {a : Addr} {ns : List Int} (hS : SqL K H a (ns.map V.int)) (h : ∃ m, den [.frl (ns.map .int)] [] = .ok (.bl true) m) : spLaw K den [.ref a] H (fun v _ => v = .bl true) fun _ _ _ => False := by
  obtain ⟨m, hm⟩ := h
  have rl : ∀ l : List Int, RepL K H [] (l.map D.int) (l.map V.int) := fun l => by
    induction l with
    | nil => exact .nil
    | cons x r ih => exact .cons (.int x) ih
  have rp : RepL K H [] [.frl (ns.map .int)] [.ref a] := .cons (.frl hS (rl ns)) .nil
  refine ⟨[], H, [.frl (ns.map .int)], [], .bl true, m, ?_, rp, hm, fun ma' S' H' v ex r => by cases r; rfl⟩
  have c0 : Cf K (fun _ => none) [] H H [] ⟨[], []⟩ := {
    sub := Same.refl H
    fr := fun b o e => by cases e
    dis := fun b o e => by cases e
    len := rfl
    val := fun i d e => by simp at e
    own := fun i s o e => by simp at e
    apart := fun i j s u p e => by simp at e
    mlen := rfl
    mem := fun n a o e => by simp at e
    nd := List.nodup_nil }
  exact c0.toCall rp
/-- whatever the module's names are -/
def spLawW (K : PySem.W.Frag) (w : World) (den : Den) : Sp := fun vs H Q E => ∀ mg, spLaw ⟨K, w, mg⟩ den vs H Q E
theorem law_fn {B : Bs} {x : Str} {den : Den} {k : Nat} (h : Callee B x den k) {fa : Addr} (hfa : B.mg x = some (.ref fa)) : ∃ fd ps, FnOk B.P B.w B.K B.mg B.base (L2.CX B.P B.w) k fa fd ps (spLaw B.kw den) ∧ Binds B.K fd ps [] := by
  obtain ⟨f, fd, ps, F, hm, kp, hb⟩ := h.ex
  rw [hfa] at hm
  cases hm
  exact ⟨fd, ps, F.imp fun vs H Q E q => spLaw_of q, hb⟩
end Vl
namespace Vl
open PySem PySem.Spec PyProof.Rows L2

/-! ### the least, the greatest, the sorted -/
mutual
/-- nothing of the text or of tables within -/
def flatD : D → Bool
  | .non => true
  | .bl _ => true
  | .int _ => true
  | .str _ => true
  | .tup xs => flatDs xs
  | .lst xs => flatDs xs
  | _ => false
def flatDs : List D → Bool
  | [] => true
  | x :: xs => flatD x && flatDs xs
end
mutual
theorem toP_inj : ∀ {a b : D}, flatD a = true → flatD b = true → toP a = toP b → a = b
  | .non, .non, _, _, _ => rfl
  | .non, .bl _, _, _, h => by simp [toP] at h
  | .non, .int _, _, _, h => by simp [toP] at h
  | .non, .str _, _, _, h => by simp [toP] at h
  | .non, .tup _, _, _, h => by simp [toP] at h
  | .non, .lst _, _, _, h => by simp [toP] at h
  | .bl _, .non, _, _, h => by simp [toP] at h
  | .bl _, .bl _, _, _, h => by simp [toP] at h; rw [h]
  | .bl _, .int _, _, _, h => by simp [toP] at h
  | .bl _, .str _, _, _, h => by simp [toP] at h
  | .bl _, .tup _, _, _, h => by simp [toP] at h
  | .bl _, .lst _, _, _, h => by simp [toP] at h
  | .int _, .non, _, _, h => by simp [toP] at h
  | .int _, .bl _, _, _, h => by simp [toP] at h
  | .int _, .int _, _, _, h => by simp [toP] at h; rw [h]
  | .int _, .str _, _, _, h => by simp [toP] at h
  | .int _, .tup _, _, _, h => by simp [toP] at h
  | .int _, .lst _, _, _, h => by simp [toP] at h
  | .str _, .non, _, _, h => by simp [toP] at h
  | .str _, .bl _, _, _, h => by simp [toP] at h
  | .str _, .int _, _, _, h => by simp [toP] at h
  | .str _, .str _, _, _, h => by simp [toP] at h; rw [h]
  | .str _, .tup _, _, _, h => by simp [toP] at h
  | .str _, .lst _, _, _, h => by simp [toP] at h
  | .tup _, .non, _, _, h => by simp [toP] at h
  | .tup _, .bl _, _, _, h => by simp [toP] at h
  | .tup _, .int _, _, _, h => by simp [toP] at h
  | .tup _, .str _, _, _, h => by simp [toP] at h
  | .tup xs, .tup ys, h1, h2, h => by
    simp only [toP, PyData.tuple.injEq] at h
    rw [flatD] at h1 h2
    rw [toPs_inj h1 h2 h]
  | .tup _, .lst _, _, _, h => by simp [toP] at h
  | .lst _, .non, _, _, h => by simp [toP] at h
  | .lst _, .bl _, _, _, h => by simp [toP] at h
  | .lst _, .int _, _, _, h => by simp [toP] at h
  | .lst _, .str _, _, _, h => by simp [toP] at h
  | .lst _, .tup _, _, _, h => by simp [toP] at h
  | .lst xs, .lst ys, h1, h2, h => by
    simp only [toP, PyData.list.injEq] at h
    rw [flatD] at h1 h2
    rw [toPs_inj h1 h2 h]
  | .frl _, _, h, _, _ => by simp [flatD] at h
  | .ktp _, _, h, _, _ => by simp [flatD] at h
  | .dK _ _, _, h, _, _ => by simp [flatD] at h
  | .dT _ _, _, h, _, _ => by simp [flatD] at h
  | .mut _, _, h, _, _ => by simp [flatD] at h
  | _, .frl _, _, h, _ => by simp [flatD] at h
  | _, .ktp _, _, h, _ => by simp [flatD] at h
  | _, .dK _ _, _, h, _ => by simp [flatD] at h
  | _, .dT _ _, _, h, _ => by simp [flatD] at h
  | _, .mut _, _, h, _ => by simp [flatD] at h
theorem toPs_inj : ∀ {a b : List D}, flatDs a = true → flatDs b = true → toPs a = toPs b → a = b
  | [], [], _, _, _ => rfl
  | [], _ :: _, _, _, h => by simp [toPs] at h
  | _ :: _, [], _, _, h => by simp [toPs] at h
  | x :: xs, y :: ys, h1, h2, h => by
    simp only [toPs, List.cons.injEq] at h
    rw [flatDs, Bool.and_eq_true] at h1 h2
    rw [toP_inj h1.1 h2.1 h.1, toPs_inj h1.2 h2.2 h.2]
end
/-- a list that can be ordered -/
def ordL (xs : List D) : Bool := dats xs && xs.all fun a => (xs.all fun b => likeD a b) && !(match a with | .non => true | _ => false)
def minDs (x : D) (xs : List D) : D := xs.foldl (fun a y => if ltD y a = true then y else a) x
def maxDs (x : D) (xs : List D) : D := xs.foldl (fun a y => if ltD a y = true then y else a) x
theorem minDs_toP (x : D) : ∀ xs : List D, toP (minDs x xs) = PySem.W.minD (toP x) (toPs xs) := by
  intro xs
  unfold minDs PySem.W.minD
  induction xs generalizing x with
  | nil => rfl
  | cons y r ih =>
    rw [toPs, List.foldl_cons, List.foldl_cons, ih]
    congr 1
    show toP (if PySem.W.dataLt (toP y) (toP x) = true then y else x) = if PySem.W.dataLt (toP y) (toP x) = true then toP y else toP x
    split <;> rfl
theorem maxDs_toP (x : D) : ∀ xs : List D, toP (maxDs x xs) = PySem.W.maxD (toP x) (toPs xs) := by
  intro xs
  unfold maxDs PySem.W.maxD
  induction xs generalizing x with
  | nil => rfl
  | cons y r ih =>
    rw [toPs, List.foldl_cons, List.foldl_cons, ih]
    congr 1
    show toP (if PySem.W.dataLt (toP x) (toP y) = true then y else x) = if PySem.W.dataLt (toP x) (toP y) = true then toP y else toP x
    split <;> rfl
theorem minDs_mem (x : D) : ∀ xs : List D, minDs x xs ∈ x :: xs := by
  intro xs
  unfold minDs
  induction xs generalizing x with
  | nil => simp
  | cons y r ih =>
    rw [List.foldl_cons]
    have := ih (if ltD y x = true then y else x)
    rcases List.mem_cons.mp this with h | h
    · rw [h]; split <;> simp
    · simp [h]
theorem maxDs_mem (x : D) : ∀ xs : List D, maxDs x xs ∈ x :: xs := by
  intro xs
  unfold maxDs
  induction xs generalizing x with
  | nil => simp
  | cons y r ih =>
    rw [List.foldl_cons]
    have := ih (if ltD x y = true then y else x)
    rcases List.mem_cons.mp this with h | h
    · rw [h]; split <;> simp
    · simp [h]
theorem flat_mem : ∀ {xs : List D} {x : D}, flatDs xs = true → x ∈ xs → flatD x = true
  | y :: r, x, h, m => by
    rw [flatDs, Bool.and_eq_true] at h
    rcases List.mem_cons.mp m with rfl | m
    · exact h.1
    · exact flat_mem h.2 m
theorem ordL_all {xs : List D} (h : ordL xs = true) : dats xs = true ∧ PySem.W.AlikeAll (toPs xs) := by
  unfold ordL at h
  rw [Bool.and_eq_true] at h
  refine ⟨h.1, fun p hp q hq => ?_, fun p hp => ?_⟩
  · rw [toPs_map] at hp hq
    obtain ⟨a, ha, rfl⟩ := List.mem_map.mp hp
    obtain ⟨b, hb, rfl⟩ := List.mem_map.mp hq
    have := List.all_eq_true.mp h.2 a ha
    rw [Bool.and_eq_true] at this
    exact List.all_eq_true.mp this.1 b hb
  · rw [toPs_map] at hp
    obtain ⟨a, ha, rfl⟩ := List.mem_map.mp hp
    have := List.all_eq_true.mp h.2 a ha
    rw [Bool.and_eq_true] at this
    cases a with
    | non => simp at this
    | _ => intro z; simp [toP] at z
theorem dats_split {xs : List D} (h : dats xs = true) : PyData.plainAll (toPs xs) = true ∧ PyData.depthAll (toPs xs) ≤ 60 := by
  unfold dats at h
  rw [Bool.and_eq_true] at h
  exact ⟨h.1, of_decide_eq_true h.2⟩
def leastF (f : D → List D → D) : List D → Option D
  | [] => none
  | x :: xs => if ordL (x :: xs) = true ∧ flatDs (x :: xs) = true then some (f x xs) else none
/-- min(xs), max(xs) -/
def leastM (f : D → List D → D) : List D → M D
  | [.lst xs] => opt (leastF f xs)
  | [.frl xs] => opt (leastF f xs)
  | [.tup xs] => opt (leastF f xs)
  | [.ktp xs] => opt (leastF f xs)
  | _ => fun _ => .stuck
section
variable {c : SC}
def rLeast (K : KW) (mn : Bool) : List V → Hp → VK → Prop := fun vs H Q => ∃ (a : Addr) (ws : List V) (S : Hp) (ma : List Addr) (x : D) (xs : List D), vs = [.ref a] ∧ (SqL K H a ws ∨ SqT K H a ws) ∧ Same S H ∧ RepL K S ma (x :: xs) ws ∧ ordL (x :: xs) = true ∧ flatDs (x :: xs) = true ∧
  ∀ v, Rep K S ma (if mn = true then minDs x xs else maxDs x xs) v → Q v H
theorem vals_get {vs : List V} {us : List Value} (r : Vals vs us) {i : Nat} {u : Value} (h : us[i]? = some u) : ∃ v, vs[i]? = some v ∧ RelV v u := by
  induction r generalizing i with
  | nil => simp at h
  | cons a b ih =>
    cases i with
    | zero => simp at h; subst h; exact ⟨_, rfl, a⟩
    | succ i =>
      obtain ⟨v, h1, h2⟩ := ih (i := i) (by simpa using h)
      exact ⟨v, by simpa using h1, h2⟩
theorem call_least {X : Cx} (mn : Bool) (hc : X.calm = true) (hu : X.A.units + 64 < cLine) : CallR X (.builtin (if mn = true then "min" else "max")) (rLeast (xkw X) mn) := by
  intro pins s σ H vs us Q I r h
  obtain ⟨a, ws, S, ma, x, xs, rfl, hs, sm, rl, ho, hf, q⟩ := h
  rw [Vals.ref1 r]
  obtain ⟨hd, ha⟩ := ordL_all ho
  obtain ⟨p1, d1⟩ := dats_split hd
  -- what the answer is
  have fin : ∀ (its : List Value) (i : Nat) v h' tk bs, Vals ws its → its.toArray[i]? = some v → Reads h' v (toP (if mn = true then minDs x xs else maxDs x xs)) bs → (∀ b o, s.heap.get? b = some o → h'.get? b = some o) → (∃ as, ReadsAll s.heap its (toPs (x :: xs)) as) → EP X pins σ Q v { s with heap := h', toks := tk } := by
    intro its i v h' tk bs rv hv hr hk ⟨as, hra⟩
    obtain ⟨bs2, r2, hi, hm, _⟩ := PySem.W.readsAll_at hra i v (by simpa using hv)
    have rr := PySem.W.reads_keeps hk r2
    have hm2 : (if mn = true then minDs x xs else maxDs x xs) ∈ x :: xs := by
      split
      · exact minDs_mem x xs
      · exact maxDs_mem x xs
    have e1 : toP (if mn = true then minDs x xs else maxDs x xs) = (toPs (x :: xs)).getD i .none := by
      refine PySem.W.alike_unique _ _ _ _ _ ?_ hr rr
      refine ha.1 _ ?_ _ hm
      rw [toPs_map]
      exact List.mem_map.mpr ⟨_, hm2, rfl⟩
    obtain ⟨vv, h1, h2⟩ := vals_get rv (by simpa using hv)
    obtain ⟨dd, h3, h4⟩ := rl.get' h1
    have e2 : (toPs (x :: xs)).getD i .none = toP dd := by
      rw [toPs_map, List.getD_eq_getElem?_getD, List.getElem?_map, h3]; rfl
    have e3 : (if mn = true then minDs x xs else maxDs x xs) = dd := toP_inj (flat_mem hf hm2) (flat_mem hf (List.mem_of_getElem? h3)) (e1.trans e2)
    exact ⟨vv, H, I.kept hk, h2, q vv (e3 ▸ h4)⟩
  rcases hs with hs | hs
  · obtain ⟨its, rv, hl, _⟩ := I.list hs
    obtain ⟨as, hra⟩ := rl.reads I sm rv p1
    cases mn with
    | true =>
      refine PySem.W.min_list_data (vs := its.toArray) (x := toP x) (xs := toPs xs) (I.ok.hd hc) hl.isList (by simpa [toPs] using hra) (by simpa [toPs] using ha) (by have := d1; rw [toPs] at this; omega) fun i v h' tk bs hv hr hk => ?_
      exact fin its i v h' tk bs rv hv (by rw [if_pos rfl, minDs_toP]; exact hr) hk ⟨as, hra⟩
    | false =>
      refine PySem.W.max_list_data (vs := its.toArray) (x := toP x) (xs := toPs xs) (I.ok.hd hc) hl.isList (by simpa [toPs] using hra) (by simpa [toPs] using ha) (by have := d1; rw [toPs] at this; omega) fun i v h' tk bs hv hr hk => ?_
      exact fin its i v h' tk bs rv hv (by rw [if_neg (by decide), maxDs_toP]; exact hr) hk ⟨as, hra⟩
  · obtain ⟨its, rv, hl, _⟩ := I.tuple hs
    obtain ⟨as, hra⟩ := rl.reads I sm rv p1
    cases mn with
    | true =>
      refine PySem.W.min_tuple_data (vs := its.toArray) (x := toP x) (xs := toPs xs) (I.ok.hd hc) hl (by simpa [toPs] using hra) (by simpa [toPs] using ha) (by have := d1; rw [toPs] at this; omega) fun i v h' tk bs hv hr hk => ?_
      exact fin its i v h' tk bs rv hv (by rw [if_pos rfl, minDs_toP]; exact hr) hk ⟨as, hra⟩
    | false =>
      refine PySem.W.max_tuple_data (vs := its.toArray) (x := toP x) (xs := toPs xs) (I.ok.hd hc) hl (by simpa [toPs] using hra) (by simpa [toPs] using ha) (by have := d1; rw [toPs] at this; omega) fun i v h' tk bs hv hr hk => ?_
      exact fin its i v h' tk bs rv hv (by rw [if_neg (by decide), maxDs_toP]; exact hr) hk ⟨as, hra⟩
theorem cal_least (mn : Bool) (hc : c.calm = true) : CalV c (.builtin (if mn = true then "min" else "max")) (leastM (if mn = true then minDs else maxDs)) := by
  intro X W ok
  have hu := room60 ok hc
  have hcx : X.calm = true := by obtain ⟨exc, k, isdef, fnc, rfl⟩ := ok.eq; exact hc
  refine ⟨_, call_least mn hcx (by omega), fun F ma S H σ ds xs vs Q cf r h => ?_⟩
  obtain ⟨exc, k, isdef, fnc, rfl⟩ := ok.eq
  have go : ∀ (l : List D) (ws : List V) (a : Addr), (SqL X.K H a ws ∨ SqT X.K H a ws) → RepL (xkw X) S ma l ws → Res ⟨X.prog, X.w, X.K, X.mg, X.base, exc⟩ W F (RpV (xkw X)) σ ma S (opt (leastF (if mn = true then minDs else maxDs) l) ds) Q → rLeast (xkw X) mn [.ref a] H Q := fun l ws a hs rl h => by
    cases l with
    | nil => exact h.elim
    | cons x r =>
      unfold leastF at h
      dsimp only at h
      by_cases hz : ordL (x :: r) = true ∧ flatDs (x :: r) = true
      · rw [if_pos hz] at h
        refine ⟨a, ws, S, ma, x, r, rfl, hs, cf.sub, rl, hz.1, hz.2, fun v rv => h ma S H v Ext.refl cf ?_⟩
        have e : (if mn = true then minDs else maxDs) x r = if mn = true then minDs x r else maxDs x r := by split <;> rfl
        rw [e]; exact rv
      · rw [if_neg hz] at h; exact h.elim
  unfold leastM at h
  split at h
  · cases r with
    | cons r1 r2 =>
      cases r2
      cases r1 with
      | lst hs rl => exact go _ _ _ (.inl (.inl (.inl (cf.sub _ _ hs)))) rl h
  · cases r with
    | cons r1 r2 =>
      cases r2
      cases r1 with
      | frl hs rl => exact go _ _ _ (.inl (cf.sub.seq hs)) rl h
  · cases r with
    | cons r1 r2 =>
      cases r2
      cases r1 with
      | tup hs rl => exact go _ _ _ (.inr (Vl.seqT cf.sub (tsq hs))) rl h
  · cases r with
    | cons r1 r2 =>
      cases r2
      cases r1 with
      | ktp hs rl => exact go _ _ _ (.inr (Vl.seqT cf.sub hs)) rl h
  · exact h.elim
theorem cal_min (hc : c.calm = true) : CalV c (.builtin "min") (leastM minDs) := cal_least true hc
theorem cal_max (hc : c.calm = true) : CalV c (.builtin "max") (leastM maxDs) := cal_least false hc

/-! sorted -/
def tup1 : D → Bool
  | .tup (_ :: _) => true
  | _ => false
def notup : D → Bool
  | .non => false
  | .tup _ => false
  | .ktp _ => false
  | _ => true
def sortable (xs : List D) : Bool := dats xs && (xs.all fun a => xs.all fun b => likeD a b) && (xs.all tup1 || xs.all notup) && decide (xs.length ≤ 1000000)
def sortD (xs : List D) : List D := xs.mergeSort (PySem.W.dataLe false toP)
def sortF (xs : List D) : Option (List D) := if sortable xs = true then some (sortD xs) else none
def sortM : List D → M (List D)
  | [.lst xs] => opt (sortF xs)
  | [.frl xs] => opt (sortF xs)
  | _ => fun _ => .stuck
theorem each_of {K : KW} {S : Hp} {ma : List Addr} : ∀ {xs : List D} {vs : List V} {us : List Value}, RepL K S ma xs vs → Vals vs us → PySem.W.EachIs (fun (u : Value) (d : D) => ∃ v, RelV v u ∧ Rep K S ma d v) us xs
  | _, _, _, .nil, .nil => .nil
  | _, _, _, .cons a b, .cons c d => .cons ⟨_, c, a⟩ (each_of b d)
theorem each_back {K : KW} {S : Hp} {ma : List Addr} : ∀ {xs : List D} {us : List Value}, PySem.W.EachIs (fun (u : Value) (d : D) => ∃ v, RelV v u ∧ Rep K S ma d v) us xs → ∃ vs, RepL K S ma xs vs ∧ Vals vs us
  | _, _, .nil => ⟨[], .nil, .nil⟩
  | _, _, .cons a b => by
    obtain ⟨v, h1, h2⟩ := a
    obtain ⟨vs, h3, h4⟩ := each_back b
    exact ⟨v :: vs, .cons h2 h3, .cons h1 h4⟩
theorem depth_mem : ∀ {ds : List PyData} {d : PyData}, d ∈ ds → d.depth ≤ PyData.depthAll ds
  | x :: r, d, h => by
    rcases List.mem_cons.mp h with rfl | h
    · exact Nat.le_max_left _ _
    · exact Nat.le_trans (depth_mem h) (Nat.le_max_right _ _)
theorem plain_mem : ∀ {ds : List PyData} {d : PyData}, PyData.plainAll ds = true → d ∈ ds → d.plain = true
  | x :: r, d, p, h => by
    rw [PyData.plainAll, Bool.and_eq_true] at p
    rcases List.mem_cons.mp h with rfl | h
    · exact p.1
    · exact plain_mem p.2 h
def rSort (K : KW) : List V → Hp → VK → Prop := fun vs H Q => ∃ (a : Addr) (ws : List V) (S : Hp) (ma : List Addr) (xs : List D), vs = [.ref a] ∧ SqL K H a ws ∧ Same S H ∧ RepL K S ma xs ws ∧ sortable xs = true ∧
  ∀ p us, H p = none → RepL K S ma (sortD xs) us → Q (.ref p) (upd H p (.lst us))
theorem call_sorted {X : Cx} (hu : X.A.units + 64 < cLine) : CallR X (.builtin "sorted") (rSort (xkw X)) := by
  intro pins s σ H vs us Q I r h
  obtain ⟨a, ws, S, ma, xs, rfl, hs, sm, rl, ho, q⟩ := h
  rw [Vals.ref1 r]
  unfold sortable at ho
  rw [Bool.and_eq_true, Bool.and_eq_true, Bool.and_eq_true] at ho
  obtain ⟨⟨⟨h1, h2⟩, h3⟩, h4⟩ := ho
  have h4 := of_decide_eq_true h4
  obtain ⟨p1, d1⟩ := dats_split h1
  obtain ⟨its, rv, hl, hz⟩ := I.list hs
  have hlen : its.length = xs.length := by rw [← rv.length, rl.length]
  have er : PySem.W.EachIs (fun v b => ∃ as, Reads s.heap v (toP b) as) its xs := by
    have : ∀ {xs : List D} {vs : List V} {us : List Value}, RepL (xkw X) S ma xs vs → Vals vs us → PyData.plainAll (toPs xs) = true → PySem.W.EachIs (fun v b => ∃ as, Reads s.heap v (toP b) as) us xs := by
      intro xs
      induction xs with
      | nil => intro vs us r v _; cases r; cases v; exact .nil
      | cons x r ih =>
        intro vs us r v p
        rw [toPs, PyData.plainAll, Bool.and_eq_true] at p
        cases r with
        | cons r1 r2 =>
          cases v with
          | cons v1 v2 => exact .cons (r1.reads I sm v1 p.1) (ih r2 v2 p.2)
    exact this rl rv p1
  have em : ∀ d, d ∈ xs.map toP → ∃ b, b ∈ xs ∧ toP b = d := fun d hd => by obtain ⟨b, hb, e⟩ := List.mem_map.mp hd; exact ⟨b, hb, e⟩
  refine PySem.W.sorted_data (vs := its) (bs := xs) (enc := toP) hl.isList (each_of rl rv) er (fun d hd d' hd' => ?_) ?_ (by rw [sizeLine_eq]; omega) (fun b hb => ?_) fun out ol eo => ?_
  · obtain ⟨b, hb, rfl⟩ := em d hd
    obtain ⟨b', hb', rfl⟩ := em d' hd'
    exact List.all_eq_true.mp (List.all_eq_true.mp h2 b hb) b' hb'
  · rcases Bool.or_eq_true_iff.mp h3 with h3 | h3
    · refine .inl fun d hd => ?_
      obtain ⟨b, hb, rfl⟩ := em d hd
      have := List.all_eq_true.mp h3 b hb
      cases b with
      | tup ys =>
        cases ys with
        | nil => cases this
        | cons y r => exact ⟨toP y, toPs r, by rw [toP, toPs]⟩
      | _ => cases this
    · refine .inr fun d hd => ?_
      obtain ⟨b, hb, rfl⟩ := em d hd
      have := List.all_eq_true.mp h3 b hb
      cases b with
      | non => cases this
      | tup _ => cases this
      | ktp _ => cases this
      | _ => exact ⟨fun z => by simp [toP] at z, fun _ z => by simp [toP] at z⟩
  · have : (toP b).depth ≤ 60 := Nat.le_trans (depth_mem (by rw [toPs_map]; exact List.mem_map.mpr ⟨b, hb, rfl⟩)) d1
    omega
  · obtain ⟨vs', r1, r2⟩ := each_back eo
    obtain ⟨en, hg⟩ := PyProof.Rows.sortedAll_at s.heap its out.toArray
    have hfree : H (s.heap.objs.size + 1) = none := I.hok.fresh (Nat.le_succ _)
    refine ⟨.ref (s.heap.objs.size + 1), upd H (s.heap.objs.size + 1) (.lst vs'), ?_, rfl, q _ _ hfree r1⟩
    refine I.laid (t' := s.toks) (o := .lst vs') (fun b ob hb => PyProof.Rows.sortedAll_old hb) (Nat.le_succ _) ?_
    refine ⟨?_, out, en, r2, hg⟩
    rw [r2.length, ol, sizeLine_eq]; omega
theorem cal_sorted (hc : c.calm = true) : CalF c (.builtin "sorted") sortM := by
  intro X W ok
  have hu := room60 ok hc
  refine ⟨_, call_sorted (by omega), fun F ma S H σ ds xs vs Q cf r h => ?_⟩
  obtain ⟨exc, k, isdef, fnc, rfl⟩ := ok.eq
  have go : ∀ (l : List D) (ws : List V) (a : Addr), SqL X.K H a ws → RepL (xkw X) S ma l ws → Res ⟨X.prog, X.w, X.K, X.mg, X.base, exc⟩ W F (RpF (xkw X)) σ ma S (opt (sortF l) ds) Q → rSort (xkw X) [.ref a] H Q := fun l ws a hs rl h => by
    unfold sortF at h
    by_cases hz : sortable l = true
    · rw [if_pos hz] at h
      refine ⟨a, ws, S, ma, l, rfl, hs, cf.sub, rl, hz, fun p us hp rr => ?_⟩
      exact h ma S _ _ Ext.refl (cf.grow (.lst us) hp) ⟨p, us, rfl, upd_same, cf.fre hp, rr⟩
    · rw [if_neg hz] at h; exact h.elim
  unfold sortM at h
  split at h
  · cases r with
    | cons r1 r2 =>
      cases r2
      cases r1 with
      | lst hs rl => exact go _ _ _ (.inl (.inl (cf.sub _ _ hs))) rl h
  · cases r with
    | cons r1 r2 =>
      cases r2
      cases r1 with
      | frl hs rl => exact go _ _ _ (cf.sub.seq hs) rl h
  · exact h.elim
end
end Vl
namespace Vl
open PySem PySem.Spec PyProof.Rows L2
mutual
/-- a constant of the written part -/
inductive GRep (K : PySem.W.Frag) : Value → D → Prop
  | non : GRep K .none .non
  | bl (b : Bool) : GRep K (.bool b) (.bl b)
  | int (i : Int) (t : Tok) : GRep K (.int i t) (.int i)
  | str (x : Str) (t : Tok) : GRep K (.str x t) (.str x)
  | tup {a : Addr} {dd : Option Addr} {its : Array Value} {n : Nat} {sl : Array (Option Value)} {ds : List D} : K.lookup a = some ⟨.type "tuple", dd, .seq its n, sl⟩ → its.size ≤ 1000 → GReps K its.toList ds → GRep K (.ref a) (.ktp ds)
  | lst {a : Addr} {its : Array Value} {n : Nat} {sl : Array (Option Value)} {ds : List D} : K.lookup a = some ⟨.type "list", none, .seq its n, sl⟩ → its.size ≤ 1000 → GReps K its.toList ds → GRep K (.ref a) (.frl ds)
inductive GReps (K : PySem.W.Frag) : List Value → List D → Prop
  | nil : GReps K [] []
  | cons {u : Value} {us : List Value} {d : D} {ds : List D} : GRep K u d → GReps K us ds → GReps K (u :: us) (d :: ds)
end
mutual
theorem GRep.ex {K : PySem.W.Frag} {w : World} {mg : Str → Option Value} : ∀ {u : Value} {d : D}, GRep K u d → ∃ v, RelV v u ∧ ∀ S ma, Rep ⟨K, w, mg⟩ S ma d v
  | _, _, .non => ⟨.non, rfl, fun _ _ => .non⟩
  | _, _, .bl b => ⟨.bl b, rfl, fun _ _ => .bl b⟩
  | _, _, .int i t => ⟨.int i, ⟨t, rfl⟩, fun _ _ => .int i⟩
  | _, _, .str x t => ⟨.str x, ⟨t, rfl⟩, fun _ _ => .str x⟩
  | _, _, .tup (a := a) hl hz hr => by
    obtain ⟨vs, h1, h2⟩ := GReps.ex (w := w) (mg := mg) hr
    exact ⟨.ref a, rfl, fun S ma => .ktp (.inr ⟨_, _, _, hl, rfl, rfl, Nat.le_trans hz (by decide), h1⟩) (h2 S ma)⟩
  | _, _, .lst (a := a) hl hz hr => by
    obtain ⟨vs, h1, h2⟩ := GReps.ex (w := w) (mg := mg) hr
    exact ⟨.ref a, rfl, fun S ma => .frl (.inr ⟨_, _, _, hl, rfl, rfl, rfl, Nat.le_trans hz (by decide), h1⟩) (h2 S ma)⟩
theorem GReps.ex {K : PySem.W.Frag} {w : World} {mg : Str → Option Value} : ∀ {us : List Value} {ds : List D}, GReps K us ds → ∃ vs, Vals vs us ∧ ∀ S ma, RepL ⟨K, w, mg⟩ S ma ds vs
  | _, _, .nil => ⟨[], .nil, fun _ _ => .nil⟩
  | _, _, .cons h t => by
    obtain ⟨v, h1, h2⟩ := GRep.ex (w := w) (mg := mg) h
    obtain ⟨vs, h3, h4⟩ := GReps.ex (w := w) (mg := mg) t
    exact ⟨v :: vs, .cons h1 h3, fun S ma => .cons (h2 S ma) (h4 S ma)⟩
end
theorem gconst_of {B : Bs} {x : Str} {u : Value} {d : D} (h : B.mg x = some u) (g : GRep B.K u d) : GConst B x d := by
  obtain ⟨v, h1, h2⟩ := g.ex (w := B.w) (mg := B.mg)
  exact ⟨⟨u, v, h, h1, h2⟩⟩
theorem exm_one {K : PySem.W.Frag} {A C : Addr} {r : Bool} (h1 : PySem.W.subIn K (.ref C) (.type "BaseException") = some true) (h2 : PySem.W.isClsIn K C = true) (h3 : PySem.W.typeIn K (.ref C) = some (.type "type")) (h4 : PySem.W.subIn K (.ref A) (.ref C) = some r) :
    PySem.W.exmOne K (.ref A) (.ref C) = some r := by
  have e1 : (PySem.W.subIn K (.ref C) (.type "BaseException") == some true) = true := by rw [h1] <;> rfl
  have e2 : ((PySem.W.clsIn K C).isSome && PySem.W.typeIn K (.ref C) == some (.type "type")) = true := by
    have h2' : (PySem.W.clsIn K C).isSome = true := h2
    rw [h2', h3] <;> rfl
  show (if (PySem.W.subIn K (.ref C) (.type "BaseException") == some true) = true then (if ((PySem.W.clsIn K C).isSome && PySem.W.typeIn K (.ref C) == some (.type "type")) = true then PySem.W.subIn K (.ref A) (.ref C) else none) else none) = some r
  rw [if_pos e1, if_pos e2]
  exact h4
end Vl
namespace Vl
open PySem PySem.Spec PyProof.Rows L2
section
variable {c : SC}
/-! ### tables: new ones -/
/-- name = {} -/
def dnewM (i : Nat) (t : Bool) : M Out := fun s => .ok .nx { s with env := s.env.set i (if t = true then .ownT [] [] else .ownK [] []) }
theorem tf0 {a : Addr} (h : (a == sysModules) = false) : TF [] a [] [] [] := ⟨rfl, List.nodup_nil, rfl, rfl, by decide, h⟩
theorem s_dnewT (i : Nat) {x : Str} {pos pos' dpos : Pos} (hi : c.N[i]? = some x) (hx : Loc c.sc x) (hf : c.fnc x = true ∨ c.sc.names.lookup x = some .local)
    (hs : ∀ env : Env, env.scope = c.sc → swapsWith (.Dict [] [] dpos) (some (.Name x pos')) pos.line env = pure false := by intro _ _; rfl) : VS c (.Assign [.Name x pos'] (.Dict [] [] dpos) pos) (dnewM i true) := by
  refine ⟨fun X W ok => ?_⟩
  have nd := ok.nd
  have hf' : X.fn x = true ∨ c.sc.names.lookup x = some .local := hf.imp (fun h => ok.fn x h) id
  obtain ⟨exc, k, isdef, fnc, rfl⟩ := ok.eq
  refine ⟨tAsg (tNNew (xkw X)) (gName i), ps_set nd hi hx pe_nnew (hs X.env rfl) hf', fun F ma S H σ ds E cf h => ?_⟩
  intro p hp hm
  exact h ma S _ _ Ext.refl ((cf.grow _ hp).putOwn (s := .ownT [] []) rfl ⟨[], [], [], upd_same, tf0 hm, .nil, .nil⟩ (cf.fre hp) i)
theorem s_dnewK (i : Nat) {x : Str} {pos pos' dpos : Pos} (hi : c.N[i]? = some x) (hx : Loc c.sc x) (hf : c.fnc x = true ∨ c.sc.names.lookup x = some .local)
    (hs : ∀ env : Env, env.scope = c.sc → swapsWith (.Dict [] [] dpos) (some (.Name x pos')) pos.line env = pure false := by intro _ _; rfl) : VS c (.Assign [.Name x pos'] (.Dict [] [] dpos) pos) (dnewM i false) := by
  refine ⟨fun X W ok => ?_⟩
  have nd := ok.nd
  have hf' : X.fn x = true ∨ c.sc.names.lookup x = some .local := hf.imp (fun h => ok.fn x h) id
  obtain ⟨exc, k, isdef, fnc, rfl⟩ := ok.eq
  refine ⟨tAsg tDNewK (gName i), ps_set nd hi hx pe_dnewK (hs X.env rfl) hf', fun F ma S H σ ds E cf h => ?_⟩
  intro p hp
  exact h ma S _ _ Ext.refl ((cf.grow (.dK []) hp).putOwn (s := .ownK [] []) rfl ⟨[], upd_same, .nil, rfl⟩ (cf.fre hp) i)
/-- {} as a shared object -/
def dmemV (t : Bool) : M D := fun s => .ok (.mut s.mem.length) { s with mem := s.mem ++ [if t = true then .dT [] [] else .dK [] []] }
theorem v_dmemT {dpos : Pos} : VE c (.Dict [] [] dpos) (dmemV true) := by
  refine ⟨fun X W ok => ?_⟩
  obtain ⟨exc, k, isdef, fnc, rfl⟩ := ok.eq
  refine ⟨tNNew (xkw X), pe_nnew, fun F ma S H σ ds Q cf h => ?_⟩
  intro p hp hm
  obtain ⟨c2, ex⟩ := (cf.grow (.ext (NTab X.w p [] [] [])) hp).memNew (o := .dT [] []) ⟨[], [], [], upd_same, tf0 hm, .nil, .nil⟩ (cf.fre hp)
  exact h (ma ++ [p]) S _ _ ex c2 (.mut (by rw [← cf.mlen]; simp))
theorem v_dmemK {dpos : Pos} : VE c (.Dict [] [] dpos) (dmemV false) := by
  refine ⟨fun X W ok => ?_⟩
  obtain ⟨exc, k, isdef, fnc, rfl⟩ := ok.eq
  refine ⟨tDNewK, pe_dnewK, fun F ma S H σ ds Q cf h => ?_⟩
  intro p hp
  obtain ⟨c2, ex⟩ := (cf.grow (.dK []) hp).memNew (o := .dK [] []) ⟨[], upd_same, .nil, rfl⟩ (cf.fre hp)
  exact h (ma ++ [p]) S _ _ ex c2 (.mut (by rw [← cf.mlen]; simp))
/-! ### walked -/
def kD : Key → D
  | .inl i => .int i
  | .inr x => .str x
def itemsX : D → Option (List D)
  | .dT ks _ => some ks
  | .dK ks _ => some (ks.map kD)
  | d => itemsD d
def itxM (f : M D) : M (List D) := bnd f fun d => opt (itemsX d)
theorem kD_rep {K : KW} {S : Hp} {ma : List Addr} (k : Key) : Rep K S ma (kD k) (kV k) := by
  cases k with
  | inl i => exact .int i
  | inr x => exact .str x
theorem itOk_tab {K : KW} {S : Hp} {ma : List Addr} {a : Addr} {o : Obj} {ks : List D} {nks : List NestedKey} {bs : List Addr} {vs : List V} (h : S a = some (.frz o (.ext (NTab K.w a nks bs vs)))) (t : TF ks a nks bs vs) (r : RepL K S ma ks (bs.map .ref)) : ItOk K S ma (Itn K.w a o nks bs vs) ks := by
  refine ⟨_, _, by rw [← t.bl]; exact walk_tab, fun S1 H s1 s2 => s2 _ _ (s1 _ _ h), fun i H x H' hi g y => ?_⟩
  obtain ⟨e, b, hb, rfl⟩ := y
  obtain ⟨d, h1, h2⟩ := r.get' (i := i) (v := .ref b) (by rw [List.getElem?_map, hb]; rfl)
  exact ⟨d, h1, .inl ⟨e, fun S1 ma1 e => h2.mono e⟩⟩
theorem itOk_key {K : KW} {S : Hp} {ma : List Addr} {a : Addr} {o : Obj} {ks : List Key} {vs : List V} (h : S a = some (.frz o (.dK (ks.zip vs)))) (hl : ks.length = vs.length) : ItOk K S ma (Itk a o (ks.zip vs)) (ks.map kD) := by
  refine ⟨_, _, by
    have := walk_keys (d := a) (o := o) (kvs := ks.zip vs)
    rw [List.length_zip, ← hl, Nat.min_self] at this
    rw [List.length_map]
    exact this, fun S1 H s1 s2 => s2 _ _ (s1 _ _ h), fun i H x H' hi g y => ?_⟩
  obtain ⟨e, k, v, hk, rfl⟩ := y
  rw [List.getElem?_zip_eq_some] at hk
  exact ⟨kD k, by rw [List.getElem?_map, hk.1]; rfl, .inl ⟨e, fun S1 ma1 e => kD_rep k⟩⟩
theorem i_any {tg e : Expr} {fe : M D} (he : VE c e fe) : VI c tg e (itxM fe) := by
  refine ⟨fun X W ok => ?_⟩
  obtain ⟨t, p, q⟩ := he.run X W ok
  obtain ⟨exc, k, isdef, fnc, rfl⟩ := ok.eq
  refine ⟨iAny (xkw X) t, pi_any p, fun F ma S H σ ds Q cf h => ?_⟩
  refine q F ma S H σ ds _ cf (Res.bind h fun d ds1 ma1 S1 H1 v x c1 r1 h1 => ?_)
  cases r1 with
  | lst h2 h3 => exact .inl (.inl ⟨_, rfl, ⟨_, .inl (.inl (c1.sub _ _ h2))⟩, h1 ma1 S1 H1 _ Ext.refl c1 (itOk_list (.inl (.inl h2)) h3)⟩)
  | frl h2 h3 => exact .inl (.inl ⟨_, rfl, ⟨_, c1.sub.seq h2⟩, h1 ma1 S1 H1 _ Ext.refl c1 (itOk_list h2 h3)⟩)
  | tup h2 h3 => exact .inl (.inr (.inl ⟨_, rfl, ⟨_, seqT c1.sub (tsq h2)⟩, h1 ma1 S1 H1 _ Ext.refl c1 (itOk_tup (tsq h2) h3)⟩))
  | ktp h2 h3 => exact .inl (.inr (.inl ⟨_, rfl, ⟨_, seqT c1.sub h2⟩, h1 ma1 S1 H1 _ Ext.refl c1 (itOk_tup h2 h3)⟩))
  | str z => exact .inl (.inr (.inr ⟨z, rfl, h1 ma1 S1 H1 _ Ext.refl c1 itOk_str⟩))
  | dK h2 hl h3 => exact .inr (.inl ⟨_, _, _, rfl, c1.sub _ _ h2, h1 ma1 S1 H1 _ Ext.refl c1 (itOk_key h2 hl)⟩)
  | dT h2 t h3 h4 => exact .inr (.inr ⟨_, _, _, _, _, rfl, t.sys, ⟨by rw [t.nl, t.bl], by rw [t.vl, t.bl]⟩, c1.sub _ _ h2, h1 ma1 S1 H1 _ Ext.refl c1 (itOk_tab h2 t h3)⟩)
  | _ => exact (show False from h1).elim
/-! ### sorted(d), list(d) -/
structure Keyd (X : Cx) (s : Shared) (d : Addr) (kvs : List V) : Prop where
  ex : (d == sysModules) = false ∧ ∃ (o : Obj) (es : Array DictEntry) (ep : Nat), s.heap.get? d = some o ∧ o.ExactDict ∧ o.data = .dict es ep ∧ es.size = kvs.length ∧ ∀ (i : Nat) (v : V), kvs[i]? = some v → ∃ en : DictEntry, es[i]? = some en ∧ RelV v en.key
theorem keyd_tab {X : Cx} {pins : List (Addr × Obj)} {σ : L2.St} {H : Hp} {s : Shared} {a : Addr} {ks : List D} {nks : List NestedKey} {bs : List Addr} {vs : List V} (I : Inv X pins σ H s) (h : Rd H a (.ext (NTab X.w a nks bs vs))) (t : TF ks a nks bs vs) : Keyd X s a (bs.map .ref) := by
  obtain ⟨⟨us, r, o, es, ep, z1, z2, z3, z4⟩, _⟩ := h.ok I.hok
  obtain ⟨q1, q2⟩ := entries_get z4 (by rw [t.nl, t.bl]) (by rw [← r.length, t.vl, t.bl])
  refine ⟨t.sys, o, es, ep, z1, z2, z3, by rw [q1, List.length_map], fun i v hv => ?_⟩
  rw [List.getElem?_map] at hv
  cases e : bs[i]? with
  | none => rw [e] at hv; cases hv
  | some b =>
    rw [e] at hv
    cases hv
    obtain ⟨en, h1, h2⟩ := q2 i b e
    exact ⟨en, h1, h2⟩
theorem keyd_key {X : Cx} {pins : List (Addr × Obj)} {σ : L2.St} {H : Hp} {s : Shared} {a : Addr} {o : Obj} {ks : List Key} {vs : List V} (I : Inv X pins σ H s) (h : H a = some (.frz o (.dK (ks.zip vs)))) (hl : ks.length = vs.length) : Keyd X s a (ks.map kV) := by
  obtain ⟨hs, hgd, hx, es, ep, ws, hdt, hsz, kv, hm⟩ := I.frzK h
  have hz : (ks.zip vs).length = ks.length := by rw [List.length_zip, ← hl, Nat.min_self]
  refine ⟨hs, o, es, ep, hgd, hx, hdt, by rw [hsz, hz, List.length_map], fun i v hv => ?_⟩
  obtain ⟨o', es', ep', z1, z2, z3, z4, z5⟩ := hm.dictOf
  rw [hgd] at z1
  cases z1
  obtain ⟨rfl, rfl⟩ := dict_ep hdt z3
  rw [List.getElem?_map] at hv
  cases e : ks[i]? with
  | none => rw [e] at hv; cases hv
  | some k =>
    rw [e] at hv
    cases hv
    have hi : i < vs.length := by have := (List.getElem?_eq_some_iff.mp e).1; omega
    have e2 : (ks.zip vs)[i]? = some (k, vs[i]) := by rw [List.getElem?_zip_eq_some]; exact ⟨e, List.getElem?_eq_getElem hi⟩
    obtain ⟨u, hu, _⟩ := kv_get kv e2
    have hie : i < es'.toList.length := by rw [Array.length_toList, hsz, hz]; have := (List.getElem?_eq_some_iff.mp e).1; omega
    have := z5.1.get? (e := es'.toList[i]) (List.getElem?_eq_getElem hie) hu
    exact ⟨_, by rw [← Array.getElem?_toList]; exact List.getElem?_eq_getElem hie, relV_key this.1⟩
theorem items_of {X : Cx} {s : Shared} {kvs : List V} {es : Array DictEntry} {acc : Array Value} (hs : es.size = kvs.length) (he : ∀ (i : Nat) (v : V), kvs[i]? = some v → ∃ en : DictEntry, es[i]? = some en ∧ RelV v en.key) (it : PySem.ItemsOf (fun i v => ∃ en : DictEntry, es[i]? = some en ∧ v = en.key) acc es.size) : Vals kvs acc.toList := by
  have hl : kvs.length = acc.toList.length := (hs.symm.trans it.1.symm).trans Array.length_toList.symm
  have : ∀ (kvs : List V) (us : List Value), kvs.length = us.length → (∀ (i : Nat) v u, kvs[i]? = some v → us[i]? = some u → RelV v u) → Vals kvs us := by
    intro kvs
    induction kvs with
    | nil => intro us h _; cases us with | nil => exact .nil | cons _ _ => simp at h
    | cons v r ih =>
      intro us h g
      cases us with
      | nil => simp at h
      | cons u us => exact .cons (g 0 v u rfl rfl) (ih us (by simpa using h) fun i v u e1 e2 => g (i + 1) v u (by simpa using e1) (by simpa using e2))
  refine this kvs acc.toList hl fun i v u e1 e2 => ?_
  obtain ⟨en, h1, h2⟩ := he i v e1
  obtain ⟨en', h3, rfl⟩ := it.2 i u (by rw [← Array.getElem?_toList]; exact e2)
  rw [h1] at h3
  cases h3
  exact h2
/-- sorted(d) -/
theorem sorted_keyd {X : Cx} {pins : List (Addr × Obj)} {σ : L2.St} {H S : Hp} {ma : List Addr} {s : Shared} {d : Addr} {kvs : List V} {ks : List D} {Q : VK} (hc : X.calm = true) (hu : X.A.units + 64 < cLine) (I : Inv X pins σ H s) (sm : Same S H) (kd : Keyd X s d kvs) (rk : RepL (xkw X) S ma ks kvs) (ho : sortable ks = true)
    (q : ∀ p us, H p = none → RepL (xkw X) S ma (sortD ks) us → Q (.ref p) (upd H p (.lst us))) : wpAny (model X.prog X.w) X.A (call (.builtin "sorted") [.ref d]) (EP X pins σ Q) X.xe s := by
  obtain ⟨lo, o, es, ep, hg, hx, hd, hsz, he⟩ := kd.ex
  unfold sortable at ho
  rw [Bool.and_eq_true, Bool.and_eq_true, Bool.and_eq_true] at ho
  obtain ⟨⟨⟨h1, h2⟩, h3⟩, h4⟩ := ho
  have h4 := of_decide_eq_true h4
  obtain ⟨p1, d1⟩ := dats_split h1
  have h16 : es.size ≤ sizeLine := by rw [hsz, ← rk.length, sizeLine_eq]; omega
  refine Calls.call_function_entry PyProof.Rows.kind_sorted PyProof.Rows.plain_sorted PyProof.Rows.entry_sorted (PyProof.Rows.args_sorted1 _) ?_
  unfold Builtin.«sorted»
  refine wpAny_bind (m := checkCount "sorted" 1 1 _) (wpAny_pure ?_)
  refine wpAny_bind (PySem.W.kdu_collect (A := X.A.in1) (kdl_raw (o := o) lo hx hd) (I.ok.hd hc) hg h16 fun h' tk acc hk it => ?_)
  have rv : Vals kvs acc.toList := items_of (X := X) (s := s) hsz he it
  have I1 : Inv X pins σ H { s with heap := h', toks := tk } := I.kept hk
  refine wpAny_bind (wpAny_newList ?_ (by rw [← rv.length, ← hsz]; exact h16))
  have hoL : (h'.push (seqObj "list" acc.toList.toArray 0)).get? h'.objs.size = some (seqObj "list" acc.toList.toArray 0) := Heap.get?_push_size _ rfl
  have em : ∀ d, d ∈ ks.map toP → ∃ b, b ∈ ks ∧ toP b = d := fun d hd => by obtain ⟨b, hb, e⟩ := List.mem_map.mp hd; exact ⟨b, hb, e⟩
  have er : PySem.W.EachIs (fun v b => ∃ as, Reads (h'.push (seqObj "list" acc.toList.toArray 0)) v (toP b) as ∧ h'.objs.size ∉ as) acc.toList ks := by
    have : ∀ {xs : List D} {vs : List V} {us : List Value}, RepL (xkw X) S ma xs vs → Vals vs us → PyData.plainAll (toPs xs) = true → PySem.W.EachIs (fun v b => ∃ as, Reads (h'.push (seqObj "list" acc.toList.toArray 0)) v (toP b) as ∧ h'.objs.size ∉ as) us xs := by
      intro xs
      induction xs with
      | nil => intro vs us r v _; cases r; cases v; exact .nil
      | cons x r ih =>
        intro vs us r v p
        rw [toPs, PyData.plainAll, Bool.and_eq_true] at p
        cases r with
        | cons r1 r2 =>
          cases v with
          | cons v1 v2 =>
            refine .cons ?_ (ih r2 v2 p.2)
            obtain ⟨as, g1⟩ := r1.reads I1 sm v1 p.1
            refine ⟨as, PySem.W.reads_keeps (fun b o e => Heap.get?_push_of_some _ e) g1, fun z => ?_⟩
            obtain ⟨o, e⟩ := PyProof.On.reads_mem_get g1 _ z
            exact absurd (Heap.lt_size e) (Nat.lt_irrefl _)
    exact this rk rv p1
  show wpAny _ _ _ _ _ { s with heap := h'.push (seqObj "list" acc.toList.toArray 0), toks := tk }
  refine wpAny_bind (wpAny_holding (PySem.W.list_sort_data (s := { s with heap := h'.push (seqObj "list" acc.toList.toArray 0), toks := tk }) (vs := acc.toList) (bs := ks) (enc := toP) hoL (each_of rk rv) er (fun d hd d' hd' => ?_) ?_ (by rw [sizeLine_eq]; omega) (fun b hb => ?_) fun out ol eo => ?_))
  · obtain ⟨b, hb, rfl⟩ := em d hd
    obtain ⟨b', hb', rfl⟩ := em d' hd'
    exact List.all_eq_true.mp (List.all_eq_true.mp h2 b hb) b' hb'
  · rcases Bool.or_eq_true_iff.mp h3 with h3 | h3
    · refine .inl fun d hd => ?_
      obtain ⟨b, hb, rfl⟩ := em d hd
      have := List.all_eq_true.mp h3 b hb
      cases b with
      | tup ys =>
        cases ys with
        | nil => cases this
        | cons y r => exact ⟨toP y, toPs r, by rw [toP, toPs]⟩
      | _ => cases this
    · refine .inr fun d hd => ?_
      obtain ⟨b, hb, rfl⟩ := em d hd
      have := List.all_eq_true.mp h3 b hb
      cases b with
      | non => cases this
      | tup _ => cases this
      | ktp _ => cases this
      | _ => exact ⟨fun z => by simp [toP] at z, fun _ z => by simp [toP] at z⟩
  · have : (toP b).depth ≤ 60 := Nat.le_trans (depth_mem (by rw [toPs_map]; exact List.mem_map.mpr ⟨b, hb, rfl⟩)) d1
    show X.A.units + 1 + 1 + _ < _
    omega
  · obtain ⟨vs', r1, r2⟩ := each_back eo
    obtain ⟨e', he'⟩ := PyProof.Rows.sortedHeap_at (vs := acc.toList) (out := out.toArray) hoL
    refine wpAny_pure ⟨_, rfl, .ref h'.objs.size, upd H h'.objs.size (.lst vs'), I1.laid (t' := tk) (fun b u e => ?_) (Nat.le_refl _) ⟨by rw [r2.length, ol, sizeLine_eq]; omega, out, e', r2, he'⟩, rfl, q _ _ (I1.hok.fresh (Nat.le_refl _)) r1⟩
    have hb : b < h'.objs.size := Heap.lt_size e
    rw [PyProof.Rows.sortedHeap_old (Nat.ne_of_lt hb) (by rw [size_push']; exact Nat.lt_succ_of_lt hb)]
    exact Heap.get?_push_of_some _ e
/-- list(d) -/
theorem list_keyd {X : Cx} {pins : List (Addr × Obj)} {σ : L2.St} {H : Hp} {s : Shared} {d : Addr} {kvs : List V} {Q : VK} (hc : X.calm = true) (I : Inv X pins σ H s) (kd : Keyd X s d kvs) (hl : kvs.length ≤ 1000000)
    (q : ∀ p, H p = none → Q (.ref p) (upd H p (.lst kvs))) : wpAny (model X.prog X.w) X.A (call (.type "list") [.ref d]) (EP X pins σ Q) X.xe s := by
  obtain ⟨lo, o, es, ep, hg, hx, hd, hsz, he⟩ := kd.ex
  have h16 : es.size ≤ sizeLine := by rw [hsz, sizeLine_eq]; omega
  refine PySem.W.kdl_call (kdl_raw (o := o) lo hx hd) (I.ok.hd hc) hg h16 fun h' tk acc c' hk e it => ?_
  have rv : Vals kvs acc.toList := items_of (X := X) (s := s) hsz he it
  exact ⟨.ref s.heap.objs.size, _, I.laid (t' := tk) (o := .lst kvs) hk (Nat.le_refl _) ⟨by rw [← hsz]; exact h16, acc.toList, c', rv, by rw [Array.toArray_toList]; exact e⟩, rfl, q _ (I.hok.fresh (Nat.le_refl _))⟩
def keysX : D → Option (List D)
  | .dT ks _ => some ks
  | .dK ks _ => some (ks.map kD)
  | _ => none
theorem keysX_rep {X : Cx} {pins : List (Addr × Obj)} {σ : L2.St} {H S : Hp} {ma : List Addr} {s : Shared} {d : D} {v : V} {ks : List D} (I : Inv X pins σ H s) (sm : Same S H) (r : Rep (xkw X) S ma d v) (h : keysX d = some ks) : ∃ a kvs, v = .ref a ∧ RepL (xkw X) S ma ks kvs ∧ Keyd X s a kvs := by
  cases r with
  | dT h2 t h3 h4 => cases h; exact ⟨_, _, rfl, h3, keyd_tab I (.inr ⟨_, sm _ _ h2⟩) t⟩
  | dK h2 hl h3 =>
    cases h
    refine ⟨_, _, rfl, ?_, keyd_key I (sm _ _ h2) hl⟩
    have : ∀ l : List Key, RepL (xkw X) S ma (l.map kD) (l.map kV) := fun l => by
      induction l with
      | nil => exact .nil
      | cons k r ih => exact .cons (kD_rep k) ih
    exact this _
  | _ => cases h
def rSortX (K : KW) : List V → Hp → VK → Prop := fun vs H Q => ∃ (v : V) (S : Hp) (ma : List Addr) (d : D) (ks : List D), vs = [v] ∧ Same S H ∧ Rep K S ma d v ∧ keysX d = some ks ∧ sortable ks = true ∧ ∀ p us, H p = none → RepL K S ma (sortD ks) us → Q (.ref p) (upd H p (.lst us))
theorem call_sortX {X : Cx} (hc : X.calm = true) (hu : X.A.units + 64 < cLine) : CallR X (.builtin "sorted") (rSortX (xkw X)) := by
  intro pins s σ H vs us Q I r h
  obtain ⟨v, S, ma, d, ks, rfl, sm, rd, hk, ho, q⟩ := h
  obtain ⟨a, kvs, rfl, rk, kd⟩ := keysX_rep I sm rd hk
  rw [Vals.ref1 r]
  exact sorted_keyd hc hu I sm kd rk ho q
def rListX (K : KW) : List V → Hp → VK → Prop := fun vs H Q => ∃ (v : V) (S : Hp) (ma : List Addr) (d : D) (ks : List D), vs = [v] ∧ Same S H ∧ Rep K S ma d v ∧ keysX d = some ks ∧ ks.length ≤ 1000000 ∧ ∀ p us, H p = none → RepL K S ma ks us → Q (.ref p) (upd H p (.lst us))
theorem call_listX {X : Cx} (hc : X.calm = true) : CallR X (.type "list") (rListX (xkw X)) := by
  intro pins s σ H vs us Q I r h
  obtain ⟨v, S, ma, d, ks, rfl, sm, rd, hk, ho, q⟩ := h
  obtain ⟨a, kvs, rfl, rk, kd⟩ := keysX_rep I sm rd hk
  rw [Vals.ref1 r]
  exact list_keyd hc I kd (by rw [← rk.length]; exact ho) fun p hp => q p kvs hp rk
def keysXs : List D → Option (List D)
  | [d] => keysX d
  | _ => none
def sortXM (l : List D) : M (List D) := match keysXs l with
  | some ks => opt (sortF ks)
  | none => sortM l
def listXM (l : List D) : M (List D) := match keysXs l with
  | some ks => if ks.length ≤ 1000000 then rtn ks else fun _ => .stuck
  | none => itemsF l
theorem keysXs_one {l : List D} {ks : List D} (h : keysXs l = some ks) : ∃ d, l = [d] ∧ keysX d = some ks := by
  unfold keysXs at h
  split at h
  · exact ⟨_, rfl, h⟩
  · cases h
theorem cal_sortedX (hc : c.calm = true) : CalF c (.builtin "sorted") sortXM := by
  intro X W ok
  have hu := room60 ok hc
  have hcx : X.calm = true := by obtain ⟨exc, k, isdef, fnc, rfl⟩ := ok.eq; exact hc
  obtain ⟨r0, p0, q0⟩ := cal_sorted hc X W ok
  refine ⟨_, p0.or (call_sortX hcx (by omega)), fun F ma S H σ ds xs vs Q cf r h => ?_⟩
  obtain ⟨exc, k, isdef, fnc, rfl⟩ := ok.eq
  unfold sortXM at h
  cases hk : keysXs xs with
  | some ks =>
    rw [hk] at h
    obtain ⟨d, rfl, hk⟩ := keysXs_one hk
    have h : Res _ W F (RpF (xkw X)) σ ma S (opt (if sortable ks = true then some (sortD ks) else none) ds) Q := h
    by_cases hz : sortable ks = true
    · rw [if_pos hz] at h
      cases r with
      | cons r1 r2 =>
        cases r2
        refine .inr ⟨_, S, ma, d, ks, rfl, cf.sub, r1, hk, hz, fun p us hp rr => ?_⟩
        exact h ma S _ _ Ext.refl (cf.grow (.lst us) hp) ⟨p, us, rfl, upd_same, cf.fre hp, rr⟩
    · rw [if_neg hz] at h; exact h.elim
  | none =>
    rw [hk] at h
    exact .inl (q0 F ma S H σ ds xs vs Q cf r h)
theorem cal_listX (hc : c.calm = true) : CalF c (.type "list") listXM := by
  intro X W ok
  have hcx : X.calm = true := by obtain ⟨exc, k, isdef, fnc, rfl⟩ := ok.eq; exact hc
  obtain ⟨r0, p0, q0⟩ := cal_list X W ok
  refine ⟨_, p0.or (call_listX hcx), fun F ma S H σ ds xs vs Q cf r h => ?_⟩
  obtain ⟨exc, k, isdef, fnc, rfl⟩ := ok.eq
  unfold listXM at h
  cases hk : keysXs xs with
  | some ks =>
    rw [hk] at h
    obtain ⟨d, rfl, hk⟩ := keysXs_one hk
    have h : Res _ W F (RpF (xkw X)) σ ma S ((if ks.length ≤ 1000000 then rtn ks else fun _ => .stuck) ds) Q := h
    by_cases hz : ks.length ≤ 1000000
    · rw [if_pos hz] at h
      cases r with
      | cons r1 r2 =>
        cases r2
        refine .inr ⟨_, S, ma, d, ks, rfl, cf.sub, r1, hk, hz, fun p us hp rr => ?_⟩
        exact h ma S _ _ Ext.refl (cf.grow (.lst us) hp) ⟨p, us, rfl, upd_same, cf.fre hp, rr⟩
    · rw [if_neg hz] at h; exact h.elim
  | none =>
    rw [hk] at h
    exact .inl (q0 F ma S H σ ds xs vs Q cf r h)
end
end Vl
namespace Vl
open PySem PySem.Spec PyProof.Rows L2
/-! ### len(set(xs)) -/
def ints0 : List D → Option (List Int)
  | [] => some []
  | .int i :: r => (ints0 r).map (i :: ·)
  | _ => none
def tupsD : List D → Option (List (List Int))
  | [] => some []
  | .tup ds :: r => (ints0 ds).bind fun k => (tupsD r).map (k :: ·)
  | .ktp ds :: r => (ints0 ds).bind fun k => (tupsD r).map (k :: ·)
  | _ => none
def lenSetL (xs : List D) : Option D := match ints0 xs with
  | some ns => if ns.length ≤ 4000 then some (.int (ns.eraseDups.length : Nat)) else none
  | none => match tupsD xs with
    | some ks => if ks.length < 64 then some (.int (ks.eraseDups.length : Nat)) else none
    | none => none
def lenSetD : D → Option D
  | .lst xs => lenSetL xs
  | .frl xs => lenSetL xs
  | _ => none
section
variable {α : Type} [BEq α] [LawfulBEq α]
theorem nodup_eraseDups : ∀ l : List α, l.eraseDups.Nodup := by
  suffices ∀ n (l : List α), l.length ≤ n → l.eraseDups.Nodup from fun l => this _ l (Nat.le_refl _)
  intro n
  induction n with
  | zero => intro l h; cases l with | nil => simp | cons _ _ => simp at h
  | succ n ih =>
    intro l h
    cases l with
    | nil => simp
    | cons x r =>
      rw [List.eraseDups_cons, List.nodup_cons]
      refine ⟨fun z => ?_, ih _ ?_⟩
      · rw [List.mem_eraseDups, List.mem_filter] at z
        simp at z
      · have := List.length_filter_le (fun b => !b == x) r
        simp at h
        omega
/-- as many unlike ones -/
theorem dist_len {l m : List α} (h : m.Nodup) (e : ∀ a, a ∈ m ↔ a ∈ l) : m.length = l.eraseDups.length :=
  ((List.perm_ext_iff_of_nodup h (nodup_eraseDups l)).mpr fun a => by rw [e, List.mem_eraseDups]).length_eq
theorem eraseDups_le (l : List α) : l.eraseDups.length ≤ l.length := (nodup_eraseDups l).length_le_of_subset fun a ha => List.mem_eraseDups.mp ha
theorem eraseDups_len_eq : ∀ {l : List α}, l.eraseDups.length = l.length ↔ l.Nodup
  | [] => by simp
  | x :: r => by
    constructor
    · intro h
      rw [List.eraseDups_cons, List.length_cons, List.length_cons] at h
      have h1 := eraseDups_le (r.filter fun b => !b == x)
      have h2 := List.length_filter_le (fun b => !b == x) r
      have h3 : (r.filter fun b => !b == x).length = r.length := by omega
      have h4 := List.length_filter_eq_length_iff.mp h3
      have h5 : (r.filter fun b => !b == x) = r := List.filter_eq_self.mpr h4
      rw [h5] at h
      rw [List.nodup_cons]
      refine ⟨fun z => ?_, eraseDups_len_eq.mp (by omega)⟩
      have := h4 x z
      simp at this
    · intro h
      exact (dist_len h fun a => Iff.rfl).symm
end
theorem step_nodup {K : Type} [BEq K] [LawfulBEq K] {σ : List K} (h : σ.Nodup) (k : K) : (step_dedup σ k).Nodup ∧ ∀ a, a ∈ step_dedup σ k ↔ a ∈ σ ∨ a = k := by
  unfold step_dedup
  by_cases c : (σ.any fun x => x == k) = true
  · rw [if_pos c]
    refine ⟨h, fun a => ⟨.inl, fun z => z.elim id fun z => ?_⟩⟩
    obtain ⟨x, hx, e⟩ := List.any_eq_true.mp c
    rw [z, ← beq_iff_eq.mp e]; exact hx
  · rw [if_neg c]
    refine ⟨?_, fun a => by simp⟩
    rw [List.nodup_append]
    refine ⟨h, by simp, fun x hx y hy z => c (List.any_eq_true.mpr ⟨x, hx, ?_⟩)⟩
    simp at hy
    subst hy
    rw [z]; simp
theorem firstMet_facts (val : Nat → Int) : ∀ n, (firstMet val n).Nodup ∧ ∀ a, a ∈ firstMet val n ↔ ∃ i, i < n ∧ val i = a
  | 0 => by unfold firstMet; simp
  | n + 1 => by
    have ih := firstMet_facts val n
    rw [firstMet_succ]
    obtain ⟨h1, h2⟩ := step_nodup ih.1 (val n)
    refine ⟨h1, fun a => ?_⟩
    rw [h2, ih.2]
    constructor
    · rintro (⟨i, hi, e⟩ | e)
      · exact ⟨i, by omega, e⟩
      · exact ⟨n, by omega, e.symm⟩
    · rintro ⟨i, hi, e⟩
      by_cases c : i = n
      · subst c; exact .inr e.symm
      · exact .inl ⟨i, by omega, e⟩
theorem firstMet_len (ns : List Int) : (firstMet (fun i => ns.getD i 0) ns.length).length = ns.eraseDups.length := by
  obtain ⟨h1, h2⟩ := firstMet_facts (fun i => ns.getD i 0) ns.length
  refine dist_len h1 fun a => ?_
  rw [h2]
  constructor
  · rintro ⟨i, hi, e⟩
    rw [List.getD_eq_getElem?_getD, List.getElem?_eq_getElem hi] at e
    rw [← e]; exact List.getElem_mem hi
  · intro h
    obtain ⟨i, hi, e⟩ := List.getElem_of_mem h
    exact ⟨i, hi, by rw [List.getD_eq_getElem?_getD, List.getElem?_eq_getElem hi]; exact e⟩
section
variable {K : KW} {S : Hp} {ma : List Addr}
theorem ints0_rep : ∀ {xs : List D} {vs : List V} {ns : List Int}, RepL K S ma xs vs → ints0 xs = some ns → vs = ns.map V.int
  | [], _, _, .nil, h => by cases h; rfl
  | .int i :: r, _, _, .cons a q, h => by
    rw [ints0] at h
    obtain ⟨l, e, rfl⟩ := Option.map_eq_some_iff.mp h
    cases a
    rw [List.map_cons, ints0_rep q e]
  | .non :: _, _, _, _, h => by cases h
  | .bl _ :: _, _, _, _, h => by cases h
  | .str _ :: _, _, _, _, h => by cases h
  | .lst _ :: _, _, _, _, h => by cases h
  | .frl _ :: _, _, _, _, h => by cases h
  | .tup _ :: _, _, _, _, h => by cases h
  | .ktp _ :: _, _, _, _, h => by cases h
  | .dK _ _ :: _, _, _, _, h => by cases h
  | .dT _ _ :: _, _, _, _, h => by cases h
  | .mut _ :: _, _, _, _, h => by cases h
theorem tupsD_rep {H : Hp} (sm : Same S H) : ∀ {xs : List D} {vs : List V} {ks : List (List Int)}, RepL K S ma xs vs → tupsD xs = some ks → ∃ ps : List (Addr × List Int), vs = ps.map (fun p => V.ref p.1) ∧ ps.map (·.2) = ks ∧ ∀ p ∈ ps, SqT K H p.1 (p.2.map V.int)
  | [], _, _, .nil, h => by cases h; exact ⟨[], rfl, rfl, fun p h => by cases h⟩
  | .tup ds :: r, _, _, .cons a q, h => by
    rw [tupsD] at h
    obtain ⟨k, e1, h⟩ := Option.bind_eq_some_iff.mp h
    obtain ⟨l, e2, rfl⟩ := Option.map_eq_some_iff.mp h
    cases a with
    | tup h1 h2 =>
      obtain ⟨ps, z1, z2, z3⟩ := tupsD_rep sm q e2
      have := ints0_rep h2 e1
      subst this
      refine ⟨(_, k) :: ps, by rw [z1]; rfl, by rw [List.map_cons, z2], fun p hp => ?_⟩
      rcases List.mem_cons.mp hp with rfl | hp
      · exact seqT sm (tsq h1)
      · exact z3 p hp
  | .ktp ds :: r, _, _, .cons a q, h => by
    rw [tupsD] at h
    obtain ⟨k, e1, h⟩ := Option.bind_eq_some_iff.mp h
    obtain ⟨l, e2, rfl⟩ := Option.map_eq_some_iff.mp h
    cases a with
    | ktp h1 h2 =>
      obtain ⟨ps, z1, z2, z3⟩ := tupsD_rep sm q e2
      have := ints0_rep h2 e1
      subst this
      refine ⟨(_, k) :: ps, by rw [z1]; rfl, by rw [List.map_cons, z2], fun p hp => ?_⟩
      rcases List.mem_cons.mp hp with rfl | hp
      · exact seqT sm h1
      · exact z3 p hp
  | .int _ :: _, _, _, _, h => by cases h
  | .non :: _, _, _, _, h => by cases h
  | .bl _ :: _, _, _, _, h => by cases h
  | .str _ :: _, _, _, _, h => by cases h
  | .lst _ :: _, _, _, _, h => by cases h
  | .frl _ :: _, _, _, _, h => by cases h
  | .dK _ _ :: _, _, _, _, h => by cases h
  | .dT _ _ :: _, _, _, _, h => by cases h
  | .mut _ :: _, _, _, _, h => by cases h
end
/-- what a set of a list of ints, of tuples of ints counts -/
def rLenSet (K : PySem.W.Frag) : V → Hp → VK → Prop := fun x H Q => (∃ (l : Addr) (ns : List Int), x = .ref l ∧ SqL K H l (ns.map V.int) ∧ ns.length ≤ 4000 ∧ Q (.int (ns.eraseDups.length : Nat)) H) ∨
  ∃ (l : Addr) (ps : List (Addr × List Int)), x = .ref l ∧ SqL K H l (ps.map fun p => V.ref p.1) ∧ (∀ p ∈ ps, SqT K H p.1 (p.2.map V.int)) ∧ ps.length < 64 ∧ Q (.int ((ps.map (·.2)).eraseDups.length : Nat)) H
theorem setR_fits {P : Program} {w : World} {h : Heap} {a : Addr} {L : List (Addr × List Int)} {es : Array (Int × Value)} {ep : Nat} {t : SetTable} (R : SetTR P w h a L es ep t) : es.size = L.length := by
  rw [← Array.length_toList, R.rows]
  unfold rowsOf
  simp
theorem pe_lenSetX {X : Cx} {a : Expr} {ta : TE} {p p2 q pos : Pos} (hc : X.calm = true) (hu : X.A.units + 64 < cLine) (hg : Gl X "len") (hm : X.mg "len" = none) (hg2 : Gl X "set") (hm2 : X.mg "set" = none) (ha : PE X a ta)
    (na : starEach [a] X.env = (false, eval a X.env) :: starEach [] X.env := by rfl) : PE X (.Call (.Name "len" p) [.Call (.Name "set" p2) [a] [] q] [] pos) (fun σ H Q => ta σ H fun x H1 => rLenSet X.K x H1 Q) := by
  refine ⟨fun pins s σ H Q I h => ?_⟩
  refine Call_ (ld_blt I hg hm PySem.boot_len ?_)
  refine PyProof.Rows.callWith_builtin1 (PyProof.Rows.args_cons ?_ rfl) rfl rfl
  refine Call_ (ld_blt I hg2 hm2 PyProof.Rows.boot_set ?_)
  refine PyProof.Rows.callWith_type1 (PyProof.Rows.args_cons (thn (ha.run pins s σ H _ I h) fun v s1 ⟨x, H1, I1, r1, q1⟩ => PyProof.Rows.args_nil ?_) na) na rfl
  rcases q1 with ⟨l, ns, rfl, hq, h1, q1⟩ | ⟨l, ks, rfl, hq, hk, hf, q1⟩
  · cases r1
    obtain ⟨its, r, pl, hz⟩ := I1.list hq
    have hl : its.toArray.size = ns.length := by rw [List.size_toArray, ← r.length, List.length_map]
    refine call_set_list (I1.ok.hd hc) pl.isList (ns := ns) (by simpa using r.ints) (by unfold scanBound; omega) fun h' tk hS hk => ?_
    rw [hl] at hS
    refine PyProof.Rows.args_nil ?_
    obtain ⟨o, es, ep, t, ho, hex, hd, _, _, _, hf, hn⟩ := hS
    rw [firstMet_len] at hn
    have I2 : Inv X pins σ H1 { s1 with heap := h', toks := tk } := I1.kept fun b o e => hk b o (Heap.lt_size e) e
    have hle := eraseDups_le ns
    exact call_len_set ho hex hd hf (by rw [hn]; omega) ⟨.int ns.eraseDups.length, H1, I2.tok _, ⟨_, by rw [hn]⟩, q1⟩
  · cases r1
    obtain ⟨its, rv, pl, hz⟩ := I1.list hq
    refine call_set_tups (P := X.prog) (w := X.w) ks (I1.ok.hd hc) pl.isList (by simpa using refs_of_vals rv) (fun p hp => I1.isT (hk p hp)) hf (by omega) fun h' tk L es ep t R g k => ?_
    refine PyProof.Rows.args_nil ?_
    obtain ⟨o, ho, hex, hd⟩ := R.ob
    have hs := setR_fits R
    have hlen : L.length = (ks.map (·.2)).eraseDups.length := by
      have := dist_len (l := ks.map (·.2)) (m := L.map (·.2)) R.nd fun a => ?_
      · simpa using this
      · constructor
        · intro h
          obtain ⟨p, hp, rfl⟩ := List.mem_map.mp h
          exact List.mem_map.mpr ⟨p, List.mem_of_mem_take (g.sub p hp), rfl⟩
        · intro h
          obtain ⟨p, hp, rfl⟩ := List.mem_map.mp h
          exact g.all p (by rw [List.take_length]; exact hp)
    have I2 : Inv X pins σ H1 { s1 with heap := h', toks := tk } := I1.kept k
    have := R.few
    exact call_len_set ho hex hd (SetTR.fits (s := { s1 with heap := h' }) R) (by rw [hs]; omega) ⟨.int L.length, H1, I2.tok _, ⟨_, by rw [hs]⟩, by rw [hlen]; exact q1⟩
section
variable {c : SC} {p p2 q pos : Pos} {a : Expr} {fa : M D}
theorem v_lenSet (hc : c.calm = true) (ha : VO c a fa) (hg : Glo c.sc "len") (hm : c.B.mg "len" = none) (hg2 : Glo c.sc "set") (hm2 : c.B.mg "set" = none) (hs : ∀ env : Env, starEach [a] env = [(false, eval a env)] := by intro _; rfl) : VE c (.Call (.Name "len" p) [.Call (.Name "set" p2) [a] [] q] [] pos) (lookM1 lenSetD fa) := by
  refine ⟨fun X W ok => ?_⟩
  obtain ⟨ta, pa, qa⟩ := ha.run X W ok
  have hu := room60 ok hc
  obtain ⟨exc, k, isdef, fnc, rfl⟩ := ok.eq
  refine ⟨_, pe_lenSetX hc (by omega) hg hm hg2 hm2 pa (hs X.env), fun F ma S H σ ds Q cf h => ?_⟩
  refine qa F ma S H σ ds _ cf (Res.bind h fun d ds1 ma1 S1 H1 v e1 c1 r1 h1 => ?_)
  have go : ∀ (xs : List D) (l : Addr) (vs : List V), SqL X.K H1 l vs → RepL (xkw X) S1 ma1 xs vs → Res _ W F (RpV (xkw X)) σ ma1 S1 (opt (lenSetL xs) ds1) Q → rLenSet X.K (.ref l) H1 Q := fun xs l vs hl rl h => by
    unfold lenSetL at h
    cases e : ints0 xs with
    | some ns =>
      rw [e] at h
      have h : Res _ W F (RpV (xkw X)) σ ma1 S1 (opt (if ns.length ≤ 4000 then some (D.int (ns.eraseDups.length : Nat)) else none) ds1) Q := h
      split at h
      · rename_i hz
        have := ints0_rep rl e
        subst this
        exact .inl ⟨l, ns, rfl, hl, hz, h ma1 S1 H1 _ Ext.refl c1 (.int _)⟩
      · exact h.elim
    | none =>
      rw [e] at h
      cases e2 : tupsD xs with
      | none => rw [e2] at h; exact h.elim
      | some ks =>
        rw [e2] at h
        have h : Res _ W F (RpV (xkw X)) σ ma1 S1 (opt (if ks.length < 64 then some (D.int (ks.eraseDups.length : Nat)) else none) ds1) Q := h
        split at h
        · rename_i hz
          obtain ⟨ps, z1, z2, z3⟩ := tupsD_rep c1.sub rl e2
          subst z1
          refine .inr ⟨l, ps, rfl, hl, z3, by rw [← z2, List.length_map] at hz; exact hz, ?_⟩
          rw [z2]
          exact h ma1 S1 H1 _ Ext.refl c1 (.int _)
        · exact h.elim
  have h1 : Res _ W F (RpV (xkw X)) σ ma1 S1 (opt (lenSetD d) ds1) Q := h1
  unfold lenSetD at h1
  split at h1
  · obtain ⟨l, vs, rfl, hl, rl⟩ := r1.seqL c1
    exact go _ l vs hl rl h1
  · obtain ⟨l, vs, rfl, hl, rl⟩ := r1.seqF c1
    exact go _ l vs hl rl h1
  · exact h1.elim
end
end Vl
namespace Vl
open PySem PySem.Spec PyProof.Rows L2
/-! ### xs.index(y): whole numbers -/
/-- the place of the first one that is v -/
def idxN (v : Int) : List Int → Option Nat
  | [] => none
  | x :: r => if x = v then some 0 else (idxN v r).map (· + 1)
theorem idxN_some {v : Int} : ∀ {l : List Int} {j : Nat}, idxN v l = some j → l[j]? = some v ∧ ∀ m z, m < j → l[m]? = some z → z ≠ v
  | [], _, h => by cases h
  | x :: r, j, h => by
    rw [idxN] at h
    split at h
    · rename_i e
      cases h
      exact ⟨by rw [e]; rfl, fun m z hm _ => by omega⟩
    · rename_i e
      obtain ⟨k, hk, rfl⟩ := Option.map_eq_some_iff.mp h
      obtain ⟨h1, h2⟩ := idxN_some hk
      refine ⟨by simpa using h1, fun m z hm hz => ?_⟩
      cases m with
      | zero => simp at hz; subst hz; exact e
      | succ m => exact h2 m z (by omega) (by simpa using hz)
theorem idxN_mem {v : Int} : ∀ {l : List Int}, v ∈ l → ∃ j, idxN v l = some j
  | x :: r, h => by
    rw [idxN]
    split
    · exact ⟨0, rfl⟩
    · rename_i e
      rcases List.mem_cons.mp h with rfl | h
      · exact absurd rfl e
      · obtain ⟨j, hj⟩ := idxN_mem h
        exact ⟨j + 1, by rw [hj]; rfl⟩
def idxD : D → D → Option D
  | .lst xs, .int v => (ints0 xs).bind fun ns => (idxN v ns).map fun j => D.int (j : Nat)
  | _, _ => none
def isLst : D → Bool
  | .lst _ => true
  | _ => false
def idxM (fa fb : M D) : M D := bnd fa fun x s => if isLst x = true then (bnd fb fun y => opt (idxD x y)) s else .stuck
section
variable {c : SC} {a e : Expr} {fa fe : M D} {apos pos : Pos}
theorem v_index (hb : VE c a fa) (hy : VE c e fe)
    (hbase : ∀ env : Env, attributeBase a "index" env (eval a env) = eval a env := by intro _; rfl)
    (hfew : ∀ env : Env, ((backTo pos (starEach [e] env)).all (fun x => !x.1) && (backToKw pos (keywordEach [] env)).all (fun x => x.1.isSome)
      && decide (([e] : List Expr).length + ([] : List Keyword).length + (if ([] : List Keyword).isEmpty then 0 else 1) < 30)) = true := by intro _; rfl)
    (hline : (apos.endLine == pos.line) = true := by rfl) (hs : ∀ env : Env, starEach [e] env = (false, eval e env) :: starEach [] env := by intro _; rfl) (hplain : ∀ env : Env, (backTo pos (starEach [] env)).any (·.1) = false := by intro _; rfl) :
    VE c (.Call (.Attribute a "index" apos) [e] [] pos) (idxM fa fe) := by
  refine ⟨fun X W ok => ?_⟩
  obtain ⟨tb, pb, qb⟩ := hb.run X W ok
  obtain ⟨ty, py, qy⟩ := hy.run X W ok
  obtain ⟨exc, k, isdef, fnc, rfl⟩ := ok.eq
  refine ⟨_, pe_bm PySem.F.plainAttrs_list PySem.F.slot_list_index PySem.F.type_list_index mt_index pb (pa_cons py pa_nil (hs := hs X.env)) (hbase X.env) (hfew X.env) hline (hs X.env) (hplain X.env), fun F ma S H σ ds Q cf h => ?_⟩
  refine qb F ma S H σ ds _ cf (Res.bind h fun d ds1 ma1 S1 H1 v e1 c1 r1 h1 => ?_)
  have h1 : Res _ W F (RpV (xkw X)) σ ma1 S1 (if isLst d = true then (bnd fe fun y => opt (idxD d y)) ds1 else .stuck) Q := h1
  by_cases hq : isLst d = true
  · rw [if_pos hq] at h1
    cases d with
    | lst xs =>
      cases r1 with
      | lst hs1 rl =>
        rename_i l vs
        refine ⟨.inl ⟨rfl, vs, .inl (.inl (c1.sub _ _ hs1))⟩, ?_⟩
        refine qy F ma1 S1 H1 _ ds1 _ c1 (Res.bind h1 fun y ds2 ma2 S2 H2 u e2 c2 r2 h2 => ?_)
        have h2 : Res _ W F (RpV (xkw X)) _ ma2 S2 (opt (idxD (.lst xs) y) ds2) Q := h2
        cases eg : idxD (.lst xs) y with
        | none => rw [eg] at h2; exact h2.elim
        | some d =>
          rw [eg] at h2
          cases y with
          | int w =>
            obtain ⟨ns, z1, z⟩ := Option.bind_eq_some_iff.mp eg
            obtain ⟨j, z2, rfl⟩ := Option.map_eq_some_iff.mp z
            have hv := ints0_rep rl z1
            subst hv
            obtain ⟨k1, k2⟩ := idxN_some z2
            cases r2
            refine ⟨l, ns.map V.int, .int w, j, .int w, rfl, rfl, .inl (.inl (c2.sub _ _ (e2.same _ _ hs1))), rfl, ?_, ?_, ?_, ?_, ?_⟩
            · rw [List.all_eq_true]
              intro x hx
              obtain ⟨i, _, rfl⟩ := List.mem_map.mp hx
              rfl
            · rw [List.getElem?_map, k1]; rfl
            · show (w == w) = true
              simp
            · intro m z' hm hz
              rw [List.getElem?_map] at hz
              obtain ⟨i, hi, rfl⟩ := Option.map_eq_some_iff.mp hz
              have := k2 m i hm hi
              show (i == w) = false
              simpa using this
            · exact h2 ma2 S2 H2 _ Ext.refl c2 (.int _)
          | _ => cases eg
    | _ => cases hq
  · rw [if_neg hq] at h1; exact h1.elim
end
end Vl
namespace Vl
open PySem PySem.Spec PyProof.Rows L2
/-! ### is False, is not False -/
def isBV : D → D → Option D
  | .bl a, .bl b => some (.bl (a == b))
  | .int _, .bl _ => some (.bl false)
  | a, b => isNV a b
def notBV : D → D → Option D
  | .bl a, .bl b => some (.bl (!(a == b)))
  | .int _, .bl _ => some (.bl true)
  | a, b => notNV a b
def rIsX (n : Bool) : R2 := fun x y H Q => (∃ a b : Bool, x = .bl a ∧ y = .bl b ∧ Q (.bl ((a == b) != n)) H) ∨ (∃ (a : Int) (b : Bool), x = .int a ∧ y = .bl b ∧ Q (.bl n) H) ∨ (y = .non ∧ Q (.bl (decide (x = .non) != n)) H)
theorem op_isX {X : Cx} : OpR X (compareOp .Is) (rIsX false) := by
  intro pins s σ H x y v u Q I rx ry h
  rcases h with ⟨a, b, rfl, rfl, q⟩ | ⟨a, b, rfl, rfl, q⟩ | ⟨rfl, q⟩
  · refine op_isBl pins s σ H _ _ v u Q I rx ry ⟨a, b, rfl, rfl, ?_⟩
    have e : decide (a = b) = ((a == b) != false) := by cases a <;> cases b <;> rfl
    rw [e]; exact q
  · obtain ⟨t, rfl⟩ := (show ∃ t, v = Value.int a t from rx)
    cases (show u = Value.bool b from ry)
    exact wpAny_is_plain rfl ⟨.bl false, H, I, rfl, q⟩
  · refine op_isN pins s σ H _ _ v u Q I rx ry ⟨rfl, ?_⟩
    simpa using q
theorem op_notX {X : Cx} : OpR X (compareOp .IsNot) (rIsX true) := by
  intro pins s σ H x y v u Q I rx ry h
  rcases h with ⟨a, b, rfl, rfl, q⟩ | ⟨a, b, rfl, rfl, q⟩ | ⟨rfl, q⟩
  · refine op_notBl pins s σ H _ _ v u Q I rx ry ⟨a, b, rfl, rfl, ?_⟩
    have e : (!decide (a = b)) = ((a == b) != true) := by cases a <;> cases b <;> rfl
    rw [e]; exact q
  · obtain ⟨t, rfl⟩ := (show ∃ t, v = Value.int a t from rx)
    cases (show u = Value.bool b from ry)
    exact wpAny_isNot_plain rfl ⟨.bl true, H, I, rfl, q⟩
  · refine op_notN pins s σ H _ _ v u Q I rx ry ⟨rfl, ?_⟩
    simpa using q
section
variable {c : SC}
theorem o_isX : OpV c (compareOp .Is) isBV := by
  intro X W ok
  refine ⟨_, op_isX, fun F ma S H σ ds a b x y Q cf ra rb hr => ?_⟩
  have non : Res c.B W F (RpV c.B.kw) σ ma S (opt (isNV a b) ds) Q → rIsX false x y H Q := fun hr => by
    have hr : Res c.B W F (RpV c.B.kw) σ ma S (opt (if isNon b = true then some (D.bl (isNon a)) else none) ds) Q := hr
    cases rb with
    | non => exact .inr (.inr ⟨rfl, by rw [rep_non ra]; have := hr ma S H _ Ext.refl cf (.bl _); simpa using this⟩)
    | _ => exact hr.elim
  cases ra with
  | bl p =>
    cases rb with
    | bl q =>
      refine .inl ⟨p, q, rfl, rfl, ?_⟩
      have := (show Res c.B W F (RpV c.B.kw) σ ma S (opt (some (D.bl (p == q))) ds) Q from hr) ma S H _ Ext.refl cf (.bl _)
      simpa using this
    | _ => exact non hr
  | int p =>
    cases rb with
    | bl q => exact .inr (.inl ⟨p, q, rfl, rfl, (show Res c.B W F (RpV c.B.kw) σ ma S (opt (some (D.bl false)) ds) Q from hr) ma S H _ Ext.refl cf (.bl _)⟩)
    | _ => exact non hr
  | _ => exact non hr
theorem o_notX : OpV c (compareOp .IsNot) notBV := by
  intro X W ok
  refine ⟨_, op_notX, fun F ma S H σ ds a b x y Q cf ra rb hr => ?_⟩
  have non : Res c.B W F (RpV c.B.kw) σ ma S (opt (notNV a b) ds) Q → rIsX true x y H Q := fun hr => by
    have hr : Res c.B W F (RpV c.B.kw) σ ma S (opt (if isNon b = true then some (D.bl (!isNon a)) else none) ds) Q := hr
    cases rb with
    | non => exact .inr (.inr ⟨rfl, by rw [rep_non ra]; have := hr ma S H _ Ext.refl cf (.bl _); simpa using this⟩)
    | _ => exact hr.elim
  cases ra with
  | bl p =>
    cases rb with
    | bl q =>
      refine .inl ⟨p, q, rfl, rfl, ?_⟩
      have := (show Res c.B W F (RpV c.B.kw) σ ma S (opt (some (D.bl (!(p == q)))) ds) Q from hr) ma S H _ Ext.refl cf (.bl _)
      simpa using this
    | _ => exact non hr
  | int p =>
    cases rb with
    | bl q => exact .inr (.inl ⟨p, q, rfl, rfl, (show Res c.B W F (RpV c.B.kw) σ ma S (opt (some (D.bl true)) ds) Q from hr) ma S H _ Ext.refl cf (.bl _)⟩)
    | _ => exact non hr
  | _ => exact non hr
end
end Vl
namespace Vl
open PySem PySem.Spec PyProof.Rows L2

/-! ### reckoning with meanings -/
/-- f from s ends well, in Q, or by an error, in E -/
def ru {α : Type} (E : String → DS → Prop) (f : M α) (s : DS) (Q : α → DS → Prop) : Prop := match f s with
  | .ok a s' => Q a s'
  | .err c s' => E c s'
  | .stuck => False
/-- no error -/
abbrev NE : String → DS → Prop := fun _ _ => False
section
variable {α β : Type} {s : DS} {env : List Slot} {mem : List MO} {E : String → DS → Prop}
theorem ru_eq {f : M α} {Q : α → DS → Prop} {a : α} {s' : DS} (h : f s = .ok a s') (q : Q a s') : ru E f s Q := by unfold ru; rw [h]; exact q
theorem ru_err {f : M α} {Q : α → DS → Prop} {c : String} {s' : DS} (h : f s = .err c s') (q : E c s') : ru E f s Q := by unfold ru; rw [h]; exact q
theorem ru_get {f : M α} {Q : α → DS → Prop} (h : ru NE f s Q) : ∃ a s', f s = .ok a s' ∧ Q a s' := by
  unfold ru at h
  cases e : f s with
  | ok a s' => rw [e] at h; exact ⟨a, s', rfl, h⟩
  | err c s' => rw [e] at h; exact h.elim
  | stuck => rw [e] at h; exact h.elim
theorem ru_cases {f : M α} {Q : α → DS → Prop} (h : ru E f s Q) : (∃ a s', f s = .ok a s' ∧ Q a s') ∨ ∃ c s', f s = .err c s' ∧ E c s' := by
  unfold ru at h
  cases e : f s with
  | ok a s' => rw [e] at h; exact .inl ⟨a, s', rfl, h⟩
  | err c s' => rw [e] at h; exact .inr ⟨c, s', rfl, h⟩
  | stuck => rw [e] at h; exact h.elim
theorem ru_mono {f : M α} {Q Q' : α → DS → Prop} (h : ru E f s Q) (k : ∀ a s', Q a s' → Q' a s') : ru E f s Q' := by
  rcases ru_cases h with ⟨a, s', e, q⟩ | ⟨c, s', e, q⟩
  · exact ru_eq e (k a s' q)
  · exact ru_err e q
theorem ru_monoE {f : M α} {E' : String → DS → Prop} {Q Q' : α → DS → Prop} (h : ru E f s Q) (k : ∀ a s', Q a s' → Q' a s') (k' : ∀ a s', E a s' → E' a s') : ru E' f s Q' := by
  rcases ru_cases h with ⟨a, s', e, q⟩ | ⟨c, s', e, q⟩
  · exact ru_eq e (k a s' q)
  · exact ru_err e (k' c s' q)
@[simp] theorem ru_bnd {f : M α} {g : α → M β} {Q : β → DS → Prop} : ru E (bnd f g) s Q ↔ ru E f s fun a s' => ru E (g a) s' Q := by
  unfold ru bnd
  cases f s <;> rfl
@[simp] theorem ru_rtn {a : α} {Q : α → DS → Prop} : ru E (rtn a) s Q ↔ Q a s := Iff.rfl
@[simp] theorem ru_opt_some {a : α} {Q : α → DS → Prop} : ru E (opt (some a)) s Q ↔ Q a s := Iff.rfl
@[simp] theorem ru_opt_none {Q : α → DS → Prop} : ru E (opt (none : Option α)) s Q ↔ False := Iff.rfl
theorem ru_opt {o : Option α} {Q : α → DS → Prop} {a : α} (h : o = some a) : ru E (opt o) s Q ↔ Q a s := by subst h; rfl
@[simp] theorem ru_stuck {Q : α → DS → Prop} : ru E (fun _ => R.stuck) s Q ↔ False := Iff.rfl
/-- a name's value by the slot -/
def slotV (env : List Slot) (i : Nat) (Q : D → List Slot → Prop) : Prop := match env[i]? with
  | some (.val d) => Q d env
  | some .un => False
  | some sl => Q sl.shut (env.set i (.val sl.shut))
  | none => False
@[simp] theorem ru_var {i : Nat} {Q : D → DS → Prop} : ru E (varM i) ⟨env, mem⟩ Q ↔ slotV env i fun d e => Q d ⟨e, mem⟩ := by
  unfold ru varM slotV
  dsimp only
  cases h : env[i]? with
  | none => exact Iff.rfl
  | some sl => cases sl <;> exact Iff.rfl
@[simp] theorem slotV_val0 {d : D} {r : List Slot} {Q : D → List Slot → Prop} : slotV (.val d :: r) 0 Q ↔ Q d (.val d :: r) := Iff.rfl
@[simp] theorem slotV_own0 {d : List D} {r : List Slot} {Q : D → List Slot → Prop} : slotV (.own d :: r) 0 Q ↔ Q (.lst d) (.val (.lst d) :: r) := Iff.rfl
@[simp] theorem slotV_succ {x : Slot} {r : List Slot} {i : Nat} {Q : D → List Slot → Prop} : slotV (x :: r) (i + 1) Q ↔ slotV r i fun d e => Q d (x :: e) := by
  unfold slotV
  simp only [List.getElem?_cons_succ, List.set_cons_succ]
@[simp] theorem ru_binM {g : D → D → Option D} {fa fb : M D} {Q : D → DS → Prop} : ru E (binM g fa fb) s Q ↔ ru E fa s fun x s1 => ru E fb s1 fun y s2 => ru E (opt (g x y)) s2 Q := by
  unfold binM; simp only [ru_bnd]
@[simp] theorem ru_unM {g : D → Option D} {fa : M D} {Q : D → DS → Prop} : ru E (unM g fa) s Q ↔ ru E fa s fun x s1 => ru E (opt (g x)) s1 Q := by
  unfold unM; simp only [ru_bnd]
@[simp] theorem ru_tst {f : M D} {Q : Bool → DS → Prop} : ru E (tstM f) s Q ↔ ru E f s fun d s1 => ru E (opt (asB d)) s1 Q := by unfold tstM; simp only [ru_bnd]
@[simp] theorem ru_tru {f : M D} {Q : Bool → DS → Prop} : ru E (truM f) s Q ↔ ru E f s fun d s1 => ru E (opt (truD d)) s1 Q := by unfold truM; simp only [ru_bnd]
@[simp] theorem ru_ite {c : Prop} [Decidable c] {f g : M α} {Q : α → DS → Prop} : ru E (if c then f else g) s Q ↔ if c then ru E f s Q else ru E g s Q := by split <;> rfl
@[simp] theorem ru_and {f g : M Bool} {Q : Bool → DS → Prop} : ru E (andM f g) s Q ↔ ru E f s fun k s1 => if k = true then ru E g s1 Q else Q false s1 := by unfold andM; simp
@[simp] theorem ru_or {f g : M Bool} {Q : Bool → DS → Prop} : ru E (orM f g) s Q ↔ ru E f s fun k s1 => if k = true then Q true s1 else ru E g s1 Q := by unfold orM; simp
@[simp] theorem ru_not {f : M Bool} {Q : Bool → DS → Prop} : ru E (notM f) s Q ↔ ru E f s fun k s1 => Q (!k) s1 := by unfold notM; simp
@[simp] theorem ru_andV {f g : M D} {Q : D → DS → Prop} : ru E (andV f g) s Q ↔ ru E f s fun d s1 => ru E (opt (asB d)) s1 fun k s2 => if k = true then ru E g s2 Q else Q (.bl false) s2 := by unfold andV; simp
@[simp] theorem ru_orV {f g : M D} {Q : D → DS → Prop} : ru E (orV f g) s Q ↔ ru E f s fun d s1 => ru E (opt (asB d)) s1 fun k s2 => if k = true then Q (.bl true) s2 else ru E g s2 Q := by unfold orV; simp
@[simp] theorem ru_notV {f : M D} {Q : D → DS → Prop} : ru E (notV f) s Q ↔ ru E f s fun d s1 => ru E (opt (asB d)) s1 fun k s2 => Q (.bl (!k)) s2 := by unfold notV; simp
@[simp] theorem ru_iteM {t : M Bool} {f g : M α} {Q : α → DS → Prop} : ru E (iteM t f g) s Q ↔ ru E t s fun k s1 => if k = true then ru E f s1 Q else ru E g s1 Q := by unfold iteM; simp
@[simp] theorem ru_cons {f : M D} {g : M (List D)} {Q : List D → DS → Prop} : ru E (consM f g) s Q ↔ ru E f s fun d s1 => ru E g s1 fun ds s2 => Q (d :: ds) s2 := by unfold consM; simp
@[simp] theorem ru_tup {f : M (List D)} {Q : D → DS → Prop} : ru E (tupM f) s Q ↔ ru E f s fun ds s1 => ds.length ≤ 1000 ∧ Q (.tup ds) s1 := by unfold tupM; simp
@[simp] theorem ru_lst {f : M (List D)} {Q : List D → DS → Prop} : ru E (lstM f) s Q ↔ ru E f s fun ds s1 => ds.length ≤ 1000 ∧ Q ds s1 := by unfold lstM; simp
@[simp] theorem ru_shut {f : M (List D)} {Q : D → DS → Prop} : ru E (shutM f) s Q ↔ ru E f s fun ds s1 => Q (.lst ds) s1 := by unfold shutM; simp
@[simp] theorem ru_set {i : Nat} {d : D} {Q : Unit → DS → Prop} : ru E (setM i d) s Q ↔ Q () ⟨s.env.set i (.val d), s.mem⟩ := Iff.rfl
@[simp] theorem ru_sets {f : D → M Unit} {g : List D → M Unit} {d : D} {ds : List D} {Q : Unit → DS → Prop} : ru E (setsM f g (d :: ds)) s Q ↔ ru E (f d) s fun _ s1 => ru E (g ds) s1 Q := by unfold setsM; simp
@[simp] theorem ru_sets0 {f : D → M Unit} {g : List D → M Unit} {Q : Unit → DS → Prop} : ru E (setsM f g []) s Q ↔ False := Iff.rfl
@[simp] theorem ru_end0 {Q : Unit → DS → Prop} : ru E (endM []) s Q ↔ Q () s := Iff.rfl
@[simp] theorem ru_end1 {d : D} {ds : List D} {Q : Unit → DS → Prop} : ru E (endM (d :: ds)) s Q ↔ False := Iff.rfl
@[simp] theorem ru_untupK {n : Nat} {f : List D → M Unit} {ds : List D} {Q : Unit → DS → Prop} : ru E (untupM n f (.ktp ds)) s Q ↔ ds.length = n ∧ ru E (f ds) s Q := by unfold untupM; simp
@[simp] theorem ru_untup {n : Nat} {f : List D → M Unit} {ds : List D} {Q : Unit → DS → Prop} : ru E (untupM n f (.tup ds)) s Q ↔ ds.length = n ∧ ru E (f ds) s Q := by unfold untupM; simp
@[simp] theorem ru_seq {f g : M Out} {Q : Out → DS → Prop} : ru E (seqM f g) s Q ↔ ru E f s fun o s1 => match o with
    | .nx => ru E g s1 Q
    | .bk => Q .bk s1
    | .ct => Q .ct s1
    | .rt d => Q (.rt d) s1 := by
  unfold seqM
  rw [ru_bnd]
  constructor
  · intro h; exact ru_mono h fun o s' q => by cases o <;> exact q
  · intro h; exact ru_mono h fun o s' q => by cases o <;> exact q
@[simp] theorem ru_ret {f : M D} {Q : Out → DS → Prop} : ru E (retM f) s Q ↔ ru E f s fun d s1 => Q (.rt d) s1 := by unfold retM; simp
@[simp] theorem ru_drop {f : M D} {Q : Out → DS → Prop} : ru E (dropM f) s Q ↔ ru E f s fun _ s1 => Q .nx s1 := by unfold dropM; simp
@[simp] theorem ru_if {t : M Bool} {f g : M Out} {Q : Out → DS → Prop} : ru E (ifM t f g) s Q ↔ ru E t s fun k s1 => if k = true then ru E f s1 Q else ru E g s1 Q := by unfold ifM; simp
@[simp] theorem ru_asg {f : M D} {g : D → M Unit} {Q : Out → DS → Prop} : ru E (asgM f g) s Q ↔ ru E f s fun d s1 => ru E (g d) s1 fun _ s2 => Q .nx s2 := by unfold asgM; simp
@[simp] theorem ru_own {i : Nat} {f : M (List D)} {Q : Out → DS → Prop} : ru E (ownM i f) s Q ↔ ru E f s fun ds s1 => Q .nx ⟨s1.env.set i (.own ds), s1.mem⟩ := by
  unfold ownM; rw [ru_bnd]; exact Iff.rfl
@[simp] theorem ru_mem {i : Nat} {f : M (List D)} {Q : Out → DS → Prop} : ru E (memM i f) s Q ↔ ru E f s fun ds s1 => Q .nx ⟨s1.env.set i (.val (.mut s1.mem.length)), s1.mem ++ [.lst ds]⟩ := by
  unfold memM; rw [ru_bnd]; exact Iff.rfl
@[simp] theorem ru_par {i j : Nat} {f : M (List D)} {Q : Out → DS → Prop} : ru E (parM i j f) s Q ↔ ru E f s fun ds s1 => ∃ a b, ds = [a, b] ∧ Q .nx ⟨(s1.env.set i (.val a)).set j (.val b), s1.mem⟩ := by
  unfold parM
  rw [ru_bnd]
  constructor
  · intro h
    refine ru_mono h fun ds s1 q => ?_
    split at q
    · exact ⟨_, _, rfl, by simpa using q⟩
    · exact q.elim
  · intro h
    refine ru_mono h fun ds s1 ⟨a, b, e, q⟩ => ?_
    subst e
    simpa using q
/-- a slot's plain value -/
def slotA (env : List Slot) (i : Nat) (Q : D → Prop) : Prop := match env[i]? with
  | some (.val d) => Q d
  | _ => False
@[simp] theorem slotA_val0 {d : D} {r : List Slot} {Q : D → Prop} : slotA (.val d :: r) 0 Q ↔ Q d := Iff.rfl
@[simp] theorem slotA_succ {x : Slot} {r : List Slot} {i : Nat} {Q : D → Prop} : slotA (x :: r) (i + 1) Q ↔ slotA r i Q := by unfold slotA; simp only [List.getElem?_cons_succ]
@[simp] theorem ru_aug {g : D → D → Option D} {i : Nat} {f : M D} {Q : Out → DS → Prop} : ru E (augM g i f) ⟨env, mem⟩ Q ↔ slotA env i fun x => ru E f ⟨env, mem⟩ fun y s2 => ru E (opt (g x y)) s2 fun z s3 => Q .nx ⟨s3.env.set i (.val z), s3.mem⟩ := by
  have e : ∀ Q : D → DS → Prop, ru E (varA i) ⟨env, mem⟩ Q ↔ slotA env i fun x => Q x ⟨env, mem⟩ := fun Q => by
    unfold ru varA slotA
    dsimp only
    cases h : env[i]? with
    | none => exact Iff.rfl
    | some sl => cases sl <;> exact Iff.rfl
  unfold augM; simp only [ru_bnd, ru_rtn, e]; exact Iff.rfl
/-- a call's answer is well, in Q, or an error, in E -/
def frQ (E : String → List MO → Prop) (r : FR) (Q : D → List MO → Prop) : Prop := match r with
  | .ok d m => Q d m
  | .err c m => E c m
  | .stuck => False
@[simp] theorem frQ_ok {E : String → List MO → Prop} {d : D} {m : List MO} {Q : D → List MO → Prop} : frQ E (.ok d m) Q ↔ Q d m := Iff.rfl
@[simp] theorem frQ_err {E : String → List MO → Prop} {c : String} {m : List MO} {Q : D → List MO → Prop} : frQ E (.err c m) Q ↔ E c m := Iff.rfl
@[simp] theorem ru_call {den : Den} {fs : M (List D)} {Q : D → DS → Prop} : ru E (callM den fs) s Q ↔ ru E fs s fun args s1 => frQ (fun c m => E c ⟨s1.env, m⟩) (den args s1.mem) fun d m => Q d ⟨s1.env, m⟩ := by
  unfold callM
  rw [ru_bnd]
  have e : ∀ (args : List D) (s1 : DS), ru E (fun s => match den args s.mem with
    | .ok d m => .ok d { s with mem := m }
    | .err e m => .err e { s with mem := m }
    | .stuck => .stuck) s1 Q ↔ frQ (fun c m => E c ⟨s1.env, m⟩) (den args s1.mem) fun d m => Q d ⟨s1.env, m⟩ := fun args s1 => by
    unfold ru frQ
    dsimp only
    cases den args s1.mem <;> exact Iff.rfl
  constructor
  · intro h; exact ru_mono h fun args s1 q => (e args s1).mp q
  · intro h; exact ru_mono h fun args s1 q => (e args s1).mpr q
@[simp] theorem ru_peek {i : Nat} {Q : D → DS → Prop} : ru E (peekM i) s Q ↔ ∃ d, peekD i s = some d ∧ Q d s := by
  have e : ru E (peekM i) s Q ↔ ru E (opt (peekD i s)) s Q := Iff.rfl
  rw [e]
  cases h : peekD i s <;> simp
@[simp] theorem ru_look {f : M D} {Q : D → DS → Prop} : ru E (lookM f) s Q ↔ ru E f s fun d s1 => Q (lookD s1 d) s1 := by unfold lookM; rw [ru_bnd]; exact Iff.rfl
@[simp] theorem ru_look1 {g : D → Option D} {f : M D} {Q : D → DS → Prop} : ru E (lookM1 g f) s Q ↔ ru E f s fun d s1 => ru E (opt (g d)) s1 Q := by unfold lookM1; simp
@[simp] theorem ru_isi {T : String} {f : M D} {Q : D → DS → Prop} : ru E (isiM T f) s Q ↔ ru E f s fun d s1 => ru E (opt (isiD T d)) s1 Q := by unfold isiM; simp
@[simp] theorem ru_ix {fa fb : M D} {Q : D → DS → Prop} : ru E (ixM fa fb) s Q ↔ ru E fa s fun x s1 => ru E fb s1 fun y s2 => ru E (opt (ixD (lookD s2 x) y)) s2 Q := by
  unfold ixM; simp only [ru_bnd]; exact Iff.rfl
theorem ru_ixv {i : Nat} {fb : M D} {Q : D → DS → Prop} {sl : Slot} (h : s.env[i]? = some sl) (hu : sl ≠ .un) : ru E (ixvM i fb) s Q ↔ ru E fb s fun y s2 => ru E (opt ((peekD i s2).bind fun x => ixD x y)) s2 Q := by
  have e : ixvM i fb s = (bnd fb fun y s => opt ((peekD i s).bind fun x => ixD x y) s) s := by
    unfold ixvM
    rw [h]
    cases sl with
    | un => exact absurd rfl hu
    | _ => rfl
  have : ru E (ixvM i fb) s Q ↔ ru E (bnd fb fun y s => opt ((peekD i s).bind fun x => ixD x y) s) s Q := by unfold ru; rw [e]
  rw [this, ru_bnd]
  exact Iff.rfl
/-- the slot is known -/
def knownB : Option Slot → Bool
  | some .un => false
  | none => false
  | _ => true
@[simp] theorem ru_ixv' {i : Nat} {fb : M D} {Q : D → DS → Prop} : ru E (ixvM i fb) s Q ↔ knownB s.env[i]? = true ∧ ru E fb s fun y s2 => ru E (opt ((peekD i s2).bind fun x => ixD x y)) s2 Q := by
  cases h : s.env[i]? with
  | none =>
    have : ru E (ixvM i fb) s Q ↔ False := by unfold ru ixvM; rw [h]
    rw [this]; simp [knownB]
  | some sl =>
    cases sl with
    | un =>
      have : ru E (ixvM i fb) s Q ↔ False := by unfold ru ixvM; rw [h]
      rw [this]; simp [knownB]
    | val d => rw [ru_ixv h (by intro z; cases z)]; simp [knownB]
    | own d => rw [ru_ixv h (by intro z; cases z)]; simp [knownB]
    | ownK k d => rw [ru_ixv h (by intro z; cases z)]; simp [knownB]
    | ownT k d => rw [ru_ixv h (by intro z; cases z)]; simp [knownB]
/-! what is seen -/
@[simp] theorem peekD_val0 {d : D} {r : List Slot} : peekD 0 ⟨.val d :: r, mem⟩ = some (lookD ⟨.val d :: r, mem⟩ d) := rfl
@[simp] theorem peekD_own0 {d : List D} {r : List Slot} : peekD 0 ⟨.own d :: r, mem⟩ = some (.lst d) := rfl
theorem lookD_env {e e' : List Slot} {d : D} : lookD ⟨e, mem⟩ d = lookD ⟨e', mem⟩ d := by cases d <;> rfl
@[simp] theorem peekD_succ {x : Slot} {r : List Slot} {i : Nat} : peekD (i + 1) ⟨x :: r, mem⟩ = peekD i ⟨r, mem⟩ := by
  unfold peekD
  simp only [List.getElem?_cons_succ]
  cases h : r[i]? with
  | none => rfl
  | some sl => cases sl <;> first | rfl | (simp only []; rw [lookD_env])
@[simp] theorem lookD_non : lookD s .non = .non := rfl
@[simp] theorem lookD_bl {b : Bool} : lookD s (.bl b) = .bl b := rfl
@[simp] theorem lookD_int {i : Int} : lookD s (.int i) = .int i := rfl
@[simp] theorem lookD_str {x : Str} : lookD s (.str x) = .str x := rfl
@[simp] theorem lookD_lst {xs : List D} : lookD s (.lst xs) = .lst xs := rfl
@[simp] theorem lookD_frl {xs : List D} : lookD s (.frl xs) = .frl xs := rfl
@[simp] theorem lookD_ktp {xs : List D} : lookD s (.ktp xs) = .ktp xs := rfl
@[simp] theorem lookD_tup {xs : List D} : lookD s (.tup xs) = .tup xs := rfl
@[simp] theorem lookD_mut0 {e : List Slot} {xs : List D} {r : List MO} : lookD ⟨e, .lst xs :: r⟩ (.mut 0) = .lst xs := rfl
@[simp] theorem shut_lst {n : Nat} {xs : List D} : (MO.lst xs).shut n = .lst xs := rfl
@[simp] theorem knownB_val {d : D} : knownB (some (.val d)) = true := rfl
@[simp] theorem knownB_own {d : List D} : knownB (some (.own d)) = true := rfl
/-! operations on ints -/
@[simp] theorem addD_ii {i j : Int} : addD (.int i) (.int j) = some (.int (i + j)) := rfl
@[simp] theorem addI_ii {i j : Int} : addI (.int i) (.int j) = some (.int (i + j)) := rfl
@[simp] theorem subD_ii {i j : Int} : subD (.int i) (.int j) = some (.int (i - j)) := rfl
@[simp] theorem negD_i {i : Int} : negD (.int i) = some (.int (-i)) := rfl
theorem mulD_ii {i j : Int} (h : i.natAbs < 18446744073709551616 ∨ j.natAbs < 18446744073709551616) : mulD (.int i) (.int j) = some (.int (i * j)) := if_pos h
theorem fdivD_ii {i j : Int} (h : 0 < j) (h2 : j < 1073741824) : fdivD (.int i) (.int j) = some (.int (i / j)) := by
  have e : fdivD (.int i) (.int j) = if j ≠ 0 ∧ j.natAbs < 1073741824 then some (.int (i.fdiv j)) else none := rfl
  rw [e, if_pos ⟨by omega, by omega⟩, Int.fdiv_eq_ediv_of_nonneg _ (by omega)]
theorem modD_ii {i j : Int} (h : 0 < j) : modD (.int i) (.int j) = some (.int (i % j)) := by
  have e : modD (.int i) (.int j) = if j ≠ 0 then some (.int (i.fmod j)) else none := rfl
  rw [e, if_pos (by omega), Int.fmod_eq_emod_of_nonneg _ (by omega)]
@[simp] theorem asB_bl {b : Bool} : asB (.bl b) = some b := rfl
@[simp] theorem truD_bl {b : Bool} : truD (.bl b) = some b := rfl
@[simp] theorem truD_int {i : Int} : truD (.int i) = some (i != 0) := rfl
@[simp] theorem truD_non : truD .non = some false := rfl
@[simp] theorem truD_lst {xs : List D} : truD (.lst xs) = some (!xs.isEmpty) := rfl
@[simp] theorem truD_frl {xs : List D} : truD (.frl xs) = some (!xs.isEmpty) := rfl
@[simp] theorem truD_ktp {xs : List D} : truD (.ktp xs) = some (!xs.isEmpty) := rfl
@[simp] theorem truD_tup {xs : List D} : truD (.tup xs) = some (!xs.isEmpty) := rfl
@[simp] theorem eqD_ii {i j : Int} : eqD (.int i) (.int j) = some (.bl (i == j)) := rfl
@[simp] theorem neD_ii {i j : Int} : neD (.int i) (.int j) = some (.bl (!(i == j))) := rfl
@[simp] theorem eqD_ss {i j : Str} : eqD (.str i) (.str j) = some (.bl (i == j)) := rfl
@[simp] theorem neD_ss {i j : Str} : neD (.str i) (.str j) = some (.bl (!(i == j))) := rfl
@[simp] theorem ltV_ii {i j : Int} : ltV (.int i) (.int j) = some (.bl (decide (i < j))) := by
  have : ltV (.int i) (.int j) = some (.bl (PySem.W.dataLt (.int i) (.int j))) := rfl
  rw [this, PySem.W.dataLt_int]
@[simp] theorem gtV_ii {i j : Int} : gtV (.int i) (.int j) = some (.bl (decide (j < i))) := by
  have : gtV (.int i) (.int j) = some (.bl (PySem.W.dataLt (.int j) (.int i))) := rfl
  rw [this, PySem.W.dataLt_int]
@[simp] theorem leV_ii {i j : Int} : leV (.int i) (.int j) = some (.bl (decide (i ≤ j))) := by
  have : leV (.int i) (.int j) = some (.bl (!PySem.W.dataLt (.int j) (.int i))) := rfl
  rw [this, PySem.W.dataLt_int]
  by_cases h : j < i
  · first | (simp [h]; done) | (simp [h]; omega)
  · first | (simp [h]; done) | (simp [h]; omega)
@[simp] theorem geV_ii {i j : Int} : geV (.int i) (.int j) = some (.bl (decide (j ≤ i))) := by
  have : geV (.int i) (.int j) = some (.bl (!PySem.W.dataLt (.int i) (.int j))) := rfl
  rw [this, PySem.W.dataLt_int]
  by_cases h : i < j
  · first | (simp [h]; done) | (simp [h]; omega)
  · first | (simp [h]; done) | (simp [h]; omega)
@[simp] theorem isNV_non {a : D} : isNV a .non = some (.bl (isNon a)) := rfl
@[simp] theorem notNV_non {a : D} : notNV a .non = some (.bl (!isNon a)) := rfl
@[simp] theorem lenD_lst {xs : List D} : lenD (.lst xs) = some (.int xs.length) := rfl
@[simp] theorem lenD_frl {xs : List D} : lenD (.frl xs) = some (.int xs.length) := rfl
@[simp] theorem lenD_ktp {xs : List D} : lenD (.ktp xs) = some (.int xs.length) := rfl
@[simp] theorem lenD_tup {xs : List D} : lenD (.tup xs) = some (.int xs.length) := rfl
theorem lenD_str {z : Str} (h : z.length ≤ 16777216) : lenD (.str z) = some (.int z.length) := if_pos h
/-! errors -/
@[simp] theorem ru_raise {nm : String} {Q : Out → DS → Prop} : ru E (raiseM nm) s Q ↔ E nm s := Iff.rfl
theorem ru_noErr {f : M α} {Q : α → DS → Prop} (h : ru NE f s Q) : ru E (fun s => noErr (f s)) s Q := by
  obtain ⟨a, s', e, q⟩ := ru_get h
  exact ru_eq (by show noErr (f s) = _; rw [e]; rfl) q
theorem ru_try {L : List String} {f : M Out} {hs : List (String × M Out)} {Q : Out → DS → Prop} (h : ru (fun c s' => c ∈ L ∧ ru E (handM c hs) s' Q) f s Q) : ru E (tryM L f hs) s Q := by
  rcases ru_cases h with ⟨a, s', e, q⟩ | ⟨c, s', e, q⟩
  · exact ru_eq (by unfold tryM; rw [e]) q
  · have e2 : tryM L f hs s = handM c hs s' := by unfold tryM; rw [e]; exact if_pos q.1
    unfold ru
    rw [e2]
    exact q.2
theorem ru_hand {c : String} {g : M Out} {r : List (String × M Out)} {Q : Out → DS → Prop} (h : ru NE g s Q) : ru E (handM c ((c, g) :: r)) s Q := by
  have e : handM c ((c, g) :: r) = fun s => noErr (g s) := if_pos rfl
  rw [e]
  exact ru_noErr h
theorem ru_hand2 {c c' : String} (hc : c ≠ c') {g : M Out} {r : List (String × M Out)} {Q : Out → DS → Prop} (h : ru E (handM c r) s Q) : ru E (handM c ((c', g) :: r)) s Q := by
  have e : handM c ((c', g) :: r) = handM c r := if_neg hc
  rw [e]; exact h

/-! loops -/
theorem ru_for {fi : M (List D)} {g : D → M Unit} {b : M Out} {Q : Out → DS → Prop} : ru E (forM fi g b) s Q ↔ ru E fi s fun items s1 => ru E (forL g b items) s1 Q := by unfold forM; simp
@[simp] theorem ru_forL0 {g : D → M Unit} {b : M Out} {Q : Out → DS → Prop} : ru E (forL g b []) s Q ↔ Q .nx s := Iff.rfl
theorem ru_forL1 {g : D → M Unit} {b : M Out} {d : D} {r : List D} {Q : Out → DS → Prop} : ru E (forL g b (d :: r)) s Q ↔ ru E (g d) s fun _ s1 => ru E b s1 fun o s2 => match o with
    | .nx => ru E (forL g b r) s2 Q
    | .ct => ru E (forL g b r) s2 Q
    | .bk => Q .nx s2
    | .rt v => Q (.rt v) s2 := by
  have e : forL g b (d :: r) = bnd (g d) fun _ => bnd b fun o => match o with
    | .nx => forL g b r
    | .ct => forL g b r
    | .bk => rtn .nx
    | .rt v => rtn (.rt v) := rfl
  rw [e, ru_bnd]
  constructor
  · intro h
    refine ru_mono h fun _ s1 q => ?_
    rw [ru_bnd] at q
    exact ru_mono q fun o s2 q => by cases o <;> exact q
  · intro h
    refine ru_mono h fun _ s1 q => ?_
    rw [ru_bnd]
    exact ru_mono q fun o s2 q => by cases o <;> exact q
/-- what a loop's body is to leave -/
def stepQ (I : DS → Prop) (Q : Out → DS → Prop) (o : Out) (s : DS) : Prop := match o with
  | .nx => I s
  | .ct => I s
  | .bk => Q .nx s
  | .rt v => Q (.rt v) s
@[simp] theorem stepQ_nx {I : DS → Prop} {Q : Out → DS → Prop} : stepQ I Q .nx s ↔ I s := Iff.rfl
@[simp] theorem stepQ_ct {I : DS → Prop} {Q : Out → DS → Prop} : stepQ I Q .ct s ↔ I s := Iff.rfl
@[simp] theorem stepQ_bk {I : DS → Prop} {Q : Out → DS → Prop} : stepQ I Q .bk s ↔ Q .nx s := Iff.rfl
@[simp] theorem stepQ_rt {I : DS → Prop} {Q : Out → DS → Prop} {v : D} : stepQ I Q (.rt v) s ↔ Q (.rt v) s := Iff.rfl
theorem ru_forI {g : D → M Unit} {b : M Out} {items : List D} {Q : Out → DS → Prop} (I : Nat → DS → Prop) (h0 : I 0 s) (step : ∀ i d s, items[i]? = some d → I i s → ru E (g d) s fun _ s1 => ru E b s1 (stepQ (I (i + 1)) Q))
    (hd : ∀ s, I items.length s → Q .nx s) : ru E (forL g b items) s Q := by
  have : ∀ (r : List D) (k : Nat) (s : DS), items.drop k = r → k ≤ items.length → I k s → ru E (forL g b r) s Q := by
    intro r
    induction r with
    | nil =>
      intro k s e hk hi
      have : items.length ≤ k := List.drop_eq_nil_iff.mp e
      have : k = items.length := by omega
      subst this
      exact hd s hi
    | cons d r ih =>
      intro k s e hk hi
      rw [ru_forL1]
      have e1 : items[k]? = some d := by
        have := congrArg (·[0]?) e
        simpa using this
      have hlt : k < items.length := (List.getElem?_eq_some_iff.mp e1).1
      have e2 : items.drop (k + 1) = r := by
        rw [← List.drop_drop, e]; rfl
      refine ru_mono (step k d s e1 hi) fun _ s1 q => ru_mono q fun o s2 q => ?_
      cases o with
      | nx => exact ih (k + 1) s2 e2 hlt q
      | ct => exact ih (k + 1) s2 e2 hlt q
      | bk => exact q
      | rt v => exact q
  exact this items 0 s rfl (Nat.zero_le _) h0
theorem ru_whileN {t : M Bool} {b : M Out} {Q : Out → DS → Prop} (I : DS → Prop) (mu : DS → Nat) (step : ∀ s, I s → ru E t s fun k s1 => if k = true then ru E b s1 (stepQ (fun s2 => I s2 ∧ mu s2 < mu s) Q) else Q .nx s1) :
    ∀ (n : Nat) (s : DS), I s → mu s < n → ru E (whileN t b n) s Q := by
  intro n
  induction n with
  | zero => intro s _ h; omega
  | succ n ih =>
    intro s hi hn
    have e : whileN t b (n + 1) = bnd t fun k => if k = true then bnd b fun o => match o with
      | .nx => whileN t b n
      | .ct => whileN t b n
      | .bk => rtn .nx
      | .rt v => rtn (.rt v)
      else rtn .nx := rfl
    rw [e, ru_bnd]
    refine ru_mono (step s hi) fun k s1 q => ?_
    cases k with
    | true =>
      simp only [if_true] at q ⊢
      rw [ru_bnd]
      refine ru_mono q fun o s2 q => ?_
      cases o with
      | nx => exact ih s2 q.1 (by have := q.2; omega)
      | ct => exact ih s2 q.1 (by have := q.2; omega)
      | bk => exact q
      | rt v => exact q
    | false => simpa using q
theorem ru_while {t : M Bool} {b : M Out} {Q : Out → DS → Prop} (I : DS → Prop) (mu : DS → Nat) (h0 : I s) (step : ∀ s, I s → ru E t s fun k s1 => if k = true then ru E b s1 (stepQ (fun s2 => I s2 ∧ mu s2 < mu s) Q) else Q .nx s1) : ru E (whileM t b) s Q := by
  have h := ru_whileN I mu step (mu s + 1) s h0 (Nat.lt_succ_self _)
  have hs : whileN t b (mu s + 1) s ≠ .stuck := fun z => by unfold ru at h; rw [z] at h; exact h
  have e := whileM_of (mu s + 1) hs
  unfold ru at h ⊢
  rw [e]
  exact h
/-! comprehensions -/
theorem ru_comp {vs : List Nat} {fi : M (List D)} {g : D → M Unit} {t : M Bool} {el : M D} {Q : List D → DS → Prop} (h : ru E fi s fun items s1 => anyOwn vs s1.env = false ∧ items.length ≤ 1000000 ∧ ru NE (lcL vs g t el items []) s1 fun acc s2 => Q acc ⟨restE s1.env s2.env vs, s2.mem⟩) : ru E (compM vs fi g t el) s Q := by
  unfold compM
  rw [ru_bnd]
  refine ru_mono h fun items s1 ⟨h1, h2, h3⟩ => ?_
  obtain ⟨acc, s2, e, q⟩ := ru_get h3
  refine ru_eq (a := acc) (s' := ⟨restE s1.env s2.env vs, s2.mem⟩) ?_ q
  rw [if_pos ⟨h1, h2⟩, e]
  rfl
@[simp] theorem ru_lc0 {vs : List Nat} {g : D → M Unit} {t : M Bool} {el : M D} {acc : List D} {Q : List D → DS → Prop} : ru E (lcL vs g t el [] acc) s Q ↔ Q acc (wp vs s) := Iff.rfl
theorem ru_lc1 {vs : List Nat} {g : D → M Unit} {t : M Bool} {el : M D} {d : D} {r acc : List D} {Q : List D → DS → Prop} : ru E (lcL vs g t el (d :: r) acc) s Q ↔ ru E (g d) (wp vs s) fun _ s1 => ru E t s1 fun k s2 => if k = true then ru E el s2 fun y s3 => ru E (lcL vs g t el r (acc ++ [y])) s3 Q else ru E (lcL vs g t el r acc) s2 Q := by
  have e : lcL vs g t el (d :: r) acc = fun s => (bnd (g d) fun _ => bnd t fun k => if k = true then bnd el fun y => lcL vs g t el r (acc ++ [y]) else lcL vs g t el r acc) (wp vs s) := by
    funext s
    show ((g d (wp vs s)).bind fun _ s1 => (t s1).bind fun k s2 => if k = true then (el s2).bind fun y s3 => lcL vs g t el r (acc ++ [y]) s3 else lcL vs g t el r acc s2) = _
    unfold bnd
    congr 1
    funext _ s1
    congr 1
    funext k s2
    cases k <;> rfl
  rw [e]
  have : ∀ Q, ru E (fun s => (bnd (g d) fun _ => bnd t fun k => if k = true then bnd el fun y => lcL vs g t el r (acc ++ [y]) else lcL vs g t el r acc) (wp vs s)) s Q ↔ ru E (bnd (g d) fun _ => bnd t fun k => if k = true then bnd el fun y => lcL vs g t el r (acc ++ [y]) else lcL vs g t el r acc) (wp vs s) Q := fun Q => Iff.rfl
  rw [this]
  simp
/-- with what has been gathered and the shared objects; the names stay -/
theorem ru_lcI {vs : List Nat} {g : D → M Unit} {t : M Bool} {el : M D} {items : List D} {Q : List D → DS → Prop} (I : Nat → List D → List MO → Prop) (h0 : I 0 [] s.mem)
    (step : ∀ i d acc mem, items[i]? = some d → I i acc mem → ru E (g d) ⟨wipeE s.env vs, mem⟩ fun _ s1 => ru E t s1 fun k s2 => if k = true then ru E el s2 fun y s3 => wipeE s3.env vs = wipeE s.env vs ∧ I (i + 1) (acc ++ [y]) s3.mem else wipeE s2.env vs = wipeE s.env vs ∧ I (i + 1) acc s2.mem)
    (hd : ∀ acc mem, I items.length acc mem → Q acc ⟨wipeE s.env vs, mem⟩) : ru E (lcL vs g t el items []) s Q := by
  have : ∀ (r : List D) (k : Nat) (acc : List D) (s1 : DS), items.drop k = r → k ≤ items.length → wipeE s1.env vs = wipeE s.env vs → I k acc s1.mem → ru E (lcL vs g t el r acc) s1 Q := by
    intro r
    induction r with
    | nil =>
      intro k acc s1 e hk he hi
      have : items.length ≤ k := List.drop_eq_nil_iff.mp e
      have : k = items.length := by omega
      subst this
      rw [ru_lc0]
      unfold wp
      rw [he]
      exact hd acc s1.mem hi
    | cons d r ih =>
      intro k acc s1 e hk he hi
      rw [ru_lc1]
      have e1 : items[k]? = some d := by
        have := congrArg (·[0]?) e
        simpa using this
      have hlt : k < items.length := (List.getElem?_eq_some_iff.mp e1).1
      have e2 : items.drop (k + 1) = r := by
        rw [← List.drop_drop, e]; rfl
      unfold wp
      rw [he]
      refine ru_mono (step k d acc s1.mem e1 hi) fun _ s2 q => ru_mono q fun b s3 q => ?_
      cases b with
      | true =>
        simp only [if_true] at q ⊢
        exact ru_mono q fun y s4 q => ih (k + 1) _ s4 e2 hlt q.1 q.2
      | false =>
        simp only [Bool.false_eq_true, if_false] at q ⊢
        exact ih (k + 1) _ s3 e2 hlt q.1 q.2
  exact this items 0 [] s rfl (Nat.zero_le _) rfl h0
/-- nothing but the list is made -/
theorem ru_lcF {vs : List Nat} {g : D → M Unit} {t : M Bool} {el : M D} {items : List D} {Q : List D → DS → Prop} (f : D → Option D)
    (step : ∀ d, d ∈ items → ru E (g d) ⟨wipeE s.env vs, s.mem⟩ fun _ s1 => ru E t s1 fun k s2 => if k = true then ru E el s2 fun y s3 => wipeE s3.env vs = wipeE s.env vs ∧ f d = some y ∧ s3.mem = s.mem else wipeE s2.env vs = wipeE s.env vs ∧ f d = none ∧ s2.mem = s.mem)
    (hd : Q (items.filterMap f) ⟨wipeE s.env vs, s.mem⟩) : ru E (lcL vs g t el items []) s Q := by
  refine ru_lcI (fun i acc mem => acc = (items.take i).filterMap f ∧ mem = s.mem) ⟨rfl, rfl⟩ (fun i d acc mem hi ⟨ha, hm⟩ => ?_) (fun acc mem ⟨ha, hm⟩ => ?_)
  · subst ha hm
    have ht : items.take (i + 1) = items.take i ++ [d] := by rw [List.take_add_one, hi]; rfl
    refine ru_mono (step d (List.mem_of_getElem? hi)) fun _ s1 q => ru_mono q fun k s2 q => ?_
    cases k with
    | true =>
      simp only [if_true] at q ⊢
      refine ru_mono q fun y s3 ⟨q1, q2, q3⟩ => ⟨q1, ?_, q3⟩
      rw [ht, List.filterMap_append]
      simp [q2]
    | false =>
      simp only [Bool.false_eq_true, if_false] at q ⊢
      obtain ⟨q1, q2, q3⟩ := q
      refine ⟨q1, ?_, q3⟩
      rw [ht, List.filterMap_append]
      simp [q2]
  · subst hm
    rw [ha, List.take_length]
    exact hd
@[simp] theorem wipeE_nil : wipeE env [] = env := rfl
@[simp] theorem wipeE_cons {v : Nat} {vs : List Nat} : wipeE env (v :: vs) = (wipeE env vs).set v .un := rfl
@[simp] theorem restE_nil {e0 : List Slot} : restE e0 env [] = env := rfl
@[simp] theorem restE_cons {e0 : List Slot} {v : Nat} {vs : List Nat} : restE e0 env (v :: vs) = (restE e0 env vs).set v (e0.getD v .un) := rfl
@[simp] theorem ru_itM {f : M D} {Q : List D → DS → Prop} : ru E (itM f) s Q ↔ ru E f s fun d s1 => ru E (opt (itemsD d)) s1 Q := by unfold itM; simp
@[simp] theorem ru_itx {f : M D} {Q : List D → DS → Prop} : ru E (itxM f) s Q ↔ ru E f s fun d s1 => ru E (opt (itemsX d)) s1 Q := by unfold itxM; simp
@[simp] theorem itemsX_lst {xs : List D} : itemsX (.lst xs) = some xs := rfl
@[simp] theorem itemsX_frl {xs : List D} : itemsX (.frl xs) = some xs := rfl
@[simp] theorem itemsX_ktp {xs : List D} : itemsX (.ktp xs) = some xs := rfl
@[simp] theorem itemsX_tup {xs : List D} : itemsX (.tup xs) = some xs := rfl
@[simp] theorem itemsX_str {z : Str} : itemsX (.str z) = some (z.cps.toList.map sign) := rfl
@[simp] theorem itemsX_dT {ks xs : List D} : itemsX (.dT ks xs) = some ks := rfl
@[simp] theorem itemsX_dK {ks : List Key} {xs : List D} : itemsX (.dK ks xs) = some (ks.map kD) := rfl
@[simp] theorem lenD_dT {ks xs : List D} : lenD (.dT ks xs) = some (.int ks.length) := rfl
@[simp] theorem lenD_dK {ks : List Key} {xs : List D} : lenD (.dK ks xs) = some (.int ks.length) := rfl
@[simp] theorem ru_sortX {xs : List D} {Q : List D → DS → Prop} : ru E (sortXM [.lst xs]) s Q ↔ ru E (opt (sortF xs)) s Q := Iff.rfl
@[simp] theorem ru_sortXf {xs : List D} {Q : List D → DS → Prop} : ru E (sortXM [.frl xs]) s Q ↔ ru E (opt (sortF xs)) s Q := Iff.rfl
@[simp] theorem ru_sortXT {ks xs : List D} {Q : List D → DS → Prop} : ru E (sortXM [.dT ks xs]) s Q ↔ ru E (opt (sortF ks)) s Q := Iff.rfl
@[simp] theorem ru_sortXK {ks : List Key} {xs : List D} {Q : List D → DS → Prop} : ru E (sortXM [.dK ks xs]) s Q ↔ ru E (opt (sortF (ks.map kD))) s Q := Iff.rfl
@[simp] theorem ru_listX {xs : List D} {Q : List D → DS → Prop} : ru E (listXM [.lst xs]) s Q ↔ Q xs s := Iff.rfl
@[simp] theorem ru_listXf {xs : List D} {Q : List D → DS → Prop} : ru E (listXM [.frl xs]) s Q ↔ Q xs s := Iff.rfl
@[simp] theorem ru_listXt {xs : List D} {Q : List D → DS → Prop} : ru E (listXM [.tup xs]) s Q ↔ Q xs s := Iff.rfl
@[simp] theorem ru_listXk {xs : List D} {Q : List D → DS → Prop} : ru E (listXM [.ktp xs]) s Q ↔ Q xs s := Iff.rfl
@[simp] theorem itemsD_lst {xs : List D} : itemsD (.lst xs) = some xs := rfl
@[simp] theorem itemsD_frl {xs : List D} : itemsD (.frl xs) = some xs := rfl
@[simp] theorem itemsD_ktp {xs : List D} : itemsD (.ktp xs) = some xs := rfl
@[simp] theorem itemsD_tup {xs : List D} : itemsD (.tup xs) = some xs := rfl
@[simp] theorem itemsD_str {z : Str} : itemsD (.str z) = some (z.cps.toList.map sign) := rfl
theorem rng1_int {j : Int} (h : -(2 ^ 62) ≤ j) (h2 : j < 2 ^ 62) : rng1 [.int j] = some (rngL 0 j.toNat) := if_pos (decide_eq_true ⟨h, h2⟩)
theorem rng2_int {i j : Int} (h : -(2 ^ 62) ≤ i) (h2 : i < 2 ^ 62) (h3 : -(2 ^ 62) ≤ j) (h4 : j < 2 ^ 62) : rng2 [.int i, .int j] = some (rngL i (j - i).toNat) := if_pos ⟨decide_eq_true ⟨h, h2⟩, decide_eq_true ⟨h3, h4⟩⟩
@[simp] theorem rngL_length {lo : Int} {n : Nat} : (rngL lo n).length = n := by unfold rngL; simp
theorem rngL_get {lo : Int} {n i : Nat} {d : D} (h : (rngL lo n)[i]? = some d) : i < n ∧ d = .int (lo + i) := by
  have hi : i < n := by have := (List.getElem?_eq_some_iff.mp h).1; simpa using this
  unfold rngL at h
  rw [List.getElem?_map, List.getElem?_range hi] at h
  exact ⟨hi, (Option.some.inj h).symm⟩
theorem rngL_mem {lo : Int} {n : Nat} {d : D} (h : d ∈ rngL lo n) : ∃ i, i < n ∧ d = .int (lo + (i : Nat)) := by
  obtain ⟨i, hi⟩ := List.getElem?_of_mem h
  obtain ⟨a, b⟩ := rngL_get hi
  exact ⟨i, a, b⟩
/-! the end of a def -/
theorem fn_ok {ar n : Nat} {body : M Out} {args : List D} {d : D} {m : List MO} (hl : args.length = ar) (h : ru NE body ⟨args.map .val ++ List.replicate (n - ar) .un, mem⟩ fun o s => (o = .rt d ∨ o = .nx ∧ d = .non) ∧ s.mem = m) : fnDen ar n body args mem = .ok d m := by
  obtain ⟨o, s', e, q, hm⟩ := ru_get h
  unfold fnDen
  rw [if_pos hl, e]
  rcases q with rfl | ⟨rfl, rfl⟩
  · rw [← hm]
  · rw [← hm]
theorem fn_ex {ar n : Nat} {body : M Out} {args : List D} {P : D → List MO → Prop} (hl : args.length = ar) (h : ru NE body ⟨args.map .val ++ List.replicate (n - ar) .un, mem⟩ fun o s => match o with
    | .rt d => P d s.mem
    | .nx => P .non s.mem
    | _ => False) : ∃ d m, fnDen ar n body args mem = .ok d m ∧ P d m := by
  obtain ⟨o, s', e, q⟩ := ru_get h
  unfold fnDen
  rw [if_pos hl, e]
  cases o with
  | nx => exact ⟨_, _, rfl, q⟩
  | rt d => exact ⟨_, _, rfl, q⟩
  | bk => exact q.elim
  | ct => exact q.elim
theorem fn_err {ar n : Nat} {body : M Out} {args : List D} {nm : String} {m : List MO} (hl : args.length = ar) (h : ru (fun c s => c = nm ∧ s.mem = m) body ⟨args.map .val ++ List.replicate (n - ar) .un, mem⟩ fun _ _ => False) : fnDen ar n body args mem = .err nm m := by
  rcases ru_cases h with ⟨a, s', e, q⟩ | ⟨c, s', e, q1, q2⟩
  · exact q.elim
  · unfold fnDen
    rw [if_pos hl, e, q1, ← q2]
end
end Vl
namespace Vl
open PySem PySem.Spec PyProof.Rows
/-! ### kinds of values -/
theorem kb_NoneType_int : L2.kitB "NoneType" "int" = some false := by decide +kernel
theorem kb_bool_int : L2.kitB "bool" "int" = some true := by decide +kernel
theorem kb_int_int : L2.kitB "int" "int" = some true := by decide +kernel
theorem kb_str_int : L2.kitB "str" "int" = some false := by decide +kernel
theorem kb_list_int : L2.kitB "list" "int" = some false := by decide +kernel
theorem kb_tuple_int : L2.kitB "tuple" "int" = some false := by decide +kernel
theorem kb_dict_int : L2.kitB "dict" "int" = some false := by decide +kernel
@[simp] theorem isi_non_int : isiD "int" .non = some (.bl false) := by show (L2.kitB "NoneType" "int").map D.bl = _; rw [kb_NoneType_int]; rfl
@[simp] theorem isi_bl_int {b : Bool} : isiD "int" (.bl b) = some (.bl true) := by show (L2.kitB "bool" "int").map D.bl = _; rw [kb_bool_int]; rfl
@[simp] theorem isi_int_int {i : Int} : isiD "int" (.int i) = some (.bl true) := by show (L2.kitB "int" "int").map D.bl = _; rw [kb_int_int]; rfl
@[simp] theorem isi_str_int {z : Str} : isiD "int" (.str z) = some (.bl false) := by show (L2.kitB "str" "int").map D.bl = _; rw [kb_str_int]; rfl
@[simp] theorem isi_lst_int {xs : List D} : isiD "int" (.lst xs) = some (.bl false) := by show (L2.kitB "list" "int").map D.bl = _; rw [kb_list_int]; rfl
@[simp] theorem isi_frl_int {xs : List D} : isiD "int" (.frl xs) = some (.bl false) := by show (L2.kitB "list" "int").map D.bl = _; rw [kb_list_int]; rfl
@[simp] theorem isi_tup_int {xs : List D} : isiD "int" (.tup xs) = some (.bl false) := by show (L2.kitB "tuple" "int").map D.bl = _; rw [kb_tuple_int]; rfl
@[simp] theorem isi_dK_int {ks : List L2.Key} {xs : List D} : isiD "int" (.dK ks xs) = some (.bl false) := by show (L2.kitB "dict" "int").map D.bl = _; rw [kb_dict_int]; rfl
theorem kb_NoneType_bool : L2.kitB "NoneType" "bool" = some false := by decide +kernel
theorem kb_bool_bool : L2.kitB "bool" "bool" = some true := by decide +kernel
theorem kb_int_bool : L2.kitB "int" "bool" = some false := by decide +kernel
theorem kb_str_bool : L2.kitB "str" "bool" = some false := by decide +kernel
theorem kb_list_bool : L2.kitB "list" "bool" = some false := by decide +kernel
theorem kb_tuple_bool : L2.kitB "tuple" "bool" = some false := by decide +kernel
theorem kb_dict_bool : L2.kitB "dict" "bool" = some false := by decide +kernel
@[simp] theorem isi_non_bool : isiD "bool" .non = some (.bl false) := by show (L2.kitB "NoneType" "bool").map D.bl = _; rw [kb_NoneType_bool]; rfl
@[simp] theorem isi_bl_bool {b : Bool} : isiD "bool" (.bl b) = some (.bl true) := by show (L2.kitB "bool" "bool").map D.bl = _; rw [kb_bool_bool]; rfl
@[simp] theorem isi_int_bool {i : Int} : isiD "bool" (.int i) = some (.bl false) := by show (L2.kitB "int" "bool").map D.bl = _; rw [kb_int_bool]; rfl
@[simp] theorem isi_str_bool {z : Str} : isiD "bool" (.str z) = some (.bl false) := by show (L2.kitB "str" "bool").map D.bl = _; rw [kb_str_bool]; rfl
@[simp] theorem isi_lst_bool {xs : List D} : isiD "bool" (.lst xs) = some (.bl false) := by show (L2.kitB "list" "bool").map D.bl = _; rw [kb_list_bool]; rfl
@[simp] theorem isi_frl_bool {xs : List D} : isiD "bool" (.frl xs) = some (.bl false) := by show (L2.kitB "list" "bool").map D.bl = _; rw [kb_list_bool]; rfl
@[simp] theorem isi_tup_bool {xs : List D} : isiD "bool" (.tup xs) = some (.bl false) := by show (L2.kitB "tuple" "bool").map D.bl = _; rw [kb_tuple_bool]; rfl
@[simp] theorem isi_dK_bool {ks : List L2.Key} {xs : List D} : isiD "bool" (.dK ks xs) = some (.bl false) := by show (L2.kitB "dict" "bool").map D.bl = _; rw [kb_dict_bool]; rfl
theorem kb_NoneType_str : L2.kitB "NoneType" "str" = some false := by decide +kernel
theorem kb_bool_str : L2.kitB "bool" "str" = some false := by decide +kernel
theorem kb_int_str : L2.kitB "int" "str" = some false := by decide +kernel
theorem kb_str_str : L2.kitB "str" "str" = some true := by decide +kernel
theorem kb_list_str : L2.kitB "list" "str" = some false := by decide +kernel
theorem kb_tuple_str : L2.kitB "tuple" "str" = some false := by decide +kernel
theorem kb_dict_str : L2.kitB "dict" "str" = some false := by decide +kernel
@[simp] theorem isi_non_str : isiD "str" .non = some (.bl false) := by show (L2.kitB "NoneType" "str").map D.bl = _; rw [kb_NoneType_str]; rfl
@[simp] theorem isi_bl_str {b : Bool} : isiD "str" (.bl b) = some (.bl false) := by show (L2.kitB "bool" "str").map D.bl = _; rw [kb_bool_str]; rfl
@[simp] theorem isi_int_str {i : Int} : isiD "str" (.int i) = some (.bl false) := by show (L2.kitB "int" "str").map D.bl = _; rw [kb_int_str]; rfl
@[simp] theorem isi_str_str {z : Str} : isiD "str" (.str z) = some (.bl true) := by show (L2.kitB "str" "str").map D.bl = _; rw [kb_str_str]; rfl
@[simp] theorem isi_lst_str {xs : List D} : isiD "str" (.lst xs) = some (.bl false) := by show (L2.kitB "list" "str").map D.bl = _; rw [kb_list_str]; rfl
@[simp] theorem isi_frl_str {xs : List D} : isiD "str" (.frl xs) = some (.bl false) := by show (L2.kitB "list" "str").map D.bl = _; rw [kb_list_str]; rfl
@[simp] theorem isi_tup_str {xs : List D} : isiD "str" (.tup xs) = some (.bl false) := by show (L2.kitB "tuple" "str").map D.bl = _; rw [kb_tuple_str]; rfl
@[simp] theorem isi_dK_str {ks : List L2.Key} {xs : List D} : isiD "str" (.dK ks xs) = some (.bl false) := by show (L2.kitB "dict" "str").map D.bl = _; rw [kb_dict_str]; rfl
theorem kb_NoneType_list : L2.kitB "NoneType" "list" = some false := by decide +kernel
theorem kb_bool_list : L2.kitB "bool" "list" = some false := by decide +kernel
theorem kb_int_list : L2.kitB "int" "list" = some false := by decide +kernel
theorem kb_str_list : L2.kitB "str" "list" = some false := by decide +kernel
theorem kb_list_list : L2.kitB "list" "list" = some true := by decide +kernel
theorem kb_tuple_list : L2.kitB "tuple" "list" = some false := by decide +kernel
theorem kb_dict_list : L2.kitB "dict" "list" = some false := by decide +kernel
@[simp] theorem isi_non_list : isiD "list" .non = some (.bl false) := by show (L2.kitB "NoneType" "list").map D.bl = _; rw [kb_NoneType_list]; rfl
@[simp] theorem isi_bl_list {b : Bool} : isiD "list" (.bl b) = some (.bl false) := by show (L2.kitB "bool" "list").map D.bl = _; rw [kb_bool_list]; rfl
@[simp] theorem isi_int_list {i : Int} : isiD "list" (.int i) = some (.bl false) := by show (L2.kitB "int" "list").map D.bl = _; rw [kb_int_list]; rfl
@[simp] theorem isi_str_list {z : Str} : isiD "list" (.str z) = some (.bl false) := by show (L2.kitB "str" "list").map D.bl = _; rw [kb_str_list]; rfl
@[simp] theorem isi_lst_list {xs : List D} : isiD "list" (.lst xs) = some (.bl true) := by show (L2.kitB "list" "list").map D.bl = _; rw [kb_list_list]; rfl
@[simp] theorem isi_frl_list {xs : List D} : isiD "list" (.frl xs) = some (.bl true) := by show (L2.kitB "list" "list").map D.bl = _; rw [kb_list_list]; rfl
@[simp] theorem isi_tup_list {xs : List D} : isiD "list" (.tup xs) = some (.bl false) := by show (L2.kitB "tuple" "list").map D.bl = _; rw [kb_tuple_list]; rfl
@[simp] theorem isi_dK_list {ks : List L2.Key} {xs : List D} : isiD "list" (.dK ks xs) = some (.bl false) := by show (L2.kitB "dict" "list").map D.bl = _; rw [kb_dict_list]; rfl
theorem kb_NoneType_tuple : L2.kitB "NoneType" "tuple" = some false := by decide +kernel
theorem kb_bool_tuple : L2.kitB "bool" "tuple" = some false := by decide +kernel
theorem kb_int_tuple : L2.kitB "int" "tuple" = some false := by decide +kernel
theorem kb_str_tuple : L2.kitB "str" "tuple" = some false := by decide +kernel
theorem kb_list_tuple : L2.kitB "list" "tuple" = some false := by decide +kernel
theorem kb_tuple_tuple : L2.kitB "tuple" "tuple" = some true := by decide +kernel
theorem kb_dict_tuple : L2.kitB "dict" "tuple" = some false := by decide +kernel
@[simp] theorem isi_non_tuple : isiD "tuple" .non = some (.bl false) := by show (L2.kitB "NoneType" "tuple").map D.bl = _; rw [kb_NoneType_tuple]; rfl
@[simp] theorem isi_bl_tuple {b : Bool} : isiD "tuple" (.bl b) = some (.bl false) := by show (L2.kitB "bool" "tuple").map D.bl = _; rw [kb_bool_tuple]; rfl
@[simp] theorem isi_int_tuple {i : Int} : isiD "tuple" (.int i) = some (.bl false) := by show (L2.kitB "int" "tuple").map D.bl = _; rw [kb_int_tuple]; rfl
@[simp] theorem isi_str_tuple {z : Str} : isiD "tuple" (.str z) = some (.bl false) := by show (L2.kitB "str" "tuple").map D.bl = _; rw [kb_str_tuple]; rfl
@[simp] theorem isi_lst_tuple {xs : List D} : isiD "tuple" (.lst xs) = some (.bl false) := by show (L2.kitB "list" "tuple").map D.bl = _; rw [kb_list_tuple]; rfl
@[simp] theorem isi_frl_tuple {xs : List D} : isiD "tuple" (.frl xs) = some (.bl false) := by show (L2.kitB "list" "tuple").map D.bl = _; rw [kb_list_tuple]; rfl
@[simp] theorem isi_tup_tuple {xs : List D} : isiD "tuple" (.tup xs) = some (.bl true) := by show (L2.kitB "tuple" "tuple").map D.bl = _; rw [kb_tuple_tuple]; rfl
@[simp] theorem isi_dK_tuple {ks : List L2.Key} {xs : List D} : isiD "tuple" (.dK ks xs) = some (.bl false) := by show (L2.kitB "dict" "tuple").map D.bl = _; rw [kb_dict_tuple]; rfl
theorem kb_NoneType_dict : L2.kitB "NoneType" "dict" = some false := by decide +kernel
theorem kb_bool_dict : L2.kitB "bool" "dict" = some false := by decide +kernel
theorem kb_int_dict : L2.kitB "int" "dict" = some false := by decide +kernel
theorem kb_str_dict : L2.kitB "str" "dict" = some false := by decide +kernel
theorem kb_list_dict : L2.kitB "list" "dict" = some false := by decide +kernel
theorem kb_tuple_dict : L2.kitB "tuple" "dict" = some false := by decide +kernel
theorem kb_dict_dict : L2.kitB "dict" "dict" = some true := by decide +kernel
@[simp] theorem isi_non_dict : isiD "dict" .non = some (.bl false) := by show (L2.kitB "NoneType" "dict").map D.bl = _; rw [kb_NoneType_dict]; rfl
@[simp] theorem isi_bl_dict {b : Bool} : isiD "dict" (.bl b) = some (.bl false) := by show (L2.kitB "bool" "dict").map D.bl = _; rw [kb_bool_dict]; rfl
@[simp] theorem isi_int_dict {i : Int} : isiD "dict" (.int i) = some (.bl false) := by show (L2.kitB "int" "dict").map D.bl = _; rw [kb_int_dict]; rfl
@[simp] theorem isi_str_dict {z : Str} : isiD "dict" (.str z) = some (.bl false) := by show (L2.kitB "str" "dict").map D.bl = _; rw [kb_str_dict]; rfl
@[simp] theorem isi_lst_dict {xs : List D} : isiD "dict" (.lst xs) = some (.bl false) := by show (L2.kitB "list" "dict").map D.bl = _; rw [kb_list_dict]; rfl
@[simp] theorem isi_frl_dict {xs : List D} : isiD "dict" (.frl xs) = some (.bl false) := by show (L2.kitB "list" "dict").map D.bl = _; rw [kb_list_dict]; rfl
@[simp] theorem isi_tup_dict {xs : List D} : isiD "dict" (.tup xs) = some (.bl false) := by show (L2.kitB "tuple" "dict").map D.bl = _; rw [kb_tuple_dict]; rfl
@[simp] theorem isi_dK_dict {ks : List L2.Key} {xs : List D} : isiD "dict" (.dK ks xs) = some (.bl true) := by show (L2.kitB "dict" "dict").map D.bl = _; rw [kb_dict_dict]; rfl
@[simp] theorem isi_ktp_int {xs : List D} : isiD "int" (.ktp xs) = some (.bl false) := by show (L2.kitB "tuple" "int").map D.bl = _; rw [kb_tuple_int]; rfl
@[simp] theorem isi_ktp_bool {xs : List D} : isiD "bool" (.ktp xs) = some (.bl false) := by show (L2.kitB "tuple" "bool").map D.bl = _; rw [kb_tuple_bool]; rfl
@[simp] theorem isi_ktp_str {xs : List D} : isiD "str" (.ktp xs) = some (.bl false) := by show (L2.kitB "tuple" "str").map D.bl = _; rw [kb_tuple_str]; rfl
@[simp] theorem isi_ktp_list {xs : List D} : isiD "list" (.ktp xs) = some (.bl false) := by show (L2.kitB "tuple" "list").map D.bl = _; rw [kb_tuple_list]; rfl
@[simp] theorem isi_ktp_tuple {xs : List D} : isiD "tuple" (.ktp xs) = some (.bl true) := by show (L2.kitB "tuple" "tuple").map D.bl = _; rw [kb_tuple_tuple]; rfl
@[simp] theorem isi_ktp_dict {xs : List D} : isiD "dict" (.ktp xs) = some (.bl false) := by show (L2.kitB "tuple" "dict").map D.bl = _; rw [kb_tuple_dict]; rfl
@[simp] theorem eqD_bb {a b : Bool} : eqD (.bl a) (.bl b) = some (.bl (a == b)) := rfl
@[simp] theorem neD_bb {a b : Bool} : neD (.bl a) (.bl b) = some (.bl (!(a == b))) := rfl
@[simp] theorem ru_chM {E : String → DS → Prop} {s : DS} {g h : D → D → Option D} {fa fb fc : M D} {Q : D → DS → Prop} : ru E (chM g h fa fb fc) s Q ↔ ru E fa s fun x s1 => ru E fb s1 fun y s2 => ru E (opt (g x y)) s2 fun z s3 => ru E (opt (asB z)) s3 fun k s4 => if k = true then ru E fc s4 fun w s5 => ru E (opt (h y w)) s5 Q else Q (.bl false) s4 := by
  unfold chM; simp
theorem eqD_t2 {a b c d : Int} : eqD (.tup [.int a, .int b]) (.tup [.int c, .int d]) = some (.bl (a == c && (b == d && true))) := rfl
theorem neD_t2 {a b c d : Int} : neD (.tup [.int a, .int b]) (.tup [.int c, .int d]) = some (.bl (!(a == c && (b == d && true)))) := rfl
end Vl
namespace Vl.P
open Vl
/-! ### what every law begins with -/
noncomputable def body__law_mixed : M Out := seqM (asgM (binM modD (binM addD (binM addD (binM mulD (varM 0) (rtn (.int 48271))) (binM mulD (varM 1) (rtn (.int 69621)))) (rtn (.int 12345))) (rtn (.int 2147483647))) (setM 2))
 (retM (binM modD (binM addD (binM mulD (varM 2) (binM addD (binM fdivD (varM 2) (rtn (.int 65536))) (rtn (.int 3)))) (varM 1)) (rtn (.int 2147483647))))
noncomputable def den__law_mixed : Den := fnDen 2 3 body__law_mixed
noncomputable def body__law_numbers : M Out := seqM (ownM 1 (lstM (rtn [])))
 (seqM (forM (itxM (varM 0)) (setM 2) (ifM (tstM (binM geV (varM 2) (binM powD (rtn (.int 10)) (rtn (.int 18))))) (seqM (asgM (varM 2) (setM 3))
 (forM (bnd (consM (rtn (.int 60)) (rtn [])) (fun xs => opt (rng1 xs))) (setM 4) (ifM (tstM (binM gtV (varM 3) (rtn (.int 0)))) (seqM (dropM (mutvM appF 1 (consM (binM modD (varM 3) (rtn (.int 1000000))) (rtn []))))
 (asgM (binM fdivD (varM 3) (rtn (.int 1000000))) (setM 3))) (rtn .nx)))) (seqM (dropM (mutvM appF 1 (consM (binM modD (varM 2) (rtn (.int 1000000))) (rtn []))))
 (forM (bnd (consM (rtn (.int 5)) (rtn [])) (fun xs => opt (rng1 xs))) (setM 4) (dropM (mutvM appF 1 (consM (binM modD (callM den__law_mixed (consM (callM den__law_mixed (consM (binM modD (varM 2) (rtn (.int 2147483647))) (consM (varM 4) (rtn [])))) (consM (binM addD (varM 4) (rtn (.int 7))) (rtn [])))) (rtn (.int 1000000))) (rtn []))))))))
 (retM (varM 1)))
noncomputable def den__law_numbers : Den := fnDen 1 5 body__law_numbers
noncomputable def body__law_draw : M Out := seqM (asgM (ixvM 0 (rtn (.int 1))) (setM 2))
 (seqM (asgM (binM addD (varM 2) (rtn (.int 1))) (putvM 0 (rtn (.int 1))))
 (seqM (ifM (tstM (binM ltV (varM 2) (lookM1 lenD (lookM (ixvM 0 (rtn (.int 0))))))) (retM (binM modD (ixM (ixvM 0 (rtn (.int 0))) (varM 2)) (varM 1))) (rtn .nx))
 (seqM (asgM (binM addD (rtn (.int 1)) (varM 2)) (setM 3))
 (seqM (ifM (tstM (binM gtV (lookM1 lenD (lookM (ixvM 0 (rtn (.int 0))))) (rtn (.int 0)))) (asgM (binM addD (varM 3) (binM mulD (rtn (.int 1009)) (ixM (ixvM 0 (rtn (.int 0))) (rtn (.int 0))))) (setM 3)) (rtn .nx))
 (retM (binM modD (binM fdivD (callM den__law_mixed (consM (callM den__law_mixed (consM (varM 3) (consM (varM 2) (rtn [])))) (consM (rtn (.int 5)) (rtn [])))) (rtn (.int 7))) (varM 1)))))))
noncomputable def den__law_draw : Den := fnDen 2 4 body__law_draw
mutual
noncomputable def den__law_equal : Nat → Den
  | 0 => noDen
  | n + 1 => fnDen 2 2 (seqM (ifM (truM (isiM "list" (varM 1))) (retM (andV (isiM "list" (varM 0)) (andV (binM eqD (lookM1 lenD (peekM 0)) (lookM1 lenD (peekM 1))) (callM (den__law_all_equal n) (consM (varM 0) (consM (varM 1) (rtn []))))))) (rtn .nx))
 (seqM (ifM (truM (isiM "tuple" (varM 1))) (retM (andV (isiM "tuple" (varM 0)) (andV (binM eqD (lookM1 lenD (peekM 0)) (lookM1 lenD (peekM 1))) (callM (den__law_all_equal n) (consM (varM 0) (consM (varM 1) (rtn []))))))) (rtn .nx))
 (seqM (ifM (truM (isiM "bool" (varM 1))) (retM (andV (isiM "bool" (varM 0)) (binM eqD (varM 0) (varM 1)))) (rtn .nx))
 (seqM (ifM (truM (isiM "int" (varM 1))) (retM (andV (isiM "int" (varM 0)) (andV (notV (isiM "bool" (varM 0))) (binM eqD (varM 0) (varM 1))))) (rtn .nx))
 (seqM (ifM (truM (isiM "str" (varM 1))) (retM (andV (isiM "str" (varM 0)) (binM eqD (varM 0) (varM 1)))) (rtn .nx))
 (retM (binM isNV (varM 0) (rtn .non))))))))
noncomputable def den__law_all_equal : Nat → Den
  | 0 => noDen
  | n + 1 => fnDen 2 3 (seqM (forM (bnd (consM (lookM1 lenD (peekM 1)) (rtn [])) (fun xs => opt (rng1 xs))) (setM 2) (ifM (notM (truM (callM (den__law_equal n) (consM (ixvM 0 (varM 2)) (consM (ixvM 1 (varM 2)) (rtn [])))))) (retM (rtn (.bl false))) (rtn .nx)))
 (retM (rtn (.bl true))))
end
def mixI (n k : Int) : Int := ((n * 48271 + k * 69621 + 12345) % 2147483647 * ((n * 48271 + k * 69621 + 12345) % 2147483647 / 65536 + 3) + k) % 2147483647
theorem mixI_range (n k : Int) : 0 ≤ mixI n k ∧ mixI n k < 2147483647 := by unfold mixI; omega
theorem mixed_ok (n k : Int) (m : List MO) : den__law_mixed [.int n, .int k] m = .ok (.int (mixI n k)) m := by
  refine fn_ok rfl ?_
  have h1 : mulD (.int n) (.int 48271) = some (.int (n * 48271)) := mulD_ii (by omega)
  have h2 : mulD (.int k) (.int 69621) = some (.int (k * 69621)) := mulD_ii (by omega)
  have h3 : ∀ a : Int, mulD (.int ((n * 48271 + k * 69621 + 12345) % 2147483647)) (.int a) = some (.int ((n * 48271 + k * 69621 + 12345) % 2147483647 * a)) := fun a => mulD_ii (by omega)
  simp [body__law_mixed, h1, h2, h3, modD_ii, fdivD_ii, mixI]
/-- a list of numbers, none below 0 -/
def Nn (ns : List Int) : Prop := ∀ x ∈ ns, 0 ≤ x ∧ x < 1000000
theorem Nn.app {ns : List Int} (h : Nn ns) {x : Int} (hx : 0 ≤ x ∧ x < 1000000) : Nn (ns ++ [x]) := fun y hy => by
  rcases List.mem_append.mp hy with hy | hy
  · exact h y hy
  · simp at hy; subst hy; exact hx
/-- numbers.append(x) -/
theorem ru_app {E : String → DS → Prop} {env : List Slot} {mem : List MO} {i : Nat} {f : M D} {Q : D → DS → Prop} {xs : List D} (hs : env[i]? = some (.own xs)) (hl : xs.length < 1000000)
    (h : ru E f ⟨env, mem⟩ fun y s1 => s1 = ⟨env, mem⟩ ∧ Q .non ⟨env.set i (.own (xs ++ [y])), mem⟩) : ru E (mutvM appF i (consM f (rtn []))) ⟨env, mem⟩ Q := by
  have e : mutvM appF i (consM f (rtn [])) ⟨env, mem⟩ = (bnd (consM f (rtn [])) fun as => mutAt appF i as) ⟨env, mem⟩ := by
    unfold mutvM seeL
    rw [show (⟨env, mem⟩ : DS).env = env from rfl, hs]
    exact if_pos rfl
  have : ru E (bnd (consM f (rtn [])) fun as => mutAt appF i as) ⟨env, mem⟩ Q := by
    simp only [ru_bnd, ru_cons, ru_rtn]
    refine ru_mono h fun y s1 ⟨e1, q⟩ => ?_
    subst e1
    refine ru_eq (a := .non) (s' := ⟨env.set i (.own (xs ++ [y])), mem⟩) ?_ q
    have e2 : appF xs [y] = some (.non, xs ++ [y]) := if_pos hl
    unfold mutAt
    rw [show (⟨env, mem⟩ : DS).env = env from rfl, hs]
    dsimp only
    rw [e2]
  unfold ru at this ⊢
  rw [e]
  exact this
theorem numbers_ok (ns : List Int) (hl : ns.length ≤ 63) (m : List MO) : ∃ nums, Nn nums ∧ den__law_numbers [.frl (ns.map .int)] m = .ok (.lst (nums.map .int)) m := by
  have : ∃ d m', den__law_numbers [.frl (ns.map .int)] m = .ok d m' ∧ (∃ nums : List Int, Nn nums ∧ d = .lst (nums.map .int) ∧ m' = m) := by
    refine fn_ex rfl ?_
    unfold body__law_numbers
    simp only [ru_seq, ru_own, ru_lst, ru_rtn, ru_for, ru_itM, ru_itx]
    refine ⟨by simp, ?_⟩
    simp only [List.map_cons, List.map_nil, List.cons_append, List.nil_append, List.replicate, List.set_cons_succ, List.set_cons_zero, ru_var, slotV_val0, itemsX_frl, ru_opt_some]
    refine ru_forI (fun i s => ∃ (nums : List Int) (c2 c3 c4 : Slot), s = ⟨[.val (.frl (ns.map .int)), .own (nums.map .int), c2, c3, c4], m⟩ ∧ Nn nums ∧ nums.length ≤ 60 * i) ⟨[], .un, .un, .un, rfl, fun _ h => (by cases h), by simp⟩ (fun i d s hi hI => ?_) (fun s hI => ?_)
    · obtain ⟨nums, c2, c3, c4, rfl, hn, hlen⟩ := hI
      have hi63 : i < 63 := by
        have := (List.getElem?_eq_some_iff.mp hi).1
        simp at this; omega
      rw [List.getElem?_map] at hi
      cases ec : ns[i]? with
      | none => rw [ec] at hi; cases hi
      | some cell =>
        rw [ec] at hi
        cases hi
        have hp : powD (.int 10) (.int 18) = some (.int 1000000000000000000) := rfl
        simp only [ru_set, List.set_cons_succ, List.set_cons_zero, ru_if, ru_tst, ru_binM, ru_var, slotV_succ, slotV_val0, ru_rtn, hp, ru_opt_some, geV_ii, asB_bl]
        split
        · -- a great number
          rename_i hc
          simp only [ru_seq, ru_asg, ru_var, slotV_succ, slotV_val0, ru_set, List.set_cons_succ, List.set_cons_zero, ru_for, ru_bnd, ru_cons, ru_rtn, rng1_int (j := 60) (by decide) (by decide), ru_opt_some]
          refine ru_forI (fun j s => ∃ (nums' : List Int) (rest : Int) (c4 : Slot), s = ⟨[.val (.frl (ns.map .int)), .own (nums'.map .int), .val (.int cell), .val (.int rest), c4], m⟩ ∧ Nn nums' ∧ nums'.length ≤ 60 * i + j) ⟨nums, cell, c4, rfl, hn, by omega⟩ (fun j d s hj hJ => ?_) (fun s hJ => ?_)
          · obtain ⟨nums', rest, c4, rfl, hn', hlen'⟩ := hJ
            obtain ⟨hj2, rfl⟩ := rngL_get hj
            have hj3 : j < 60 := by simpa using hj2
            simp only [ru_set, List.set_cons_succ, List.set_cons_zero, ru_if, ru_tst, ru_binM, ru_var, slotV_succ, slotV_val0, ru_rtn, ru_opt_some, gtV_ii, asB_bl]
            split
            · rename_i hr
              have hr : 0 < rest := of_decide_eq_true hr
              simp only [ru_seq, ru_drop]
              refine ru_app (xs := nums'.map .int) rfl (by rw [List.length_map]; omega) ?_
              simp only [ru_binM, ru_var, slotV_succ, slotV_val0, ru_rtn, modD_ii (show (0 : Int) < 1000000 by decide), ru_opt_some]
              refine ⟨trivial, ?_⟩
              simp only [ru_asg, ru_binM, ru_var, slotV_succ, slotV_val0, ru_rtn, List.set_cons_succ, List.set_cons_zero, fdivD_ii (show (0 : Int) < 1000000 by decide) (show (1000000 : Int) < 1073741824 by decide), ru_opt_some, ru_set, stepQ_nx]
              exact ⟨nums' ++ [rest % 1000000], rest / 1000000, .val (.int (0 + (j : Nat))), by simp, hn'.app (by omega), by simp; omega⟩
            · simp only [stepQ_nx]
              exact ⟨nums', rest, _, rfl, hn', by omega⟩
          · obtain ⟨nums', rest, c4, rfl, hn', hlen'⟩ := hJ
            simp only [rngL_length] at hlen'
            simp only [stepQ_nx]
            exact ⟨nums', _, _, _, rfl, hn', by
              have : (60 : Int).toNat = 60 := rfl
              rw [this] at hlen'
              omega⟩
        · simp only [ru_seq, ru_drop]
          refine ru_app (xs := nums.map .int) rfl (by rw [List.length_map]; omega) ?_
          simp only [ru_binM, ru_var, slotV_succ, slotV_val0, ru_rtn, modD_ii (show (0 : Int) < 1000000 by decide), ru_opt_some]
          refine ⟨trivial, ?_⟩
          simp only [List.set_cons_succ, List.set_cons_zero, ru_for, ru_bnd, ru_cons, ru_rtn, rng1_int (j := 5) (by decide) (by decide), ru_opt_some]
          refine ru_forI (fun j s => ∃ (nums' : List Int) (c3 c4 : Slot), s = ⟨[.val (.frl (ns.map .int)), .own (nums'.map .int), .val (.int cell), c3, c4], m⟩ ∧ Nn nums' ∧ nums'.length ≤ 60 * i + 1 + j) ⟨nums ++ [cell % 1000000], c3, c4, by simp, hn.app (by omega), by simp; omega⟩ (fun j d s hj hJ => ?_) (fun s hJ => ?_)
          · obtain ⟨nums', c3, c4, rfl, hn', hlen'⟩ := hJ
            obtain ⟨hj2, rfl⟩ := rngL_get hj
            have hj3 : j < 5 := by simpa using hj2
            simp only [ru_set, List.set_cons_succ, List.set_cons_zero, ru_drop]
            refine ru_app (xs := nums'.map .int) rfl (by rw [List.length_map]; omega) ?_
            simp only [ru_binM, ru_call, ru_cons, ru_var, slotV_succ, slotV_val0, ru_rtn, modD_ii (show (0 : Int) < 2147483647 by decide), modD_ii (show (0 : Int) < 1000000 by decide), ru_opt_some, mixed_ok, frQ_ok, addD_ii]
            refine ⟨trivial, ?_⟩
            simp only [stepQ_nx, List.set_cons_succ, List.set_cons_zero]
            exact ⟨_, _, _, by rw [← List.map_singleton, ← List.map_append], hn'.app (by omega), by simp; omega⟩
          · obtain ⟨nums', c3, c4, rfl, hn', hlen'⟩ := hJ
            simp only [rngL_length] at hlen'
            simp only [stepQ_nx]
            exact ⟨nums', _, _, _, rfl, hn', by
              have : (5 : Int).toNat = 5 := rfl
              rw [this] at hlen'
              omega⟩
    · obtain ⟨nums, c2, c3, c4, rfl, hn, hlen⟩ := hI
      simp only [ru_ret, ru_var, slotV_succ, slotV_own0, Slot.shut]
      exact ⟨nums, hn, rfl, trivial⟩
  obtain ⟨d, m', e, nums, hn, rfl, rfl⟩ := this
  exact ⟨nums, hn, e⟩
/-- the draws stand at place 0 -/
def Drw (mem : List MO) : Prop := ∃ (nums : List Int) (at' : Int) (rest : List MO), mem = .lst [.lst (nums.map .int), .int at'] :: rest ∧ Nn nums ∧ 0 ≤ at'
theorem ixD_at {xs : List D} {i : Int} {d : D} (h0 : 0 ≤ i) (h : xs[i.toNat]? = some d) : ixD (.lst xs) (.int i) = some d := by
  have hl : i.toNat < xs.length := (List.getElem?_eq_some_iff.mp h).1
  show ((L2.ixN xs.length i).bind fun j => xs[j]?) = some d
  unfold L2.ixN
  rw [if_pos h0, if_pos (by omega)]
  exact h
theorem draw_ok {mem : List MO} (hd : Drw mem) (many : Int) (hm : 0 < many) : ∃ v mem', den__law_draw [.mut 0, .int many] mem = .ok (.int v) mem' ∧ 0 ≤ v ∧ v < many ∧ Drw mem' ∧ mem'.tail = mem.tail := by
  obtain ⟨nums, at', rest, rfl, hn, ha⟩ := hd
  have : ∃ d m', den__law_draw [.mut 0, .int many] (.lst [.lst (nums.map .int), .int at'] :: rest) = .ok d m' ∧ (∃ v, d = .int v ∧ 0 ≤ v ∧ v < many ∧ m' = .lst [.lst (nums.map .int), .int (at' + 1)] :: rest) := by
    refine fn_ex rfl ?_
    have i0 : ∀ a b : D, ixD (.lst [a, b]) (.int 0) = some a := fun a b => rfl
    have i1 : ∀ a b : D, ixD (.lst [a, b]) (.int 1) = some b := fun a b => rfl
    have hput : ∀ (env : List Slot) (a b d : D) (Q : Unit → DS → Prop), env[0]? = some (.val (.mut 0)) → Q () ⟨env, .lst [a, d] :: rest⟩ → ru NE (putvM 0 (rtn (.int 1)) d) ⟨env, .lst [a, b] :: rest⟩ Q := fun env a b d Q he q => by
      refine ru_eq (a := ()) (s' := ⟨env, .lst [a, d] :: rest⟩) ?_ q
      unfold putvM seeB
      rw [show (⟨env, MO.lst [a, b] :: rest⟩ : DS).env = env from rfl, he]
      show (if true = true then (bnd (rtn (.int 1)) fun k => putAt 0 k d) ⟨env, MO.lst [a, b] :: rest⟩ else R.stuck) = _
      rw [if_pos rfl]
      show putAt 0 (.int 1) d ⟨env, MO.lst [a, b] :: rest⟩ = _
      unfold putAt
      rw [show (⟨env, MO.lst [a, b] :: rest⟩ : DS).env = env from rfl, he]
      rfl
    unfold body__law_draw
    simp only [List.map_cons, List.map_nil, List.cons_append, List.nil_append, List.replicate, ru_seq, ru_asg, ru_ixv', List.getElem?_cons_zero, knownB_val, ru_rtn, peekD_val0, lookD_mut0, shut_lst, Option.bind_some, i1, ru_opt_some, ru_set, List.set_cons_succ, List.set_cons_zero, true_and, ru_binM, ru_var, slotV_succ, slotV_val0, addD_ii]
    refine hput _ _ _ _ _ rfl ?_
    simp only [ru_if, ru_tst, ru_binM, ru_var, slotV_succ, slotV_val0, ru_look1, ru_look, ru_ixv', List.getElem?_cons_zero, knownB_val, ru_rtn, peekD_val0, lookD_mut0, shut_lst, Option.bind_some, i0, ru_opt_some, lookD_lst, lenD_lst, List.length_map, ltV_ii, asB_bl, true_and]
    by_cases h1 : at' < (nums.length : Int)
    · rw [if_pos (decide_eq_true h1)]
      have hx : ∃ x, nums[at'.toNat]? = some x := ⟨_, List.getElem?_eq_getElem (by omega)⟩
      obtain ⟨x, hx⟩ := hx
      have hix : ixD (.lst (nums.map .int)) (.int at') = some (.int x) := ixD_at ha (by rw [List.getElem?_map, hx]; rfl)
      simp only [ru_ret, ru_binM, ru_ix, ru_ixv', List.getElem?_cons_zero, knownB_val, ru_rtn, peekD_val0, lookD_mut0, shut_lst, Option.bind_some, i0, ru_opt_some, ru_var, slotV_succ, slotV_val0, lookD_lst, hix, modD_ii hm, true_and]
      exact ⟨x % many, rfl, Int.emod_nonneg _ (by omega), Int.emod_lt_of_pos _ hm, trivial⟩
    · rw [if_neg (by simpa using h1)]
      simp only [ru_rtn, ru_asg, ru_binM, ru_var, slotV_succ, slotV_val0, addD_ii, ru_opt_some, ru_set, List.set_cons_succ, List.set_cons_zero, ru_if, ru_tst, ru_look1, ru_look, ru_ixv', List.getElem?_cons_zero, knownB_val, peekD_val0, lookD_mut0, shut_lst, Option.bind_some, i0, lookD_lst, lenD_lst, List.length_map, gtV_ii, asB_bl, true_and]
      have fin : ∀ a b : Int, ∃ v, D.int (mixI (mixI a at') 5 / 7 % many) = .int v ∧ 0 ≤ v ∧ v < many ∧ True := fun a b => ⟨_, rfl, Int.emod_nonneg _ (by omega), Int.emod_lt_of_pos _ hm, trivial⟩
      by_cases h2 : (0 : Int) < (nums.length : Int)
      · rw [if_pos (decide_eq_true h2)]
        have hx : ∃ x, nums[(0 : Int).toNat]? = some x := ⟨_, List.getElem?_eq_getElem (by simpa using h2)⟩
        obtain ⟨x, hx⟩ := hx
        have hix : ixD (.lst (nums.map .int)) (.int 0) = some (.int x) := ixD_at (Int.le_refl _) (by rw [List.getElem?_map, hx]; rfl)
        have hm1 : ∀ y, mulD (.int 1009) (.int y) = some (.int (1009 * y)) := fun y => mulD_ii (by omega)
        simp only [ru_asg, ru_ix, ru_binM, ru_ixv', List.getElem?_cons_zero, knownB_val, ru_rtn, peekD_val0, lookD_mut0, shut_lst, Option.bind_some, i0, ru_opt_some, ru_var, slotV_succ, slotV_val0, lookD_lst, hix, hm1, addD_ii, ru_set, List.set_cons_succ, List.set_cons_zero, ru_ret, ru_call, ru_cons, mixed_ok, frQ_ok, fdivD_ii (show (0 : Int) < 7 by decide) (show (7 : Int) < 1073741824 by decide), modD_ii hm, true_and]
        exact fin _ 0
      · rw [if_neg (by simpa using h2)]
        simp only [ru_rtn, ru_ret, ru_binM, ru_call, ru_cons, ru_var, slotV_succ, slotV_val0, mixed_ok, frQ_ok, fdivD_ii (show (0 : Int) < 7 by decide) (show (7 : Int) < 1073741824 by decide), modD_ii hm, ru_opt_some]
        exact fin _ 0
  obtain ⟨d, m', e, v, rfl, h1, h2, rfl⟩ := this
  exact ⟨v, _, e, h1, h2, ⟨nums, at' + 1, rest, rfl, hn, by omega⟩, rfl⟩

/-! equal values are told equal -/
mutual
inductive SameD : D → D → Prop
  | non : SameD .non .non
  | bl (b : Bool) : SameD (.bl b) (.bl b)
  | int (i : Int) : SameD (.int i) (.int i)
  | str (x : PySem.Str) : SameD (.str x) (.str x)
  | tup {xs ys : List D} : SameDs xs ys → SameD (.tup xs) (.tup ys)
  | lst {xs ys : List D} : SameDs xs ys → SameD (.lst xs) (.lst ys)
  | lf {xs ys : List D} : SameDs xs ys → SameD (.lst xs) (.frl ys)
  | fl {xs ys : List D} : SameDs xs ys → SameD (.frl xs) (.lst ys)
  | ff {xs ys : List D} : SameDs xs ys → SameD (.frl xs) (.frl ys)
inductive SameDs : List D → List D → Prop
  | nil : SameDs [] []
  | cons {a b : D} {xs ys : List D} : SameD a b → SameDs xs ys → SameDs (a :: xs) (b :: ys)
end
theorem SameDs.len : ∀ {xs ys : List D}, SameDs xs ys → xs.length = ys.length
  | _, _, .nil => rfl
  | _, _, .cons _ h => by simp [h.len]
theorem SameDs.get : ∀ {xs ys : List D} {i : Nat} {b : D}, SameDs xs ys → ys[i]? = some b → ∃ a, xs[i]? = some a ∧ SameD a b
  | _, _, 0, _, .cons h _, e => by simp at e; subst e; exact ⟨_, rfl, h⟩
  | _, _, i + 1, _, .cons _ h, e => by
    obtain ⟨a, h1, h2⟩ := h.get (i := i) (by simpa using e)
    exact ⟨a, by simpa using h1, h2⟩
mutual
def dpD : D → Nat
  | .tup xs => dpDs xs + 1
  | .lst xs => dpDs xs + 1
  | .frl xs => dpDs xs + 1
  | _ => 0
def dpDs : List D → Nat
  | [] => 0
  | x :: xs => max (dpD x) (dpDs xs)
end
theorem dpDs_get : ∀ {xs : List D} {i : Nat} {b : D}, xs[i]? = some b → dpD b ≤ dpDs xs
  | [], i, b, h => by simp at h
  | x :: xs, 0, b, h => by simp at h; subst h; rw [dpDs]; exact Nat.le_max_left _ _
  | x :: xs, i + 1, b, h => by
    have := dpDs_get (xs := xs) (i := i) (by simpa using h)
    rw [dpDs]; exact Nat.le_trans this (Nat.le_max_right _ _)
/-- what is shown of a list's or a tuple's items -/
def Seqs : D → List D → Prop
  | .tup xs, ys => xs = ys
  | .lst xs, ys => xs = ys
  | .frl xs, ys => xs = ys
  | _, _ => False
theorem Seqs.ix {d : D} {xs : List D} (h : Seqs d xs) {i : Nat} {a : D} (e : xs[i]? = some a) (s : DS) : ixD (lookD s d) (.int (i : Int)) = some a := by
  have hl : i < xs.length := (List.getElem?_eq_some_iff.mp e).1
  have go : ((L2.ixN xs.length (i : Int)).bind fun j => xs[j]?) = some a := by
    unfold L2.ixN
    rw [if_pos (by omega), if_pos (by omega)]
    exact e
  cases d with
  | tup ys => cases h; exact go
  | lst ys => cases h; exact go
  | frl ys => cases h; exact go
  | _ => exact h.elim
theorem Seqs.len {d : D} {xs : List D} (h : Seqs d xs) (s : DS) : lenD (lookD s d) = some (.int xs.length) := by
  cases d with
  | tup ys => cases h; rfl
  | lst ys => cases h; rfl
  | frl ys => cases h; rfl
  | _ => exact h.elim
theorem all_equal_okw {g : Nat} {x y : D} {xs ys : List D} {m : List MO} (hx : Seqs x xs) (hy : Seqs y ys) (hs : SameDs xs ys) (hn : ys.length ≤ 1000000)
    (ih : ∀ (i : Nat) a b, ys[i]? = some b → SameD a b → dpD b ≤ dpDs ys → den__law_equal g [a, b] m = .ok (.bl true) m) : den__law_all_equal (g + 1) [x, y] m = .ok (.bl true) m := by
  rw [den__law_all_equal]
  refine fn_ok rfl ?_
  simp only [List.map_cons, List.map_nil, List.cons_append, List.nil_append, List.replicate, ru_seq, ru_for, ru_bnd, ru_cons, ru_look1, ru_peek, peekD_succ, peekD_val0, ru_rtn]
  refine ⟨_, rfl, ?_⟩
  rw [hy.len]
  simp only [ru_opt_some, rng1_int (show (-(2 ^ 62) : Int) ≤ (ys.length : Int) by omega) (show (ys.length : Int) < 2 ^ 62 by omega)]
  refine ru_forI (fun i s => ∃ c : Slot, s = ⟨[.val x, .val y, c], m⟩) ⟨.un, rfl⟩ (fun i d s hi ⟨c, hI⟩ => ?_) (fun s ⟨c, hI⟩ => ?_)
  · subst hI
    obtain ⟨h1, rfl⟩ := rngL_get hi
    have h1 : i < ys.length := by simpa using h1
    have hy1 : ys[i]? = some ys[i] := List.getElem?_eq_getElem h1
    obtain ⟨a, ha, hab⟩ := hs.get hy1
    have ey := fun s => hy.ix hy1 s
    have ex := fun s => hx.ix ha s
    simp only [ru_set, List.set_cons_succ, List.set_cons_zero, ru_if, ru_not, ru_tru, ru_call, ru_cons, ru_ixv', List.getElem?_cons_zero, List.getElem?_cons_succ, knownB_val, ru_var, slotV_succ, slotV_val0, peekD_succ, peekD_val0, Option.bind_some, Int.zero_add, ex, ey, ru_opt_some, ru_rtn, true_and, ih i a _ hy1 hab (dpDs_get hy1), frQ_ok, truD_bl, Bool.not_true, Bool.false_eq_true, if_false, stepQ_nx]
    exact ⟨_, rfl⟩
  · subst hI
    simp only [ru_ret, ru_rtn, true_or, and_self]
mutual
/-- no list is very long -/
def wideD : D → Bool
  | .tup xs => decide (xs.length ≤ 1000000) && wideDs xs
  | .lst xs => decide (xs.length ≤ 1000000) && wideDs xs
  | .frl xs => decide (xs.length ≤ 1000000) && wideDs xs
  | _ => true
def wideDs : List D → Bool
  | [] => true
  | x :: xs => wideD x && wideDs xs
end
theorem wideDs_get : ∀ {xs : List D} {b : D}, wideDs xs = true → b ∈ xs → wideD b = true
  | x :: xs, b, h, m => by
    rw [wideDs, Bool.and_eq_true] at h
    rcases List.mem_cons.mp m with rfl | m
    · exact h.1
    · exact wideDs_get h.2 m
theorem equal_ok : ∀ (n : Nat) (a b : D) (m : List MO) (fuel : Nat), SameD a b → dpD b ≤ n → 2 * n + 1 ≤ fuel → wideD b = true → den__law_equal fuel [a, b] m = .ok (.bl true) m := by
  intro n
  induction n with
  | zero =>
    intro a b m fuel h hd hf hw
    obtain ⟨f, rfl⟩ : ∃ f, fuel = f + 1 := ⟨fuel - 1, by omega⟩
    rw [den__law_equal]
    refine fn_ok rfl ?_
    cases h with
    | non => simp [isNon]
    | bl b => simp
    | int i => simp
    | str x => simp
    | tup _ => rw [dpD] at hd; omega
    | lst _ => rw [dpD] at hd; omega
    | lf _ => rw [dpD] at hd; omega
    | fl _ => rw [dpD] at hd; omega
    | ff _ => rw [dpD] at hd; omega
  | succ n ih =>
    intro a b m fuel h hd hf hw
    obtain ⟨f, rfl⟩ : ∃ f, fuel = f + 1 + 1 := ⟨fuel - 2, by omega⟩
    have go : ∀ (xs ys : List D), SameDs xs ys → dpDs ys ≤ n → ys.length ≤ 1000000 → wideDs ys = true → ∀ (x y : D), Seqs x xs → Seqs y ys → den__law_all_equal (f + 1) [x, y] m = .ok (.bl true) m := fun xs ys hs hd hl hw x y hx hy => by
      have hs' : ∀ (i : Nat) (b : D), ys[i]? = some b → wideD b = true := fun i b e => wideDs_get hw (List.mem_of_getElem? e)
      refine all_equal_okw hx hy hs hl fun i a b hb hab hdb => ?_
      exact ih a b m f hab (by omega) (by omega) (hs' i b hb)
    rw [den__law_equal]
    refine fn_ok rfl ?_
    cases h with
    | non => simp [isNon]
    | bl b => simp
    | int i => simp
    | str x => simp
    | tup hs =>
      rename_i xs ys
      rw [dpD] at hd
      rw [wideD, Bool.and_eq_true] at hw
      simp [go xs ys hs (by omega) (of_decide_eq_true hw.1) hw.2 (.tup xs) (.tup ys) rfl rfl, hs.len]
    | lst hs =>
      rename_i xs ys
      rw [dpD] at hd
      rw [wideD, Bool.and_eq_true] at hw
      simp [go xs ys hs (by omega) (of_decide_eq_true hw.1) hw.2 (.lst xs) (.lst ys) rfl rfl, hs.len]
    | lf hs =>
      rename_i xs ys
      rw [dpD] at hd
      rw [wideD, Bool.and_eq_true] at hw
      simp [go xs ys hs (by omega) (of_decide_eq_true hw.1) hw.2 (.lst xs) (.frl ys) rfl rfl, hs.len]
    | fl hs =>
      rename_i xs ys
      rw [dpD] at hd
      rw [wideD, Bool.and_eq_true] at hw
      simp [go xs ys hs (by omega) (of_decide_eq_true hw.1) hw.2 (.frl xs) (.lst ys) rfl rfl, hs.len]
    | ff hs =>
      rename_i xs ys
      rw [dpD] at hd
      rw [wideD, Bool.and_eq_true] at hw
      simp [go xs ys hs (by omega) (of_decide_eq_true hw.1) hw.2 (.frl xs) (.frl ys) rfl rfl, hs.len]
end Vl.P
namespace Vl
open PySem PySem.Spec PyProof.Rows
theorem ru_compI {E : String → DS → Prop} {s : DS} {vs : List Nat} {fi : M (List D)} {g : D → M Unit} {t : M Bool} {el : M D} {Q : List D → DS → Prop} : ru E (compM vs fi g t el) s Q ↔ ru E fi s fun items s1 => anyOwn vs s1.env = false ∧ items.length ≤ 1000000 ∧ ru NE (lcL vs g t el items []) s1 fun acc s2 => Q acc ⟨restE s1.env s2.env vs, s2.mem⟩ := by
  refine ⟨fun h => ?_, ru_comp⟩
  unfold compM at h
  rw [ru_bnd] at h
  refine ru_mono h fun items s1 q => ?_
  have q : ru E (fun s1 => if anyOwn vs s1.env = false ∧ items.length ≤ 1000000 then (noErr (lcL vs g t el items [] s1)).bind fun acc s2 => .ok acc { s2 with env := restE s1.env s2.env vs } else .stuck) s1 Q := q
  unfold ru at q
  dsimp only at q
  by_cases hc : anyOwn vs s1.env = false ∧ items.length ≤ 1000000
  · rw [if_pos hc] at q
    refine ⟨hc.1, hc.2, ?_⟩
    unfold ru
    cases e : lcL vs g t el items [] s1 with
    | ok acc s2 => rw [e] at q; exact q
    | err c s2 => rw [e] at q; exact q.elim
    | stuck => rw [e] at q; exact q.elim
  · rw [if_neg hc] at q; exact q.elim
@[simp] theorem isS_str {z : PySem.Str} : isS (.str z) = true := rfl
@[simp] theorem ru_join {E : String → DS → Prop} {s : DS} {fa fb : M D} {Q : D → DS → Prop} : ru E (joinM fa fb) s Q ↔ ru E fa s fun x s1 => isS x = true ∧ ru E fb s1 fun y s2 => ru E (opt (joinD x (lookD s2 y))) s2 Q := by
  unfold joinM
  rw [ru_bnd]
  have e : ∀ x s1, ru E (if isS x = true then bnd fb fun y s => opt (joinD x (lookD s y)) s else fun _ => .stuck) s1 Q ↔ (isS x = true ∧ ru E fb s1 fun y s2 => ru E (opt (joinD x (lookD s2 y))) s2 Q) := fun x s1 => by
    by_cases h : isS x = true
    · rw [if_pos h]
      simp only [h, true_and, ru_bnd]
      exact Iff.rfl
    · rw [if_neg h]; simp [h]
  constructor
  · intro h; exact ru_mono h fun x s1 q => (e x s1).mp q
  · intro h; exact ru_mono h fun x s1 q => (e x s1).mpr q
@[simp] theorem ru_rev {E : String → DS → Prop} {s : DS} {f : M D} {Q : D → DS → Prop} : ru E (revM f) s Q ↔ ru E f s fun d s1 => ru E (opt (revD (lookD s1 d))) s1 Q := by unfold revM; rw [ru_bnd]; exact Iff.rfl
@[simp] theorem revD_lst {xs : List D} : revD (.lst xs) = some (.lst xs.reverse) := rfl
@[simp] theorem revD_frl {xs : List D} : revD (.frl xs) = some (.lst xs.reverse) := rfl
@[simp] theorem ru_part {E : String → DS → Prop} {s : DS} {f : M D} {Q : Option Int → DS → Prop} : ru E (partM f) s Q ↔ ru E f s fun d s1 => ru E (opt (asI d)) s1 fun i s2 => Q (some i) s2 := by unfold partM; simp
@[simp] theorem asI_int {i : Int} : asI (.int i) = some i := rfl
@[simp] theorem ru_sl {E : String → DS → Prop} {s : DS} {f : M D} {lo hi : M (Option Int)} {Q : D → DS → Prop} : ru E (slM f lo hi) s Q ↔ ru E f s fun d s1 => ru E lo s1 fun l s2 => ru E hi s2 fun h s3 => ru E (opt (slD (lookD s3 d) l h)) s3 Q := by
  unfold slM; simp only [ru_bnd]; exact Iff.rfl
/-! ### texts by their signs -/
abbrev txt (l : List Nat) : D := .str ⟨l.toArray⟩
theorem txt_inj {a b : List Nat} : txt a = txt b ↔ a = b := by
  constructor
  · intro h
    have := D.str.inj h
    have := PySem.Str.mk.inj this
    simpa using this
  · intro h; rw [h]
theorem addD_tt {a b : List Nat} (h : a.length + b.length ≤ 16777216) : addD (txt a) (txt b) = some (txt (a ++ b)) := by
  have e : addD (txt a) (txt b) = if (⟨a.toArray⟩ : PySem.Str).length + (⟨b.toArray⟩ : PySem.Str).length ≤ 16777216 then some (.str ((⟨a.toArray⟩ : PySem.Str) ++ (⟨b.toArray⟩ : PySem.Str))) else none := rfl
  rw [e, if_pos (by simpa [PySem.Str.length] using h)]
  have : ((⟨a.toArray⟩ : PySem.Str) ++ (⟨b.toArray⟩ : PySem.Str)) = ⟨(a ++ b).toArray⟩ := by
    show PySem.Str.mk (a.toArray ++ b.toArray) = _
    simp
  rw [this]
theorem lenD_t {a : List Nat} (h : a.length ≤ 16777216) : lenD (txt a) = some (.int a.length) := by
  have := lenD_str (z := ⟨a.toArray⟩) (by simpa [PySem.Str.length] using h)
  rw [this]
  simp [PySem.Str.length]
theorem ixD_t {l : List Nat} {i : Int} {n : Nat} (h : l.length ≤ 16777216) (h0 : 0 ≤ i) (hi : l[i.toNat]? = some n) : ixD (txt l) (.int i) = some (txt [n]) := by
  have hl : i.toNat < l.length := (List.getElem?_eq_some_iff.mp hi).1
  have e : ixD (txt l) (.int i) = if (⟨l.toArray⟩ : PySem.Str).length ≤ 16777216 then ((L2.ixN (⟨l.toArray⟩ : PySem.Str).cps.toList.length i).bind fun j => (⟨l.toArray⟩ : PySem.Str).cps.toList[j]?).map sign else none := rfl
  rw [e, if_pos (by simpa [PySem.Str.length] using h)]
  have e2 : (⟨l.toArray⟩ : PySem.Str).cps.toList = l := by simp
  rw [e2]
  have e3 : L2.ixN l.length i = some i.toNat := by unfold L2.ixN; rw [if_pos h0, if_pos (by omega)]
  rw [e3]
  show (l[i.toNat]?).map sign = _
  rw [hi]
  rfl
theorem strsD_txt : ∀ ls : List (List Nat), strsD (ls.map txt) = some (ls.map fun l => (⟨l.toArray⟩ : PySem.Str))
  | [] => rfl
  | l :: r => by
    rw [List.map_cons, List.map_cons]
    show (strsD (r.map txt)).map _ = _
    rw [strsD_txt r]
    rfl
theorem glue_fold : ∀ (ls : List (List Nat)) (acc : List Nat), (ls.map fun l => (⟨l.toArray⟩ : PySem.Str)).foldl (fun acc p => acc ++ (⟨#[]⟩ : PySem.Str).cps ++ p.cps) acc.toArray = (acc ++ ls.flatten).toArray
  | [], acc => by simp
  | l :: r, acc => by
    rw [List.map_cons, List.foldl_cons]
    have := glue_fold r (acc ++ l)
    have e : acc.toArray ++ (⟨#[]⟩ : PySem.Str).cps ++ (⟨l.toArray⟩ : PySem.Str).cps = (acc ++ l).toArray := by simp
    rw [e, this]
    simp
theorem join_empty : ∀ ls : List (List Nat), PySem.Txt.join ⟨#[]⟩ (ls.map fun l => (⟨l.toArray⟩ : PySem.Str)) = ⟨ls.flatten.toArray⟩
  | [] => rfl
  | l :: r => by
    show PySem.Builtin.Str.glued ⟨#[]⟩ ((l :: r).map fun l => (⟨l.toArray⟩ : PySem.Str)) = _
    unfold PySem.Builtin.Str.glued
    show PySem.Str.mk ((r.map fun l => (⟨l.toArray⟩ : PySem.Str)).foldl (fun acc p => acc ++ (⟨#[]⟩ : PySem.Str).cps ++ p.cps) l.toArray) = _
    rw [glue_fold]
    simp
theorem sum_len : ∀ ls : List (List Nat), ((ls.map fun l => (⟨l.toArray⟩ : PySem.Str)).map (·.length)).sum = ls.flatten.length
  | [] => rfl
  | l :: r => by
    rw [List.map_cons, List.map_cons, List.sum_cons, sum_len r, List.flatten_cons, List.length_append]
    simp [PySem.Str.length]
theorem joinD_t {ls : List (List Nat)} (h : ls.flatten.length ≤ 16777216) : joinD (txt []) (.lst (ls.map txt)) = some (txt ls.flatten) := by
  show (strsD (ls.map txt)).bind (joinS ⟨#[]⟩) = _
  rw [strsD_txt]
  show joinS ⟨#[]⟩ _ = _
  unfold joinS
  rw [sum_len, if_pos (by simpa [PySem.Str.length] using h)]
  have : PySem.Txt.join (⟨#[]⟩ : PySem.Str) (ls.map fun l => (⟨l.toArray⟩ : PySem.Str)) = ⟨ls.flatten.toArray⟩ := join_empty ls
  rw [this]
theorem revD_t {l : List Nat} (h : l.length ≤ 16777216) : revD (txt l) = some (txt l.reverse) := by
  have e : revD (txt l) = if (⟨l.toArray⟩ : PySem.Str).length ≤ 16777216 then some (.str (revS ⟨l.toArray⟩)) else none := rfl
  rw [e, if_pos (by simpa [PySem.Str.length] using h)]
  simp [revS]
theorem eqD_tt {a b : List Nat} : eqD (txt a) (txt b) = some (.bl (a == b)) := by
  rw [eqD_ss]
  have : ((⟨a.toArray⟩ : PySem.Str) == ⟨b.toArray⟩) = (a == b) := by
    rw [Bool.eq_iff_iff]
    simp
  rw [this]
theorem neD_tt {a b : List Nat} : neD (txt a) (txt b) = some (.bl (!(a == b))) := by
  rw [neD_ss]
  have : ((⟨a.toArray⟩ : PySem.Str) == ⟨b.toArray⟩) = (a == b) := by
    rw [Bool.eq_iff_iff]
    simp
  rw [this]
theorem itemsD_t {l : List Nat} : itemsD (txt l) = some (l.map fun n => txt [n]) := by
  rw [itemsD_str]
  simp [sign]
theorem itemsX_t {l : List Nat} : itemsX (txt l) = some (l.map fun n => txt [n]) := itemsD_t
theorem isi_t_str {l : List Nat} : isiD "str" (txt l) = some (.bl true) := isi_str_str
theorem slD_take {l : List Nat} {k : Int} (h : l.length ≤ 16777216) (h0 : 0 ≤ k) : slD (txt l) none (some k) = some (txt (l.take k.toNat)) := by
  have e : slD (txt l) none (some k) = if (⟨l.toArray⟩ : PySem.Str).length ≤ 16777216 then some (.str (L2.cutS ⟨l.toArray⟩ none (some k))) else none := rfl
  rw [e, if_pos (by simpa [PySem.Str.length] using h)]
  unfold L2.cutS
  have e1 : (⟨l.toArray⟩ : PySem.Str).length = l.length := by simp [PySem.Str.length]
  rw [e1]
  have e2 : HT.sIx l.length l.length (some k) = min k.toNat l.length := by
    show (if k < 0 then _ else min k.toNat l.length) = _
    rw [if_neg (by omega)]
  rw [e2]
  show some (D.str ⟨_⟩) = _
  simp [HT.sIx]
theorem slD_drop {l : List Nat} {k : Int} (h : l.length ≤ 16777216) (h0 : 0 ≤ k) : slD (txt l) (some k) none = some (txt (l.drop k.toNat)) := by
  have e : slD (txt l) (some k) none = if (⟨l.toArray⟩ : PySem.Str).length ≤ 16777216 then some (.str (L2.cutS ⟨l.toArray⟩ (some k) none)) else none := rfl
  rw [e, if_pos (by simpa [PySem.Str.length] using h)]
  unfold L2.cutS
  have e1 : (⟨l.toArray⟩ : PySem.Str).length = l.length := by simp [PySem.Str.length]
  rw [e1]
  have e2 : HT.sIx l.length 0 (some k) = min k.toNat l.length := by
    show (if k < 0 then _ else min k.toNat l.length) = _
    rw [if_neg (by omega)]
  have e3 : HT.sIx l.length l.length none = l.length := rfl
  rw [e2, e3]
  have e4 : (List.drop (min k.toNat l.length) l).take (l.length - min k.toNat l.length) = l.drop k.toNat := by
    rw [List.take_of_length_le (by rw [List.length_drop]; omega)]
    by_cases hk : k.toNat ≤ l.length
    · rw [Nat.min_eq_left hk]
    · rw [List.drop_eq_nil_of_le (by omega), List.drop_eq_nil_of_le (by omega)]
  rw [show (⟨l.toArray⟩ : PySem.Str).cps.toList = l by simp, e4]
theorem mulD_t {l : List Nat} {k : Int} (h0 : 0 ≤ k) (h1 : k ≤ 1000) (hl : l.length ≤ 1000) : mulD (txt l) (.int k) = some (txt (List.replicate k.toNat l).flatten) := by
  have e : mulD (txt l) (.int k) = if -1000000 ≤ k ∧ k ≤ 1000000 ∧ (⟨l.toArray⟩ : PySem.Str).length * k.toNat ≤ 16777216 then some (.str ⟨((List.replicate k.toNat (⟨l.toArray⟩ : PySem.Str).cps.toList).flatten).toArray⟩) else none := rfl
  have e2 : (⟨l.toArray⟩ : PySem.Str).length = l.length := by simp [PySem.Str.length]
  have e3 : l.length * k.toNat ≤ 1000 * 1000 := Nat.mul_le_mul hl (by omega)
  rw [e, if_pos ⟨by omega, by omega, by rw [e2]; omega⟩]
end Vl
namespace Vl
open PySem PySem.Spec PyProof.Rows
/-! ### reckoning: one step for all -/
/-- a slot that is looked at -/
def pkV (env : List Slot) (mem : List MO) (i : Nat) (Q : D → Prop) : Prop := match env[i]? with
  | some (.val d) => Q (lookD ⟨[], mem⟩ d)
  | some .un => False
  | some sl => Q sl.shut
  | none => False
theorem pkV_val0 {d : D} {r : List Slot} {mem : List MO} {Q : D → Prop} : pkV (.val d :: r) mem 0 Q ↔ Q (lookD ⟨[], mem⟩ d) := Iff.rfl
theorem pkV_own0 {d : List D} {r : List Slot} {mem : List MO} {Q : D → Prop} : pkV (.own d :: r) mem 0 Q ↔ Q (.lst d) := Iff.rfl
theorem pkV_succ {x : Slot} {r : List Slot} {mem : List MO} {i : Nat} {Q : D → Prop} : pkV (x :: r) mem (i + 1) Q ↔ pkV r mem i Q := by unfold pkV; simp only [List.getElem?_cons_succ]
theorem ru_pk {E : String → DS → Prop} {env : List Slot} {mem : List MO} {i : Nat} {Q : D → DS → Prop} : ru E (peekM i) ⟨env, mem⟩ Q ↔ pkV env mem i fun d => Q d ⟨env, mem⟩ := by
  rw [ru_peek]
  unfold pkV peekD
  dsimp only
  cases h : env[i]? with
  | none => simp
  | some sl => cases sl with
    | val d => simp only [Option.some.injEq, exists_eq_left']; rw [lookD_env]
    | un => simp
    | own d => simp
    | ownK k d => simp
    | ownT k d => simp
theorem ru_putE {E : String → DS → Prop} {s : DS} {fa fk : M D} {d : D} {Q : Unit → DS → Prop} : ru E (puteM fa fk d) s Q ↔ ru E fa s fun d0 s1 => ru E fk s1 fun k s2 => ru E (putN d0 k d) s2 Q := by unfold puteM; simp only [ru_bnd]
theorem ru_newM {E : String → DS → Prop} {s : DS} {f : M (List D)} {Q : D → DS → Prop} : ru E (newM f) s Q ↔ ru E f s fun ds s1 => Q (.mut s1.mem.length) ⟨s1.env, s1.mem ++ [.lst ds]⟩ := by unfold newM; rw [ru_bnd]; exact Iff.rfl
theorem ru_binF {E : String → DS → Prop} {s : DS} {g : D → D → Option (List D)} {fa fb : M D} {Q : List D → DS → Prop} : ru E (binF g fa fb) s Q ↔ ru E fa s fun x s1 => ru E fb s1 fun y s2 => ru E (opt (g x y)) s2 Q := by unfold binF; simp only [ru_bnd]
theorem ofS_inj {a b : String} (h : PySem.Str.ofString a = PySem.Str.ofString b) : a = b := by
  rw [PySem.Str.ofString_eq_toList, PySem.Str.ofString_eq_toList] at h
  have h := congrArg Array.toList (PySem.Str.mk.inj h)
  simp only [List.toList_toArray] at h
  have h2 := (List.map_inj_right fun x y (e : x.toNat = y.toNat) => Char.toNat_inj.mp e).mp h
  exact String.toList_inj.mp h2
theorem ofS_beq {a b : String} : (PySem.Str.ofString a == PySem.Str.ofString b) = decide (a = b) := by
  rw [Bool.eq_iff_iff, beq_iff_eq, decide_eq_true_iff]
  exact ⟨ofS_inj, fun h => by rw [h]⟩
theorem eqD_lit {a b : String} : eqD (.str (PySem.Str.ofString a)) (.str (PySem.Str.ofString b)) = some (.bl (decide (a = b))) := by rw [eqD_ss, ofS_beq]
theorem neD_lit {a b : String} : neD (.str (PySem.Str.ofString a)) (.str (PySem.Str.ofString b)) = some (.bl (!decide (a = b))) := by rw [neD_ss, ofS_beq]
theorem anyOwn_nil {env : List Slot} : anyOwn [] env = false := rfl
/-- the slot holds an object of its own -/
def ownAt (env : List Slot) (v : Nat) : Bool := match env[v]? with
  | some s => s.isOwn
  | none => false
theorem anyOwn_cons {v : Nat} {vs : List Nat} {env : List Slot} : anyOwn (v :: vs) env = (ownAt env v || anyOwn vs env) := rfl
theorem ownAt_succ {x : Slot} {r : List Slot} {v : Nat} : ownAt (x :: r) (v + 1) = ownAt r v := by unfold ownAt; simp only [List.getElem?_cons_succ]
theorem ownAt_zero {x : Slot} {r : List Slot} : ownAt (x :: r) 0 = x.isOwn := rfl
theorem io_un : Slot.isOwn .un = false := rfl
theorem io_val {d : D} : Slot.isOwn (.val d) = false := rfl
theorem wp_eq {vs : List Nat} {env : List Slot} {mem : List MO} : wp vs ⟨env, mem⟩ = ⟨wipeE env vs, mem⟩ := rfl
theorem inX_tup {a : D} {xs : List D} : inX a (.tup xs) = inD a (.tup xs) := rfl
theorem inX_ktp {a : D} {xs : List D} : inX a (.ktp xs) = inD a (.ktp xs) := rfl
theorem inX_lst {a : D} {xs : List D} : inX a (.lst xs) = inD a (.lst xs) := rfl
theorem inX_frl {a : D} {xs : List D} : inX a (.frl xs) = inD a (.frl xs) := rfl
theorem inX_str {a : D} {x : PySem.Str} : inX a (.str x) = inD a (.str x) := rfl
theorem notInX_tup {a : D} {xs : List D} : notInX a (.tup xs) = notInD a (.tup xs) := rfl
theorem notInX_ktp {a : D} {xs : List D} : notInX a (.ktp xs) = notInD a (.ktp xs) := rfl
theorem notInX_lst {a : D} {xs : List D} : notInX a (.lst xs) = notInD a (.lst xs) := rfl
theorem notInX_frl {a : D} {xs : List D} : notInX a (.frl xs) = notInD a (.frl xs) := rfl
theorem notInX_str {a : D} {x : PySem.Str} : notInX a (.str x) = notInD a (.str x) := rfl
theorem slotV_ownT0 {ks d : List D} {r : List Slot} {Q : D → List Slot → Prop} : slotV (.ownT ks d :: r) 0 Q ↔ Q (.dT ks d) (.val (.dT ks d) :: r) := Iff.rfl
theorem slotV_ownK0 {ks : List L2.Key} {d : List D} {r : List Slot} {Q : D → List Slot → Prop} : slotV (.ownK ks d :: r) 0 Q ↔ Q (.dK ks d) (.val (.dK ks d) :: r) := Iff.rfl
theorem pkV_ownT0 {ks d : List D} {r : List Slot} {mem : List MO} {Q : D → Prop} : pkV (.ownT ks d :: r) mem 0 Q ↔ Q (.dT ks d) := Iff.rfl
theorem pkV_ownK0 {ks : List L2.Key} {d : List D} {r : List Slot} {mem : List MO} {Q : D → Prop} : pkV (.ownK ks d :: r) mem 0 Q ↔ Q (.dK ks d) := Iff.rfl
theorem knownB_ownT {ks d : List D} : knownB (some (.ownT ks d)) = true := rfl
theorem knownB_ownK {ks : List L2.Key} {d : List D} : knownB (some (.ownK ks d)) = true := rfl
theorem peekD_ownT0 {ks d : List D} {r : List Slot} {mem : List MO} : peekD 0 ⟨.ownT ks d :: r, mem⟩ = some (.dT ks d) := rfl
theorem peekD_ownK0 {ks : List L2.Key} {d : List D} {r : List Slot} {mem : List MO} : peekD 0 ⟨.ownK ks d :: r, mem⟩ = some (.dK ks d) := rfl
theorem ru_dnewT {E : String → DS → Prop} {s : DS} {i : Nat} {Q : Out → DS → Prop} : ru E (dnewM i true) s Q ↔ Q .nx ⟨s.env.set i (.ownT [] []), s.mem⟩ := Iff.rfl
theorem ru_dnewK {E : String → DS → Prop} {s : DS} {i : Nat} {Q : Out → DS → Prop} : ru E (dnewM i false) s Q ↔ Q .nx ⟨s.env.set i (.ownK [] []), s.mem⟩ := Iff.rfl
theorem ru_min1 {E : String → DS → Prop} {s : DS} {xs : List D} {Q : D → DS → Prop} : ru E (leastM minDs [.lst xs]) s Q ↔ ru E (opt (leastF minDs xs)) s Q := Iff.rfl
theorem ru_max1 {E : String → DS → Prop} {s : DS} {xs : List D} {Q : D → DS → Prop} : ru E (leastM maxDs [.lst xs]) s Q ↔ ru E (opt (leastF maxDs xs)) s Q := Iff.rfl
theorem io_own {xs : List D} : Slot.isOwn (.own xs) = true := rfl
theorem io_ownT {ks xs : List D} : Slot.isOwn (.ownT ks xs) = true := rfl
/-- all step rules, as one -/
def vA0 := And.intro @List.map_cons.{0, 0} <| And.intro @List.map_nil.{0, 0} <| And.intro @List.cons_append.{0} <| And.intro @List.nil_append.{0} <| And.intro @List.set_cons_succ.{0} <| And.intro @List.set_cons_zero.{0} <| And.intro @List.getElem?_cons_zero.{0} <| And.intro @List.getElem?_cons_succ.{0} <| And.intro @List.getD_cons_succ.{0} <| And.intro @List.getD_cons_zero.{0} <| And.intro @ru_bnd <| And.intro @ru_rtn <| And.intro @ru_opt_some <| And.intro @ru_var <| And.intro @slotV_val0 <| And.intro @slotV_own0 <| And.intro @slotV_succ <| And.intro @ru_binM <| And.intro @ru_unM <| And.intro @ru_tst <| And.intro @ru_tru <| And.intro @ru_and <| And.intro @ru_or <| And.intro @ru_not <| And.intro @ru_andV <| And.intro @ru_orV <| And.intro @ru_notV <| And.intro @ru_iteM <| And.intro @ru_cons <| And.intro @ru_tup <| And.intro @ru_lst <| And.intro @ru_shut <| And.intro @ru_set <| And.intro @ru_sets <| And.intro @ru_end0 <| And.intro @ru_untup <| And.intro @ru_untupK <| And.intro @ru_ret <| And.intro @ru_drop <| And.intro @ru_if <| And.intro @ru_asg <| And.intro @ru_own <| And.intro @ru_aug <| And.intro @slotA_val0 <| And.intro @slotA_succ <| And.intro @ru_call <| And.intro @frQ_ok <| And.intro @frQ_err <| And.intro @ru_pk <| And.intro @pkV_val0 <| And.intro @pkV_own0 <| And.intro @pkV_succ <| And.intro @ru_look <| And.intro @ru_look1 <| And.intro @ru_isi <| And.intro @ru_ix <| And.intro @ru_ixv' <| And.intro @knownB_val <| And.intro @knownB_own <| And.intro @peekD_val0 <| And.intro @peekD_own0 <| And.intro @peekD_succ <| And.intro @lookD_non <| And.intro @lookD_bl <| And.intro @lookD_int <| And.intro @lookD_str <| And.intro @lookD_lst <| And.intro @lookD_frl <| And.intro @lookD_ktp <| And.intro @lookD_tup <| And.intro @lookD_mut0 <| And.intro @shut_lst <| And.intro @Option.bind_some.{0, 0} <| And.intro @addD_ii <| And.intro @addI_ii <| And.intro @subD_ii <| And.intro @negD_i <| And.intro @asB_bl <| And.intro @truD_bl <| And.intro @truD_int <| And.intro @truD_non <| And.intro @truD_lst <| And.intro @truD_frl <| And.intro @truD_ktp <| And.intro @truD_tup <| And.intro @eqD_ii <| And.intro @neD_ii <| And.intro @eqD_tt <| And.intro @neD_tt <| And.intro @ltV_ii <| And.intro @gtV_ii <| And.intro @leV_ii <| And.intro @geV_ii <| And.intro @isNV_non <| And.intro @notNV_non <| And.intro @lenD_lst <| And.intro @lenD_frl <| And.intro @lenD_ktp <| And.intro @lenD_tup <| And.intro @asI_int <| And.intro @ru_join <| And.intro @isS_str <| And.intro @ru_rev <| And.intro @revD_lst <| And.intro @revD_frl <| And.intro @ru_part <| And.intro @ru_sl <| And.intro @ru_chM <| And.intro @ru_putE <| And.intro @ru_newM <| And.intro @ru_binF <| And.intro @ru_compI <| And.intro @ru_for <| And.intro @ru_itM <| And.intro @ru_itx <| And.intro @itemsD_lst <| And.intro @itemsD_frl <| And.intro @itemsD_ktp <| And.intro @itemsD_tup <| And.intro @itemsD_t <| And.intro @itemsX_lst <| And.intro @itemsX_frl <| And.intro @itemsX_ktp <| And.intro @itemsX_tup <| And.intro @itemsX_t <| And.intro @itemsX_dT <| And.intro @itemsX_dK <| And.intro @lenD_dT <| And.intro @lenD_dK <| And.intro @ru_sortX <| And.intro @ru_sortXf <| And.intro @ru_sortXT <| And.intro @ru_sortXK <| And.intro @ru_listX <| And.intro @ru_listXf <| And.intro @ru_listXt <| And.intro @ru_listXk <| And.intro @slotV_ownT0 <| And.intro @slotV_ownK0 <| And.intro @pkV_ownT0 <| And.intro @pkV_ownK0 <| And.intro @knownB_ownT <| And.intro @knownB_ownK <| And.intro @ru_dnewT <| And.intro @ru_dnewK <| And.intro @peekD_ownT0 <| And.intro @peekD_ownK0 <| And.intro @ru_min1 <| And.intro @ru_max1 <| And.intro @wipeE_nil <| And.intro @wipeE_cons <| And.intro @restE_nil <| And.intro @restE_cons <| And.intro @stepQ_nx <| And.intro @stepQ_ct <| And.intro @stepQ_bk <| And.intro @stepQ_rt <| And.intro @isi_non_int <| And.intro @isi_bl_int <| And.intro @isi_int_int <| And.intro @isi_str_int <| And.intro @isi_lst_int <| And.intro @isi_frl_int <| And.intro @isi_tup_int <| And.intro @isi_ktp_int <| And.intro @isi_non_bool <| And.intro @isi_bl_bool <| And.intro @isi_int_bool <| And.intro @isi_str_bool <| And.intro @isi_lst_bool <| And.intro @isi_frl_bool <| And.intro @isi_tup_bool <| And.intro @isi_ktp_bool <| And.intro @isi_non_str <| And.intro @isi_bl_str <| And.intro @isi_int_str <| And.intro @isi_str_str <| And.intro @isi_lst_str <| And.intro @isi_frl_str <| And.intro @isi_tup_str <| And.intro @isi_ktp_str <| And.intro @isi_non_list <| And.intro @isi_bl_list <| And.intro @isi_int_list <| And.intro @isi_str_list <| And.intro @isi_lst_list <| And.intro @isi_frl_list <| And.intro @isi_tup_list <| And.intro @isi_ktp_list <| And.intro @isi_non_tuple <| And.intro @isi_bl_tuple <| And.intro @isi_int_tuple <| And.intro @isi_str_tuple <| And.intro @isi_lst_tuple <| And.intro @isi_frl_tuple <| And.intro @isi_tup_tuple <| And.intro @isi_ktp_tuple <| And.intro @Bool.not_true <| And.intro @Bool.not_false <| And.intro @Bool.false_eq_true <| And.intro @if_true.{1} <| And.intro @if_false.{1} <| And.intro @true_and <| And.intro @and_true <| And.intro @true_or <| And.intro @or_true <| And.intro @beq_self_eq_true.{0} <| And.intro @List.length_cons.{0} <| And.intro @List.length_nil.{0} <| And.intro @List.length_map.{0, 0} <| And.intro @Nat.zero_add <| And.intro @Nat.sub_self <| And.intro @false_and <| And.intro @and_false <| And.intro @or_false <| And.intro @false_or <| And.intro @inX_tup <| And.intro @inX_ktp <| And.intro @inX_lst <| And.intro @inX_frl <| And.intro @inX_str <| And.intro @notInX_tup <| And.intro @notInX_ktp <| And.intro @notInX_lst <| And.intro @notInX_frl <| And.intro @notInX_str <| And.intro @eqD_lit <| And.intro @neD_lit <| And.intro @Int.cast_ofNat_Int <| And.intro @decide_true <| And.intro @decide_false <| @Int.zero_add
theorem vA : type_of% vA0 := vA0
def vO0 := And.intro @anyOwn_nil <| And.intro @anyOwn_cons <| And.intro @ownAt_succ <| And.intro @ownAt_zero <| And.intro @io_un <| And.intro @io_val <| And.intro @Bool.or_false @Bool.false_or
theorem vO : type_of% vO0 := vO0
/-! ### equality of plain values -/
mutual
def cln : D → Bool
  | .int _ => true
  | .str _ => true
  | .lst xs => clns xs
  | .tup xs => clns xs
  | _ => false
def clns : List D → Bool
  | [] => true
  | x :: xs => cln x && clns xs
end
theorem clns_iff : ∀ {xs : List D}, clns xs = true ↔ ∀ x ∈ xs, cln x = true
  | [] => by simp [clns]
  | x :: xs => by rw [clns, Bool.and_eq_true, clns_iff]; simp
mutual
theorem cln_plain : ∀ {d : D}, cln d = true → (toP d).plain = true ∧ (toP d).depth ≤ P.dpD d
  | .int i, _ => ⟨rfl, Nat.le_refl _⟩
  | .str x, _ => ⟨rfl, Nat.le_refl _⟩
  | .lst xs, h => by
    have := clns_plain (xs := xs) (by rw [cln] at h; exact h)
    rw [toP, PyData.plain, PyData.depth, P.dpD]
    exact ⟨this.1, by omega⟩
  | .tup xs, h => by
    have := clns_plain (xs := xs) (by rw [cln] at h; exact h)
    rw [toP, PyData.plain, PyData.depth, P.dpD]
    exact ⟨this.1, by omega⟩
  | .non, h => by cases h
  | .bl _, h => by cases h
  | .frl _, h => by cases h
  | .ktp _, h => by cases h
  | .dK _ _, h => by cases h
  | .dT _ _, h => by cases h
  | .mut _, h => by cases h
theorem clns_plain : ∀ {xs : List D}, clns xs = true → PyData.plainAll (toPs xs) = true ∧ PyData.depthAll (toPs xs) ≤ P.dpDs xs
  | [], _ => ⟨rfl, Nat.le_refl _⟩
  | x :: xs, h => by
    rw [clns, Bool.and_eq_true] at h
    have h1 := cln_plain h.1
    have h2 := clns_plain h.2
    rw [toPs, PyData.plainAll, PyData.depthAll, P.dpDs, h1.1, h2.1]
    exact ⟨rfl, by omega⟩
end
mutual
theorem cln_eqv : ∀ {a b : D}, cln a = true → cln b = true → (PyData.eqv (toP a) (toP b) = true ↔ a = b)
  | .int i, .int j, _, _ => by simp [toP, PyData.eqv]
  | .int i, .str y, _, _ => by simp [toP, PyData.eqv]
  | .int i, .lst y, _, _ => by simp [toP, PyData.eqv]
  | .int i, .tup y, _, _ => by simp [toP, PyData.eqv]
  | .str x, .int j, _, _ => by simp [toP, PyData.eqv]
  | .str x, .str y, _, _ => by simp [toP, PyData.eqv]
  | .str x, .lst y, _, _ => by simp [toP, PyData.eqv]
  | .str x, .tup y, _, _ => by simp [toP, PyData.eqv]
  | .lst x, .int j, _, _ => by simp [toP, PyData.eqv]
  | .lst x, .str y, _, _ => by simp [toP, PyData.eqv]
  | .lst x, .lst y, h, k => by
    rw [cln] at h k
    rw [toP, toP, PyData.eqv, clns_eqv h k]
    simp
  | .lst x, .tup y, _, _ => by simp [toP, PyData.eqv]
  | .tup x, .int j, _, _ => by simp [toP, PyData.eqv]
  | .tup x, .str y, _, _ => by simp [toP, PyData.eqv]
  | .tup x, .lst y, _, _ => by simp [toP, PyData.eqv]
  | .tup x, .tup y, h, k => by
    rw [cln] at h k
    rw [toP, toP, PyData.eqv, clns_eqv h k]
    simp
  | .non, _, h, _ => by cases h
  | .bl _, _, h, _ => by cases h
  | .frl _, _, h, _ => by cases h
  | .ktp _, _, h, _ => by cases h
  | .dK _ _, _, h, _ => by cases h
  | .dT _ _, _, h, _ => by cases h
  | .mut _, _, h, _ => by cases h
  | _, .non, _, h => by cases h
  | _, .bl _, _, h => by cases h
  | _, .frl _, _, h => by cases h
  | _, .ktp _, _, h => by cases h
  | _, .dK _ _, _, h => by cases h
  | _, .dT _ _, _, h => by cases h
  | _, .mut _, _, h => by cases h
theorem clns_eqv : ∀ {a b : List D}, clns a = true → clns b = true → (PyData.eqvAll (toPs a) (toPs b) = true ↔ a = b)
  | [], [], _, _ => by simp [toPs, PyData.eqvAll]
  | [], y :: ys, _, _ => by simp [toPs, PyData.eqvAll]
  | x :: xs, [], _, _ => by simp [toPs, PyData.eqvAll]
  | x :: xs, y :: ys, h, k => by
    rw [clns, Bool.and_eq_true] at h k
    rw [toPs, toPs, PyData.eqvAll, Bool.and_eq_true, cln_eqv h.1 k.1, clns_eqv h.2 k.2]
    simp
end
theorem cln_dat {d : D} (h : cln d = true) (hd : P.dpD d ≤ 50) : dat d = true := by
  have := cln_plain h
  unfold dat
  rw [this.1, Bool.true_and]
  exact decide_eq_true (by omega)
theorem eqD_cl {a b : D} {k : Bool} (ha : cln a = true) (hb : cln b = true) (da : P.dpD a ≤ 50) (db : P.dpD b ≤ 50) (hk : k = true ↔ a = b) : eqD a b = some (.bl k) := by
  unfold eqD
  rw [if_pos ⟨cln_dat ha da, cln_dat hb db⟩]
  have e : eqvD a b = k := by
    rw [Bool.eq_iff_iff, hk]
    exact cln_eqv ha hb
  rw [e]
theorem neD_cl {a b : D} {k : Bool} (ha : cln a = true) (hb : cln b = true) (da : P.dpD a ≤ 50) (db : P.dpD b ≤ 50) (hk : k = true ↔ a = b) : neD a b = some (.bl (!k)) := by
  unfold neD
  rw [if_pos ⟨cln_dat ha da, cln_dat hb db⟩]
  have e : eqvD a b = k := by
    rw [Bool.eq_iff_iff, hk]
    exact cln_eqv ha hb
  rw [e]
mutual
theorem cln_same : ∀ {d : D}, cln d = true → P.SameD d d
  | .int i, _ => .int i
  | .str x, _ => .str x
  | .lst xs, h => .lst (clns_same (by rw [cln] at h; exact h))
  | .tup xs, h => .tup (clns_same (by rw [cln] at h; exact h))
  | .non, h => by cases h
  | .bl _, h => by cases h
  | .frl _, h => by cases h
  | .ktp _, h => by cases h
  | .dK _ _, h => by cases h
  | .dT _ _, h => by cases h
  | .mut _, h => by cases h
theorem clns_same : ∀ {xs : List D}, clns xs = true → P.SameDs xs xs
  | [], _ => .nil
  | x :: xs, h => by
    rw [clns, Bool.and_eq_true] at h
    exact .cons (cln_same h.1) (clns_same h.2)
end
/-! ### lists of texts -/
abbrev WD (wl : List (List Nat)) : D := .lst (wl.map txt)
theorem WD_inj {a b : List (List Nat)} : WD a = WD b ↔ a = b := by
  constructor
  · intro h
    have := D.lst.inj h
    exact (List.map_inj_right fun x y h => txt_inj.mp h).mp this
  · intro h; rw [h]
theorem txt_dp (l : List Nat) : P.dpD (txt l) = 0 := rfl
theorem dpDs_le {xs : List D} {n : Nat} (h : ∀ x ∈ xs, P.dpD x ≤ n) : P.dpDs xs ≤ n := by
  induction xs with
  | nil => exact Nat.zero_le _
  | cons x xs ih =>
    rw [P.dpDs]
    exact Nat.max_le.mpr ⟨h x (by simp), ih fun y hy => h y (by simp [hy])⟩
theorem WD_cln (wl : List (List Nat)) : cln (WD wl) = true := by
  show clns (wl.map txt) = true
  rw [clns_iff]
  intro x hx
  obtain ⟨r, _, rfl⟩ := List.mem_map.mp hx
  rfl
theorem WD_dp (wl : List (List Nat)) : P.dpD (WD wl) ≤ 1 := by
  show P.dpDs (wl.map txt) + 1 ≤ 1
  have := dpDs_le (xs := wl.map txt) (n := 0) fun x hx => by
    obtain ⟨r, _, rfl⟩ := List.mem_map.mp hx
    exact Nat.le_refl _
  omega
theorem eqD_W (a b : List (List Nat)) : eqD (WD a) (WD b) = some (.bl (a == b)) :=
  eqD_cl (WD_cln a) (WD_cln b) (Nat.le_trans (WD_dp a) (by decide)) (Nat.le_trans (WD_dp b) (by decide)) (by rw [beq_iff_eq]; exact WD_inj.symm)
theorem neD_W (a b : List (List Nat)) : neD (WD a) (WD b) = some (.bl (!(a == b))) :=
  neD_cl (WD_cln a) (WD_cln b) (Nat.le_trans (WD_dp a) (by decide)) (Nat.le_trans (WD_dp b) (by decide)) (by rw [beq_iff_eq]; exact WD_inj.symm)
theorem ixD_li {xs : List D} {i : Nat} {d : D} (h : xs[i]? = some d) : ixD (.lst xs) (.int (i : Int)) = some d := P.ixD_at (Int.natCast_nonneg _) (by rw [Int.toNat_natCast]; exact h)
theorem ix_W {wl : List (List Nat)} {i : Nat} {row : List Nat} (h : wl[i]? = some row) : ixD (WD wl) (.int (i : Int)) = some (txt row) := ixD_li (by rw [List.getElem?_map, h]; rfl)
theorem addD_ll {a b : List D} (h : a.length + b.length ≤ 16777216) : addD (.lst a) (.lst b) = some (.lst (a ++ b)) := if_pos h
theorem ru_lcM {α : Type} {E : String → DS → Prop} {s : DS} {vs : List Nat} {g : D → M Unit} {t : M Bool} {el : M D} {xs : List α} {h k : α → D} {Q : List D → DS → Prop}
    (step : ∀ x, x ∈ xs → ru E (g (h x)) ⟨wipeE s.env vs, s.mem⟩ fun _ s1 => ru E t s1 fun b s2 => b = true ∧ ru E el s2 fun y s3 => wipeE s3.env vs = wipeE s.env vs ∧ y = k x ∧ s3.mem = s.mem)
    (hd : Q (xs.map k) ⟨wipeE s.env vs, s.mem⟩) : ru E (lcL vs g t el (xs.map h) []) s Q := by
  refine ru_lcI (fun i acc mem => acc = (xs.take i).map k ∧ mem = s.mem) ⟨rfl, rfl⟩ (fun i d acc mem hi ⟨ha, hm⟩ => ?_) (fun acc mem ⟨ha, hm⟩ => ?_)
  · subst ha hm
    rw [List.getElem?_map] at hi
    cases e : xs[i]? with
    | none => rw [e] at hi; cases hi
    | some x =>
      rw [e] at hi
      cases hi
      have ht : xs.take (i + 1) = xs.take i ++ [x] := by rw [List.take_add_one, e]; rfl
      refine ru_mono (step x (List.mem_of_getElem? e)) fun _ s1 q => ru_mono q fun b s2 ⟨hb, q⟩ => ?_
      subst hb
      rw [if_pos rfl]
      refine ru_mono q fun y s3 ⟨q1, q2, q3⟩ => ⟨q1, ?_, q3⟩
      rw [ht, List.map_append, q2]
      rfl
  · subst hm
    rw [ha, List.length_map, List.take_length]
    exact hd
/-- a filter: over the items of a kind -/
theorem ru_lcB {α : Type} {E : String → DS → Prop} {s : DS} {vs : List Nat} {g : D → M Unit} {t : M Bool} {el : M D} {xs : List α} {h k : α → D} {p : α → Bool} {Q : List D → DS → Prop}
    (step : ∀ x, x ∈ xs → ru E (g (h x)) ⟨wipeE s.env vs, s.mem⟩ fun _ s1 => ru E t s1 fun b s2 => b = p x ∧ wipeE s2.env vs = wipeE s.env vs ∧ s2.mem = s.mem ∧ (p x = true → ru E el s2 fun y s3 => wipeE s3.env vs = wipeE s.env vs ∧ y = k x ∧ s3.mem = s.mem))
    (hd : Q ((xs.filter p).map k) ⟨wipeE s.env vs, s.mem⟩) : ru E (lcL vs g t el (xs.map h) []) s Q := by
  refine ru_lcI (fun i acc mem => acc = ((xs.take i).filter p).map k ∧ mem = s.mem) ⟨rfl, rfl⟩ (fun i d acc mem hi ⟨ha, hm⟩ => ?_) (fun acc mem ⟨ha, hm⟩ => ?_)
  · subst ha hm
    rw [List.getElem?_map] at hi
    cases e : xs[i]? with
    | none => rw [e] at hi; cases hi
    | some x =>
      rw [e] at hi
      cases hi
      have ht : xs.take (i + 1) = xs.take i ++ [x] := by rw [List.take_add_one, e]; rfl
      refine ru_mono (step x (List.mem_of_getElem? e)) fun _ s1 q => ru_mono q fun b s2 ⟨hb, q0, qm, q⟩ => ?_
      subst hb
      cases hp : p x with
      | true =>
        rw [if_pos rfl]
        refine ru_mono (q hp) fun y s3 ⟨q1, q2, q3⟩ => ⟨q1, ?_, q3⟩
        rw [ht, List.filter_append, List.map_append, q2]
        simp [hp]
      | false =>
        rw [if_neg (by decide)]
        refine ⟨q0, ?_, qm⟩
        rw [ht, List.filter_append, List.map_append]
        simp [hp]
  · subst hm
    rw [ha, List.length_map, List.take_length]
    exact hd
theorem rngL_map {lo : Int} {n : Nat} : rngL lo n = (List.range n).map fun i => D.int (lo + (i : Nat)) := rfl
theorem flat1 : ∀ l : List Nat, (l.map fun n => [n]).flatten = l
  | [] => rfl
  | n :: r => by rw [List.map_cons, List.flatten_cons, flat1 r]; rfl
theorem join1 {l : List Nat} (h : l.length ≤ 1000) : joinD (txt []) (.lst (l.map fun n => txt [n])) = some (txt l) := by
  have := joinD_t (ls := l.map fun n => [n]) (by rw [flat1]; omega)
  rw [flat1, List.map_map] at this
  exact this
/-! objects that are shared -/
theorem ru_putN {E : String → DS → Prop} {env : List Slot} {mem : List MO} {n : Nat} {k : Int} {xs : List D} {d : D} {Q : Unit → DS → Prop} (h1 : mem[n]? = some (.lst xs)) (h2 : 0 ≤ k) (h3 : k < xs.length) (q : Q () ⟨env, mem.set n (.lst (xs.set k.toNat d))⟩) : ru E (putN (.mut n) (.int k) d) ⟨env, mem⟩ Q := by
  refine ru_eq (a := ()) (s' := ⟨env, mem.set n (.lst (xs.set k.toNat d))⟩) ?_ q
  unfold putN
  dsimp only
  rw [h1]
  have e : putI xs (.int k) d = some (xs.set k.toNat d) := by
    unfold putI L2.ixN
    dsimp only
    rw [if_pos h2, if_pos (by omega)]
    rfl
  show (match putO (.lst xs) (.int k) d with
    | some o' => R.ok () (⟨env, mem.set n o'⟩ : DS)
    | none => .stuck) = _
  have e2 : putO (.lst xs) (.int k) d = some (.lst (xs.set k.toNat d)) := by
    show (putI xs (.int k) d).map MO.lst = _
    rw [e]
    rfl
  rw [e2]
theorem repF_li {xs : List D} {k : Int} (h : k.natAbs ≤ 1000000 ∧ xs.length * k.toNat ≤ 16777216) : repF (.lst xs) (.int k) = some (List.replicate k.toNat xs).flatten := if_pos h
/-- a filter; the shared objects keep I -/
theorem ru_lcBI {α : Type} {E : String → DS → Prop} {s : DS} {vs : List Nat} {g : D → M Unit} {t : M Bool} {el : M D} {xs : List α} {h k : α → D} {p : α → Bool} {Q : List D → DS → Prop} (I : List MO → Prop) (h0 : I s.mem)
    (step : ∀ x, x ∈ xs → ∀ mem, I mem → ru E (g (h x)) ⟨wipeE s.env vs, mem⟩ fun _ s1 => ru E t s1 fun b s2 => b = p x ∧ wipeE s2.env vs = wipeE s.env vs ∧ I s2.mem ∧ (p x = true → ru E el s2 fun y s3 => wipeE s3.env vs = wipeE s.env vs ∧ y = k x ∧ I s3.mem))
    (hd : ∀ mem, I mem → Q ((xs.filter p).map k) ⟨wipeE s.env vs, mem⟩) : ru E (lcL vs g t el (xs.map h) []) s Q := by
  refine ru_lcI (fun i acc mem => acc = ((xs.take i).filter p).map k ∧ I mem) ⟨rfl, h0⟩ (fun i d acc mem hi ⟨ha, hm⟩ => ?_) (fun acc mem ⟨ha, hm⟩ => ?_)
  · subst ha
    rw [List.getElem?_map] at hi
    cases e : xs[i]? with
    | none => rw [e] at hi; cases hi
    | some x =>
      rw [e] at hi
      cases hi
      have ht : xs.take (i + 1) = xs.take i ++ [x] := by rw [List.take_add_one, e]; rfl
      refine ru_mono (step x (List.mem_of_getElem? e) mem hm) fun _ s1 q => ru_mono q fun b s2 ⟨hb, q0, qm, q⟩ => ?_
      subst hb
      cases hp : p x with
      | true =>
        rw [if_pos rfl]
        refine ru_mono (q hp) fun y s3 ⟨q1, q2, q3⟩ => ⟨q1, ?_, q3⟩
        rw [ht, List.filter_append, List.map_append, q2]
        simp [hp]
      | false =>
        rw [if_neg (by decide)]
        refine ⟨q0, ?_, qm⟩
        rw [ht, List.filter_append, List.map_append]
        simp [hp]
  · rw [ha, List.length_map, List.take_length]
    exact hd mem hm
theorem Drw.app {mem ex : List MO} (h : P.Drw mem) : P.Drw (mem ++ ex) := by
  obtain ⟨a, b, c, e, f⟩ := h
  exact ⟨a, b, c ++ ex, by rw [e]; rfl, f⟩
/-! the draw of one argument -/
namespace P.O
noncomputable def body__law_draw : M Out := seqM (asgM (ixvM 0 (rtn (.int 1))) (setM 1))
 (seqM (asgM (binM addD (varM 1) (rtn (.int 1))) (putvM 0 (rtn (.int 1))))
 (seqM (ifM (tstM (binM ltV (varM 1) (lookM1 lenD (lookM (ixvM 0 (rtn (.int 0))))))) (retM (ixM (ixvM 0 (rtn (.int 0))) (varM 1))) (rtn .nx))
 (seqM (asgM (binM addD (rtn (.int 1)) (varM 1)) (setM 2))
 (seqM (ifM (tstM (binM gtV (lookM1 lenD (lookM (ixvM 0 (rtn (.int 0))))) (rtn (.int 0)))) (asgM (binM addD (varM 2) (binM mulD (rtn (.int 1009)) (ixM (ixvM 0 (rtn (.int 0))) (rtn (.int 0))))) (setM 2)) (rtn .nx))
 (retM (binM modD (callM P.den__law_mixed (consM (callM P.den__law_mixed (consM (varM 2) (consM (varM 1) (rtn [])))) (consM (rtn (.int 5)) (rtn [])))) (rtn (.int 1000000))))))))
noncomputable def den__law_draw : Den := fnDen 1 3 body__law_draw
theorem draw_ok {mem : List MO} (hd : P.Drw mem) : ∃ v mem', den__law_draw [.mut 0] mem = .ok (.int v) mem' ∧ 0 ≤ v ∧ v < 1000000 ∧ P.Drw mem' ∧ mem'.tail = mem.tail := by
  obtain ⟨nums, at', rest, rfl, hn, ha⟩ := hd
  have : ∃ d m', den__law_draw [.mut 0] (.lst [.lst (nums.map .int), .int at'] :: rest) = .ok d m' ∧ (∃ v, d = .int v ∧ 0 ≤ v ∧ v < 1000000 ∧ m' = .lst [.lst (nums.map .int), .int (at' + 1)] :: rest) := by
    refine fn_ex rfl ?_
    have i0 : ∀ a b : D, ixD (.lst [a, b]) (.int 0) = some a := fun a b => rfl
    have i1 : ∀ a b : D, ixD (.lst [a, b]) (.int 1) = some b := fun a b => rfl
    have hput : ∀ (env : List Slot) (a b d : D) (Q : Unit → DS → Prop), env[0]? = some (.val (.mut 0)) → Q () ⟨env, .lst [a, d] :: rest⟩ → ru NE (putvM 0 (rtn (.int 1)) d) ⟨env, .lst [a, b] :: rest⟩ Q := fun env a b d Q he q => by
      refine ru_eq (a := ()) (s' := ⟨env, .lst [a, d] :: rest⟩) ?_ q
      unfold putvM seeB
      rw [show (⟨env, MO.lst [a, b] :: rest⟩ : DS).env = env from rfl, he]
      show (if true = true then (bnd (rtn (.int 1)) fun k => putAt 0 k d) ⟨env, MO.lst [a, b] :: rest⟩ else R.stuck) = _
      rw [if_pos rfl]
      show putAt 0 (.int 1) d ⟨env, MO.lst [a, b] :: rest⟩ = _
      unfold putAt
      rw [show (⟨env, MO.lst [a, b] :: rest⟩ : DS).env = env from rfl, he]
      rfl
    unfold body__law_draw
    simp only [vA, ru_seq, Nat.reduceAdd, Nat.reduceSub, Nat.reduceLeDiff, reduceCtorEq, String.reduceEq, Int.reduceBEq, Int.reduceLT, Int.reduceLE, Int.reduceAdd, Int.reduceSub, Int.reduceMul, Int.reduceNeg, Nat.reduceBEq, Slot.shut, List.replicate, implies_true, i1]
    refine hput _ _ _ _ _ rfl ?_
    simp only [vA, ru_seq, Nat.reduceAdd, Nat.reduceSub, Nat.reduceLeDiff, reduceCtorEq, String.reduceEq, Int.reduceBEq, Int.reduceLT, Int.reduceLE, Int.reduceAdd, Int.reduceSub, Int.reduceMul, Int.reduceNeg, Nat.reduceBEq, Slot.shut, List.replicate, implies_true, i0]
    by_cases h1 : at' < (nums.length : Int)
    · rw [if_pos (decide_eq_true h1)]
      obtain ⟨x, hx⟩ : ∃ x, nums[at'.toNat]? = some x := ⟨_, List.getElem?_eq_getElem (by omega)⟩
      have hix : ixD (.lst (nums.map .int)) (.int at') = some (.int x) := P.ixD_at ha (by rw [List.getElem?_map, hx]; rfl)
      simp only [vA, ru_seq, Nat.reduceAdd, Nat.reduceSub, Nat.reduceLeDiff, reduceCtorEq, String.reduceEq, Int.reduceBEq, Int.reduceLT, Int.reduceLE, Int.reduceAdd, Int.reduceSub, Int.reduceMul, Int.reduceNeg, Nat.reduceBEq, Slot.shut, List.replicate, implies_true, i0, hix]
      have := hn x (List.mem_of_getElem? hx)
      exact ⟨x, rfl, this.1, this.2⟩
    · rw [if_neg (by simpa using h1)]
      have fin : ∀ a : Int, ∃ v, D.int (P.mixI (P.mixI a at') 5 % 1000000) = .int v ∧ 0 ≤ v ∧ v < 1000000 := fun a => ⟨_, rfl, Int.emod_nonneg _ (by omega), Int.emod_lt_of_pos _ (by omega)⟩
      by_cases h2 : (0 : Int) < (nums.length : Int)
      · rw [if_pos (decide_eq_true h2)]
        obtain ⟨x, hx⟩ : ∃ x, nums[(0 : Int).toNat]? = some x := ⟨_, List.getElem?_eq_getElem (by simpa using h2)⟩
        have hix : ixD (.lst (nums.map .int)) (.int 0) = some (.int x) := P.ixD_at (Int.le_refl _) (by rw [List.getElem?_map, hx]; rfl)
        have hm1 : ∀ y, mulD (.int 1009) (.int y) = some (.int (1009 * y)) := fun y => mulD_ii (by omega)
        simp only [vA, ru_seq, Nat.reduceAdd, Nat.reduceSub, Nat.reduceLeDiff, reduceCtorEq, String.reduceEq, Int.reduceBEq, Int.reduceLT, Int.reduceLE, Int.reduceAdd, Int.reduceSub, Int.reduceMul, Int.reduceNeg, Nat.reduceBEq, Slot.shut, List.replicate, implies_true, i0, hix, hm1, P.mixed_ok, modD_ii (show (0 : Int) < 1000000 by decide)]
        exact fin _
      · rw [if_neg (by simpa using h2)]
        simp only [vA, ru_seq, Nat.reduceAdd, Nat.reduceSub, Nat.reduceLeDiff, reduceCtorEq, String.reduceEq, Int.reduceBEq, Int.reduceLT, Int.reduceLE, Int.reduceAdd, Int.reduceSub, Int.reduceMul, Int.reduceNeg, Nat.reduceBEq, Slot.shut, List.replicate, implies_true, P.mixed_ok, modD_ii (show (0 : Int) < 1000000 by decide)]
        exact fin _
  obtain ⟨d, m', e, v, rfl, h1, h2, rfl⟩ := this
  exact ⟨v, _, e, h1, h2, ⟨nums, at' + 1, rest, rfl, hn, by omega⟩, rfl⟩
theorem fr_draw {E : String → List MO → Prop} {mem : List MO} {Q : D → List MO → Prop} (hd : P.Drw mem) (k : ∀ v mem', 0 ≤ v → v < 1000000 → P.Drw mem' → mem'.tail = mem.tail → Q (.int v) mem') : frQ E (den__law_draw [.mut 0] mem) Q := by
  obtain ⟨v, mem', e, h1, h2, h3, h4⟩ := draw_ok hd
  rw [e]
  exact k v mem' h1 h2 h3 h4
/-- _law_draw(draws) % j -/
theorem ru_dm {E : String → DS → Prop} {env : List Slot} {mem : List MO} {i : Nat} {j : Int} {Q : D → DS → Prop} (hj : 0 < j) (he : env[i]? = some (.val (.mut 0))) (hd : P.Drw mem) (k : ∀ v m', 0 ≤ v → v < j → P.Drw m' → Q (.int v) ⟨env, m'⟩) :
    ru E (binM modD (callM den__law_draw (consM (varM i) (rtn []))) (rtn (.int j))) ⟨env, mem⟩ Q := by
  rw [ru_binM, ru_call, ru_cons, ru_var]
  unfold slotV
  rw [he]
  simp only [ru_rtn]
  refine fr_draw hd fun v m' h0 h1 h2 h3 => ?_
  simp only [modD_ii hj, ru_opt_some]
  exact k _ _ (Int.emod_nonneg _ (by omega)) (Int.emod_lt_of_pos _ hj) h2
end P.O
/-- a part is reckoned by itself -/
theorem ru_val {α : Type} {E : String → DS → Prop} {f : M α} {s s' : DS} {a : α} {Q : α → DS → Prop} (h : ru NE f s fun x s1 => x = a ∧ s1 = s') (q : Q a s') : ru E f s Q := by
  obtain ⟨x, s1, e, rfl, rfl⟩ := ru_get h
  exact ru_eq e q
theorem ru_nx {E : String → DS → Prop} {f g : M Out} {s s' : DS} {Q : Out → DS → Prop} (h : ru NE f s fun x s1 => x = .nx ∧ s1 = s') (q : ru E g s' Q) : ru E (seqM f g) s Q := by
  obtain ⟨x, s1, e, rfl, rfl⟩ := ru_get h
  rw [ru_seq]
  exact ru_eq e q
theorem ru_ifv {E : String → DS → Prop} {t : M Bool} {f g : M Out} {s s' : DS} {b : Bool} {Q : Out → DS → Prop} (h : ru NE t s fun x s1 => x = b ∧ s1 = s') (q1 : b = true → ru E f s' Q) (q2 : b = false → ru E g s' Q) : ru E (ifM t f g) s Q := by
  obtain ⟨x, s1, e, rfl, rfl⟩ := ru_get h
  rw [ru_if]
  refine ru_eq e ?_
  cases x with
  | true => rw [if_pos rfl]; exact q1 rfl
  | false => rw [if_neg (by decide)]; exact q2 rfl
theorem wd_map {α : Type} {l : List α} {f : α → List Nat} : D.lst (l.map fun i => txt (f i)) = WD (l.map f) := by
  show _ = D.lst ((l.map f).map txt)
  rw [List.map_map]
  rfl
theorem ru_min2 {a b : Int} {E : String → DS → Prop} {s : DS} {Q : D → DS → Prop} : ru E (min2F [.int a, .int b]) s Q ↔ Q (.int (if b < a then b else a)) s := Iff.rfl
end Vl
namespace Vl
open PySem PySem.Spec PyProof.Rows
/-! ### typed values: how a type's values stand as D, with their order -/
structure En (α : Type) where
  e : α → D
  dp : Nat
  lt : α → α → Bool
  cl : ∀ a, cln (e a) = true
  inj : ∀ a b, e a = e b → a = b
  dpl : ∀ a, P.dpD (e a) ≤ dp
  like : ∀ a b, likeD (e a) (e b) = true
  ltd : ∀ a b, ltD (e a) (e b) = lt a b
  irr : ∀ a, lt a a = false
  tri : ∀ a b, lt a b = false → lt b a = false → a = b
  tr : ∀ a b c, lt a b = true → lt b c = true → lt a c = true
def eI : En Int where
  e := .int
  dp := 0
  lt a b := decide (a < b)
  cl _ := rfl
  inj a b h := by cases h; rfl
  dpl _ := Nat.le_refl _
  like a b := by show PySem.W.alike (.int a) (.int b) = true; simp only [PySem.W.alike]
  ltd a b := PySem.W.dataLt_int a b
  irr a := by simp
  tri a b h1 h2 := by simp at h1 h2; omega
  tr a b c h1 h2 := by simp at h1 h2 ⊢; omega
theorem ltN_tri : ∀ a b : List Nat, ¬ a < b → ¬ b < a → a = b := fun a b h1 h2 => List.le_antisymm (List.not_lt.mp h2) (List.not_lt.mp h1)
/-- a text, by its signs -/
def eT : En (List Nat) where
  e := txt
  dp := 0
  lt a b := decide (a < b)
  cl _ := rfl
  inj a b h := txt_inj.mp h
  dpl _ := Nat.le_refl _
  like a b := by show PySem.W.alike (.str _) (.str _) = true; simp only [PySem.W.alike]
  ltd a b := by
    show PySem.W.dataLt (.str ⟨a.toArray⟩) (.str ⟨b.toArray⟩) = _
    have := PySem.W.dataLt_str (⟨a.toArray⟩ : Str) ⟨b.toArray⟩
    simpa using this
  irr a := by simp
  tri a b h1 h2 := ltN_tri a b (by simpa using h1) (by simpa using h2)
  tr a b c h1 h2 := by
    have h1 : a < b := by simpa using h1
    have h2 : b < c := by simpa using h2
    simpa using List.lt_trans h1 h2
section
variable {α β γ δ : Type}
theorem En.eqv (A : En α) (a b : α) : PyData.eqv (toP (A.e a)) (toP (A.e b)) = true ↔ a = b := by
  rw [cln_eqv (A.cl a) (A.cl b)]
  exact ⟨fun h => A.inj a b h, fun h => by rw [h]⟩
theorem En.asym (A : En α) {a b : α} (h : A.lt a b = true) : A.lt b a = false := by
  cases q : A.lt b a with
  | false => rfl
  | true => have := A.tr _ _ _ h q; rw [A.irr] at this; cases this
noncomputable def ltL (A : En α) : List α → List α → Bool
  | [], [] => false
  | [], _ :: _ => true
  | _ :: _, [] => false
  | x :: xs, y :: ys => A.lt x y || (!A.lt y x && ltL A xs ys)
theorem ltL_toks (A : En α) : ∀ xs ys : List α, PySem.W.rowLt (toPs (xs.map A.e)) (toPs (ys.map A.e)) = ltL A xs ys
  | [], [] => by
    have e : PySem.W.rowLt [] [] = false := PyProof.Rows.lex_irrefl _
    exact e
  | [], y :: ys => by
    rw [List.map_nil, List.map_cons, toPs, toPs, ltL]
    unfold PySem.W.rowLt
    simp only [PySem.W.keyToksAll]
    rw [PyProof.Rows.lex_diff (O := PyProof.Rows.itemOrd) (by simp)]
    rfl
  | x :: xs, [] => by
    rw [List.map_nil, List.map_cons, toPs, toPs, ltL]
    unfold PySem.W.rowLt
    simp only [PySem.W.keyToksAll]
    rw [PyProof.Rows.lex_diff (O := PyProof.Rows.itemOrd) (by simp)]
    rfl
  | x :: xs, y :: ys => by
    rw [List.map_cons, List.map_cons, toPs, toPs, ltL]
    unfold PySem.W.rowLt
    rw [PySem.W.dataLt_cons (A.like x y)]
    have ih := ltL_toks A xs ys
    unfold PySem.W.rowLt at ih
    have hd : PySem.W.dataLt (toP (A.e x)) (toP (A.e y)) = A.lt x y := A.ltd x y
    by_cases h : x = y
    · subst h
      rw [if_pos ((A.eqv x x).mpr rfl), ih, A.irr]
      rfl
    · rw [if_neg (fun z => h ((A.eqv x y).mp z)), hd]
      cases q : A.lt x y with
      | true => rfl
      | false =>
        cases r : A.lt y x with
        | true => rfl
        | false => exact absurd (A.tri x y q r) h
theorem alike_map (A : En α) : ∀ xs ys : List α, PySem.W.alikeAll (toPs (xs.map A.e)) (toPs (ys.map A.e)) = true
  | [], _ => by rw [List.map_nil, toPs, PySem.W.alikeAll]
  | _ :: _, [] => by rw [List.map_nil, List.map_cons, toPs, toPs, PySem.W.alikeAll]
  | x :: xs, y :: ys => by
    rw [List.map_cons, List.map_cons, toPs, toPs, PySem.W.alikeAll, alike_map A xs ys]
    have : PySem.W.alike (toP (A.e x)) (toP (A.e y)) = true := A.like x y
    rw [this]; rfl
theorem ltL_irr (A : En α) : ∀ xs, ltL A xs xs = false
  | [] => rfl
  | x :: xs => by rw [ltL, A.irr, ltL_irr A xs]; rfl
theorem ltL_tri (A : En α) : ∀ xs ys, ltL A xs ys = false → ltL A ys xs = false → xs = ys
  | [], [], _, _ => rfl
  | [], _ :: _, h, _ => by cases h
  | _ :: _, [], _, h => by cases h
  | x :: xs, y :: ys, h1, h2 => by
    rw [ltL, Bool.or_eq_false_iff] at h1 h2
    have e := A.tri x y h1.1 h2.1
    subst e
    rw [A.irr] at h1 h2
    rw [ltL_tri A xs ys h1.2 h2.2]
theorem ltL_tr (A : En α) : ∀ xs ys zs, ltL A xs ys = true → ltL A ys zs = true → ltL A xs zs = true
  | _, [], [], _, h => by cases h
  | [], _ :: _, [], _, h => by cases h
  | [], _, _ :: _, _, _ => rfl
  | _ :: _, [], _ :: _, h, _ => by cases h
  | _ :: _, _ :: _, [], _, h => by cases h
  | x :: xs, y :: ys, z :: zs, h1, h2 => by
    rw [ltL] at h1 h2 ⊢
    cases a : A.lt x y with
    | true =>
      cases b : A.lt y z with
      | true => rw [A.tr x y z a b]; rfl
      | false =>
        rw [b] at h2
        simp only [Bool.false_or, Bool.and_eq_true, Bool.not_eq_true'] at h2
        have := A.tri y z b h2.1
        subst this
        rw [a]; rfl
    | false =>
      rw [a] at h1
      simp only [Bool.false_or, Bool.and_eq_true, Bool.not_eq_true'] at h1
      have := A.tri x y a h1.1
      subst this
      cases b : A.lt x z with
      | true => rfl
      | false =>
        rw [b] at h2
        simp only [Bool.false_or, Bool.and_eq_true, Bool.not_eq_true'] at h2
        rw [h2.1, ltL_tr A xs ys zs h1.2 h2.2]
        rfl
theorem dp_map (A : En α) (xs : List α) : P.dpDs (xs.map A.e) ≤ A.dp := dpDs_le fun x hx => by
  obtain ⟨a, _, rfl⟩ := List.mem_map.mp hx
  exact A.dpl a
theorem cl_map (A : En α) (xs : List α) : clns (xs.map A.e) = true := by
  rw [clns_iff]
  intro x hx
  obtain ⟨a, _, rfl⟩ := List.mem_map.mp hx
  exact A.cl a
theorem map_inj (A : En α) {xs ys : List α} (h : xs.map A.e = ys.map A.e) : xs = ys := (List.map_inj_right fun x y => A.inj x y).mp h
/-- a list of such -/
noncomputable def eL (A : En α) : En (List α) where
  e xs := .lst (xs.map A.e)
  dp := A.dp + 1
  lt := ltL A
  cl xs := cl_map A xs
  inj a b h := map_inj A (D.lst.inj h)
  dpl xs := by
    show P.dpDs (xs.map A.e) + 1 ≤ _
    have := dp_map A xs
    omega
  like a b := by
    show PySem.W.alike (.list _) (.list _) = true
    rw [PySem.W.alike]
    exact alike_map A a b
  ltd a b := (PySem.W.dataLt_list _ _).trans (ltL_toks A a b)
  irr := ltL_irr A
  tri := ltL_tri A
  tr := ltL_tr A
/-- a tuple of as many such as one likes -/
noncomputable def eU (A : En α) : En (List α) where
  e xs := .tup (xs.map A.e)
  dp := A.dp + 1
  lt := ltL A
  cl xs := cl_map A xs
  inj a b h := map_inj A (D.tup.inj h)
  dpl xs := by
    show P.dpDs (xs.map A.e) + 1 ≤ _
    have := dp_map A xs
    omega
  like a b := by
    show PySem.W.alike (.tuple _) (.tuple _) = true
    rw [PySem.W.alike]
    exact alike_map A a b
  ltd a b := (PySem.W.dataLt_tuple _ _).trans (ltL_toks A a b)
  irr := ltL_irr A
  tri := ltL_tri A
  tr := ltL_tr A
theorem rowLt_nil : PyProof.Rows.lexLt PyProof.Rows.itemOrd (PySem.W.keyToksAll []) (PySem.W.keyToksAll []) = false := PyProof.Rows.lex_irrefl _
theorem eqv_if (A : En α) (a b : α) {x y : Bool} : (if PyData.eqv (toP (A.e a)) (toP (A.e b)) = true then x else y) = if A.lt a b = true then y else if A.lt b a = true then y else x := by
  by_cases h : a = b
  · subst h
    rw [if_pos ((A.eqv a a).mpr rfl), A.irr]; rfl
  · rw [if_neg (fun z => h ((A.eqv a b).mp z))]
    cases q : A.lt a b with
    | true => rfl
    | false =>
      cases r : A.lt b a with
      | true => rfl
      | false => exact absurd (A.tri a b q r) h
/-- a pair -/
def eP (A : En α) (B : En β) : En (α × β) where
  e p := .tup [A.e p.1, B.e p.2]
  dp := max A.dp B.dp + 1
  lt p q := A.lt p.1 q.1 || (!A.lt q.1 p.1 && B.lt p.2 q.2)
  cl p := by show clns [_, _] = true; simp [clns, A.cl, B.cl]
  inj p q h := by
    have h := D.tup.inj h
    simp only [List.cons.injEq, and_true] at h
    exact Prod.ext (A.inj _ _ h.1) (B.inj _ _ h.2)
  dpl p := by
    show P.dpDs [_, _] + 1 ≤ _
    simp only [P.dpDs]
    have := A.dpl p.1
    have := B.dpl p.2
    omega
  like p q := by
    show PySem.W.alike (.tuple [_, _]) (.tuple [_, _]) = true
    have h1 : PySem.W.alike (toP (A.e p.1)) (toP (A.e q.1)) = true := A.like _ _
    have h2 : PySem.W.alike (toP (B.e p.2)) (toP (B.e q.2)) = true := B.like _ _
    simp [PySem.W.alike, PySem.W.alikeAll, h1, h2]
  ltd p q := by
    refine (PySem.W.dataLt_pair (A.like _ _) (B.like _ _)).trans ?_
    rw [eqv_if, eqv_if]
    have h1 : PySem.W.dataLt (toP (A.e p.1)) (toP (A.e q.1)) = A.lt p.1 q.1 := A.ltd _ _
    have h2 : PySem.W.dataLt (toP (B.e p.2)) (toP (B.e q.2)) = B.lt p.2 q.2 := B.ltd _ _
    rw [h1, h2]
    cases A.lt p.1 q.1 <;> cases A.lt q.1 p.1 <;> cases B.lt p.2 q.2 <;> cases B.lt q.2 p.2 <;> rfl
  irr p := by simp [A.irr, B.irr]
  tri p q h1 h2 := by
    rw [Bool.or_eq_false_iff] at h1 h2
    have e1 := A.tri _ _ h1.1 h2.1
    rw [e1, A.irr] at h1 h2
    exact Prod.ext e1 (B.tri _ _ (by simpa using h1.2) (by simpa using h2.2))
  tr p q r h1 h2 := by
    cases a : A.lt p.1 q.1 with
    | true =>
      cases b : A.lt q.1 r.1 with
      | true => rw [A.tr _ _ _ a b]; rfl
      | false =>
        rw [b] at h2
        simp only [Bool.false_or, Bool.and_eq_true, Bool.not_eq_true'] at h2
        have := A.tri _ _ b h2.1
        rw [← this, a]; rfl
    | false =>
      rw [a] at h1
      simp only [Bool.false_or, Bool.and_eq_true, Bool.not_eq_true'] at h1
      have := A.tri _ _ a h1.1
      rw [this]
      cases b : A.lt q.1 r.1 with
      | true => rfl
      | false =>
        rw [b] at h2
        simp only [Bool.false_or, Bool.and_eq_true, Bool.not_eq_true'] at h2
        rw [h2.1, B.tr _ _ _ h1.2 h2.2]
        rfl
/-- three in a tuple -/
def eP3 (A : En α) (B : En β) (C : En γ) : En (α × β × γ) where
  e p := .tup [A.e p.1, B.e p.2.1, C.e p.2.2]
  dp := max A.dp (max B.dp C.dp) + 1
  lt p q := A.lt p.1 q.1 || (!A.lt q.1 p.1 && (B.lt p.2.1 q.2.1 || (!B.lt q.2.1 p.2.1 && C.lt p.2.2 q.2.2)))
  cl p := by show clns [_, _, _] = true; simp [clns, A.cl, B.cl, C.cl]
  inj p q h := by
    have h := D.tup.inj h
    simp only [List.cons.injEq, and_true] at h
    exact Prod.ext (A.inj _ _ h.1) (Prod.ext (B.inj _ _ h.2.1) (C.inj _ _ h.2.2))
  dpl p := by
    show P.dpDs [_, _, _] + 1 ≤ _
    simp only [P.dpDs]
    have := A.dpl p.1
    have := B.dpl p.2.1
    have := C.dpl p.2.2
    omega
  like p q := by
    show PySem.W.alike (.tuple [_, _, _]) (.tuple [_, _, _]) = true
    have h1 : PySem.W.alike (toP (A.e p.1)) (toP (A.e q.1)) = true := A.like _ _
    have h2 : PySem.W.alike (toP (B.e p.2.1)) (toP (B.e q.2.1)) = true := B.like _ _
    have h3 : PySem.W.alike (toP (C.e p.2.2)) (toP (C.e q.2.2)) = true := C.like _ _
    simp [PySem.W.alike, PySem.W.alikeAll, h1, h2, h3]
  ltd p q := by
    refine (PySem.W.dataLt_tuple _ _).trans ?_
    simp only [toPs]
    rw [PySem.W.dataLt_cons (A.like _ _), PySem.W.dataLt_cons (B.like _ _), PySem.W.dataLt_cons (C.like _ _), rowLt_nil, eqv_if, eqv_if, eqv_if]
    have h1 : PySem.W.dataLt (toP (A.e p.1)) (toP (A.e q.1)) = A.lt p.1 q.1 := A.ltd _ _
    have h2 : PySem.W.dataLt (toP (B.e p.2.1)) (toP (B.e q.2.1)) = B.lt p.2.1 q.2.1 := B.ltd _ _
    have h3 : PySem.W.dataLt (toP (C.e p.2.2)) (toP (C.e q.2.2)) = C.lt p.2.2 q.2.2 := C.ltd _ _
    rw [h1, h2, h3]
    cases A.lt p.1 q.1 <;> cases A.lt q.1 p.1 <;> cases B.lt p.2.1 q.2.1 <;> cases B.lt q.2.1 p.2.1 <;> cases C.lt p.2.2 q.2.2 <;> cases C.lt q.2.2 p.2.2 <;> rfl
  irr p := (eP A (eP B C)).irr p
  tri p q h1 h2 := (eP A (eP B C)).tri p q h1 h2
  tr p q r h1 h2 := (eP A (eP B C)).tr p q r h1 h2
end
/-! ### what operations do on them -/
section
variable {α : Type} (A : En α)
theorem En.dat (hd : A.dp ≤ 50) (a : α) : dat (A.e a) = true := cln_dat (A.cl a) (Nat.le_trans (A.dpl a) hd)
theorem eqD_en (hd : A.dp ≤ 50) [DecidableEq α] (a b : α) : eqD (A.e a) (A.e b) = some (.bl (decide (a = b))) :=
  eqD_cl (A.cl a) (A.cl b) (Nat.le_trans (A.dpl a) hd) (Nat.le_trans (A.dpl b) hd) (by rw [decide_eq_true_iff]; exact ⟨fun h => by rw [h], A.inj a b⟩)
theorem neD_en (hd : A.dp ≤ 50) [DecidableEq α] (a b : α) : neD (A.e a) (A.e b) = some (.bl (!decide (a = b))) :=
  neD_cl (A.cl a) (A.cl b) (Nat.le_trans (A.dpl a) hd) (Nat.le_trans (A.dpl b) hd) (by rw [decide_eq_true_iff]; exact ⟨fun h => by rw [h], A.inj a b⟩)
theorem eqvD_en [DecidableEq α] (a b : α) : eqvD (A.e a) (A.e b) = decide (a = b) := by
  rw [Bool.eq_iff_iff, decide_eq_true_iff]
  exact A.eqv a b
theorem any_en [DecidableEq α] (a : α) (xs : List α) : ((xs.map A.e).any fun y => eqvD y (A.e a)) = decide (a ∈ xs) := by
  rw [List.any_map, Bool.eq_iff_iff, decide_eq_true_iff, List.any_eq_true]
  constructor
  · rintro ⟨x, hx, h⟩
    have h : eqvD (A.e x) (A.e a) = true := h
    rw [eqvD_en, decide_eq_true_iff] at h
    rw [← h]; exact hx
  · intro h
    exact ⟨a, h, by show eqvD (A.e a) (A.e a) = true; rw [eqvD_en]; simp⟩
theorem dat_lst (hd : A.dp ≤ 49) (xs : List α) : Vl.dat (.lst (xs.map A.e)) = true := (eL A).dat (show A.dp + 1 ≤ 50 by omega) xs
theorem dat_tup (hd : A.dp ≤ 49) (xs : List α) : Vl.dat (.tup (xs.map A.e)) = true := (eU A).dat (show A.dp + 1 ≤ 50 by omega) xs
theorem inD_en (hd : A.dp ≤ 49) [DecidableEq α] (a : α) (xs : List α) : inD (A.e a) (.lst (xs.map A.e)) = some (.bl (decide (a ∈ xs))) := by
  have e : ∀ d, inD d (.lst (xs.map A.e)) = if Vl.dat d = true ∧ Vl.dat (.lst (xs.map A.e)) = true then some (.bl ((xs.map A.e).any fun y => eqvD y d)) else none := fun d => by cases d <;> rfl
  rw [e, if_pos ⟨A.dat (by omega) a, dat_lst A hd xs⟩, any_en]
theorem inD_enT (hd : A.dp ≤ 49) [DecidableEq α] (a : α) (xs : List α) : inD (A.e a) (.tup (xs.map A.e)) = some (.bl (decide (a ∈ xs))) := by
  have e : ∀ d, inD d (.tup (xs.map A.e)) = if Vl.dat d = true ∧ Vl.dat (.tup (xs.map A.e)) = true then some (.bl ((xs.map A.e).any fun y => eqvD y d)) else none := fun d => by cases d <;> rfl
  rw [e, if_pos ⟨A.dat (by omega) a, dat_tup A hd xs⟩, any_en]
theorem notInD_of {a b : D} {k : Bool} (h : inD a b = some (.bl k)) : notInD a b = some (.bl (!k)) := by unfold notInD; rw [h]
theorem ordD_en (hd : A.dp ≤ 50) (a b : α) : ordD (A.e a) (A.e b) = true := by
  unfold ordD
  rw [A.dat hd a, A.dat hd b, A.like a b]
  have := A.cl a
  generalize A.e a = d at this
  cases d <;> first | rfl | (simp [cln] at this)
theorem ltV_en (hd : A.dp ≤ 50) (a b : α) : ltV (A.e a) (A.e b) = some (.bl (A.lt a b)) := by
  unfold ltV cmpV
  rw [if_pos (ordD_en A hd a b), A.ltd]
theorem gtV_en (hd : A.dp ≤ 50) (a b : α) : gtV (A.e a) (A.e b) = some (.bl (A.lt b a)) := by
  unfold gtV cmpV
  rw [if_pos (ordD_en A hd a b), A.ltd b a]
theorem leV_en (hd : A.dp ≤ 50) (a b : α) : leV (A.e a) (A.e b) = some (.bl (!A.lt b a)) := by
  unfold leV cmpV
  rw [if_pos (ordD_en A hd a b), A.ltd b a]
theorem geV_en (hd : A.dp ≤ 50) (a b : α) : geV (A.e a) (A.e b) = some (.bl (!A.lt a b)) := by
  unfold geV cmpV
  rw [if_pos (ordD_en A hd a b), A.ltd]
/-! the least, the greatest -/
def mnL (x : α) (xs : List α) : α := xs.foldl (fun a y => if A.lt y a = true then y else a) x
def mxL (x : α) (xs : List α) : α := xs.foldl (fun a y => if A.lt a y = true then y else a) x
theorem minDs_en (x : α) (xs : List α) : minDs (A.e x) (xs.map A.e) = A.e (mnL A x xs) := by
  unfold minDs mnL
  induction xs generalizing x with
  | nil => rfl
  | cons y r ih =>
    rw [List.map_cons, List.foldl_cons, List.foldl_cons, A.ltd, ← ih]
    congr 1
    split <;> rfl
theorem maxDs_en (x : α) (xs : List α) : maxDs (A.e x) (xs.map A.e) = A.e (mxL A x xs) := by
  unfold maxDs mxL
  induction xs generalizing x with
  | nil => rfl
  | cons y r ih =>
    rw [List.map_cons, List.foldl_cons, List.foldl_cons, A.ltd, ← ih]
    congr 1
    split <;> rfl
theorem cln_flat : ∀ {d : D}, cln d = true → flatD d = true := by
  suffices ∀ n d, sizeOf d < n → cln d = true → flatD d = true from fun {d} h => this _ d (Nat.lt_succ_self _) h
  intro n
  induction n with
  | zero => intro d h; omega
  | succ n ih =>
    intro d hs h
    have go : ∀ xs : List D, sizeOf xs < n → clns xs = true → flatDs xs = true := fun xs => by
      induction xs with
      | nil => intro _ _; rfl
      | cons x r ihr =>
        intro hs h
        rw [clns, Bool.and_eq_true] at h
        rw [flatDs, Bool.and_eq_true]
        simp only [List.cons.sizeOf_spec] at hs
        exact ⟨ih x (by omega) h.1, ihr (by omega) h.2⟩
    cases d with
    | int _ => rfl
    | str _ => rfl
    | lst xs => rw [cln] at h; rw [flatD]; exact go xs (by simp only [D.lst.sizeOf_spec] at hs; omega) h
    | tup xs => rw [cln] at h; rw [flatD]; exact go xs (by simp only [D.tup.sizeOf_spec] at hs; omega) h
    | _ => cases h
theorem clns_flat {xs : List D} (h : clns xs = true) : flatDs xs = true := by
  have := cln_flat (d := .lst xs) (by rw [cln]; exact h)
  rw [flatD] at this; exact this
theorem dats_en (hd : A.dp ≤ 50) (xs : List α) : dats (xs.map A.e) = true := by
  have := clns_plain (cl_map A xs)
  unfold dats
  rw [this.1, Bool.true_and]
  have h2 := dp_map A xs
  exact decide_eq_true (by omega)
theorem ordL_en (hd : A.dp ≤ 50) (xs : List α) : ordL (xs.map A.e) = true := by
  unfold ordL
  rw [dats_en A hd xs, Bool.true_and, List.all_eq_true]
  intro d hd
  obtain ⟨a, _, rfl⟩ := List.mem_map.mp hd
  rw [Bool.and_eq_true]
  refine ⟨List.all_eq_true.mpr fun b hb => ?_, ?_⟩
  · obtain ⟨b, _, rfl⟩ := List.mem_map.mp hb
    exact A.like a b
  · have := A.cl a
    generalize A.e a = d at this
    cases d <;> first | rfl | (simp [cln] at this)
theorem minF_en (hd : A.dp ≤ 50) (x : α) (xs : List α) : leastF minDs ((x :: xs).map A.e) = some (A.e (mnL A x xs)) := by
  have : leastF minDs ((x :: xs).map A.e) = if ordL ((x :: xs).map A.e) = true ∧ flatDs ((x :: xs).map A.e) = true then some (minDs (A.e x) (xs.map A.e)) else none := rfl
  rw [this, if_pos ⟨ordL_en A hd _, clns_flat (cl_map A _)⟩, minDs_en]
theorem maxF_en (hd : A.dp ≤ 50) (x : α) (xs : List α) : leastF maxDs ((x :: xs).map A.e) = some (A.e (mxL A x xs)) := by
  have : leastF maxDs ((x :: xs).map A.e) = if ordL ((x :: xs).map A.e) = true ∧ flatDs ((x :: xs).map A.e) = true then some (maxDs (A.e x) (xs.map A.e)) else none := rfl
  rw [this, if_pos ⟨ordL_en A hd _, clns_flat (cl_map A _)⟩, maxDs_en]
/-- m is the least of xs -/
def IsMin (xs : List α) (m : α) : Prop := m ∈ xs ∧ ∀ y ∈ xs, A.lt y m = false
def IsMax (xs : List α) (m : α) : Prop := m ∈ xs ∧ ∀ y ∈ xs, A.lt m y = false
theorem le_tr {a b c : α} (h1 : A.lt b a = false) (h2 : A.lt c b = false) : A.lt c a = false := by
  cases q : A.lt c a with
  | false => rfl
  | true =>
    cases r : A.lt a b with
    | true => have := A.tr _ _ _ q r; rw [this] at h2; cases h2
    | false => have := A.tri _ _ r h1; subst this; rw [q] at h2; cases h2
theorem mnL_min (x : α) (xs : List α) : IsMin A (x :: xs) (mnL A x xs) := by
  unfold mnL
  induction xs generalizing x with
  | nil => exact ⟨by simp, fun y hy => by simp at hy; subst hy; exact A.irr y⟩
  | cons y r ih =>
    rw [List.foldl_cons]
    obtain ⟨h1, h2⟩ := ih (if A.lt y x = true then y else x)
    refine ⟨?_, fun z hz => ?_⟩
    · rcases List.mem_cons.mp h1 with h | h
      · rw [h]; split <;> simp
      · simp [h]
    · have hb := h2 _ (List.mem_cons_self ..)
      by_cases c : A.lt y x = true
      · rw [if_pos c] at hb h2 ⊢
        rcases List.mem_cons.mp hz with rfl | hz
        · exact le_tr A hb (A.asym c)
        · exact h2 z hz
      · rw [if_neg c] at hb h2 ⊢
        rcases List.mem_cons.mp hz with rfl | hz
        · exact hb
        · rcases List.mem_cons.mp hz with rfl | hz
          · exact le_tr A hb (by simpa using c)
          · exact h2 z (List.mem_cons_of_mem _ hz)
theorem mxL_max (x : α) (xs : List α) : IsMax A (x :: xs) (mxL A x xs) := by
  unfold mxL
  induction xs generalizing x with
  | nil => exact ⟨by simp, fun y hy => by simp at hy; subst hy; exact A.irr y⟩
  | cons y r ih =>
    rw [List.foldl_cons]
    obtain ⟨h1, h2⟩ := ih (if A.lt x y = true then y else x)
    refine ⟨?_, fun z hz => ?_⟩
    · rcases List.mem_cons.mp h1 with h | h
      · rw [h]; split <;> simp
      · simp [h]
    · have hb := h2 _ (List.mem_cons_self ..)
      by_cases c : A.lt x y = true
      · rw [if_pos c] at hb h2 ⊢
        rcases List.mem_cons.mp hz with rfl | hz
        · exact le_tr A (A.asym c) hb
        · exact h2 z hz
      · rw [if_neg c] at hb h2 ⊢
        rcases List.mem_cons.mp hz with rfl | hz
        · exact hb
        · rcases List.mem_cons.mp hz with rfl | hz
          · exact le_tr A (by simpa using c) hb
          · exact h2 z (List.mem_cons_of_mem _ hz)
theorem IsMin.uniq {xs ys : List α} {m n : α} (h : IsMin A xs m) (h' : IsMin A ys n) (hs : ∀ a, a ∈ xs ↔ a ∈ ys) : m = n :=
  A.tri _ _ (h'.2 _ ((hs _).mp h.1)) (h.2 _ ((hs _).mpr h'.1))
theorem IsMax.uniq {xs ys : List α} {m n : α} (h : IsMax A xs m) (h' : IsMax A ys n) (hs : ∀ a, a ∈ xs ↔ a ∈ ys) : m = n :=
  A.tri _ _ (h.2 _ ((hs _).mpr h'.1)) (h'.2 _ ((hs _).mp h.1))
/-! sorted -/
def leB (a b : α) : Bool := !A.lt b a
def srt (xs : List α) : List α := xs.mergeSort (leB A)
theorem sortD_en (xs : List α) : sortD (xs.map A.e) = (srt A xs).map A.e := by
  unfold sortD srt
  rw [List.map_mergeSort (s := PySem.W.dataLe false toP)]
  intro a _ b _
  show (!A.lt b a) = _
  rw [PySem.W.dataLe_eq]
  show (!A.lt b a) = !PySem.W.dataLt (toP (A.e b)) (toP (A.e a))
  have := A.ltd b a
  unfold ltD at this
  rw [this]
/-- sorted takes such: tuples that are not empty, or none -/
def SrtOk : Prop := (∀ a, tup1 (A.e a) = true) ∨ ∀ a, notup (A.e a) = true
theorem sortF_en (hd : A.dp ≤ 50) (hk : SrtOk A) (xs : List α) (hl : xs.length ≤ 1000000) : sortF (xs.map A.e) = some ((srt A xs).map A.e) := by
  unfold sortF
  rw [if_pos, sortD_en]
  unfold sortable
  rw [Bool.and_eq_true, Bool.and_eq_true, Bool.and_eq_true]
  refine ⟨⟨⟨dats_en A hd xs, List.all_eq_true.mpr fun d hd => List.all_eq_true.mpr fun e he => ?_⟩, ?_⟩, decide_eq_true (by simpa using hl)⟩
  · obtain ⟨a, _, rfl⟩ := List.mem_map.mp hd
    obtain ⟨b, _, rfl⟩ := List.mem_map.mp he
    exact A.like a b
  · rw [Bool.or_eq_true]
    rcases hk with hk | hk
    · exact .inl (List.all_eq_true.mpr fun d hd => by obtain ⟨a, _, rfl⟩ := List.mem_map.mp hd; exact hk a)
    · exact .inr (List.all_eq_true.mpr fun d hd => by obtain ⟨a, _, rfl⟩ := List.mem_map.mp hd; exact hk a)
theorem srt_perm (xs : List α) : (srt A xs).Perm xs := List.mergeSort_perm xs _
theorem leB_total (a b : α) : (leB A a b || leB A b a) = true := by
  unfold leB
  cases q : A.lt b a with
  | false => rfl
  | true => rw [A.asym q]; rfl
theorem leB_trans (a b c : α) (h1 : leB A a b = true) (h2 : leB A b c = true) : leB A a c = true := by
  unfold leB at *
  simp only [Bool.not_eq_true'] at *
  exact le_tr A h1 h2
theorem srt_sorted (xs : List α) : (srt A xs).Pairwise fun a b => leB A a b = true := List.pairwise_mergeSort (leB_trans A) (leB_total A) xs
theorem srt_uniq {xs ys : List α} (h : xs.Perm ys) (hs : xs.Pairwise fun a b => leB A a b = true) (hs' : ys.Pairwise fun a b => leB A a b = true) : xs = ys := by
  refine h.eq_of_pairwise (le := fun a b => leB A a b = true) (fun a b _ _ h1 h2 => ?_) hs hs'
  unfold leB at h1 h2
  exact A.tri _ _ (by simpa using h2) (by simpa using h1)
theorem srt_of_sorted {xs : List α} (hs : xs.Pairwise fun a b => leB A a b = true) : srt A xs = xs := srt_uniq A (srt_perm A xs) (srt_sorted A xs) hs
theorem srt_congr {xs ys : List α} (h : xs.Perm ys) : srt A xs = srt A ys := srt_uniq A ((srt_perm A xs).trans (h.trans (srt_perm A ys).symm)) (srt_sorted A xs) (srt_sorted A ys)
theorem srt_mem {xs : List α} {a : α} : a ∈ srt A xs ↔ a ∈ xs := (srt_perm A xs).mem_iff
theorem srt_len (xs : List α) : (srt A xs).length = xs.length := (srt_perm A xs).length_eq
theorem srt_head {xs : List α} {a : α} {r : List α} (h : srt A xs = a :: r) : IsMin A xs a := by
  refine ⟨(srt_mem A).mp (by rw [h]; simp), fun y hy => ?_⟩
  have hy := (srt_mem A).mpr hy
  have hs := srt_sorted A xs
  rw [h] at hy hs
  rcases List.mem_cons.mp hy with rfl | hy
  · exact A.irr y
  · have := List.rel_of_pairwise_cons hs hy
    unfold leB at this
    simpa using this
/-! told equal by the law -/
theorem equal_en (hd : A.dp ≤ 5) (a : α) (hw : P.wideD (A.e a) = true) (m : List MO) : P.den__law_equal 12 [A.e a, A.e a] m = .ok (.bl true) m :=
  P.equal_ok A.dp _ _ m 12 (cln_same (A.cl a)) (A.dpl a) (by omega) hw
end
end Vl
namespace Vl
open PySem PySem.Spec PyProof.Rows
/-! ### tables by tuples of typed values -/
mutual
theorem keyN_inj : ∀ {a b : D} {k : NestedKey}, keyN a = some k → keyN b = some k → a = b
  | .non, b, k, h1, h2 => by
    cases h1
    cases b <;> simp [keyN] at h2 <;> first | rfl | (exfalso; exact h2.elim)
  | .int i, b, k, h1, h2 => by
    cases h1
    cases b <;> simp [keyN] at h2
    rw [h2]
  | .str x, b, k, h1, h2 => by
    cases h1
    cases b <;> simp [keyN] at h2
    rw [h2]
  | .tup ds, b, k, h1, h2 => by
    rw [keyN] at h1
    obtain ⟨ks, e, rfl⟩ := Option.map_eq_some_iff.mp h1
    cases b <;> simp [keyN] at h2
    rw [keysN_inj e h2]
  | .bl _, _, _, h1, _ => by cases h1
  | .lst _, _, _, h1, _ => by cases h1
  | .frl _, _, _, h1, _ => by cases h1
  | .ktp _, _, _, h1, _ => by cases h1
  | .dK _ _, _, _, h1, _ => by cases h1
  | .dT _ _, _, _, h1, _ => by cases h1
  | .mut _, _, _, h1, _ => by cases h1
theorem keysN_inj : ∀ {a b : List D} {k : List NestedKey}, keysN a = some k → keysN b = some k → a = b
  | [], b, k, h1, h2 => by
    cases h1
    cases b with
    | nil => rfl
    | cons x r =>
      rw [keysN] at h2
      obtain ⟨_, _, h2⟩ := Option.bind_eq_some_iff.mp h2
      obtain ⟨_, _, h2⟩ := Option.map_eq_some_iff.mp h2
      cases h2
  | d :: r, b, k, h1, h2 => by
    rw [keysN] at h1
    obtain ⟨k1, e1, h1⟩ := Option.bind_eq_some_iff.mp h1
    obtain ⟨k2, e2, rfl⟩ := Option.map_eq_some_iff.mp h1
    cases b with
    | nil => cases h2
    | cons x r' =>
      rw [keysN] at h2
      obtain ⟨j1, f1, h2⟩ := Option.bind_eq_some_iff.mp h2
      obtain ⟨j2, f2, h2⟩ := Option.map_eq_some_iff.mp h2
      cases h2
      rw [keyN_inj e1 f1, keysN_inj e2 f2]
end
theorem keyT_inj {a b : D} {k : NestedKey} (h1 : keyT a = some k) (h2 : keyT b = some k) : a = b := by
  cases a <;> try cases h1
  cases b <;> try cases h2
  rw [keyT] at h1 h2
  obtain ⟨k1, e1, h1⟩ := Option.bind_eq_some_iff.mp h1
  obtain ⟨k2, e2, h2⟩ := Option.bind_eq_some_iff.mp h2
  split at h1
  · cases h1
    split at h2
    · cases h2
      exact keyN_inj e1 e2
    · cases h2
  · cases h1
section
variable {α : Type} (A : En α)
/-- the values are keys of a table -/
def KeyOk : Prop := ∀ a, ∃ k, keyT (A.e a) = some k
theorem keyT_en (hk : KeyOk A) {a b : α} (h : keyT (A.e a) = keyT (A.e b)) : a = b := by
  obtain ⟨k, e⟩ := hk a
  exact A.inj a b (keyT_inj e (by rw [← h]; exact e))
def insK [DecidableEq α] (xs : List α) (a : α) : List α := if a ∈ xs then xs else xs ++ [a]
theorem putO_en [DecidableEq α] (hk : KeyOk A) {xs : List α} {ds : List D} (a : α) (d : D) (hl : xs.length < 1000000) :
    putO (.dT (xs.map A.e) ds) (A.e a) d = some (.dT ((insK xs a).map A.e) (puD xs ds a d).2) := by
  obtain ⟨k, e⟩ := hk a
  show ((keyT (A.e a)).bind fun key => if (xs.map A.e).length < 1000000 then some (MO.dT (if some key ∈ (xs.map A.e).map keyT then xs.map A.e else xs.map A.e ++ [A.e a]) (puD ((xs.map A.e).map keyT) ds (some key) d).2) else none) = _
  rw [e, Option.bind_some, if_pos (by rw [List.length_map]; exact hl), ← e, List.map_map]
  have hin : (keyT (A.e a) ∈ xs.map (keyT ∘ A.e)) ↔ a ∈ xs := by
    rw [List.mem_map]
    exact ⟨fun ⟨b, h, e⟩ => by rw [← keyT_en A hk e]; exact h, fun h => ⟨a, h, rfl⟩⟩
  have hf : ∀ a b, (keyT ∘ A.e) a = (keyT ∘ A.e) b → a = b := fun a b h => keyT_en A hk h
  have e2 : (puD (xs.map (keyT ∘ A.e)) ds (keyT (A.e a)) d).2 = (puD xs ds a d).2 := by
    unfold puD
    by_cases h : a ∈ xs
    · rw [if_pos (hin.mpr h), if_pos h]
      exact reD_map (f := keyT ∘ A.e) hf
    · rw [if_neg fun z => h (hin.mp z), if_neg h]
  rw [e2]
  unfold insK
  by_cases h : a ∈ xs
  · rw [if_pos (hin.mpr h), if_pos h]
  · rw [if_neg fun z => h (hin.mp z), if_neg h, List.map_append]; rfl
theorem insK_nodup [DecidableEq α] {xs : List α} {a : α} (h : xs.Nodup) : (insK xs a).Nodup := by
  unfold insK
  split
  · exact h
  · rename_i hn
    rw [List.nodup_append]
    exact ⟨h, by simp, fun x hx y hy => by simp at hy; subst hy; intro z; subst z; exact hn hx⟩
theorem insK_mem [DecidableEq α] {xs : List α} {a b : α} : b ∈ insK xs a ↔ b ∈ xs ∨ b = a := by
  unfold insK
  split
  · rename_i h
    exact ⟨.inl, fun z => z.elim id fun e => by rw [e]; exact h⟩
  · simp
theorem insK_len [DecidableEq α] {xs : List α} {a : α} : (insK xs a).length ≤ xs.length + 1 := by
  unfold insK
  split <;> simp
/-- the keys met, each once, in the order in which they are met -/
def metK [DecidableEq α] (xs : List α) : List α := xs.foldl insK []
theorem metK_snoc [DecidableEq α] {xs : List α} {a : α} : metK (xs ++ [a]) = insK (metK xs) a := by unfold metK; rw [List.foldl_append]; rfl
theorem metK_facts [DecidableEq α] (xs : List α) : (metK xs).Nodup ∧ (∀ b, b ∈ metK xs ↔ b ∈ xs) ∧ (metK xs).length ≤ xs.length := by
  have gen : ∀ (l acc : List α), acc.Nodup → (l.foldl insK acc).Nodup ∧ (∀ b, b ∈ l.foldl insK acc ↔ b ∈ acc ∨ b ∈ l) ∧ (l.foldl insK acc).length ≤ acc.length + l.length := by
    intro l
    induction l with
    | nil => intro acc h; exact ⟨h, fun b => by simp, by simp⟩
    | cons x r ih =>
      intro acc h
      obtain ⟨h1, h2, h3⟩ := ih _ (insK_nodup (a := x) h)
      have := insK_len (xs := acc) (a := x)
      refine ⟨h1, fun b => ?_, by rw [List.foldl_cons, List.length_cons]; omega⟩
      rw [List.foldl_cons, h2, insK_mem, List.mem_cons]
      constructor
      · rintro ((a | b) | c)
        · exact .inl a
        · exact .inr (.inl b)
        · exact .inr (.inr c)
      · rintro (a | b | c)
        · exact .inl (.inl a)
        · exact .inl (.inr b)
        · exact .inr c
  obtain ⟨h1, h2, h3⟩ := gen xs [] List.nodup_nil
  exact ⟨h1, fun b => by rw [metK, h2]; simp, by simpa [metK] using h3⟩
end
theorem ru_congr {β : Type} {E : String → DS → Prop} {f g : M β} {s : DS} {Q : β → DS → Prop} (h : f s = g s) : ru E f s Q ↔ ru E g s Q := by unfold ru; rw [h]
theorem ru_putv {E : String → DS → Prop} {i : Nat} {fk : M D} {d : D} {s : DS} {Q : Unit → DS → Prop} : ru E (putvM i fk d) s Q ↔ seeB i s = true ∧ ru E fk s fun k s1 => ru E (putAt i k d) s1 Q := by
  by_cases h : seeB i s = true
  · have e : putvM i fk d s = (bnd fk fun k => putAt i k d) s := if_pos h
    rw [ru_congr e, ru_bnd]
    exact ⟨fun z => ⟨h, z⟩, fun z => z.2⟩
  · have e : putvM i fk d s = .stuck := if_neg h
    rw [ru_congr (g := fun _ => .stuck) e]
    exact ⟨fun z => z.elim, fun z => h z.1⟩
theorem ru_putT {α : Type} (A : En α) [DecidableEq α] (hk : KeyOk A) {E : String → DS → Prop} {env : List Slot} {mem : List MO} {i : Nat} {xs : List α} {ds : List D} {a : α} {d : D} {Q : Unit → DS → Prop}
    (he : env[i]? = some (.ownT (xs.map A.e) ds)) (hl : xs.length < 1000000) (q : Q () ⟨env.set i (.ownT ((insK xs a).map A.e) (puD xs ds a d).2), mem⟩) : ru E (putAt i (A.e a) d) ⟨env, mem⟩ Q := by
  have e : putAt i (A.e a) d ⟨env, mem⟩ = .ok () ⟨env.set i (.ownT ((insK xs a).map A.e) (puD xs ds a d).2), mem⟩ := by
    unfold putAt
    dsimp only
    rw [he]
    have hp := putO_en A hk (ds := ds) a d hl
    simp only [Slot.mo, hp]
    rfl
  exact ru_eq e q
/-! ### a sorted list, what stands in it more than once left out -/
section
variable {α : Type} (A : En α) [DecidableEq α]
def adjP (l : List α) (d : α) (i : Nat) : Bool := decide (i = 0) || !decide (l.getD i d = l.getD (i - 1) d)
def adj (l : List α) (d : α) : List α := ((List.range l.length).filter (adjP l d)).map fun i => l.getD i d
theorem getD_le {l : List α} (hs : l.Pairwise fun a b => leB A a b = true) {d : α} {i j : Nat} (h : i ≤ j) (hj : j < l.length) : leB A (l.getD i d) (l.getD j d) = true := by
  have ei : l.getD i d = l[i]'(by omega) := by rw [List.getD_eq_getElem?_getD, List.getElem?_eq_getElem (by omega)]; rfl
  have ej : l.getD j d = l[j] := by rw [List.getD_eq_getElem?_getD, List.getElem?_eq_getElem hj]; rfl
  rw [ei, ej]
  rcases Nat.lt_or_eq_of_le h with h | h
  · exact (List.pairwise_iff_getElem.mp hs) i j (by omega) hj h
  · subst h
    unfold leB
    rw [A.irr]; rfl
theorem leB_anti {a b : α} (h1 : leB A a b = true) (h2 : leB A b a = true) : a = b := by
  unfold leB at h1 h2
  exact A.tri a b (by simpa using h2) (by simpa using h1)
theorem adj_facts {l : List α} (hs : l.Pairwise fun a b => leB A a b = true) (d : α) :
    (adj l d).Nodup ∧ (∀ a, a ∈ adj l d ↔ a ∈ l) ∧ (adj l d).Pairwise (fun a b => leB A a b = true) ∧ (adj l d).length ≤ l.length ∧ (adj l d)[0]? = l[0]? := by
  have hp : ((List.range l.length).filter (adjP l d)).Pairwise (· < ·) := List.Pairwise.filter _ List.pairwise_lt_range
  have hm : ∀ i ∈ (List.range l.length).filter (adjP l d), i < l.length ∧ adjP l d i = true := fun i hi => by
    have := List.mem_filter.mp hi
    exact ⟨List.mem_range.mp this.1, this.2⟩
  refine ⟨?_, fun a => ?_, ?_, ?_, ?_⟩
  · unfold adj List.Nodup
    rw [List.pairwise_map]
    refine (List.Pairwise.and_mem.mp hp).imp fun {i j} ⟨hi, hj, h⟩ e => ?_
    obtain ⟨j1, j2⟩ := hm j hj
    unfold adjP at j2
    rw [decide_eq_false (by omega), Bool.false_or] at j2
    have h1 := getD_le A hs (d := d) (show i ≤ j - 1 by omega) (by omega)
    have h2 := getD_le A hs (d := d) (show j - 1 ≤ j by omega) j1
    rw [e] at h1
    rw [leB_anti A h1 h2] at j2
    simp at j2
  · constructor
    · intro h
      obtain ⟨i, hi, rfl⟩ := List.mem_map.mp h
      have := (hm i hi).1
      rw [List.getD_eq_getElem?_getD, List.getElem?_eq_getElem this]
      exact List.getElem_mem this
    · intro h
      have key : ∀ n, n < l.length → l.getD n d = a → ∃ i, i < l.length ∧ adjP l d i = true ∧ l.getD i d = a := by
        intro n
        induction n with
        | zero => intro hn e; exact ⟨0, hn, by simp [adjP], e⟩
        | succ n ih =>
          intro hn e
          by_cases h : adjP l d (n + 1) = true
          · exact ⟨n + 1, hn, h, e⟩
          · unfold adjP at h
            rw [decide_eq_false (by omega), Bool.false_or, Nat.add_sub_cancel] at h
            have : l.getD (n + 1) d = l.getD n d := by simpa using h
            exact ih (by omega) (by rw [← this]; exact e)
      obtain ⟨n, hn, e⟩ := List.getElem_of_mem h
      obtain ⟨i, h1, h2, h3⟩ := key n hn (by rw [List.getD_eq_getElem?_getD, List.getElem?_eq_getElem hn]; exact e)
      exact List.mem_map.mpr ⟨i, List.mem_filter.mpr ⟨List.mem_range.mpr h1, h2⟩, h3⟩
  · unfold adj
    rw [List.pairwise_map]
    refine (List.Pairwise.and_mem.mp hp).imp fun {i j} ⟨hi, hj, h⟩ => ?_
    exact getD_le A hs (Nat.le_of_lt h) (hm j hj).1
  · unfold adj
    rw [List.length_map]
    have := List.length_filter_le (adjP l d) (List.range l.length)
    rwa [List.length_range] at this
  · cases l with
    | nil => rfl
    | cons x r =>
      unfold adj
      rw [List.length_cons, List.range_succ_eq_map, List.filter_cons_of_pos (by simp [adjP])]
      rfl
theorem sorted_uniq {xs ys : List α} (h1 : xs.Nodup) (h2 : ys.Nodup) (hm : ∀ a, a ∈ xs ↔ a ∈ ys) (hs : xs.Pairwise fun a b => leB A a b = true) (hs' : ys.Pairwise fun a b => leB A a b = true) : xs = ys :=
  srt_uniq A ((List.perm_ext_iff_of_nodup h1 h2).mpr hm) hs hs'
/-- sorted, when those that are there can be sorted -/
theorem sortF_enL (hd : A.dp ≤ 50) (xs : List α) (hk : (∀ a ∈ xs, tup1 (A.e a) = true) ∨ ∀ a ∈ xs, notup (A.e a) = true) (hl : xs.length ≤ 1000000) : sortF (xs.map A.e) = some ((srt A xs).map A.e) := by
  unfold sortF
  rw [if_pos, sortD_en]
  unfold sortable
  rw [Bool.and_eq_true, Bool.and_eq_true, Bool.and_eq_true]
  refine ⟨⟨⟨dats_en A hd xs, List.all_eq_true.mpr fun d hd => List.all_eq_true.mpr fun e he => ?_⟩, ?_⟩, decide_eq_true (by simpa using hl)⟩
  · obtain ⟨a, _, rfl⟩ := List.mem_map.mp hd
    obtain ⟨b, _, rfl⟩ := List.mem_map.mp he
    exact A.like a b
  · rw [Bool.or_eq_true]
    rcases hk with hk | hk
    · exact .inl (List.all_eq_true.mpr fun d hd => by obtain ⟨a, h, rfl⟩ := List.mem_map.mp hd; exact hk a h)
    · exact .inr (List.all_eq_true.mpr fun d hd => by obtain ⟨a, h, rfl⟩ := List.mem_map.mp hd; exact hk a h)
end
/-! ### a value is told equal to itself -/
theorem equal_cl {d : D} (h : cln d = true) (hd : P.dpD d ≤ 5) (hw : P.wideD d = true) (m : List MO) : P.den__law_equal 12 [d, d] m = .ok (.bl true) m :=
  P.equal_ok 5 d d m 12 (cln_same h) hd (by decide) hw
theorem wideDs_of {xs : List D} (h : ∀ x ∈ xs, P.wideD x = true) : P.wideDs xs = true := by
  induction xs with
  | nil => rfl
  | cons a r ih =>
    rw [P.wideDs, h a (by simp), ih fun x hx => h x (by simp [hx])]
    rfl
theorem wideD_lst {xs : List D} (hl : xs.length ≤ 1000000) (h : ∀ x ∈ xs, P.wideD x = true) : P.wideD (.lst xs) = true := by
  rw [P.wideD, wideDs_of h, decide_eq_true hl]; rfl
theorem wideD_tup {xs : List D} (hl : xs.length ≤ 1000000) (h : ∀ x ∈ xs, P.wideD x = true) : P.wideD (.tup xs) = true := by
  rw [P.wideD, wideDs_of h, decide_eq_true hl]; rfl
/-- what is in, is told -/
theorem inX_lst_some {a : D} {xs : List D} (ha : dat a = true) (hx : dat (.lst xs) = true) : ∃ k, inX a (.lst xs) = some (.bl k) := by
  refine ⟨xs.any fun y => eqvD y a, ?_⟩
  have e : inD a (.lst xs) = if Vl.dat a = true ∧ Vl.dat (.lst xs) = true then some (.bl (xs.any fun y => eqvD y a)) else none := by cases a <;> rfl
  rw [inX_lst, e, if_pos ⟨ha, hx⟩]
theorem keysN_txt : ∀ ls : List (List Nat), ∃ ks, keysN (ls.map txt) = some ks ∧ NestedKey.depthAll ks = 0
  | [] => ⟨[], rfl, rfl⟩
  | l :: r => by
    obtain ⟨ks, h1, h2⟩ := keysN_txt r
    refine ⟨.text ⟨l.toArray⟩ :: ks, ?_, ?_⟩
    · rw [List.map_cons, keysN, h1]; rfl
    · rw [NestedKey.depthAll, h2]; rfl
theorem keyOk_U : KeyOk (eU eT) := fun ls => by
  obtain ⟨ks, h1, h2⟩ := keysN_txt ls
  refine ⟨.tup ks, ?_⟩
  show ((keyN (.tup (ls.map txt))).bind fun k => if k.depth ≤ 8 then some k else none) = _
  rw [keyN, h1]
  show (if (NestedKey.tup ks).depth ≤ 8 then some (NestedKey.tup ks) else none) = _
  rw [if_pos (by rw [NestedKey.depth, h2]; decide)]
theorem keysN_int : ∀ ls : List Int, ∃ ks, keysN (ls.map .int) = some ks ∧ NestedKey.depthAll ks = 0
  | [] => ⟨[], rfl, rfl⟩
  | l :: r => by
    obtain ⟨ks, h1, h2⟩ := keysN_int r
    refine ⟨.num l :: ks, ?_, ?_⟩
    · rw [List.map_cons, keysN, h1]; rfl
    · rw [NestedKey.depthAll, h2]; rfl
theorem keyOk_Pt : KeyOk (eP eI eI) := fun ⟨a, b⟩ => ⟨.tup [.num a, .num b], rfl⟩
/-! ### steps of a walk -/
theorem ru_seqI {E : String → DS → Prop} {f g : M Out} {s : DS} {Q : Out → DS → Prop} (I : DS → Prop) (h : ru NE f s fun o s1 => o = .nx ∧ I s1) (q : ∀ s1, I s1 → ru E g s1 Q) : ru E (seqM f g) s Q := by
  obtain ⟨x, s1, e, rfl, hI⟩ := ru_get h
  rw [ru_seq]
  exact ru_eq e (q s1 hI)
theorem ixD_mem {xs : List D} {i : Int} (h0 : 0 ≤ i) (h : i < xs.length) : ∃ d, ixD (.lst xs) (.int i) = some d ∧ d ∈ xs := by
  have hl : i.toNat < xs.length := by omega
  exact ⟨_, P.ixD_at h0 (List.getElem?_eq_getElem hl), List.getElem_mem hl⟩
theorem ix_get {α : Type} {f : α → D} {l : List α} {i : Nat} (d : α) (h : i < l.length) : ixD (.lst (l.map f)) (.int (i : Int)) = some (f (l.getD i d)) := ixD_li (by
  rw [List.getElem?_map, List.getD_eq_getElem?_getD, List.getElem?_eq_getElem h]; rfl)
theorem eq_i (i : Int) (m) : P.den__law_equal 12 [.int i, .int i] m = .ok (.bl true) m := P.equal_ok 0 _ _ m 12 (.int i) (Nat.le_refl 0) (by decide) rfl
theorem eq_b (i : Bool) (m) : P.den__law_equal 12 [.bl i, .bl i] m = .ok (.bl true) m := P.equal_ok 0 _ _ m 12 (.bl i) (Nat.le_refl 0) (by decide) rfl
theorem eq_n (m) : P.den__law_equal 12 [.non, .non] m = .ok (.bl true) m := P.equal_ok 0 _ _ m 12 .non (Nat.le_refl 0) (by decide) rfl
theorem two_of (a b : D) {v : Int} (h0 : 0 ≤ v) (h3 : v < 2) : ∃ w, ixD (.lst [a, b]) (.int v) = some w ∧ (w = a ∨ w = b) := by
  have : v = 0 ∨ v = 1 := by omega
  rcases this with rfl | rfl
  · exact ⟨a, rfl, .inl rfl⟩
  · exact ⟨b, rfl, .inr rfl⟩
theorem clns_map {α : Type} {f : α → D} (h : ∀ a, cln (f a) = true) (l : List α) : clns (l.map f) = true := by
  rw [clns_iff]
  intro x hx
  obtain ⟨a, _, rfl⟩ := List.mem_map.mp hx
  exact h a
theorem ru_par3 {E : String → DS → Prop} {s : DS} {i j l : Nat} {f : M (List D)} {Q : Out → DS → Prop} : ru E (par3M i j l f) s Q ↔ ru E f s fun ds s1 => ∃ a b c, ds = [a, b, c] ∧ Q .nx ⟨((s1.env.set i (.val a)).set j (.val b)).set l (.val c), s1.mem⟩ := by
  unfold par3M
  rw [ru_bnd]
  constructor
  · intro h
    refine ru_mono h fun ds s1 q => ?_
    split at q
    · exact ⟨_, _, _, rfl, by simpa using q⟩
    · exact q.elim
  · intro h
    refine ru_mono h fun ds s1 q => ?_
    obtain ⟨a, b, c, rfl, q⟩ := q
    simpa using q
theorem ru_idx {E : String → DS → Prop} {s : DS} {fa fb : M D} {Q : D → DS → Prop} : ru E (idxM fa fb) s Q ↔ ru E fa s fun x s1 => isLst x = true ∧ ru E fb s1 fun y s2 => ru E (opt (idxD x y)) s2 Q := by
  unfold idxM
  rw [ru_bnd]
  constructor
  · intro h
    refine ru_mono h fun x s1 q => ?_
    by_cases hx : isLst x = true
    · refine ⟨hx, ?_⟩
      have e : (fun s => if isLst x = true then (bnd fb fun y => opt (idxD x y)) s else .stuck : M D) s1 = (bnd fb fun y => opt (idxD x y)) s1 := if_pos hx
      rw [ru_congr e, ru_bnd] at q
      exact q
    · have e : (fun s => if isLst x = true then (bnd fb fun y => opt (idxD x y)) s else .stuck : M D) s1 = .stuck := if_neg hx
      rw [ru_congr (g := fun _ => .stuck) e] at q
      exact q.elim
  · intro h
    refine ru_mono h fun x s1 ⟨hx, q⟩ => ?_
    have e : (fun s => if isLst x = true then (bnd fb fun y => opt (idxD x y)) s else .stuck : M D) s1 = (bnd fb fun y => opt (idxD x y)) s1 := if_pos hx
    rw [ru_congr e, ru_bnd]
    exact q
theorem ints0_map : ∀ l : List Int, ints0 (l.map .int) = some l
  | [] => rfl
  | a :: r => by rw [List.map_cons, ints0, ints0_map r]; rfl
theorem idxD_int {l : List Int} {v : Int} {j : Nat} (h : idxN v l = some j) : idxD (.lst (l.map .int)) (.int v) = some (.int (j : Nat)) := by
  show ((ints0 (l.map .int)).bind fun ns => (idxN v ns).map fun j => D.int (j : Nat)) = _
  rw [ints0_map, Option.bind_some, h]; rfl
theorem slL_take {xs : List D} {k : Int} (h0 : 0 ≤ k) : slD (.lst xs) none (some k) = some (.lst (xs.take k.toNat)) := by
  show some (D.lst (cutD xs none (some k))) = _
  unfold cutD
  have e2 : HT.sIx xs.length xs.length (some k) = min k.toNat xs.length := by
    show (if k < 0 then _ else min k.toNat xs.length) = _
    rw [if_neg (by omega)]
  have e1 : HT.sIx xs.length 0 none = 0 := rfl
  rw [e1, e2, List.drop_zero, Nat.sub_zero]
  by_cases h : k.toNat ≤ xs.length
  · rw [Nat.min_eq_left h]
  · rw [Nat.min_eq_right (by omega), List.take_of_length_le (Nat.le_refl _), List.take_of_length_le (by omega)]
theorem slL_drop {xs : List D} {k : Int} (h0 : 0 ≤ k) : slD (.lst xs) (some k) none = some (.lst (xs.drop k.toNat)) := by
  show some (D.lst (cutD xs (some k) none)) = _
  unfold cutD
  have e2 : HT.sIx xs.length 0 (some k) = min k.toNat xs.length := by
    show (if k < 0 then _ else min k.toNat xs.length) = _
    rw [if_neg (by omega)]
  have e1 : HT.sIx xs.length xs.length none = xs.length := rfl
  rw [e1, e2, List.take_of_length_le (by rw [List.length_drop]; omega)]
  by_cases h : k.toNat ≤ xs.length
  · rw [Nat.min_eq_left h]
  · rw [Nat.min_eq_right (by omega), List.drop_eq_nil_of_le (Nat.le_refl _), List.drop_eq_nil_of_le (by omega)]
theorem ru_max2 {a b : Int} {E : String → DS → Prop} {s : DS} {Q : D → DS → Prop} : ru E (max2F [.int a, .int b]) s Q ↔ Q (.int (if b > a then b else a)) s := Iff.rfl
theorem ru_mutO {E : String → DS → Prop} {env : List Slot} {mem : List MO} {i : Nat} {g : MutF} {f : M (List D)} {Q : D → DS → Prop} {xs : List D} (hs : env[i]? = some (.own xs))
    (h : ru E f ⟨env, mem⟩ fun as s1 => s1 = ⟨env, mem⟩ ∧ ∃ d ys, g xs as = some (d, ys) ∧ Q d ⟨env.set i (.own ys), mem⟩) : ru E (mutvM g i f) ⟨env, mem⟩ Q := by
  have e : mutvM g i f ⟨env, mem⟩ = (bnd f fun as => mutAt g i as) ⟨env, mem⟩ := by
    unfold mutvM seeL
    rw [show (⟨env, mem⟩ : DS).env = env from rfl, hs]
    exact if_pos rfl
  rw [ru_congr e, ru_bnd]
  refine ru_mono h fun as s1 ⟨e1, d, ys, e2, q⟩ => ?_
  subst e1
  refine ru_eq (a := d) (s' := ⟨env.set i (.own ys), mem⟩) ?_ q
  unfold mutAt
  rw [show (⟨env, mem⟩ : DS).env = env from rfl, hs]
  dsimp only
  rw [e2]
theorem intsD_map : ∀ l : List Int, intsD (l.map .int) = some l
  | [] => rfl
  | a :: r => by rw [List.map_cons, intsD, intsD_map r]; rfl
theorem ru_sum {l : List Int} {E : String → DS → Prop} {s : DS} {Q : D → DS → Prop} : ru E (sumF [.lst (l.map .int)]) s Q ↔ Q (.int l.sum) s := by
  have e : sumF [.lst (l.map .int)] = opt (some (.int l.sum)) := by
    show opt ((intsD (l.map .int)).map fun ns => D.int ns.sum) = _
    rw [intsD_map]; rfl
  rw [e]
  exact ru_opt_some
theorem ru_lrng {fs : M (List D)} {g : List D → Option (List D)} {E : String → DS → Prop} {s : DS} {Q : List D → DS → Prop} : ru E (lrngM fs g) s Q ↔ ru E fs s fun xs s1 => ru E (opt (g xs)) s1 fun l s2 => l.length ≤ 1000000 ∧ Q l s2 := by
  unfold lrngM
  simp only [ru_bnd]
  constructor
  · intro h
    refine ru_mono h fun xs s1 q => ru_mono q fun l s2 q => ?_
    by_cases hl : l.length ≤ 1000000
    · rw [if_pos hl] at q; exact ⟨hl, q⟩
    · rw [if_neg hl] at q; exact q.elim
  · intro h
    refine ru_mono h fun xs s1 q => ru_mono q fun l s2 ⟨hl, q⟩ => ?_
    rw [if_pos hl]; exact q
theorem slL_mid {xs : List D} {a b : Int} (h0 : 0 ≤ a) (h1 : 0 ≤ b) : slD (.lst xs) (some a) (some b) = some (.lst ((xs.take b.toNat).drop a.toNat)) := by
  show some (D.lst (cutD xs (some a) (some b))) = _
  unfold cutD
  have e1 : HT.sIx xs.length 0 (some a) = min a.toNat xs.length := by
    show (if a < 0 then _ else min a.toNat xs.length) = _
    rw [if_neg (by omega)]
  have e2 : HT.sIx xs.length xs.length (some b) = min b.toNat xs.length := by
    show (if b < 0 then _ else min b.toNat xs.length) = _
    rw [if_neg (by omega)]
  rw [e1, e2]
  congr 2
  refine List.ext_getElem? fun i => ?_
  rw [List.getElem?_take, List.getElem?_drop, List.getElem?_drop, List.getElem?_take]
  by_cases h : i < min b.toNat xs.length - min a.toNat xs.length
  · rw [if_pos h, if_pos (by omega)]
    congr 1
    omega
  · rw [if_neg h]
    by_cases h2 : a.toNat + i < b.toNat
    · rw [if_pos h2, List.getElem?_eq_none (by omega)]
    · rw [if_neg h2]
end Vl
namespace Vl.P.E
open PySem PySem.Spec PyProof.Rows Vl Vl.P
/-! ### another form of equality, as some laws have it -/
mutual
noncomputable def den__law_equal : Nat → Den
  | 0 => noDen
  | n + 1 => fnDen 2 2 (seqM (ifM (truM (isiM "list" (varM 1))) (seqM (ifM (orM (notM (truM (isiM "list" (varM 0)))) (tstM (binM neD (lookM1 lenD (peekM 0)) (lookM1 lenD (peekM 1))))) (retM (rtn (.bl false))) (rtn .nx))
 (retM (callM (den__law_all_equal n) (consM (varM 0) (consM (varM 1) (rtn [])))))) (rtn .nx))
 (seqM (ifM (truM (isiM "tuple" (varM 1))) (seqM (ifM (orM (notM (truM (isiM "tuple" (varM 0)))) (tstM (binM neD (lookM1 lenD (peekM 0)) (lookM1 lenD (peekM 1))))) (retM (rtn (.bl false))) (rtn .nx))
 (retM (callM (den__law_all_equal n) (consM (varM 0) (consM (varM 1) (rtn [])))))) (rtn .nx))
 (seqM (ifM (truM (isiM "bool" (varM 1))) (retM (andV (isiM "bool" (varM 0)) (binM eqD (varM 0) (varM 1)))) (rtn .nx))
 (seqM (ifM (truM (isiM "int" (varM 1))) (retM (andV (isiM "int" (varM 0)) (andV (notV (isiM "bool" (varM 0))) (binM eqD (varM 0) (varM 1))))) (rtn .nx))
 (seqM (ifM (truM (isiM "str" (varM 1))) (retM (andV (isiM "str" (varM 0)) (binM eqD (varM 0) (varM 1)))) (rtn .nx))
 (retM (binM isNV (varM 0) (rtn .non))))))))
noncomputable def den__law_all_equal : Nat → Den
  | 0 => noDen
  | n + 1 => fnDen 2 3 (seqM (forM (bnd (consM (lookM1 lenD (peekM 1)) (rtn [])) (fun xs => opt (rng1 xs))) (setM 2) (ifM (notM (truM (callM (den__law_equal n) (consM (ixvM 0 (varM 2)) (consM (ixvM 1 (varM 2)) (rtn [])))))) (retM (rtn (.bl false))) (rtn .nx)))
 (retM (rtn (.bl true))))
end
theorem all_equal_okw {g : Nat} {x y : D} {xs ys : List D} {m : List MO} (hx : Seqs x xs) (hy : Seqs y ys) (hs : SameDs xs ys) (hn : ys.length ≤ 1000000)
    (ih : ∀ (i : Nat) a b, ys[i]? = some b → SameD a b → dpD b ≤ dpDs ys → den__law_equal g [a, b] m = .ok (.bl true) m) : den__law_all_equal (g + 1) [x, y] m = .ok (.bl true) m := by
  rw [den__law_all_equal]
  refine fn_ok rfl ?_
  simp only [List.map_cons, List.map_nil, List.cons_append, List.nil_append, List.replicate, ru_seq, ru_for, ru_bnd, ru_cons, ru_look1, ru_peek, peekD_succ, peekD_val0, ru_rtn]
  refine ⟨_, rfl, ?_⟩
  rw [hy.len]
  simp only [ru_opt_some, rng1_int (show (-(2 ^ 62) : Int) ≤ (ys.length : Int) by omega) (show (ys.length : Int) < 2 ^ 62 by omega)]
  refine ru_forI (fun i s => ∃ c : Slot, s = ⟨[.val x, .val y, c], m⟩) ⟨.un, rfl⟩ (fun i d s hi ⟨c, hI⟩ => ?_) (fun s ⟨c, hI⟩ => ?_)
  · subst hI
    obtain ⟨h1, rfl⟩ := rngL_get hi
    have h1 : i < ys.length := by simpa using h1
    have hy1 : ys[i]? = some ys[i] := List.getElem?_eq_getElem h1
    obtain ⟨a, ha, hab⟩ := hs.get hy1
    have ey := fun s => hy.ix hy1 s
    have ex := fun s => hx.ix ha s
    simp only [ru_set, List.set_cons_succ, List.set_cons_zero, ru_if, ru_not, ru_tru, ru_call, ru_cons, ru_ixv', List.getElem?_cons_zero, List.getElem?_cons_succ, knownB_val, ru_var, slotV_succ, slotV_val0, peekD_succ, peekD_val0, Option.bind_some, Int.zero_add, ex, ey, ru_opt_some, ru_rtn, true_and, ih i a _ hy1 hab (dpDs_get hy1), frQ_ok, truD_bl, Bool.not_true, Bool.false_eq_true, if_false, stepQ_nx]
    exact ⟨_, rfl⟩
  · subst hI
    simp only [ru_ret, ru_rtn, true_or, and_self]
theorem equal_ok : ∀ (n : Nat) (a b : D) (m : List MO) (fuel : Nat), SameD a b → dpD b ≤ n → 2 * n + 1 ≤ fuel → wideD b = true → den__law_equal fuel [a, b] m = .ok (.bl true) m := by
  intro n
  induction n with
  | zero =>
    intro a b m fuel h hd hf hw
    obtain ⟨f, rfl⟩ : ∃ f, fuel = f + 1 := ⟨fuel - 1, by omega⟩
    rw [den__law_equal]
    refine fn_ok rfl ?_
    cases h with
    | non => simp [isNon]
    | bl b => simp
    | int i => simp
    | str x => simp
    | tup _ => rw [dpD] at hd; omega
    | lst _ => rw [dpD] at hd; omega
    | lf _ => rw [dpD] at hd; omega
    | fl _ => rw [dpD] at hd; omega
    | ff _ => rw [dpD] at hd; omega
  | succ n ih =>
    intro a b m fuel h hd hf hw
    obtain ⟨f, rfl⟩ : ∃ f, fuel = f + 1 + 1 := ⟨fuel - 2, by omega⟩
    have go : ∀ (xs ys : List D), SameDs xs ys → dpDs ys ≤ n → ys.length ≤ 1000000 → wideDs ys = true → ∀ (x y : D), Seqs x xs → Seqs y ys → den__law_all_equal (f + 1) [x, y] m = .ok (.bl true) m := fun xs ys hs hd hl hw x y hx hy => by
      have hs' : ∀ (i : Nat) (b : D), ys[i]? = some b → wideD b = true := fun i b e => wideDs_get hw (List.mem_of_getElem? e)
      refine all_equal_okw hx hy hs hl fun i a b hb hab hdb => ?_
      exact ih a b m f hab (by omega) (by omega) (hs' i b hb)
    rw [den__law_equal]
    refine fn_ok rfl ?_
    cases h with
    | non => simp [isNon]
    | bl b => simp
    | int i => simp
    | str x => simp
    | tup hs =>
      rename_i xs ys
      rw [dpD] at hd
      rw [wideD, Bool.and_eq_true] at hw
      simp [go xs ys hs (by omega) (of_decide_eq_true hw.1) hw.2 (.tup xs) (.tup ys) rfl rfl, hs.len]
    | lst hs =>
      rename_i xs ys
      rw [dpD] at hd
      rw [wideD, Bool.and_eq_true] at hw
      simp [go xs ys hs (by omega) (of_decide_eq_true hw.1) hw.2 (.lst xs) (.lst ys) rfl rfl, hs.len]
    | lf hs =>
      rename_i xs ys
      rw [dpD] at hd
      rw [wideD, Bool.and_eq_true] at hw
      simp [go xs ys hs (by omega) (of_decide_eq_true hw.1) hw.2 (.lst xs) (.frl ys) rfl rfl, hs.len]
    | fl hs =>
      rename_i xs ys
      rw [dpD] at hd
      rw [wideD, Bool.and_eq_true] at hw
      simp [go xs ys hs (by omega) (of_decide_eq_true hw.1) hw.2 (.frl xs) (.lst ys) rfl rfl, hs.len]
    | ff hs =>
      rename_i xs ys
      rw [dpD] at hd
      rw [wideD, Bool.and_eq_true] at hw
      simp [go xs ys hs (by omega) (of_decide_eq_true hw.1) hw.2 (.frl xs) (.frl ys) rfl rfl, hs.len]
theorem equal_cl {d : D} (h : cln d = true) (hd : P.dpD d ≤ 5) (hw : P.wideD d = true) (m : List MO) : den__law_equal 12 [d, d] m = .ok (.bl true) m := equal_ok 5 d d m 12 (cln_same h) hd (by decide) hw
end Vl.P.E
namespace Vl
open PySem PySem.Spec PyProof.Rows L2
/-! ### an element of a list, changed in its place -/
def rGetL (K : PySem.W.Frag) : V → V → Hp → VK → Prop := fun x y H Q => ∃ p xs i v, x = .ref p ∧ y = .int i ∧ 0 ≤ i ∧ SqL K H p xs ∧ atI xs i = some v ∧ Q v H
theorem get_list {X : Cx} : PGet X (rGetL X.K) := by
  intro pins s σ H o i ov iv Q I ro ri h
  obtain ⟨p, xs, i, z, rfl, rfl, h0, hq, he, q⟩ := h
  cases ro
  obtain ⟨t, rfl⟩ := ri
  obtain ⟨its, r, pl, hz⟩ := I.list hq
  obtain ⟨j, h1, h2, h3, h4, h5⟩ := atI_get he
  obtain ⟨w, ew, rw'⟩ := r.get h2
  have hl := r.length
  have hn := line63
  have hj : i.toNat = j := by
    rw [seqIndex_of h0 h5] at h1
    exact Option.some.inj h1
  exact wpAny_getItem_list pl.isList h0 (by omega) (by rw [hj]; simpa using ew) ⟨z, H, I, rw', q⟩
def elD (x k : D) : Option D := match x, k with
  | .lst xs, .int i => if 0 ≤ i then xs[i.toNat]? else none
  | _, _ => none
theorem elD_some {x k d : D} (h : elD x k = some d) : ∃ xs j, x = .lst xs ∧ k = .int j ∧ 0 ≤ j ∧ xs[j.toNat]? = some d := by
  unfold elD at h
  split at h
  · split at h
    · rename_i h0
      exact ⟨_, _, rfl, rfl, h0, h⟩
    · cases h
  · cases h
def augvM (g : D → D → Option D) (i : Nat) (fb fe : M D) : M Out := fun s => if seeB i s = true then (bnd fb fun k => bnd (fun s1 => opt ((peekD i s1).bind fun x => elD x k) s1) fun old => bnd fe fun y => bnd (opt (g old y)) fun z => bnd (putAt i k z) fun _ => rtn .nx) s else .stuck
section
variable {c : SC} {pos p pos' : Pos} {x : Str} {b e : Expr} {fb fe : M D}
theorem s_augv (i : Nat) {op : Operator} {g : D → D → Option D} (hN : c.N[i]? = some x) (hv : Vis c.sc x) (hb : VE c b fb) (he : VE c e fe) (ho : OpV c (inplaceOp op) g) (hc : c.calm = true := by rfl) (hd : (x == ("__debug__" : Str)) = false := by decide) (hcd : (x == ("__classdict__" : Str)) = false := by decide)
    (ha : ∀ ov iv new, augStore b ov iv new = (do holding [new, ov, iv] (setItem ov iv new); release [new, ov, iv] []; pure .next) := by intros; rfl) :
    VS c (.AugAssign (.Subscript (.Name x p) b pos') op e pos) (augvM g i fb fe) := by
  refine ⟨fun X W ok => ?_⟩
  obtain ⟨tb, pb, qb⟩ := hb.run X W ok
  obtain ⟨te, pe, qe⟩ := he.run X W ok
  obtain ⟨r, po, qo⟩ := ho X W ok
  have hu := room60 ok hc
  obtain ⟨exc, k, isdef, fnc, rfl⟩ := ok.eq
  refine ⟨_, ps_augS (pe_var hN hv hd hcd) pb get_list pe po (set_any (by omega)) ha, fun F ma S H σ ds E cf h => ?_⟩
  unfold augvM at h
  by_cases hq : seeB i ds = true
  · rw [if_pos hq] at h
    obtain ⟨vp, e1⟩ := cf.seeB hq
    refine ⟨_, e1, qb F ma S H σ ds _ cf (SRes.bind h fun kd ds1 ma1 S1 H1 kv x1 c1 r1 h1 => ?_)⟩
    have h1 : SRes _ W F ma1 S1 ((opt ((peekD i ds1).bind fun x => elD x kd) ds1).bind fun old => bnd fe fun y => bnd (opt (g old y)) fun z => bnd (putAt i kd z) fun _ => rtn .nx) E := h1
    cases eo : (peekD i ds1).bind fun x => elD x kd with
    | none => rw [eo] at h1; exact h1.elim
    | some old =>
      rw [eo] at h1
      have h1 : SRes _ W F ma1 S1 ((fe ds1).bind fun y => bnd (opt (g old y)) fun z => bnd (putAt i kd z) fun _ => rtn .nx) E := h1
      cases ep : peekD i ds1 with
      | none => rw [ep] at eo; cases eo
      | some lx =>
        rw [ep] at eo
        have eo : elD lx kd = some old := eo
        obtain ⟨xs, j, rfl, rfl, hj, eo⟩ := elD_some eo
        cases r1
        obtain ⟨v', ev', r⟩ := c1.peek ep
        rw [e1] at ev'
        cases ev'
        obtain ⟨a, vs, rfl, hs, rl⟩ := r.seqL c1
        obtain ⟨w, w1, w2⟩ := rl.get eo
        have hlt : j.toNat < vs.length := (List.getElem?_eq_some_iff.mp w1).1
        have hat : atI vs j = some w := by
          unfold atI ixN
          rw [if_pos hj, if_pos (by omega)]
          exact w1
        refine ⟨a, vs, j, w, rfl, rfl, hj, hs, hat, ?_⟩
        refine qe F ma1 S1 H1 σ ds1 _ c1 (SRes.bind h1 fun yd ds2 ma2 S2 H2 yv x2 c2 r2 h2 => ?_)
        refine qo F ma2 S2 H2 σ ds2 old yd w yv _ c2 (Rep.mono x2 w2) r2 (SRes.bind h2 fun zd ds3 ma3 S3 H3 zv x3 c3 r3 h3 => ?_)
        have h3 : SRes _ W F ma3 S3 ((putAt i (.int j) zd ds3).bind fun _ => rtn .nx) E := h3
        unfold putAt at h3
        split at h3
        · rename_i n en
          split at h3
          · rename_i o em
            split at h3
            · rename_i o' eg
              obtain ⟨v', e1', r0⟩ := c3.val i _ en
              rw [e1] at e1'
              cases e1'
              cases r0 with
              | «mut» hm =>
                obtain ⟨q1, _, _⟩ := c3.mem n _ _ hm em
                exact putO_run c3.sub q1 (.int j) r3 eg fun w hw => h3 ma3 S3 _ σ Ext.refl (c3.memWrite (o := o') hm hw)
            · exact h3.elim
          · exact h3.elim
        · rename_i sl hne en
          split at h3
          · rename_i o em
            split at h3
            · rename_i o' eg
              obtain ⟨q, e1', e2, _⟩ := c3.own i _ _ en em
              rw [e1] at e1'
              cases e1'
              exact putO_run c3.sub e2 (.int j) r3 eg fun w hw => h3 ma3 S3 _ σ Ext.refl (c3.ownWrite (t := o'.slot) en em e1 (putO_slot eg) hw)
            · exact h3.elim
          · exact h3.elim
        · exact h3.elim
  · rw [if_neg hq] at h; exact h.elim
end
theorem ru_augv {E : String → DS → Prop} {g : D → D → Option D} {i : Nat} {fb fe : M D} {s : DS} {Q : Out → DS → Prop} : ru E (augvM g i fb fe) s Q ↔ seeB i s = true ∧ ru E fb s fun k s1 => ru E (opt ((peekD i s1).bind fun x => elD x k)) s1 fun old s2 => ru E fe s2 fun y s3 => ru E (opt (g old y)) s3 fun z s4 => ru E (putAt i k z) s4 fun _ s5 => Q .nx s5 := by
  by_cases h : seeB i s = true
  · have e : augvM g i fb fe s = (bnd fb fun k => bnd (fun s1 => opt ((peekD i s1).bind fun x => elD x k) s1) fun old => bnd fe fun y => bnd (opt (g old y)) fun z => bnd (putAt i k z) fun _ => rtn .nx) s := if_pos h
    rw [ru_congr e]
    simp only [ru_bnd, ru_rtn]
    exact ⟨fun z => ⟨h, z⟩, fun z => z.2⟩
  · have e : augvM g i fb fe s = .stuck := if_neg h
    rw [ru_congr (g := fun _ => .stuck) e]
    exact ⟨fun z => z.elim, fun z => h z.1⟩
/-! ### tables by typed keys, each with a value of its own -/
section
variable {α : Type} (A : En α) [DecidableEq α]
theorem lkD_en (hk : KeyOk A) {f : α → D} (a : α) : ∀ M : List α, lkD ((M.map A.e).map keyT) (M.map f) (keyT (A.e a)) = if a ∈ M then some (f a) else none
  | [] => by simp [lkD]
  | b :: M => by
    rw [List.map_cons, List.map_cons, List.map_cons, lkD]
    by_cases e : a = b
    · subst e
      simp
    · have hne : keyT (A.e b) ≠ keyT (A.e a) := fun h => e (keyT_en A hk h).symm
      have hne' : keyT (A.e a) ≠ keyT (A.e b) := fun h => e (keyT_en A hk h)
      first | rw [if_neg hne] | rw [if_neg hne']
      rw [lkD_en hk a M]
      simp [e]
theorem gtD_en (hk : KeyOk A) {f : α → D} (a : α) (M : List α) : gtD (.dT (M.map A.e) (M.map f)) (A.e a) = some (if a ∈ M then some (f a) else none) := by
  obtain ⟨k, e⟩ := hk a
  show (keyT (A.e a)).map (fun k => lkD ((M.map A.e).map keyT) (M.map f) (some k)) = _
  rw [← lkD_en A hk a M, e]
  rfl
theorem inX_enD (hk : KeyOk A) {f : α → D} (a : α) (M : List α) : inX (A.e a) (.dT (M.map A.e) (M.map f)) = some (.bl (decide (a ∈ M))) := by
  show (gtD (.dT (M.map A.e) (M.map f)) (A.e a)).map (fun o => D.bl o.isSome) = _
  rw [gtD_en A hk]
  by_cases h : a ∈ M
  · simp [h]
  · simp [h]
theorem notInX_enD (hk : KeyOk A) {f : α → D} (a : α) (M : List α) : notInX (A.e a) (.dT (M.map A.e) (M.map f)) = some (.bl (!decide (a ∈ M))) := by
  show (gtD (.dT (M.map A.e) (M.map f)) (A.e a)).map (fun o => D.bl (!o.isSome)) = _
  rw [gtD_en A hk]
  by_cases h : a ∈ M
  · simp [h]
  · simp [h]
theorem ru_putNew (hk : KeyOk A) {f : α → D} {E : String → DS → Prop} {env : List Slot} {mem : List MO} {i : Nat} {M : List α} {a : α} {Q : Unit → DS → Prop}
    (he : env[i]? = some (.ownT (M.map A.e) (M.map f))) (hl : M.length < 1000000) (hn : a ∉ M) (q : Q () ⟨env.set i (.ownT ((M ++ [a]).map A.e) ((M ++ [a]).map f)), mem⟩) : ru E (putAt i (A.e a) (f a)) ⟨env, mem⟩ Q := by
  refine ru_putT A hk he hl ?_
  have e1 : insK M a = M ++ [a] := by unfold insK; rw [if_neg hn]
  have e2 : (puD M (M.map f) a (f a)).2 = (M ++ [a]).map f := by
    unfold puD
    rw [if_neg hn, List.map_append]
    rfl
  rw [e1, e2]
  exact q
end
/-! ### a tuple of texts of the written part: NAMES.index(y) -/
structure TConst (B : Bs) (x : Str) (d : D) : Prop where
  ex : ∃ a o its n xs vs, B.mg x = some (.ref a) ∧ B.K.lookup a = some o ∧ o.cls = .type "tuple" ∧ o.dict = none ∧ o.data = .seq its n ∧ its.size ≤ sizeLine ∧ Vals vs its.toList ∧ d = .ktp xs ∧ ∀ S ma, RepL B.kw S ma xs vs
theorem tconst_of {B : Bs} {x : Str} {a : Addr} {its : Array Value} {n : Nat} {sl : Array (Option Value)} {xs : List D} (h : B.mg x = some (.ref a)) (hl : B.K.lookup a = some ⟨.type "tuple", none, .seq its n, sl⟩) (hz : its.size ≤ 1000) (g : GReps B.K its.toList xs) : TConst B x (.ktp xs) := by
  obtain ⟨vs, h1, h2⟩ := g.ex (w := B.w) (mg := B.mg)
  exact ⟨⟨a, _, its, n, xs, vs, h, hl, rfl, rfl, rfl, Nat.le_trans hz (by decide), h1, rfl, h2⟩⟩
def strs0 : List D → Option (List Str)
  | [] => some []
  | .str x :: r => (strs0 r).map (x :: ·)
  | _ :: _ => none
theorem strs0_rep {K : KW} {S : Hp} {ma : List Addr} : ∀ {xs : List D} {vs : List V} {ns : List Str}, RepL K S ma xs vs → strs0 xs = some ns → vs = ns.map V.str
  | [], _, _, .nil, h => by cases h; rfl
  | d :: r, _, _, .cons a q, h => by
    cases d with
    | str x =>
      rw [strs0] at h
      obtain ⟨l, e, rfl⟩ := Option.map_eq_some_iff.mp h
      cases a
      rw [List.map_cons, strs0_rep q e]
    | _ => exact absurd h (by simp [strs0])
def idxS (v : Str) : List Str → Option Nat
  | [] => none
  | x :: r => if x = v then some 0 else (idxS v r).map (· + 1)
theorem idxS_some {v : Str} : ∀ {l : List Str} {j : Nat}, idxS v l = some j → l[j]? = some v ∧ ∀ m, m < j → l[m]? ≠ some v
  | [], _, h => by cases h
  | x :: r, j, h => by
    rw [idxS] at h
    split at h
    · rename_i e
      cases h
      exact ⟨by rw [e]; rfl, fun m hm => by omega⟩
    · rename_i e
      obtain ⟨k, hk, rfl⟩ := Option.map_eq_some_iff.mp h
      obtain ⟨h1, h2⟩ := idxS_some hk
      refine ⟨by simpa using h1, fun m hm hz => ?_⟩
      cases m with
      | zero => simp at hz; exact e hz
      | succ m => exact h2 m (by omega) (by simpa using hz)
def idxTD : D → D → Option D
  | .ktp xs, .str v => (strs0 xs).bind fun ns => (idxS v ns).map fun j => D.int (j : Nat)
  | _, _ => none
def idxTM (d : D) (fe : M D) : M D := bnd fe fun y => opt (idxTD d y)
theorem ru_idxT {E : String → DS → Prop} {s : DS} {d : D} {fe : M D} {Q : D → DS → Prop} : ru E (idxTM d fe) s Q ↔ ru E fe s fun y s1 => ru E (opt (idxTD d y)) s1 Q := by
  unfold idxTM
  rw [ru_bnd]
section
variable {c : SC} {e : Expr} {fe : M D} {apos pos p : Pos} {x : Str} {d : D}
theorem v_tindex (g : TConst c.B x d) (hg : Glo c.sc x) (hy : VE c e fe) (hd : (x == ("__debug__" : Str)) = false := by decide)
    (hbase : ∀ env : Env, attributeBase (.Name x p) "index" env (eval (.Name x p) env) = eval (.Name x p) env := by intro _; rfl)
    (hfew : ∀ env : Env, ((backTo pos (starEach [e] env)).all (fun x => !x.1) && (backToKw pos (keywordEach [] env)).all (fun x => x.1.isSome)
      && decide (([e] : List Expr).length + ([] : List Keyword).length + (if ([] : List Keyword).isEmpty then 0 else 1) < 30)) = true := by intro _; rfl)
    (hline : (apos.endLine == pos.line) = true := by rfl) (hs : ∀ env : Env, starEach [e] env = (false, eval e env) :: starEach [] env := by intro _; rfl) (hplain : ∀ env : Env, (backTo pos (starEach [] env)).any (·.1) = false := by intro _; rfl) :
    VE c (.Call (.Attribute (.Name x p) "index" apos) [e] [] pos) (idxTM d fe) := by
  refine ⟨fun X W ok => ?_⟩
  obtain ⟨ty, py, qy⟩ := hy.run X W ok
  obtain ⟨exc, k, isdef, fnc, rfl⟩ := ok.eq
  obtain ⟨a, o, its, n, xs, vs, h1, h2, h3, h4, h5, h6, h7, rfl, h8⟩ := g.ex
  refine ⟨_, pe_bm PySem.F.plainAttrs_tuple PySem.F.slot_tuple_index PySem.F.type_tuple_index mt_tup_index (pe_glob (v := .ref a) hg h1 rfl hd) (pa_cons py pa_nil (hs := hs X.env)) (hbase X.env) (hfew X.env) hline (hs X.env) (hplain X.env), fun F ma S H σ ds Q cf h => ?_⟩
  refine ⟨.inr (.inl ⟨rfl, o, h2, h3, h4⟩), qy F ma S H σ ds _ cf (Res.bind h fun y ds2 ma2 S2 H2 u e2 c2 r2 hh => ?_)⟩
  have hh : Res _ W F (RpV (xkw X)) _ ma2 S2 (opt (idxTD (.ktp xs) y) ds2) Q := hh
  cases eg : idxTD (.ktp xs) y with
  | none => rw [eg] at hh; exact hh.elim
  | some r =>
    rw [eg] at hh
    cases y with
    | str w =>
      obtain ⟨ns, z1, z⟩ := Option.bind_eq_some_iff.mp eg
      obtain ⟨j, z2, rfl⟩ := Option.map_eq_some_iff.mp z
      have hv := strs0_rep (h8 S ma) z1
      subst hv
      obtain ⟨k1, k2⟩ := idxS_some z2
      cases r2
      exact ⟨a, ns, w, j, rfl, rfl, .inr ⟨o, its, n, h2, h3, h5, h6, h7⟩, k1, k2, hh ma2 S2 H2 _ Ext.refl c2 (.int _)⟩
    | _ => cases eg
end
section
variable {α : Type} (A : En α) [DecidableEq α]
theorem reD_same {f : α → D} (a : α) : ∀ M : List α, reD M (M.map f) a (f a) = M.map f
  | [] => rfl
  | b :: M => by
    rw [List.map_cons, reD, reD_same a M]
    by_cases e : b = a
    · subst e; simp
    · rw [if_neg e]
/-- a table's key, met or not, written with its own value -/
theorem ru_putC (hk : KeyOk A) {f : α → D} {E : String → DS → Prop} {env : List Slot} {mem : List MO} {i : Nat} {M : List α} {a : α} {Q : Unit → DS → Prop}
    (he : env[i]? = some (.ownT (M.map A.e) (M.map f))) (hl : M.length < 1000000) (q : Q () ⟨env.set i (.ownT ((insK M a).map A.e) ((insK M a).map f)), mem⟩) : ru E (putAt i (A.e a) (f a)) ⟨env, mem⟩ Q := by
  refine ru_putT A hk he hl ?_
  have e2 : (puD M (M.map f) a (f a)).2 = (insK M a).map f := by
    unfold puD insK
    by_cases h : a ∈ M
    · rw [if_pos h, if_pos h, reD_same]
    · rw [if_neg h, if_neg h, List.map_append]
      rfl
  rw [e2]
  exact q
end
theorem ru_putL {E : String → DS → Prop} {env : List Slot} {mem : List MO} {i j : Nat} {xs : List D} {d : D} {Q : Unit → DS → Prop}
    (he : env[i]? = some (.own xs)) (hj : j < xs.length) (q : Q () ⟨env.set i (.own (xs.set j d)), mem⟩) : ru E (putAt i (.int (j : Nat)) d) ⟨env, mem⟩ Q := by
  have e : putAt i (.int (j : Nat)) d ⟨env, mem⟩ = .ok () ⟨env.set i (.own (xs.set j d)), mem⟩ := by
    unfold putAt
    dsimp only
    rw [he]
    have hp : putO (.lst xs) (.int (j : Nat)) d = some (.lst (xs.set j d)) := by
      show (putI xs (.int (j : Nat)) d).map MO.lst = _
      unfold putI L2.ixN
      simp [hj]
    simp only [Slot.mo, hp]
    rfl
  exact ru_eq e q
end Vl
namespace K07
open PySem PySem.Spec PyProof.Rows Vl
open L2 (FnScope defScope defBody defArgs nomark)
/-! ### the text -/
def topS (i : Nat) : Stmt := PySem.Challenge.pw_everyfield_k07_whole_counts_of_strips.main.body.getD i (.Pass ⟨0, 0, 0, 0⟩)
theorem bt_bool : bootBuiltins "bool" = some (.type "bool") := by decide +kernel
theorem bt_int : bootBuiltins "int" = some (.type "int") := by decide +kernel
theorem bt_isinstance : bootBuiltins "isinstance" = some (.builtin "isinstance") := by decide +kernel
theorem bt_len : bootBuiltins "len" = some (.builtin "len") := by decide +kernel
theorem bt_list : bootBuiltins "list" = some (.type "list") := by decide +kernel
theorem bt_range : bootBuiltins "range" = some (.type "range") := by decide +kernel
theorem bt_sorted : bootBuiltins "sorted" = some (.builtin "sorted") := by decide +kernel
theorem bt_str : bootBuiltins "str" = some (.type "str") := by decide +kernel
theorem bt_sum : bootBuiltins "sum" = some (.builtin "sum") := by decide +kernel
theorem bt_tuple : bootBuiltins "tuple" = some (.type "tuple") := by decide +kernel
abbrev s_is_number : Stmt := topS 5
abbrev s_is_motion : Stmt := topS 16
abbrev s_check_motion : Stmt := topS 17
abbrev s_check_number : Stmt := topS 6
abbrev s_check_sizes : Stmt := topS 29
abbrev s_check_all : Stmt := topS 30
abbrev s_power : Stmt := topS 31
abbrev s_rest : Stmt := topS 13
abbrev s_exchanges_rows : Stmt := topS 18
abbrev s_runs_back : Stmt := topS 19
abbrev s_goes_to : Stmt := topS 20
abbrev s_cells_of : Stmt := topS 32
abbrev s_rings_of : Stmt := topS 33
abbrev s_kept_by : Stmt := topS 34
abbrev s_motions_of : Stmt := topS 23
abbrev s_count_unlike : Stmt := topS 35
abbrev s__law_mixed : Stmt := topS 42
abbrev s__law_numbers : Stmt := topS 43
abbrev s__law_draw : Stmt := topS 44
abbrev s__law_equal : Stmt := topS 45
abbrev s__law_all_equal : Stmt := topS 46
abbrev s__law_power : Stmt := topS 52
abbrev s__law_goes : Stmt := topS 53
abbrev s__law_rings : Stmt := topS 54
abbrev s_back_of : Stmt := topS 22
abbrev s_led_by : Stmt := topS 21
abbrev s_check_listed : Stmt := topS 36
abbrev s_lines_of : Stmt := topS 37
abbrev s_all_pieces : Stmt := topS 38
abbrev s_unlike_pieces : Stmt := topS 39
abbrev s_period_of : Stmt := topS 14
abbrev s_least_of : Stmt := topS 15
abbrev s_kept_of : Stmt := topS 24
abbrev s_kind_of : Stmt := topS 25
abbrev s_count_by_kinds : Stmt := topS 40
abbrev s__law_error : Stmt := topS 57
abbrev s__law_period : Stmt := topS 48
abbrev s__law_led : Stmt := topS 50
abbrev s__law_pieces : Stmt := topS 55
abbrev s__law_least : Stmt := topS 49
abbrev s__law_kept : Stmt := topS 51
abbrev s__law_kind : Stmt := topS 56
abbrev s__law_few : Stmt := topS 58
abbrev s_law : Stmt := topS 59
def c_KINDS : D := .ktp [.str "glided", .str "mirrored", .str "moved", .str "turned"]
def c_MOST_COLUMNS : D := .int (24)
def c_MOST_LISTED : D := .int (4096)
def c_MOST_MOVE : D := .int (1000000)
def c_MOST_ROWS : D := .int (8)
def c_NAMES : D := .ktp [.str "hop", .str "step", .str "sidle", .str "spinning hop", .str "spinning sidle", .str "jump", .str "spinning jump"]
def c_SIGNS : D := .str ".abcdef"
def exL : List String := ["BadArgument", "TooLarge"]
/-- what the written part tells -/
structure Fx (B : Bs) : Prop where
  d_is_number : DefF B "is_number" s_is_number ["value", "low", "high"]
  d_is_motion : DefF B "is_motion" s_is_motion ["value"]
  d_check_motion : DefF B "check_motion" s_check_motion ["value"]
  d_check_number : DefF B "check_number" s_check_number ["value", "low", "high"]
  d_check_sizes : DefF B "check_sizes" s_check_sizes ["rows", "n"]
  d_check_all : DefF B "check_all" s_check_all ["rows", "n", "signs"]
  d_power : DefF B "power" s_power ["number", "k"]
  d_rest : DefF B "rest" s_rest ["number", "by"]
  d_exchanges_rows : DefF B "exchanges_rows" s_exchanges_rows ["kind"]
  d_runs_back : DefF B "runs_back" s_runs_back ["kind"]
  d_goes_to : DefF B "goes_to" s_goes_to ["motion", "cell", "rows"]
  d_cells_of : DefF B "cells_of" s_cells_of ["rows", "n"]
  d_rings_of : DefF B "rings_of" s_rings_of ["rows", "n", "motion"]
  d_kept_by : DefF B "kept_by" s_kept_by ["rows", "n", "signs", "motion"]
  d_motions_of : DefF B "motions_of" s_motions_of ["n"]
  d_count_unlike : DefF B "count_unlike" s_count_unlike ["rows", "n", "signs"]
  d__law_mixed : DefF B "_law_mixed" s__law_mixed ["number", "k"]
  d__law_numbers : DefF B "_law_numbers" s__law_numbers ["script"]
  d__law_draw : DefF B "_law_draw" s__law_draw ["draws"]
  d__law_equal : DefF B "_law_equal" s__law_equal ["actual", "due"]
  d__law_all_equal : DefF B "_law_all_equal" s__law_all_equal ["actual", "due"]
  d__law_power : DefF B "_law_power" s__law_power ["number", "k"]
  d__law_goes : DefF B "_law_goes" s__law_goes ["rows", "n", "kind", "k", "cell"]
  d__law_rings : DefF B "_law_rings" s__law_rings ["rows", "n", "kind", "k"]
  d_back_of : DefF B "back_of" s_back_of ["motion"]
  d_led_by : DefF B "led_by" s_led_by ["piece", "motion"]
  d_check_listed : DefF B "check_listed" s_check_listed ["rows", "n", "signs"]
  d_lines_of : DefF B "lines_of" s_lines_of ["n", "signs"]
  d_all_pieces : DefF B "all_pieces" s_all_pieces ["rows", "n", "signs"]
  d_unlike_pieces : DefF B "unlike_pieces" s_unlike_pieces ["rows", "n", "signs"]
  d_period_of : DefF B "period_of" s_period_of ["piece"]
  d_least_of : DefF B "least_of" s_least_of ["piece"]
  d_kept_of : DefF B "kept_of" s_kept_of ["piece"]
  d_kind_of : DefF B "kind_of" s_kind_of ["piece"]
  d_count_by_kinds : DefF B "count_by_kinds" s_count_by_kinds ["rows", "n", "signs"]
  d__law_error : DefF B "_law_error" s__law_error ["name", "rows", "n", "signs", "motion"]
  d__law_period : DefF B "_law_period" s__law_period ["piece"]
  d__law_led : DefF B "_law_led" s__law_led ["piece", "kind", "k"]
  d__law_pieces : DefF B "_law_pieces" s__law_pieces ["rows", "n", "signs"]
  d__law_least : DefF B "_law_least" s__law_least ["piece"]
  d__law_kept : DefF B "_law_kept" s__law_kept ["piece"]
  d__law_kind : DefF B "_law_kind" s__law_kind ["piece"]
  d__law_few : DefF B "_law_few" s__law_few ["draws"]
  d_law : DefF B "law" s_law ["script"]
  z_bool : B.mg "bool" = none
  z_int : B.mg "int" = none
  z_isinstance : B.mg "isinstance" = none
  z_len : B.mg "len" = none
  z_list : B.mg "list" = none
  z_range : B.mg "range" = none
  z_sorted : B.mg "sorted" = none
  z_str : B.mg "str" = none
  z_sum : B.mg "sum" = none
  z_tuple : B.mg "tuple" = none
  t_NAMES : TConst B "NAMES" c_NAMES
  c_KINDS : GConst B "KINDS" c_KINDS
  c_MOST_COLUMNS : GConst B "MOST_COLUMNS" c_MOST_COLUMNS
  c_MOST_LISTED : GConst B "MOST_LISTED" c_MOST_LISTED
  c_MOST_MOVE : GConst B "MOST_MOVE" c_MOST_MOVE
  c_MOST_ROWS : GConst B "MOST_ROWS" c_MOST_ROWS
  c_NAMES : GConst B "NAMES" c_NAMES
  c_SIGNS : GConst B "SIGNS" c_SIGNS
  e_BadArgument : ExcF B "BadArgument" "BadArgument"
  e_TooLarge : ExcF B "TooLarge" "TooLarge"
  xm : ExmF B exL
/-! ### each def: its meaning, and that it has this meaning -/
theorem sc_is_number : FnScope ["value", "low", "high"] ["value", "low", "high"] (defScope s_is_number) := ⟨rfl, rfl, rfl, by decide +kernel, rfl, by decide +kernel, by decide +kernel⟩
noncomputable def body_is_number : M Out := retM (andV (isiM "int" (varM 0)) (andV (notV (isiM "bool" (varM 0))) (chM leV leV (varM 1) (varM 0) (varM 2))))
noncomputable def den_is_number : Den := fnDen 3 3 body_is_number
theorem vb_is_number {B : Bs} (h : Fx B) : VB ⟨B, ["value", "low", "high"], defScope s_is_number, 0, true, true, fun _ => true⟩ (defBody s_is_number) body_is_number := (b_one (s_ret (v_and (v_isi (v_var 0 rfl (.inl rfl)) rfl h.z_isinstance rfl h.z_int bt_int) (v_and (v_not (v_isi (v_var 0 rfl (.inl rfl)) rfl h.z_isinstance rfl h.z_bool bt_bool)) (v_one (v_chain (o_le rfl) (o_le rfl) (v_var 1 rfl (.inl rfl)) (v_var 0 rfl (.inl rfl)) (v_var 2 rfl (.inl rfl)) rfl))))))
theorem ok_is_number {B : Bs} (h : Fx B) : Callee B "is_number" den_is_number 1 := callee_mk h.d_is_number sc_is_number (vb_is_number h)
theorem sc_is_motion : FnScope ["value"] ["value"] (defScope s_is_motion) := ⟨rfl, rfl, rfl, by decide +kernel, rfl, by decide +kernel, by decide +kernel⟩
noncomputable def body_is_motion : M Out := seqM (ifM (orM (notM (truM (isiM "tuple" (varM 0)))) (orM (tstM (binM neD (lookM1 lenD (peekM 0)) (rtn (.int 2)))) (notM (truM (isiM "str" (ixvM 0 (rtn (.int 0)))))))) (retM (rtn (.bl false))) (rtn .nx))
 (retM (andV (binM inX (ixvM 0 (rtn (.int 0))) (lookM (rtn c_KINDS))) (callM den_is_number (consM (ixvM 0 (rtn (.int 1))) (consM (unM negD (rtn c_MOST_MOVE)) (consM (rtn c_MOST_MOVE) (rtn [])))))))
noncomputable def den_is_motion : Den := fnDen 1 1 body_is_motion
theorem vb_is_motion {B : Bs} (h : Fx B) : VB ⟨B, ["value"], defScope s_is_motion, 1, true, true, fun _ => true⟩ (defBody s_is_motion) body_is_motion := (b_cons (s_if (t_w (w_or (t_not (t_tru (v_isi (v_var 0 rfl (.inl rfl)) rfl h.z_isinstance rfl h.z_tuple bt_tuple))) (w_or (t_cmp (o_ne rfl) (v_ocall cal_len (o_peek 0 rfl (.inl rfl)) rfl h.z_len bt_len) v_int (nomark _)) (w_or1 (t_not (t_tru (v_isi (v_ixv 0 rfl (.inl rfl) v_int) rfl h.z_isinstance rfl h.z_str bt_str))))))) (b_one (s_ret v_bl)) b_nil)
 (b_one (s_ret (v_and (v_cmpW (w_inX rfl) (v_ixv 0 rfl (.inl rfl) v_int) (o_look (v_glob h.c_KINDS rfl)) rfl) (v_one (v_call (ok_is_number h) (by show 1 ≤ 1; decide) rfl rfl (a_cons (v_ixv 0 rfl (.inl rfl) v_int) (a_cons (v_neg (v_glob h.c_MOST_MOVE rfl)) (a_cons (v_glob h.c_MOST_MOVE rfl) a_nil)))))))))
theorem ok_is_motion {B : Bs} (h : Fx B) : Callee B "is_motion" den_is_motion 2 := callee_mk h.d_is_motion sc_is_motion (vb_is_motion h)
theorem sc_check_motion : FnScope ["value"] ["value"] (defScope s_check_motion) := ⟨rfl, rfl, rfl, by decide +kernel, rfl, by decide +kernel, by decide +kernel⟩
noncomputable def body_check_motion : M Out := ifM (notM (truM (callM den_is_motion (consM (varM 0) (rtn []))))) (raiseM "BadArgument") (rtn .nx)
noncomputable def den_check_motion : Den := fnDen 1 1 body_check_motion
theorem vb_check_motion {B : Bs} (h : Fx B) : VB ⟨B, ["value"], defScope s_check_motion, 2, true, true, fun _ => true⟩ (defBody s_check_motion) body_check_motion := (b_one (s_if (t_not (t_tru (v_call (ok_is_motion h) (by show 2 ≤ 2; decide) rfl rfl (a_cons (v_var 0 rfl (.inl rfl)) a_nil)))) (b_one (s_raise rfl h.e_BadArgument rfl)) b_nil))
theorem ok_check_motion {B : Bs} (h : Fx B) : Callee B "check_motion" den_check_motion 3 := callee_mk h.d_check_motion sc_check_motion (vb_check_motion h)
theorem sc_check_number : FnScope ["value", "low", "high"] ["value", "low", "high"] (defScope s_check_number) := ⟨rfl, rfl, rfl, by decide +kernel, rfl, by decide +kernel, by decide +kernel⟩
noncomputable def body_check_number : M Out := ifM (notM (truM (callM den_is_number (consM (varM 0) (consM (varM 1) (consM (varM 2) (rtn []))))))) (raiseM "BadArgument") (rtn .nx)
noncomputable def den_check_number : Den := fnDen 3 3 body_check_number
theorem vb_check_number {B : Bs} (h : Fx B) : VB ⟨B, ["value", "low", "high"], defScope s_check_number, 1, true, true, fun _ => true⟩ (defBody s_check_number) body_check_number := (b_one (s_if (t_not (t_tru (v_call (ok_is_number h) (by show 1 ≤ 1; decide) rfl rfl (a_cons (v_var 0 rfl (.inl rfl)) (a_cons (v_var 1 rfl (.inl rfl)) (a_cons (v_var 2 rfl (.inl rfl)) a_nil)))))) (b_one (s_raise rfl h.e_BadArgument rfl)) b_nil))
theorem ok_check_number {B : Bs} (h : Fx B) : Callee B "check_number" den_check_number 2 := callee_mk h.d_check_number sc_check_number (vb_check_number h)
theorem sc_check_sizes : FnScope ["rows", "n"] ["rows", "n"] (defScope s_check_sizes) := ⟨rfl, rfl, rfl, by decide +kernel, rfl, by decide +kernel, by decide +kernel⟩
noncomputable def body_check_sizes : M Out := seqM (dropM (callM den_check_number (consM (varM 0) (consM (rtn (.int 1)) (consM (rtn c_MOST_ROWS) (rtn []))))))
 (dropM (callM den_check_number (consM (varM 1) (consM (rtn (.int 1)) (consM (rtn c_MOST_COLUMNS) (rtn []))))))
noncomputable def den_check_sizes : Den := fnDen 2 2 body_check_sizes
theorem vb_check_sizes {B : Bs} (h : Fx B) : VB ⟨B, ["rows", "n"], defScope s_check_sizes, 2, true, true, fun _ => true⟩ (defBody s_check_sizes) body_check_sizes := (b_cons (s_expr (v_call (ok_check_number h) (by show 2 ≤ 2; decide) rfl rfl (a_cons (v_var 0 rfl (.inl rfl)) (a_cons v_int (a_cons (v_glob h.c_MOST_ROWS rfl) a_nil)))))
 (b_one (s_expr (v_call (ok_check_number h) (by show 2 ≤ 2; decide) rfl rfl (a_cons (v_var 1 rfl (.inl rfl)) (a_cons v_int (a_cons (v_glob h.c_MOST_COLUMNS rfl) a_nil)))))))
theorem ok_check_sizes {B : Bs} (h : Fx B) : Callee B "check_sizes" den_check_sizes 3 := callee_mk h.d_check_sizes sc_check_sizes (vb_check_sizes h)
theorem sc_check_all : FnScope ["rows", "n", "signs"] ["rows", "n", "signs"] (defScope s_check_all) := ⟨rfl, rfl, rfl, by decide +kernel, rfl, by decide +kernel, by decide +kernel⟩
noncomputable def body_check_all : M Out := seqM (dropM (callM den_check_sizes (consM (varM 0) (consM (varM 1) (rtn [])))))
 (dropM (callM den_check_number (consM (varM 2) (consM (rtn (.int 1)) (consM (lookM1 lenD (lookM (rtn c_SIGNS))) (rtn []))))))
noncomputable def den_check_all : Den := fnDen 3 3 body_check_all
theorem vb_check_all {B : Bs} (h : Fx B) : VB ⟨B, ["rows", "n", "signs"], defScope s_check_all, 3, true, true, fun _ => true⟩ (defBody s_check_all) body_check_all := (b_cons (s_expr (v_call (ok_check_sizes h) (by show 3 ≤ 3; decide) rfl rfl (a_cons (v_var 0 rfl (.inl rfl)) (a_cons (v_var 1 rfl (.inl rfl)) a_nil))))
 (b_one (s_expr (v_call (ok_check_number h) (by show 2 ≤ 3; decide) rfl rfl (a_cons (v_var 2 rfl (.inl rfl)) (a_cons v_int (a_cons (v_ocall cal_len (o_look (v_glob h.c_SIGNS rfl)) rfl h.z_len bt_len) a_nil)))))))
theorem ok_check_all {B : Bs} (h : Fx B) : Callee B "check_all" den_check_all 4 := callee_mk h.d_check_all sc_check_all (vb_check_all h)
theorem sc_power : FnScope ["number", "k", "found", "turn"] ["number", "k"] (defScope s_power) := ⟨rfl, rfl, rfl, by decide +kernel, rfl, by decide +kernel, by decide +kernel⟩
noncomputable def body_power : M Out := seqM (asgM (rtn (.int 1)) (setM 2))
 (seqM (forM (bnd (consM (varM 1) (rtn [])) (fun xs => opt (rng1 xs))) (setM 3) (asgM (binM mulD (varM 2) (varM 0)) (setM 2)))
 (retM (varM 2)))
noncomputable def den_power : Den := fnDen 2 4 body_power
theorem vb_power {B : Bs} (h : Fx B) : VB ⟨B, ["number", "k", "found", "turn"], defScope s_power, 0, true, true, fun _ => true⟩ (defBody s_power) body_power := (b_cons (s_set 2 rfl (.inl rfl) (.inl rfl) v_int)
 (b_cons (s_for rfl (i_rng1 (a_cons (v_var 1 rfl (.inl rfl)) a_nil) rfl h.z_range) (g_name 3 rfl (.inl rfl) (.inl rfl)) (b_one (s_set 2 rfl (.inl rfl) (.inl rfl) (v_op o_mul (v_var 2 rfl (.inl rfl)) (v_var 0 rfl (.inl rfl))))))
 (b_one (s_ret (v_var 2 rfl (.inl rfl))))))
theorem ok_power {B : Bs} (h : Fx B) : Callee B "power" den_power 1 := callee_mk h.d_power sc_power (vb_power h)
theorem sc_rest : FnScope ["number", "by"] ["number", "by"] (defScope s_rest) := ⟨rfl, rfl, rfl, by decide +kernel, rfl, by decide +kernel, by decide +kernel⟩
noncomputable def body_rest : M Out := retM (binM subD (varM 0) (binM mulD (binM fdivD (varM 0) (varM 1)) (varM 1)))
noncomputable def den_rest : Den := fnDen 2 2 body_rest
theorem vb_rest {B : Bs} (h : Fx B) : VB ⟨B, ["number", "by"], defScope s_rest, 0, true, true, fun _ => true⟩ (defBody s_rest) body_rest := (b_one (s_ret (v_op o_sub (v_var 0 rfl (.inl rfl)) (v_op o_mul (v_op o_fdiv (v_var 0 rfl (.inl rfl)) (v_var 1 rfl (.inl rfl))) (v_var 1 rfl (.inl rfl))))))
theorem ok_rest {B : Bs} (h : Fx B) : Callee B "rest" den_rest 1 := callee_mk h.d_rest sc_rest (vb_rest h)
theorem sc_exchanges_rows : FnScope ["kind"] ["kind"] (defScope s_exchanges_rows) := ⟨rfl, rfl, rfl, by decide +kernel, rfl, by decide +kernel, by decide +kernel⟩
noncomputable def body_exchanges_rows : M Out := retM (binM inX (varM 0) (lookM (tupM (consM (rtn (.str "glided")) (consM (rtn (.str "turned")) (rtn []))))))
noncomputable def den_exchanges_rows : Den := fnDen 1 1 body_exchanges_rows
theorem vb_exchanges_rows {B : Bs} (h : Fx B) : VB ⟨B, ["kind"], defScope s_exchanges_rows, 0, true, true, fun _ => true⟩ (defBody s_exchanges_rows) body_exchanges_rows := (b_one (s_ret (v_cmpW (w_inX rfl) (v_var 0 rfl (.inl rfl)) (o_look (v_tup (a_cons v_str (a_cons v_str a_nil)))) rfl)))
theorem ok_exchanges_rows {B : Bs} (h : Fx B) : Callee B "exchanges_rows" den_exchanges_rows 1 := callee_mk h.d_exchanges_rows sc_exchanges_rows (vb_exchanges_rows h)
theorem sc_runs_back : FnScope ["kind"] ["kind"] (defScope s_runs_back) := ⟨rfl, rfl, rfl, by decide +kernel, rfl, by decide +kernel, by decide +kernel⟩
noncomputable def body_runs_back : M Out := retM (binM inX (varM 0) (lookM (tupM (consM (rtn (.str "mirrored")) (consM (rtn (.str "turned")) (rtn []))))))
noncomputable def den_runs_back : Den := fnDen 1 1 body_runs_back
theorem vb_runs_back {B : Bs} (h : Fx B) : VB ⟨B, ["kind"], defScope s_runs_back, 0, true, true, fun _ => true⟩ (defBody s_runs_back) body_runs_back := (b_one (s_ret (v_cmpW (w_inX rfl) (v_var 0 rfl (.inl rfl)) (o_look (v_tup (a_cons v_str (a_cons v_str a_nil)))) rfl)))
theorem ok_runs_back {B : Bs} (h : Fx B) : Callee B "runs_back" den_runs_back 1 := callee_mk h.d_runs_back sc_runs_back (vb_runs_back h)
theorem sc_goes_to : FnScope ["motion", "cell", "rows", "kind", "k", "r", "c"] ["motion", "cell", "rows"] (defScope s_goes_to) := ⟨rfl, rfl, rfl, by decide +kernel, rfl, by decide +kernel, by decide +kernel⟩
noncomputable def body_goes_to : M Out := seqM (asgM (varM 0) (untupM 2 (setsM (setM 3) (setsM (setM 4) (endM)))))
 (seqM (asgM (varM 1) (untupM 2 (setsM (setM 5) (setsM (setM 6) (endM)))))
 (retM (tupM (consM (iteM (truM (callM den_exchanges_rows (consM (varM 3) (rtn [])))) (binM subD (binM subD (varM 2) (rtn (.int 1))) (varM 5)) (varM 5)) (consM (iteM (truM (callM den_runs_back (consM (varM 3) (rtn [])))) (binM subD (varM 4) (varM 6)) (binM addD (varM 6) (varM 4))) (rtn []))))))
noncomputable def den_goes_to : Den := fnDen 3 7 body_goes_to
theorem vb_goes_to {B : Bs} (h : Fx B) : VB ⟨B, ["motion", "cell", "rows", "kind", "k", "r", "c"], defScope s_goes_to, 1, true, true, fun _ => true⟩ (defBody s_goes_to) body_goes_to := (b_cons (s_asg (v_var 0 rfl (.inl rfl)) (g_tup 2 rfl (gs_cons (g_name 3 rfl (.inl rfl) (.inl rfl)) (gs_cons (g_name 4 rfl (.inl rfl) (.inl rfl)) gs_nil))))
 (b_cons (s_asg (v_var 1 rfl (.inl rfl)) (g_tup 2 rfl (gs_cons (g_name 5 rfl (.inl rfl) (.inl rfl)) (gs_cons (g_name 6 rfl (.inl rfl) (.inl rfl)) gs_nil))))
 (b_one (s_ret (v_tup (a_cons (v_ifexp (t_tru (v_call (ok_exchanges_rows h) (by show 1 ≤ 1; decide) rfl rfl (a_cons (v_var 3 rfl (.inl rfl)) a_nil))) (v_op o_sub (v_op o_sub (v_var 2 rfl (.inl rfl)) v_int) (v_var 5 rfl (.inl rfl))) (v_var 5 rfl (.inl rfl))) (a_cons (v_ifexp (t_tru (v_call (ok_runs_back h) (by show 1 ≤ 1; decide) rfl rfl (a_cons (v_var 3 rfl (.inl rfl)) a_nil))) (v_op o_sub (v_var 4 rfl (.inl rfl)) (v_var 6 rfl (.inl rfl))) (v_op o_add (v_var 6 rfl (.inl rfl)) (v_var 4 rfl (.inl rfl)))) a_nil)))))))
theorem ok_goes_to {B : Bs} (h : Fx B) : Callee B "goes_to" den_goes_to 2 := callee_mk h.d_goes_to sc_goes_to (vb_goes_to h)
theorem sc_cells_of : FnScope ["rows", "n", "found", "r", "c"] ["rows", "n"] (defScope s_cells_of) := ⟨rfl, rfl, rfl, by decide +kernel, rfl, by decide +kernel, by decide +kernel⟩
noncomputable def body_cells_of : M Out := seqM (asgM (shutM (lstM (rtn []))) (setM 2))
 (seqM (forM (bnd (consM (varM 0) (rtn [])) (fun xs => opt (rng1 xs))) (setM 3) (asgM (binM addD (varM 2) (shutM (compM [4] (bnd (consM (varM 1) (rtn [])) (fun xs => opt (rng1 xs))) (setM 4) (rtn true) (tupM (consM (varM 3) (consM (varM 4) (rtn []))))))) (setM 2)))
 (retM (varM 2)))
noncomputable def den_cells_of : Den := fnDen 2 5 body_cells_of
theorem vb_cells_of {B : Bs} (h : Fx B) : VB ⟨B, ["rows", "n", "found", "r", "c"], defScope s_cells_of, 0, true, true, fun _ => true⟩ (defBody s_cells_of) body_cells_of := (b_cons (s_set 2 rfl (.inl rfl) (.inl rfl) (v_f (f_lst a_nil)))
 (b_cons (s_for rfl (i_rng1 (a_cons (v_var 0 rfl (.inl rfl)) a_nil) rfl h.z_range) (g_name 3 rfl (.inr rfl) (.inl rfl)) (b_one (s_set 2 rfl (.inl rfl) (.inl rfl) (v_op o_add (v_var 2 rfl (.inl rfl)) (v_f (f_lc [("c", 4)] rfl (by refine ⟨rfl, ?_, ?_, ?_, ?_⟩ <;> (try dsimp only [SC.blk]) <;> decide +kernel) (i_rng1 (a_cons (v_var 1 rfl (.inl rfl)) a_nil) rfl h.z_range) (g_name 4 rfl (.inl rfl) (.inr rfl)) ts_nil (v_tup (a_cons (v_var 3 rfl (.inr (.inl rfl))) (a_cons (v_var 4 rfl (.inl rfl)) a_nil))) (by decide)))))))
 (b_one (s_ret (v_var 2 rfl (.inl rfl))))))
theorem ok_cells_of {B : Bs} (h : Fx B) : Callee B "cells_of" den_cells_of 1 := callee_mk h.d_cells_of sc_cells_of (vb_cells_of h)
theorem sc_rings_of : FnScope ["rows", "n", "motion", "seen", "many", "cell", "there"] ["rows", "n", "motion"] (defScope s_rings_of) := ⟨rfl, rfl, rfl, by decide +kernel, rfl, by decide +kernel, by decide +kernel⟩
noncomputable def body_rings_of : M Out := seqM (dnewM 3 true)
 (seqM (asgM (rtn (.int 0)) (setM 4))
 (seqM (forM (itxM (callM den_cells_of (consM (varM 0) (consM (varM 1) (rtn []))))) (setM 5) (ifM (tstM (binM notInX (varM 5) (peekM 3))) (seqM (augM addI 4 (rtn (.int 1)))
 (whileM (tstM (binM notInX (varM 5) (peekM 3))) (seqM (asgM (rtn (.bl true)) (putvM 3 (varM 5)))
 (seqM (asgM (callM den_goes_to (consM (varM 2) (consM (varM 5) (consM (varM 0) (rtn []))))) (setM 6))
 (asgM (tupM (consM (ixvM 6 (rtn (.int 0))) (consM (callM den_rest (consM (ixvM 6 (rtn (.int 1))) (consM (varM 1) (rtn [])))) (rtn [])))) (setM 5)))))) (rtn .nx)))
 (retM (varM 4))))
noncomputable def den_rings_of : Den := fnDen 3 7 body_rings_of
theorem vb_rings_of {B : Bs} (h : Fx B) : VB ⟨B, ["rows", "n", "motion", "seen", "many", "cell", "there"], defScope s_rings_of, 2, true, true, fun _ => true⟩ (defBody s_rings_of) body_rings_of := (b_cons (s_dnewT 3 rfl (.inl rfl) (.inl rfl))
 (b_cons (s_set 4 rfl (.inl rfl) (.inl rfl) v_int)
 (b_cons (s_for rfl (i_any (v_call (ok_cells_of h) (by show 1 ≤ 2; decide) rfl rfl (a_cons (v_var 0 rfl (.inl rfl)) (a_cons (v_var 1 rfl (.inl rfl)) a_nil)))) (g_name 5 rfl (.inl rfl) (.inl rfl)) (b_one (s_if (t_cmpW (w_notInX rfl) (v_var 5 rfl (.inl rfl)) (o_peek 3 rfl (.inl rfl)) rfl) (b_cons (s_aug 4 rfl (.inl rfl) (.inl rfl) v_int oi_addI)
 (b_one (s_while (t_cmpW (w_notInX rfl) (v_var 5 rfl (.inl rfl)) (o_peek 3 rfl (.inl rfl)) rfl) (b_cons (s_asg v_bl (g_set 3 rfl (.inl rfl) (v_var 5 rfl (.inl rfl))))
 (b_cons (s_set 6 rfl (.inl rfl) (.inl rfl) (v_call (ok_goes_to h) (by show 2 ≤ 2; decide) rfl rfl (a_cons (v_var 2 rfl (.inl rfl)) (a_cons (v_var 5 rfl (.inl rfl)) (a_cons (v_var 0 rfl (.inl rfl)) a_nil)))))
 (b_one (s_set 5 rfl (.inl rfl) (.inl rfl) (v_tup (a_cons (v_ixv 6 rfl (.inl rfl) v_int) (a_cons (v_call (ok_rest h) (by show 1 ≤ 2; decide) rfl rfl (a_cons (v_ixv 6 rfl (.inl rfl) v_int) (a_cons (v_var 1 rfl (.inl rfl)) a_nil))) a_nil)))))))))) b_nil)))
 (b_one (s_ret (v_var 4 rfl (.inl rfl)))))))
theorem ok_rings_of {B : Bs} (h : Fx B) : Callee B "rings_of" den_rings_of 3 := callee_mk h.d_rings_of sc_rings_of (vb_rings_of h)
theorem sc_kept_by : FnScope ["rows", "n", "signs", "motion"] ["rows", "n", "signs", "motion"] (defScope s_kept_by) := ⟨rfl, rfl, rfl, by decide +kernel, rfl, by decide +kernel, by decide +kernel⟩
noncomputable def body_kept_by : M Out := seqM (dropM (callM den_check_all (consM (varM 0) (consM (varM 1) (consM (varM 2) (rtn []))))))
 (seqM (dropM (callM den_check_motion (consM (varM 3) (rtn []))))
 (retM (callM den_power (consM (varM 2) (consM (callM den_rings_of (consM (varM 0) (consM (varM 1) (consM (varM 3) (rtn []))))) (rtn []))))))
noncomputable def den_kept_by : Den := fnDen 4 4 body_kept_by
theorem vb_kept_by {B : Bs} (h : Fx B) : VB ⟨B, ["rows", "n", "signs", "motion"], defScope s_kept_by, 4, true, true, fun _ => true⟩ (defBody s_kept_by) body_kept_by := (b_cons (s_expr (v_call (ok_check_all h) (by show 4 ≤ 4; decide) rfl rfl (a_cons (v_var 0 rfl (.inl rfl)) (a_cons (v_var 1 rfl (.inl rfl)) (a_cons (v_var 2 rfl (.inl rfl)) a_nil)))))
 (b_cons (s_expr (v_call (ok_check_motion h) (by show 3 ≤ 4; decide) rfl rfl (a_cons (v_var 3 rfl (.inl rfl)) a_nil)))
 (b_one (s_ret (v_call (ok_power h) (by show 1 ≤ 4; decide) rfl rfl (a_cons (v_var 2 rfl (.inl rfl)) (a_cons (v_call (ok_rings_of h) (by show 3 ≤ 4; decide) rfl rfl (a_cons (v_var 0 rfl (.inl rfl)) (a_cons (v_var 1 rfl (.inl rfl)) (a_cons (v_var 3 rfl (.inl rfl)) a_nil)))) a_nil)))))))
theorem ok_kept_by {B : Bs} (h : Fx B) : Callee B "kept_by" den_kept_by 5 := callee_mk h.d_kept_by sc_kept_by (vb_kept_by h)
theorem sc_motions_of : FnScope ["n", "found", "kind", "k"] ["n"] (defScope s_motions_of) := ⟨rfl, rfl, rfl, by decide +kernel, rfl, by decide +kernel, by decide +kernel⟩
noncomputable def body_motions_of : M Out := seqM (asgM (shutM (lstM (rtn []))) (setM 1))
 (seqM (forM (itxM (rtn c_KINDS)) (setM 2) (asgM (binM addD (varM 1) (shutM (compM [3] (bnd (consM (varM 0) (rtn [])) (fun xs => opt (rng1 xs))) (setM 3) (rtn true) (tupM (consM (varM 2) (consM (varM 3) (rtn []))))))) (setM 1)))
 (retM (varM 1)))
noncomputable def den_motions_of : Den := fnDen 1 4 body_motions_of
theorem vb_motions_of {B : Bs} (h : Fx B) : VB ⟨B, ["n", "found", "kind", "k"], defScope s_motions_of, 0, true, true, fun _ => true⟩ (defBody s_motions_of) body_motions_of := (b_cons (s_set 1 rfl (.inl rfl) (.inl rfl) (v_f (f_lst a_nil)))
 (b_cons (s_for rfl (i_any (v_glob h.c_KINDS rfl)) (g_name 2 rfl (.inr rfl) (.inl rfl)) (b_one (s_set 1 rfl (.inl rfl) (.inl rfl) (v_op o_add (v_var 1 rfl (.inl rfl)) (v_f (f_lc [("k", 3)] rfl (by refine ⟨rfl, ?_, ?_, ?_, ?_⟩ <;> (try dsimp only [SC.blk]) <;> decide +kernel) (i_rng1 (a_cons (v_var 0 rfl (.inl rfl)) a_nil) rfl h.z_range) (g_name 3 rfl (.inl rfl) (.inr rfl)) ts_nil (v_tup (a_cons (v_var 2 rfl (.inr (.inl rfl))) (a_cons (v_var 3 rfl (.inl rfl)) a_nil))) (by decide)))))))
 (b_one (s_ret (v_var 1 rfl (.inl rfl))))))
theorem ok_motions_of {B : Bs} (h : Fx B) : Callee B "motions_of" den_motions_of 1 := callee_mk h.d_motions_of sc_motions_of (vb_motions_of h)
theorem sc_count_unlike : FnScope ["rows", "n", "signs", "total", "motion"] ["rows", "n", "signs"] (defScope s_count_unlike) := ⟨rfl, rfl, rfl, by decide +kernel, rfl, by decide +kernel, by decide +kernel⟩
noncomputable def body_count_unlike : M Out := seqM (dropM (callM den_check_all (consM (varM 0) (consM (varM 1) (consM (varM 2) (rtn []))))))
 (seqM (asgM (bnd (consM (shutM (compM [4] (itxM (callM den_motions_of (consM (varM 1) (rtn [])))) (setM 4) (rtn true) (callM den_power (consM (varM 2) (consM (callM den_rings_of (consM (varM 0) (consM (varM 1) (consM (varM 4) (rtn []))))) (rtn [])))))) (rtn [])) sumF) (setM 3))
 (retM (binM fdivD (varM 3) (binM mulD (rtn (.int 4)) (varM 1)))))
noncomputable def den_count_unlike : Den := fnDen 3 5 body_count_unlike
theorem vb_count_unlike {B : Bs} (h : Fx B) : VB ⟨B, ["rows", "n", "signs", "total", "motion"], defScope s_count_unlike, 4, true, true, fun _ => true⟩ (defBody s_count_unlike) body_count_unlike := (b_cons (s_expr (v_call (ok_check_all h) (by show 4 ≤ 4; decide) rfl rfl (a_cons (v_var 0 rfl (.inr (.inl rfl))) (a_cons (v_var 1 rfl (.inr (.inl rfl))) (a_cons (v_var 2 rfl (.inr (.inl rfl))) a_nil)))))
 (b_cons (s_set 3 rfl (.inl rfl) (.inl rfl) (v_bcall (cal_sum rfl) (a_cons (v_f (f_lc [("motion", 4)] rfl (by refine ⟨rfl, ?_, ?_, ?_, ?_⟩ <;> (try dsimp only [SC.blk]) <;> decide +kernel) (i_any (v_call (ok_motions_of h) (by show 1 ≤ 4; decide) rfl rfl (a_cons (v_var 1 rfl (.inr (.inl rfl))) a_nil))) (g_name 4 rfl (.inl rfl) (.inr rfl)) ts_nil (v_call (ok_power h) (by show 1 ≤ 4; decide) rfl rfl (a_cons (v_var 2 rfl (.inr (.inl rfl))) (a_cons (v_call (ok_rings_of h) (by show 3 ≤ 4; decide) rfl rfl (a_cons (v_var 0 rfl (.inr (.inl rfl))) (a_cons (v_var 1 rfl (.inr (.inl rfl))) (a_cons (v_var 4 rfl (.inl rfl)) a_nil)))) a_nil))) (by decide))) a_nil) rfl h.z_sum bt_sum))
 (b_one (s_ret (v_op o_fdiv (v_var 3 rfl (.inl rfl)) (v_op o_mul v_int (v_var 1 rfl (.inr (.inl rfl)))))))))
theorem ok_count_unlike {B : Bs} (h : Fx B) : Callee B "count_unlike" den_count_unlike 5 := callee_mk h.d_count_unlike sc_count_unlike (vb_count_unlike h)
theorem sc__law_mixed : FnScope ["number", "k", "step"] ["number", "k"] (defScope s__law_mixed) := ⟨rfl, rfl, rfl, by decide +kernel, rfl, by decide +kernel, by decide +kernel⟩
theorem vb__law_mixed {B : Bs} (h : Fx B) : VB ⟨B, ["number", "k", "step"], defScope s__law_mixed, 0, true, true, fun _ => true⟩ (defBody s__law_mixed) P.body__law_mixed := (b_cons (s_set 2 rfl (.inl rfl) (.inl rfl) (v_op o_mod (v_op o_add (v_op o_add (v_op o_mul (v_var 0 rfl (.inl rfl)) v_int) (v_op o_mul (v_var 1 rfl (.inl rfl)) v_int)) v_int) v_int))
 (b_one (s_ret (v_op o_mod (v_op o_add (v_op o_mul (v_var 2 rfl (.inl rfl)) (v_op o_add (v_op o_fdiv (v_var 2 rfl (.inl rfl)) v_int) v_int)) (v_var 1 rfl (.inl rfl))) v_int))))
theorem ok__law_mixed {B : Bs} (h : Fx B) : Callee B "_law_mixed" P.den__law_mixed 1 := callee_mk h.d__law_mixed sc__law_mixed (vb__law_mixed h)
theorem sc__law_numbers : FnScope ["script", "numbers", "cell", "rest_v", "k"] ["script"] (defScope s__law_numbers) := ⟨rfl, rfl, rfl, by decide +kernel, rfl, by decide +kernel, by decide +kernel⟩
theorem vb__law_numbers {B : Bs} (h : Fx B) : VB ⟨B, ["script", "numbers", "cell", "rest_v", "k"], defScope s__law_numbers, 1, true, true, fun _ => true⟩ (defBody s__law_numbers) P.body__law_numbers := (b_cons (s_own 1 rfl (.inl rfl) (.inl rfl) (f_lst a_nil))
 (b_cons (s_for rfl (i_any (v_var 0 rfl (.inl rfl))) (g_name 2 rfl (.inl rfl) (.inl rfl)) (b_one (s_if (t_cmp (o_ge rfl) (v_var 2 rfl (.inl rfl)) (v_op o_pow v_int v_int) (nomark _)) (b_cons (s_set 3 rfl (.inl rfl) (.inl rfl) (v_var 2 rfl (.inl rfl)))
 (b_one (s_for rfl (i_rng1 (a_cons v_int a_nil) rfl h.z_range) (g_name 4 rfl (.inl rfl) (.inl rfl)) (b_one (s_if (t_cmp (o_gt rfl) (v_var 3 rfl (.inl rfl)) v_int (nomark _)) (b_cons (s_expr (v_mut 1 m_append rfl (.inl rfl) (a_cons (v_op o_mod (v_var 3 rfl (.inl rfl)) v_int) a_nil)))
 (b_one (s_set 3 rfl (.inl rfl) (.inl rfl) (v_op o_fdiv (v_var 3 rfl (.inl rfl)) v_int)))) b_nil))))) (b_cons (s_expr (v_mut 1 m_append rfl (.inl rfl) (a_cons (v_op o_mod (v_var 2 rfl (.inl rfl)) v_int) a_nil)))
 (b_one (s_for rfl (i_rng1 (a_cons v_int a_nil) rfl h.z_range) (g_name 4 rfl (.inl rfl) (.inl rfl)) (b_one (s_expr (v_mut 1 m_append rfl (.inl rfl) (a_cons (v_op o_mod (v_call (ok__law_mixed h) (by show 1 ≤ 1; decide) rfl rfl (a_cons (v_call (ok__law_mixed h) (by show 1 ≤ 1; decide) rfl rfl (a_cons (v_op o_mod (v_var 2 rfl (.inl rfl)) v_int) (a_cons (v_var 4 rfl (.inl rfl)) a_nil))) (a_cons (v_op o_add (v_var 4 rfl (.inl rfl)) v_int) a_nil))) v_int) a_nil))))))))))
 (b_one (s_ret (v_var 1 rfl (.inl rfl))))))
theorem ok__law_numbers {B : Bs} (h : Fx B) : Callee B "_law_numbers" P.den__law_numbers 2 := callee_mk h.d__law_numbers sc__law_numbers (vb__law_numbers h)
theorem sc__law_draw : FnScope ["draws", "at", "first"] ["draws"] (defScope s__law_draw) := ⟨rfl, rfl, rfl, by decide +kernel, rfl, by decide +kernel, by decide +kernel⟩
theorem vb__law_draw {B : Bs} (h : Fx B) : VB ⟨B, ["draws", "at", "first"], defScope s__law_draw, 1, true, true, fun _ => true⟩ (defBody s__law_draw) P.O.body__law_draw := (b_cons (s_set 1 rfl (.inl rfl) (.inl rfl) (v_ixv 0 rfl (.inl rfl) v_int))
 (b_cons (s_asg (v_op o_add (v_var 1 rfl (.inl rfl)) v_int) (g_set 0 rfl (.inl rfl) v_int))
 (b_cons (s_if (t_cmp (o_lt rfl) (v_var 1 rfl (.inl rfl)) (v_ocall cal_len (o_look (v_ixv 0 rfl (.inl rfl) v_int)) rfl h.z_len bt_len) (nomark _)) (b_one (s_ret (v_ix (v_ixv 0 rfl (.inl rfl) v_int) (v_var 1 rfl (.inl rfl))))) b_nil)
 (b_cons (s_set 2 rfl (.inl rfl) (.inl rfl) (v_op o_add v_int (v_var 1 rfl (.inl rfl))))
 (b_cons (s_if (t_cmp (o_gt rfl) (v_ocall cal_len (o_look (v_ixv 0 rfl (.inl rfl) v_int)) rfl h.z_len bt_len) v_int (nomark _)) (b_one (s_set 2 rfl (.inl rfl) (.inl rfl) (v_op o_add (v_var 2 rfl (.inl rfl)) (v_op o_mul v_int (v_ix (v_ixv 0 rfl (.inl rfl) v_int) v_int))))) b_nil)
 (b_one (s_ret (v_op o_mod (v_call (ok__law_mixed h) (by show 1 ≤ 1; decide) rfl rfl (a_cons (v_call (ok__law_mixed h) (by show 1 ≤ 1; decide) rfl rfl (a_cons (v_var 2 rfl (.inl rfl)) (a_cons (v_var 1 rfl (.inl rfl)) a_nil))) (a_cons v_int a_nil))) v_int))))))))
theorem ok__law_draw {B : Bs} (h : Fx B) : Callee B "_law_draw" P.O.den__law_draw 2 := callee_mk h.d__law_draw sc__law_draw (vb__law_draw h)
theorem sc__law_equal : FnScope ["actual", "due"] ["actual", "due"] (defScope s__law_equal) := ⟨rfl, rfl, rfl, by decide +kernel, rfl, by decide +kernel, by decide +kernel⟩
theorem sc__law_all_equal : FnScope ["actual", "due", "k"] ["actual", "due"] (defScope s__law_all_equal) := ⟨rfl, rfl, rfl, by decide +kernel, rfl, by decide +kernel, by decide +kernel⟩
theorem okg__law_equal {B : Bs} (h : Fx B) : ∀ n, Callee B "_law_equal" (P.den__law_equal n) (0 + n + 1) ∧ Callee B "_law_all_equal" (P.den__law_all_equal n) (0 + n + 1)
  | 0 => ⟨callee_none h.d__law_equal sc__law_equal, callee_none h.d__law_all_equal sc__law_all_equal⟩
  | n + 1 => by
    have ih := okg__law_equal h n
    obtain ⟨ih__law_equal, ih__law_all_equal⟩ := ih
    exact ⟨(by rw [P.den__law_equal]; exact callee_mk (k := 0 + n + 1) h.d__law_equal sc__law_equal (b_cons (s_if (t_tru (v_isi (v_var 1 rfl (.inl rfl)) rfl h.z_isinstance rfl h.z_list bt_list)) (b_one (s_ret (v_and (v_isi (v_var 0 rfl (.inl rfl)) rfl h.z_isinstance rfl h.z_list bt_list) (v_and (v_cmp (o_eq rfl) (v_ocall cal_len (o_peek 0 rfl (.inl rfl)) rfl h.z_len bt_len) (v_ocall cal_len (o_peek 1 rfl (.inl rfl)) rfl h.z_len bt_len) (nomark _)) (v_one (v_call ih__law_all_equal (Nat.le_refl _) rfl rfl (a_cons (v_var 0 rfl (.inl rfl)) (a_cons (v_var 1 rfl (.inl rfl)) a_nil)))))))) b_nil)
 (b_cons (s_if (t_tru (v_isi (v_var 1 rfl (.inl rfl)) rfl h.z_isinstance rfl h.z_tuple bt_tuple)) (b_one (s_ret (v_and (v_isi (v_var 0 rfl (.inl rfl)) rfl h.z_isinstance rfl h.z_tuple bt_tuple) (v_and (v_cmp (o_eq rfl) (v_ocall cal_len (o_peek 0 rfl (.inl rfl)) rfl h.z_len bt_len) (v_ocall cal_len (o_peek 1 rfl (.inl rfl)) rfl h.z_len bt_len) (nomark _)) (v_one (v_call ih__law_all_equal (Nat.le_refl _) rfl rfl (a_cons (v_var 0 rfl (.inl rfl)) (a_cons (v_var 1 rfl (.inl rfl)) a_nil)))))))) b_nil)
 (b_cons (s_if (t_tru (v_isi (v_var 1 rfl (.inl rfl)) rfl h.z_isinstance rfl h.z_bool bt_bool)) (b_one (s_ret (v_and (v_isi (v_var 0 rfl (.inl rfl)) rfl h.z_isinstance rfl h.z_bool bt_bool) (v_one (v_cmp (o_eq rfl) (v_var 0 rfl (.inl rfl)) (v_var 1 rfl (.inl rfl)) (nomark _)))))) b_nil)
 (b_cons (s_if (t_tru (v_isi (v_var 1 rfl (.inl rfl)) rfl h.z_isinstance rfl h.z_int bt_int)) (b_one (s_ret (v_and (v_isi (v_var 0 rfl (.inl rfl)) rfl h.z_isinstance rfl h.z_int bt_int) (v_and (v_not (v_isi (v_var 0 rfl (.inl rfl)) rfl h.z_isinstance rfl h.z_bool bt_bool)) (v_one (v_cmp (o_eq rfl) (v_var 0 rfl (.inl rfl)) (v_var 1 rfl (.inl rfl)) (nomark _))))))) b_nil)
 (b_cons (s_if (t_tru (v_isi (v_var 1 rfl (.inl rfl)) rfl h.z_isinstance rfl h.z_str bt_str)) (b_one (s_ret (v_and (v_isi (v_var 0 rfl (.inl rfl)) rfl h.z_isinstance rfl h.z_str bt_str) (v_one (v_cmp (o_eq rfl) (v_var 0 rfl (.inl rfl)) (v_var 1 rfl (.inl rfl)) (nomark _)))))) b_nil)
 (b_one (s_ret (v_cmp o_isN (v_var 0 rfl (.inl rfl)) v_non (nomark _)))))))))),
      (by rw [P.den__law_all_equal]; exact callee_mk (k := 0 + n + 1) h.d__law_all_equal sc__law_all_equal (b_cons (s_for rfl (i_rng1 (a_cons (v_ocall cal_len (o_peek 1 rfl (.inl rfl)) rfl h.z_len bt_len) a_nil) rfl h.z_range) (g_name 2 rfl (.inl rfl) (.inl rfl)) (b_one (s_if (t_not (t_tru (v_call ih__law_equal (Nat.le_refl _) rfl rfl (a_cons (v_ixv 0 rfl (.inl rfl) (v_var 2 rfl (.inl rfl))) (a_cons (v_ixv 1 rfl (.inl rfl) (v_var 2 rfl (.inl rfl))) a_nil))))) (b_one (s_ret v_bl)) b_nil)))
 (b_one (s_ret v_bl))))⟩
theorem ok__law_equal {B : Bs} (h : Fx B) (n : Nat) : Callee B "_law_equal" (P.den__law_equal n) (0 + n + 1) := (okg__law_equal h n).1
theorem ok__law_all_equal {B : Bs} (h : Fx B) (n : Nat) : Callee B "_law_all_equal" (P.den__law_all_equal n) (0 + n + 1) := (okg__law_equal h n).2
theorem sc__law_power : FnScope ["number", "k", "found", "turn"] ["number", "k"] (defScope s__law_power) := ⟨rfl, rfl, rfl, by decide +kernel, rfl, by decide +kernel, by decide +kernel⟩
noncomputable def body__law_power : M Out := seqM (asgM (rtn (.int 1)) (setM 2))
 (seqM (forM (bnd (consM (varM 1) (rtn [])) (fun xs => opt (rng1 xs))) (setM 3) (asgM (binM mulD (varM 2) (varM 0)) (setM 2)))
 (retM (varM 2)))
noncomputable def den__law_power : Den := fnDen 2 4 body__law_power
theorem vb__law_power {B : Bs} (h : Fx B) : VB ⟨B, ["number", "k", "found", "turn"], defScope s__law_power, 0, true, true, fun _ => true⟩ (defBody s__law_power) body__law_power := (b_cons (s_set 2 rfl (.inl rfl) (.inl rfl) v_int)
 (b_cons (s_for rfl (i_rng1 (a_cons (v_var 1 rfl (.inl rfl)) a_nil) rfl h.z_range) (g_name 3 rfl (.inl rfl) (.inl rfl)) (b_one (s_set 2 rfl (.inl rfl) (.inl rfl) (v_op o_mul (v_var 2 rfl (.inl rfl)) (v_var 0 rfl (.inl rfl))))))
 (b_one (s_ret (v_var 2 rfl (.inl rfl))))))
theorem ok__law_power {B : Bs} (h : Fx B) : Callee B "_law_power" den__law_power 1 := callee_mk h.d__law_power sc__law_power (vb__law_power h)
theorem sc__law_goes : FnScope ["rows", "n", "kind", "k", "cell", "r", "c", "there"] ["rows", "n", "kind", "k", "cell"] (defScope s__law_goes) := ⟨rfl, rfl, rfl, by decide +kernel, rfl, by decide +kernel, by decide +kernel⟩
noncomputable def body__law_goes : M Out := seqM (asgM (varM 4) (untupM 2 (setsM (setM 5) (setsM (setM 6) (endM)))))
 (seqM (asgM (iteM (tstM (binM inX (varM 2) (lookM (tupM (consM (rtn (.str "moved")) (consM (rtn (.str "mirrored")) (rtn []))))))) (varM 5) (binM subD (binM subD (varM 0) (rtn (.int 1))) (varM 5))) (setM 7))
 (retM (tupM (consM (varM 7) (consM (binM modD (iteM (tstM (binM inX (varM 2) (lookM (tupM (consM (rtn (.str "moved")) (consM (rtn (.str "glided")) (rtn []))))))) (binM addD (varM 6) (varM 3)) (binM subD (varM 3) (varM 6))) (varM 1)) (rtn []))))))
noncomputable def den__law_goes : Den := fnDen 5 8 body__law_goes
theorem vb__law_goes {B : Bs} (h : Fx B) : VB ⟨B, ["rows", "n", "kind", "k", "cell", "r", "c", "there"], defScope s__law_goes, 0, true, true, fun _ => true⟩ (defBody s__law_goes) body__law_goes := (b_cons (s_asg (v_var 4 rfl (.inl rfl)) (g_tup 2 rfl (gs_cons (g_name 5 rfl (.inl rfl) (.inl rfl)) (gs_cons (g_name 6 rfl (.inl rfl) (.inl rfl)) gs_nil))))
 (b_cons (s_set 7 rfl (.inl rfl) (.inl rfl) (v_ifexp (t_cmpW (w_inX rfl) (v_var 2 rfl (.inl rfl)) (o_look (v_tup (a_cons v_str (a_cons v_str a_nil)))) rfl) (v_var 5 rfl (.inl rfl)) (v_op o_sub (v_op o_sub (v_var 0 rfl (.inl rfl)) v_int) (v_var 5 rfl (.inl rfl)))))
 (b_one (s_ret (v_tup (a_cons (v_var 7 rfl (.inl rfl)) (a_cons (v_op o_mod (v_ifexp (t_cmpW (w_inX rfl) (v_var 2 rfl (.inl rfl)) (o_look (v_tup (a_cons v_str (a_cons v_str a_nil)))) rfl) (v_op o_add (v_var 6 rfl (.inl rfl)) (v_var 3 rfl (.inl rfl))) (v_op o_sub (v_var 3 rfl (.inl rfl)) (v_var 6 rfl (.inl rfl)))) (v_var 1 rfl (.inl rfl))) a_nil)))))))
theorem ok__law_goes {B : Bs} (h : Fx B) : Callee B "_law_goes" den__law_goes 1 := callee_mk h.d__law_goes sc__law_goes (vb__law_goes h)
theorem sc__law_rings : FnScope ["rows", "n", "kind", "k", "left", "r", "met", "many", "cell", "c"] ["rows", "n", "kind", "k"] (defScope s__law_rings) := ⟨rfl, rfl, rfl, by decide +kernel, rfl, by decide +kernel, by decide +kernel⟩
noncomputable def body__law_rings : M Out := seqM (asgM (shutM (lstM (rtn []))) (setM 4))
 (seqM (forM (bnd (consM (varM 0) (rtn [])) (fun xs => opt (rng1 xs))) (setM 5) (asgM (binM addD (varM 4) (shutM (compM [9] (bnd (consM (varM 1) (rtn [])) (fun xs => opt (rng1 xs))) (setM 9) (rtn true) (tupM (consM (varM 5) (consM (varM 9) (rtn []))))))) (setM 4)))
 (seqM (dnewM 6 true)
 (seqM (asgM (rtn (.int 0)) (setM 7))
 (seqM (forM (itxM (varM 4)) (setM 8) (ifM (tstM (binM notInX (varM 8) (peekM 6))) (seqM (asgM (binM addD (varM 7) (rtn (.int 1))) (setM 7))
 (whileM (tstM (binM notInX (varM 8) (peekM 6))) (seqM (asgM (rtn (.bl true)) (putvM 6 (varM 8)))
 (asgM (callM den__law_goes (consM (varM 0) (consM (varM 1) (consM (varM 2) (consM (varM 3) (consM (varM 8) (rtn []))))))) (setM 8))))) (rtn .nx)))
 (retM (varM 7))))))
noncomputable def den__law_rings : Den := fnDen 4 10 body__law_rings
theorem vb__law_rings {B : Bs} (h : Fx B) : VB ⟨B, ["rows", "n", "kind", "k", "left", "r", "met", "many", "cell", "c"], defScope s__law_rings, 1, true, true, fun _ => true⟩ (defBody s__law_rings) body__law_rings := (b_cons (s_set 4 rfl (.inl rfl) (.inl rfl) (v_f (f_lst a_nil)))
 (b_cons (s_for rfl (i_rng1 (a_cons (v_var 0 rfl (.inl rfl)) a_nil) rfl h.z_range) (g_name 5 rfl (.inr rfl) (.inl rfl)) (b_one (s_set 4 rfl (.inl rfl) (.inl rfl) (v_op o_add (v_var 4 rfl (.inl rfl)) (v_f (f_lc [("c", 9)] rfl (by refine ⟨rfl, ?_, ?_, ?_, ?_⟩ <;> (try dsimp only [SC.blk]) <;> decide +kernel) (i_rng1 (a_cons (v_var 1 rfl (.inl rfl)) a_nil) rfl h.z_range) (g_name 9 rfl (.inl rfl) (.inr rfl)) ts_nil (v_tup (a_cons (v_var 5 rfl (.inr (.inl rfl))) (a_cons (v_var 9 rfl (.inl rfl)) a_nil))) (by decide)))))))
 (b_cons (s_dnewT 6 rfl (.inl rfl) (.inl rfl))
 (b_cons (s_set 7 rfl (.inl rfl) (.inl rfl) v_int)
 (b_cons (s_for rfl (i_any (v_var 4 rfl (.inl rfl))) (g_name 8 rfl (.inl rfl) (.inl rfl)) (b_one (s_if (t_cmpW (w_notInX rfl) (v_var 8 rfl (.inl rfl)) (o_peek 6 rfl (.inl rfl)) rfl) (b_cons (s_set 7 rfl (.inl rfl) (.inl rfl) (v_op o_add (v_var 7 rfl (.inl rfl)) v_int))
 (b_one (s_while (t_cmpW (w_notInX rfl) (v_var 8 rfl (.inl rfl)) (o_peek 6 rfl (.inl rfl)) rfl) (b_cons (s_asg v_bl (g_set 6 rfl (.inl rfl) (v_var 8 rfl (.inl rfl))))
 (b_one (s_set 8 rfl (.inl rfl) (.inl rfl) (v_call (ok__law_goes h) (by show 1 ≤ 1; decide) rfl rfl (a_cons (v_var 0 rfl (.inl rfl)) (a_cons (v_var 1 rfl (.inl rfl)) (a_cons (v_var 2 rfl (.inl rfl)) (a_cons (v_var 3 rfl (.inl rfl)) (a_cons (v_var 8 rfl (.inl rfl)) a_nil)))))))))))) b_nil)))
 (b_one (s_ret (v_var 7 rfl (.inl rfl)))))))))
theorem ok__law_rings {B : Bs} (h : Fx B) : Callee B "_law_rings" den__law_rings 2 := callee_mk h.d__law_rings sc__law_rings (vb__law_rings h)
theorem sc_back_of : FnScope ["motion", "kind", "k"] ["motion"] (defScope s_back_of) := ⟨rfl, rfl, rfl, by decide +kernel, rfl, by decide +kernel, by decide +kernel⟩
noncomputable def body_back_of : M Out := seqM (asgM (varM 0) (untupM 2 (setsM (setM 1) (setsM (setM 2) (endM)))))
 (retM (iteM (truM (callM den_runs_back (consM (varM 1) (rtn [])))) (tupM (consM (varM 1) (consM (varM 2) (rtn [])))) (tupM (consM (varM 1) (consM (unM negD (varM 2)) (rtn []))))))
noncomputable def den_back_of : Den := fnDen 1 3 body_back_of
theorem vb_back_of {B : Bs} (h : Fx B) : VB ⟨B, ["motion", "kind", "k"], defScope s_back_of, 1, true, true, fun _ => true⟩ (defBody s_back_of) body_back_of := (b_cons (s_asg (v_var 0 rfl (.inl rfl)) (g_tup 2 rfl (gs_cons (g_name 1 rfl (.inl rfl) (.inl rfl)) (gs_cons (g_name 2 rfl (.inl rfl) (.inl rfl)) gs_nil))))
 (b_one (s_ret (v_ifexp (t_tru (v_call (ok_runs_back h) (by show 1 ≤ 1; decide) rfl rfl (a_cons (v_var 1 rfl (.inl rfl)) a_nil))) (v_tup (a_cons (v_var 1 rfl (.inl rfl)) (a_cons (v_var 2 rfl (.inl rfl)) a_nil))) (v_tup (a_cons (v_var 1 rfl (.inl rfl)) (a_cons (v_neg (v_var 2 rfl (.inl rfl))) a_nil)))))))
theorem ok_back_of {B : Bs} (h : Fx B) : Callee B "back_of" den_back_of 2 := callee_mk h.d_back_of sc_back_of (vb_back_of h)
theorem sc_led_by : FnScope ["piece", "motion", "kind", "k", "rows", "n", "found", "r", "row", "c", "there"] ["piece", "motion"] (defScope s_led_by) := ⟨rfl, rfl, rfl, by decide +kernel, rfl, by decide +kernel, by decide +kernel⟩
noncomputable def body_led_by : M Out := seqM (asgM (callM den_back_of (consM (varM 1) (rtn []))) (untupM 2 (setsM (setM 2) (setsM (setM 3) (endM)))))
 (seqM (parM 4 5 (consM (lookM1 lenD (peekM 0)) (consM (lookM1 lenD (lookM (ixvM 0 (rtn (.int 0))))) (rtn []))))
 (seqM (ownM 6 (lstM (rtn [])))
 (seqM (forM (bnd (consM (varM 4) (rtn [])) (fun xs => opt (rng1 xs))) (setM 7) (seqM (asgM (rtn (.str "")) (setM 8))
 (seqM (forM (bnd (consM (varM 5) (rtn [])) (fun xs => opt (rng1 xs))) (setM 9) (seqM (asgM (callM den_goes_to (consM (tupM (consM (varM 2) (consM (varM 3) (rtn [])))) (consM (tupM (consM (varM 7) (consM (varM 9) (rtn [])))) (consM (varM 4) (rtn []))))) (setM 10))
 (asgM (binM addD (varM 8) (ixM (ixvM 0 (ixvM 10 (rtn (.int 0)))) (callM den_rest (consM (ixvM 10 (rtn (.int 1))) (consM (varM 5) (rtn [])))))) (setM 8))))
 (dropM (mutvM appF 6 (consM (varM 8) (rtn [])))))))
 (retM (varM 6)))))
noncomputable def den_led_by : Den := fnDen 2 11 body_led_by
theorem vb_led_by {B : Bs} (h : Fx B) : VB ⟨B, ["piece", "motion", "kind", "k", "rows", "n", "found", "r", "row", "c", "there"], defScope s_led_by, 2, true, true, fun _ => true⟩ (defBody s_led_by) body_led_by := (b_cons (s_asg (v_call (ok_back_of h) (by show 2 ≤ 2; decide) rfl rfl (a_cons (v_var 1 rfl (.inl rfl)) a_nil)) (g_tup 2 rfl (gs_cons (g_name 2 rfl (.inl rfl) (.inl rfl)) (gs_cons (g_name 3 rfl (.inl rfl) (.inl rfl)) gs_nil))))
 (b_cons (s_par 4 5 rfl rfl rfl (by decide) rfl rfl (a_cons (v_ocall cal_len (o_peek 0 rfl (.inl rfl)) rfl h.z_len bt_len) (a_cons (v_ocall cal_len (o_look (v_ixv 0 rfl (.inl rfl) v_int)) rfl h.z_len bt_len) a_nil)) (by intro env h; cases env; cases h; rfl))
 (b_cons (s_own 6 rfl (.inl rfl) (.inl rfl) (f_lst a_nil))
 (b_cons (s_for rfl (i_rng1 (a_cons (v_var 4 rfl (.inl rfl)) a_nil) rfl h.z_range) (g_name 7 rfl (.inl rfl) (.inl rfl)) (b_cons (s_set 8 rfl (.inl rfl) (.inl rfl) v_str)
 (b_cons (s_for rfl (i_rng1 (a_cons (v_var 5 rfl (.inl rfl)) a_nil) rfl h.z_range) (g_name 9 rfl (.inl rfl) (.inl rfl)) (b_cons (s_set 10 rfl (.inl rfl) (.inl rfl) (v_call (ok_goes_to h) (by show 2 ≤ 2; decide) rfl rfl (a_cons (v_tup (a_cons (v_var 2 rfl (.inl rfl)) (a_cons (v_var 3 rfl (.inl rfl)) a_nil))) (a_cons (v_tup (a_cons (v_var 7 rfl (.inl rfl)) (a_cons (v_var 9 rfl (.inl rfl)) a_nil))) (a_cons (v_var 4 rfl (.inl rfl)) a_nil)))))
 (b_one (s_set 8 rfl (.inl rfl) (.inl rfl) (v_op o_add (v_var 8 rfl (.inl rfl)) (v_ix (v_ixv 0 rfl (.inl rfl) (v_ixv 10 rfl (.inl rfl) v_int)) (v_call (ok_rest h) (by show 1 ≤ 2; decide) rfl rfl (a_cons (v_ixv 10 rfl (.inl rfl) v_int) (a_cons (v_var 5 rfl (.inl rfl)) a_nil)))))))))
 (b_one (s_expr (v_mut 6 m_append rfl (.inl rfl) (a_cons (v_var 8 rfl (.inl rfl)) a_nil)))))))
 (b_one (s_ret (v_var 6 rfl (.inl rfl))))))))
theorem ok_led_by {B : Bs} (h : Fx B) : Callee B "led_by" den_led_by 3 := callee_mk h.d_led_by sc_led_by (vb_led_by h)
theorem sc_check_listed : FnScope ["rows", "n", "signs"] ["rows", "n", "signs"] (defScope s_check_listed) := ⟨rfl, rfl, rfl, by decide +kernel, rfl, by decide +kernel, by decide +kernel⟩
noncomputable def body_check_listed : M Out := ifM (tstM (binM gtV (callM den_power (consM (varM 2) (consM (binM mulD (varM 0) (varM 1)) (rtn [])))) (rtn c_MOST_LISTED))) (raiseM "TooLarge") (rtn .nx)
noncomputable def den_check_listed : Den := fnDen 3 3 body_check_listed
theorem vb_check_listed {B : Bs} (h : Fx B) : VB ⟨B, ["rows", "n", "signs"], defScope s_check_listed, 1, true, true, fun _ => true⟩ (defBody s_check_listed) body_check_listed := (b_one (s_if (t_cmp (o_gt rfl) (v_call (ok_power h) (by show 1 ≤ 1; decide) rfl rfl (a_cons (v_var 2 rfl (.inl rfl)) (a_cons (v_op o_mul (v_var 0 rfl (.inl rfl)) (v_var 1 rfl (.inl rfl))) a_nil))) (v_glob h.c_MOST_LISTED rfl) (nomark _)) (b_one (s_raise rfl h.e_TooLarge rfl)) b_nil))
theorem ok_check_listed {B : Bs} (h : Fx B) : Callee B "check_listed" den_check_listed 2 := callee_mk h.d_check_listed sc_check_listed (vb_check_listed h)
theorem sc_lines_of : FnScope ["n", "signs", "found", "c", "longer", "line", "sign"] ["n", "signs"] (defScope s_lines_of) := ⟨rfl, rfl, rfl, by decide +kernel, rfl, by decide +kernel, by decide +kernel⟩
noncomputable def body_lines_of : M Out := seqM (asgM (shutM (lstM (consM (rtn (.str "")) (rtn [])))) (setM 2))
 (seqM (forM (bnd (consM (varM 0) (rtn [])) (fun xs => opt (rng1 xs))) (setM 3) (seqM (ownM 4 (lstM (rtn [])))
 (seqM (forM (itxM (varM 2)) (setM 5) (dropM (mutvM extF 4 (consM (shutM (compM [6] (itxM (slM (rtn c_SIGNS) (rtn none) (partM (varM 1)))) (setM 6) (rtn true) (binM addD (varM 5) (varM 6)))) (rtn [])))))
 (asgM (varM 4) (setM 2)))))
 (retM (varM 2)))
noncomputable def den_lines_of : Den := fnDen 2 7 body_lines_of
theorem vb_lines_of {B : Bs} (h : Fx B) : VB ⟨B, ["n", "signs", "found", "c", "longer", "line", "sign"], defScope s_lines_of, 0, true, true, fun _ => true⟩ (defBody s_lines_of) body_lines_of := (b_cons (s_set 2 rfl (.inl rfl) (.inl rfl) (v_f (f_lst (a_cons v_str a_nil))))
 (b_cons (s_for rfl (i_rng1 (a_cons (v_var 0 rfl (.inl rfl)) a_nil) rfl h.z_range) (g_name 3 rfl (.inl rfl) (.inl rfl)) (b_cons (s_own 4 rfl (.inl rfl) (.inl rfl) (f_lst a_nil))
 (b_cons (s_for rfl (i_any (v_var 2 rfl (.inl rfl))) (g_name 5 rfl (.inr rfl) (.inl rfl)) (b_one (s_expr (v_mut 4 m_extend rfl (.inl rfl) (a_cons (v_f (f_lc [("sign", 6)] rfl (by refine ⟨rfl, ?_, ?_, ?_, ?_⟩ <;> (try dsimp only [SC.blk]) <;> decide +kernel) (i_any (v_sl (v_glob h.c_SIGNS rfl) p_none (p_some (v_var 1 rfl (.inl rfl))))) (g_name 6 rfl (.inl rfl) (.inr rfl)) ts_nil (v_op o_add (v_var 5 rfl (.inr (.inl rfl))) (v_var 6 rfl (.inl rfl))) (by decide))) a_nil)))))
 (b_one (s_set 2 rfl (.inl rfl) (.inl rfl) (v_var 4 rfl (.inl rfl)))))))
 (b_one (s_ret (v_var 2 rfl (.inl rfl))))))
theorem ok_lines_of {B : Bs} (h : Fx B) : Callee B "lines_of" den_lines_of 1 := callee_mk h.d_lines_of sc_lines_of (vb_lines_of h)
theorem sc_all_pieces : FnScope ["rows", "n", "signs", "lines", "found", "r", "longer", "piece", "line"] ["rows", "n", "signs"] (defScope s_all_pieces) := ⟨rfl, rfl, rfl, by decide +kernel, rfl, by decide +kernel, by decide +kernel⟩
noncomputable def body_all_pieces : M Out := seqM (asgM (shutM (bnd (consM (callM den_lines_of (consM (varM 1) (consM (varM 2) (rtn [])))) (rtn [])) sortXM)) (setM 3))
 (seqM (asgM (shutM (lstM (consM (shutM (lstM (rtn []))) (rtn [])))) (setM 4))
 (seqM (forM (bnd (consM (varM 0) (rtn [])) (fun xs => opt (rng1 xs))) (setM 5) (seqM (ownM 6 (lstM (rtn [])))
 (seqM (forM (itxM (varM 4)) (setM 7) (dropM (mutvM extF 6 (consM (shutM (compM [8] (itxM (varM 3)) (setM 8) (rtn true) (binM addD (varM 7) (shutM (lstM (consM (varM 8) (rtn []))))))) (rtn [])))))
 (asgM (varM 6) (setM 4)))))
 (retM (varM 4))))
noncomputable def den_all_pieces : Den := fnDen 3 9 body_all_pieces
theorem vb_all_pieces {B : Bs} (h : Fx B) : VB ⟨B, ["rows", "n", "signs", "lines", "found", "r", "longer", "piece", "line"], defScope s_all_pieces, 1, true, true, fun _ => true⟩ (defBody s_all_pieces) body_all_pieces := (b_cons (s_set 3 rfl (.inl rfl) (.inl rfl) (v_f (f_bcall (cal_sortedX rfl) (a_cons (v_call (ok_lines_of h) (by show 1 ≤ 1; decide) rfl rfl (a_cons (v_var 1 rfl (.inl rfl)) (a_cons (v_var 2 rfl (.inl rfl)) a_nil))) a_nil) rfl h.z_sorted bt_sorted)))
 (b_cons (s_set 4 rfl (.inl rfl) (.inl rfl) (v_f (f_lst (a_cons (v_f (f_lst a_nil)) a_nil))))
 (b_cons (s_for rfl (i_rng1 (a_cons (v_var 0 rfl (.inl rfl)) a_nil) rfl h.z_range) (g_name 5 rfl (.inl rfl) (.inl rfl)) (b_cons (s_own 6 rfl (.inl rfl) (.inl rfl) (f_lst a_nil))
 (b_cons (s_for rfl (i_any (v_var 4 rfl (.inl rfl))) (g_name 7 rfl (.inr rfl) (.inl rfl)) (b_one (s_expr (v_mut 6 m_extend rfl (.inl rfl) (a_cons (v_f (f_lc [("line", 8)] rfl (by refine ⟨rfl, ?_, ?_, ?_, ?_⟩ <;> (try dsimp only [SC.blk]) <;> decide +kernel) (i_any (v_var 3 rfl (.inl rfl))) (g_name 8 rfl (.inl rfl) (.inr rfl)) ts_nil (v_op o_add (v_var 7 rfl (.inr (.inl rfl))) (v_f (f_lst (a_cons (v_var 8 rfl (.inl rfl)) a_nil)))) (by decide))) a_nil)))))
 (b_one (s_set 4 rfl (.inl rfl) (.inl rfl) (v_var 6 rfl (.inl rfl)))))))
 (b_one (s_ret (v_var 4 rfl (.inl rfl)))))))
theorem ok_all_pieces {B : Bs} (h : Fx B) : Callee B "all_pieces" den_all_pieces 2 := callee_mk h.d_all_pieces sc_all_pieces (vb_all_pieces h)
theorem sc_unlike_pieces : FnScope ["rows", "n", "signs", "seen", "found", "piece", "motion"] ["rows", "n", "signs"] (defScope s_unlike_pieces) := ⟨rfl, rfl, rfl, by decide +kernel, rfl, by decide +kernel, by decide +kernel⟩
noncomputable def body_unlike_pieces : M Out := seqM (dropM (callM den_check_all (consM (varM 0) (consM (varM 1) (consM (varM 2) (rtn []))))))
 (seqM (dropM (callM den_check_listed (consM (varM 0) (consM (varM 1) (consM (varM 2) (rtn []))))))
 (seqM (dnewM 3 true)
 (seqM (ownM 4 (lstM (rtn [])))
 (seqM (forM (itxM (callM den_all_pieces (consM (varM 0) (consM (varM 1) (consM (varM 2) (rtn [])))))) (setM 5) (ifM (tstM (binM notInX (bnd (consM (varM 5) (rtn [])) tupF) (peekM 3))) (seqM (dropM (mutvM appF 4 (consM (varM 5) (rtn []))))
 (forM (itxM (callM den_motions_of (consM (varM 1) (rtn [])))) (setM 6) (asgM (rtn (.bl true)) (putvM 3 (bnd (consM (callM den_led_by (consM (varM 5) (consM (varM 6) (rtn [])))) (rtn [])) tupF))))) (rtn .nx)))
 (retM (varM 4))))))
noncomputable def den_unlike_pieces : Den := fnDen 3 7 body_unlike_pieces
theorem vb_unlike_pieces {B : Bs} (h : Fx B) : VB ⟨B, ["rows", "n", "signs", "seen", "found", "piece", "motion"], defScope s_unlike_pieces, 4, true, true, fun _ => true⟩ (defBody s_unlike_pieces) body_unlike_pieces := (b_cons (s_expr (v_call (ok_check_all h) (by show 4 ≤ 4; decide) rfl rfl (a_cons (v_var 0 rfl (.inl rfl)) (a_cons (v_var 1 rfl (.inl rfl)) (a_cons (v_var 2 rfl (.inl rfl)) a_nil)))))
 (b_cons (s_expr (v_call (ok_check_listed h) (by show 2 ≤ 4; decide) rfl rfl (a_cons (v_var 0 rfl (.inl rfl)) (a_cons (v_var 1 rfl (.inl rfl)) (a_cons (v_var 2 rfl (.inl rfl)) a_nil)))))
 (b_cons (s_dnewT 3 rfl (.inl rfl) (.inl rfl))
 (b_cons (s_own 4 rfl (.inl rfl) (.inl rfl) (f_lst a_nil))
 (b_cons (s_for rfl (i_any (v_call (ok_all_pieces h) (by show 2 ≤ 4; decide) rfl rfl (a_cons (v_var 0 rfl (.inl rfl)) (a_cons (v_var 1 rfl (.inl rfl)) (a_cons (v_var 2 rfl (.inl rfl)) a_nil))))) (g_name 5 rfl (.inl rfl) (.inl rfl)) (b_one (s_if (t_cmpW (w_notInX rfl) (v_tcall cal_tuple (a_cons (v_var 5 rfl (.inl rfl)) a_nil) rfl h.z_tuple bt_tuple) (o_peek 3 rfl (.inl rfl)) rfl) (b_cons (s_expr (v_mut 4 m_append rfl (.inl rfl) (a_cons (v_var 5 rfl (.inl rfl)) a_nil)))
 (b_one (s_for rfl (i_any (v_call (ok_motions_of h) (by show 1 ≤ 4; decide) rfl rfl (a_cons (v_var 1 rfl (.inl rfl)) a_nil))) (g_name 6 rfl (.inl rfl) (.inl rfl)) (b_one (s_asg v_bl (g_set 3 rfl (.inl rfl) (v_tcall cal_tuple (a_cons (v_call (ok_led_by h) (by show 3 ≤ 4; decide) rfl rfl (a_cons (v_var 5 rfl (.inl rfl)) (a_cons (v_var 6 rfl (.inl rfl)) a_nil))) a_nil) rfl h.z_tuple bt_tuple))))))) b_nil)))
 (b_one (s_ret (v_var 4 rfl (.inl rfl)))))))))
theorem ok_unlike_pieces {B : Bs} (h : Fx B) : Callee B "unlike_pieces" den_unlike_pieces 5 := callee_mk h.d_unlike_pieces sc_unlike_pieces (vb_unlike_pieces h)
theorem sc_period_of : FnScope ["piece", "n", "p", "row"] ["piece"] (defScope s_period_of) := ⟨rfl, rfl, rfl, by decide +kernel, rfl, by decide +kernel, by decide +kernel⟩
noncomputable def body_period_of : M Out := seqM (asgM (lookM1 lenD (lookM (ixvM 0 (rtn (.int 0))))) (setM 1))
 (seqM (forM (bnd (consM (rtn (.int 1)) (consM (binM addD (varM 1) (rtn (.int 1))) (rtn []))) (fun xs => opt (rng2 xs))) (setM 2) (ifM (andM (tstM (binM eqD (callM den_rest (consM (varM 1) (consM (varM 2) (rtn [])))) (rtn (.int 0)))) (tstM (binM eqD (shutM (compM [3] (itxM (varM 0)) (setM 3) (tstM (binM neD (varM 3) (binM mulD (slM (varM 3) (rtn none) (partM (varM 2))) (binM fdivD (varM 1) (varM 2))))) (varM 3))) (shutM (lstM (rtn [])))))) (retM (varM 2)) (rtn .nx)))
 (retM (varM 1)))
noncomputable def den_period_of : Den := fnDen 1 4 body_period_of
theorem vb_period_of {B : Bs} (h : Fx B) : VB ⟨B, ["piece", "n", "p", "row"], defScope s_period_of, 1, true, true, fun _ => true⟩ (defBody s_period_of) body_period_of := (b_cons (s_set 1 rfl (.inr rfl) (.inl rfl) (v_ocall cal_len (o_look (v_ixv 0 rfl (.inl rfl) v_int)) rfl h.z_len bt_len))
 (b_cons (s_for rfl (i_rng2 (a_cons v_int (a_cons (v_op o_add (v_var 1 rfl (.inr (.inl rfl))) v_int) a_nil)) rfl h.z_range) (g_name 2 rfl (.inr rfl) (.inl rfl)) (b_one (s_if (t_w (w_and (t_cmp (o_eq rfl) (v_call (ok_rest h) (by show 1 ≤ 1; decide) rfl rfl (a_cons (v_var 1 rfl (.inr (.inl rfl))) (a_cons (v_var 2 rfl (.inr (.inl rfl))) a_nil))) v_int (nomark _)) (w_and1 (t_cmp (o_eq rfl) (v_f (f_lc [("row", 3)] rfl (by refine ⟨rfl, ?_, ?_, ?_, ?_⟩ <;> (try dsimp only [SC.blk]) <;> decide +kernel) (i_any (v_var 0 rfl (.inl rfl))) (g_name 3 rfl (.inl rfl) (.inr rfl)) (ts_one (t_cmp (o_ne rfl) (v_var 3 rfl (.inl rfl)) (v_op o_mul (v_sl (v_var 3 rfl (.inl rfl)) p_none (p_some (v_var 2 rfl (.inr (.inl rfl))))) (v_op o_fdiv (v_var 1 rfl (.inr (.inl rfl))) (v_var 2 rfl (.inr (.inl rfl))))) (nomark _))) (v_var 3 rfl (.inl rfl)) (by decide))) (v_f (f_lst a_nil)) (nomark _))))) (b_one (s_ret (v_var 2 rfl (.inr (.inl rfl))))) b_nil)))
 (b_one (s_ret (v_var 1 rfl (.inr (.inl rfl)))))))
theorem ok_period_of {B : Bs} (h : Fx B) : Callee B "period_of" den_period_of 2 := callee_mk h.d_period_of sc_period_of (vb_period_of h)
theorem sc_least_of : FnScope ["piece", "p", "row"] ["piece"] (defScope s_least_of) := ⟨rfl, rfl, rfl, by decide +kernel, rfl, by decide +kernel, by decide +kernel⟩
noncomputable def body_least_of : M Out := seqM (asgM (callM den_period_of (consM (varM 0) (rtn []))) (setM 1))
 (retM (shutM (compM [2] (itxM (varM 0)) (setM 2) (rtn true) (slM (varM 2) (rtn none) (partM (varM 1))))))
noncomputable def den_least_of : Den := fnDen 1 3 body_least_of
theorem vb_least_of {B : Bs} (h : Fx B) : VB ⟨B, ["piece", "p", "row"], defScope s_least_of, 2, true, true, fun _ => true⟩ (defBody s_least_of) body_least_of := (b_cons (s_set 1 rfl (.inr rfl) (.inl rfl) (v_call (ok_period_of h) (by show 2 ≤ 2; decide) rfl rfl (a_cons (v_var 0 rfl (.inl rfl)) a_nil)))
 (b_one (s_ret (v_f (f_lc [("row", 2)] rfl (by refine ⟨rfl, ?_, ?_, ?_, ?_⟩ <;> (try dsimp only [SC.blk]) <;> decide +kernel) (i_any (v_var 0 rfl (.inl rfl))) (g_name 2 rfl (.inl rfl) (.inr rfl)) ts_nil (v_sl (v_var 2 rfl (.inl rfl)) p_none (p_some (v_var 1 rfl (.inr (.inl rfl))))) (by decide))))))
theorem ok_least_of {B : Bs} (h : Fx B) : Callee B "least_of" den_least_of 3 := callee_mk h.d_least_of sc_least_of (vb_least_of h)
theorem sc_kept_of : FnScope ["piece", "small", "motion"] ["piece"] (defScope s_kept_of) := ⟨rfl, rfl, rfl, by decide +kernel, rfl, by decide +kernel, by decide +kernel⟩
noncomputable def body_kept_of : M Out := seqM (asgM (callM den_least_of (consM (varM 0) (rtn []))) (setM 1))
 (retM (shutM (compM [2] (itxM (callM den_motions_of (consM (lookM1 lenD (lookM (ixvM 1 (rtn (.int 0))))) (rtn [])))) (setM 2) (tstM (binM eqD (callM den_led_by (consM (varM 1) (consM (varM 2) (rtn [])))) (varM 1))) (varM 2))))
noncomputable def den_kept_of : Den := fnDen 1 3 body_kept_of
theorem vb_kept_of {B : Bs} (h : Fx B) : VB ⟨B, ["piece", "small", "motion"], defScope s_kept_of, 3, true, true, fun _ => true⟩ (defBody s_kept_of) body_kept_of := (b_cons (s_set 1 rfl (.inr rfl) (.inl rfl) (v_call (ok_least_of h) (by show 3 ≤ 3; decide) rfl rfl (a_cons (v_var 0 rfl (.inl rfl)) a_nil)))
 (b_one (s_ret (v_f (f_lc [("motion", 2)] rfl (by refine ⟨rfl, ?_, ?_, ?_, ?_⟩ <;> (try dsimp only [SC.blk]) <;> decide +kernel) (i_any (v_call (ok_motions_of h) (by show 1 ≤ 3; decide) rfl rfl (a_cons (v_ocall cal_len (o_look (v_ixv 1 rfl (.inr (.inl rfl)) v_int)) rfl h.z_len bt_len) a_nil))) (g_name 2 rfl (.inl rfl) (.inr rfl)) (ts_one (t_cmp (o_eq rfl) (v_call (ok_led_by h) (by show 3 ≤ 3; decide) rfl rfl (a_cons (v_var 1 rfl (.inr (.inl rfl))) (a_cons (v_var 2 rfl (.inl rfl)) a_nil))) (v_var 1 rfl (.inr (.inl rfl))) (nomark _))) (v_var 2 rfl (.inl rfl)) (by decide))))))
theorem ok_kept_of {B : Bs} (h : Fx B) : Callee B "kept_of" den_kept_of 4 := callee_mk h.d_kept_of sc_kept_of (vb_kept_of h)
theorem sc_kind_of : FnScope ["piece", "told", "names", "along", "motion"] ["piece"] (defScope s_kind_of) := ⟨rfl, rfl, rfl, by decide +kernel, rfl, by decide +kernel, by decide +kernel⟩
noncomputable def body_kind_of : M Out := seqM (asgM (callM den_kept_of (consM (varM 0) (rtn []))) (setM 1))
 (seqM (asgM (shutM (compM [4] (itxM (varM 1)) (setM 4) (rtn true) (ixvM 4 (rtn (.int 0))))) (setM 2))
 (seqM (asgM (binM inX (tupM (consM (rtn (.str "glided")) (consM (rtn (.int 0)) (rtn [])))) (peekM 1)) (setM 3))
 (seqM (ifM (tstM (binM inX (rtn (.str "mirrored")) (peekM 2))) (seqM (ifM (truM (peekM 3)) (retM (rtn (.str "spinning jump"))) (rtn .nx))
 (retM (iteM (tstM (binM inX (rtn (.str "turned")) (peekM 2))) (rtn (.str "spinning sidle")) (rtn (.str "sidle"))))) (rtn .nx))
 (seqM (ifM (truM (peekM 3)) (retM (rtn (.str "jump"))) (rtn .nx))
 (seqM (ifM (tstM (binM inX (rtn (.str "glided")) (peekM 2))) (retM (rtn (.str "step"))) (rtn .nx))
 (retM (iteM (tstM (binM inX (rtn (.str "turned")) (peekM 2))) (rtn (.str "spinning hop")) (rtn (.str "hop")))))))))
noncomputable def den_kind_of : Den := fnDen 1 5 body_kind_of
theorem vb_kind_of {B : Bs} (h : Fx B) : VB ⟨B, ["piece", "told", "names", "along", "motion"], defScope s_kind_of, 4, true, true, fun _ => true⟩ (defBody s_kind_of) body_kind_of := (b_cons (s_set 1 rfl (.inl rfl) (.inl rfl) (v_call (ok_kept_of h) (by show 4 ≤ 4; decide) rfl rfl (a_cons (v_var 0 rfl (.inl rfl)) a_nil)))
 (b_cons (s_setLc 2 [("motion", 4)] rfl rfl rfl (sw_of rfl rfl rfl (by decide +kernel)) (by refine ⟨rfl, ?_, ?_, ?_, ?_⟩ <;> (try dsimp only [SC.blk]) <;> decide +kernel) (i_any (v_var 1 rfl (.inl rfl))) (g_name 4 rfl (.inl rfl) (.inr rfl)) ts_nil (v_ixv 4 rfl (.inl rfl) v_int) (by decide))
 (b_cons (s_set 3 rfl (.inl rfl) (.inl rfl) (v_cmpW (w_inX rfl) (v_tup (a_cons v_str (a_cons v_int a_nil))) (o_peek 1 rfl (.inl rfl)) rfl))
 (b_cons (s_if (t_cmpW (w_inX rfl) v_str (o_peek 2 rfl (.inl rfl)) rfl) (b_cons (s_if (t_truO (o_peek 3 rfl (.inl rfl))) (b_one (s_ret v_str)) b_nil)
 (b_one (s_ret (v_ifexp (t_cmpW (w_inX rfl) v_str (o_peek 2 rfl (.inl rfl)) rfl) v_str v_str)))) b_nil)
 (b_cons (s_if (t_truO (o_peek 3 rfl (.inl rfl))) (b_one (s_ret v_str)) b_nil)
 (b_cons (s_if (t_cmpW (w_inX rfl) v_str (o_peek 2 rfl (.inl rfl)) rfl) (b_one (s_ret v_str)) b_nil)
 (b_one (s_ret (v_ifexp (t_cmpW (w_inX rfl) v_str (o_peek 2 rfl (.inl rfl)) rfl) v_str v_str)))))))))
theorem ok_kind_of {B : Bs} (h : Fx B) : Callee B "kind_of" den_kind_of 5 := callee_mk h.d_kind_of sc_kind_of (vb_kind_of h)
theorem sc_count_by_kinds : FnScope ["rows", "n", "signs", "found", "piece"] ["rows", "n", "signs"] (defScope s_count_by_kinds) := ⟨rfl, rfl, rfl, by decide +kernel, rfl, by decide +kernel, by decide +kernel⟩
noncomputable def body_count_by_kinds : M Out := seqM (dropM (callM den_check_all (consM (varM 0) (consM (varM 1) (consM (varM 2) (rtn []))))))
 (seqM (dropM (callM den_check_listed (consM (varM 0) (consM (varM 1) (consM (varM 2) (rtn []))))))
 (seqM (ownM 3 (binF repF (shutM (lstM (consM (rtn (.int 0)) (rtn [])))) (lookM1 lenD (lookM (rtn c_NAMES)))))
 (seqM (forM (itxM (callM den_all_pieces (consM (varM 0) (consM (varM 1) (consM (varM 2) (rtn [])))))) (setM 4) (ifM (tstM (binM eqD (callM den_period_of (consM (varM 4) (rtn []))) (varM 1))) (augvM addI 3 (idxTM c_NAMES (callM den_kind_of (consM (varM 4) (rtn [])))) (rtn (.int 1))) (rtn .nx)))
 (retM (varM 3)))))
noncomputable def den_count_by_kinds : Den := fnDen 3 5 body_count_by_kinds
theorem vb_count_by_kinds {B : Bs} (h : Fx B) : VB ⟨B, ["rows", "n", "signs", "found", "piece"], defScope s_count_by_kinds, 5, true, true, fun _ => true⟩ (defBody s_count_by_kinds) body_count_by_kinds := (b_cons (s_expr (v_call (ok_check_all h) (by show 4 ≤ 5; decide) rfl rfl (a_cons (v_var 0 rfl (.inl rfl)) (a_cons (v_var 1 rfl (.inl rfl)) (a_cons (v_var 2 rfl (.inl rfl)) a_nil)))))
 (b_cons (s_expr (v_call (ok_check_listed h) (by show 2 ≤ 5; decide) rfl rfl (a_cons (v_var 0 rfl (.inl rfl)) (a_cons (v_var 1 rfl (.inl rfl)) (a_cons (v_var 2 rfl (.inl rfl)) a_nil)))))
 (b_cons (s_own 3 rfl (.inl rfl) (.inl rfl) (f_op of_mul (v_f (f_lst (a_cons v_int a_nil))) (v_ocall cal_len (o_look (v_glob h.c_NAMES rfl)) rfl h.z_len bt_len)))
 (b_cons (s_for rfl (i_any (v_call (ok_all_pieces h) (by show 2 ≤ 5; decide) rfl rfl (a_cons (v_var 0 rfl (.inl rfl)) (a_cons (v_var 1 rfl (.inl rfl)) (a_cons (v_var 2 rfl (.inl rfl)) a_nil))))) (g_name 4 rfl (.inl rfl) (.inl rfl)) (b_one (s_if (t_cmp (o_eq rfl) (v_call (ok_period_of h) (by show 2 ≤ 5; decide) rfl rfl (a_cons (v_var 4 rfl (.inl rfl)) a_nil)) (v_var 1 rfl (.inl rfl)) (nomark _)) (b_one (s_augv 3 rfl (.inl rfl) (v_tindex h.t_NAMES rfl (v_call (ok_kind_of h) (by show 5 ≤ 5; decide) rfl rfl (a_cons (v_var 4 rfl (.inl rfl)) a_nil))) v_int oi_addI)) b_nil)))
 (b_one (s_ret (v_var 3 rfl (.inl rfl))))))))
theorem ok_count_by_kinds {B : Bs} (h : Fx B) : Callee B "count_by_kinds" den_count_by_kinds 6 := callee_mk h.d_count_by_kinds sc_count_by_kinds (vb_count_by_kinds h)
theorem sc__law_error : FnScope ["name", "rows", "n", "signs", "motion"] ["name", "rows", "n", "signs", "motion"] (defScope s__law_error) := ⟨rfl, rfl, rfl, by decide +kernel, rfl, by decide +kernel, by decide +kernel⟩
noncomputable def body__law_error : M Out := seqM (tryM exL (ifM (tstM (binM eqD (varM 0) (rtn (.str "kept")))) (dropM (callM den_kept_by (consM (varM 1) (consM (varM 2) (consM (varM 3) (consM (varM 4) (rtn []))))))) (ifM (tstM (binM eqD (varM 0) (rtn (.str "unlike")))) (dropM (callM den_count_unlike (consM (varM 1) (consM (varM 2) (consM (varM 3) (rtn [])))))) (ifM (tstM (binM eqD (varM 0) (rtn (.str "pieces")))) (dropM (callM den_unlike_pieces (consM (varM 1) (consM (varM 2) (consM (varM 3) (rtn [])))))) (dropM (callM den_count_by_kinds (consM (varM 1) (consM (varM 2) (consM (varM 3) (rtn []))))))))) [("BadArgument", retM (rtn (.str "argument"))), ("TooLarge", retM (rtn (.str "large")))])
 (retM (rtn .non))
noncomputable def den__law_error : Den := fnDen 5 5 body__law_error
theorem vb__law_error {B : Bs} (h : Fx B) : VB ⟨B, ["name", "rows", "n", "signs", "motion"], defScope s__law_error, 6, true, true, fun _ => true⟩ (defBody s__law_error) body__law_error := (b_cons (s_try rfl h.xm (b_one (s_if (t_cmp (o_eq rfl) (v_var 0 rfl (.inl rfl)) v_str (nomark _)) (b_one (s_expr (v_call (ok_kept_by h) (by show 5 ≤ 6; decide) rfl rfl (a_cons (v_var 1 rfl (.inl rfl)) (a_cons (v_var 2 rfl (.inl rfl)) (a_cons (v_var 3 rfl (.inl rfl)) (a_cons (v_var 4 rfl (.inl rfl)) a_nil))))))) (b_one (s_if (t_cmp (o_eq rfl) (v_var 0 rfl (.inl rfl)) v_str (nomark _)) (b_one (s_expr (v_call (ok_count_unlike h) (by show 5 ≤ 6; decide) rfl rfl (a_cons (v_var 1 rfl (.inl rfl)) (a_cons (v_var 2 rfl (.inl rfl)) (a_cons (v_var 3 rfl (.inl rfl)) a_nil)))))) (b_one (s_if (t_cmp (o_eq rfl) (v_var 0 rfl (.inl rfl)) v_str (nomark _)) (b_one (s_expr (v_call (ok_unlike_pieces h) (by show 5 ≤ 6; decide) rfl rfl (a_cons (v_var 1 rfl (.inl rfl)) (a_cons (v_var 2 rfl (.inl rfl)) (a_cons (v_var 3 rfl (.inl rfl)) a_nil)))))) (b_one (s_expr (v_call (ok_count_by_kinds h) (by show 6 ≤ 6; decide) rfl rfl (a_cons (v_var 1 rfl (.inl rfl)) (a_cons (v_var 2 rfl (.inl rfl)) (a_cons (v_var 3 rfl (.inl rfl)) a_nil)))))))))))) (VHs.cons h.e_BadArgument (by decide) rfl rfl (b_one (s_ret v_str)) (VHs.cons h.e_TooLarge (by decide) rfl rfl (b_one (s_ret v_str)) VHs.nil)))
 (b_one (s_ret v_non)))
theorem ok__law_error {B : Bs} (h : Fx B) : Callee B "_law_error" den__law_error 7 := callee_mk h.d__law_error sc__law_error (vb__law_error h)
theorem sc__law_period : FnScope ["piece", "n", "p", "row"] ["piece"] (defScope s__law_period) := ⟨rfl, rfl, rfl, by decide +kernel, rfl, by decide +kernel, by decide +kernel⟩
noncomputable def body__law_period : M Out := seqM (asgM (lookM1 lenD (lookM (ixvM 0 (rtn (.int 0))))) (setM 1))
 (retM (ixM (shutM (compM [2] (bnd (consM (rtn (.int 1)) (consM (binM addD (varM 1) (rtn (.int 1))) (rtn []))) (fun xs => opt (rng2 xs))) (setM 2) (tstM (binM eqD (lookM1 lenD (lookM (shutM (compM [3] (itxM (varM 0)) (setM 3) (tstM (binM neD (varM 3) (binM addD (slM (varM 3) (partM (varM 2)) (rtn none)) (slM (varM 3) (rtn none) (partM (varM 2)))))) (varM 3))))) (rtn (.int 0)))) (varM 2))) (rtn (.int 0))))
noncomputable def den__law_period : Den := fnDen 1 4 body__law_period
theorem vb__law_period {B : Bs} (h : Fx B) : VB ⟨B, ["piece", "n", "p", "row"], defScope s__law_period, 0, true, true, fun _ => true⟩ (defBody s__law_period) body__law_period := (b_cons (s_set 1 rfl (.inl rfl) (.inl rfl) (v_ocall cal_len (o_look (v_ixv 0 rfl (.inr (.inl rfl)) v_int)) rfl h.z_len bt_len))
 (b_one (s_ret (v_ix (v_f (f_lc [("p", 2)] rfl (by refine ⟨rfl, ?_, ?_, ?_, ?_⟩ <;> (try dsimp only [SC.blk]) <;> decide +kernel) (i_rng2 (a_cons v_int (a_cons (v_op o_add (v_var 1 rfl (.inl rfl)) v_int) a_nil)) rfl h.z_range) (g_name 2 rfl (.inr rfl) (.inl rfl)) (ts_one (t_cmp (o_eq rfl) (v_ocall cal_len (o_look (v_f (f_lc [("row", 3)] rfl (by refine ⟨rfl, ?_, ?_, ?_, ?_⟩ <;> (try dsimp only [SC.blk]) <;> decide +kernel) (i_any (v_var 0 rfl (.inr (.inl rfl)))) (g_name 3 rfl (.inl rfl) (.inr rfl)) (ts_one (t_cmp (o_ne rfl) (v_var 3 rfl (.inl rfl)) (v_op o_add (v_sl (v_var 3 rfl (.inl rfl)) (p_some (v_var 2 rfl (.inr (.inl rfl)))) p_none) (v_sl (v_var 3 rfl (.inl rfl)) p_none (p_some (v_var 2 rfl (.inr (.inl rfl)))))) (nomark _))) (v_var 3 rfl (.inl rfl)) (by decide)))) rfl h.z_len bt_len) v_int (nomark _))) (v_var 2 rfl (.inr (.inl rfl))) (by decide))) v_int))))
theorem ok__law_period {B : Bs} (h : Fx B) : Callee B "_law_period" den__law_period 1 := callee_mk h.d__law_period sc__law_period (vb__law_period h)
theorem sc__law_led : FnScope ["piece", "kind", "k", "rows", "n", "found", "r", "c", "there", "column", "row"] ["piece", "kind", "k"] (defScope s__law_led) := ⟨rfl, rfl, rfl, by decide +kernel, rfl, by decide +kernel, by decide +kernel⟩
noncomputable def body__law_led : M Out := seqM (asgM (tupM (consM (lookM1 lenD (peekM 0)) (consM (lookM1 lenD (lookM (ixvM 0 (rtn (.int 0))))) (rtn [])))) (untupM 2 (setsM (setM 3) (setsM (setM 4) (endM)))))
 (seqM (asgM (shutM (compM [6] (bnd (consM (varM 3) (rtn [])) (fun xs => opt (rng1 xs))) (setM 6) (rtn true) (newM (binF repF (shutM (lstM (consM (rtn (.str ".")) (rtn [])))) (varM 4))))) (setM 5))
 (seqM (forM (bnd (consM (varM 3) (rtn [])) (fun xs => opt (rng1 xs))) (setM 6) (forM (bnd (consM (varM 4) (rtn [])) (fun xs => opt (rng1 xs))) (setM 7) (seqM (asgM (iteM (tstM (binM inX (varM 1) (lookM (tupM (consM (rtn (.str "moved")) (consM (rtn (.str "mirrored")) (rtn []))))))) (varM 6) (binM subD (binM subD (varM 3) (rtn (.int 1))) (varM 6))) (setM 8))
 (seqM (asgM (iteM (tstM (binM inX (varM 1) (lookM (tupM (consM (rtn (.str "moved")) (consM (rtn (.str "glided")) (rtn []))))))) (binM addD (varM 7) (varM 2)) (binM subD (varM 2) (varM 7))) (setM 9))
 (asgM (ixM (ixvM 0 (varM 6)) (varM 7)) (puteM (ixvM 5 (varM 8)) (binM modD (varM 9) (varM 4))))))))
 (retM (shutM (compM [10] (itxM (varM 5)) (setM 10) (rtn true) (joinM (rtn (.str "")) (varM 10)))))))
noncomputable def den__law_led : Den := fnDen 3 11 body__law_led
theorem vb__law_led {B : Bs} (h : Fx B) : VB ⟨B, ["piece", "kind", "k", "rows", "n", "found", "r", "c", "there", "column", "row"], defScope s__law_led, 0, true, true, fun _ => true⟩ (defBody s__law_led) body__law_led := (b_cons (s_asg (v_tup (a_cons (v_ocall cal_len (o_peek 0 rfl (.inl rfl)) rfl h.z_len bt_len) (a_cons (v_ocall cal_len (o_look (v_ixv 0 rfl (.inl rfl) v_int)) rfl h.z_len bt_len) a_nil))) (g_tup 2 rfl (gs_cons (g_name 3 rfl (.inl rfl) (.inl rfl)) (gs_cons (g_name 4 rfl (.inr rfl) (.inl rfl)) gs_nil))) (by intro env h; cases env; cases h; rfl) (by intro env h; cases env; cases h; rfl))
 (b_cons (s_setLc 5 [("r", 6)] rfl rfl rfl (sw_of rfl rfl rfl (by decide +kernel)) (by refine ⟨rfl, ?_, ?_, ?_, ?_⟩ <;> (try dsimp only [SC.blk]) <;> decide +kernel) (i_rng1 (a_cons (v_var 3 rfl (.inl rfl)) a_nil) rfl h.z_range) (g_name 6 rfl (.inl rfl) (.inr rfl)) ts_nil (v_new (f_op of_mul (v_f (f_lst (a_cons v_str a_nil))) (v_var 4 rfl (.inr (.inl rfl))))) (by decide))
 (b_cons (s_for rfl (i_rng1 (a_cons (v_var 3 rfl (.inl rfl)) a_nil) rfl h.z_range) (g_name 6 rfl (.inl rfl) (.inl rfl)) (b_one (s_for rfl (i_rng1 (a_cons (v_var 4 rfl (.inr (.inl rfl))) a_nil) rfl h.z_range) (g_name 7 rfl (.inl rfl) (.inl rfl)) (b_cons (s_set 8 rfl (.inl rfl) (.inl rfl) (v_ifexp (t_cmpW (w_inX rfl) (v_var 1 rfl (.inl rfl)) (o_look (v_tup (a_cons v_str (a_cons v_str a_nil)))) rfl) (v_var 6 rfl (.inl rfl)) (v_op o_sub (v_op o_sub (v_var 3 rfl (.inl rfl)) v_int) (v_var 6 rfl (.inl rfl)))))
 (b_cons (s_set 9 rfl (.inl rfl) (.inl rfl) (v_ifexp (t_cmpW (w_inX rfl) (v_var 1 rfl (.inl rfl)) (o_look (v_tup (a_cons v_str (a_cons v_str a_nil)))) rfl) (v_op o_add (v_var 7 rfl (.inl rfl)) (v_var 2 rfl (.inl rfl))) (v_op o_sub (v_var 2 rfl (.inl rfl)) (v_var 7 rfl (.inl rfl)))))
 (b_one (s_asg (v_ix (v_ixv 0 rfl (.inl rfl) (v_var 6 rfl (.inl rfl))) (v_var 7 rfl (.inl rfl))) (g_setE (v_ixv 5 rfl (.inl rfl) (v_var 8 rfl (.inl rfl))) (v_op o_mod (v_var 9 rfl (.inl rfl)) (v_var 4 rfl (.inr (.inl rfl))))))))))))
 (b_one (s_ret (v_f (f_lc [("row", 10)] rfl (by refine ⟨rfl, ?_, ?_, ?_, ?_⟩ <;> (try dsimp only [SC.blk]) <;> decide +kernel) (i_any (v_var 5 rfl (.inl rfl))) (g_name 10 rfl (.inl rfl) (.inr rfl)) ts_nil (v_join v_str (v_var 10 rfl (.inl rfl))) (by decide))))))))
theorem ok__law_led {B : Bs} (h : Fx B) : Callee B "_law_led" den__law_led 1 := callee_mk h.d__law_led sc__law_led (vb__law_led h)
theorem sc__law_pieces : FnScope ["rows", "n", "signs", "texts", "k", "longer", "text", "sign", "r"] ["rows", "n", "signs"] (defScope s__law_pieces) := ⟨rfl, rfl, rfl, by decide +kernel, rfl, by decide +kernel, by decide +kernel⟩
noncomputable def body__law_pieces : M Out := seqM (asgM (shutM (lstM (consM (rtn (.str "")) (rtn [])))) (setM 3))
 (seqM (forM (bnd (consM (binM mulD (varM 0) (varM 1)) (rtn [])) (fun xs => opt (rng1 xs))) (setM 4) (seqM (asgM (shutM (lstM (rtn []))) (setM 5))
 (seqM (forM (itxM (varM 3)) (setM 6) (asgM (binM addD (varM 5) (shutM (compM [7] (itxM (slM (rtn (.str ".abcdef")) (rtn none) (partM (varM 2)))) (setM 7) (rtn true) (binM addD (varM 6) (varM 7))))) (setM 5)))
 (asgM (varM 5) (setM 3)))))
 (retM (shutM (compM [6] (itxM (varM 3)) (setM 6) (rtn true) (shutM (compM [8] (bnd (consM (varM 0) (rtn [])) (fun xs => opt (rng1 xs))) (setM 8) (rtn true) (slM (varM 6) (partM (binM mulD (varM 8) (varM 1))) (partM (binM mulD (binM addD (varM 8) (rtn (.int 1))) (varM 1))))))))))
noncomputable def den__law_pieces : Den := fnDen 3 9 body__law_pieces
theorem vb__law_pieces {B : Bs} (h : Fx B) : VB ⟨B, ["rows", "n", "signs", "texts", "k", "longer", "text", "sign", "r"], defScope s__law_pieces, 0, true, true, fun _ => true⟩ (defBody s__law_pieces) body__law_pieces := (b_cons (s_set 3 rfl (.inl rfl) (.inl rfl) (v_f (f_lst (a_cons v_str a_nil))))
 (b_cons (s_for rfl (i_rng1 (a_cons (v_op o_mul (v_var 0 rfl (.inr (.inl rfl))) (v_var 1 rfl (.inr (.inl rfl)))) a_nil) rfl h.z_range) (g_name 4 rfl (.inl rfl) (.inl rfl)) (b_cons (s_set 5 rfl (.inl rfl) (.inl rfl) (v_f (f_lst a_nil)))
 (b_cons (s_for rfl (i_any (v_var 3 rfl (.inl rfl))) (g_name 6 rfl (.inr rfl) (.inl rfl)) (b_one (s_set 5 rfl (.inl rfl) (.inl rfl) (v_op o_add (v_var 5 rfl (.inl rfl)) (v_f (f_lc [("sign", 7)] rfl (by refine ⟨rfl, ?_, ?_, ?_, ?_⟩ <;> (try dsimp only [SC.blk]) <;> decide +kernel) (i_any (v_sl v_str p_none (p_some (v_var 2 rfl (.inl rfl))))) (g_name 7 rfl (.inl rfl) (.inr rfl)) ts_nil (v_op o_add (v_var 6 rfl (.inr (.inl rfl))) (v_var 7 rfl (.inl rfl))) (by decide)))))))
 (b_one (s_set 3 rfl (.inl rfl) (.inl rfl) (v_var 5 rfl (.inl rfl)))))))
 (b_one (s_ret (v_f (f_lc [("text", 6)] rfl (by refine ⟨rfl, ?_, ?_, ?_, ?_⟩ <;> (try dsimp only [SC.blk]) <;> decide +kernel) (i_any (v_var 3 rfl (.inl rfl))) (g_name 6 rfl (.inr rfl) (.inl rfl)) ts_nil (v_f (f_lc [("r", 8)] rfl (by refine ⟨rfl, ?_, ?_, ?_, ?_⟩ <;> (try dsimp only [SC.blk]) <;> decide +kernel) (i_rng1 (a_cons (v_var 0 rfl (.inr (.inl rfl))) a_nil) rfl h.z_range) (g_name 8 rfl (.inl rfl) (.inr rfl)) ts_nil (v_sl (v_var 6 rfl (.inr (.inl rfl))) (p_some (v_op o_mul (v_var 8 rfl (.inl rfl)) (v_var 1 rfl (.inr (.inl rfl))))) (p_some (v_op o_mul (v_op o_add (v_var 8 rfl (.inl rfl)) v_int) (v_var 1 rfl (.inr (.inl rfl)))))) (by decide))) (by decide)))))))
theorem ok__law_pieces {B : Bs} (h : Fx B) : Callee B "_law_pieces" den__law_pieces 1 := callee_mk h.d__law_pieces sc__law_pieces (vb__law_pieces h)
theorem sc__law_least : FnScope ["piece", "row"] ["piece"] (defScope s__law_least) := ⟨rfl, rfl, rfl, by decide +kernel, rfl, by decide +kernel, by decide +kernel⟩
noncomputable def body__law_least : M Out := retM (shutM (compM [1] (itxM (varM 0)) (setM 1) (rtn true) (slM (varM 1) (rtn none) (partM (callM den__law_period (consM (varM 0) (rtn [])))))))
noncomputable def den__law_least : Den := fnDen 1 2 body__law_least
theorem vb__law_least {B : Bs} (h : Fx B) : VB ⟨B, ["piece", "row"], defScope s__law_least, 1, true, true, fun _ => true⟩ (defBody s__law_least) body__law_least := (b_one (s_ret (v_f (f_lc [("row", 1)] rfl (by refine ⟨rfl, ?_, ?_, ?_, ?_⟩ <;> (try dsimp only [SC.blk]) <;> decide +kernel) (i_any (v_var 0 rfl (.inr (.inl rfl)))) (g_name 1 rfl (.inl rfl) (.inr rfl)) ts_nil (v_sl (v_var 1 rfl (.inl rfl)) p_none (p_some (v_call (ok__law_period h) (by show 1 ≤ 1; decide) rfl rfl (a_cons (v_var 0 rfl (.inr (.inl rfl))) a_nil)))) (by decide)))))
theorem ok__law_least {B : Bs} (h : Fx B) : Callee B "_law_least" den__law_least 2 := callee_mk h.d__law_least sc__law_least (vb__law_least h)
theorem sc__law_kept : FnScope ["piece", "small", "found", "kind", "k"] ["piece"] (defScope s__law_kept) := ⟨rfl, rfl, rfl, by decide +kernel, rfl, by decide +kernel, by decide +kernel⟩
noncomputable def body__law_kept : M Out := seqM (asgM (callM den__law_least (consM (varM 0) (rtn []))) (setM 1))
 (seqM (asgM (shutM (lstM (rtn []))) (setM 2))
 (seqM (forM (itxM (shutM (lstM (consM (rtn (.str "glided")) (consM (rtn (.str "mirrored")) (consM (rtn (.str "moved")) (consM (rtn (.str "turned")) (rtn [])))))))) (setM 3) (asgM (binM addD (varM 2) (shutM (compM [4] (bnd (consM (lookM1 lenD (lookM (ixvM 1 (rtn (.int 0))))) (rtn [])) (fun xs => opt (rng1 xs))) (setM 4) (tstM (binM eqD (callM den__law_led (consM (varM 1) (consM (varM 3) (consM (varM 4) (rtn []))))) (varM 1))) (tupM (consM (varM 3) (consM (varM 4) (rtn []))))))) (setM 2)))
 (retM (varM 2))))
noncomputable def den__law_kept : Den := fnDen 1 5 body__law_kept
theorem vb__law_kept {B : Bs} (h : Fx B) : VB ⟨B, ["piece", "small", "found", "kind", "k"], defScope s__law_kept, 2, true, true, fun _ => true⟩ (defBody s__law_kept) body__law_kept := (b_cons (s_set 1 rfl (.inr rfl) (.inl rfl) (v_call (ok__law_least h) (by show 2 ≤ 2; decide) rfl rfl (a_cons (v_var 0 rfl (.inl rfl)) a_nil)))
 (b_cons (s_set 2 rfl (.inl rfl) (.inl rfl) (v_f (f_lst a_nil)))
 (b_cons (s_for rfl (i_any (v_f (f_lst (a_cons v_str (a_cons v_str (a_cons v_str (a_cons v_str a_nil))))))) (g_name 3 rfl (.inr rfl) (.inl rfl)) (b_one (s_set 2 rfl (.inl rfl) (.inl rfl) (v_op o_add (v_var 2 rfl (.inl rfl)) (v_f (f_lc [("k", 4)] rfl (by refine ⟨rfl, ?_, ?_, ?_, ?_⟩ <;> (try dsimp only [SC.blk]) <;> decide +kernel) (i_rng1 (a_cons (v_ocall cal_len (o_look (v_ixv 1 rfl (.inr (.inl rfl)) v_int)) rfl h.z_len bt_len) a_nil) rfl h.z_range) (g_name 4 rfl (.inl rfl) (.inr rfl)) (ts_one (t_cmp (o_eq rfl) (v_call (ok__law_led h) (by show 1 ≤ 2; decide) rfl rfl (a_cons (v_var 1 rfl (.inr (.inl rfl))) (a_cons (v_var 3 rfl (.inr (.inl rfl))) (a_cons (v_var 4 rfl (.inl rfl)) a_nil)))) (v_var 1 rfl (.inr (.inl rfl))) (nomark _))) (v_tup (a_cons (v_var 3 rfl (.inr (.inl rfl))) (a_cons (v_var 4 rfl (.inl rfl)) a_nil))) (by decide)))))))
 (b_one (s_ret (v_var 2 rfl (.inl rfl)))))))
theorem ok__law_kept {B : Bs} (h : Fx B) : Callee B "_law_kept" den__law_kept 3 := callee_mk h.d__law_kept sc__law_kept (vb__law_kept h)
theorem sc__law_kind : FnScope ["piece", "told", "kinds", "flat", "one"] ["piece"] (defScope s__law_kind) := ⟨rfl, rfl, rfl, by decide +kernel, rfl, by decide +kernel, by decide +kernel⟩
noncomputable def body__law_kind : M Out := seqM (asgM (callM den__law_kept (consM (varM 0) (rtn []))) (setM 1))
 (seqM (asgM (shutM (compM [4] (itxM (varM 1)) (setM 4) (rtn true) (ixvM 4 (rtn (.int 0))))) (setM 2))
 (seqM (asgM (binM inX (tupM (consM (rtn (.str "glided")) (consM (rtn (.int 0)) (rtn [])))) (peekM 1)) (setM 3))
 (seqM (ifM (tstM (binM inX (rtn (.str "mirrored")) (peekM 2))) (retM (iteM (truM (peekM 3)) (rtn (.int 6)) (iteM (tstM (binM inX (rtn (.str "turned")) (peekM 2))) (rtn (.int 4)) (rtn (.int 2))))) (rtn .nx))
 (seqM (ifM (truM (peekM 3)) (retM (rtn (.int 5))) (rtn .nx))
 (retM (iteM (tstM (binM inX (rtn (.str "glided")) (peekM 2))) (rtn (.int 1)) (iteM (tstM (binM inX (rtn (.str "turned")) (peekM 2))) (rtn (.int 3)) (rtn (.int 0)))))))))
noncomputable def den__law_kind : Den := fnDen 1 5 body__law_kind
theorem vb__law_kind {B : Bs} (h : Fx B) : VB ⟨B, ["piece", "told", "kinds", "flat", "one"], defScope s__law_kind, 3, true, true, fun _ => true⟩ (defBody s__law_kind) body__law_kind := (b_cons (s_set 1 rfl (.inl rfl) (.inl rfl) (v_call (ok__law_kept h) (by show 3 ≤ 3; decide) rfl rfl (a_cons (v_var 0 rfl (.inl rfl)) a_nil)))
 (b_cons (s_setLc 2 [("one", 4)] rfl rfl rfl (sw_of rfl rfl rfl (by decide +kernel)) (by refine ⟨rfl, ?_, ?_, ?_, ?_⟩ <;> (try dsimp only [SC.blk]) <;> decide +kernel) (i_any (v_var 1 rfl (.inl rfl))) (g_name 4 rfl (.inl rfl) (.inr rfl)) ts_nil (v_ixv 4 rfl (.inl rfl) v_int) (by decide))
 (b_cons (s_set 3 rfl (.inl rfl) (.inl rfl) (v_cmpW (w_inX rfl) (v_tup (a_cons v_str (a_cons v_int a_nil))) (o_peek 1 rfl (.inl rfl)) rfl))
 (b_cons (s_if (t_cmpW (w_inX rfl) v_str (o_peek 2 rfl (.inl rfl)) rfl) (b_one (s_ret (v_ifexp (t_truO (o_peek 3 rfl (.inl rfl))) v_int (v_ifexp (t_cmpW (w_inX rfl) v_str (o_peek 2 rfl (.inl rfl)) rfl) v_int v_int)))) b_nil)
 (b_cons (s_if (t_truO (o_peek 3 rfl (.inl rfl))) (b_one (s_ret v_int)) b_nil)
 (b_one (s_ret (v_ifexp (t_cmpW (w_inX rfl) v_str (o_peek 2 rfl (.inl rfl)) rfl) v_int (v_ifexp (t_cmpW (w_inX rfl) v_str (o_peek 2 rfl (.inl rfl)) rfl) v_int v_int)))))))))
theorem ok__law_kind {B : Bs} (h : Fx B) : Callee B "_law_kind" den__law_kind 4 := callee_mk h.d__law_kind sc__law_kind (vb__law_kind h)
theorem sc__law_few : FnScope ["draws", "signs", "rows", "n", "pieces", "met", "firsts", "kinds", "piece", "kind", "k"] ["draws"] (defScope s__law_few) := ⟨rfl, rfl, rfl, by decide +kernel, rfl, by decide +kernel, by decide +kernel⟩
noncomputable def body__law_few : M Out := seqM (asgM (binM addD (rtn (.int 1)) (binM modD (callM P.O.den__law_draw (consM (varM 0) (rtn []))) (rtn (.int 3)))) (setM 1))
 (seqM (asgM (binM addD (rtn (.int 1)) (binM modD (callM P.O.den__law_draw (consM (varM 0) (rtn []))) (rtn (.int 3)))) (setM 2))
 (seqM (asgM (binM addD (rtn (.int 1)) (binM modD (callM P.O.den__law_draw (consM (varM 0) (rtn []))) (rtn (.int 8)))) (setM 3))
 (seqM (whileM (tstM (binM gtV (callM den__law_power (consM (varM 1) (consM (binM mulD (varM 2) (varM 3)) (rtn [])))) (rtn (.int 300)))) (asgM (binM subD (varM 3) (rtn (.int 1))) (setM 3)))
 (seqM (asgM (callM den__law_pieces (consM (varM 2) (consM (varM 3) (consM (varM 1) (rtn []))))) (setM 4))
 (seqM (dnewM 5 true)
 (seqM (ownM 6 (lstM (rtn [])))
 (seqM (ownM 7 (binF repF (shutM (lstM (consM (rtn (.int 0)) (rtn [])))) (rtn (.int 7))))
 (seqM (forM (itxM (shutM (bnd (consM (varM 4) (rtn [])) sortXM))) (setM 8) (seqM (ifM (tstM (binM notInX (bnd (consM (varM 8) (rtn [])) tupF) (peekM 5))) (seqM (dropM (mutvM appF 6 (consM (varM 8) (rtn []))))
 (forM (itxM (shutM (lstM (consM (rtn (.str "glided")) (consM (rtn (.str "mirrored")) (consM (rtn (.str "moved")) (consM (rtn (.str "turned")) (rtn [])))))))) (setM 9) (forM (bnd (consM (varM 3) (rtn [])) (fun xs => opt (rng1 xs))) (setM 10) (asgM (rtn (.bl true)) (putvM 5 (bnd (consM (callM den__law_led (consM (varM 8) (consM (varM 9) (consM (varM 10) (rtn []))))) (rtn [])) tupF)))))) (rtn .nx))
 (ifM (tstM (binM eqD (callM den__law_period (consM (varM 8) (rtn []))) (varM 3))) (asgM (binM addD (ixvM 7 (callM den__law_kind (consM (varM 8) (rtn [])))) (rtn (.int 1))) (putvM 7 (callM den__law_kind (consM (varM 8) (rtn []))))) (rtn .nx))))
 (seqM (ifM (orM (notM (truM (callM (P.den__law_equal 12) (consM (callM den_unlike_pieces (consM (varM 2) (consM (varM 3) (consM (varM 1) (rtn []))))) (consM (varM 6) (rtn [])))))) (notM (truM (callM (P.den__law_equal 12) (consM (callM den_count_unlike (consM (varM 2) (consM (varM 3) (consM (varM 1) (rtn []))))) (consM (lookM1 lenD (peekM 6)) (rtn []))))))) (retM (rtn (.bl false))) (rtn .nx))
 (retM (callM (P.den__law_equal 12) (consM (callM den_count_by_kinds (consM (varM 2) (consM (varM 3) (consM (varM 1) (rtn []))))) (consM (varM 7) (rtn []))))))))))))))
noncomputable def den__law_few : Den := fnDen 1 11 body__law_few
theorem vb__law_few {B : Bs} (h : Fx B) : VB ⟨B, ["draws", "signs", "rows", "n", "pieces", "met", "firsts", "kinds", "piece", "kind", "k"], defScope s__law_few, 13, true, true, fun _ => true⟩ (defBody s__law_few) body__law_few := (b_cons (s_set 1 rfl (.inl rfl) (.inl rfl) (v_op o_add v_int (v_op o_mod (v_call (ok__law_draw h) (by show 2 ≤ 13; decide) rfl rfl (a_cons (v_var 0 rfl (.inl rfl)) a_nil)) v_int)))
 (b_cons (s_set 2 rfl (.inl rfl) (.inl rfl) (v_op o_add v_int (v_op o_mod (v_call (ok__law_draw h) (by show 2 ≤ 13; decide) rfl rfl (a_cons (v_var 0 rfl (.inl rfl)) a_nil)) v_int)))
 (b_cons (s_set 3 rfl (.inl rfl) (.inl rfl) (v_op o_add v_int (v_op o_mod (v_call (ok__law_draw h) (by show 2 ≤ 13; decide) rfl rfl (a_cons (v_var 0 rfl (.inl rfl)) a_nil)) v_int)))
 (b_cons (s_while (t_cmp (o_gt rfl) (v_call (ok__law_power h) (by show 1 ≤ 13; decide) rfl rfl (a_cons (v_var 1 rfl (.inl rfl)) (a_cons (v_op o_mul (v_var 2 rfl (.inl rfl)) (v_var 3 rfl (.inl rfl))) a_nil))) v_int (nomark _)) (b_one (s_set 3 rfl (.inl rfl) (.inl rfl) (v_op o_sub (v_var 3 rfl (.inl rfl)) v_int))))
 (b_cons (s_set 4 rfl (.inl rfl) (.inl rfl) (v_call (ok__law_pieces h) (by show 1 ≤ 13; decide) rfl rfl (a_cons (v_var 2 rfl (.inl rfl)) (a_cons (v_var 3 rfl (.inl rfl)) (a_cons (v_var 1 rfl (.inl rfl)) a_nil)))))
 (b_cons (s_dnewT 5 rfl (.inl rfl) (.inl rfl))
 (b_cons (s_own 6 rfl (.inl rfl) (.inl rfl) (f_lst a_nil))
 (b_cons (s_own 7 rfl (.inl rfl) (.inl rfl) (f_op of_mul (v_f (f_lst (a_cons v_int a_nil))) v_int))
 (b_cons (s_for rfl (i_any (v_f (f_bcall (cal_sortedX rfl) (a_cons (v_var 4 rfl (.inl rfl)) a_nil) rfl h.z_sorted bt_sorted))) (g_name 8 rfl (.inl rfl) (.inl rfl)) (b_cons (s_if (t_cmpW (w_notInX rfl) (v_tcall cal_tuple (a_cons (v_var 8 rfl (.inl rfl)) a_nil) rfl h.z_tuple bt_tuple) (o_peek 5 rfl (.inl rfl)) rfl) (b_cons (s_expr (v_mut 6 m_append rfl (.inl rfl) (a_cons (v_var 8 rfl (.inl rfl)) a_nil)))
 (b_one (s_for rfl (i_any (v_f (f_lst (a_cons v_str (a_cons v_str (a_cons v_str (a_cons v_str a_nil))))))) (g_name 9 rfl (.inl rfl) (.inl rfl)) (b_one (s_for rfl (i_rng1 (a_cons (v_var 3 rfl (.inl rfl)) a_nil) rfl h.z_range) (g_name 10 rfl (.inl rfl) (.inl rfl)) (b_one (s_asg v_bl (g_set 5 rfl (.inl rfl) (v_tcall cal_tuple (a_cons (v_call (ok__law_led h) (by show 1 ≤ 13; decide) rfl rfl (a_cons (v_var 8 rfl (.inl rfl)) (a_cons (v_var 9 rfl (.inl rfl)) (a_cons (v_var 10 rfl (.inl rfl)) a_nil)))) a_nil) rfl h.z_tuple bt_tuple))))))))) b_nil)
 (b_one (s_if (t_cmp (o_eq rfl) (v_call (ok__law_period h) (by show 1 ≤ 13; decide) rfl rfl (a_cons (v_var 8 rfl (.inl rfl)) a_nil)) (v_var 3 rfl (.inl rfl)) (nomark _)) (b_one (s_asg (v_op o_add (v_ixv 7 rfl (.inl rfl) (v_call (ok__law_kind h) (by show 4 ≤ 13; decide) rfl rfl (a_cons (v_var 8 rfl (.inl rfl)) a_nil))) v_int) (g_set 7 rfl (.inl rfl) (v_call (ok__law_kind h) (by show 4 ≤ 13; decide) rfl rfl (a_cons (v_var 8 rfl (.inl rfl)) a_nil))))) b_nil))))
 (b_cons (s_if (t_w (w_or (t_not (t_tru (v_call (ok__law_equal h 12) (by show 13 ≤ 13; decide) rfl rfl (a_cons (v_call (ok_unlike_pieces h) (by show 5 ≤ 13; decide) rfl rfl (a_cons (v_var 2 rfl (.inl rfl)) (a_cons (v_var 3 rfl (.inl rfl)) (a_cons (v_var 1 rfl (.inl rfl)) a_nil)))) (a_cons (v_var 6 rfl (.inl rfl)) a_nil))))) (w_or1 (t_not (t_tru (v_call (ok__law_equal h 12) (by show 13 ≤ 13; decide) rfl rfl (a_cons (v_call (ok_count_unlike h) (by show 5 ≤ 13; decide) rfl rfl (a_cons (v_var 2 rfl (.inl rfl)) (a_cons (v_var 3 rfl (.inl rfl)) (a_cons (v_var 1 rfl (.inl rfl)) a_nil)))) (a_cons (v_ocall cal_len (o_peek 6 rfl (.inl rfl)) rfl h.z_len bt_len) a_nil)))))))) (b_one (s_ret v_bl)) b_nil)
 (b_one (s_ret (v_call (ok__law_equal h 12) (by show 13 ≤ 13; decide) rfl rfl (a_cons (v_call (ok_count_by_kinds h) (by show 6 ≤ 13; decide) rfl rfl (a_cons (v_var 2 rfl (.inl rfl)) (a_cons (v_var 3 rfl (.inl rfl)) (a_cons (v_var 1 rfl (.inl rfl)) a_nil)))) (a_cons (v_var 7 rfl (.inl rfl)) a_nil)))))))))))))))
theorem ok__law_few {B : Bs} (h : Fx B) : Callee B "_law_few" den__law_few 14 := callee_mk h.d__law_few sc__law_few (vb__law_few h)
theorem sc_law : FnScope ["script", "draws", "rows", "n", "signs", "kinds", "motion", "whole", "kind", "sizes", "bad", "name", "k"] ["script"] (defScope s_law) := ⟨rfl, rfl, rfl, by decide +kernel, rfl, by decide +kernel, by decide +kernel⟩
noncomputable def body_law : M Out := seqM (memM 1 (lstM (consM (callM P.den__law_numbers (consM (varM 0) (rtn []))) (consM (rtn (.int 0)) (rtn [])))))
 (seqM (ifM (notM (truM (callM den__law_few (consM (varM 1) (rtn []))))) (retM (rtn (.bl false))) (rtn .nx))
 (seqM (asgM (tupM (consM (binM addD (rtn (.int 1)) (binM modD (callM P.O.den__law_draw (consM (varM 1) (rtn []))) (rtn (.int 8)))) (consM (binM addD (rtn (.int 1)) (binM modD (callM P.O.den__law_draw (consM (varM 1) (rtn []))) (rtn (.int 24)))) (consM (binM addD (rtn (.int 1)) (binM modD (callM P.O.den__law_draw (consM (varM 1) (rtn []))) (rtn (.int 7)))) (rtn []))))) (untupM 3 (setsM (setM 2) (setsM (setM 3) (setsM (setM 4) (endM))))))
 (seqM (asgM (shutM (lstM (consM (rtn (.str "glided")) (consM (rtn (.str "mirrored")) (consM (rtn (.str "moved")) (consM (rtn (.str "turned")) (rtn []))))))) (setM 5))
 (seqM (asgM (tupM (consM (ixvM 5 (binM modD (callM P.O.den__law_draw (consM (varM 1) (rtn []))) (rtn (.int 4)))) (consM (binM subD (binM modD (callM P.O.den__law_draw (consM (varM 1) (rtn []))) (rtn (.int 2001))) (rtn (.int 1000))) (rtn [])))) (setM 6))
 (seqM (ifM (notM (truM (callM (P.den__law_equal 12) (consM (callM den_kept_by (consM (varM 2) (consM (varM 3) (consM (varM 4) (consM (varM 6) (rtn [])))))) (consM (callM den__law_power (consM (varM 4) (consM (callM den__law_rings (consM (varM 2) (consM (varM 3) (consM (ixvM 6 (rtn (.int 0))) (consM (ixvM 6 (rtn (.int 1))) (rtn [])))))) (rtn [])))) (rtn [])))))) (retM (rtn (.bl false))) (rtn .nx))
 (seqM (asgM (rtn (.int 0)) (setM 7))
 (seqM (forM (itxM (varM 5)) (setM 8) (asgM (binM addD (varM 7) (bnd (consM (shutM (compM [12] (bnd (consM (varM 3) (rtn [])) (fun xs => opt (rng1 xs))) (setM 12) (rtn true) (callM den__law_power (consM (varM 4) (consM (callM den__law_rings (consM (varM 2) (consM (varM 3) (consM (varM 8) (consM (varM 12) (rtn [])))))) (rtn [])))))) (rtn [])) sumF)) (setM 7)))
 (seqM (ifM (orM (notM (truM (callM (P.den__law_equal 12) (consM (callM den_count_unlike (consM (varM 2) (consM (varM 3) (consM (varM 4) (rtn []))))) (consM (binM fdivD (varM 7) (binM mulD (rtn (.int 4)) (varM 3))) (rtn [])))))) (tstM (binM neD (binM modD (varM 7) (binM mulD (rtn (.int 4)) (varM 3))) (rtn (.int 0))))) (retM (rtn (.bl false))) (rtn .nx))
 (seqM (ifM (orM (tstM (binM neD (callM den__law_error (consM (rtn (.str "pieces")) (consM (rtn (.int 1)) (consM (rtn (.int 13)) (consM (rtn (.int 2)) (consM (rtn .non) (rtn []))))))) (rtn (.str "large")))) (tstM (binM neD (callM den__law_error (consM (rtn (.str "kinds")) (consM (rtn (.int 2)) (consM (rtn (.int 4)) (consM (rtn (.int 4)) (consM (rtn .non) (rtn []))))))) (rtn (.str "large"))))) (retM (rtn (.bl false))) (rtn .nx))
 (seqM (asgM (shutM (lstM (consM (tupM (consM (rtn (.int 0)) (consM (rtn (.int 1)) (consM (rtn (.int 2)) (rtn []))))) (consM (tupM (consM (rtn (.int 9)) (consM (rtn (.int 1)) (consM (rtn (.int 2)) (rtn []))))) (consM (tupM (consM (rtn (.int 1)) (consM (rtn (.int 0)) (consM (rtn (.int 2)) (rtn []))))) (consM (tupM (consM (rtn (.int 1)) (consM (rtn (.int 25)) (consM (rtn (.int 2)) (rtn []))))) (consM (tupM (consM (rtn (.int 1)) (consM (rtn (.int 1)) (consM (rtn (.int 0)) (rtn []))))) (consM (tupM (consM (rtn (.int 1)) (consM (rtn (.int 1)) (consM (rtn (.int 8)) (rtn []))))) (consM (tupM (consM (rtn (.bl true)) (consM (rtn (.int 1)) (consM (rtn (.int 2)) (rtn []))))) (consM (tupM (consM (rtn (.int 1)) (consM (rtn .non) (consM (rtn (.int 2)) (rtn []))))) (rtn []))))))))))) (setM 9))
 (seqM (asgM (ixvM 9 (binM modD (callM P.O.den__law_draw (consM (varM 1) (rtn []))) (lookM1 lenD (peekM 9)))) (setM 10))
 (seqM (forM (itxM (shutM (lstM (consM (rtn (.str "kept")) (consM (rtn (.str "unlike")) (consM (rtn (.str "pieces")) (consM (rtn (.str "kinds")) (rtn [])))))))) (setM 11) (ifM (tstM (binM neD (callM den__law_error (consM (varM 11) (consM (ixvM 10 (rtn (.int 0))) (consM (ixvM 10 (rtn (.int 1))) (consM (ixvM 10 (rtn (.int 2))) (consM (tupM (consM (rtn (.str "moved")) (consM (rtn (.int 0)) (rtn [])))) (rtn []))))))) (rtn (.str "argument")))) (retM (rtn (.bl false))) (rtn .nx)))
 (retM (binM eqD (callM den__law_error (consM (rtn (.str "kept")) (consM (rtn (.int 1)) (consM (rtn (.int 1)) (consM (rtn (.int 1)) (consM (ixM (shutM (lstM (consM (rtn .non) (consM (tupM (consM (rtn (.str "slid")) (consM (rtn (.int 0)) (rtn [])))) (consM (tupM (consM (rtn (.str "moved")) (consM (rtn (.bl true)) (rtn [])))) (consM (shutM (lstM (consM (rtn (.str "moved")) (consM (rtn (.int 0)) (rtn []))))) (rtn []))))))) (binM modD (callM P.O.den__law_draw (consM (varM 1) (rtn []))) (rtn (.int 4)))) (rtn []))))))) (rtn (.str "argument"))))))))))))))))
noncomputable def den_law : Den := fnDen 1 13 body_law
theorem vb_law {B : Bs} (h : Fx B) : VB ⟨B, ["script", "draws", "rows", "n", "signs", "kinds", "motion", "whole", "kind", "sizes", "bad", "name", "k"], defScope s_law, 14, true, true, fun _ => true⟩ (defBody s_law) body_law := (b_cons (s_mem 1 rfl (.inl rfl) (.inl rfl) (f_lst (a_cons (v_call (ok__law_numbers h) (by show 2 ≤ 14; decide) rfl rfl (a_cons (v_var 0 rfl (.inl rfl)) a_nil)) (a_cons v_int a_nil))))
 (b_cons (s_if (t_not (t_tru (v_call (ok__law_few h) (by show 14 ≤ 14; decide) rfl rfl (a_cons (v_var 1 rfl (.inl rfl)) a_nil)))) (b_one (s_ret v_bl)) b_nil)
 (b_cons (s_asg (v_tup (a_cons (v_op o_add v_int (v_op o_mod (v_call (ok__law_draw h) (by show 2 ≤ 14; decide) rfl rfl (a_cons (v_var 1 rfl (.inl rfl)) a_nil)) v_int)) (a_cons (v_op o_add v_int (v_op o_mod (v_call (ok__law_draw h) (by show 2 ≤ 14; decide) rfl rfl (a_cons (v_var 1 rfl (.inl rfl)) a_nil)) v_int)) (a_cons (v_op o_add v_int (v_op o_mod (v_call (ok__law_draw h) (by show 2 ≤ 14; decide) rfl rfl (a_cons (v_var 1 rfl (.inl rfl)) a_nil)) v_int)) a_nil)))) (g_tup 3 rfl (gs_cons (g_name 2 rfl (.inr rfl) (.inl rfl)) (gs_cons (g_name 3 rfl (.inr rfl) (.inl rfl)) (gs_cons (g_name 4 rfl (.inr rfl) (.inl rfl)) gs_nil)))) (by intro env h; cases env; cases h; rfl) (by intro env h; cases env; cases h; rfl))
 (b_cons (s_set 5 rfl (.inl rfl) (.inl rfl) (v_f (f_lst (a_cons v_str (a_cons v_str (a_cons v_str (a_cons v_str a_nil)))))))
 (b_cons (s_set 6 rfl (.inl rfl) (.inl rfl) (v_tup (a_cons (v_ixv 5 rfl (.inl rfl) (v_op o_mod (v_call (ok__law_draw h) (by show 2 ≤ 14; decide) rfl rfl (a_cons (v_var 1 rfl (.inl rfl)) a_nil)) v_int)) (a_cons (v_op o_sub (v_op o_mod (v_call (ok__law_draw h) (by show 2 ≤ 14; decide) rfl rfl (a_cons (v_var 1 rfl (.inl rfl)) a_nil)) v_int) v_int) a_nil))))
 (b_cons (s_if (t_not (t_tru (v_call (ok__law_equal h 12) (by show 13 ≤ 14; decide) rfl rfl (a_cons (v_call (ok_kept_by h) (by show 5 ≤ 14; decide) rfl rfl (a_cons (v_var 2 rfl (.inr (.inl rfl))) (a_cons (v_var 3 rfl (.inr (.inl rfl))) (a_cons (v_var 4 rfl (.inr (.inl rfl))) (a_cons (v_var 6 rfl (.inl rfl)) a_nil))))) (a_cons (v_call (ok__law_power h) (by show 1 ≤ 14; decide) rfl rfl (a_cons (v_var 4 rfl (.inr (.inl rfl))) (a_cons (v_call (ok__law_rings h) (by show 2 ≤ 14; decide) rfl rfl (a_cons (v_var 2 rfl (.inr (.inl rfl))) (a_cons (v_var 3 rfl (.inr (.inl rfl))) (a_cons (v_ixv 6 rfl (.inl rfl) v_int) (a_cons (v_ixv 6 rfl (.inl rfl) v_int) a_nil))))) a_nil))) a_nil))))) (b_one (s_ret v_bl)) b_nil)
 (b_cons (s_set 7 rfl (.inl rfl) (.inl rfl) v_int)
 (b_cons (s_for rfl (i_any (v_var 5 rfl (.inl rfl))) (g_name 8 rfl (.inr rfl) (.inl rfl)) (b_one (s_set 7 rfl (.inl rfl) (.inl rfl) (v_op o_add (v_var 7 rfl (.inl rfl)) (v_bcall (cal_sum rfl) (a_cons (v_f (f_lc [("k", 12)] rfl (by refine ⟨rfl, ?_, ?_, ?_, ?_⟩ <;> (try dsimp only [SC.blk]) <;> decide +kernel) (i_rng1 (a_cons (v_var 3 rfl (.inr (.inl rfl))) a_nil) rfl h.z_range) (g_name 12 rfl (.inl rfl) (.inr rfl)) ts_nil (v_call (ok__law_power h) (by show 1 ≤ 14; decide) rfl rfl (a_cons (v_var 4 rfl (.inr (.inl rfl))) (a_cons (v_call (ok__law_rings h) (by show 2 ≤ 14; decide) rfl rfl (a_cons (v_var 2 rfl (.inr (.inl rfl))) (a_cons (v_var 3 rfl (.inr (.inl rfl))) (a_cons (v_var 8 rfl (.inr (.inl rfl))) (a_cons (v_var 12 rfl (.inl rfl)) a_nil))))) a_nil))) (by decide))) a_nil) rfl h.z_sum bt_sum)))))
 (b_cons (s_if (t_w (w_or (t_not (t_tru (v_call (ok__law_equal h 12) (by show 13 ≤ 14; decide) rfl rfl (a_cons (v_call (ok_count_unlike h) (by show 5 ≤ 14; decide) rfl rfl (a_cons (v_var 2 rfl (.inr (.inl rfl))) (a_cons (v_var 3 rfl (.inr (.inl rfl))) (a_cons (v_var 4 rfl (.inr (.inl rfl))) a_nil)))) (a_cons (v_op o_fdiv (v_var 7 rfl (.inl rfl)) (v_op o_mul v_int (v_var 3 rfl (.inr (.inl rfl))))) a_nil))))) (w_or1 (t_cmp (o_ne rfl) (v_op o_mod (v_var 7 rfl (.inl rfl)) (v_op o_mul v_int (v_var 3 rfl (.inr (.inl rfl))))) v_int (nomark _))))) (b_one (s_ret v_bl)) b_nil)
 (b_cons (s_if (t_w (w_or (t_cmp (o_ne rfl) (v_call (ok__law_error h) (by show 7 ≤ 14; decide) rfl rfl (a_cons v_str (a_cons v_int (a_cons v_int (a_cons v_int (a_cons v_non a_nil)))))) v_str (nomark _)) (w_or1 (t_cmp (o_ne rfl) (v_call (ok__law_error h) (by show 7 ≤ 14; decide) rfl rfl (a_cons v_str (a_cons v_int (a_cons v_int (a_cons v_int (a_cons v_non a_nil)))))) v_str (nomark _))))) (b_one (s_ret v_bl)) b_nil)
 (b_cons (s_set 9 rfl (.inl rfl) (.inl rfl) (v_f (f_lst (a_cons (v_tup (a_cons v_int (a_cons v_int (a_cons v_int a_nil)))) (a_cons (v_tup (a_cons v_int (a_cons v_int (a_cons v_int a_nil)))) (a_cons (v_tup (a_cons v_int (a_cons v_int (a_cons v_int a_nil)))) (a_cons (v_tup (a_cons v_int (a_cons v_int (a_cons v_int a_nil)))) (a_cons (v_tup (a_cons v_int (a_cons v_int (a_cons v_int a_nil)))) (a_cons (v_tup (a_cons v_int (a_cons v_int (a_cons v_int a_nil)))) (a_cons (v_tup (a_cons v_bl (a_cons v_int (a_cons v_int a_nil)))) (a_cons (v_tup (a_cons v_int (a_cons v_non (a_cons v_int a_nil)))) a_nil)))))))))))
 (b_cons (s_set 10 rfl (.inl rfl) (.inl rfl) (v_ixv 9 rfl (.inl rfl) (v_op o_mod (v_call (ok__law_draw h) (by show 2 ≤ 14; decide) rfl rfl (a_cons (v_var 1 rfl (.inl rfl)) a_nil)) (v_ocall cal_len (o_peek 9 rfl (.inl rfl)) rfl h.z_len bt_len))))
 (b_cons (s_for rfl (i_any (v_f (f_lst (a_cons v_str (a_cons v_str (a_cons v_str (a_cons v_str a_nil))))))) (g_name 11 rfl (.inl rfl) (.inl rfl)) (b_one (s_if (t_cmp (o_ne rfl) (v_call (ok__law_error h) (by show 7 ≤ 14; decide) rfl rfl (a_cons (v_var 11 rfl (.inl rfl)) (a_cons (v_ixv 10 rfl (.inl rfl) v_int) (a_cons (v_ixv 10 rfl (.inl rfl) v_int) (a_cons (v_ixv 10 rfl (.inl rfl) v_int) (a_cons (v_tup (a_cons v_str (a_cons v_int a_nil))) a_nil)))))) v_str (nomark _)) (b_one (s_ret v_bl)) b_nil)))
 (b_one (s_ret (v_cmp (o_eq rfl) (v_call (ok__law_error h) (by show 7 ≤ 14; decide) rfl rfl (a_cons v_str (a_cons v_int (a_cons v_int (a_cons v_int (a_cons (v_ix (v_f (f_lst (a_cons v_non (a_cons (v_tup (a_cons v_str (a_cons v_int a_nil))) (a_cons (v_tup (a_cons v_str (a_cons v_bl a_nil))) (a_cons (v_f (f_lst (a_cons v_str (a_cons v_int a_nil)))) a_nil)))))) (v_op o_mod (v_call (ok__law_draw h) (by show 2 ≤ 14; decide) rfl rfl (a_cons (v_var 1 rfl (.inl rfl)) a_nil)) v_int)) a_nil)))))) v_str (nomark _)))))))))))))))))
theorem ok_law {B : Bs} (h : Fx B) : Callee B "law" den_law 15 := callee_mk h.d_law sc_law (vb_law h)
end K07
namespace Bu
/-! ### counting: a group's orbits, by what each of its members keeps (plain) -/
theorem sub_len {α : Type} [DecidableEq α] : ∀ {l l' : List α}, l.Nodup → (∀ x ∈ l, x ∈ l') → l.length ≤ l'.length
  | [], _, _, _ => Nat.zero_le _
  | a :: r, l', nd, h => by
    have nd' := List.nodup_cons.mp nd
    have ha : a ∈ l' := h a (by simp)
    have := sub_len (l := r) (l' := l'.erase a) nd'.2 fun x hx => by
      have hne : x ≠ a := fun e => nd'.1 (e ▸ hx)
      exact (List.mem_erase_of_ne hne).mpr (h x (by simp [hx]))
    rw [List.length_erase_of_mem ha] at this
    have hp : 0 < l'.length := List.length_pos_of_mem ha
    simp only [List.length_cons]
    omega
theorem map_nd {α β : Type} {f : α → β} : ∀ {l : List α}, (∀ a ∈ l, ∀ b ∈ l, f a = f b → a = b) → l.Nodup → (l.map f).Nodup
  | [], _, _ => List.nodup_nil
  | a :: r, h, nd => by
    have nd' := List.nodup_cons.mp nd
    rw [List.map_cons, List.nodup_cons]
    refine ⟨fun hm => ?_, map_nd (fun x hx y hy => h x (by simp [hx]) y (by simp [hy])) nd'.2⟩
    obtain ⟨b, hb, e⟩ := List.mem_map.mp hm
    have := h b (by simp [hb]) a (by simp) e
    exact nd'.1 (this ▸ hb)
theorem cnt_le {α β : Type} [DecidableEq β] {l : List α} {l' : List β} {p : α → Bool} {q : β → Bool} (nd : l.Nodup) (f : α → β) (f' : β → α) (h : ∀ x ∈ l, p x = true → f x ∈ l' ∧ q (f x) = true ∧ f' (f x) = x) : l.countP p ≤ l'.countP q := by
  rw [List.countP_eq_length_filter, List.countP_eq_length_filter, ← List.length_map (f := f)]
  refine sub_len (map_nd (fun a ha b hb e => ?_) (nd.filter _)) fun y hy => ?_
  · obtain ⟨h1, h2⟩ := List.mem_filter.mp ha
    obtain ⟨h3, h4⟩ := List.mem_filter.mp hb
    rw [← (h a h1 h2).2.2, ← (h b h3 h4).2.2, e]
  · obtain ⟨x, hx, rfl⟩ := List.mem_map.mp hy
    obtain ⟨h1, h2⟩ := List.mem_filter.mp hx
    exact List.mem_filter.mpr ⟨(h x h1 h2).1, (h x h1 h2).2.1⟩
theorem cnt_eq {α β : Type} [DecidableEq α] [DecidableEq β] {l : List α} {l' : List β} {p : α → Bool} {q : β → Bool} (nd : l.Nodup) (nd' : l'.Nodup) (f : α → β) (f' : β → α)
    (h : ∀ x ∈ l, p x = true → f x ∈ l' ∧ q (f x) = true ∧ f' (f x) = x) (h' : ∀ y ∈ l', q y = true → f' y ∈ l ∧ p (f' y) = true ∧ f (f' y) = y) : l.countP p = l'.countP q :=
  Nat.le_antisymm (cnt_le nd f f' h) (cnt_le nd' f' f h')
/-- sums -/
def sm {α : Type} (l : List α) (f : α → Nat) : Nat := (l.map f).sum
theorem sm_nil {α : Type} (f : α → Nat) : sm [] f = 0 := rfl
theorem sm_cons {α : Type} (a : α) (l : List α) (f : α → Nat) : sm (a :: l) f = f a + sm l f := rfl
theorem sm_add {α : Type} (f g : α → Nat) : ∀ l : List α, sm l (fun x => f x + g x) = sm l f + sm l g
  | [] => rfl
  | a :: r => by rw [sm_cons, sm_cons, sm_cons, sm_add f g r]; omega
theorem sm_congr {α : Type} {f g : α → Nat} : ∀ {l : List α}, (∀ x ∈ l, f x = g x) → sm l f = sm l g
  | [], _ => rfl
  | a :: r, h => by rw [sm_cons, sm_cons, h a (by simp), sm_congr fun x hx => h x (by simp [hx])]
theorem sm_const {α : Type} (c : Nat) : ∀ l : List α, sm l (fun _ => c) = l.length * c
  | [] => by simp [sm_nil]
  | a :: r => by rw [sm_cons, sm_const c r, List.length_cons, Nat.succ_mul]; omega
theorem sm_cnt {α : Type} (p : α → Bool) : ∀ l : List α, sm l (fun x => if p x = true then 1 else 0) = l.countP p
  | [] => rfl
  | a :: r => by rw [sm_cons, sm_cnt p r, List.countP_cons]; omega
theorem sm_swap {α β : Type} (f : α → β → Nat) : ∀ (l : List α) (l' : List β), sm l (fun x => sm l' (f x)) = sm l' (fun y => sm l fun x => f x y)
  | [], l' => by
    have e : sm l' (fun y => sm ([] : List α) fun x => f x y) = sm l' fun _ => 0 := rfl
    rw [e, sm_const, sm_nil, Nat.mul_zero]
  | a :: r, l' => by
    rw [sm_cons, sm_swap f r l', ← sm_add]
    rfl
theorem cnt_swap {α β : Type} (p : α → β → Bool) (l : List α) (l' : List β) : sm l (fun x => l'.countP (p x)) = sm l' (fun y => l.countP fun x => p x y) := by
  rw [sm_congr (g := fun x => sm l' fun y => if p x y = true then 1 else 0) fun x _ => (sm_cnt _ _).symm, sm_swap]
  exact sm_congr fun y _ => sm_cnt _ _
theorem one_of {α : Type} [BEq α] [LawfulBEq α] {a : α} : ∀ {l : List α}, l.Nodup → a ∈ l → l.countP (fun y => a == y) = 1
  | b :: r, nd, h => by
    have nd' := List.nodup_cons.mp nd
    rw [List.countP_cons]
    by_cases e : a = b
    · subst e
      have : r.countP (fun y => a == y) = 0 := List.countP_eq_zero.mpr fun y hy => by
        simp only [beq_iff_eq]
        exact fun e => nd'.1 (e ▸ hy)
      rw [this]; simp
    · have ha : a ∈ r := by simpa [e] using h
      rw [one_of nd'.2 ha]
      simp [e]
theorem one_pair {α : Type} {c : Nat} {p : α → Bool} : ∀ {l : List α}, l.Pairwise (fun a b => ¬(p a = true ∧ p b = true)) → (∃ a ∈ l, p a = true) → sm l (fun a => if p a = true then c else 0) = c
  | a :: r, pw, h => by
    obtain ⟨p1, p2⟩ := List.pairwise_cons.mp pw
    rw [sm_cons]
    by_cases e : p a = true
    · have z : sm r (fun a => if p a = true then c else 0) = 0 := by
        rw [sm_congr (g := fun _ => 0) fun x hx => if_neg fun hp => p1 x hx ⟨e, hp⟩, sm_const, Nat.mul_zero]
      rw [if_pos e, z]; omega
    · obtain ⟨b, hb, hp⟩ := h
      have hb : b ∈ r := by
        rcases List.mem_cons.mp hb with rfl | hb
        · exact absurd hp e
        · exact hb
      rw [if_neg e, one_pair p2 ⟨b, hb, hp⟩]; omega
/-- the first ones, each not met by an earlier one -/
def fst {α : Type} (orb : α → α → Bool) : List α → List α → List α
  | [], F => F
  | x :: r, F => if F.any (fun f => orb f x) = true then fst orb r F else fst orb r (F ++ [x])
theorem fst_inv {α : Type} {orb : α → α → Bool} : ∀ (X D F : List α), (∀ x ∈ X, orb x x = true) → (∀ f ∈ F, f ∈ D) → F.Pairwise (fun a b => orb a b = false) → (∀ x ∈ D, ∃ f ∈ F, orb f x = true) →
    (∀ f ∈ fst orb X F, f ∈ D ++ X) ∧ (fst orb X F).Pairwise (fun a b => orb a b = false) ∧ ∀ x ∈ D ++ X, ∃ f ∈ fst orb X F, orb f x = true
  | [], D, F, _, h1, h2, h3 => by rw [List.append_nil]; exact ⟨h1, h2, h3⟩
  | x :: r, D, F, rf, h1, h2, h3 => by
    have e : D ++ x :: r = (D ++ [x]) ++ r := by simp
    rw [fst, e]
    by_cases hc : F.any (fun f => orb f x) = true
    · rw [if_pos hc]
      refine fst_inv r (D ++ [x]) F (fun x hx => rf x (by simp [hx])) (fun f hf => List.mem_append_left _ (h1 f hf)) h2 fun y hy => ?_
      rcases List.mem_append.mp hy with hy | hy
      · exact h3 y hy
      · obtain rfl := List.mem_singleton.mp hy
        obtain ⟨f, hf, ho⟩ := List.any_eq_true.mp hc
        exact ⟨f, hf, ho⟩
    · rw [if_neg hc]
      refine fst_inv r (D ++ [x]) (F ++ [x]) (fun x hx => rf x (by simp [hx])) (fun f hf => ?_) (List.pairwise_append.mpr ⟨h2, by simp, fun a ha b hb => ?_⟩) fun y hy => ?_
      · rcases List.mem_append.mp hf with hf | hf
        · exact List.mem_append_left _ (h1 f hf)
        · exact List.mem_append_right _ hf
      · obtain rfl := List.mem_singleton.mp hb
        cases h : orb a b with
        | false => rfl
        | true => exact absurd (List.any_eq_true.mpr ⟨a, ha, h⟩) hc
      · rcases List.mem_append.mp hy with hy | hy
        · obtain ⟨f, hf, ho⟩ := h3 y hy
          exact ⟨f, List.mem_append_left _ hf, ho⟩
        · obtain rfl := List.mem_singleton.mp hy
          exact ⟨y, List.mem_append_right _ (by simp), rf y (by simp)⟩
/-- as many orbits as the group's members keep on the average -/
theorem burnside {α γ : Type} [BEq α] [LawfulBEq α] {X : List α} {G : List γ} {act : γ → α → α} {orb : α → α → Bool} (nd : X.Nodup)
    (ax : ∀ g ∈ G, ∀ x ∈ X, act g x ∈ X) (ho : ∀ x ∈ X, ∀ y ∈ X, (orb x y = true ↔ ∃ g ∈ G, act g x = y)) (rf : ∀ x ∈ X, orb x x = true)
    (sy : ∀ x ∈ X, ∀ y ∈ X, orb x y = true → orb y x = true) (tr : ∀ x ∈ X, ∀ y ∈ X, ∀ z ∈ X, orb x y = true → orb y z = true → orb x z = true)
    (hN : ∀ x ∈ X, ∀ y ∈ X, orb x y = true → G.countP (fun g => act g x == y) = G.countP fun g => act g y == y) :
    sm G (fun g => X.countP fun x => act g x == x) = (fst orb X []).length * G.length := by
  obtain ⟨f1, f2, f3⟩ := fst_inv X [] [] rf (by simp) List.Pairwise.nil (by simp)
  simp only [List.nil_append] at f1 f3
  generalize fst orb X [] = F at f1 f2 f3
  have e1 : ∀ x ∈ X, sm X (fun y => G.countP fun g => act g x == y) = G.length := fun x hx => by
    rw [cnt_swap, sm_congr (g := fun _ => 1) fun g hg => one_of nd (ax g hg x hx), sm_const, Nat.mul_one]
  have e2 : ∀ x ∈ X, sm F (fun f => if orb f x = true then G.countP (fun g => act g x == x) else 0) = G.countP fun g => act g x == x := fun x hx => by
    refine one_pair ?_ (f3 x hx)
    refine f2.imp_of_mem fun {a b} ha hb hab => ?_
    rintro ⟨h1, h2⟩
    have := tr a (f1 a ha) x hx b (f1 b hb) h1 (sy b (f1 b hb) x hx h2)
    rw [hab] at this; cases this
  rw [cnt_swap (fun g x => act g x == x), sm_congr fun x hx => (e2 x hx).symm, sm_swap, sm_congr (g := fun _ => G.length), sm_const]
  intro f hf
  rw [← e1 f (f1 f hf)]
  refine sm_congr fun x hx => ?_
  by_cases h : orb f x = true
  · rw [if_pos h, hN f (f1 f hf) x hx h]
  · rw [if_neg h]
    refine (List.countP_eq_zero.mpr fun g hg => ?_).symm
    simp only [beq_iff_eq]
    exact fun e => h ((ho f (f1 f hf) x hx).mpr ⟨g, hg, e⟩)
/-! ### how many are kept: one choice for each ring -/
theorem split_cnt {α β : Type} [BEq β] [LawfulBEq β] {A : List β} (ndA : A.Nodup) {q : α → Bool} {h : α → β} (X : List α) (hA : ∀ x ∈ X, h x ∈ A) : X.countP q = sm A fun a => X.countP fun x => q x && h x == a := by
  rw [← cnt_swap (fun x a => q x && h x == a)]
  rw [← sm_cnt]
  refine sm_congr fun x hx => ?_
  by_cases hq : q x = true
  · rw [if_pos hq]
    have : (fun a => q x && h x == a) = fun a => h x == a := by funext a; rw [hq, Bool.true_and]
    rw [this, one_of ndA (hA x hx)]
  · rw [if_neg hq]
    refine (List.countP_eq_zero.mpr fun a _ => ?_).symm
    simp [hq]
structure Pc (κ α : Type) where
  cs : List κ
  A : List Nat
  X : List α
  get : α → κ → Nat
  mkf : (κ → Nat) → α
  ndA : A.Nodup
  ndX : X.Nodup
  mem : ∀ x ∈ X, ∀ c ∈ cs, get x c ∈ A
  mk_mem : ∀ f : κ → Nat, (∀ c ∈ cs, f c ∈ A) → mkf f ∈ X
  mk_get : ∀ f : κ → Nat, ∀ c ∈ cs, get (mkf f) c = f c
  ext : ∀ x ∈ X, ∀ y ∈ X, (∀ c ∈ cs, get x c = get y c) → x = y
section
variable {κ α : Type} [DecidableEq κ] [DecidableEq α] (P : Pc κ α) (π : κ → κ) (a0 : Nat)
/-- the same on each ring of M, a0 elsewhere -/
def PM (M : List κ) (x : α) : Bool := P.cs.all fun c => if c ∈ M then P.get x (π c) == P.get x c else P.get x c == a0
theorem PM_iff {M : List κ} {x : α} : PM P π a0 M x = true ↔ ∀ c ∈ P.cs, if c ∈ M then P.get x (π c) = P.get x c else P.get x c = a0 := by
  unfold PM
  rw [List.all_eq_true]
  constructor
  · intro h c hc
    have := h c hc
    by_cases e : c ∈ M
    · rw [if_pos e] at this ⊢; simpa using this
    · rw [if_neg e] at this ⊢; simpa using this
  · intro h c hc
    have := h c hc
    by_cases e : c ∈ M
    · rw [if_pos e] at this ⊢; simpa using this
    · rw [if_neg e] at this ⊢; simpa using this
theorem PM_nil (ha : a0 ∈ P.A) : P.X.countP (PM P π a0 []) = 1 := by
  have hm := P.mk_mem (fun _ => a0) fun _ _ => ha
  rw [← one_of P.ndX hm]
  refine List.countP_congr fun x hx => ?_
  rw [PM_iff, beq_iff_eq]
  constructor
  · intro h
    refine P.ext _ hm x hx fun c hc => ?_
    rw [P.mk_get _ c hc]
    have := h c hc
    simpa using this.symm
  · rintro rfl c hc
    simp [P.mk_get _ c hc]
theorem PM_step (ha : a0 ∈ P.A) {M S : List κ} {c0 : κ} (hc : c0 ∈ S) (hS : ∀ c ∈ S, c ∈ P.cs) (hM : ∀ c ∈ M, c ∈ P.cs) (dj : ∀ c ∈ S, c ∉ M) (mM : ∀ c ∈ M, π c ∈ M) (mS : ∀ c ∈ S, π c ∈ S)
    (con : ∀ f : κ → Nat, (∀ c ∈ S, f (π c) = f c) → ∀ c ∈ S, f c = f c0) : P.X.countP (PM P π a0 (M ++ S)) = P.A.length * P.X.countP (PM P π a0 M) := by
  rw [split_cnt (q := PM P π a0 (M ++ S)) (h := fun x => P.get x c0) P.ndA P.X fun x hx => P.mem x hx c0 (hS c0 hc), sm_congr (g := fun _ => P.X.countP (PM P π a0 M)), sm_const]
  intro a haA
  let F : Nat → α → α := fun b x => P.mkf fun c => if c ∈ S then b else P.get x c
  have Fm : ∀ b ∈ P.A, ∀ x ∈ P.X, F b x ∈ P.X := fun b hb x hx => P.mk_mem _ fun c hc => by
    by_cases e : c ∈ S
    · simp only [if_pos e]; exact hb
    · simp only [if_neg e]; exact P.mem x hx c hc
  have Fg : ∀ b x, ∀ c ∈ P.cs, P.get (F b x) c = if c ∈ S then b else P.get x c := fun b x c hc => P.mk_get _ c hc
  have FF : ∀ b b', b ∈ P.A → b' ∈ P.A → ∀ x ∈ P.X, (∀ c ∈ S, P.get x c = b') → F b' (F b x) = x := fun b b' hb hb' x hx h => by
    refine P.ext _ (Fm _ hb' _ (Fm _ hb _ hx)) x hx fun c hc => ?_
    rw [Fg _ _ c hc, Fg _ _ c hc]
    by_cases e : c ∈ S
    · rw [if_pos e, h c e]
    · rw [if_neg e, if_neg e]
  refine cnt_eq P.ndX P.ndX (F a0) (F a) (fun x hx h => ?_) fun x hx h => ?_
  · rw [Bool.and_eq_true, PM_iff, beq_iff_eq] at h
    obtain ⟨h1, h2⟩ := h
    have hs : ∀ c ∈ S, P.get x c = a := fun c hc => by
      rw [← h2]
      refine con (P.get x) (fun c hc => ?_) c hc
      have := h1 c (hS c hc)
      rwa [if_pos (List.mem_append_right _ hc)] at this
    refine ⟨Fm _ ha x hx, ?_, FF a0 a ha haA x hx hs⟩
    rw [PM_iff]
    intro c hc
    have := h1 c hc
    by_cases e : c ∈ M
    · have e1 : c ∉ S := fun h => dj c h e
      have e2 : π c ∉ S := fun h => dj _ h (mM c e)
      rw [if_pos (List.mem_append_left _ e)] at this
      rw [if_pos e, Fg _ _ c hc, Fg _ _ _ (hM _ (mM c e)), if_neg e1, if_neg e2, this]
    · rw [if_neg e, Fg _ _ c hc]
      by_cases e1 : c ∈ S
      · rw [if_pos e1]
      · rw [if_neg e1]
        rwa [if_neg (by simp [e, e1])] at this
  · rw [PM_iff] at h
    refine ⟨Fm _ haA x hx, ?_, FF a a0 haA ha x hx fun c hc => ?_⟩
    · rw [Bool.and_eq_true, PM_iff, beq_iff_eq, Fg _ _ c0 (hS c0 hc), if_pos hc]
      refine ⟨fun c hc => ?_, rfl⟩
      have := h c hc
      by_cases e : c ∈ M
      · have e1 : c ∉ S := fun h => dj c h e
        have e2 : π c ∉ S := fun h => dj _ h (mM c e)
        rw [if_pos e] at this
        rw [if_pos (List.mem_append_left _ e), Fg _ _ c hc, Fg _ _ _ (hM _ (mM c e)), if_neg e1, if_neg e2, this]
      · rw [if_neg e] at this
        by_cases e1 : c ∈ S
        · rw [if_pos (List.mem_append_right _ e1), Fg _ _ c hc, Fg _ _ _ (hS _ (mS c e1)), if_pos e1, if_pos (mS c e1)]
        · rw [if_neg (by simp [e, e1]), Fg _ _ c hc, if_neg e1, this]
    · have := h c (hS c hc)
      rwa [if_neg (dj c hc)] at this
theorem PM_all {M : List κ} (h : ∀ c ∈ P.cs, c ∈ M) : P.X.countP (PM P π a0 M) = P.X.countP fun x => P.cs.all fun c => P.get x (π c) == P.get x c := by
  refine List.countP_congr fun x hx => ?_
  rw [PM_iff, List.all_eq_true]
  constructor
  · intro h1 c hc
    have := h1 c hc
    rw [if_pos (h c hc)] at this
    simpa using this
  · intro h1 c hc
    have := h1 c hc
    rw [if_pos (h c hc)]
    simpa using this
end
/-! ### the ring that a cell lies in -/
def it {κ : Type} (π : κ → κ) : Nat → κ → κ
  | 0, c => c
  | n + 1, c => π (it π n c)
/-- the cells met from c on, up to the j-th -/
def pth {κ : Type} (π : κ → κ) (c : κ) (j : Nat) : List κ := (List.range j).map fun i => it π i c
theorem pth_succ {κ : Type} (π : κ → κ) (c : κ) (j : Nat) : pth π c (j + 1) = pth π c j ++ [it π j c] := by
  unfold pth; rw [List.range_succ, List.map_append]; rfl
theorem mem_pth {κ : Type} {π : κ → κ} {c x : κ} {j : Nat} : x ∈ pth π c j ↔ ∃ i, i < j ∧ it π i c = x := by
  unfold pth
  rw [List.mem_map]
  constructor
  · rintro ⟨i, hi, e⟩; exact ⟨i, List.mem_range.mp hi, e⟩
  · rintro ⟨i, hi, e⟩; exact ⟨i, List.mem_range.mpr hi, e⟩
/-- on a path without a cell met twice, that ends at a cell met: a ring -/
theorem ring {κ : Type} [DecidableEq κ] {cs M : List κ} {π : κ → κ} {c : κ} {j : Nat} (hc : c ∈ cs) (pi : ∀ x ∈ cs, π x ∈ cs) (inj : ∀ x ∈ cs, ∀ y ∈ cs, π x = π y → x = y)
    (hM : ∀ x ∈ cs, (x ∈ M ↔ π x ∈ M)) (hcM : c ∉ M) (nd : (pth π c j).Nodup) (he : it π j c ∈ M ++ pth π c j) (hj : 1 ≤ j) :
    c ∈ pth π c j ∧ (∀ x ∈ pth π c j, x ∈ cs) ∧ (∀ x ∈ pth π c j, x ∉ M) ∧ (∀ x ∈ pth π c j, π x ∈ pth π c j) ∧ (∀ f : κ → Nat, (∀ x ∈ pth π c j, f (π x) = f x) → ∀ x ∈ pth π c j, f x = f c) ∧ ∀ x ∈ cs, (x ∈ M ++ pth π c j ↔ π x ∈ M ++ pth π c j) := by
  have it_cs : ∀ i, it π i c ∈ cs := fun i => by
    induction i with
    | zero => exact hc
    | succ i ih => exact pi _ ih
  have it_M : ∀ i, it π i c ∉ M := fun i => by
    induction i with
    | zero => exact hcM
    | succ i ih => exact fun h => ih ((hM _ (it_cs i)).mpr h)
  have uq : ∀ i k, i < j → k < j → it π i c = it π k c → i = k := fun i k hi hk e => by
    have l : (pth π c j).length = j := by simp [pth]
    have := (List.getElem_inj (h₀ := by rw [l]; exact hi) (h₁ := by rw [l]; exact hk) nd).mp (by simpa [pth] using e)
    exact this
  have back : it π j c = c := by
    rcases List.mem_append.mp he with h | h
    · exact absurd h (it_M j)
    · obtain ⟨i, hi, e⟩ := mem_pth.mp h
      cases i with
      | zero => exact e.symm
      | succ i =>
        obtain ⟨k, rfl⟩ : ∃ k, j = k + 1 := ⟨j - 1, by omega⟩
        have := inj _ (it_cs i) _ (it_cs k) e
        have := uq i k (by omega) (by omega) this
        omega
  have stp : ∀ x ∈ pth π c j, π x ∈ pth π c j := fun x hx => by
    obtain ⟨i, hi, rfl⟩ := mem_pth.mp hx
    by_cases e : i + 1 = j
    · have : π (it π i c) = it π j c := by rw [← e]; rfl
      rw [this, back]
      exact mem_pth.mpr ⟨0, by omega, rfl⟩
    · exact mem_pth.mpr ⟨i + 1, by omega, rfl⟩
  refine ⟨mem_pth.mpr ⟨0, by omega, rfl⟩, fun x hx => ?_, fun x hx => ?_, stp, fun f hf x hx => ?_, fun x hx => ⟨fun h => ?_, fun h => ?_⟩⟩
  · obtain ⟨i, _, rfl⟩ := mem_pth.mp hx; exact it_cs i
  · obtain ⟨i, _, rfl⟩ := mem_pth.mp hx; exact it_M i
  · obtain ⟨i, hi, rfl⟩ := mem_pth.mp hx
    clear hx
    induction i with
    | zero => rfl
    | succ i ih =>
      rw [← ih (by omega)]
      exact hf _ (mem_pth.mpr ⟨i, by omega, rfl⟩)
  · rcases List.mem_append.mp h with h | h
    · exact List.mem_append_left _ ((hM x hx).mp h)
    · exact List.mem_append_right _ (stp x h)
  · rcases List.mem_append.mp h with h | h
    · exact List.mem_append_left _ ((hM x hx).mpr h)
    · refine List.mem_append_right _ ?_
      obtain ⟨i, hi, e⟩ := mem_pth.mp h
      cases i with
      | zero =>
        obtain ⟨k, rfl⟩ : ∃ k, j = k + 1 := ⟨j - 1, by omega⟩
        have e : it π (k + 1) c = π x := by rw [back]; exact e
        have := inj _ (it_cs k) _ hx e
        exact mem_pth.mpr ⟨k, by omega, this⟩
      | succ i =>
        have := inj _ (it_cs i) _ hx e
        exact mem_pth.mpr ⟨i, by omega, this⟩
end Bu
namespace K07
open Vl
/-! ### pieces -/
def sg7 (n : Nat) : Prop := n = 46 ∨ n = 97 ∨ n = 98 ∨ n = 99 ∨ n = 100 ∨ n = 101 ∨ n = 102
theorem sg_in {n : Nat} (h : sg7 n) : notInX (txt [n]) c_SIGNS = some (.bl false) := by
  show notInD (txt [n]) c_SIGNS = some (.bl false)
  have e : ∀ z : PySem.Str, inStr ".abcdef" z = true → notInD (.str z) c_SIGNS = some (.bl false) := fun z hz => by
    show (match some (D.bl (inStr ".abcdef" z)) with
      | some (.bl k) => some (D.bl (!k))
      | _ => none) = _
    rw [hz]; rfl
  rcases h with rfl | rfl | rfl | rfl | rfl | rfl | rfl <;> exact e _ (by decide +kernel)
structure Good (wl : List (List Nat)) (R n : Nat) : Prop where
  len : wl.length = R
  row : ∀ row ∈ wl, row.length = n
  sg : ∀ row ∈ wl, ∀ k ∈ row, sg7 k
  r1 : 1 ≤ R
  r8 : R ≤ 8
  c1 : 1 ≤ n
  c24 : n ≤ 24
theorem Good.first {wl : List (List Nat)} {R n : Nat} (g : Good wl R n) : ∃ row, ixD (WD wl) (.int 0) = some (txt row) ∧ lenD (txt row) = some (.int n) := by
  have h : 0 < wl.length := by rw [g.len]; exact g.r1
  have hm := List.getElem_mem h
  refine ⟨wl[0], ix_W (i := 0) (List.getElem?_eq_getElem h), ?_⟩
  have := g.c24
  have := g.row _ hm
  rw [lenD_t (by omega), g.row _ hm]
theorem Good.ne {wl : List (List Nat)} {R n : Nat} (g : Good wl R n) : (wl.map txt).isEmpty = false := by
  have := g.len
  have := g.r1
  cases wl with
  | nil => simp at this; omega
  | cons a b => rfl
theorem rest_ok (c : Int) (n : Nat) (h : 1 ≤ n) (h2 : n ≤ 1000) (m) : den_rest [.int c, .int n] m = .ok (.int (c % n)) m := by
  refine fn_ok rfl ?_
  have q : c - c / (n : Int) * n = c % n := by have := Int.emod_add_mul_ediv c n; rw [Int.mul_comm] at this; omega
  simp only [vA, ru_seq, Nat.reduceAdd, Nat.reduceSub, Nat.reduceLeDiff, reduceCtorEq, String.reduceEq, Int.reduceBEq, Int.reduceLT, Int.reduceLE, Int.reduceAdd, Int.reduceSub, Int.reduceMul, Int.reduceNeg, Nat.reduceBEq, Slot.shut, List.replicate, implies_true, body_rest, fdivD_ii (i := c) (show (0 : Int) < (n : Int) by omega) (show (n : Int) < 1073741824 by omega), mulD_ii (i := c / (n : Int)) (j := (n : Int)) (by omega), q]
/-- the sign in a row and a column, the columns going on -/
def cw (wl : List (List Nat)) (i j : Nat) : Nat := ((wl[i]?).getD [])[j]?.getD 0
def pw (wl : List (List Nat)) (n : Nat) (r : Nat) (c : Int) : Nat := cw wl r (c % n).toNat
theorem Good.at {wl : List (List Nat)} {R n : Nat} (g : Good wl R n) {i j : Nat} (hi : i < R) (hj : j < n) : ∃ row, wl[i]? = some row ∧ row ∈ wl ∧ row[j]? = some (cw wl i j) := by
  have h : i < wl.length := by rw [g.len]; exact hi
  have hm := List.getElem_mem h
  have e : wl[i]? = some wl[i] := List.getElem?_eq_getElem h
  have hj2 : j < wl[i].length := by rw [g.row _ hm]; exact hj
  refine ⟨wl[i], e, hm, ?_⟩
  unfold cw
  rw [e, Option.getD_some, List.getElem?_eq_getElem hj2, Option.getD_some]
theorem Good.cell {wl : List (List Nat)} {R n : Nat} (g : Good wl R n) {r : Nat} (c : Int) (hr : r < R) : ∃ row, ixD (WD wl) (.int (r : Int)) = some (txt row) ∧ ixD (txt row) (.int (c % (n : Int))) = some (txt [pw wl n r c]) := by
  have hc1 := g.c1
  have hc24 := g.c24
  have b3 : 0 ≤ c % (n : Int) := Int.emod_nonneg _ (by omega)
  have b4 : c % (n : Int) < n := Int.emod_lt_of_pos _ (by omega)
  obtain ⟨row, k1, k2, k3⟩ := g.at hr (j := (c % (n : Int)).toNat) (by omega)
  have := g.row row k2
  exact ⟨row, ix_W k1, ixD_t (by omega) b3 k3⟩
end K07
namespace K07
def rep (q : Nat) (t : List Nat) : List Nat := (List.replicate q t).flatten
theorem rep_succ (q : Nat) (t : List Nat) : rep (q + 1) t = t ++ rep q t := by unfold rep; rw [List.replicate_succ, List.flatten_cons]
theorem rep_comm (q : Nat) (t : List Nat) : rep q t ++ t = t ++ rep q t := by
  induction q with
  | zero => simp [rep]
  | succ q ih => rw [rep_succ, List.append_assoc, ih]
theorem rep_len (q : Nat) (t : List Nat) : (rep q t).length = q * t.length := by unfold rep; simp
def perB (wl : List (List Nat)) (n p : Nat) : Bool := decide (n % p = 0) && wl.all fun row => row == rep (n / p) (row.take p)
def perL (wl : List (List Nat)) (p : Nat) : Bool := wl.all fun row => row == row.drop p ++ row.take p
theorem take_drop_app (t s : List Nat) (p : Nat) (h : t.length = p) : (t ++ s).drop p = s ∧ (t ++ s).take p = t := by
  subst h; simp
theorem perB_perL {wl : List (List Nat)} {n p : Nat} (hp : 1 ≤ p) (hpn : p ≤ n) (hl : ∀ row ∈ wl, row.length = n) (h : perB wl n p = true) : perL wl p = true := by
  unfold perB at h
  rw [Bool.and_eq_true, List.all_eq_true] at h
  unfold perL
  rw [List.all_eq_true]
  intro row hr
  have h2 := h.2 row hr
  rw [beq_iff_eq] at h2 ⊢
  have ht : (row.take p).length = p := by rw [List.length_take, hl row hr]; omega
  obtain ⟨q, hq⟩ : ∃ q, n / p = q + 1 := ⟨n / p - 1, by have : 1 ≤ n / p := (Nat.le_div_iff_mul_le hp).mpr (by omega); omega⟩
  rw [hq, rep_succ] at h2
  generalize row.take p = t at h2 ht
  subst h2
  obtain ⟨e1, e2⟩ := take_drop_app t (rep q t) p ht
  rw [e1, rep_comm]
theorem comm_rep (t : List Nat) (p : Nat) (hp : t.length = p) : ∀ (m : Nat) (s : List Nat), s.length = p * m → s ++ t = t ++ s → s = rep m t
  | 0, s, hs, _ => by
    have : s = [] := List.eq_nil_of_length_eq_zero (by simpa using hs)
    subst this; rfl
  | m + 1, s, hs, h => by
    have hle : t.length ≤ s.length := by rw [hs, hp, Nat.mul_succ]; omega
    have e1 : s.take t.length = t := by
      have := congrArg (List.take t.length) h
      rw [List.take_append_of_le_length hle, List.take_left] at this
      exact this
    have e2 : s = t ++ s.drop t.length := by
      have := List.take_append_drop t.length s
      rw [e1] at this; exact this.symm
    generalize s.drop t.length = s' at e2
    subst e2
    rw [List.append_assoc] at h
    have h3 := List.append_cancel_left h
    have hs' : s'.length = p * m := by rw [List.length_append, hp, Nat.mul_succ] at hs; omega
    rw [rep_succ, comm_rep t p hp m s' hs' h3]
/-- a row turned by p is itself: by its signs -/
theorem rot_iff {row : List Nat} {n p : Nat} (hl : row.length = n) (hp : p ≤ n) (hn : 1 ≤ n) : row = row.drop p ++ row.take p ↔ ∀ k, k < n → row[(k + p) % n]? = row[k]? := by
  have e : ∀ k, k < n → (row.drop p ++ row.take p)[k]? = row[(k + p) % n]? := fun k hk => by
    by_cases h : k < n - p
    · rw [List.getElem?_append_left (by rw [List.length_drop, hl]; exact h), List.getElem?_drop, Nat.mod_eq_of_lt (by omega), Nat.add_comm]
    · rw [List.getElem?_append_right (by rw [List.length_drop, hl]; omega), List.length_drop, hl, List.getElem?_take, if_pos (by omega)]
      have : (k + p) % n = k - (n - p) := by
        rw [Nat.mod_eq_sub_mod (by omega), Nat.mod_eq_of_lt (by omega)]; omega
      rw [this]
  constructor
  · intro h k hk
    rw [← e k hk, ← h]
  · intro h
    refine List.ext_getElem? fun k => ?_
    by_cases hk : k < n
    · rw [e k hk, h k hk]
    · rw [List.getElem?_eq_none (by omega), List.getElem?_eq_none (by simp; omega)]
theorem rot_mul {row : List Nat} {n p : Nat} (hn : 1 ≤ n) (h : ∀ k, k < n → row[(k + p) % n]? = row[k]?) : ∀ (m k : Nat), row[(k + p * m) % n]? = row[k % n]?
  | 0, k => by simp
  | m + 1, k => by
    have h1 := h ((k + p * m) % n) (Nat.mod_lt _ hn)
    rw [Nat.mod_add_mod, rot_mul hn h m k] at h1
    rw [Nat.mul_succ, ← Nat.add_assoc]
    exact h1
theorem per_min {wl : List (List Nat)} {n p : Nat} (hp : 1 ≤ p) (hpn : p ≤ n) (hl : ∀ row ∈ wl, row.length = n) (h : perL wl p = true) (hm : ∀ r, 1 ≤ r → r < p → perL wl r = false) : perB wl n p = true := by
  have hn : 1 ≤ n := by omega
  unfold perL at h
  rw [List.all_eq_true] at h
  have hd : n % p = 0 := by
    rcases Nat.eq_zero_or_pos (n % p) with h0 | h0
    · exact h0
    · exfalso
      have hr : n % p < p := Nat.mod_lt _ hp
      have hh : perL wl (n % p) = true := by
        unfold perL
        rw [List.all_eq_true]
        intro row hrow
        have h2 := h row hrow
        rw [beq_iff_eq] at h2 ⊢
        have hlr := hl row hrow
        rw [rot_iff hlr (by omega) hn] at h2 ⊢
        intro k hk
        have h3 := rot_mul hn h2 (n / p) (k + n % p)
        have h4 : k + n % p + p * (n / p) = k + n := by have := Nat.mod_add_div n p; omega
        rw [h4, Nat.add_mod_right, Nat.mod_eq_of_lt hk] at h3
        exact h3.symm
      rw [hm _ h0 hr] at hh
      cases hh
  unfold perB
  rw [Bool.and_eq_true, List.all_eq_true]
  refine ⟨decide_eq_true hd, fun row hrow => ?_⟩
  have h2 := h row hrow
  rw [beq_iff_eq] at h2 ⊢
  have hlr := hl row hrow
  have ht : (row.take p).length = p := by rw [List.length_take, hlr]; omega
  have e := List.take_append_drop p row
  obtain ⟨q, hq⟩ : ∃ q, n = p * (q + 1) := ⟨n / p - 1, by
    have h3 := Nat.mod_add_div n p
    have h4 : 1 ≤ n / p := (Nat.le_div_iff_mul_le hp).mpr (by omega)
    rw [Nat.sub_add_cancel h4]; omega⟩
  have hs : (row.drop p).length = p * q := by rw [List.length_drop, hlr, hq, Nat.mul_succ]; omega
  have hdiv : n / p = q + 1 := by rw [hq]; exact Nat.mul_div_cancel_left _ hp
  rw [hdiv, rep_succ]
  have h5 : row.drop p ++ row.take p = row.take p ++ row.drop p := by rw [e]; exact h2.symm
  rw [← comm_rep (row.take p) p ht q (row.drop p) hs h5]
  exact e.symm
theorem perL_n {wl : List (List Nat)} {n : Nat} (hl : ∀ row ∈ wl, row.length = n) : perL wl n = true := by
  unfold perL
  rw [List.all_eq_true]
  intro row hr
  have := hl row hr
  rw [beq_iff_eq, List.drop_eq_nil_of_le (by omega), List.take_of_length_le (by omega)]
  rfl
/-- the least one, from 1 on -/
theorem least_ex {f : Nat → Bool} : ∀ n, f n = true → 1 ≤ n → ∃ p, 1 ≤ p ∧ p ≤ n ∧ f p = true ∧ ∀ r, 1 ≤ r → r < p → f r = false := by
  intro n
  induction n using Nat.strongRecOn with
  | _ n ih =>
    intro h hn
    by_cases hx : ∃ m, 1 ≤ m ∧ m < n ∧ f m = true
    · obtain ⟨m, h1, h2, h3⟩ := hx
      obtain ⟨p, a, b, c, d⟩ := ih m h2 h3 h1
      exact ⟨p, a, by omega, c, d⟩
    · exact ⟨n, hn, Nat.le_refl _, h, fun r h1 h2 => by
        cases hf : f r with
        | false => rfl
        | true => exact absurd ⟨r, h1, h2, hf⟩ hx⟩
/-- the period: both ways to find it -/
theorem per_ex {wl : List (List Nat)} {n : Nat} (hn : 1 ≤ n) (hl : ∀ row ∈ wl, row.length = n) : ∃ p, 1 ≤ p ∧ p ≤ n ∧ perL wl p = true ∧ perB wl n p = true ∧ (∀ r, 1 ≤ r → r < p → perL wl r = false) ∧ ∀ r, 1 ≤ r → r < p → perB wl n r = false := by
  obtain ⟨p, a, b, c, d⟩ := least_ex n (perL_n hl) hn
  refine ⟨p, a, b, c, per_min a b hl c d, d, fun r h1 h2 => ?_⟩
  cases hf : perB wl n r with
  | false => rfl
  | true =>
    have := perB_perL h1 (by omega) hl hf
    rw [d r h1 h2] at this
    cases this
end K07
namespace K07
open Vl
structure PerP (wl : List (List Nat)) (n p : Nat) : Prop where
  p1 : 1 ≤ p
  pn : p ≤ n
  l : perL wl p = true
  b : perB wl n p = true
  ml : ∀ r, 1 ≤ r → r < p → perL wl r = false
  mb : ∀ r, 1 ≤ r → r < p → perB wl n r = false
theorem Good.per {wl : List (List Nat)} {R n : Nat} (g : Good wl R n) : ∃ p, PerP wl n p := by
  obtain ⟨p, a, b, c, d, e, f⟩ := per_ex g.c1 g.row
  exact ⟨p, a, b, c, d, e, f⟩
theorem rng_1n (n : Nat) (h : n ≤ 1000) : rng2 [.int 1, .int ((n : Int) + 1)] = some (rngL 1 n) := by
  rw [rng2_int (by decide) (by decide) (by omega) (by omega)]
  congr 2
  omega
theorem all_nil {wl : List (List Nat)} {f : List Nat → Bool} : ((wl.filter fun row => !f row) == []) = wl.all f := by
  rw [Bool.eq_iff_iff, beq_iff_eq, List.filter_eq_nil_iff, List.all_eq_true]
  constructor
  · intro h r hr
    have := h r hr
    simpa using this
  · intro h r hr
    simp [h r hr]
theorem period_of_ok {wl : List (List Nat)} {R n p : Nat} (g : Good wl R n) (hp : PerP wl n p) (m) : den_period_of [WD wl] m = .ok (.int p) m := by
  refine fn_ok rfl ?_
  obtain ⟨row0, h1, h2⟩ := g.first
  have hc1 := g.c1
  have hc24 := g.c24
  unfold body_period_of
  simp only [vA, ru_seq, Nat.reduceAdd, Nat.reduceSub, Nat.reduceLeDiff, reduceCtorEq, String.reduceEq, Int.reduceBEq, Int.reduceLT, Int.reduceLE, Int.reduceAdd, Int.reduceSub, Int.reduceMul, Int.reduceNeg, Nat.reduceBEq, Slot.shut, List.replicate, implies_true, h1, h2, rng_1n n (by omega)]
  have p1 := hp.p1
  have pn := hp.pn
  refine ru_forI (fun i s => ∃ c2 c3 : Slot, s = ⟨[.val (WD wl), .val (.int n), c2, c3], m⟩ ∧ c3.isOwn = false ∧ i < p) ⟨.un, .un, rfl, rfl, by omega⟩ (fun i d s hi hI => ?_) (fun s hI => ?_)
  · obtain ⟨c2, c3, rfl, ho, hip⟩ := hI
    obtain ⟨hin, rfl⟩ := rngL_get hi
    have ei : (1 : Int) + (i : Nat) = ((i + 1 : Nat) : Int) := by omega
    have hrest := rest_ok (n : Int) (i + 1) (by omega) (by omega)
    rw [ei]
    have h1n : ((n : Int) % ((i + 1 : Nat) : Int) == 0) = decide (n % (i + 1) = 0) := by
      rw [Bool.eq_iff_iff, beq_iff_eq, decide_eq_true_iff]; omega
    have hf : fdivD (.int (n : Int)) (.int ((i + 1 : Nat) : Int)) = some (.int ((n / (i + 1) : Nat) : Int)) := by
      rw [fdivD_ii (by omega) (by omega)]; simp
    simp only [vA, ru_seq, Nat.reduceAdd, Nat.reduceSub, Nat.reduceLeDiff, reduceCtorEq, String.reduceEq, Int.reduceBEq, Int.reduceLT, Int.reduceLE, Int.reduceAdd, Int.reduceSub, Int.reduceMul, Int.reduceNeg, Nat.reduceBEq, Slot.shut, List.replicate, implies_true, hrest, h1n]
    have key : perB wl n (i + 1) = (decide (n % (i + 1) = 0) && wl.all fun row => row == rep (n / (i + 1)) (row.take (i + 1))) := rfl
    have step : ∀ b, perB wl n (i + 1) = b → (b = true → i + 1 = p) ∧ (b = false → i + 1 < p) := fun b hb => by
      subst hb
      constructor
      · intro hb
        rcases Nat.lt_or_ge (i + 1) p with h | h
        · rw [hp.mb (i + 1) (by omega) h] at hb; cases hb
        · omega
      · intro hb
        rcases Nat.lt_or_ge (i + 1) p with h | h
        · exact h
        · have : i + 1 = p := by omega
          rw [this, hp.b] at hb; cases hb
    by_cases hz : n % (i + 1) = 0
    · rw [if_pos (decide_eq_true hz)]
      refine ⟨by simp [anyOwn, ho], by have := g.r8; have := g.len; omega, ?_⟩
      refine ru_lcB (α := List Nat) (xs := wl) (h := txt) (k := txt) (p := fun row => !(row == rep (n / (i + 1)) (row.take (i + 1)))) (fun row hr => ?_) ?_
      · have hl := g.row row hr
        have hq : n / (i + 1) ≤ n := Nat.div_le_self _ _
        simp only [vA, ru_seq, Nat.reduceAdd, Nat.reduceSub, Nat.reduceLeDiff, reduceCtorEq, String.reduceEq, Int.reduceBEq, Int.reduceLT, Int.reduceLE, Int.reduceAdd, Int.reduceSub, Int.reduceMul, Int.reduceNeg, Nat.reduceBEq, Slot.shut, List.replicate, implies_true, slD_take (l := row) (k := ((i + 1 : Nat) : Int)) (by omega) (by omega), hf, mulD_t (l := row.take (i + 1)) (k := ((n / (i + 1) : Nat) : Int)) (Int.natCast_nonneg _) (Int.le_trans (Int.ofNat_le.mpr hq) (by omega)) (by rw [List.length_take]; omega), Int.toNat_natCast]
        rfl
      · have he : eqD _ (.lst []) = _ := eqD_W (wl.filter fun row => !(row == rep (n / (i + 1)) (row.take (i + 1)))) []
        rw [all_nil (f := fun row => row == rep (n / (i + 1)) (row.take (i + 1)))] at he
        rw [decide_eq_true hz, Bool.true_and] at key
        rw [← key] at he
        simp only [vA, ru_seq, Nat.reduceAdd, Nat.reduceSub, Nat.reduceLeDiff, reduceCtorEq, String.reduceEq, Int.reduceBEq, Int.reduceLT, Int.reduceLE, Int.reduceAdd, Int.reduceSub, Int.reduceMul, Int.reduceNeg, Nat.reduceBEq, Slot.shut, List.replicate, implies_true, he, show ([] : List D).length ≤ 1000 by simp]
        cases hb : perB wl n (i + 1) with
        | true =>
          have := (step _ hb).1 rfl
          rw [if_pos rfl, this]
        | false =>
          have := (step _ hb).2 rfl
          rw [if_neg (by decide)]
          exact ⟨_, _, rfl, ho, this⟩
    · rw [if_neg (by simpa using hz)]
      rw [decide_eq_false hz, Bool.false_and] at key
      exact ⟨_, _, rfl, ho, (step _ key).2 rfl⟩
  · obtain ⟨c2, c3, rfl, ho, hip⟩ := hI
    rw [rngL_length] at hip
    omega
theorem head_filter {f : Nat → Bool} : ∀ (n p : Nat), p < n → f p = true → (∀ r, r < p → f r = false) → ((List.range n).filter f)[0]? = some p := by
  intro n p hpn hp hr
  have e : List.range n = List.range p ++ (List.range (n - p)).map (p + ·) := by
    rw [← List.range_add, Nat.add_sub_cancel' (by omega)]
  rw [e, List.filter_append]
  have e1 : (List.range p).filter f = [] := by
    rw [List.filter_eq_nil_iff]
    intro r hr2
    rw [hr r (List.mem_range.mp hr2)]
    decide
  obtain ⟨k, hk⟩ : ∃ k, n - p = k + 1 := ⟨n - p - 1, by omega⟩
  rw [e1, List.nil_append, hk, List.range_succ_eq_map, List.map_cons, Nat.add_zero, List.filter_cons_of_pos hp]
  rfl
theorem law_period_ok {wl : List (List Nat)} {R n p : Nat} (g : Good wl R n) (hp : PerP wl n p) (m) : den__law_period [WD wl] m = .ok (.int p) m := by
  refine fn_ok rfl ?_
  obtain ⟨row0, h1, h2⟩ := g.first
  have hc1 := g.c1
  have hc24 := g.c24
  have p1 := hp.p1
  have pn := hp.pn
  unfold body__law_period
  simp only [vA, ru_seq, Nat.reduceAdd, Nat.reduceSub, Nat.reduceLeDiff, reduceCtorEq, String.reduceEq, Int.reduceBEq, Int.reduceLT, Int.reduceLE, Int.reduceAdd, Int.reduceSub, Int.reduceMul, Int.reduceNeg, Nat.reduceBEq, Slot.shut, List.replicate, implies_true, h1, h2, rng_1n n (by omega), rngL_length]
  refine ⟨by simp [anyOwn, Slot.isOwn], by omega, ?_⟩
  rw [rngL_map]
  refine ru_lcB (α := Nat) (xs := List.range n) (h := fun i => .int (1 + (i : Nat))) (k := fun i => .int (1 + (i : Nat))) (p := fun i => perL wl (i + 1)) (fun i hi => ?_) ?_
  · have hi := List.mem_range.mp hi
    have ei : (1 : Int) + (i : Nat) = ((i + 1 : Nat) : Int) := by omega
    rw [ei]
    simp only [vA, ru_seq, Nat.reduceAdd, Nat.reduceSub, Nat.reduceLeDiff, reduceCtorEq, String.reduceEq, Int.reduceBEq, Int.reduceLT, Int.reduceLE, Int.reduceAdd, Int.reduceSub, Int.reduceMul, Int.reduceNeg, Nat.reduceBEq, Slot.shut, List.replicate, implies_true]
    refine ⟨by simp [anyOwn, Slot.isOwn], by have := g.r8; have := g.len; omega, ?_⟩
    refine ru_lcB (α := List Nat) (xs := wl) (h := txt) (k := txt) (p := fun row => !(row == row.drop (i + 1) ++ row.take (i + 1))) (fun row hr => ?_) ?_
    · have hl := g.row row hr
      simp only [vA, ru_seq, Nat.reduceAdd, Nat.reduceSub, Nat.reduceLeDiff, reduceCtorEq, String.reduceEq, Int.reduceBEq, Int.reduceLT, Int.reduceLE, Int.reduceAdd, Int.reduceSub, Int.reduceMul, Int.reduceNeg, Nat.reduceBEq, Slot.shut, List.replicate, implies_true, slD_take (l := row) (k := ((i + 1 : Nat) : Int)) (by omega) (by omega), slD_drop (l := row) (k := ((i + 1 : Nat) : Int)) (by omega) (by omega), Int.toNat_natCast, addD_tt (a := row.drop (i + 1)) (b := row.take (i + 1)) (by simp; omega)]
    · simp only [vA, ru_seq, Nat.reduceAdd, Nat.reduceSub, Nat.reduceLeDiff, reduceCtorEq, String.reduceEq, Int.reduceBEq, Int.reduceLT, Int.reduceLE, Int.reduceAdd, Int.reduceSub, Int.reduceMul, Int.reduceNeg, Nat.reduceBEq, Slot.shut, List.replicate, implies_true]
      have := all_nil (wl := wl) (f := fun row => row == row.drop (i + 1) ++ row.take (i + 1))
      show _ = (wl.all fun row => row == row.drop (i + 1) ++ row.take (i + 1))
      rw [← this, Bool.eq_iff_iff, beq_iff_eq, beq_iff_eq]
      constructor
      · intro h; exact List.eq_nil_of_length_eq_zero (by omega)
      · intro h; rw [h]; rfl
  · have hh : ixD (.lst (((List.range n).filter fun i => perL wl (i + 1)).map fun i => D.int (1 + (i : Nat)))) (.int 0) = some (.int (1 + ((p - 1 : Nat) : Int))) :=
      ixD_li (i := 0) (by
        rw [List.getElem?_map, head_filter n (p - 1) (by omega) (by rw [Nat.sub_add_cancel p1]; exact hp.l) (fun r hr => hp.ml _ (by omega) (by omega))]
        rfl)
    have e : (1 : Int) + ((p - 1 : Nat) : Int) = p := by omega
    rw [e] at hh
    simp only [vA, ru_seq, Nat.reduceAdd, Nat.reduceSub, Nat.reduceLeDiff, reduceCtorEq, String.reduceEq, Int.reduceBEq, Int.reduceLT, Int.reduceLE, Int.reduceAdd, Int.reduceSub, Int.reduceMul, Int.reduceNeg, Nat.reduceBEq, Slot.shut, List.replicate, implies_true, hh]
def least (wl : List (List Nat)) (p : Nat) : List (List Nat) := wl.map (·.take p)
theorem least_of_ok {wl : List (List Nat)} {R n p : Nat} (g : Good wl R n) (hp : PerP wl n p) (m) : den_least_of [WD wl] m = .ok (WD (least wl p)) m := by
  refine fn_ok rfl ?_
  have hc24 := g.c24
  simp only [vA, ru_seq, Nat.reduceAdd, Nat.reduceSub, Nat.reduceLeDiff, reduceCtorEq, String.reduceEq, Int.reduceBEq, Int.reduceLT, Int.reduceLE, Int.reduceAdd, Int.reduceSub, Int.reduceMul, Int.reduceNeg, Nat.reduceBEq, Slot.shut, List.replicate, implies_true, body_least_of, period_of_ok g hp]
  refine ⟨by simp [anyOwn, Slot.isOwn], by have := g.r8; have := g.len; omega, ?_⟩
  refine ru_lcM (α := List Nat) (xs := wl) (h := txt) (k := fun row => txt (row.take p)) (fun row hr => ?_) ?_
  · have hl := g.row row hr
    simp only [vA, ru_seq, Nat.reduceAdd, Nat.reduceSub, Nat.reduceLeDiff, reduceCtorEq, String.reduceEq, Int.reduceBEq, Int.reduceLT, Int.reduceLE, Int.reduceAdd, Int.reduceSub, Int.reduceMul, Int.reduceNeg, Nat.reduceBEq, Slot.shut, List.replicate, implies_true, slD_take (l := row) (k := (p : Int)) (by omega) (by omega), Int.toNat_natCast]
  · simp only [vA, ru_seq, Nat.reduceAdd, Nat.reduceSub, Nat.reduceLeDiff, reduceCtorEq, String.reduceEq, Int.reduceBEq, Int.reduceLT, Int.reduceLE, Int.reduceAdd, Int.reduceSub, Int.reduceMul, Int.reduceNeg, Nat.reduceBEq, Slot.shut, List.replicate, implies_true, least]
    exact congrArg (fun l => Out.rt (D.lst l)) (by rw [List.map_map]; rfl)
theorem law_least_ok {wl : List (List Nat)} {R n p : Nat} (g : Good wl R n) (hp : PerP wl n p) (m) : den__law_least [WD wl] m = .ok (WD (least wl p)) m := by
  refine fn_ok rfl ?_
  have hc24 := g.c24
  simp only [vA, ru_seq, Nat.reduceAdd, Nat.reduceSub, Nat.reduceLeDiff, reduceCtorEq, String.reduceEq, Int.reduceBEq, Int.reduceLT, Int.reduceLE, Int.reduceAdd, Int.reduceSub, Int.reduceMul, Int.reduceNeg, Nat.reduceBEq, Slot.shut, List.replicate, implies_true, body__law_least]
  refine ⟨by simp [anyOwn, Slot.isOwn], by have := g.r8; have := g.len; omega, ?_⟩
  refine ru_lcM (α := List Nat) (xs := wl) (h := txt) (k := fun row => txt (row.take p)) (fun row hr => ?_) ?_
  · have hl := g.row row hr
    simp only [vA, ru_seq, Nat.reduceAdd, Nat.reduceSub, Nat.reduceLeDiff, reduceCtorEq, String.reduceEq, Int.reduceBEq, Int.reduceLT, Int.reduceLE, Int.reduceAdd, Int.reduceSub, Int.reduceMul, Int.reduceNeg, Nat.reduceBEq, Slot.shut, List.replicate, implies_true, law_period_ok g hp, slD_take (l := row) (k := (p : Int)) (by omega) (by omega), Int.toNat_natCast]
  · simp only [vA, ru_seq, Nat.reduceAdd, Nat.reduceSub, Nat.reduceLeDiff, reduceCtorEq, String.reduceEq, Int.reduceBEq, Int.reduceLT, Int.reduceLE, Int.reduceAdd, Int.reduceSub, Int.reduceMul, Int.reduceNeg, Nat.reduceBEq, Slot.shut, List.replicate, implies_true, least]
    exact congrArg (fun l => Out.rt (D.lst l)) (by rw [List.map_map]; rfl)
theorem least_good {wl : List (List Nat)} {R n p : Nat} (g : Good wl R n) (hp : PerP wl n p) : Good (least wl p) R p := by
  have p1 := hp.p1
  have pn := hp.pn
  have hc24 := g.c24
  refine ⟨by unfold least; rw [List.length_map, g.len], fun row hr => ?_, fun row hr k hk => ?_, g.r1, g.r8, p1, by omega⟩
  · obtain ⟨r, h, rfl⟩ := List.mem_map.mp hr
    rw [List.length_take, g.row r h]; omega
  · obtain ⟨r, h, rfl⟩ := List.mem_map.mp hr
    exact g.sg r h k (List.mem_of_mem_take hk)
end K07
namespace K07
open Vl
/-! ### motions -/
def kd : Bool → Bool → D
  | true, true => .str "turned"
  | true, false => .str "glided"
  | false, true => .str "mirrored"
  | false, false => .str "moved"
abbrev mot (e b : Bool) (k : Int) : D := .tup [kd e b, .int k]
@[simp] theorem look_kd {s : DS} {e b : Bool} : lookD s (kd e b) = kd e b := by cases e <;> cases b <;> rfl
theorem ex_ok (e b : Bool) (m) : den_exchanges_rows [kd e b] m = .ok (.bl e) m := by
  refine fn_ok rfl ?_
  have h : inD (kd e b) (.tup [.str "glided", .str "turned"]) = some (.bl e) := by cases e <;> cases b <;> rfl
  simp only [vA, ru_seq, Nat.reduceAdd, Nat.reduceSub, Nat.reduceLeDiff, reduceCtorEq, String.reduceEq, Int.reduceBEq, Int.reduceLT, Int.reduceLE, Int.reduceAdd, Int.reduceSub, Int.reduceMul, Int.reduceNeg, Nat.reduceBEq, Slot.shut, List.replicate, implies_true, body_exchanges_rows, h]
theorem rb_ok (e b : Bool) (m) : den_runs_back [kd e b] m = .ok (.bl b) m := by
  refine fn_ok rfl ?_
  have h : inD (kd e b) (.tup [.str "mirrored", .str "turned"]) = some (.bl b) := by cases e <;> cases b <;> rfl
  simp only [vA, ru_seq, Nat.reduceAdd, Nat.reduceSub, Nat.reduceLeDiff, reduceCtorEq, String.reduceEq, Int.reduceBEq, Int.reduceLT, Int.reduceLE, Int.reduceAdd, Int.reduceSub, Int.reduceMul, Int.reduceNeg, Nat.reduceBEq, Slot.shut, List.replicate, implies_true, body_runs_back, h]
theorem isi_kd (e b : Bool) : isiD "str" (kd e b) = some (.bl true) := by cases e <;> cases b <;> exact isi_str_str
theorem in_kinds (e b : Bool) : inD (kd e b) c_KINDS = some (.bl true) := by cases e <;> cases b <;> rfl
@[simp] theorem ix_p0 {a b : D} : ixD (.tup [a, b]) (.int 0) = some a := rfl
@[simp] theorem ix_p1 {a b : D} : ixD (.tup [a, b]) (.int 1) = some b := rfl
def bk (b : Bool) (k : Int) : Int := if b then k else -k
theorem back_ok (e b : Bool) (k : Int) (m) : den_back_of [mot e b k] m = .ok (mot e b (bk b k)) m := by
  refine fn_ok rfl ?_
  cases b <;> simp only [vA, ru_seq, Nat.reduceAdd, Nat.reduceSub, Nat.reduceLeDiff, reduceCtorEq, String.reduceEq, Int.reduceBEq, Int.reduceLT, Int.reduceLE, Int.reduceAdd, Int.reduceSub, Int.reduceMul, Int.reduceNeg, Nat.reduceBEq, Slot.shut, List.replicate, implies_true, body_back_of, rb_ok, bk]
def srcI (e : Bool) (R r : Int) : Int := if e then R - 1 - r else r
def colI (b : Bool) (k c : Int) : Int := if b then k - c else c + k
theorem goes_ok (e b : Bool) (k r c R : Int) (m) : den_goes_to [mot e b k, .tup [.int r, .int c], .int R] m = .ok (.tup [.int (srcI e R r), .int (colI b k c)]) m := by
  refine fn_ok rfl ?_
  cases e <;> cases b <;> simp only [vA, ru_seq, Nat.reduceAdd, Nat.reduceSub, Nat.reduceLeDiff, reduceCtorEq, String.reduceEq, Int.reduceBEq, Int.reduceLT, Int.reduceLE, Int.reduceAdd, Int.reduceSub, Int.reduceMul, Int.reduceNeg, Nat.reduceBEq, Slot.shut, List.replicate, implies_true, body_goes_to, ex_ok, rb_ok, srcI, colI]
def mk (R C : Nat) (f : Nat → Nat → Nat) : List (List Nat) := (List.range R).map fun r => (List.range C).map (f r)
def src (e : Bool) (R r : Nat) : Nat := if e then R - 1 - r else r
theorem src_lt {e : Bool} {R r : Nat} (h : r < R) : src e R r < R := by unfold src; split <;> omega
theorem src_src {e : Bool} {R r : Nat} (h : r < R) : src e R (src e R r) = r := by unfold src; split <;> omega
theorem srcI_src {e : Bool} {R r : Nat} (h : r < R) : srcI e R r = (src e R r : Int) := by
  unfold srcI src
  cases e
  · rfl
  · simp only [if_true]; omega
/-- what a motion makes of a piece -/
def ledW (wl : List (List Nat)) (R n : Nat) (e b : Bool) (k : Int) : List (List Nat) := mk R n fun r c => pw wl n (src e R r) (colI b (bk b k) c)
theorem mk_congr {R C : Nat} {f f' : Nat → Nat → Nat} (h : ∀ i j, i < R → j < C → f i j = f' i j) : mk R C f = mk R C f' := by
  unfold mk
  refine List.map_congr_left fun i hi => List.map_congr_left fun j hj => h i j (List.mem_range.mp hi) (List.mem_range.mp hj)
theorem led_by_ok {wl : List (List Nat)} {R n : Nat} (g : Good wl R n) (e b : Bool) (k : Int) (m) : den_led_by [WD wl, mot e b k] m = .ok (WD (ledW wl R n e b k)) m := by
  refine fn_ok rfl ?_
  obtain ⟨row0, h1, h2⟩ := g.first
  have hR2 : ((wl.length : Nat) : Int) = (R : Int) := by rw [g.len]
  have hc1 := g.c1
  have hc24 := g.c24
  have hr8 := g.r8
  unfold body_led_by
  simp only [vA, ru_seq, Nat.reduceAdd, Nat.reduceSub, Nat.reduceLeDiff, reduceCtorEq, String.reduceEq, Int.reduceBEq, Int.reduceLT, Int.reduceLE, Int.reduceAdd, Int.reduceSub, Int.reduceMul, Int.reduceNeg, Nat.reduceBEq, Slot.shut, List.replicate, implies_true, back_ok, h1, h2, hR2, ru_par]
  refine ⟨_, _, rfl, ?_⟩
  simp only [vA, ru_seq, Nat.reduceAdd, Nat.reduceSub, Nat.reduceLeDiff, reduceCtorEq, String.reduceEq, Int.reduceBEq, Int.reduceLT, Int.reduceLE, Int.reduceAdd, Int.reduceSub, Int.reduceMul, Int.reduceNeg, Nat.reduceBEq, Slot.shut, List.replicate, implies_true, rng1_int (show (-(2 ^ 62) : Int) ≤ (R : Int) by omega) (show (R : Int) < 2 ^ 62 by omega), Int.toNat_natCast]
  generalize hf : (fun r c : Nat => pw wl n (src e R r) (colI b (bk b k) c)) = f
  have eW : ledW wl R n e b k = mk R n f := by rw [← hf]; rfl
  rw [eW]
  refine ru_forI (fun i s => ∃ c7 c8 c9 c10 : Slot, s = ⟨[.val (WD wl), .val (mot e b k), .val (kd e b), .val (.int (bk b k)), .val (.int R), .val (.int n), .own ((mk i n f).map txt), c7, c8, c9, c10], m⟩) ⟨_, _, _, _, rfl⟩ (fun i d s hi hI => ?_) (fun s hI => ?_)
  · obtain ⟨c7, c8, c9, c10, rfl⟩ := hI
    have hi2 := (rngL_get hi).1
    have hd2 := (rngL_get hi).2
    subst hd2
    have e0 : D.str "" = txt [] := rfl
    simp only [vA, ru_seq, Nat.reduceAdd, Nat.reduceSub, Nat.reduceLeDiff, reduceCtorEq, String.reduceEq, Int.reduceBEq, Int.reduceLT, Int.reduceLE, Int.reduceAdd, Int.reduceSub, Int.reduceMul, Int.reduceNeg, Nat.reduceBEq, Slot.shut, List.replicate, implies_true, rng1_int (show (-(2 ^ 62) : Int) ≤ (n : Int) by omega) (show (n : Int) < 2 ^ 62 by omega), Int.toNat_natCast, e0]
    refine ru_forI (fun j s => ∃ c9 c10 : Slot, s = ⟨[.val (WD wl), .val (mot e b k), .val (kd e b), .val (.int (bk b k)), .val (.int R), .val (.int n), .own ((mk i n f).map txt), .val (.int i), .val (txt ((List.range j).map (f i))), c9, c10], m⟩) ⟨_, _, rfl⟩ (fun j d s hj hJ => ?_) (fun s hJ => ?_)
    · obtain ⟨c9, c10, rfl⟩ := hJ
      obtain ⟨hj2, rfl⟩ := rngL_get hj
      have ea : addD (txt ((List.range j).map (f i))) (txt [f i j]) = some (txt ((List.range (j + 1)).map (f i))) := by
        rw [addD_tt (by simp; omega), List.range_succ, List.map_append]
        rfl
      obtain ⟨row, k1, k2⟩ := g.cell (colI b (bk b k) j) (src_lt (e := e) hi2)
      have ef : pw wl n (src e R i) (colI b (bk b k) j) = f i j := by rw [← hf]
      rw [ef] at k2
      simp only [vA, ru_seq, Nat.reduceAdd, Nat.reduceSub, Nat.reduceLeDiff, reduceCtorEq, String.reduceEq, Int.reduceBEq, Int.reduceLT, Int.reduceLE, Int.reduceAdd, Int.reduceSub, Int.reduceMul, Int.reduceNeg, Nat.reduceBEq, Slot.shut, List.replicate, implies_true, goes_ok, srcI_src hi2, ix_p0, ix_p1, k1, rest_ok _ n hc1 (by omega), k2, ea]
      exact ⟨_, _, rfl⟩
    · obtain ⟨c9, c10, rfl⟩ := hJ
      simp only [vA, ru_seq, Nat.reduceAdd, Nat.reduceSub, Nat.reduceLeDiff, reduceCtorEq, String.reduceEq, Int.reduceBEq, Int.reduceLT, Int.reduceLE, Int.reduceAdd, Int.reduceSub, Int.reduceMul, Int.reduceNeg, Nat.reduceBEq, Slot.shut, List.replicate, implies_true]
      refine P.ru_app (xs := (mk i n f).map txt) rfl (by simp [mk]; omega) ?_
      have e : (mk (i + 1) n f).map txt = (mk i n f).map txt ++ [txt ((List.range (rngL 0 n).length).map (f i))] := by
        unfold mk
        rw [List.range_succ, List.map_append, List.map_append]
        simp
      simp only [vA, ru_seq, Nat.reduceAdd, Nat.reduceSub, Nat.reduceLeDiff, reduceCtorEq, String.reduceEq, Int.reduceBEq, Int.reduceLT, Int.reduceLE, Int.reduceAdd, Int.reduceSub, Int.reduceMul, Int.reduceNeg, Nat.reduceBEq, Slot.shut, List.replicate, implies_true, ← e]
      exact ⟨_, _, _, _, rfl⟩
  · obtain ⟨c7, c8, c9, c10, rfl⟩ := hI
    simp only [vA, ru_seq, Nat.reduceAdd, Nat.reduceSub, Nat.reduceLeDiff, reduceCtorEq, String.reduceEq, Int.reduceBEq, Int.reduceLT, Int.reduceLE, Int.reduceAdd, Int.reduceSub, Int.reduceMul, Int.reduceNeg, Nat.reduceBEq, Slot.shut, List.replicate, implies_true, rngL_length]
/-! the law's own way: the sign of each cell goes to another one -/
/-- rows that are shared, with a sign in each cell -/
def gm (G : List (List Nat)) : List MO := G.map fun row => MO.lst (row.map fun k => txt [k])
theorem mk_get {R C : Nat} {f : Nat → Nat → Nat} {i : Nat} (h : i < R) : (mk R C f)[i]? = some ((List.range C).map (f i)) := by
  unfold mk
  rw [List.getElem?_map, List.getElem?_range h]
  rfl
def upd2 (f : Nat → Nat → Nat) (i j v : Nat) : Nat → Nat → Nat := fun a b => if a = i ∧ b = j then v else f a b
theorem gm_set {R C : Nat} {f : Nat → Nat → Nat} {i j v : Nat} (hi : i < R) (hj : j < C) : (gm (mk R C f)).set i (.lst ((((List.range C).map (f i)).map fun k => txt [k]).set j (txt [v]))) = gm (mk R C (upd2 f i j v)) := by
  unfold gm
  refine List.ext_getElem? fun a => ?_
  by_cases ha : i = a
  · subst ha
    rw [List.getElem?_set_self (by simp [mk]; exact hi), List.getElem?_map, mk_get hi]
    simp only [Option.map_some, Option.some.injEq, MO.lst.injEq]
    refine List.ext_getElem? fun c => ?_
    by_cases hc : j = c
    · subst hc
      rw [List.getElem?_set_self (by simp; exact hj), List.getElem?_map, List.getElem?_map, List.getElem?_range hj]
      simp [upd2]
    · rw [List.getElem?_set_ne hc, List.getElem?_map, List.getElem?_map, List.getElem?_map, List.getElem?_map]
      by_cases hcC : c < C
      · rw [List.getElem?_range hcC]
        have : ¬ c = j := fun z => hc z.symm
        simp [upd2, this]
      · rw [List.getElem?_eq_none (by simp; omega)]
        rfl
  · rw [List.getElem?_set_ne ha, List.getElem?_map, List.getElem?_map]
    by_cases haR : a < R
    · rw [mk_get haR, mk_get haR]
      have : ∀ b, ¬ (a = i ∧ b = j) := fun b z => ha z.1.symm
      have e : upd2 f i j v a = f a := by
        funext b
        unfold upd2
        rw [if_neg (this b)]
      rw [e]
    · rw [List.getElem?_eq_none (by simp [mk]; omega), List.getElem?_eq_none (by simp [mk]; omega)]
theorem emod_solve {x q n c : Int} (hn : 0 < n) (h : (x - q) % n = c) (h0 : 0 ≤ q) (h1 : q < n) : (x - c) % n = q := by
  have h2 := Int.emod_add_mul_ediv (x - q) n
  rw [h] at h2
  have : x - c = q + n * ((x - q) / n) := by omega
  rw [this, Int.add_mul_emod_self_left, Int.emod_eq_of_lt h0 h1]
theorem emod_solve2 {j k n c : Int} (hn : 0 < n) (h : (j - k) % n = c) (h0 : 0 ≤ j) (h1 : j < n) : (c + k) % n = j := by
  have h2 := Int.emod_add_mul_ediv (j - k) n
  rw [h] at h2
  have : c + k = j + n * (-((j - k) / n)) := by rw [Int.mul_neg]; omega
  rw [this, Int.add_mul_emod_self_left, Int.emod_eq_of_lt h0 h1]
theorem emod_solve3 {j k n c : Int} (hn : 0 < n) (h : (c + k) % n = j) (h0 : 0 ≤ c) (h1 : c < n) : (j - k) % n = c := by
  have h2 := Int.emod_add_mul_ediv (c + k) n
  rw [h] at h2
  have : j - k = c + n * (-((c + k) / n)) := by rw [Int.mul_neg]; omega
  rw [this, Int.add_mul_emod_self_left, Int.emod_eq_of_lt h0 h1]
/-- where a column comes from, and goes to -/
theorem col_iff {b : Bool} {k : Int} {n j c : Nat} (hj : j < n) (hc : c < n) : (colI b (bk b k) j % n).toNat = c ↔ (colI b k c % n).toNat = j := by
  have hn : (0 : Int) < n := by omega
  have b1 : ∀ x : Int, 0 ≤ x % (n : Int) := fun x => Int.emod_nonneg _ (by omega)
  have e : ∀ (x : Int) (d : Nat), (x % (n : Int)).toNat = d ↔ x % (n : Int) = d := fun x d => by have := b1 x; omega
  rw [e, e]
  unfold colI bk
  cases b
  · simp only [Bool.false_eq_true, if_false]
    constructor
    · intro h; exact emod_solve2 hn (by rw [Int.sub_eq_add_neg]; exact h) (by omega) (by omega)
    · intro h
      have := emod_solve3 hn h (by omega) (by omega)
      rw [Int.sub_eq_add_neg] at this
      exact this
  · simp only [if_true]
    constructor
    · intro h; exact emod_solve hn h (by omega) (by omega)
    · intro h; exact emod_solve hn h (by omega) (by omega)
end K07
namespace K07
open Vl
theorem lk_mut {m : List MO} {G : List (List Nat)} {env : List Slot} {i : Nat} {row : List Nat} (h : G[i]? = some row) : lookD ⟨env, m ++ gm G⟩ (.mut (m.length + i)) = .lst (row.map fun k => txt [k]) := by
  have e : (m ++ gm G)[m.length + i]? = some (.lst (row.map fun k => txt [k])) := by
    rw [List.getElem?_append_right (by omega), Nat.add_sub_cancel_left]
    unfold gm
    rw [List.getElem?_map, h]
    rfl
  unfold lookD
  dsimp only
  rw [e]
  rfl
theorem set_app {α : Type} {m : List α} {l : List α} {i : Nat} {x : α} : (m ++ l).set (m.length + i) x = m ++ l.set i x := by
  rw [List.set_append, if_neg (by omega), Nat.add_sub_cancel_left]
/-- which cells are written when row r, column c is on -/
def wr (e b : Bool) (k : Int) (R n r c i j : Nat) : Bool := decide (src e R i < r ∨ src e R i = r ∧ (colI b (bk b k) j % n).toNat < c)
def fW (wl : List (List Nat)) (R n : Nat) (e b : Bool) (k : Int) (r c : Nat) : Nat → Nat → Nat := fun i j => if wr e b k R n r c i j = true then pw wl n (src e R i) (colI b (bk b k) j) else 46
theorem fW_next {wl : List (List Nat)} {R n : Nat} {e b : Bool} {k : Int} {r c : Nat} (hr : r < R) (hc : c < n) : mk R n (upd2 (fW wl R n e b k r c) (src e R r) (colI b k c % n).toNat (cw wl r c)) = mk R n (fW wl R n e b k r (c + 1)) := by
  refine mk_congr fun i j hi hj => ?_
  have hs : src e R i = r ↔ i = src e R r := ⟨fun h => by rw [← h, src_src hi], fun h => by rw [h, src_src hr]⟩
  have hcol := col_iff (b := b) (k := k) hj hc
  unfold upd2
  by_cases hz : i = src e R r ∧ j = (colI b k c % n).toNat
  · rw [if_pos hz]
    have h1 := hs.mpr hz.1
    have h2 := hcol.mpr hz.2.symm
    unfold fW wr
    rw [if_pos (decide_eq_true (.inr ⟨h1, by omega⟩))]
    unfold pw
    rw [h1, h2]
  · rw [if_neg hz]
    unfold fW
    have : wr e b k R n r (c + 1) i j = wr e b k R n r c i j := by
      unfold wr
      rw [decide_eq_decide]
      constructor
      · rintro (h | ⟨h, h2⟩)
        · exact .inl h
        · refine .inr ⟨h, ?_⟩
          rcases Nat.lt_or_ge ((colI b (bk b k) j % n).toNat) c with h3 | h3
          · exact h3
          · exact absurd ⟨hs.mp h, (hcol.mp (by omega)).symm⟩ hz
      · rintro (h | ⟨h, h2⟩)
        · exact .inl h
        · exact .inr ⟨h, by omega⟩
    rw [this]
theorem fW_row {wl : List (List Nat)} {R n : Nat} {e b : Bool} {k : Int} {r : Nat} (hn : 1 ≤ n) : mk R n (fW wl R n e b k r n) = mk R n (fW wl R n e b k (r + 1) 0) := by
  refine mk_congr fun i j hi hj => ?_
  unfold fW
  have : wr e b k R n r n i j = wr e b k R n (r + 1) 0 i j := by
    unfold wr
    rw [decide_eq_decide]
    have h1 : (colI b (bk b k) j % n).toNat < n := by
      have := Int.emod_lt_of_pos (colI b (bk b k) j) (show (0 : Int) < n by omega)
      have := Int.emod_nonneg (colI b (bk b k) j) (show (n : Int) ≠ 0 by omega)
      omega
    omega
  rw [this]
theorem fW_zero {wl : List (List Nat)} {R n : Nat} {e b : Bool} {k : Int} : mk R n (fW wl R n e b k 0 0) = mk R n fun _ _ => 46 := by
  refine mk_congr fun i j hi hj => ?_
  unfold fW wr
  rw [if_neg (by simp)]
theorem fW_all {wl : List (List Nat)} {R n : Nat} {e b : Bool} {k : Int} : mk R n (fW wl R n e b k R 0) = ledW wl R n e b k := by
  refine mk_congr fun i j hi hj => ?_
  unfold fW wr
  rw [if_pos (decide_eq_true (.inl (src_lt hi)))]
theorem law_led_ok {wl : List (List Nat)} {R n : Nat} (g : Good wl R n) (e b : Bool) (k : Int) (m) : ∃ ex, den__law_led [WD wl, kd e b, .int k] m = .ok (WD (ledW wl R n e b k)) (m ++ ex) := by
  refine ⟨gm (ledW wl R n e b k), fn_ok rfl ?_⟩
  obtain ⟨row0, h1, h2⟩ := g.first
  have hR2 : ((wl.length : Nat) : Int) = (R : Int) := by rw [g.len]
  have hc1 := g.c1
  have hc24 := g.c24
  have hr8 := g.r8
  have rR := rng1_int (show (-(2 ^ 62) : Int) ≤ (R : Int) by omega) (show (R : Int) < 2 ^ 62 by omega)
  have rn := rng1_int (show (-(2 ^ 62) : Int) ≤ (n : Int) by omega) (show (n : Int) < 2 ^ 62 by omega)
  have e0 : D.str "." = txt [46] := rfl
  have ee : D.str "" = txt [] := rfl
  have in1 : inD (kd e b) (.tup [.str "moved", .str "mirrored"]) = some (.bl (!e)) := by cases e <;> cases b <;> rfl
  have in2 : inD (kd e b) (.tup [.str "moved", .str "glided"]) = some (.bl (!b)) := by cases e <;> cases b <;> rfl
  unfold body__law_led
  simp only [vA, ru_seq, Nat.reduceAdd, Nat.reduceSub, Nat.reduceLeDiff, reduceCtorEq, String.reduceEq, Int.reduceBEq, Int.reduceLT, Int.reduceLE, Int.reduceAdd, Int.reduceSub, Int.reduceMul, Int.reduceNeg, Nat.reduceBEq, Slot.shut, List.replicate, implies_true, h1, h2, hR2, rR, Int.toNat_natCast, rngL_length]
  refine ⟨by simp [anyOwn, Slot.isOwn], by omega, ?_⟩
  rw [rngL_map]
  refine ru_lcI (fun i acc mem => acc = (List.range i).map (fun t => D.mut (m.length + t)) ∧ mem = m ++ gm (mk i n fun _ _ => 46)) ⟨rfl, by simp [gm, mk]⟩ (fun i d acc mem hi hh => ?_) (fun acc mem hh => ?_)
  · have ha := hh.1
    have hm := hh.2
    subst ha hm
    simp only [vA, ru_seq, Nat.reduceAdd, Nat.reduceSub, Nat.reduceLeDiff, reduceCtorEq, String.reduceEq, Int.reduceBEq, Int.reduceLT, Int.reduceLE, Int.reduceAdd, Int.reduceSub, Int.reduceMul, Int.reduceNeg, Nat.reduceBEq, Slot.shut, List.replicate, implies_true, e0, repF_li (xs := [txt [46]]) (k := (n : Int)) (by simp; omega), Int.toNat_natCast]
    refine ⟨?_, ?_⟩
    · rw [List.range_succ, List.map_append]
      simp [gm, mk]
    · unfold gm mk
      rw [List.range_succ, List.map_append, List.map_append, List.append_assoc]
      have e9 : List.replicate n (txt [46]) = ((List.range n).map fun _ => 46).map fun k => txt [k] := by
        rw [List.map_map]
        show _ = (List.range n).map fun _ => txt [46]
        rw [List.map_const', List.length_range]
      simp [e9]
  · have ha := hh.1
    have hm := hh.2
    subst ha hm
    rw [List.length_map, List.length_range]
    simp only [vA, ru_seq, Nat.reduceAdd, Nat.reduceSub, Nat.reduceLeDiff, reduceCtorEq, String.reduceEq, Int.reduceBEq, Int.reduceLT, Int.reduceLE, Int.reduceAdd, Int.reduceSub, Int.reduceMul, Int.reduceNeg, Nat.reduceBEq, Slot.shut, List.replicate, implies_true, rR, Int.toNat_natCast]
    refine ru_forI (fun r s => ∃ c6 c7 c8 c9 : Slot, s = ⟨[.val (WD wl), .val (kd e b), .val (.int k), .val (.int R), .val (.int n), .val (.lst ((List.range R).map fun t => D.mut (m.length + t))), c6, c7, c8, c9, .un], m ++ gm (mk R n (fW wl R n e b k r 0))⟩) ⟨_, _, _, _, by rw [fW_zero]⟩ (fun r d s hr hI => ?_) (fun s hI => ?_)
    · obtain ⟨c6, c7, c8, c9, rfl⟩ := hI
      have hr2 := (rngL_get hr).1
      have hd2 := (rngL_get hr).2
      subst hd2
      simp only [vA, ru_seq, Nat.reduceAdd, Nat.reduceSub, Nat.reduceLeDiff, reduceCtorEq, String.reduceEq, Int.reduceBEq, Int.reduceLT, Int.reduceLE, Int.reduceAdd, Int.reduceSub, Int.reduceMul, Int.reduceNeg, Nat.reduceBEq, Slot.shut, List.replicate, implies_true, rn, Int.toNat_natCast]
      refine ru_forI (fun c s => ∃ c7 c8 c9 : Slot, s = ⟨[.val (WD wl), .val (kd e b), .val (.int k), .val (.int R), .val (.int n), .val (.lst ((List.range R).map fun t => D.mut (m.length + t))), .val (.int r), c7, c8, c9, .un], m ++ gm (mk R n (fW wl R n e b k r c))⟩) ⟨_, _, _, rfl⟩ (fun c d s hc hJ => ?_) (fun s hJ => ?_)
      · obtain ⟨c7, c8, c9, rfl⟩ := hJ
        have hc2 := (rngL_get hc).1
        have hd3 := (rngL_get hc).2
        subst hd3
        obtain ⟨row, k1, k2, k3⟩ := g.at hr2 hc2
        have k4 := g.row row k2
        have e2 : ixD (txt row) (.int (c : Int)) = some (txt [cw wl r c]) := ixD_t (by omega) (by omega) (by rw [Int.toNat_natCast]; exact k3)
        have e3 : ixD (.lst ((List.range R).map fun t => D.mut (m.length + t))) (.int (src e R r : Int)) = some (.mut (m.length + src e R r)) := ixD_li (by rw [List.getElem?_map, List.getElem?_range (src_lt hr2)]; rfl)
        have hcol : (0 : Int) ≤ colI b k c % n ∧ colI b k c % n < n := ⟨Int.emod_nonneg _ (by omega), Int.emod_lt_of_pos _ (by omega)⟩
        have hcn : (colI b k c % n).toNat < n := by omega
        have hI1 : ∀ Q : D → DS → Prop, ∀ s : DS, s.env = [.val (WD wl), .val (kd e b), .val (.int k), .val (.int R), .val (.int n), .val (.lst ((List.range R).map fun t => D.mut (m.length + t))), .val (.int r), .val (.int c), c8, c9, .un] → Q (.int (src e R r)) s → ru NE (iteM (tstM (binM inD (varM 1) (lookM (tupM (consM (rtn (.str "moved")) (consM (rtn (.str "mirrored")) (rtn []))))))) (varM 6) (binM subD (binM subD (varM 3) (rtn (.int 1))) (varM 6))) s Q := fun Q s hs q => by
          obtain ⟨env, mem⟩ := s
          simp only at hs
          subst hs
          simp only [vA, ru_seq, Nat.reduceAdd, Nat.reduceSub, Nat.reduceLeDiff, reduceCtorEq, String.reduceEq, Int.reduceBEq, Int.reduceLT, Int.reduceLE, Int.reduceAdd, Int.reduceSub, Int.reduceMul, Int.reduceNeg, Nat.reduceBEq, Slot.shut, List.replicate, implies_true, in1]
          have := srcI_src (e := e) hr2
          unfold srcI at this
          cases e
          · simpa [src] using q
          · simp only [vA, ru_seq, Nat.reduceAdd, Nat.reduceSub, Nat.reduceLeDiff, reduceCtorEq, String.reduceEq, Int.reduceBEq, Int.reduceLT, Int.reduceLE, Int.reduceAdd, Int.reduceSub, Int.reduceMul, Int.reduceNeg, Nat.reduceBEq, Slot.shut, List.replicate, implies_true]
            simp only [if_true] at this
            rw [this]
            exact q
        simp only [Int.zero_add, ru_set, List.set_cons_succ, List.set_cons_zero, ru_seq, ru_asg]
        refine hI1 _ _ rfl ?_
        have hI2 : ∀ Q : D → DS → Prop, ∀ s : DS, s.env = [.val (WD wl), .val (kd e b), .val (.int k), .val (.int R), .val (.int n), .val (.lst ((List.range R).map fun t => D.mut (m.length + t))), .val (.int r), .val (.int c), .val (.int (src e R r)), c9, .un] → Q (.int (colI b k c)) s → ru NE (iteM (tstM (binM inD (varM 1) (lookM (tupM (consM (rtn (.str "moved")) (consM (rtn (.str "glided")) (rtn []))))))) (binM addD (varM 7) (varM 2)) (binM subD (varM 2) (varM 7))) s Q := fun Q s hs q => by
          obtain ⟨env, mem⟩ := s
          simp only at hs
          subst hs
          simp only [vA, ru_seq, Nat.reduceAdd, Nat.reduceSub, Nat.reduceLeDiff, reduceCtorEq, String.reduceEq, Int.reduceBEq, Int.reduceLT, Int.reduceLE, Int.reduceAdd, Int.reduceSub, Int.reduceMul, Int.reduceNeg, Nat.reduceBEq, Slot.shut, List.replicate, implies_true, in2]
          cases b
          · simp only [vA, ru_seq, Nat.reduceAdd, Nat.reduceSub, Nat.reduceLeDiff, reduceCtorEq, String.reduceEq, Int.reduceBEq, Int.reduceLT, Int.reduceLE, Int.reduceAdd, Int.reduceSub, Int.reduceMul, Int.reduceNeg, Nat.reduceBEq, Slot.shut, List.replicate, implies_true]
            exact q
          · simp only [vA, ru_seq, Nat.reduceAdd, Nat.reduceSub, Nat.reduceLeDiff, reduceCtorEq, String.reduceEq, Int.reduceBEq, Int.reduceLT, Int.reduceLE, Int.reduceAdd, Int.reduceSub, Int.reduceMul, Int.reduceNeg, Nat.reduceBEq, Slot.shut, List.replicate, implies_true]
            exact q
        simp only [Int.zero_add, ru_set, List.set_cons_succ, List.set_cons_zero, ru_seq, ru_asg]
        refine hI2 _ _ rfl ?_
        simp only [vA, ru_seq, Nat.reduceAdd, Nat.reduceSub, Nat.reduceLeDiff, reduceCtorEq, String.reduceEq, Int.reduceBEq, Int.reduceLT, Int.reduceLE, Int.reduceAdd, Int.reduceSub, Int.reduceMul, Int.reduceNeg, Nat.reduceBEq, Slot.shut, List.replicate, implies_true, ix_W k1, e2, e3, modD_ii (i := colI b k c) (show (0 : Int) < (n : Int) by omega)]
        refine ru_putN (xs := ((List.range n).map (fW wl R n e b k r c (src e R r))).map fun k => txt [k]) ?_ hcol.1 (by rw [List.length_map, List.length_map, List.length_range]; exact hcol.2) ?_
        · rw [List.getElem?_append_right (by omega), Nat.add_sub_cancel_left]
          unfold gm
          rw [List.getElem?_map, mk_get (src_lt hr2)]
          rfl
        · simp only [vA, ru_seq, Nat.reduceAdd, Nat.reduceSub, Nat.reduceLeDiff, reduceCtorEq, String.reduceEq, Int.reduceBEq, Int.reduceLT, Int.reduceLE, Int.reduceAdd, Int.reduceSub, Int.reduceMul, Int.reduceNeg, Nat.reduceBEq, Slot.shut, List.replicate, implies_true, set_app, gm_set (src_lt hr2) hcn, fW_next hr2 hc2]
          exact ⟨_, _, _, rfl⟩
      · obtain ⟨c7, c8, c9, rfl⟩ := hJ
        simp only [vA, ru_seq, Nat.reduceAdd, Nat.reduceSub, Nat.reduceLeDiff, reduceCtorEq, String.reduceEq, Int.reduceBEq, Int.reduceLT, Int.reduceLE, Int.reduceAdd, Int.reduceSub, Int.reduceMul, Int.reduceNeg, Nat.reduceBEq, Slot.shut, List.replicate, implies_true, rngL_length, fW_row hc1]
        exact ⟨_, _, _, _, rfl⟩
    · obtain ⟨c6, c7, c8, c9, rfl⟩ := hI
      simp only [vA, ru_seq, Nat.reduceAdd, Nat.reduceSub, Nat.reduceLeDiff, reduceCtorEq, String.reduceEq, Int.reduceBEq, Int.reduceLT, Int.reduceLE, Int.reduceAdd, Int.reduceSub, Int.reduceMul, Int.reduceNeg, Nat.reduceBEq, Slot.shut, List.replicate, implies_true, rngL_length, fW_all, List.length_range]
      refine ⟨by simp [anyOwn, Slot.isOwn], by omega, ?_⟩
      refine ru_lcM (α := Nat) (xs := List.range R) (h := fun t => D.mut (m.length + t)) (k := fun t => txt ((List.range n).map fun c : Nat => pw wl n (src e R t) (colI b (bk b k) c))) (fun t ht => ?_) ?_
      · have ht := List.mem_range.mp ht
        have hg : (ledW wl R n e b k)[t]? = some ((List.range n).map fun c : Nat => pw wl n (src e R t) (colI b (bk b k) c)) := mk_get ht
        simp only [vA, ru_seq, Nat.reduceAdd, Nat.reduceSub, Nat.reduceLeDiff, reduceCtorEq, String.reduceEq, Int.reduceBEq, Int.reduceLT, Int.reduceLE, Int.reduceAdd, Int.reduceSub, Int.reduceMul, Int.reduceNeg, Nat.reduceBEq, Slot.shut, List.replicate, implies_true, ee, lk_mut hg, join1 (l := (List.range n).map fun c : Nat => pw wl n (src e R t) (colI b (bk b k) c)) (by simp; omega)]
      · simp only [vA, ru_seq, Nat.reduceAdd, Nat.reduceSub, Nat.reduceLeDiff, reduceCtorEq, String.reduceEq, Int.reduceBEq, Int.reduceLT, Int.reduceLE, Int.reduceAdd, Int.reduceSub, Int.reduceMul, Int.reduceNeg, Nat.reduceBEq, Slot.shut, List.replicate, implies_true]
        exact congrArg (fun l => Out.rt (D.lst l)) (by unfold ledW mk; rw [List.map_map]; rfl)
end K07
namespace K07
open Vl
/-! ### what keeps a piece -/
def KL : List (Bool × Bool) := [(true, false), (false, true), (false, false), (true, true)]
abbrev mD (t : (Bool × Bool) × Nat) : D := mot t.1.1 t.1.2 t.2
def mm (n : Nat) (l : List (Bool × Bool)) : List ((Bool × Bool) × Nat) := l.flatMap fun p => (List.range n).map fun k => (p, k)
def mots (n : Nat) : List ((Bool × Bool) × Nat) := mm n KL
theorem mm_app {n : Nat} {l : List (Bool × Bool)} {p : Bool × Bool} : (mm n (l ++ [p])).map mD = (mm n l).map mD ++ (List.range n).map fun k => mD (p, k) := by
  unfold mm
  rw [List.flatMap_append, List.map_append]
  simp [List.flatMap_cons, Function.comp_def]
theorem mm_len {n : Nat} : ∀ {l : List (Bool × Bool)}, (mm n l).length = l.length * n
  | [] => by simp [mm]
  | a :: l => by
    have := mm_len (n := n) (l := l)
    unfold mm at this ⊢
    rw [List.flatMap_cons, List.length_append, List.length_map, List.length_range, this, List.length_cons, Nat.add_mul, Nat.one_mul, Nat.add_comm]
theorem motions_ok (n : Nat) (hn : n ≤ 24) (m) : den_motions_of [.int n] m = .ok (.lst ((mots n).map mD)) m := by
  refine fn_ok rfl ?_
  have e : (c_KINDS : D) = .ktp (KL.map fun p => kd p.1 p.2) := rfl
  unfold body_motions_of mots
  rw [e]
  simp only [vA, ru_seq, Nat.reduceAdd, Nat.reduceSub, Nat.reduceLeDiff, reduceCtorEq, String.reduceEq, Int.reduceBEq, Int.reduceLT, Int.reduceLE, Int.reduceAdd, Int.reduceSub, Int.reduceMul, Int.reduceNeg, Nat.reduceBEq, Slot.shut, List.replicate, implies_true]
  have hKL : KL.length = 4 := rfl
  generalize KL = kl at hKL
  refine ru_forI (fun i s => ∃ c2 : Slot, s = ⟨[.val (.int n), .val (.lst ((mm n (kl.take i)).map mD)), c2, .un], m⟩) ⟨.un, by rw [List.take_zero]; rfl⟩ (fun i d s hi hI => ?_) (fun s hI => ?_)
  · obtain ⟨c2, rfl⟩ := hI
    rw [List.getElem?_map] at hi
    cases ep : kl[i]? with
    | none => rw [ep] at hi; cases hi
    | some p =>
      rw [ep] at hi
      cases hi
      simp only [vA, ru_seq, Nat.reduceAdd, Nat.reduceSub, Nat.reduceLeDiff, reduceCtorEq, String.reduceEq, Int.reduceBEq, Int.reduceLT, Int.reduceLE, Int.reduceAdd, Int.reduceSub, Int.reduceMul, Int.reduceNeg, Nat.reduceBEq, Slot.shut, List.replicate, implies_true, rng1_int (show (-(2 ^ 62) : Int) ≤ (n : Int) by omega) (show (n : Int) < 2 ^ 62 by omega), Int.toNat_natCast, rngL_length]
      refine ⟨by simp [anyOwn, Slot.isOwn], by omega, ?_⟩
      rw [rngL_map]
      refine ru_lcM (α := Nat) (xs := List.range n) (h := fun k => .int (0 + (k : Nat))) (k := fun k => mD (p, k)) (fun k hk => ?_) ?_
      · simp only [vA, ru_seq, Nat.reduceAdd, Nat.reduceSub, Nat.reduceLeDiff, reduceCtorEq, String.reduceEq, Int.reduceBEq, Int.reduceLT, Int.reduceLE, Int.reduceAdd, Int.reduceSub, Int.reduceMul, Int.reduceNeg, Nat.reduceBEq, Slot.shut, List.replicate, implies_true]
      · have hi4 : i < 4 := by rw [← hKL]; exact (List.getElem?_eq_some_iff.mp ep).1
        have hl : ((mm n (kl.take i)).map mD).length ≤ 4 * n := by
          rw [List.length_map, mm_len]
          exact Nat.mul_le_mul_right n (by rw [List.length_take]; omega)
        have ha := addD_ll (a := (mm n (kl.take i)).map mD) (b := (List.range n).map fun k => mD (p, k)) (by rw [List.length_map (as := List.range n), List.length_range]; omega)
        have eT : kl.take (i + 1) = kl.take i ++ [p] := by rw [List.take_add_one, ep]; rfl
        rw [← mm_app, ← eT] at ha
        simp only [vA, ru_seq, Nat.reduceAdd, Nat.reduceSub, Nat.reduceLeDiff, reduceCtorEq, String.reduceEq, Int.reduceBEq, Int.reduceLT, Int.reduceLE, Int.reduceAdd, Int.reduceSub, Int.reduceMul, Int.reduceNeg, Nat.reduceBEq, Slot.shut, List.replicate, implies_true, ha]
        exact ⟨_, rfl⟩
  · obtain ⟨c2, rfl⟩ := hI
    simp only [vA, ru_seq, Nat.reduceAdd, Nat.reduceSub, Nat.reduceLeDiff, reduceCtorEq, String.reduceEq, Int.reduceBEq, Int.reduceLT, Int.reduceLE, Int.reduceAdd, Int.reduceSub, Int.reduceMul, Int.reduceNeg, Nat.reduceBEq, Slot.shut, List.replicate, implies_true, List.length_map, List.take_length]
def kf (S : List (List Nat)) (R p : Nat) (q : Bool × Bool) : List Nat := (List.range p).filter fun k : Nat => ledW S R p q.1 q.2 (k : Int) == S
def kk (S : List (List Nat)) (R p : Nat) (l : List (Bool × Bool)) : List ((Bool × Bool) × Nat) := l.flatMap fun q => (kf S R p q).map fun k => (q, k)
theorem kk_app {S : List (List Nat)} {R p : Nat} {l : List (Bool × Bool)} {q : Bool × Bool} : (kk S R p (l ++ [q])).map mD = (kk S R p l).map mD ++ (kf S R p q).map fun k => mD (q, k) := by
  unfold kk
  rw [List.flatMap_append, List.map_append]
  simp [List.flatMap_cons, Function.comp_def]
theorem kf_len {S : List (List Nat)} {R p : Nat} {q : Bool × Bool} : (kf S R p q).length ≤ p := by
  have := List.length_filter_le (fun k : Nat => ledW S R p q.1 q.2 (k : Int) == S) (List.range p)
  rwa [List.length_range] at this
theorem kk_len {S : List (List Nat)} {R p : Nat} : ∀ {l : List (Bool × Bool)}, (kk S R p l).length ≤ l.length * p
  | [] => by simp [kk]
  | a :: l => by
    have := kk_len (S := S) (R := R) (p := p) (l := l)
    have h2 := kf_len (S := S) (R := R) (p := p) (q := a)
    unfold kk at this ⊢
    rw [List.flatMap_cons, List.length_append, List.length_map, List.length_cons, Nat.add_mul, Nat.one_mul]
    omega
theorem kk_mots {S : List (List Nat)} {R p : Nat} : ((mots p).filter fun t => ledW S R p t.1.1 t.1.2 t.2 == S) = kk S R p KL := by
  unfold mots mm kk
  rw [List.filter_flatMap]
  congr 1
  funext q
  rw [List.filter_map]
  rfl
theorem kept_of_ok {wl : List (List Nat)} {R n p : Nat} (g : Good wl R n) (hp : PerP wl n p) (m) : den_kept_of [WD wl] m = .ok (.lst ((kk (least wl p) R p KL).map mD)) m := by
  refine fn_ok rfl ?_
  have gl := least_good g hp
  obtain ⟨row0, h1, h2⟩ := gl.first
  have hp24 := gl.c24
  have hl : (mots p).length = 4 * p := mm_len
  unfold body_kept_of
  simp only [vA, ru_seq, Nat.reduceAdd, Nat.reduceSub, Nat.reduceLeDiff, reduceCtorEq, String.reduceEq, Int.reduceBEq, Int.reduceLT, Int.reduceLE, Int.reduceAdd, Int.reduceSub, Int.reduceMul, Int.reduceNeg, Nat.reduceBEq, Slot.shut, List.replicate, implies_true, least_of_ok g hp, h1, h2, motions_ok p hp24]
  refine ⟨by simp [anyOwn, Slot.isOwn], by omega, ?_⟩
  refine ru_lcB (α := (Bool × Bool) × Nat) (xs := mots p) (h := mD) (k := mD) (p := fun t => ledW (least wl p) R p t.1.1 t.1.2 t.2 == least wl p) (fun t ht => ?_) ?_
  · simp only [vA, ru_seq, Nat.reduceAdd, Nat.reduceSub, Nat.reduceLeDiff, reduceCtorEq, String.reduceEq, Int.reduceBEq, Int.reduceLT, Int.reduceLE, Int.reduceAdd, Int.reduceSub, Int.reduceMul, Int.reduceNeg, Nat.reduceBEq, Slot.shut, List.replicate, implies_true, led_by_ok gl, eqD_W]
  · simp only [vA, ru_seq, Nat.reduceAdd, Nat.reduceSub, Nat.reduceLeDiff, reduceCtorEq, String.reduceEq, Int.reduceBEq, Int.reduceLT, Int.reduceLE, Int.reduceAdd, Int.reduceSub, Int.reduceMul, Int.reduceNeg, Nat.reduceBEq, Slot.shut, List.replicate, implies_true, kk_mots]
theorem law_kept_ok {wl : List (List Nat)} {R n p : Nat} (g : Good wl R n) (hp : PerP wl n p) (m) : ∃ ex, den__law_kept [WD wl] m = .ok (.lst ((kk (least wl p) R p KL).map mD)) (m ++ ex) := by
  have : ∃ d m', den__law_kept [WD wl] m = .ok d m' ∧ (d = .lst ((kk (least wl p) R p KL).map mD) ∧ ∃ ex, m' = m ++ ex) := by
    refine fn_ex rfl ?_
    have gl := least_good g hp
    obtain ⟨row0, h1, h2⟩ := gl.first
    have hp24 := gl.c24
    unfold body__law_kept
    have e : [D.str "glided", D.str "mirrored", D.str "moved", D.str "turned"] = KL.map fun p => kd p.1 p.2 := rfl
    simp only [vA, ru_seq, Nat.reduceAdd, Nat.reduceSub, Nat.reduceLeDiff, reduceCtorEq, String.reduceEq, Int.reduceBEq, Int.reduceLT, Int.reduceLE, Int.reduceAdd, Int.reduceSub, Int.reduceMul, Int.reduceNeg, Nat.reduceBEq, Slot.shut, List.replicate, implies_true, law_least_ok g hp, e]
    have hKL : KL.length = 4 := rfl
    generalize KL = kl at hKL
    refine ru_forI (fun i s => ∃ (c3 : Slot) (ex : List MO), s = ⟨[.val (WD wl), .val (WD (least wl p)), .val (.lst ((kk (least wl p) R p (kl.take i)).map mD)), c3, .un], m ++ ex⟩) ⟨.un, [], by rw [List.append_nil, List.take_zero]; rfl⟩ (fun i d s hi hI => ?_) (fun s hI => ?_)
    · obtain ⟨c3, ex, rfl⟩ := hI
      rw [List.getElem?_map] at hi
      cases ep : kl[i]? with
      | none => rw [ep] at hi; cases hi
      | some q =>
        rw [ep] at hi
        cases hi
        simp only [vA, ru_seq, Nat.reduceAdd, Nat.reduceSub, Nat.reduceLeDiff, reduceCtorEq, String.reduceEq, Int.reduceBEq, Int.reduceLT, Int.reduceLE, Int.reduceAdd, Int.reduceSub, Int.reduceMul, Int.reduceNeg, Nat.reduceBEq, Slot.shut, List.replicate, implies_true, h1, h2, rng1_int (show (-(2 ^ 62) : Int) ≤ (p : Int) by omega) (show (p : Int) < 2 ^ 62 by omega), Int.toNat_natCast, rngL_length]
        refine ⟨by simp [anyOwn, Slot.isOwn], by omega, ?_⟩
        rw [rngL_map]
        refine ru_lcBI (α := Nat) (xs := List.range p) (h := fun k => .int (0 + (k : Nat))) (k := fun k => mD (q, k)) (p := fun k => ledW (least wl p) R p q.1 q.2 (k : Nat) == least wl p) (fun mem => ∃ ex, mem = m ++ ex) ⟨_, rfl⟩ (fun k hk mem hmem => ?_) (fun mem hmem => ?_)
        · obtain ⟨ex1, rfl⟩ := hmem
          obtain ⟨ex2, h3⟩ := law_led_ok gl q.1 q.2 k (m ++ ex1)
          simp only [vA, ru_seq, Nat.reduceAdd, Nat.reduceSub, Nat.reduceLeDiff, reduceCtorEq, String.reduceEq, Int.reduceBEq, Int.reduceLT, Int.reduceLE, Int.reduceAdd, Int.reduceSub, Int.reduceMul, Int.reduceNeg, Nat.reduceBEq, Slot.shut, List.replicate, implies_true, h3, eqD_W]
          exact ⟨⟨_, List.append_assoc ..⟩, fun _ => ⟨_, List.append_assoc ..⟩⟩
        · obtain ⟨ex1, rfl⟩ := hmem
          have hi4 : i < 4 := by rw [← hKL]; exact (List.getElem?_eq_some_iff.mp ep).1
          have h4 : (kl.take i).length * p ≤ 4 * p := Nat.mul_le_mul_right p (by rw [List.length_take]; omega)
          have ha := addD_ll (a := (kk (least wl p) R p (kl.take i)).map mD) (b := (kf (least wl p) R p q).map fun k => mD (q, k)) (by
            have := kk_len (S := least wl p) (R := R) (p := p) (l := kl.take i)
            have := kf_len (S := least wl p) (R := R) (p := p) (q := q)
            rw [List.length_map, List.length_map]; omega)
          have eT : kl.take (i + 1) = kl.take i ++ [q] := by rw [List.take_add_one, ep]; rfl
          rw [← kk_app, ← eT] at ha
          unfold kf at ha
          simp only [vA, ru_seq, Nat.reduceAdd, Nat.reduceSub, Nat.reduceLeDiff, reduceCtorEq, String.reduceEq, Int.reduceBEq, Int.reduceLT, Int.reduceLE, Int.reduceAdd, Int.reduceSub, Int.reduceMul, Int.reduceNeg, Nat.reduceBEq, Slot.shut, List.replicate, implies_true, ha]
          exact ⟨_, ex1, rfl⟩
    · obtain ⟨c3, ex, rfl⟩ := hI
      simp only [vA, ru_seq, Nat.reduceAdd, Nat.reduceSub, Nat.reduceLeDiff, reduceCtorEq, String.reduceEq, Int.reduceBEq, Int.reduceLT, Int.reduceLE, Int.reduceAdd, Int.reduceSub, Int.reduceMul, Int.reduceNeg, Nat.reduceBEq, Slot.shut, List.replicate, implies_true, List.take_length]
      exact ⟨ex, rfl⟩
  obtain ⟨d, m', e, rfl, ex, rfl⟩ := this
  exact ⟨ex, e⟩
/-! both motions -/
theorem mk_self {wl : List (List Nat)} {R n : Nat} (g : Good wl R n) : mk R n (fun r c => cw wl r c) = wl := by
  refine List.ext_getElem (by unfold mk; rw [List.length_map, List.length_range, g.len]) fun i h1 h2 => ?_
  have hi : i < R := by rw [← g.len]; exact h2
  have hc := g.row _ (List.getElem_mem h2)
  refine List.ext_getElem (by simp [mk, hc]) fun j h3 h4 => ?_
  have hj : j < n := by rw [← hc]; exact h4
  have : (mk R n fun r c => cw wl r c)[i][j] = cw wl i j := by simp [mk]
  rw [this]
  unfold cw
  simp [h2, h4]
theorem cw_mk {R C : Nat} {f : Nat → Nat → Nat} {i j : Nat} (hi : i < R) (hj : j < C) : cw (mk R C f) i j = f i j := by
  unfold cw
  rw [mk_get hi]
  simp [hj]
theorem bk_bk (b : Bool) (k : Int) : bk b (bk b k) = k := by unfold bk; cases b <;> simp
theorem led_good {wl : List (List Nat)} {R n : Nat} (g : Good wl R n) (e b : Bool) (k : Int) : Good (ledW wl R n e b k) R n := by
  refine ⟨by simp [ledW, mk], fun row hr => ?_, fun row hr x hx => ?_, g.r1, g.r8, g.c1, g.c24⟩
  · unfold ledW mk at hr
    obtain ⟨i, _, rfl⟩ := List.mem_map.mp hr
    simp
  · unfold ledW mk at hr
    obtain ⟨i, hi, rfl⟩ := List.mem_map.mp hr
    obtain ⟨j, _, rfl⟩ := List.mem_map.mp hx
    have hc1 := g.c1
    have b3 : 0 ≤ colI b (bk b k) j % (n : Int) := Int.emod_nonneg _ (by omega)
    have b4 : colI b (bk b k) j % (n : Int) < n := Int.emod_lt_of_pos _ (by omega)
    obtain ⟨row, k1, k2, k3⟩ := g.at (src_lt (e := e) (List.mem_range.mp hi)) (j := (colI b (bk b k) j % (n : Int)).toNat) (by omega)
    exact g.sg row k2 _ (List.mem_of_getElem? k3)
theorem led_back {wl : List (List Nat)} {R n : Nat} (g : Good wl R n) (e b : Bool) (k : Int) : ledW (ledW wl R n e b k) R n e b (bk b k) = wl := by
  have hc1 := g.c1
  conv => rhs; rw [← mk_self g]
  refine mk_congr fun i j hi hj => ?_
  rw [bk_bk]
  unfold pw
  have b3 : 0 ≤ colI b k j % (n : Int) := Int.emod_nonneg _ (by omega)
  have b4 : colI b k j % (n : Int) < n := Int.emod_lt_of_pos _ (by omega)
  unfold ledW
  rw [cw_mk (src_lt hi) (by omega), src_src hi]
  unfold pw
  congr 1
  exact (col_iff (b := b) (k := k) (by omega) hj).mpr rfl
end K07
namespace K07
open Vl
/-! ### the motions that keep a piece: a group -/
theorem colI_comp (b b' : Bool) (k k' c : Int) : colI b (bk b k) (colI b' (bk b' k') c) = colI (b != b') (bk (b != b') (if b' then k' - k else k' + k)) c := by
  cases b <;> cases b' <;> simp [colI, bk] <;> omega
theorem src_comp {e e' : Bool} {R r : Nat} (h : r < R) : src e R (src e' R r) = src (e != e') R r := by
  cases e <;> cases e' <;> simp [src] <;> omega
theorem colI_mod (b : Bool) (k x n : Int) : colI b k (x % n) % n = colI b k x % n := by
  unfold colI
  cases b
  · simp [Int.emod_add_emod]
  · simp [Int.sub_emod, Int.emod_emod_of_dvd]
theorem colI_modk (b : Bool) (k x n : Int) : colI b (bk b (k % n)) x % n = colI b (bk b k) x % n := by
  have h := Int.emod_add_mul_ediv k n
  unfold colI bk
  cases b
  · simp only [Bool.false_eq_true, if_false]
    have : x + -k = x + -(k % n) + n * (-(k / n)) := by rw [Int.mul_neg]; omega
    rw [this, Int.add_mul_emod_self_left]
  · simp only [if_true]
    have : k - x = k % n - x + n * (k / n) := by omega
    rw [this, Int.add_mul_emod_self_left]
theorem led_comp {S : List (List Nat)} {R n : Nat} (g : Good S R n) (e b e' b' : Bool) (k k' : Int) : ledW (ledW S R n e b k) R n e' b' k' = ledW S R n (e != e') (b != b') (if b' then k' - k else k' + k) := by
  have hc1 := g.c1
  refine mk_congr fun i j hi hj => ?_
  unfold pw
  have b3 : 0 ≤ colI b' (bk b' k') j % (n : Int) := Int.emod_nonneg _ (by omega)
  have b4 : colI b' (bk b' k') j % (n : Int) < n := Int.emod_lt_of_pos _ (by omega)
  unfold ledW
  rw [cw_mk (src_lt hi) (by omega), src_comp hi]
  unfold pw
  rw [Int.toNat_of_nonneg b3, colI_mod, colI_comp]
theorem led_modk {S : List (List Nat)} {R n : Nat} (e b : Bool) (k : Int) : ledW S R n e b (k % n) = ledW S R n e b k := by
  refine mk_congr fun i j hi hj => ?_
  unfold pw
  rw [colI_modk]
theorem rep_get {t : List Nat} {p : Nat} (hp : t.length = p) (h1 : 1 ≤ p) : ∀ (q k : Nat), k < q * p → (rep q t)[k]? = t[k % p]?
  | 0, k, h => by omega
  | q + 1, k, h => by
    rw [rep_succ]
    by_cases hk : k < p
    · rw [List.getElem?_append_left (by omega), Nat.mod_eq_of_lt hk]
    · rw [List.getElem?_append_right (by omega), hp, rep_get hp h1 q (k - p) (by rw [Nat.add_mul] at h; omega), ← Nat.mod_eq_sub_mod (by omega)]
/-- no shift keeps the least piece -/
theorem no_shift {wl : List (List Nat)} {R n p : Nat} (g : Good wl R n) (hp : PerP wl n p) (k : Nat) (h1 : 1 ≤ k) (h2 : k < p) : ledW (least wl p) R p false false (k : Int) ≠ least wl p := by
  intro h
  have gl := least_good g hp
  have p1 := hp.p1
  have pn := hp.pn
  have hf := hp.ml (p - k) (by omega) (by omega)
  have ht : perL wl (p - k) = true := by
    unfold perL
    rw [List.all_eq_true]
    intro row hrow
    have hlr := g.row row hrow
    rw [beq_iff_eq, rot_iff hlr (by omega) g.c1]
    have hb := hp.b
    unfold perB at hb
    rw [Bool.and_eq_true, List.all_eq_true] at hb
    have hd : n % p = 0 := of_decide_eq_true hb.1
    have hrow2 := hb.2 row hrow
    rw [beq_iff_eq] at hrow2
    have ht : (row.take p).length = p := by rw [List.length_take, hlr]; omega
    have hq : n / p * p = n := Nat.div_mul_cancel (Nat.dvd_of_mod_eq_zero hd)
    have key : ∀ j, j < n → row[j]? = (row.take p)[j % p]? := fun j hj => by
      conv => lhs; rw [hrow2]
      exact rep_get ht p1 _ _ (by rw [hq]; exact hj)
    obtain ⟨i, hi, ei⟩ := List.getElem_of_mem hrow
    have hiR : i < R := by rw [← g.len]; exact hi
    have hS : (least wl p)[i]? = some (row.take p) := by
      unfold least
      rw [List.getElem?_map, List.getElem?_eq_getElem hi, ei]; rfl
    have hL : (ledW (least wl p) R p false false (k : Int))[i]? = some (row.take p) := by rw [h]; exact hS
    unfold ledW at hL
    rw [mk_get hiR] at hL
    have hL := Option.some.inj hL
    have step : ∀ j, j < p → (row.take p)[j]? = (row.take p)[(j + (p - k)) % p]? := fun j hj => by
      conv => lhs; rw [← hL]
      rw [List.getElem?_map, List.getElem?_range hj]
      have e1 : src false R i = i := by simp [src]
      have e2 : (colI false (bk false (k : Int)) (j : Int) % (p : Int)).toNat = (j + (p - k)) % p := by
        have : colI false (bk false (k : Int)) (j : Int) = ((j + (p - k) : Nat) : Int) + (p : Int) * (-1) := by
          simp only [colI, bk, Bool.false_eq_true, if_false]; omega
        rw [this, Int.add_mul_emod_self_left]
        exact Int.toNat_natCast _
      show some (pw (least wl p) p (src false R i) (colI false (bk false (k : Int)) (j : Int))) = _
      unfold pw
      rw [e1, e2]
      unfold cw
      rw [hS, Option.getD_some]
      have : (j + (p - k)) % p < (row.take p).length := by rw [ht]; exact Nat.mod_lt _ p1
      rw [List.getElem?_eq_getElem this]; rfl
    intro j hj
    have m1 : (j + (p - k)) % n < n := Nat.mod_lt _ (by omega)
    rw [key _ m1, key _ hj, step (j % p) (Nat.mod_lt _ p1)]
    have : (j + (p - k)) % n % p = (j % p + (p - k)) % p := by
      rw [Nat.mod_mod_of_dvd _ (Nat.dvd_of_mod_eq_zero hd), Nat.mod_add_mod]
    rw [this]
  rw [hf] at ht
  cases ht
theorem led_zero {S : List (List Nat)} {R n : Nat} (g : Good S R n) : ledW S R n false false 0 = S := by
  have h := led_comp g false false false false 0 0
  have b := led_back g false false 0
  have e : bk false 0 = 0 := rfl
  rw [e] at b
  rw [b] at h
  exact h.symm
theorem kf_one {wl : List (List Nat)} {R n p : Nat} (g : Good wl R n) (hp : PerP wl n p) (q : Bool × Bool) : (kf (least wl p) R p q).length ≤ 1 := by
  have gl := least_good g hp
  have hnd : (kf (least wl p) R p q).Pairwise (· < ·) := List.Pairwise.filter _ List.pairwise_lt_range
  have hm : ∀ k ∈ kf (least wl p) R p q, k < p ∧ ledW (least wl p) R p q.1 q.2 (k : Int) = least wl p := fun k hk => by
    have := List.mem_filter.mp hk
    exact ⟨List.mem_range.mp this.1, by simpa using this.2⟩
  match hl : kf (least wl p) R p q, hnd, hm with
  | [], _, _ => simp
  | [_], _, _ => simp
  | k1 :: k2 :: r, hnd, hm =>
    exfalso
    have hlt : k1 < k2 := by
      have := List.rel_of_pairwise_cons hnd (show k2 ∈ k2 :: r by simp)
      exact this
    obtain ⟨a1, a2⟩ := hm k1 (by simp)
    obtain ⟨b1, b2⟩ := hm k2 (by simp)
    have hb := led_back gl q.1 q.2 (k1 : Int)
    rw [a2] at hb
    have hc := led_comp gl q.1 q.2 q.1 q.2 (bk q.2 (k1 : Int)) (k2 : Int)
    rw [hb, b2] at hc
    have e1 : (q.1 != q.1) = false := by cases q.1 <;> rfl
    have e2 : (q.2 != q.2) = false := by cases q.2 <;> rfl
    have e3 : (if q.2 = true then (k2 : Int) - bk q.2 (k1 : Int) else (k2 : Int) + bk q.2 (k1 : Int)) = ((k2 - k1 : Nat) : Int) := by
      unfold bk
      cases q.2 <;> simp <;> omega
    rw [e1, e2, e3] at hc
    exact no_shift g hp (k2 - k1) (by omega) (by omega) hc.symm
theorem kf_mem {S : List (List Nat)} {R p : Nat} (hp : 1 ≤ p) {q : Bool × Bool} {k : Int} (h : ledW S R p q.1 q.2 k = S) : 1 ≤ (kf S R p q).length := by
  have h0 : 0 ≤ k % (p : Int) := Int.emod_nonneg _ (by omega)
  have h1 : k % (p : Int) < p := Int.emod_lt_of_pos _ (by omega)
  have : (k % (p : Int)).toNat ∈ kf S R p q := by
    refine List.mem_filter.mpr ⟨List.mem_range.mpr (by omega), ?_⟩
    rw [Int.toNat_of_nonneg h0, led_modk, h]
    simp
  exact List.length_pos_of_mem this
theorem kf_ex {S : List (List Nat)} {R p : Nat} {q : Bool × Bool} (h : 1 ≤ (kf S R p q).length) : ∃ k : Int, ledW S R p q.1 q.2 k = S := by
  obtain ⟨k, hk⟩ := List.exists_mem_of_length_pos h
  have := List.mem_filter.mp hk
  exact ⟨k, by simpa using this.2⟩
theorem kf_mul {S : List (List Nat)} {R p : Nat} (g : Good S R p) {q q' : Bool × Bool} (h : 1 ≤ (kf S R p q).length) (h' : 1 ≤ (kf S R p q').length) : 1 ≤ (kf S R p (q.1 != q'.1, q.2 != q'.2)).length := by
  obtain ⟨k, e⟩ := kf_ex h
  obtain ⟨k', e'⟩ := kf_ex h'
  have hc := led_comp g q.1 q.2 q'.1 q'.2 k k'
  rw [e, e'] at hc
  exact kf_mem g.c1 (q := (q.1 != q'.1, q.2 != q'.2)) hc.symm
/-- 1, 2 or 4 motions keep a strip -/
theorem kk_124 {wl : List (List Nat)} {R n p : Nat} (g : Good wl R n) (hp : PerP wl n p) : (kk (least wl p) R p KL).length = 1 ∨ (kk (least wl p) R p KL).length = 2 ∨ (kk (least wl p) R p KL).length = 4 := by
  have gl := least_good g hp
  have e : (kk (least wl p) R p KL).length = (kf (least wl p) R p (true, false)).length + (kf (least wl p) R p (false, true)).length + (kf (least wl p) R p (false, false)).length + (kf (least wl p) R p (true, true)).length := by
    unfold kk KL
    simp only [List.flatMap_cons, List.flatMap_nil, List.length_append, List.length_map, List.length_nil]
    omega
  have c1 := kf_one g hp (true, false)
  have c2 := kf_one g hp (false, true)
  have c3 := kf_one g hp (false, false)
  have c4 := kf_one g hp (true, true)
  have z := kf_mem (R := R) gl.c1 (q := (false, false)) (k := 0) (led_zero gl)
  have m1 : 1 ≤ _ → 1 ≤ _ → 1 ≤ _ := kf_mul gl (q := (true, false)) (q' := (false, true))
  have m2 : 1 ≤ _ → 1 ≤ _ → 1 ≤ _ := kf_mul gl (q := (true, false)) (q' := (true, true))
  have m3 : 1 ≤ _ → 1 ≤ _ → 1 ≤ _ := kf_mul gl (q := (false, true)) (q' := (true, true))
  simp only [bne_self_eq_false, Bool.true_bne, Bool.false_bne, Bool.not_true, Bool.not_false] at m1 m2 m3
  omega
end K07
namespace K07
open Vl
/-! ### all lists of k members of L, in order -/
def gen {β : Type} (L : List β) : Nat → List (List β)
  | 0 => [[]]
  | k + 1 => (gen L k).flatMap fun t => L.map fun a => t ++ [a]
theorem mem_gen {β : Type} {L : List β} : ∀ {k : Nat} {x : List β}, x ∈ gen L k ↔ x.length = k ∧ ∀ a ∈ x, a ∈ L
  | 0, x => by
    rw [gen, List.mem_singleton]
    constructor
    · rintro rfl; exact ⟨rfl, by simp⟩
    · rintro ⟨h, _⟩; exact List.eq_nil_of_length_eq_zero h
  | k + 1, x => by
    rw [gen, List.mem_flatMap]
    constructor
    · rintro ⟨t, ht, hx⟩
      obtain ⟨a, ha, rfl⟩ := List.mem_map.mp hx
      obtain ⟨h1, h2⟩ := mem_gen.mp ht
      refine ⟨by simp [h1], fun b hb => ?_⟩
      rcases List.mem_append.mp hb with hb | hb
      · exact h2 b hb
      · rw [List.mem_singleton.mp hb]; exact ha
    · rintro ⟨h1, h2⟩
      have hne : x ≠ [] := fun e => by rw [e] at h1; simp at h1
      have e := List.dropLast_concat_getLast hne
      refine ⟨x.dropLast, mem_gen.mpr ⟨by simp [h1], fun b hb => h2 b ((List.dropLast_sublist x).subset hb)⟩, List.mem_map.mpr ⟨x.getLast hne, h2 _ (List.getLast_mem hne), e⟩⟩
theorem snoc_inj {β : Type} {t t' : List β} {a a' : β} (h : t ++ [a] = t' ++ [a']) : t = t' ∧ a = a' := by
  have := List.append_inj' h rfl
  exact ⟨this.1, by simpa using this.2⟩
theorem gen_pw {β : Type} {L : List β} {lt : β → β → Prop} {lts : List β → List β → Prop} (h1 : ∀ t a b, lt a b → lts (t ++ [a]) (t ++ [b])) (h2 : ∀ t t' a b, t.length = t'.length → lts t t' → lts (t ++ [a]) (t' ++ [b])) (hL : L.Pairwise lt) : ∀ k, (gen L k).Pairwise lts
  | 0 => by rw [gen]; simp
  | k + 1 => by
    rw [gen, List.pairwise_flatMap]
    refine ⟨fun t ht => List.pairwise_map.mpr (hL.imp fun {a b} h => h1 t a b h), ?_⟩
    refine (gen_pw h1 h2 hL k).imp_of_mem fun {t t'} ht ht' h => ?_
    intro x hx y hy
    obtain ⟨a, _, rfl⟩ := List.mem_map.mp hx
    obtain ⟨b, _, rfl⟩ := List.mem_map.mp hy
    exact h2 t t' a b (by rw [(mem_gen.mp ht).1, (mem_gen.mp ht').1]) h
theorem gen_nodup {β : Type} {L : List β} (h : L.Nodup) (k : Nat) : (gen L k).Nodup :=
  gen_pw (lt := (· ≠ ·)) (lts := (· ≠ ·)) (fun t a b h e => h (snoc_inj e).2) (fun t t' a b _ h e => h (snoc_inj e).1) h k
theorem gen_len {β : Type} {L : List β} : ∀ k, (gen L k).length = L.length ^ k
  | 0 => rfl
  | k + 1 => by
    rw [gen, List.length_flatMap]
    have : ∀ l : List (List β), (l.map fun t => (L.map fun a => t ++ [a]).length).sum = l.length * L.length := fun l => by
      induction l with
      | nil => simp
      | cons a r ih => rw [List.map_cons, List.sum_cons, ih, List.length_cons, List.length_map, Nat.succ_mul]; omega
    rw [this, gen_len k, Nat.pow_succ]
/-! ### all pieces -/
def SG : List Nat := [46, 97, 98, 99, 100, 101, 102]
def SL (s : Nat) : List Nat := SG.take s
theorem SL_nd (s : Nat) : (SL s).Nodup := List.Nodup.sublist (List.take_sublist s SG) (by decide)
theorem SL_sg {s a : Nat} (h : a ∈ SL s) : sg7 a := by
  have := List.mem_of_mem_take h
  simp [SG] at this
  exact this
theorem SL_len {s : Nat} (h : s ≤ 7) : (SL s).length = s := by unfold SL; rw [List.length_take]; simp [SG]; omega
theorem SL_dot {s : Nat} (h : 1 ≤ s) : 46 ∈ SL s := by
  obtain ⟨k, rfl⟩ : ∃ k, s = k + 1 := ⟨s - 1, by omega⟩
  simp [SL, SG]
def wd (s n : Nat) : List (List Nat) := gen (SL s) n
noncomputable def LW (s n : Nat) : List (List Nat) := srt eT (wd s n)
noncomputable def AP (R n s : Nat) : List (List (List Nat)) := gen (LW s n) R
theorem mem_LW {s n : Nat} {l : List Nat} : l ∈ LW s n ↔ l.length = n ∧ ∀ a ∈ l, a ∈ SL s := by
  unfold LW wd
  rw [srt_mem, mem_gen]
theorem LW_nd (s n : Nat) : (LW s n).Nodup := (srt_perm eT _).nodup_iff.mpr (gen_nodup (SL_nd s) n)
theorem AP_nd (R n s : Nat) : (AP R n s).Nodup := gen_nodup (LW_nd s n) R
theorem mem_AP {R n s : Nat} {wl : List (List Nat)} : wl ∈ AP R n s ↔ wl.length = R ∧ ∀ row ∈ wl, row.length = n ∧ ∀ a ∈ row, a ∈ SL s := by
  unfold AP
  rw [mem_gen]
  simp only [mem_LW]
theorem AP_good {R n s : Nat} (h1 : 1 ≤ R) (h2 : R ≤ 8) (h3 : 1 ≤ n) (h4 : n ≤ 24) {wl : List (List Nat)} (h : wl ∈ AP R n s) : Good wl R n := by
  obtain ⟨h5, h6⟩ := mem_AP.mp h
  exact ⟨h5, fun row hr => (h6 row hr).1, fun row hr k hk => SL_sg ((h6 row hr).2 k hk), h1, h2, h3, h4⟩
theorem AP_len (R n s : Nat) (hs : s ≤ 7) : (AP R n s).length = s ^ (n * R) := by
  unfold AP LW wd
  rw [gen_len, srt_len, gen_len, SL_len hs, Nat.pow_mul]
/-- the cells -/
abbrev Cell := Int × Int
def cs (R n : Nat) : List Cell := (List.range R).flatMap fun r : Nat => (List.range n).map fun c : Nat => ((r : Int), (c : Int))
theorem mem_cs {R n : Nat} {x : Cell} : x ∈ cs R n ↔ 0 ≤ x.1 ∧ x.1 < R ∧ 0 ≤ x.2 ∧ x.2 < n := by
  unfold cs
  rw [List.mem_flatMap]
  constructor
  · rintro ⟨r, hr, hx⟩
    obtain ⟨c, hc, rfl⟩ := List.mem_map.mp hx
    have := List.mem_range.mp hr
    have := List.mem_range.mp hc
    simp only
    omega
  · rintro ⟨h1, h2, h3, h4⟩
    refine ⟨x.1.toNat, List.mem_range.mpr (by omega), List.mem_map.mpr ⟨x.2.toNat, List.mem_range.mpr (by omega), ?_⟩⟩
    exact Prod.ext (by simp only; omega) (by simp only; omega)
/-- where a motion leads a cell -/
def pim (e b : Bool) (k : Int) (R n : Nat) (x : Cell) : Cell := (srcI e R x.1, colI b k x.2 % n)
theorem pim_cs {e b : Bool} {k : Int} {R n : Nat} (hn : 1 ≤ n) {x : Cell} (h : x ∈ cs R n) : pim e b k R n x ∈ cs R n := by
  obtain ⟨h1, h2, h3, h4⟩ := mem_cs.mp h
  refine mem_cs.mpr ⟨?_, ?_, Int.emod_nonneg _ (by omega), Int.emod_lt_of_pos _ (by omega)⟩
  · unfold pim srcI; simp only; split <;> omega
  · unfold pim srcI; simp only; split <;> omega
theorem pim_back {e b : Bool} {k : Int} {R n : Nat} {x : Cell} (h : x ∈ cs R n) : pim e b (bk b k) R n (pim e b k R n x) = x := by
  obtain ⟨h1, h2, h3, h4⟩ := mem_cs.mp h
  refine Prod.ext ?_ ?_
  · show srcI e R (srcI e R x.1) = x.1
    unfold srcI; split <;> omega
  · show colI b (bk b k) (colI b k x.2 % n) % n = x.2
    rw [colI_mod]
    have : colI b (bk b k) (colI b k x.2) = x.2 := by unfold colI bk; cases b <;> simp <;> omega
    rw [this, Int.emod_eq_of_lt h3 h4]
theorem pim_inj {e b : Bool} {k : Int} {R n : Nat} : ∀ x ∈ cs R n, ∀ y ∈ cs R n, pim e b k R n x = pim e b k R n y → x = y := fun x hx y hy h => by
  rw [← pim_back (e := e) (b := b) (k := k) hx, h, pim_back hy]
def gt (wl : List (List Nat)) (x : Cell) : Nat := cw wl x.1.toNat x.2.toNat
theorem good_mem {wl : List (List Nat)} {R n : Nat} (g : Good wl R n) {x : Cell} (hx : x ∈ cs R n) : ∃ row ∈ wl, gt wl x ∈ row := by
  obtain ⟨h1, h2, h3, h4⟩ := mem_cs.mp hx
  obtain ⟨row, k1, k2, k3⟩ := g.at (i := x.1.toNat) (j := x.2.toNat) (by omega) (by omega)
  exact ⟨row, k2, List.mem_of_getElem? k3⟩
theorem mk_AP {R n s : Nat} {f : Nat → Nat → Nat} (h : ∀ r c, r < R → c < n → f r c ∈ SL s) : mk R n f ∈ AP R n s := by
  refine mem_AP.mpr ⟨by simp [mk], fun row hr => ?_⟩
  obtain ⟨i, hi, rfl⟩ := List.mem_map.mp hr
  refine ⟨by simp, fun a ha => ?_⟩
  obtain ⟨j, hj, rfl⟩ := List.mem_map.mp ha
  exact h i j (List.mem_range.mp hi) (List.mem_range.mp hj)
noncomputable def Pp (R n s : Nat) (h1 : 1 ≤ R) (h2 : R ≤ 8) (h3 : 1 ≤ n) (h4 : n ≤ 24) : Bu.Pc Cell (List (List Nat)) where
  cs := cs R n
  A := SL s
  X := AP R n s
  get := gt
  mkf f := mk R n fun r c => f ((r : Int), (c : Int))
  ndA := SL_nd s
  ndX := AP_nd R n s
  mem x hx c hc := by
    obtain ⟨row, h5, h6⟩ := good_mem (AP_good h1 h2 h3 h4 hx) hc
    exact ((mem_AP.mp hx).2 row h5).2 _ h6
  mk_mem f hf := mk_AP fun r c hr hc => hf _ (mem_cs.mpr ⟨by simp only; omega, by simp only; omega, by simp only; omega, by simp only; omega⟩)
  mk_get f c hc := by
    obtain ⟨h5, h6, h7, h8⟩ := mem_cs.mp hc
    unfold gt
    rw [cw_mk (by omega) (by omega)]
    congr 1
    exact Prod.ext (by simp only; omega) (by simp only; omega)
  ext x hx y hy h := by
    rw [← mk_self (AP_good h1 h2 h3 h4 hx), ← mk_self (AP_good h1 h2 h3 h4 hy)]
    refine mk_congr fun i j hi hj => ?_
    have := h ((i : Int), (j : Int)) (mem_cs.mpr ⟨by simp only; omega, by simp only; omega, by simp only; omega, by simp only; omega⟩)
    simpa [gt] using this
/-- kept by a motion: alike along it -/
theorem kept_iff {wl : List (List Nat)} {R n : Nat} (g : Good wl R n) (e b : Bool) (k : Int) : ((cs R n).all fun c => gt wl (pim e b k R n c) == gt wl c) = (ledW wl R n e b k == wl) := by
  have hc1 := g.c1
  have half : ∀ k : Int, ledW wl R n e b k = wl → ledW wl R n e b (bk b k) = wl := fun k h => by
    have := led_back g e b k
    rwa [h] at this
  rw [Bool.eq_iff_iff, List.all_eq_true, beq_iff_eq]
  have key : (∀ c ∈ cs R n, (gt wl (pim e b k R n c) == gt wl c) = true) ↔ ledW wl R n e b (bk b k) = wl := by
    constructor
    · intro h
      conv => rhs; rw [← mk_self g]
      refine mk_congr fun i j hi hj => ?_
      have := h ((i : Int), (j : Int)) (mem_cs.mpr ⟨by simp only; omega, by simp only; omega, by simp only; omega, by simp only; omega⟩)
      rw [beq_iff_eq] at this
      rw [bk_bk]
      unfold pw
      have e1 : gt wl (pim e b k R n ((i : Int), (j : Int))) = cw wl (src e R i) (colI b k j % n).toNat := by
        unfold gt pim
        simp only
        rw [srcI_src hi]
        rfl
      rw [← e1, this]
      rfl
    · intro h c hc
      obtain ⟨h5, h6, h7, h8⟩ := mem_cs.mp hc
      rw [beq_iff_eq]
      have e2 : cw (ledW wl R n e b (bk b k)) c.1.toNat c.2.toNat = cw wl c.1.toNat c.2.toNat := by rw [h]
      unfold ledW at e2
      rw [cw_mk (by omega) (by omega), bk_bk] at e2
      unfold gt pim
      simp only
      unfold pw at e2
      rw [← e2]
      have e3 : c.1 = ((c.1.toNat : Nat) : Int) := by omega
      have e4 : c.2 = ((c.2.toNat : Nat) : Int) := by omega
      rw [e3, srcI_src (by omega), ← e3, ← e4]
      rfl
  rw [key]
  constructor
  · intro h
    have := half _ h
    rwa [bk_bk] at this
  · exact half k
/-- how many pieces a motion keeps -/
noncomputable def fixN (R n s : Nat) (e b : Bool) (k : Int) : Nat := (AP R n s).countP fun wl => ledW wl R n e b k == wl
/-- the cells met so far, ring by ring -/
structure Cl (R n : Nat) (π : Cell → Cell) (M : List Cell) (many : Nat) : Prop where
  nd : M.Nodup
  sub : ∀ c ∈ M, c ∈ cs R n
  cl : ∀ c ∈ cs R n, (c ∈ M ↔ π c ∈ M)
  cnt : ∀ s, 1 ≤ s → s ≤ 7 → ∀ h1 h2 h3 h4, (AP R n s).countP (Bu.PM (Pp R n s h1 h2 h3 h4) π 46 M) = s ^ many
theorem Cl.nil (R n : Nat) (π : Cell → Cell) : Cl R n π [] 0 := by
  refine ⟨by simp, by simp, fun c _ => by simp, fun s hs _ h1 h2 h3 h4 => ?_⟩
  have := Bu.PM_nil (Pp R n s h1 h2 h3 h4) π 46 (SL_dot hs)
  rw [Nat.pow_zero]
  exact this
theorem Cl.step {R n : Nat} {π : Cell → Cell} {M : List Cell} {many : Nat} (h : Cl R n π M many) (pi : ∀ x ∈ cs R n, π x ∈ cs R n) (inj : ∀ x ∈ cs R n, ∀ y ∈ cs R n, π x = π y → x = y)
    {c : Cell} (hc : c ∈ cs R n) (hcM : c ∉ M) {j : Nat} (hj : 1 ≤ j) (nd : (Bu.pth π c j).Nodup) (he : Bu.it π j c ∈ M ++ Bu.pth π c j) : Cl R n π (M ++ Bu.pth π c j) (many + 1) := by
  obtain ⟨r1, r2, r3, r4, r5, r6⟩ := Bu.ring hc pi inj h.cl hcM nd he hj
  refine ⟨List.nodup_append.mpr ⟨h.nd, nd, fun a ha b hb e => r3 b hb (e ▸ ha)⟩, fun x hx => (List.mem_append.mp hx).elim (h.sub x) (r2 x), r6, fun s hs hs7 h1 h2 h3 h4 => ?_⟩
  have := Bu.PM_step (Pp R n s h1 h2 h3 h4) π 46 (SL_dot hs) r1 r2 h.sub r3 (fun c hc => (h.cl c (h.sub c hc)).mp hc) r4 r5
  rw [show (Pp R n s h1 h2 h3 h4).X = AP R n s from rfl, show (Pp R n s h1 h2 h3 h4).A = SL s from rfl, SL_len hs7, h.cnt s hs hs7 h1 h2 h3 h4] at this
  rw [this, Nat.pow_succ, Nat.mul_comm]
theorem Cl.all {R n : Nat} (h1 : 1 ≤ R) (h2 : R ≤ 8) (h3 : 1 ≤ n) (h4 : n ≤ 24) {e b : Bool} {k : Int} {M : List Cell} {many : Nat} (h : Cl R n (pim e b k R n) M many) (ha : ∀ c ∈ cs R n, c ∈ M) {s : Nat} (hs : 1 ≤ s) (hs7 : s ≤ 7) : s ^ many = fixN R n s e b k := by
  rw [← h.cnt s hs hs7 h1 h2 h3 h4]
  have := Bu.PM_all (Pp R n s h1 h2 h3 h4) (pim e b k R n) 46 ha
  refine this.trans ?_
  unfold fixN
  refine List.countP_congr fun wl hw => ?_
  rw [show (Pp R n s h1 h2 h3 h4).cs = cs R n from rfl, show (Pp R n s h1 h2 h3 h4).get = gt from rfl, kept_iff (AP_good h1 h2 h3 h4 hw)]
end K07
namespace K07
open Vl
/-! ### the motions are a group: as many unlike pieces as they keep on the average -/
theorem mem_mots {n : Nat} {t : (Bool × Bool) × Nat} : t ∈ mots n ↔ t.2 < n := by
  unfold mots mm
  rw [List.mem_flatMap]
  constructor
  · rintro ⟨p, _, h⟩
    obtain ⟨k, hk, rfl⟩ := List.mem_map.mp h
    exact List.mem_range.mp hk
  · intro h
    obtain ⟨⟨e, b⟩, k⟩ := t
    refine ⟨(e, b), ?_, List.mem_map.mpr ⟨k, List.mem_range.mpr h, rfl⟩⟩
    cases e <;> cases b <;> simp [KL]
theorem nd_flat {α β : Type} {l : List α} {f : α → List β} (h : l.Nodup) (h1 : ∀ a ∈ l, (f a).Nodup) (h2 : ∀ a ∈ l, ∀ b ∈ l, ∀ x, x ∈ f a → x ∈ f b → a = b) : (l.flatMap f).Nodup := by
  show List.Pairwise _ _
  rw [List.pairwise_flatMap]
  refine ⟨h1, ?_⟩
  have h : l.Pairwise (· ≠ ·) := h
  refine h.imp_of_mem fun {a b} ha hb hne x hx y hy e => ?_
  subst e
  exact hne (h2 a ha b hb x hx hy)
theorem mots_nd (n : Nat) : (mots n).Nodup := by
  unfold mots mm
  refine nd_flat (by decide) (fun p _ => Bu.map_nd (fun a _ b _ e => (Prod.mk.inj e).2) List.nodup_range) fun p _ q _ x hx hy => ?_
  obtain ⟨k, _, rfl⟩ := List.mem_map.mp hx
  obtain ⟨j, _, e⟩ := List.mem_map.mp hy
  exact (Prod.mk.inj e).1.symm
theorem mots_len (n : Nat) : (mots n).length = 4 * n := by
  unfold mots
  rw [mm_len]
  rfl
def act (R n : Nat) (t : (Bool × Bool) × Nat) (wl : List (List Nat)) : List (List Nat) := ledW wl R n t.1.1 t.1.2 t.2
def orb (R n : Nat) (x y : List (List Nat)) : Bool := (mots n).any fun t => act R n t x == y
theorem orb_iff {R n : Nat} {x y : List (List Nat)} : orb R n x y = true ↔ ∃ t ∈ mots n, act R n t x = y := by
  unfold orb
  rw [List.any_eq_true]
  simp only [beq_iff_eq]
/-- the one after the other -/
def cp (n : Nat) (h g : (Bool × Bool) × Nat) : (Bool × Bool) × Nat := ((h.1.1 != g.1.1, h.1.2 != g.1.2), ((if g.1.2 then (g.2 : Int) - h.2 else (g.2 : Int) + h.2) % n).toNat)
def iv (n : Nat) (h : (Bool × Bool) × Nat) : (Bool × Bool) × Nat := (h.1, (bk h.1.2 h.2 % n).toNat)
theorem cp_mem {n : Nat} (hn : 1 ≤ n) (h g) : cp n h g ∈ mots n := by
  rw [mem_mots]
  unfold cp
  simp only
  have := Int.emod_lt_of_pos (if g.1.2 then (g.2 : Int) - h.2 else (g.2 : Int) + h.2) (show (0 : Int) < n by omega)
  have := Int.emod_nonneg (if g.1.2 then (g.2 : Int) - h.2 else (g.2 : Int) + h.2) (show (n : Int) ≠ 0 by omega)
  omega
theorem iv_mem {n : Nat} (hn : 1 ≤ n) (h) : iv n h ∈ mots n := by
  rw [mem_mots]
  unfold iv
  simp only
  have := Int.emod_lt_of_pos (bk h.1.2 h.2) (show (0 : Int) < n by omega)
  have := Int.emod_nonneg (bk h.1.2 h.2) (show (n : Int) ≠ 0 by omega)
  omega
theorem toNat_mod {n : Nat} (hn : 1 ≤ n) (a : Int) : (((a % n).toNat : Nat) : Int) = a % n := Int.toNat_of_nonneg (Int.emod_nonneg _ (by omega))
theorem act_cp {x : List (List Nat)} {R n : Nat} (g0 : Good x R n) (h g) : act R n (cp n h g) x = act R n g (act R n h x) := by
  unfold act
  rw [led_comp g0]
  unfold cp
  simp only
  rw [toNat_mod g0.c1, led_modk]
theorem act_iv {x : List (List Nat)} {R n : Nat} (g0 : Good x R n) (h) : act R n (iv n h) (act R n h x) = x := by
  unfold act iv
  simp only
  rw [toNat_mod g0.c1, led_modk, led_back g0]
theorem iv_act {x : List (List Nat)} {R n : Nat} (g0 : Good x R n) (h) : act R n h (act R n (iv n h) x) = x := by
  unfold act iv
  simp only
  rw [toNat_mod g0.c1, led_modk]
  have := led_back g0 h.1.1 h.1.2 (bk h.1.2 h.2)
  rwa [bk_bk] at this
theorem em1 (a b n : Int) : (a % n - b) % n = (a - b) % n := by rw [Int.sub_emod, Int.emod_emod_of_dvd a (Int.dvd_refl n), ← Int.sub_emod]
theorem em2 (a b n : Int) : (a - b % n) % n = (a - b) % n := by rw [Int.sub_emod, Int.emod_emod_of_dvd b (Int.dvd_refl n), ← Int.sub_emod]
theorem em3 (a b n : Int) : (a % n + b) % n = (a + b) % n := Int.emod_add_emod ..
theorem em4 (a b n : Int) : (a + b % n) % n = (a + b) % n := Int.add_emod_emod ..
theorem cp_iv {n : Nat} (hn : 1 ≤ n) (h) {g} (hg : g ∈ mots n) : cp n h (cp n (iv n h) g) = g := by
  obtain ⟨⟨e, b⟩, k⟩ := h
  obtain ⟨⟨e', b'⟩, k'⟩ := g
  have hk := mem_mots.mp hg
  simp only at hk
  refine Prod.ext ?_ ?_
  · cases e <;> cases b <;> cases e' <;> cases b' <;> rfl
  · have h0 : ((k' : Int) % n).toNat = k' := by rw [Int.emod_eq_of_lt (by omega) (by omega)]; omega
    have e0 : (k' : Int) + k + -k = k' := by omega
    have e1 : (k' : Int) - k + k = k' := by omega
    have e2 : (k' : Int) + k - k = k' := by omega
    have e3 : (k' : Int) - -k - k = k' := by omega
    have e4 : (k' : Int) + -k + k = k' := by omega
    unfold cp iv bk
    cases b <;> cases b' <;> simp only [Bool.false_eq_true, if_false, if_true, bne_self_eq_false, Bool.bne_false, Bool.bne_true, Bool.not_false, Bool.not_true, Bool.true_bne, Bool.false_bne, toNat_mod hn, em1, em2, em3, em4, e1, e2, e3, e4, h0]
theorem iv_cp {n : Nat} (hn : 1 ≤ n) (h) {g} (hg : g ∈ mots n) : cp n (iv n h) (cp n h g) = g := by
  obtain ⟨⟨e, b⟩, k⟩ := h
  obtain ⟨⟨e', b'⟩, k'⟩ := g
  have hk := mem_mots.mp hg
  simp only at hk
  refine Prod.ext ?_ ?_
  · cases e <;> cases b <;> cases e' <;> cases b' <;> rfl
  · have h0 : ((k' : Int) % n).toNat = k' := by rw [Int.emod_eq_of_lt (by omega) (by omega)]; omega
    have e1 : (k' : Int) - k + k = k' := by omega
    have e2 : (k' : Int) + k - k = k' := by omega
    have e3 : (k' : Int) - k - -k = k' := by omega
    have e4 : (k' : Int) + k + -k = k' := by omega
    unfold cp iv bk
    cases b <;> cases b' <;> simp only [Bool.false_eq_true, if_false, if_true, bne_self_eq_false, Bool.bne_false, Bool.bne_true, Bool.not_false, Bool.not_true, Bool.true_bne, Bool.false_bne, toNat_mod hn, em1, em2, em3, em4, e1, e2, e3, e4, h0]
theorem act_AP {R n s : Nat} (h1 : 1 ≤ R) (h2 : R ≤ 8) (h3 : 1 ≤ n) (h4 : n ≤ 24) (t) {x : List (List Nat)} (hx : x ∈ AP R n s) : act R n t x ∈ AP R n s := by
  have g := AP_good h1 h2 h3 h4 hx
  refine mk_AP fun r c hr hc => ?_
  unfold pw
  have b3 : 0 ≤ colI t.1.2 (bk t.1.2 t.2) c % (n : Int) := Int.emod_nonneg _ (by omega)
  have b4 : colI t.1.2 (bk t.1.2 t.2) c % (n : Int) < n := Int.emod_lt_of_pos _ (by omega)
  obtain ⟨row, k1, k2, k3⟩ := g.at (src_lt (e := t.1.1) hr) (j := (colI t.1.2 (bk t.1.2 t.2) c % (n : Int)).toNat) (by omega)
  exact ((mem_AP.mp hx).2 row k2).2 _ (List.mem_of_getElem? k3)
/-- the first ones of the unlike pieces -/
noncomputable def firsts (R n s : Nat) : List (List (List Nat)) := Bu.fst (orb R n) (AP R n s) []
theorem total_eq {R n s : Nat} (h1 : 1 ≤ R) (h2 : R ≤ 8) (h3 : 1 ≤ n) (h4 : n ≤ 24) : Bu.sm (mots n) (fun t => fixN R n s t.1.1 t.1.2 t.2) = (firsts R n s).length * (4 * n) := by
  have gd : ∀ x ∈ AP R n s, Good x R n := fun x hx => AP_good h1 h2 h3 h4 hx
  have := Bu.burnside (X := AP R n s) (G := mots n) (act := act R n) (orb := orb R n) (AP_nd R n s) (fun t _ x hx => act_AP h1 h2 h3 h4 t hx) (fun x _ y _ => orb_iff)
    (fun x hx => orb_iff.mpr ⟨((false, false), 0), mem_mots.mpr h3, led_zero (gd x hx)⟩)
    (fun x hx y hy h => by
      obtain ⟨t, ht, rfl⟩ := orb_iff.mp h
      exact orb_iff.mpr ⟨iv n t, iv_mem h3 t, act_iv (gd x hx) t⟩)
    (fun x hx y hy z hz h h' => by
      obtain ⟨t, ht, rfl⟩ := orb_iff.mp h
      obtain ⟨t', ht', rfl⟩ := orb_iff.mp h'
      exact orb_iff.mpr ⟨cp n t t', cp_mem h3 t t', act_cp (gd x hx) t t'⟩)
    (fun x hx y hy h => by
      obtain ⟨t, ht, rfl⟩ := orb_iff.mp h
      have gx := gd x hx
      have gy := gd _ hy
      refine Bu.cnt_eq (mots_nd n) (mots_nd n) (cp n (iv n t)) (cp n t) (fun g hg e => ?_) fun g hg e => ?_
      · rw [beq_iff_eq] at e
        refine ⟨cp_mem h3 _ _, ?_, cp_iv h3 t hg⟩
        rw [beq_iff_eq, act_cp gy, act_iv gx, e]
      · rw [beq_iff_eq] at e
        refine ⟨cp_mem h3 _ _, ?_, iv_cp h3 t hg⟩
        rw [beq_iff_eq, act_cp gx, e])
  rw [mots_len] at this
  exact this
end K07
namespace K07
open Vl
/-! ### the rings of cells that a motion leads into one another -/
noncomputable def cE : En Cell := eP eI eI
abbrev cD (x : Cell) : D := .tup [.int x.1, .int x.2]
theorem keyOk_c : KeyOk cE := keyOk_Pt
theorem power_ok (a : Nat) (ha : a ≤ 1000) (k : Nat) (hk : k ≤ 1000) (m) : den_power [.int a, .int k] m = .ok (.int ((a ^ k : Nat) : Int)) m := by
  refine fn_ok rfl ?_
  unfold body_power
  simp only [vA, ru_seq, Nat.reduceAdd, Nat.reduceSub, Nat.reduceLeDiff, reduceCtorEq, String.reduceEq, Int.reduceBEq, Int.reduceLT, Int.reduceLE, Int.reduceAdd, Int.reduceSub, Int.reduceMul, Int.reduceNeg, Nat.reduceBEq, Slot.shut, List.replicate, implies_true, rng1_int (show (-(2 ^ 62) : Int) ≤ (k : Int) by omega) (show (k : Int) < 2 ^ 62 by omega), Int.toNat_natCast]
  refine ru_forI (fun i s => ∃ c : Slot, s = ⟨[.val (.int a), .val (.int k), .val (.int ((a ^ i : Nat) : Int)), c], m⟩) ⟨.un, by rw [Nat.pow_zero]; rfl⟩ (fun i d s hi hI => ?_) (fun s hI => ?_)
  · obtain ⟨c, rfl⟩ := hI
    have e : ((a ^ i : Nat) : Int) * (a : Int) = ((a ^ (i + 1) : Nat) : Int) := by rw [Nat.pow_succ, Int.natCast_mul]
    simp only [vA, ru_seq, Nat.reduceAdd, Nat.reduceSub, Nat.reduceLeDiff, reduceCtorEq, String.reduceEq, Int.reduceBEq, Int.reduceLT, Int.reduceLE, Int.reduceAdd, Int.reduceSub, Int.reduceMul, Int.reduceNeg, Nat.reduceBEq, Slot.shut, List.replicate, implies_true, mulD_ii (i := ((a ^ i : Nat) : Int)) (j := (a : Int)) (by omega), e]
    exact ⟨_, rfl⟩
  · obtain ⟨c, rfl⟩ := hI
    simp only [vA, ru_seq, Nat.reduceAdd, Nat.reduceSub, Nat.reduceLeDiff, reduceCtorEq, String.reduceEq, Int.reduceBEq, Int.reduceLT, Int.reduceLE, Int.reduceAdd, Int.reduceSub, Int.reduceMul, Int.reduceNeg, Nat.reduceBEq, Slot.shut, List.replicate, implies_true, rngL_length]
theorem law_power_ok (a : Nat) (ha : a ≤ 1000) (k : Nat) (hk : k ≤ 1000) (m) : den__law_power [.int a, .int k] m = .ok (.int ((a ^ k : Nat) : Int)) m := by
  refine fn_ok rfl ?_
  unfold body__law_power
  simp only [vA, ru_seq, Nat.reduceAdd, Nat.reduceSub, Nat.reduceLeDiff, reduceCtorEq, String.reduceEq, Int.reduceBEq, Int.reduceLT, Int.reduceLE, Int.reduceAdd, Int.reduceSub, Int.reduceMul, Int.reduceNeg, Nat.reduceBEq, Slot.shut, List.replicate, implies_true, rng1_int (show (-(2 ^ 62) : Int) ≤ (k : Int) by omega) (show (k : Int) < 2 ^ 62 by omega), Int.toNat_natCast]
  refine ru_forI (fun i s => ∃ c : Slot, s = ⟨[.val (.int a), .val (.int k), .val (.int ((a ^ i : Nat) : Int)), c], m⟩) ⟨.un, by rw [Nat.pow_zero]; rfl⟩ (fun i d s hi hI => ?_) (fun s hI => ?_)
  · obtain ⟨c, rfl⟩ := hI
    have e : ((a ^ i : Nat) : Int) * (a : Int) = ((a ^ (i + 1) : Nat) : Int) := by rw [Nat.pow_succ, Int.natCast_mul]
    simp only [vA, ru_seq, Nat.reduceAdd, Nat.reduceSub, Nat.reduceLeDiff, reduceCtorEq, String.reduceEq, Int.reduceBEq, Int.reduceLT, Int.reduceLE, Int.reduceAdd, Int.reduceSub, Int.reduceMul, Int.reduceNeg, Nat.reduceBEq, Slot.shut, List.replicate, implies_true, mulD_ii (i := ((a ^ i : Nat) : Int)) (j := (a : Int)) (by omega), e]
    exact ⟨_, rfl⟩
  · obtain ⟨c, rfl⟩ := hI
    simp only [vA, ru_seq, Nat.reduceAdd, Nat.reduceSub, Nat.reduceLeDiff, reduceCtorEq, String.reduceEq, Int.reduceBEq, Int.reduceLT, Int.reduceLE, Int.reduceAdd, Int.reduceSub, Int.reduceMul, Int.reduceNeg, Nat.reduceBEq, Slot.shut, List.replicate, implies_true, rngL_length]
theorem cs_succ (i n : Nat) : cs (i + 1) n = cs i n ++ (List.range n).map fun c : Nat => ((i : Int), (c : Int)) := by
  unfold cs
  rw [List.range_succ, List.flatMap_append]
  simp
theorem cs_len (R n : Nat) : (cs R n).length = R * n := by
  induction R with
  | zero => simp [cs]
  | succ i ih => rw [cs_succ, List.length_append, ih, List.length_map, List.length_range, Nat.succ_mul]
theorem cs_nd (R n : Nat) : (cs R n).Nodup := by
  unfold cs
  refine nd_flat List.nodup_range (fun r _ => Bu.map_nd (fun a _ b _ e => by have := (Prod.mk.inj e).2; omega) List.nodup_range) fun a _ b _ x hx hy => ?_
  obtain ⟨k, _, rfl⟩ := List.mem_map.mp hx
  obtain ⟨j, _, e⟩ := List.mem_map.mp hy
  have := (Prod.mk.inj e).1
  omega
theorem rg (n : Nat) (hn : n ≤ 1000) : rng1 [.int (n : Int)] = some (rngL 0 n) := by
  have := rng1_int (show (-(2 ^ 62) : Int) ≤ (n : Int) by omega) (show (n : Int) < 2 ^ 62 by omega)
  rwa [Int.toNat_natCast] at this
theorem cells_ok {R n : Nat} (h2 : R ≤ 8) (h4 : n ≤ 24) (m) : den_cells_of [.int R, .int n] m = .ok (.lst ((cs R n).map cD)) m := by
  refine fn_ok rfl ?_
  unfold body_cells_of
  simp only [vA, ru_seq, Nat.reduceAdd, Nat.reduceSub, Nat.reduceLeDiff, reduceCtorEq, String.reduceEq, Int.reduceBEq, Int.reduceLT, Int.reduceLE, Int.reduceAdd, Int.reduceSub, Int.reduceMul, Int.reduceNeg, Nat.reduceBEq, Slot.shut, List.replicate, implies_true, rg R (by omega)]
  refine ru_forI (fun i s => i ≤ R ∧ ∃ c : Slot, s = ⟨[.val (.int R), .val (.int n), .val (.lst ((cs i n).map cD)), c, .un], m⟩) ⟨Nat.zero_le _, .un, rfl⟩ (fun i d s hi hI => ?_) (fun s hI => ?_)
  · obtain ⟨_, c, rfl⟩ := hI
    have hi2 := (rngL_get hi).1
    rw [(rngL_get hi).2]
    have hlen : ((cs i n).map cD).length ≤ 192 := by
      rw [List.length_map, cs_len]
      exact Nat.le_trans (Nat.mul_le_mul (show i ≤ 8 by omega) h4) (by decide)
    have rn := rg n (by omega)
    simp only [vA, ru_seq, Nat.reduceAdd, Nat.reduceSub, Nat.reduceLeDiff, reduceCtorEq, String.reduceEq, Int.reduceBEq, Int.reduceLT, Int.reduceLE, Int.reduceAdd, Int.reduceSub, Int.reduceMul, Int.reduceNeg, Nat.reduceBEq, Slot.shut, List.replicate, implies_true, rn, rngL_length]
    refine ⟨rfl, by omega, ?_⟩
    rw [rngL_map]
    refine ru_lcM (α := Nat) (xs := List.range n) (h := fun k => .int (0 + (k : Nat))) (k := fun k => cD ((i : Int), (k : Int))) (fun k hk => ?_) ?_
    · simp only [vA, ru_seq, Nat.reduceAdd, Nat.reduceSub, Nat.reduceLeDiff, reduceCtorEq, String.reduceEq, Int.reduceBEq, Int.reduceLT, Int.reduceLE, Int.reduceAdd, Int.reduceSub, Int.reduceMul, Int.reduceNeg, Nat.reduceBEq, Slot.shut, List.replicate, implies_true]
    · have e : ((List.range n).map fun k : Nat => cD ((i : Int), (k : Int))) = ((List.range n).map fun c : Nat => ((i : Int), (c : Int))).map cD := by rw [List.map_map]; rfl
      rw [e]
      have ha := addD_ll (a := (cs i n).map cD) (b := ((List.range n).map fun c : Nat => ((i : Int), (c : Int))).map cD) (by simp only [List.length_map, List.length_range] at hlen ⊢; omega)
      rw [← List.map_append, ← cs_succ] at ha
      simp only [vA, ru_seq, Nat.reduceAdd, Nat.reduceSub, Nat.reduceLeDiff, reduceCtorEq, String.reduceEq, Int.reduceBEq, Int.reduceLT, Int.reduceLE, Int.reduceAdd, Int.reduceSub, Int.reduceMul, Int.reduceNeg, Nat.reduceBEq, Slot.shut, List.replicate, implies_true, ha]
      exact ⟨by omega, _, rfl⟩
  · obtain ⟨_, c, rfl⟩ := hI
    simp only [vA, ru_seq, Nat.reduceAdd, Nat.reduceSub, Nat.reduceLeDiff, reduceCtorEq, String.reduceEq, Int.reduceBEq, Int.reduceLT, Int.reduceLE, Int.reduceAdd, Int.reduceSub, Int.reduceMul, Int.reduceNeg, Nat.reduceBEq, Slot.shut, List.replicate, implies_true, rngL_length]
theorem len_le {M : List Cell} {R n : Nat} (nd : M.Nodup) (sub : ∀ c ∈ M, c ∈ cs R n) : M.length ≤ R * n := by
  rw [← cs_len]
  exact Bu.sub_len nd sub
def muT (i b : Nat) (s : DS) : Nat := match s.env[i]? with
  | some (.ownT ks _) => b - ks.length
  | _ => 0
noncomputable abbrev tD (M : List Cell) : Slot := .ownT (M.map cE.e) (M.map fun _ => .bl true)
theorem t_in {x : Cell} {M : List Cell} (h : x ∈ M) : notInX (cD x) (.dT (M.map cE.e) (M.map fun _ => .bl true)) = some (.bl false) := by
  have := notInX_enD cE keyOk_c (f := fun _ => .bl true) x M
  exact this.trans (by simp [h])
theorem t_out {x : Cell} {M : List Cell} (h : x ∉ M) : notInX (cD x) (.dT (M.map cE.e) (M.map fun _ => .bl true)) = some (.bl true) := by
  have := notInX_enD cE keyOk_c (f := fun _ => .bl true) x M
  exact this.trans (by simp [h])
theorem rings_ok {R n : Nat} (h1 : 1 ≤ R) (h2 : R ≤ 8) (h3 : 1 ≤ n) (h4 : n ≤ 24) (e b : Bool) (k : Int) : ∃ many : Nat, many ≤ 192 ∧ (∀ s, 1 ≤ s → s ≤ 7 → s ^ many = fixN R n s e b k) ∧ ∀ m, den_rings_of [.int R, .int n, mot e b k] m = .ok (.int many) m := by
  have main : ∀ m, ∃ d m1, den_rings_of [.int R, .int n, mot e b k] m = .ok d m1 ∧ m1 = m ∧ ∃ many : Nat, d = .int many ∧ ∃ M, Cl R n (pim e b k R n) M many ∧ (∀ c ∈ cs R n, c ∈ M) ∧ many ≤ M.length := fun m => by
    refine fn_ex rfl ?_
    unfold body_rings_of
    have pi : ∀ x ∈ cs R n, pim e b k R n x ∈ cs R n := fun x hx => pim_cs h3 hx
    have inj := pim_inj (e := e) (b := b) (k := k) (R := R) (n := n)
    have gm : ∀ x : Cell, den_goes_to [mot e b k, cD x, .int R] m = _ := fun x => goes_ok e b k x.1 x.2 R m
    generalize hπ : pim e b k R n = π at pi inj ⊢
    (rw [ru_seq]; simp only [vA, Nat.reduceAdd, Nat.reduceSub, Nat.reduceLeDiff, reduceCtorEq, String.reduceEq, Int.reduceBEq, Int.reduceLT, Int.reduceLE, Int.reduceAdd, Int.reduceSub, Int.reduceMul, Int.reduceNeg, Nat.reduceBEq, Slot.shut, List.replicate, implies_true, vO])
    (rw [ru_seq]; simp only [vA, Nat.reduceAdd, Nat.reduceSub, Nat.reduceLeDiff, reduceCtorEq, String.reduceEq, Int.reduceBEq, Int.reduceLT, Int.reduceLE, Int.reduceAdd, Int.reduceSub, Int.reduceMul, Int.reduceNeg, Nat.reduceBEq, Slot.shut, List.replicate, implies_true, vO])
    (rw [ru_seq]; simp only [vA, Nat.reduceAdd, Nat.reduceSub, Nat.reduceLeDiff, reduceCtorEq, String.reduceEq, Int.reduceBEq, Int.reduceLT, Int.reduceLE, Int.reduceAdd, Int.reduceSub, Int.reduceMul, Int.reduceNeg, Nat.reduceBEq, Slot.shut, List.replicate, implies_true, vO, cells_ok h2 h4])
    refine ru_forI (fun i s => ∃ (M : List Cell) (many : Nat) (c5 c6 : Slot), Cl R n π M many ∧ (∀ c ∈ (cs R n).take i, c ∈ M) ∧ many ≤ M.length ∧ s = ⟨[.val (.int R), .val (.int n), .val (mot e b k), tD M, .val (.int many), c5, c6], m⟩) ⟨[], 0, .un, .un, Cl.nil R n π, by simp, Nat.le_refl _, rfl⟩ (fun i d s hi hI => ?_) (fun s hI => ?_)
    · obtain ⟨M, many, c5, c6, hcl, hall, hmm, rfl⟩ := hI
      rw [List.getElem?_map] at hi
      cases ec : (cs R n)[i]? with
      | none => rw [ec] at hi; cases hi
      | some c =>
        rw [ec] at hi
        cases hi
        have hcm : c ∈ cs R n := List.mem_of_getElem? ec
        have ht : (cs R n).take (i + 1) = (cs R n).take i ++ [c] := by rw [List.take_add_one, ec]; rfl
        by_cases hc : c ∈ M
        · have nec := t_in hc
          simp only [vA, Nat.reduceAdd, Nat.reduceSub, Nat.reduceLeDiff, reduceCtorEq, String.reduceEq, Int.reduceBEq, Int.reduceLT, Int.reduceLE, Int.reduceAdd, Int.reduceSub, Int.reduceMul, Int.reduceNeg, Nat.reduceBEq, Slot.shut, List.replicate, implies_true, nec]
          refine ⟨M, many, _, c6, hcl, fun x hx => ?_, hmm, rfl⟩
          rw [ht] at hx
          rcases List.mem_append.mp hx with hx | hx
          · exact hall x hx
          · rw [List.mem_singleton.mp hx]; exact hc
        · have nec := t_out hc
          simp only [vA, ru_seq, Nat.reduceAdd, Nat.reduceSub, Nat.reduceLeDiff, reduceCtorEq, String.reduceEq, Int.reduceBEq, Int.reduceLT, Int.reduceLE, Int.reduceAdd, Int.reduceSub, Int.reduceMul, Int.reduceNeg, Nat.reduceBEq, Slot.shut, List.replicate, implies_true, nec]
          refine ru_while (fun s => ∃ (j : Nat) (c6 : Slot), (Bu.pth π c j).Nodup ∧ s = ⟨[.val (.int R), .val (.int n), .val (mot e b k), tD (M ++ Bu.pth π c j), .val (.int (many + 1)), .val (cD (Bu.it π j c)), c6], m⟩) (muT 3 (R * n)) ⟨0, c6, by simp [Bu.pth], by simp [Bu.pth, Bu.it]⟩ fun s hI => ?_
          obtain ⟨j, c6, hnd, rfl⟩ := hI
          have itc : ∀ i, Bu.it π i c ∈ cs R n := fun i => by
            induction i with
            | zero => exact hcm
            | succ i ih => exact pi _ ih
          have itM : ∀ i, Bu.it π i c ∉ M := fun i => by
            induction i with
            | zero => exact hc
            | succ i ih => exact fun h => ih ((hcl.cl _ (itc i)).mpr h)
          by_cases hw : Bu.it π j c ∈ M ++ Bu.pth π c j
          · have new := t_in hw
            simp only [vA, Nat.reduceAdd, Nat.reduceSub, Nat.reduceLeDiff, reduceCtorEq, String.reduceEq, Int.reduceBEq, Int.reduceLT, Int.reduceLE, Int.reduceAdd, Int.reduceSub, Int.reduceMul, Int.reduceNeg, Nat.reduceBEq, Slot.shut, List.replicate, implies_true, new]
            have hj : 1 ≤ j := by
              rcases Nat.eq_zero_or_pos j with rfl | h
              · simp [Bu.pth, Bu.it] at hw
                exact absurd hw hc
              · exact h
            refine ⟨M ++ Bu.pth π c j, many + 1, _, _, hcl.step pi inj hcm hc hj hnd hw, fun x hx => ?_, ?_, rfl⟩
            · rw [ht] at hx
              rcases List.mem_append.mp hx with hx | hx
              · exact List.mem_append_left _ (hall x hx)
              · rw [List.mem_singleton.mp hx]
                exact List.mem_append_right _ (Bu.mem_pth.mpr ⟨0, hj, rfl⟩)
            · rw [List.length_append]
              have : (Bu.pth π c j).length = j := by simp [Bu.pth]
              omega
          · have new := t_out hw
            have hnd2 : (Bu.pth π c (j + 1)).Nodup := by
              rw [Bu.pth_succ]
              refine List.nodup_append.mpr ⟨hnd, by simp, fun a ha b hb e => hw ?_⟩
              rw [List.mem_singleton] at hb
              subst hb
              rw [← e]
              exact List.mem_append_right _ ha
            have hle : (M ++ Bu.pth π c (j + 1)).length ≤ R * n := by
              refine len_le (List.nodup_append.mpr ⟨hcl.nd, hnd2, fun a ha b hb e => ?_⟩) fun x hx => ?_
              · subst e
                obtain ⟨i, _, rfl⟩ := Bu.mem_pth.mp hb
                exact itM i ha
              · rcases List.mem_append.mp hx with hx | hx
                · exact hcl.sub x hx
                · obtain ⟨i, _, rfl⟩ := Bu.mem_pth.mp hx
                  exact itc i
            have hRn : R * n ≤ 192 := Nat.le_trans (Nat.mul_le_mul h2 h4) (by decide)
            have eM : M ++ Bu.pth π c (j + 1) = (M ++ Bu.pth π c j) ++ [Bu.it π j c] := by rw [Bu.pth_succ, List.append_assoc]
            rw [eM, List.length_append, List.length_singleton] at hle
            simp only [vA, Nat.reduceAdd, Nat.reduceSub, Nat.reduceLeDiff, reduceCtorEq, String.reduceEq, Int.reduceBEq, Int.reduceLT, Int.reduceLE, Int.reduceAdd, Int.reduceSub, Int.reduceMul, Int.reduceNeg, Nat.reduceBEq, Slot.shut, List.replicate, implies_true, new]
            rw [ru_seq]
            simp only [vA, Nat.reduceAdd, Nat.reduceSub, Nat.reduceLeDiff, reduceCtorEq, String.reduceEq, Int.reduceBEq, Int.reduceLT, Int.reduceLE, Int.reduceAdd, Int.reduceSub, Int.reduceMul, Int.reduceNeg, Nat.reduceBEq, Slot.shut, List.replicate, implies_true, ru_putv]
            refine ⟨rfl, ?_⟩
            show ru _ (putAt 3 (cE.e (Bu.it π j c)) ((fun _ : Cell => D.bl true) (Bu.it π j c))) _ _
            refine ru_putNew cE keyOk_c (f := fun _ => .bl true) rfl (by omega) hw ?_
            have gm2 := gm (Bu.it π j c)
            have eπ : π (Bu.it π j c) = (srcI e R (Bu.it π j c).1, colI b k (Bu.it π j c).2 % n) := by rw [← hπ]; rfl
            simp only [vA, ru_seq, Nat.reduceAdd, Nat.reduceSub, Nat.reduceLeDiff, reduceCtorEq, String.reduceEq, Int.reduceBEq, Int.reduceLT, Int.reduceLE, Int.reduceAdd, Int.reduceSub, Int.reduceMul, Int.reduceNeg, Nat.reduceBEq, Slot.shut, List.replicate, implies_true, gm2, ix_p0, ix_p1, rest_ok _ n h3 (by omega)]
            refine ⟨⟨j + 1, .val (.tup [.int (srcI e R (Bu.it π j c).1), .int (colI b k (Bu.it π j c).2)]), hnd2, ?_⟩, ?_⟩
            · rw [eM]
              show _ = DS.mk [_, _, _, _, _, .val (cD (π (Bu.it π j c))), _] m
              rw [eπ]
            · show R * n - (((M ++ Bu.pth π c j) ++ [Bu.it π j c]).map cE.e).length < R * n - ((M ++ Bu.pth π c j).map cE.e).length
              rw [List.length_map, List.length_map, List.length_append, List.length_singleton]
              omega
    · obtain ⟨M, many, c5, c6, hcl, hall, hmm, rfl⟩ := hI
      rw [List.length_map, List.take_length] at hall
      simp only [vA, Nat.reduceAdd, Nat.reduceSub, Nat.reduceLeDiff, reduceCtorEq, String.reduceEq, Int.reduceBEq, Int.reduceLT, Int.reduceLE, Int.reduceAdd, Int.reduceSub, Int.reduceMul, Int.reduceNeg, Nat.reduceBEq, Slot.shut, List.replicate, implies_true]
      exact ⟨many, rfl, M, hcl, hall, hmm⟩
  obtain ⟨d0, m0, e0, rfl, many, rfl, M, hM, hall, hmm⟩ := main []
  refine ⟨many, ?_, fun s hs hs7 => hM.all h1 h2 h3 h4 hall hs hs7, fun m => ?_⟩
  · have := len_le hM.nd hM.sub
    have : R * n ≤ 192 := Nat.le_trans (Nat.mul_le_mul h2 h4) (by decide)
    omega
  · obtain ⟨d1, m1, e1, rfl, many1, rfl, M1, hM1, hall1, _⟩ := main m
    have q1 := hM.all h1 h2 h3 h4 hall (s := 2) (by decide) (by decide)
    have q2 := hM1.all h1 h2 h3 h4 hall1 (s := 2) (by decide) (by decide)
    have : many1 = many := (Nat.pow_right_inj (by decide)).mp (q2.trans q1.symm)
    rw [e1, this]
theorem law_goes_ok (e b : Bool) (k : Int) {R n : Nat} (h3 : 1 ≤ n) (h4 : n ≤ 24) (x : Cell) (m) : den__law_goes [.int R, .int n, kd e b, .int k, cD x] m = .ok (cD (pim e b k R n x)) m := by
  refine fn_ok rfl ?_
  have md : ∀ i : Int, modD (.int i) (.int (n : Int)) = some (.int (i % n)) := fun i => modD_ii (by omega)
  unfold body__law_goes
  have e1 : inD (kd e b) (.tup [.str "moved", .str "mirrored"]) = some (.bl (!e)) := by cases e <;> cases b <;> rfl
  have e2 : inD (kd e b) (.tup [.str "moved", .str "glided"]) = some (.bl (!b)) := by cases e <;> cases b <;> rfl
  cases e <;> cases b <;> simp only [vA, ru_seq, Nat.reduceAdd, Nat.reduceSub, Nat.reduceLeDiff, reduceCtorEq, String.reduceEq, Int.reduceBEq, Int.reduceLT, Int.reduceLE, Int.reduceAdd, Int.reduceSub, Int.reduceMul, Int.reduceNeg, Nat.reduceBEq, Slot.shut, List.replicate, implies_true, e1, e2, md, pim, srcI, colI]
theorem law_rings_ok {R n : Nat} (h1 : 1 ≤ R) (h2 : R ≤ 8) (h3 : 1 ≤ n) (h4 : n ≤ 24) (e b : Bool) (k : Int) : ∃ many : Nat, many ≤ 192 ∧ (∀ s, 1 ≤ s → s ≤ 7 → s ^ many = fixN R n s e b k) ∧ ∀ m, den__law_rings [.int R, .int n, kd e b, .int k] m = .ok (.int many) m := by
  have main : ∀ m, ∃ d m1, den__law_rings [.int R, .int n, kd e b, .int k] m = .ok d m1 ∧ m1 = m ∧ ∃ many : Nat, d = .int many ∧ ∃ M, Cl R n (pim e b k R n) M many ∧ (∀ c ∈ cs R n, c ∈ M) ∧ many ≤ M.length := fun m => by
    refine fn_ex rfl ?_
    unfold body__law_rings
    have pi : ∀ x ∈ cs R n, pim e b k R n x ∈ cs R n := fun x hx => pim_cs h3 hx
    have inj := pim_inj (e := e) (b := b) (k := k) (R := R) (n := n)
    have gm : ∀ x : Cell, den__law_goes [.int R, .int n, kd e b, .int k, cD x] m = .ok (cD (pim e b k R n x)) m := fun x => law_goes_ok e b k h3 h4 x m
    generalize hπ : pim e b k R n = π at pi inj ⊢
    (rw [ru_seq]; simp only [vA, Nat.reduceAdd, Nat.reduceSub, Nat.reduceLeDiff, reduceCtorEq, String.reduceEq, Int.reduceBEq, Int.reduceLT, Int.reduceLE, Int.reduceAdd, Int.reduceSub, Int.reduceMul, Int.reduceNeg, Nat.reduceBEq, Slot.shut, List.replicate, implies_true, vO])
    refine ru_seqI (fun s => ∃ c5 : Slot, s = ⟨[.val (.int R), .val (.int n), .val (kd e b), .val (.int k), .val (.lst ((cs R n).map cD)), c5, .un, .un, .un, .un], m⟩) ?_ fun s1 hI => ?_
    · simp only [vA, ru_seq, Nat.reduceAdd, Nat.reduceSub, Nat.reduceLeDiff, reduceCtorEq, String.reduceEq, Int.reduceBEq, Int.reduceLT, Int.reduceLE, Int.reduceAdd, Int.reduceSub, Int.reduceMul, Int.reduceNeg, Nat.reduceBEq, Slot.shut, List.replicate, implies_true, rg R (by omega)]
      refine ru_forI (fun i s => i ≤ R ∧ ∃ c : Slot, s = ⟨[.val (.int R), .val (.int n), .val (kd e b), .val (.int k), .val (.lst ((cs i n).map cD)), c, .un, .un, .un, .un], m⟩) ⟨Nat.zero_le _, .un, rfl⟩ (fun i d s hi hI => ?_) (fun s hI => ?_)
      · obtain ⟨_, c, rfl⟩ := hI
        have hi2 := (rngL_get hi).1
        rw [(rngL_get hi).2]
        have hlen : ((cs i n).map cD).length ≤ 192 := by
          rw [List.length_map, cs_len]
          exact Nat.le_trans (Nat.mul_le_mul (show i ≤ 8 by omega) h4) (by decide)
        have rn := rg n (by omega)
        simp only [vA, ru_seq, Nat.reduceAdd, Nat.reduceSub, Nat.reduceLeDiff, reduceCtorEq, String.reduceEq, Int.reduceBEq, Int.reduceLT, Int.reduceLE, Int.reduceAdd, Int.reduceSub, Int.reduceMul, Int.reduceNeg, Nat.reduceBEq, Slot.shut, List.replicate, implies_true, rn, rngL_length]
        refine ⟨rfl, by omega, ?_⟩
        rw [rngL_map]
        refine ru_lcM (α := Nat) (xs := List.range n) (h := fun k => .int (0 + (k : Nat))) (k := fun k => cD ((i : Int), (k : Int))) (fun k hk => ?_) ?_
        · simp only [vA, ru_seq, Nat.reduceAdd, Nat.reduceSub, Nat.reduceLeDiff, reduceCtorEq, String.reduceEq, Int.reduceBEq, Int.reduceLT, Int.reduceLE, Int.reduceAdd, Int.reduceSub, Int.reduceMul, Int.reduceNeg, Nat.reduceBEq, Slot.shut, List.replicate, implies_true]
        · have e : ((List.range n).map fun k : Nat => cD ((i : Int), (k : Int))) = ((List.range n).map fun c : Nat => ((i : Int), (c : Int))).map cD := by rw [List.map_map]; rfl
          rw [e]
          have ha := addD_ll (a := (cs i n).map cD) (b := ((List.range n).map fun c : Nat => ((i : Int), (c : Int))).map cD) (by simp only [List.length_map, List.length_range] at hlen ⊢; omega)
          rw [← List.map_append, ← cs_succ] at ha
          simp only [vA, ru_seq, Nat.reduceAdd, Nat.reduceSub, Nat.reduceLeDiff, reduceCtorEq, String.reduceEq, Int.reduceBEq, Int.reduceLT, Int.reduceLE, Int.reduceAdd, Int.reduceSub, Int.reduceMul, Int.reduceNeg, Nat.reduceBEq, Slot.shut, List.replicate, implies_true, ha]
          exact ⟨by omega, _, rfl⟩
      · obtain ⟨_, c, rfl⟩ := hI
        rw [rngL_length]
        exact ⟨rfl, _, rfl⟩
    obtain ⟨c5, rfl⟩ := hI
    (rw [ru_seq]; simp only [vA, Nat.reduceAdd, Nat.reduceSub, Nat.reduceLeDiff, reduceCtorEq, String.reduceEq, Int.reduceBEq, Int.reduceLT, Int.reduceLE, Int.reduceAdd, Int.reduceSub, Int.reduceMul, Int.reduceNeg, Nat.reduceBEq, Slot.shut, List.replicate, implies_true, vO])
    (rw [ru_seq]; simp only [vA, Nat.reduceAdd, Nat.reduceSub, Nat.reduceLeDiff, reduceCtorEq, String.reduceEq, Int.reduceBEq, Int.reduceLT, Int.reduceLE, Int.reduceAdd, Int.reduceSub, Int.reduceMul, Int.reduceNeg, Nat.reduceBEq, Slot.shut, List.replicate, implies_true, vO])
    rw [ru_seq]
    simp only [vA, Nat.reduceAdd, Nat.reduceSub, Nat.reduceLeDiff, reduceCtorEq, String.reduceEq, Int.reduceBEq, Int.reduceLT, Int.reduceLE, Int.reduceAdd, Int.reduceSub, Int.reduceMul, Int.reduceNeg, Nat.reduceBEq, Slot.shut, List.replicate, implies_true]
    refine ru_forI (fun i s => ∃ (M : List Cell) (many : Nat) (c8 : Slot), Cl R n π M many ∧ (∀ c ∈ (cs R n).take i, c ∈ M) ∧ many ≤ M.length ∧ s = ⟨[.val (.int R), .val (.int n), .val (kd e b), .val (.int k), .val (.lst ((cs R n).map cD)), c5, tD M, .val (.int many), c8, .un], m⟩) ⟨[], 0, .un, Cl.nil R n π, by simp, Nat.le_refl _, rfl⟩ (fun i d s hi hI => ?_) (fun s hI => ?_)
    · obtain ⟨M, many, c8, hcl, hall, hmm, rfl⟩ := hI
      rw [List.getElem?_map] at hi
      cases ec : (cs R n)[i]? with
      | none => rw [ec] at hi; cases hi
      | some c =>
        rw [ec] at hi
        cases hi
        have hcm : c ∈ cs R n := List.mem_of_getElem? ec
        have ht : (cs R n).take (i + 1) = (cs R n).take i ++ [c] := by rw [List.take_add_one, ec]; rfl
        by_cases hc : c ∈ M
        · have nec := t_in hc
          simp only [vA, Nat.reduceAdd, Nat.reduceSub, Nat.reduceLeDiff, reduceCtorEq, String.reduceEq, Int.reduceBEq, Int.reduceLT, Int.reduceLE, Int.reduceAdd, Int.reduceSub, Int.reduceMul, Int.reduceNeg, Nat.reduceBEq, Slot.shut, List.replicate, implies_true, nec]
          refine ⟨M, many, _, hcl, fun x hx => ?_, hmm, rfl⟩
          rw [ht] at hx
          rcases List.mem_append.mp hx with hx | hx
          · exact hall x hx
          · rw [List.mem_singleton.mp hx]; exact hc
        · have nec := t_out hc
          simp only [vA, ru_seq, Nat.reduceAdd, Nat.reduceSub, Nat.reduceLeDiff, reduceCtorEq, String.reduceEq, Int.reduceBEq, Int.reduceLT, Int.reduceLE, Int.reduceAdd, Int.reduceSub, Int.reduceMul, Int.reduceNeg, Nat.reduceBEq, Slot.shut, List.replicate, implies_true, nec]
          refine ru_while (fun s => ∃ (j : Nat), (Bu.pth π c j).Nodup ∧ s = ⟨[.val (.int R), .val (.int n), .val (kd e b), .val (.int k), .val (.lst ((cs R n).map cD)), c5, tD (M ++ Bu.pth π c j), .val (.int (many + 1)), .val (cD (Bu.it π j c)), .un], m⟩) (muT 6 (R * n)) ⟨0, by simp [Bu.pth], by simp [Bu.pth, Bu.it]⟩ fun s hI => ?_
          obtain ⟨j, hnd, rfl⟩ := hI
          have itc : ∀ i, Bu.it π i c ∈ cs R n := fun i => by
            induction i with
            | zero => exact hcm
            | succ i ih => exact pi _ ih
          have itM : ∀ i, Bu.it π i c ∉ M := fun i => by
            induction i with
            | zero => exact hc
            | succ i ih => exact fun h => ih ((hcl.cl _ (itc i)).mpr h)
          by_cases hw : Bu.it π j c ∈ M ++ Bu.pth π c j
          · have new := t_in hw
            simp only [vA, Nat.reduceAdd, Nat.reduceSub, Nat.reduceLeDiff, reduceCtorEq, String.reduceEq, Int.reduceBEq, Int.reduceLT, Int.reduceLE, Int.reduceAdd, Int.reduceSub, Int.reduceMul, Int.reduceNeg, Nat.reduceBEq, Slot.shut, List.replicate, implies_true, new]
            have hj : 1 ≤ j := by
              rcases Nat.eq_zero_or_pos j with rfl | h
              · simp [Bu.pth, Bu.it] at hw
                exact absurd hw hc
              · exact h
            refine ⟨M ++ Bu.pth π c j, many + 1, _, hcl.step pi inj hcm hc hj hnd hw, fun x hx => ?_, ?_, rfl⟩
            · rw [ht] at hx
              rcases List.mem_append.mp hx with hx | hx
              · exact List.mem_append_left _ (hall x hx)
              · rw [List.mem_singleton.mp hx]
                exact List.mem_append_right _ (Bu.mem_pth.mpr ⟨0, hj, rfl⟩)
            · rw [List.length_append]
              have : (Bu.pth π c j).length = j := by simp [Bu.pth]
              omega
          · have new := t_out hw
            have hnd2 : (Bu.pth π c (j + 1)).Nodup := by
              rw [Bu.pth_succ]
              refine List.nodup_append.mpr ⟨hnd, by simp, fun a ha b hb e => hw ?_⟩
              rw [List.mem_singleton] at hb
              subst hb
              rw [← e]
              exact List.mem_append_right _ ha
            have hle : (M ++ Bu.pth π c (j + 1)).length ≤ R * n := by
              refine len_le (List.nodup_append.mpr ⟨hcl.nd, hnd2, fun a ha b hb e => ?_⟩) fun x hx => ?_
              · subst e
                obtain ⟨i, _, rfl⟩ := Bu.mem_pth.mp hb
                exact itM i ha
              · rcases List.mem_append.mp hx with hx | hx
                · exact hcl.sub x hx
                · obtain ⟨i, _, rfl⟩ := Bu.mem_pth.mp hx
                  exact itc i
            have hRn : R * n ≤ 192 := Nat.le_trans (Nat.mul_le_mul h2 h4) (by decide)
            have eM : M ++ Bu.pth π c (j + 1) = (M ++ Bu.pth π c j) ++ [Bu.it π j c] := by rw [Bu.pth_succ, List.append_assoc]
            rw [eM, List.length_append, List.length_singleton] at hle
            simp only [vA, Nat.reduceAdd, Nat.reduceSub, Nat.reduceLeDiff, reduceCtorEq, String.reduceEq, Int.reduceBEq, Int.reduceLT, Int.reduceLE, Int.reduceAdd, Int.reduceSub, Int.reduceMul, Int.reduceNeg, Nat.reduceBEq, Slot.shut, List.replicate, implies_true, new]
            rw [ru_seq]
            simp only [vA, Nat.reduceAdd, Nat.reduceSub, Nat.reduceLeDiff, reduceCtorEq, String.reduceEq, Int.reduceBEq, Int.reduceLT, Int.reduceLE, Int.reduceAdd, Int.reduceSub, Int.reduceMul, Int.reduceNeg, Nat.reduceBEq, Slot.shut, List.replicate, implies_true, ru_putv]
            refine ⟨rfl, ?_⟩
            show ru _ (putAt 6 (cE.e (Bu.it π j c)) ((fun _ : Cell => D.bl true) (Bu.it π j c))) _ _
            refine ru_putNew cE keyOk_c (f := fun _ => .bl true) rfl (by omega) hw ?_
            have gm2 := gm (Bu.it π j c)
            simp only [vA, ru_seq, Nat.reduceAdd, Nat.reduceSub, Nat.reduceLeDiff, reduceCtorEq, String.reduceEq, Int.reduceBEq, Int.reduceLT, Int.reduceLE, Int.reduceAdd, Int.reduceSub, Int.reduceMul, Int.reduceNeg, Nat.reduceBEq, Slot.shut, List.replicate, implies_true, gm2]
            refine ⟨⟨j + 1, hnd2, ?_⟩, ?_⟩
            · rw [eM, hπ]
              rfl
            · show R * n - (((M ++ Bu.pth π c j) ++ [Bu.it π j c]).map cE.e).length < R * n - ((M ++ Bu.pth π c j).map cE.e).length
              rw [List.length_map, List.length_map, List.length_append, List.length_singleton]
              omega
    · obtain ⟨M, many, c8, hcl, hall, hmm, rfl⟩ := hI
      rw [List.length_map, List.take_length] at hall
      simp only [vA, Nat.reduceAdd, Nat.reduceSub, Nat.reduceLeDiff, reduceCtorEq, String.reduceEq, Int.reduceBEq, Int.reduceLT, Int.reduceLE, Int.reduceAdd, Int.reduceSub, Int.reduceMul, Int.reduceNeg, Nat.reduceBEq, Slot.shut, List.replicate, implies_true]
      exact ⟨many, rfl, M, hcl, hall, hmm⟩
  obtain ⟨d0, m0, e0, rfl, many, rfl, M, hM, hall, hmm⟩ := main []
  refine ⟨many, ?_, fun s hs hs7 => hM.all h1 h2 h3 h4 hall hs hs7, fun m => ?_⟩
  · have := len_le hM.nd hM.sub
    have : R * n ≤ 192 := Nat.le_trans (Nat.mul_le_mul h2 h4) (by decide)
    omega
  · obtain ⟨d1, m1, e1, rfl, many1, rfl, M1, hM1, hall1, _⟩ := main m
    have q1 := hM.all h1 h2 h3 h4 hall (s := 2) (by decide) (by decide)
    have q2 := hM1.all h1 h2 h3 h4 hall1 (s := 2) (by decide) (by decide)
    have : many1 = many := (Nat.pow_right_inj (by decide)).mp (q2.trans q1.symm)
    rw [e1, this]
end K07
namespace K07
open Vl
/-! ### how many pieces a motion keeps, how many unlike ones there are -/
theorem num_ok (v lo hi : Int) (m) : den_is_number [.int v, .int lo, .int hi] m = .ok (.bl (decide (lo ≤ v) && decide (v ≤ hi))) m := by
  refine fn_ok rfl ?_
  by_cases h : lo ≤ v
  · simp only [vA, ru_seq, Nat.reduceAdd, Nat.reduceSub, Nat.reduceLeDiff, reduceCtorEq, String.reduceEq, Int.reduceBEq, Int.reduceLT, Int.reduceLE, Int.reduceAdd, Int.reduceSub, Int.reduceMul, Int.reduceNeg, Nat.reduceBEq, Slot.shut, List.replicate, implies_true, body_is_number, decide_eq_true h, Bool.true_and]
  · simp only [vA, ru_seq, Nat.reduceAdd, Nat.reduceSub, Nat.reduceLeDiff, reduceCtorEq, String.reduceEq, Int.reduceBEq, Int.reduceLT, Int.reduceLE, Int.reduceAdd, Int.reduceSub, Int.reduceMul, Int.reduceNeg, Nat.reduceBEq, Slot.shut, List.replicate, implies_true, body_is_number, decide_eq_false h, Bool.false_and]
theorem num_in {v lo hi : Int} (h1 : lo ≤ v) (h2 : v ≤ hi) (m) : den_is_number [.int v, .int lo, .int hi] m = .ok (.bl true) m := by
  rw [num_ok, decide_eq_true h1, decide_eq_true h2]; rfl
theorem num_bl (b : Bool) (lo hi : Int) (m) : den_is_number [.bl b, .int lo, .int hi] m = .ok (.bl false) m := by
  refine fn_ok rfl ?_
  simp only [vA, ru_seq, Nat.reduceAdd, Nat.reduceSub, Nat.reduceLeDiff, reduceCtorEq, String.reduceEq, Int.reduceBEq, Int.reduceLT, Int.reduceLE, Int.reduceAdd, Int.reduceSub, Int.reduceMul, Int.reduceNeg, Nat.reduceBEq, Slot.shut, List.replicate, implies_true, body_is_number]
theorem num_non (lo hi : Int) (m) : den_is_number [.non, .int lo, .int hi] m = .ok (.bl false) m := by
  refine fn_ok rfl ?_
  simp only [vA, ru_seq, Nat.reduceAdd, Nat.reduceSub, Nat.reduceLeDiff, reduceCtorEq, String.reduceEq, Int.reduceBEq, Int.reduceLT, Int.reduceLE, Int.reduceAdd, Int.reduceSub, Int.reduceMul, Int.reduceNeg, Nat.reduceBEq, Slot.shut, List.replicate, implies_true, body_is_number]
theorem check_num_ok {v lo hi : Int} (h1 : lo ≤ v) (h2 : v ≤ hi) (m) : den_check_number [.int v, .int lo, .int hi] m = .ok .non m := by
  refine fn_ok rfl ?_
  simp only [vA, ru_seq, Nat.reduceAdd, Nat.reduceSub, Nat.reduceLeDiff, reduceCtorEq, String.reduceEq, Int.reduceBEq, Int.reduceLT, Int.reduceLE, Int.reduceAdd, Int.reduceSub, Int.reduceMul, Int.reduceNeg, Nat.reduceBEq, Slot.shut, List.replicate, implies_true, body_check_number, num_in h1 h2]
theorem check_all_ok {R n s : Nat} (h1 : 1 ≤ R) (h2 : R ≤ 8) (h3 : 1 ≤ n) (h4 : n ≤ 24) (h5 : 1 ≤ s) (h6 : s ≤ 7) (m) : den_check_all [.int R, .int n, .int s] m = .ok .non m := by
  have e : den_check_sizes [.int R, .int n] m = .ok .non m := fn_ok rfl (by
    simp only [vA, ru_seq, Nat.reduceAdd, Nat.reduceSub, Nat.reduceLeDiff, reduceCtorEq, String.reduceEq, Int.reduceBEq, Int.reduceLT, Int.reduceLE, Int.reduceAdd, Int.reduceSub, Int.reduceMul, Int.reduceNeg, Nat.reduceBEq, Slot.shut, List.replicate, implies_true, body_check_sizes, c_MOST_ROWS, c_MOST_COLUMNS, check_num_ok (v := (R : Int)) (lo := 1) (hi := 8) (by omega) (by omega), check_num_ok (v := (n : Int)) (lo := 1) (hi := 24) (by omega) (by omega)])
  refine fn_ok rfl ?_
  have l : ∀ s : DS, lookD s c_SIGNS = c_SIGNS := fun _ => rfl
  have l7 : lenD c_SIGNS = some (.int 7) := rfl
  simp only [vA, ru_seq, Nat.reduceAdd, Nat.reduceSub, Nat.reduceLeDiff, reduceCtorEq, String.reduceEq, Int.reduceBEq, Int.reduceLT, Int.reduceLE, Int.reduceAdd, Int.reduceSub, Int.reduceMul, Int.reduceNeg, Nat.reduceBEq, Slot.shut, List.replicate, implies_true, body_check_all, e, l, l7, check_num_ok (v := (s : Int)) (lo := 1) (hi := 7) (by omega) (by omega)]
theorem motion_ok (e b : Bool) {k : Int} (h1 : -1000000 ≤ k) (h2 : k ≤ 1000000) (m) : den_check_motion [mot e b k] m = .ok .non m := by
  have l : ∀ s : DS, lookD s c_KINDS = c_KINDS := fun _ => rfl
  have ik : inX (kd e b) c_KINDS = some (.bl true) := by cases e <;> cases b <;> rfl
  have hm : den_is_motion [mot e b k] m = .ok (.bl true) m := by
    refine fn_ok rfl ?_
    simp only [vA, ru_seq, Nat.reduceAdd, Nat.reduceSub, Nat.reduceLeDiff, reduceCtorEq, String.reduceEq, Int.reduceBEq, Int.reduceLT, Int.reduceLE, Int.reduceAdd, Int.reduceSub, Int.reduceMul, Int.reduceNeg, Nat.reduceBEq, Slot.shut, List.replicate, implies_true, body_is_motion, ix_p0, ix_p1, isi_kd, l, ik, c_MOST_MOVE, num_in h1 h2]
  refine fn_ok rfl ?_
  simp only [vA, ru_seq, Nat.reduceAdd, Nat.reduceSub, Nat.reduceLeDiff, reduceCtorEq, String.reduceEq, Int.reduceBEq, Int.reduceLT, Int.reduceLE, Int.reduceAdd, Int.reduceSub, Int.reduceMul, Int.reduceNeg, Nat.reduceBEq, Slot.shut, List.replicate, implies_true, body_check_motion, hm]
theorem kept_by_ok {R n s : Nat} (h1 : 1 ≤ R) (h2 : R ≤ 8) (h3 : 1 ≤ n) (h4 : n ≤ 24) (h5 : 1 ≤ s) (h6 : s ≤ 7) (e b : Bool) {k : Int} (k1 : -1000000 ≤ k) (k2 : k ≤ 1000000) (m) : den_kept_by [.int R, .int n, .int s, mot e b k] m = .ok (.int (fixN R n s e b k)) m := by
  obtain ⟨many, q1, q2, q3⟩ := rings_ok h1 h2 h3 h4 e b k
  refine fn_ok rfl ?_
  simp only [vA, ru_seq, Nat.reduceAdd, Nat.reduceSub, Nat.reduceLeDiff, reduceCtorEq, String.reduceEq, Int.reduceBEq, Int.reduceLT, Int.reduceLE, Int.reduceAdd, Int.reduceSub, Int.reduceMul, Int.reduceNeg, Nat.reduceBEq, Slot.shut, List.replicate, implies_true, body_kept_by, check_all_ok h1 h2 h3 h4 h5 h6, motion_ok e b k1 k2, q3, power_ok s (by omega) many (by omega), q2 s h5 h6]
theorem sum_cast {α : Type} (l : List α) (f : α → Nat) : ((l.map fun t => ((f t : Nat) : Int)).sum) = ((Bu.sm l f : Nat) : Int) := by
  induction l with
  | nil => rfl
  | cons a r ih => rw [List.map_cons, List.sum_cons, ih, Bu.sm_cons, Int.natCast_add]
theorem count_unlike_ok {R n s : Nat} (h1 : 1 ≤ R) (h2 : R ≤ 8) (h3 : 1 ≤ n) (h4 : n ≤ 24) (h5 : 1 ≤ s) (h6 : s ≤ 7) (m) : den_count_unlike [.int R, .int n, .int s] m = .ok (.int (firsts R n s).length) m := by
  refine fn_ok rfl ?_
  unfold body_count_unlike
  have ml : (mots n).length ≤ 96 := by rw [mots_len]; omega
  (rw [ru_seq]; simp only [vA, Nat.reduceAdd, Nat.reduceSub, Nat.reduceLeDiff, reduceCtorEq, String.reduceEq, Int.reduceBEq, Int.reduceLT, Int.reduceLE, Int.reduceAdd, Int.reduceSub, Int.reduceMul, Int.reduceNeg, Nat.reduceBEq, Slot.shut, List.replicate, implies_true, vO, check_all_ok h1 h2 h3 h4 h5 h6])
  (rw [ru_seq]; simp only [vA, Nat.reduceAdd, Nat.reduceSub, Nat.reduceLeDiff, reduceCtorEq, String.reduceEq, Int.reduceBEq, Int.reduceLT, Int.reduceLE, Int.reduceAdd, Int.reduceSub, Int.reduceMul, Int.reduceNeg, Nat.reduceBEq, Slot.shut, List.replicate, implies_true, vO, motions_ok n h4])
  refine ⟨by omega, ?_⟩
  refine ru_lcM (α := (Bool × Bool) × Nat) (xs := mots n) (h := mD) (k := fun t => .int (fixN R n s t.1.1 t.1.2 t.2)) (fun t ht => ?_) ?_
  · obtain ⟨many, q1, q2, q3⟩ := rings_ok h1 h2 h3 h4 t.1.1 t.1.2 t.2
    simp only [vA, Nat.reduceAdd, Nat.reduceSub, Nat.reduceLeDiff, reduceCtorEq, String.reduceEq, Int.reduceBEq, Int.reduceLT, Int.reduceLE, Int.reduceAdd, Int.reduceSub, Int.reduceMul, Int.reduceNeg, Nat.reduceBEq, Slot.shut, List.replicate, implies_true, q3, power_ok s (by omega) many (by omega), q2 s h5 h6]
  · have e : ((mots n).map fun t => D.int (fixN R n s t.1.1 t.1.2 t.2 : Nat)) = ((mots n).map fun t => ((fixN R n s t.1.1 t.1.2 t.2 : Nat) : Int)).map .int := by rw [List.map_map]; rfl
    rw [e]
    have ed : ((((firsts R n s).length * (4 * n) : Nat) : Int) / (4 * (n : Int))) = (firsts R n s).length := by
      rw [Int.natCast_mul, show ((4 * n : Nat) : Int) = 4 * (n : Int) by omega]
      exact Int.mul_ediv_cancel _ (by omega)
    simp only [vA, Nat.reduceAdd, Nat.reduceSub, Nat.reduceLeDiff, reduceCtorEq, String.reduceEq, Int.reduceBEq, Int.reduceLT, Int.reduceLE, Int.reduceAdd, Int.reduceSub, Int.reduceMul, Int.reduceNeg, Nat.reduceBEq, Slot.shut, List.replicate, implies_true, ru_sum]
    rw [sum_cast, total_eq h1 h2 h3 h4]
    simp only [vA, Nat.reduceAdd, Nat.reduceSub, Nat.reduceLeDiff, reduceCtorEq, String.reduceEq, Int.reduceBEq, Int.reduceLT, Int.reduceLE, Int.reduceAdd, Int.reduceSub, Int.reduceMul, Int.reduceNeg, Nat.reduceBEq, Slot.shut, List.replicate, implies_true, mulD_ii (i := 4) (j := (n : Int)) (by omega), fdivD_ii (i := (((firsts R n s).length * (4 * n) : Nat) : Int)) (j := 4 * (n : Int)) (by omega) (by omega), ed]
end K07
namespace K07
open Vl
/-! ### what is refused -/
theorem check_num_err {d : D} {lo hi : Int} (h : ∀ m, den_is_number [d, .int lo, .int hi] m = .ok (.bl false) m) (m) : den_check_number [d, .int lo, .int hi] m = .err "BadArgument" m := by
  refine fn_err rfl ?_
  simp only [vA, ru_seq, Nat.reduceAdd, Nat.reduceSub, Nat.reduceLeDiff, reduceCtorEq, String.reduceEq, Int.reduceBEq, Int.reduceLT, Int.reduceLE, Int.reduceAdd, Int.reduceSub, Int.reduceMul, Int.reduceNeg, Nat.reduceBEq, Slot.shut, List.replicate, implies_true, body_check_number, h, ru_raise]
theorem num_out {v lo hi : Int} (h : v < lo ∨ hi < v) (m) : den_is_number [.int v, .int lo, .int hi] m = .ok (.bl false) m := by
  rw [num_ok]
  have : (decide (lo ≤ v) && decide (v ≤ hi)) = false := by
    rcases h with h | h
    · rw [decide_eq_false (show ¬ lo ≤ v by omega)]; rfl
    · rw [decide_eq_false (show ¬ v ≤ hi by omega), Bool.and_false]
  rw [this]
theorem all_err {a b c : D} (h : (∀ m, den_is_number [a, .int 1, .int 8] m = .ok (.bl false) m) ∨ ((∀ m, den_is_number [a, .int 1, .int 8] m = .ok (.bl true) m) ∧ ((∀ m, den_is_number [b, .int 1, .int 24] m = .ok (.bl false) m) ∨ ((∀ m, den_is_number [b, .int 1, .int 24] m = .ok (.bl true) m) ∧ ∀ m, den_is_number [c, .int 1, .int 7] m = .ok (.bl false) m)))) (m) : den_check_all [a, b, c] m = .err "BadArgument" m := by
  have l : ∀ s : DS, lookD s c_SIGNS = c_SIGNS := fun _ => rfl
  have l7 : lenD c_SIGNS = some (.int 7) := rfl
  have ok : ∀ {d : D} {lo hi : Int}, (∀ m, den_is_number [d, .int lo, .int hi] m = .ok (.bl true) m) → ∀ m, den_check_number [d, .int lo, .int hi] m = .ok .non m := fun h m => fn_ok rfl (by simp only [vA, ru_seq, Nat.reduceAdd, Nat.reduceSub, Nat.reduceLeDiff, reduceCtorEq, String.reduceEq, Int.reduceBEq, Int.reduceLT, Int.reduceLE, Int.reduceAdd, Int.reduceSub, Int.reduceMul, Int.reduceNeg, Nat.reduceBEq, Slot.shut, List.replicate, implies_true, body_check_number, h])
  refine fn_err rfl ?_
  rcases h with h | ⟨h, h' | ⟨h', h''⟩⟩
  · have e : ∀ m, den_check_sizes [a, b] m = .err "BadArgument" m := fun m => fn_err rfl (by simp only [vA, ru_seq, Nat.reduceAdd, Nat.reduceSub, Nat.reduceLeDiff, reduceCtorEq, String.reduceEq, Int.reduceBEq, Int.reduceLT, Int.reduceLE, Int.reduceAdd, Int.reduceSub, Int.reduceMul, Int.reduceNeg, Nat.reduceBEq, Slot.shut, List.replicate, implies_true, body_check_sizes, c_MOST_ROWS, check_num_err h])
    simp only [vA, ru_seq, Nat.reduceAdd, Nat.reduceSub, Nat.reduceLeDiff, reduceCtorEq, String.reduceEq, Int.reduceBEq, Int.reduceLT, Int.reduceLE, Int.reduceAdd, Int.reduceSub, Int.reduceMul, Int.reduceNeg, Nat.reduceBEq, Slot.shut, List.replicate, implies_true, body_check_all, e]
  · have e : ∀ m, den_check_sizes [a, b] m = .err "BadArgument" m := fun m => fn_err rfl (by simp only [vA, ru_seq, Nat.reduceAdd, Nat.reduceSub, Nat.reduceLeDiff, reduceCtorEq, String.reduceEq, Int.reduceBEq, Int.reduceLT, Int.reduceLE, Int.reduceAdd, Int.reduceSub, Int.reduceMul, Int.reduceNeg, Nat.reduceBEq, Slot.shut, List.replicate, implies_true, body_check_sizes, c_MOST_ROWS, c_MOST_COLUMNS, ok h, check_num_err h'])
    simp only [vA, ru_seq, Nat.reduceAdd, Nat.reduceSub, Nat.reduceLeDiff, reduceCtorEq, String.reduceEq, Int.reduceBEq, Int.reduceLT, Int.reduceLE, Int.reduceAdd, Int.reduceSub, Int.reduceMul, Int.reduceNeg, Nat.reduceBEq, Slot.shut, List.replicate, implies_true, body_check_all, e]
  · have e : ∀ m, den_check_sizes [a, b] m = .ok .non m := fun m => fn_ok rfl (by simp only [vA, ru_seq, Nat.reduceAdd, Nat.reduceSub, Nat.reduceLeDiff, reduceCtorEq, String.reduceEq, Int.reduceBEq, Int.reduceLT, Int.reduceLE, Int.reduceAdd, Int.reduceSub, Int.reduceMul, Int.reduceNeg, Nat.reduceBEq, Slot.shut, List.replicate, implies_true, body_check_sizes, c_MOST_ROWS, c_MOST_COLUMNS, ok h, ok h'])
    simp only [vA, ru_seq, Nat.reduceAdd, Nat.reduceSub, Nat.reduceLeDiff, reduceCtorEq, String.reduceEq, Int.reduceBEq, Int.reduceLT, Int.reduceLE, Int.reduceAdd, Int.reduceSub, Int.reduceMul, Int.reduceNeg, Nat.reduceBEq, Slot.shut, List.replicate, implies_true, body_check_all, e, l, l7, check_num_err h'']
theorem err_arg {a b c mo : D} (h : ∀ m, den_check_all [a, b, c] m = .err "BadArgument" m) {name : D} (hn : name = .str "kept" ∨ name = .str "unlike" ∨ name = .str "pieces" ∨ name = .str "kinds") (m) : den__law_error [name, a, b, c, mo] m = .ok (.str "argument") m := by
  have e1 : den_kept_by [a, b, c, mo] m = .err "BadArgument" m := fn_err rfl (by simp only [vA, ru_seq, Nat.reduceAdd, Nat.reduceSub, Nat.reduceLeDiff, reduceCtorEq, String.reduceEq, Int.reduceBEq, Int.reduceLT, Int.reduceLE, Int.reduceAdd, Int.reduceSub, Int.reduceMul, Int.reduceNeg, Nat.reduceBEq, Slot.shut, List.replicate, implies_true, body_kept_by, h])
  have e2 : den_count_unlike [a, b, c] m = .err "BadArgument" m := fn_err rfl (by simp only [vA, ru_seq, Nat.reduceAdd, Nat.reduceSub, Nat.reduceLeDiff, reduceCtorEq, String.reduceEq, Int.reduceBEq, Int.reduceLT, Int.reduceLE, Int.reduceAdd, Int.reduceSub, Int.reduceMul, Int.reduceNeg, Nat.reduceBEq, Slot.shut, List.replicate, implies_true, body_count_unlike, h])
  have e3 : den_unlike_pieces [a, b, c] m = .err "BadArgument" m := fn_err rfl (by simp only [vA, ru_seq, Nat.reduceAdd, Nat.reduceSub, Nat.reduceLeDiff, reduceCtorEq, String.reduceEq, Int.reduceBEq, Int.reduceLT, Int.reduceLE, Int.reduceAdd, Int.reduceSub, Int.reduceMul, Int.reduceNeg, Nat.reduceBEq, Slot.shut, List.replicate, implies_true, body_unlike_pieces, h])
  have e4 : den_count_by_kinds [a, b, c] m = .err "BadArgument" m := fn_err rfl (by simp only [vA, ru_seq, Nat.reduceAdd, Nat.reduceSub, Nat.reduceLeDiff, reduceCtorEq, String.reduceEq, Int.reduceBEq, Int.reduceLT, Int.reduceLE, Int.reduceAdd, Int.reduceSub, Int.reduceMul, Int.reduceNeg, Nat.reduceBEq, Slot.shut, List.replicate, implies_true, body_count_by_kinds, h])
  refine fn_ok rfl ?_
  unfold body__law_error
  rw [ru_seq]
  refine ru_try ?_
  refine ru_monoE (Q := fun _ _ => False) (E := fun c1 s1 => c1 = "BadArgument" ∧ s1 = DS.mk [.val name, .val a, .val b, .val c, .val mo] m) ?_ (fun _ _ z => z.elim) fun c1 s1 z => ?_
  · rcases hn with rfl | rfl | rfl | rfl <;> simp only [vA, ru_seq, Nat.reduceAdd, Nat.reduceSub, Nat.reduceLeDiff, reduceCtorEq, String.reduceEq, Int.reduceBEq, Int.reduceLT, Int.reduceLE, Int.reduceAdd, Int.reduceSub, Int.reduceMul, Int.reduceNeg, Nat.reduceBEq, Slot.shut, List.replicate, implies_true, e1, e2, e3, e4]
  · obtain ⟨rfl, rfl⟩ := z
    refine ⟨by decide, ru_hand ?_⟩
    simp only [vA, ru_seq, Nat.reduceAdd, Nat.reduceSub, Nat.reduceLeDiff, reduceCtorEq, String.reduceEq, Int.reduceBEq, Int.reduceLT, Int.reduceLE, Int.reduceAdd, Int.reduceSub, Int.reduceMul, Int.reduceNeg, Nat.reduceBEq, Slot.shut, List.replicate, implies_true]
theorem err_large {a b c : D} (h : ∀ m, den_check_all [a, b, c] m = .ok .non m) (h' : ∀ m, den_check_listed [a, b, c] m = .err "TooLarge" m) {name : D} (hn : name = .str "pieces" ∨ name = .str "kinds") (m) : den__law_error [name, a, b, c, .non] m = .ok (.str "large") m := by
  have e3 : den_unlike_pieces [a, b, c] m = .err "TooLarge" m := fn_err rfl (by simp only [vA, ru_seq, Nat.reduceAdd, Nat.reduceSub, Nat.reduceLeDiff, reduceCtorEq, String.reduceEq, Int.reduceBEq, Int.reduceLT, Int.reduceLE, Int.reduceAdd, Int.reduceSub, Int.reduceMul, Int.reduceNeg, Nat.reduceBEq, Slot.shut, List.replicate, implies_true, body_unlike_pieces, h, h'])
  have e4 : den_count_by_kinds [a, b, c] m = .err "TooLarge" m := fn_err rfl (by simp only [vA, ru_seq, Nat.reduceAdd, Nat.reduceSub, Nat.reduceLeDiff, reduceCtorEq, String.reduceEq, Int.reduceBEq, Int.reduceLT, Int.reduceLE, Int.reduceAdd, Int.reduceSub, Int.reduceMul, Int.reduceNeg, Nat.reduceBEq, Slot.shut, List.replicate, implies_true, body_count_by_kinds, h, h'])
  refine fn_ok rfl ?_
  unfold body__law_error
  rw [ru_seq]
  refine ru_try ?_
  refine ru_monoE (Q := fun _ _ => False) (E := fun c1 s1 => c1 = "TooLarge" ∧ s1 = DS.mk [.val name, .val a, .val b, .val c, .val .non] m) ?_ (fun _ _ z => z.elim) fun c1 s1 z => ?_
  · rcases hn with rfl | rfl <;> simp only [vA, ru_seq, Nat.reduceAdd, Nat.reduceSub, Nat.reduceLeDiff, reduceCtorEq, String.reduceEq, Int.reduceBEq, Int.reduceLT, Int.reduceLE, Int.reduceAdd, Int.reduceSub, Int.reduceMul, Int.reduceNeg, Nat.reduceBEq, Slot.shut, List.replicate, implies_true, e3, e4]
  · obtain ⟨rfl, rfl⟩ := z
    refine ⟨by decide, ru_hand2 (by decide) (ru_hand ?_)⟩
    simp only [vA, ru_seq, Nat.reduceAdd, Nat.reduceSub, Nat.reduceLeDiff, reduceCtorEq, String.reduceEq, Int.reduceBEq, Int.reduceLT, Int.reduceLE, Int.reduceAdd, Int.reduceSub, Int.reduceMul, Int.reduceNeg, Nat.reduceBEq, Slot.shut, List.replicate, implies_true]
theorem listed_ok {R n s : Nat} (hR : R ≤ 8) (hr : R * n ≤ 1000) (hs : s ≤ 1000) (h : s ^ (R * n) ≤ 4096) (m) : den_check_listed [.int R, .int n, .int s] m = .ok .non m := by
  refine fn_ok rfl ?_
  have e : (R : Int) * n = ((R * n : Nat) : Int) := by rw [Int.natCast_mul]
  simp only [vA, ru_seq, Nat.reduceAdd, Nat.reduceSub, Nat.reduceLeDiff, reduceCtorEq, String.reduceEq, Int.reduceBEq, Int.reduceLT, Int.reduceLE, Int.reduceAdd, Int.reduceSub, Int.reduceMul, Int.reduceNeg, Nat.reduceBEq, Slot.shut, List.replicate, implies_true, body_check_listed, mulD_ii (i := (R : Int)) (j := (n : Int)) (by omega), e, power_ok s hs (R * n) hr, c_MOST_LISTED, decide_eq_false (show ¬ (4096 : Int) < ((s ^ (R * n) : Nat) : Int) by omega)]
theorem listed_err {R n s : Nat} (hR : R ≤ 8) (hr : R * n ≤ 1000) (hs : s ≤ 1000) (h : 4096 < s ^ (R * n)) (m) : den_check_listed [.int R, .int n, .int s] m = .err "TooLarge" m := by
  refine fn_err rfl ?_
  have e : (R : Int) * n = ((R * n : Nat) : Int) := by rw [Int.natCast_mul]
  simp only [vA, ru_seq, Nat.reduceAdd, Nat.reduceSub, Nat.reduceLeDiff, reduceCtorEq, String.reduceEq, Int.reduceBEq, Int.reduceLT, Int.reduceLE, Int.reduceAdd, Int.reduceSub, Int.reduceMul, Int.reduceNeg, Nat.reduceBEq, Slot.shut, List.replicate, implies_true, body_check_listed, mulD_ii (i := (R : Int)) (j := (n : Int)) (by omega), e, power_ok s hs (R * n) hr, c_MOST_LISTED, decide_eq_true (show (4096 : Int) < ((s ^ (R * n) : Nat) : Int) by omega), ru_raise]
theorem err_motion {d : D} (h : ∀ m, den_check_motion [d] m = .err "BadArgument" m) (m) : den__law_error [.str "kept", .int 1, .int 1, .int 1, d] m = .ok (.str "argument") m := by
  have ca : den_check_all [.int 1, .int 1, .int 1] m = .ok .non m := check_all_ok (R := 1) (n := 1) (s := 1) (by decide) (by decide) (by decide) (by decide) (by decide) (by decide) m
  have e1 : den_kept_by [.int 1, .int 1, .int 1, d] m = .err "BadArgument" m := fn_err rfl (by simp only [vA, ru_seq, Nat.reduceAdd, Nat.reduceSub, Nat.reduceLeDiff, reduceCtorEq, String.reduceEq, Int.reduceBEq, Int.reduceLT, Int.reduceLE, Int.reduceAdd, Int.reduceSub, Int.reduceMul, Int.reduceNeg, Nat.reduceBEq, Slot.shut, List.replicate, implies_true, body_kept_by, ca, h])
  refine fn_ok rfl ?_
  unfold body__law_error
  rw [ru_seq]
  refine ru_try ?_
  refine ru_monoE (Q := fun _ _ => False) (E := fun c1 s1 => c1 = "BadArgument" ∧ s1 = DS.mk [.val (.str "kept"), .val (.int 1), .val (.int 1), .val (.int 1), .val d] m) ?_ (fun _ _ z => z.elim) fun c1 s1 z => ?_
  · simp only [vA, ru_seq, Nat.reduceAdd, Nat.reduceSub, Nat.reduceLeDiff, reduceCtorEq, String.reduceEq, Int.reduceBEq, Int.reduceLT, Int.reduceLE, Int.reduceAdd, Int.reduceSub, Int.reduceMul, Int.reduceNeg, Nat.reduceBEq, Slot.shut, List.replicate, implies_true, e1]
  · obtain ⟨rfl, rfl⟩ := z
    refine ⟨by decide, ru_hand ?_⟩
    simp only [vA, ru_seq, Nat.reduceAdd, Nat.reduceSub, Nat.reduceLeDiff, reduceCtorEq, String.reduceEq, Int.reduceBEq, Int.reduceLT, Int.reduceLE, Int.reduceAdd, Int.reduceSub, Int.reduceMul, Int.reduceNeg, Nat.reduceBEq, Slot.shut, List.replicate, implies_true]
theorem bad_motion {d : D} (h : d = .non ∨ d = .tup [.str "slid", .int 0] ∨ d = .tup [.str "moved", .bl true] ∨ d = .lst [.str "moved", .int 0]) (m) : den_check_motion [d] m = .err "BadArgument" m := by
  have l : ∀ s : DS, lookD s c_KINDS = c_KINDS := fun _ => rfl
  have hm : den_is_motion [d] m = .ok (.bl false) m := by
    refine fn_ok rfl ?_
    rcases h with rfl | rfl | rfl | rfl
    · simp only [vA, ru_seq, Nat.reduceAdd, Nat.reduceSub, Nat.reduceLeDiff, reduceCtorEq, String.reduceEq, Int.reduceBEq, Int.reduceLT, Int.reduceLE, Int.reduceAdd, Int.reduceSub, Int.reduceMul, Int.reduceNeg, Nat.reduceBEq, Slot.shut, List.replicate, implies_true, body_is_motion]
    · have e : inX (.str "slid") c_KINDS = some (.bl false) := rfl
      simp only [vA, ru_seq, Nat.reduceAdd, Nat.reduceSub, Nat.reduceLeDiff, reduceCtorEq, String.reduceEq, Int.reduceBEq, Int.reduceLT, Int.reduceLE, Int.reduceAdd, Int.reduceSub, Int.reduceMul, Int.reduceNeg, Nat.reduceBEq, Slot.shut, List.replicate, implies_true, body_is_motion, ix_p0, ix_p1, l, e]
    · have e : inX (.str "moved") c_KINDS = some (.bl true) := rfl
      simp only [vA, ru_seq, Nat.reduceAdd, Nat.reduceSub, Nat.reduceLeDiff, reduceCtorEq, String.reduceEq, Int.reduceBEq, Int.reduceLT, Int.reduceLE, Int.reduceAdd, Int.reduceSub, Int.reduceMul, Int.reduceNeg, Nat.reduceBEq, Slot.shut, List.replicate, implies_true, body_is_motion, ix_p0, ix_p1, l, e, c_MOST_MOVE, num_bl]
    · simp only [vA, ru_seq, Nat.reduceAdd, Nat.reduceSub, Nat.reduceLeDiff, reduceCtorEq, String.reduceEq, Int.reduceBEq, Int.reduceLT, Int.reduceLE, Int.reduceAdd, Int.reduceSub, Int.reduceMul, Int.reduceNeg, Nat.reduceBEq, Slot.shut, List.replicate, implies_true, body_is_motion]
  refine fn_err rfl ?_
  simp only [vA, ru_seq, Nat.reduceAdd, Nat.reduceSub, Nat.reduceLeDiff, reduceCtorEq, String.reduceEq, Int.reduceBEq, Int.reduceLT, Int.reduceLE, Int.reduceAdd, Int.reduceSub, Int.reduceMul, Int.reduceNeg, Nat.reduceBEq, Slot.shut, List.replicate, implies_true, body_check_motion, hm, ru_raise]
end K07
namespace K07
open Vl
/-! ### kinds, axes -/
theorem kd_cln (e b : Bool) : cln (kd e b) = true := by cases e <;> cases b <;> rfl
theorem kd_dp (e b : Bool) : P.dpD (kd e b) = 0 := by cases e <;> cases b <;> rfl
theorem kd_wide (e b : Bool) : P.wideD (kd e b) = true := by cases e <;> cases b <;> rfl
theorem mD_cln (t : (Bool × Bool) × Nat) : cln (mD t) = true := by
  show clns [kd t.1.1 t.1.2, .int t.2] = true
  rw [clns, kd_cln]; rfl
theorem mD_dp (t : (Bool × Bool) × Nat) : P.dpD (mD t) ≤ 1 := by
  show P.dpDs [kd t.1.1 t.1.2, .int t.2] + 1 ≤ 1
  rw [P.dpDs, kd_dp]
  exact Nat.le_refl _
theorem mD_wide (t : (Bool × Bool) × Nat) : P.wideD (mD t) = true := by
  refine wideD_tup (by simp) fun x hx => ?_
  simp only [List.mem_cons, List.not_mem_nil, or_false] at hx
  rcases hx with rfl | rfl
  · exact kd_wide _ _
  · rfl
theorem lst_dat {α : Type} {f : α → D} (h : ∀ a, cln (f a) = true) (hd : ∀ a, P.dpD (f a) ≤ 5) (l : List α) : dat (.lst (l.map f)) = true := by
  refine cln_dat (d := .lst (l.map f)) (clns_map h l) ?_
  show P.dpDs (l.map f) + 1 ≤ 50
  have := dpDs_le (xs := l.map f) (n := 5) fun x hx => by obtain ⟨a, _, rfl⟩ := List.mem_map.mp hx; exact hd a
  omega
def KK (wl : List (List Nat)) (R p : Nat) : List ((Bool × Bool) × Nat) := kk (least wl p) R p KL
abbrev nmD (t : (Bool × Bool) × Nat) : D := kd t.1.1 t.1.2
theorem has_kd (l : List ((Bool × Bool) × Nat)) (e b : Bool) : ∃ k, inX (kd e b) (.lst (l.map nmD)) = some (.bl k) :=
  inX_lst_some (cln_dat (kd_cln e b) (by rw [kd_dp]; decide)) (lst_dat (f := nmD) (fun a => kd_cln _ _) (fun a => by rw [kd_dp]; decide) l)
theorem has_mot (l : List ((Bool × Bool) × Nat)) : ∃ k, inX (.tup [.str "glided", .int 0]) (.lst (l.map mD)) = some (.bl k) :=
  inX_lst_some (by decide +kernel) (lst_dat mD_cln (fun a => Nat.le_trans (mD_dp a) (by decide)) l)
def kindD (mi al tu gl : Bool) : D :=
  if mi then (if al then .str "spinning jump" else if tu then .str "spinning sidle" else .str "sidle")
  else if al then .str "jump" else if gl then .str "step" else if tu then .str "spinning hop" else .str "hop"
theorem kindD_cln (mi al tu gl : Bool) : cln (kindD mi al tu gl) = true ∧ P.dpD (kindD mi al tu gl) ≤ 5 ∧ P.wideD (kindD mi al tu gl) = true := by
  cases mi <;> cases al <;> cases tu <;> cases gl <;> exact ⟨rfl, Nat.zero_le _, rfl⟩
theorem KK_len {wl : List (List Nat)} {R n p : Nat} (g : Good wl R n) (hp : PerP wl n p) : (KK wl R p).length ≤ 96 := by
  have := kk_len (S := least wl p) (R := R) (p := p) (l := KL)
  have h4 : KL.length = 4 := rfl
  rw [h4] at this
  have := hp.pn
  have := g.c24
  unfold KK
  omega
def kindI (mi al tu gl : Bool) : Nat := if mi then (if al then 6 else if tu then 4 else 2) else if al then 5 else if gl then 1 else if tu then 3 else 0
theorem kinds_ok {wl : List (List Nat)} {R n p : Nat} (g : Good wl R n) (hp : PerP wl n p) : ∃ (d : D) (j : Nat), j < 7 ∧ idxTD c_NAMES d = some (.int (j : Nat)) ∧ (∀ m, den_kind_of [WD wl] m = .ok d m) ∧ ∀ m, ∃ ex, den__law_kind [WD wl] m = .ok (.int (j : Nat)) (m ++ ex) := by
  have hk := fun m => kept_of_ok g hp m
  have hlk := fun m => law_kept_ok g hp m
  have hlen : (kk (least wl p) R p KL).length ≤ 96 := KK_len g hp
  generalize kk (least wl p) R p KL = L at hk hlk hlen
  obtain ⟨mi, e1⟩ := has_kd L false true
  obtain ⟨gl, e2⟩ := has_kd L true false
  obtain ⟨tu, e3⟩ := has_kd L true true
  obtain ⟨al, e4⟩ := has_mot L
  have e1 : inX (.str "mirrored") (.lst (L.map nmD)) = _ := e1
  have e2 : inX (.str "glided") (.lst (L.map nmD)) = _ := e2
  have e3 : inX (.str "turned") (.lst (L.map nmD)) = _ := e3
  refine ⟨kindD mi al tu gl, kindI mi al tu gl, by cases mi <;> cases al <;> cases tu <;> cases gl <;> decide, by cases mi <;> cases al <;> cases tu <;> cases gl <;> rfl, fun m => fn_ok rfl ?_, fun m => ?_⟩
  · simp only [vA, ru_seq, Nat.reduceAdd, Nat.reduceSub, Nat.reduceLeDiff, reduceCtorEq, String.reduceEq, Int.reduceBEq, Int.reduceLT, Int.reduceLE, Int.reduceAdd, Int.reduceSub, Int.reduceMul, Int.reduceNeg, Nat.reduceBEq, Slot.shut, List.replicate, implies_true, vO, body_kind_of, hk]
    refine ⟨by omega, ?_⟩
    refine ru_lcM (α := (Bool × Bool) × Nat) (xs := L) (h := mD) (k := nmD) (fun t ht => ?_) ?_
    · simp only [vA, ru_seq, Nat.reduceAdd, Nat.reduceSub, Nat.reduceLeDiff, reduceCtorEq, String.reduceEq, Int.reduceBEq, Int.reduceLT, Int.reduceLE, Int.reduceAdd, Int.reduceSub, Int.reduceMul, Int.reduceNeg, Nat.reduceBEq, Slot.shut, List.replicate, implies_true, ix_p0]
    · simp only [vA, ru_seq, Nat.reduceAdd, Nat.reduceSub, Nat.reduceLeDiff, reduceCtorEq, String.reduceEq, Int.reduceBEq, Int.reduceLT, Int.reduceLE, Int.reduceAdd, Int.reduceSub, Int.reduceMul, Int.reduceNeg, Nat.reduceBEq, Slot.shut, List.replicate, implies_true, e1, e2, e3, e4]
      cases mi <;> cases al <;> cases tu <;> cases gl <;> simp only [vA, ru_seq, Nat.reduceAdd, Nat.reduceSub, Nat.reduceLeDiff, reduceCtorEq, String.reduceEq, Int.reduceBEq, Int.reduceLT, Int.reduceLE, Int.reduceAdd, Int.reduceSub, Int.reduceMul, Int.reduceNeg, Nat.reduceBEq, Slot.shut, List.replicate, implies_true, kindD]
  · obtain ⟨ex, e⟩ := hlk m
    refine ⟨ex, fn_ok rfl ?_⟩
    simp only [vA, ru_seq, Nat.reduceAdd, Nat.reduceSub, Nat.reduceLeDiff, reduceCtorEq, String.reduceEq, Int.reduceBEq, Int.reduceLT, Int.reduceLE, Int.reduceAdd, Int.reduceSub, Int.reduceMul, Int.reduceNeg, Nat.reduceBEq, Slot.shut, List.replicate, implies_true, vO, body__law_kind, e]
    refine ⟨by omega, ?_⟩
    refine ru_lcM (α := (Bool × Bool) × Nat) (xs := L) (h := mD) (k := nmD) (fun t ht => ?_) ?_
    · simp only [vA, ru_seq, Nat.reduceAdd, Nat.reduceSub, Nat.reduceLeDiff, reduceCtorEq, String.reduceEq, Int.reduceBEq, Int.reduceLT, Int.reduceLE, Int.reduceAdd, Int.reduceSub, Int.reduceMul, Int.reduceNeg, Nat.reduceBEq, Slot.shut, List.replicate, implies_true, ix_p0]
    · simp only [vA, ru_seq, Nat.reduceAdd, Nat.reduceSub, Nat.reduceLeDiff, reduceCtorEq, String.reduceEq, Int.reduceBEq, Int.reduceLT, Int.reduceLE, Int.reduceAdd, Int.reduceSub, Int.reduceMul, Int.reduceNeg, Nat.reduceBEq, Slot.shut, List.replicate, implies_true, e1, e2, e3, e4]
      cases mi <;> cases al <;> cases tu <;> cases gl <;> rfl
end K07
namespace K07
open Vl
/-! ### all pieces, as the program and as the law make them -/
theorem take_flat {α β : Type} {l : List α} {f : α → List β} {i : Nat} {t : α} (h : l[i]? = some t) : (l.take (i + 1)).flatMap f = (l.take i).flatMap f ++ f t := by
  have : l.take (i + 1) = l.take i ++ [t] := by rw [List.take_add_one, h]; rfl
  rw [this, List.flatMap_append]
  simp
theorem flat_len {α β : Type} {l : List α} {f : α → List β} {c : Nat} (h : ∀ a, (f a).length = c) : (l.flatMap f).length = l.length * c := by
  induction l with
  | nil => simp
  | cons a r ih => rw [List.flatMap_cons, List.length_append, ih, h, List.length_cons, Nat.succ_mul]; omega
theorem SL_slice (s : Nat) (h : s ≤ 7) : slD c_SIGNS none (some (s : Int)) = some (txt (SL s)) := by
  have e : c_SIGNS = txt SG := rfl
  rw [e, slD_take (by decide) (by omega), Int.toNat_natCast]
  rfl
theorem pow_le {s k n : Nat} (h1 : 1 ≤ s) (h : k ≤ n) {c : Nat} (hc : s ^ n ≤ c) : s ^ k ≤ c := Nat.le_trans (Nat.pow_le_pow_right h1 h) hc
theorem lines_ok {s n : Nat} (h5 : 1 ≤ s) (h6 : s ≤ 7) (h4 : n ≤ 24) (hb : s ^ n ≤ 4096) (m) : den_lines_of [.int n, .int s] m = .ok (.lst ((wd s n).map txt)) m := by
  refine fn_ok rfl ?_
  unfold body_lines_of
  have ss := SL_slice s h6
  have sl := SL_len h6
  simp only [vA, ru_seq, Nat.reduceAdd, Nat.reduceSub, Nat.reduceLeDiff, reduceCtorEq, String.reduceEq, Int.reduceBEq, Int.reduceLT, Int.reduceLE, Int.reduceAdd, Int.reduceSub, Int.reduceMul, Int.reduceNeg, Nat.reduceBEq, Slot.shut, List.replicate, implies_true, rg n (by omega)]
  refine ru_forI (fun i s1 => i ≤ n ∧ ∃ c3 c4 c5 : Slot, s1 = ⟨[.val (.int n), .val (.int s), .val (.lst ((wd s i).map txt)), c3, c4, c5, .un], m⟩) ⟨Nat.zero_le _, .un, .un, .un, rfl⟩ (fun i d s1 hi hI => ?_) (fun s1 hI => ?_)
  · obtain ⟨_, c3, c4, c5, rfl⟩ := hI
    have hi2 := (rngL_get hi).1
    rw [(rngL_get hi).2]
    have wl : (wd s i).length ≤ 4096 := by unfold wd; rw [gen_len, sl]; exact pow_le h5 (by omega) hb
    have wl1 : (wd s i).length * s ≤ 4096 := by unfold wd; rw [gen_len, sl, ← Nat.pow_succ]; exact pow_le h5 (by omega) hb
    have wt : ∀ t ∈ wd s i, t.length = i := fun t ht => (mem_gen.mp ht).1
    have es : wd s (i + 1) = (wd s i).flatMap fun t => (SL s).map fun a => t ++ [a] := rfl
    generalize wd s i = W at wl wl1 wt es
    simp only [vA, ru_seq, Nat.reduceAdd, Nat.reduceSub, Nat.reduceLeDiff, reduceCtorEq, String.reduceEq, Int.reduceBEq, Int.reduceLT, Int.reduceLE, Int.reduceAdd, Int.reduceSub, Int.reduceMul, Int.reduceNeg, Nat.reduceBEq, Slot.shut, List.replicate, implies_true]
    refine ru_forI (fun j s1 => ∃ c5 : Slot, s1 = ⟨[.val (.int n), .val (.int s), .val (.lst (W.map txt)), .val (.int i), .own (((W.take j).flatMap fun t => (SL s).map fun a => t ++ [a]).map txt), c5, .un], m⟩) ⟨_, rfl⟩ (fun j d s1 hj hI => ?_) (fun s1 hI => ?_)
    · obtain ⟨c5, rfl⟩ := hI
      rw [List.getElem?_map] at hj
      cases ek : W[j]? with
      | none => rw [ek] at hj; cases hj
      | some t =>
        rw [ek] at hj
        cases hj
        have ht := wt t (List.mem_of_getElem? ek)
        have lk : ∀ s1 : DS, lookD s1 c_SIGNS = c_SIGNS := fun _ => rfl
        simp only [vA, ru_seq, Nat.reduceAdd, Nat.reduceSub, Nat.reduceLeDiff, reduceCtorEq, String.reduceEq, Int.reduceBEq, Int.reduceLT, Int.reduceLE, Int.reduceAdd, Int.reduceSub, Int.reduceMul, Int.reduceNeg, Nat.reduceBEq, Slot.shut, List.replicate, implies_true]
        refine ru_mutO (xs := ((W.take j).flatMap fun t => (SL s).map fun a => t ++ [a]).map txt) rfl ?_
        simp only [vA, ru_seq, Nat.reduceAdd, Nat.reduceSub, Nat.reduceLeDiff, reduceCtorEq, String.reduceEq, Int.reduceBEq, Int.reduceLT, Int.reduceLE, Int.reduceAdd, Int.reduceSub, Int.reduceMul, Int.reduceNeg, Nat.reduceBEq, Slot.shut, List.replicate, implies_true, vO, lk, ss]
        refine ⟨by omega, ?_⟩
        refine ru_lcM (α := Nat) (xs := SL s) (h := fun a => txt [a]) (k := fun a => txt (t ++ [a])) (fun a ha => ?_) ?_
        · simp only [vA, ru_seq, Nat.reduceAdd, Nat.reduceSub, Nat.reduceLeDiff, reduceCtorEq, String.reduceEq, Int.reduceBEq, Int.reduceLT, Int.reduceLE, Int.reduceAdd, Int.reduceSub, Int.reduceMul, Int.reduceNeg, Nat.reduceBEq, Slot.shut, List.replicate, implies_true, addD_tt (a := t) (b := [a]) (by simp; omega)]
        · have hl : ((W.take j).flatMap fun t => (SL s).map fun a => t ++ [a]).length ≤ 4096 := by
            rw [flat_len (c := s) (fun a => by rw [List.length_map, sl])]
            exact Nat.le_trans (Nat.mul_le_mul_right s (by rw [List.length_take]; omega)) wl1
          have ee : extF (((W.take j).flatMap fun t => (SL s).map fun a => t ++ [a]).map txt) [.lst ((SL s).map fun a => txt (t ++ [a]))] = some (.non, ((W.take (j + 1)).flatMap fun t => (SL s).map fun a => t ++ [a]).map txt) := by
            show (if (((W.take j).flatMap fun t => (SL s).map fun a => t ++ [a]).map txt).length + ((SL s).map fun a => txt (t ++ [a])).length < 1000000 then some (D.non, _) else none) = _
            rw [if_pos (by rw [List.length_map, List.length_map]; omega), take_flat ek, List.map_append, List.map_map]; rfl
          simp only [vA, ru_seq, Nat.reduceAdd, Nat.reduceSub, Nat.reduceLeDiff, reduceCtorEq, String.reduceEq, Int.reduceBEq, Int.reduceLT, Int.reduceLE, Int.reduceAdd, Int.reduceSub, Int.reduceMul, Int.reduceNeg, Nat.reduceBEq, Slot.shut, List.replicate, implies_true]
          exact ⟨_, _, ee, _, rfl⟩
    · obtain ⟨c5, rfl⟩ := hI
      rw [List.length_map, List.take_length, ← es]
      simp only [vA, ru_seq, Nat.reduceAdd, Nat.reduceSub, Nat.reduceLeDiff, reduceCtorEq, String.reduceEq, Int.reduceBEq, Int.reduceLT, Int.reduceLE, Int.reduceAdd, Int.reduceSub, Int.reduceMul, Int.reduceNeg, Nat.reduceBEq, Slot.shut, List.replicate, implies_true]
      exact ⟨by omega, _, _, _, rfl⟩
  · obtain ⟨_, c3, c4, c5, rfl⟩ := hI
    simp only [vA, ru_seq, Nat.reduceAdd, Nat.reduceSub, Nat.reduceLeDiff, reduceCtorEq, String.reduceEq, Int.reduceBEq, Int.reduceLT, Int.reduceLE, Int.reduceAdd, Int.reduceSub, Int.reduceMul, Int.reduceNeg, Nat.reduceBEq, Slot.shut, List.replicate, implies_true, rngL_length]
theorem sort_lines {s n : Nat} (hl : (wd s n).length ≤ 1000000) : sortF ((wd s n).map txt) = some ((LW s n).map txt) := by
  have := sortF_enL eT (by decide) (wd s n) (.inr fun a _ => rfl) hl
  exact this
theorem LW_len {s n : Nat} (h6 : s ≤ 7) : (LW s n).length = s ^ n := by unfold LW wd; rw [srt_len, gen_len, SL_len h6]
theorem pieces_ok {R n s : Nat} (h1 : 1 ≤ R) (h2 : R ≤ 8) (h5 : 1 ≤ s) (h6 : s ≤ 7) (h4 : n ≤ 24) (hb : s ^ (n * R) ≤ 4096) (m) : den_all_pieces [.int R, .int n, .int s] m = .ok (.lst ((AP R n s).map WD)) m := by
  refine fn_ok rfl ?_
  unfold body_all_pieces
  have hbn : s ^ n ≤ 4096 := pow_le h5 (Nat.le_mul_of_pos_right n (by omega)) hb
  have wl0 : (wd s n).length ≤ 4096 := by unfold wd; rw [gen_len, SL_len h6]; exact hbn
  have ll : (LW s n).length = s ^ n := LW_len h6
  simp only [vA, ru_seq, Nat.reduceAdd, Nat.reduceSub, Nat.reduceLeDiff, reduceCtorEq, String.reduceEq, Int.reduceBEq, Int.reduceLT, Int.reduceLE, Int.reduceAdd, Int.reduceSub, Int.reduceMul, Int.reduceNeg, Nat.reduceBEq, Slot.shut, List.replicate, implies_true, lines_ok h5 h6 h4 hbn, sort_lines (show (wd s n).length ≤ 1000000 by omega), rg R (by omega)]
  unfold AP
  generalize LW s n = L at ll
  refine ru_forI (fun i s1 => i ≤ R ∧ ∃ c5 c6 c7 : Slot, s1 = ⟨[.val (.int R), .val (.int n), .val (.int s), .val (.lst (L.map txt)), .val (.lst ((gen L i).map WD)), c5, c6, c7, .un], m⟩) ⟨Nat.zero_le _, .un, .un, .un, rfl⟩ (fun i d s1 hi hI => ?_) (fun s1 hI => ?_)
  · obtain ⟨_, c5, c6, c7, rfl⟩ := hI
    have hi2 := (rngL_get hi).1
    rw [(rngL_get hi).2]
    have wl1 : (gen L i).length * L.length ≤ 4096 := by rw [gen_len, ← Nat.pow_succ, ll, ← Nat.pow_mul]; exact pow_le h5 (Nat.mul_le_mul_left n (by omega)) hb
    have wt : ∀ t ∈ gen L i, t.length = i := fun t ht => (mem_gen.mp ht).1
    have es : gen L (i + 1) = (gen L i).flatMap fun t => L.map fun a => t ++ [a] := rfl
    generalize gen L i = W at wl1 wt es
    simp only [vA, ru_seq, Nat.reduceAdd, Nat.reduceSub, Nat.reduceLeDiff, reduceCtorEq, String.reduceEq, Int.reduceBEq, Int.reduceLT, Int.reduceLE, Int.reduceAdd, Int.reduceSub, Int.reduceMul, Int.reduceNeg, Nat.reduceBEq, Slot.shut, List.replicate, implies_true]
    refine ru_forI (fun j s1 => ∃ c7 : Slot, s1 = ⟨[.val (.int R), .val (.int n), .val (.int s), .val (.lst (L.map txt)), .val (.lst (W.map WD)), .val (.int i), .own (((W.take j).flatMap fun t => L.map fun a => t ++ [a]).map WD), c7, .un], m⟩) ⟨_, rfl⟩ (fun j d s1 hj hI => ?_) (fun s1 hI => ?_)
    · obtain ⟨c7, rfl⟩ := hI
      rw [List.getElem?_map] at hj
      cases ek : W[j]? with
      | none => rw [ek] at hj; cases hj
      | some t =>
        rw [ek] at hj
        cases hj
        have ht := wt t (List.mem_of_getElem? ek)
        simp only [vA, ru_seq, Nat.reduceAdd, Nat.reduceSub, Nat.reduceLeDiff, reduceCtorEq, String.reduceEq, Int.reduceBEq, Int.reduceLT, Int.reduceLE, Int.reduceAdd, Int.reduceSub, Int.reduceMul, Int.reduceNeg, Nat.reduceBEq, Slot.shut, List.replicate, implies_true]
        refine ru_mutO (xs := ((W.take j).flatMap fun t => L.map fun a => t ++ [a]).map WD) rfl ?_
        simp only [vA, ru_seq, Nat.reduceAdd, Nat.reduceSub, Nat.reduceLeDiff, reduceCtorEq, String.reduceEq, Int.reduceBEq, Int.reduceLT, Int.reduceLE, Int.reduceAdd, Int.reduceSub, Int.reduceMul, Int.reduceNeg, Nat.reduceBEq, Slot.shut, List.replicate, implies_true, vO]
        refine ⟨by omega, ?_⟩
        refine ru_lcM (α := List Nat) (xs := L) (h := txt) (k := fun a => WD (t ++ [a])) (fun a ha => ?_) ?_
        · have e2 : addD (WD t) (.lst [txt a]) = some (WD (t ++ [a])) := by
            show addD (.lst (t.map txt)) (.lst [txt a]) = _
            rw [addD_ll (by simp; omega)]
            show _ = some (D.lst ((t ++ [a]).map txt))
            rw [List.map_append]; rfl
          simp only [vA, ru_seq, Nat.reduceAdd, Nat.reduceSub, Nat.reduceLeDiff, reduceCtorEq, String.reduceEq, Int.reduceBEq, Int.reduceLT, Int.reduceLE, Int.reduceAdd, Int.reduceSub, Int.reduceMul, Int.reduceNeg, Nat.reduceBEq, Slot.shut, List.replicate, implies_true, e2]
        · have hl : ((W.take j).flatMap fun t => L.map fun a => t ++ [a]).length ≤ 4096 := by
            rw [flat_len (c := L.length) (fun a => List.length_map ..)]
            exact Nat.le_trans (Nat.mul_le_mul_right _ (by rw [List.length_take]; omega)) wl1
          have ee : extF (((W.take j).flatMap fun t => L.map fun a => t ++ [a]).map WD) [.lst (L.map fun a => WD (t ++ [a]))] = some (.non, ((W.take (j + 1)).flatMap fun t => L.map fun a => t ++ [a]).map WD) := by
            show (if (((W.take j).flatMap fun t => L.map fun a => t ++ [a]).map WD).length + (L.map fun a => WD (t ++ [a])).length < 1000000 then some (D.non, _) else none) = _
            rw [if_pos (by rw [List.length_map, List.length_map]; omega), take_flat ek, List.map_append, List.map_map]; rfl
          simp only [vA, ru_seq, Nat.reduceAdd, Nat.reduceSub, Nat.reduceLeDiff, reduceCtorEq, String.reduceEq, Int.reduceBEq, Int.reduceLT, Int.reduceLE, Int.reduceAdd, Int.reduceSub, Int.reduceMul, Int.reduceNeg, Nat.reduceBEq, Slot.shut, List.replicate, implies_true]
          exact ⟨_, _, ee, _, rfl⟩
    · obtain ⟨c7, rfl⟩ := hI
      rw [List.length_map, List.take_length, ← es]
      simp only [vA, ru_seq, Nat.reduceAdd, Nat.reduceSub, Nat.reduceLeDiff, reduceCtorEq, String.reduceEq, Int.reduceBEq, Int.reduceLT, Int.reduceLE, Int.reduceAdd, Int.reduceSub, Int.reduceMul, Int.reduceNeg, Nat.reduceBEq, Slot.shut, List.replicate, implies_true]
      exact ⟨by omega, _, _, _, rfl⟩
  · obtain ⟨_, c5, c6, c7, rfl⟩ := hI
    simp only [vA, ru_seq, Nat.reduceAdd, Nat.reduceSub, Nat.reduceLeDiff, reduceCtorEq, String.reduceEq, Int.reduceBEq, Int.reduceLT, Int.reduceLE, Int.reduceAdd, Int.reduceSub, Int.reduceMul, Int.reduceNeg, Nat.reduceBEq, Slot.shut, List.replicate, implies_true, rngL_length]
end K07
namespace K07
open Vl
/-! ### the law's pieces, sorted, are the program's -/
theorem ltL_same {α : Type} (A : En α) (a b : α) : ∀ t : List α, ltL A (t ++ [a]) (t ++ [b]) = A.lt a b
  | [] => by
    show (A.lt a b || (!A.lt b a && ltL A [] [])) = _
    simp [ltL]
  | x :: t => by
    show (A.lt x x || (!A.lt x x && ltL A (t ++ [a]) (t ++ [b]))) = _
    rw [A.irr, ltL_same A a b t]; simp
theorem ltL_snoc {α : Type} (A : En α) (a b : α) : ∀ t t' : List α, t.length = t'.length → ltL A t t' = true → ltL A (t ++ [a]) (t' ++ [b]) = true
  | [], [], _, h => by cases h
  | [], _ :: _, hl, _ => by simp at hl
  | _ :: _, [], hl, _ => by simp at hl
  | x :: t, y :: t', hl, h => by
    have h : (A.lt x y || (!A.lt y x && ltL A t t')) = true := h
    show (A.lt x y || (!A.lt y x && ltL A (t ++ [a]) (t' ++ [b]))) = true
    cases q : A.lt x y with
    | true => rfl
    | false =>
      rw [q] at h
      simp only [Bool.false_or, Bool.and_eq_true] at h ⊢
      exact ⟨h.1, ltL_snoc A a b t t' (by simpa using hl) h.2⟩
theorem lt_leB {α : Type} (A : En α) {a b : α} (h : A.lt a b = true) : leB A a b = true := by
  unfold leB
  cases q : A.lt b a with
  | false => rfl
  | true =>
    have := A.tr a b a h q
    rw [A.irr] at this
    cases this
theorem LW_lt (s n : Nat) : (LW s n).Pairwise fun a b => eT.lt a b = true := by
  have h1 : (LW s n).Pairwise fun a b => leB eT a b = true := srt_sorted eT (wd s n)
  have h2 : (LW s n).Pairwise fun a b => a ≠ b := LW_nd s n
  refine (h1.and h2).imp fun {a b} ⟨h, hne⟩ => ?_
  unfold leB at h
  cases q : eT.lt a b with
  | true => rfl
  | false => exact absurd (eT.tri a b q (by simpa using h)) hne
theorem AP_sorted (R n s : Nat) : (AP R n s).Pairwise fun a b => leB (eL eT) a b = true := by
  have : (AP R n s).Pairwise fun a b => ltL eT a b = true :=
    gen_pw (lt := fun a b => eT.lt a b = true) (lts := fun a b => ltL eT a b = true) (fun t a b h => by rw [ltL_same]; exact h) (fun t t' a b hl h => ltL_snoc eT a b t t' hl h) (LW_lt s n) R
  exact this.imp fun h => lt_leB (eL eT) h
def chunk (R n : Nat) (t : List Nat) : List (List Nat) := (List.range R).map fun r => (t.take ((r + 1) * n)).drop (r * n)
theorem chunk_flat (n : Nat) (t : List Nat) : ∀ R, (chunk R n t).flatten = t.take (R * n)
  | 0 => by simp [chunk]
  | R + 1 => by
    have e : chunk (R + 1) n t = chunk R n t ++ [(t.take ((R + 1) * n)).drop (R * n)] := by unfold chunk; rw [List.range_succ, List.map_append]; rfl
    rw [e, List.flatten_append, chunk_flat n t R]
    have e2 : t.take (R * n) = (t.take ((R + 1) * n)).take (R * n) := by
      rw [List.take_take, Nat.min_eq_left (Nat.mul_le_mul_right n (Nat.le_succ R))]
    rw [e2]
    simp only [List.flatten_cons, List.flatten_nil, List.append_nil]
    exact List.take_append_drop ..
theorem chunk_AP {R n s : Nat} {t : List Nat} (h : t ∈ wd s (R * n)) : chunk R n t ∈ AP R n s := by
  obtain ⟨h1, h2⟩ := mem_gen.mp h
  refine mem_AP.mpr ⟨by simp [chunk], fun row hr => ?_⟩
  obtain ⟨r, hr2, rfl⟩ := List.mem_map.mp hr
  have hr := List.mem_range.mp hr2
  have hle : (r + 1) * n ≤ R * n := Nat.mul_le_mul_right n hr
  refine ⟨?_, fun a ha => h2 a (List.mem_of_mem_take (List.mem_of_mem_drop ha))⟩
  rw [List.length_drop, List.length_take, Nat.min_eq_left (by omega), Nat.succ_mul]
  omega
theorem sorted_pieces {R n s : Nat} (h6 : s ≤ 7) : srt (eL eT) ((wd s (R * n)).map (chunk R n)) = AP R n s := by
  have nd : ((wd s (R * n)).map (chunk R n)).Nodup := Bu.map_nd (fun a ha b hb e => by
    have := congrArg List.flatten e
    rw [chunk_flat, chunk_flat] at this
    have la := (mem_gen.mp ha).1
    have lb := (mem_gen.mp hb).1
    rwa [List.take_of_length_le (by omega), List.take_of_length_le (by omega)] at this) (gen_nodup (SL_nd s) _)
  have sub : ∀ x ∈ (wd s (R * n)).map (chunk R n), x ∈ AP R n s := fun x hx => by
    obtain ⟨t, ht, rfl⟩ := List.mem_map.mp hx
    exact chunk_AP ht
  have ln : ((wd s (R * n)).map (chunk R n)).length = (AP R n s).length := by
    rw [List.length_map, AP_len R n s h6]
    unfold wd
    rw [gen_len, SL_len h6, Nat.mul_comm]
  have sup : ∀ x ∈ AP R n s, x ∈ (wd s (R * n)).map (chunk R n) := fun x hx => by
    by_cases h : x ∈ (wd s (R * n)).map (chunk R n)
    · exact h
    · have := Bu.sub_len (l := x :: (wd s (R * n)).map (chunk R n)) (l' := AP R n s) (List.nodup_cons.mpr ⟨h, nd⟩) fun y hy => by
        rcases List.mem_cons.mp hy with rfl | hy
        · exact hx
        · exact sub y hy
      rw [List.length_cons, ln] at this
      omega
  refine sorted_uniq (eL eT) ?_ (AP_nd R n s) (fun a => ?_) (srt_sorted (eL eT) _) (AP_sorted R n s)
  · exact (srt_perm (eL eT) _).nodup_iff.mpr nd
  · rw [srt_mem]
    exact ⟨sub a, sup a⟩
theorem slD_mid {l : List Nat} {a b : Int} (h : l.length ≤ 16777216) (h0 : 0 ≤ a) (h1 : 0 ≤ b) : slD (txt l) (some a) (some b) = some (txt ((l.take b.toNat).drop a.toNat)) := by
  have e : slD (txt l) (some a) (some b) = if (⟨l.toArray⟩ : PySem.Str).length ≤ 16777216 then some (.str (L2.cutS ⟨l.toArray⟩ (some a) (some b))) else none := rfl
  rw [e, if_pos (by simpa [PySem.Str.length] using h)]
  unfold L2.cutS
  have e1 : (⟨l.toArray⟩ : PySem.Str).length = l.length := by simp [PySem.Str.length]
  rw [e1]
  have e2 : HT.sIx l.length 0 (some a) = min a.toNat l.length := by
    show (if a < 0 then _ else min a.toNat l.length) = _
    rw [if_neg (by omega)]
  have e3 : HT.sIx l.length l.length (some b) = min b.toNat l.length := by
    show (if b < 0 then _ else min b.toNat l.length) = _
    rw [if_neg (by omega)]
  rw [e2, e3]
  have e4 : (List.drop (min a.toNat l.length) l).take (min b.toNat l.length - min a.toNat l.length) = (l.take b.toNat).drop a.toNat := by
    refine List.ext_getElem? fun i => ?_
    rw [List.getElem?_take, List.getElem?_drop, List.getElem?_drop, List.getElem?_take]
    by_cases h : i < min b.toNat l.length - min a.toNat l.length
    · rw [if_pos h, if_pos (by omega)]
      congr 1
      omega
    · rw [if_neg h]
      by_cases h2 : a.toNat + i < b.toNat
      · rw [if_pos h2, List.getElem?_eq_none (by omega)]
      · rw [if_neg h2]
  rw [show (⟨l.toArray⟩ : PySem.Str).cps.toList = l by simp, e4]
theorem law_pieces_ok {R n s : Nat} (h2 : R ≤ 8) (h5 : 1 ≤ s) (h6 : s ≤ 7) (h4 : n ≤ 24) (hb : s ^ (R * n) ≤ 4096) (m) : den__law_pieces [.int R, .int n, .int s] m = .ok (.lst (((wd s (R * n)).map (chunk R n)).map WD)) m := by
  refine fn_ok rfl ?_
  unfold body__law_pieces
  have ss : slD (.str ".abcdef") none (some (s : Int)) = some (txt (SL s)) := SL_slice s h6
  have sl := SL_len h6
  have hRn : R * n ≤ 192 := Nat.le_trans (Nat.mul_le_mul h2 h4) (by decide)
  have em : mulD (.int (R : Int)) (.int (n : Int)) = some (.int ((R * n : Nat) : Int)) := by rw [mulD_ii (by omega), Int.natCast_mul]
  refine (show ru _ _ _ _ from ?_)
  (rw [ru_seq]; simp only [vA, Nat.reduceAdd, Nat.reduceSub, Nat.reduceLeDiff, reduceCtorEq, String.reduceEq, Int.reduceBEq, Int.reduceLT, Int.reduceLE, Int.reduceAdd, Int.reduceSub, Int.reduceMul, Int.reduceNeg, Nat.reduceBEq, Slot.shut, List.replicate, implies_true, vO])
  refine ru_seqI (fun s1 => ∃ c4 c5 c6 : Slot, c6.isOwn = false ∧ s1 = ⟨[.val (.int R), .val (.int n), .val (.int s), .val (.lst ((wd s (R * n)).map txt)), c4, c5, c6, .un, .un], m⟩) ?_ fun s1 hI => ?_
  · generalize hN : R * n = N at hRn em hb
    simp only [vA, Nat.reduceAdd, Nat.reduceSub, Nat.reduceLeDiff, reduceCtorEq, String.reduceEq, Int.reduceBEq, Int.reduceLT, Int.reduceLE, Int.reduceAdd, Int.reduceSub, Int.reduceMul, Int.reduceNeg, Nat.reduceBEq, Slot.shut, List.replicate, implies_true, em, rg N (by omega)]
    refine ru_forI (fun i s1 => i ≤ N ∧ ∃ c4 c5 c6 : Slot, c6.isOwn = false ∧ s1 = ⟨[.val (.int R), .val (.int n), .val (.int s), .val (.lst ((wd s i).map txt)), c4, c5, c6, .un, .un], m⟩) ⟨Nat.zero_le _, .un, .un, .un, rfl, rfl⟩ (fun i d s1 hi hI => ?_) (fun s1 hI => ?_)
    · obtain ⟨_, c4, c5, c6, hc6, rfl⟩ := hI
      have hi2 := (rngL_get hi).1
      rw [(rngL_get hi).2]
      have wl : (wd s i).length ≤ 4096 := by unfold wd; rw [gen_len, sl]; exact pow_le h5 (by omega) hb
      have wl1 : (wd s i).length * s ≤ 4096 := by unfold wd; rw [gen_len, sl, ← Nat.pow_succ]; exact pow_le h5 (by omega) hb
      have wt : ∀ t ∈ wd s i, t.length = i := fun t ht => (mem_gen.mp ht).1
      have es : wd s (i + 1) = (wd s i).flatMap fun t => (SL s).map fun a => t ++ [a] := rfl
      generalize wd s i = W at wl wl1 wt es
      simp only [vA, ru_seq, Nat.reduceAdd, Nat.reduceSub, Nat.reduceLeDiff, reduceCtorEq, String.reduceEq, Int.reduceBEq, Int.reduceLT, Int.reduceLE, Int.reduceAdd, Int.reduceSub, Int.reduceMul, Int.reduceNeg, Nat.reduceBEq, Slot.shut, List.replicate, implies_true]
      refine ru_forI (fun j s1 => ∃ c6 : Slot, c6.isOwn = false ∧ s1 = ⟨[.val (.int R), .val (.int n), .val (.int s), .val (.lst (W.map txt)), .val (.int i), .val (.lst (((W.take j).flatMap fun t => (SL s).map fun a => t ++ [a]).map txt)), c6, .un, .un], m⟩) ⟨_, hc6, rfl⟩ (fun j d s1 hj hI => ?_) (fun s1 hI => ?_)
      · obtain ⟨c6, hc6, rfl⟩ := hI
        rw [List.getElem?_map] at hj
        cases ek : W[j]? with
        | none => rw [ek] at hj; cases hj
        | some t =>
          rw [ek] at hj
          cases hj
          have ht := wt t (List.mem_of_getElem? ek)
          simp only [vA, ru_seq, Nat.reduceAdd, Nat.reduceSub, Nat.reduceLeDiff, reduceCtorEq, String.reduceEq, Int.reduceBEq, Int.reduceLT, Int.reduceLE, Int.reduceAdd, Int.reduceSub, Int.reduceMul, Int.reduceNeg, Nat.reduceBEq, Slot.shut, List.replicate, implies_true, vO, ss]
          refine ⟨by omega, ?_⟩
          refine ru_lcM (α := Nat) (xs := SL s) (h := fun a => txt [a]) (k := fun a => txt (t ++ [a])) (fun a ha => ?_) ?_
          · simp only [vA, ru_seq, Nat.reduceAdd, Nat.reduceSub, Nat.reduceLeDiff, reduceCtorEq, String.reduceEq, Int.reduceBEq, Int.reduceLT, Int.reduceLE, Int.reduceAdd, Int.reduceSub, Int.reduceMul, Int.reduceNeg, Nat.reduceBEq, Slot.shut, List.replicate, implies_true, addD_tt (a := t) (b := [a]) (by simp; omega)]
          · have hl : ((W.take j).flatMap fun t => (SL s).map fun a => t ++ [a]).length ≤ 4096 := by
              rw [flat_len (c := s) (fun a => by rw [List.length_map, sl])]
              exact Nat.le_trans (Nat.mul_le_mul_right s (by rw [List.length_take]; omega)) wl1
            have ee : addD (.lst (((W.take j).flatMap fun t => (SL s).map fun a => t ++ [a]).map txt)) (.lst ((SL s).map fun a => txt (t ++ [a]))) = some (.lst (((W.take (j + 1)).flatMap fun t => (SL s).map fun a => t ++ [a]).map txt)) := by
              rw [addD_ll (by simp only [List.length_map]; omega), take_flat ek, List.map_append, List.map_map]; rfl
            simp only [vA, ru_seq, Nat.reduceAdd, Nat.reduceSub, Nat.reduceLeDiff, reduceCtorEq, String.reduceEq, Int.reduceBEq, Int.reduceLT, Int.reduceLE, Int.reduceAdd, Int.reduceSub, Int.reduceMul, Int.reduceNeg, Nat.reduceBEq, Slot.shut, List.replicate, implies_true, ee]
            exact ⟨_, rfl, rfl⟩
      · obtain ⟨c6, hc6, rfl⟩ := hI
        rw [List.length_map, List.take_length, ← es]
        simp only [vA, ru_seq, Nat.reduceAdd, Nat.reduceSub, Nat.reduceLeDiff, reduceCtorEq, String.reduceEq, Int.reduceBEq, Int.reduceLT, Int.reduceLE, Int.reduceAdd, Int.reduceSub, Int.reduceMul, Int.reduceNeg, Nat.reduceBEq, Slot.shut, List.replicate, implies_true]
        exact ⟨by omega, _, _, _, hc6, rfl⟩
    · obtain ⟨_, c4, c5, c6, hc6, rfl⟩ := hI
      rw [rngL_length]
      exact ⟨rfl, _, _, _, hc6, rfl⟩
  · obtain ⟨c4, c5, c6, hc6, rfl⟩ := hI
    have wl : (wd s (R * n)).length ≤ 4096 := by unfold wd; rw [gen_len, sl]; exact hb
    have wt : ∀ t ∈ wd s (R * n), t.length = R * n := fun t ht => (mem_gen.mp ht).1
    generalize wd s (R * n) = W at wl wt
    simp only [vA, ru_seq, Nat.reduceAdd, Nat.reduceSub, Nat.reduceLeDiff, reduceCtorEq, String.reduceEq, Int.reduceBEq, Int.reduceLT, Int.reduceLE, Int.reduceAdd, Int.reduceSub, Int.reduceMul, Int.reduceNeg, Nat.reduceBEq, Slot.shut, List.replicate, implies_true, vO, hc6]
    refine ⟨by omega, ?_⟩
    refine ru_lcM (α := List Nat) (xs := W) (h := txt) (k := fun t => WD (chunk R n t)) (fun t ht => ?_) ?_
    · simp only [vA, ru_seq, Nat.reduceAdd, Nat.reduceSub, Nat.reduceLeDiff, reduceCtorEq, String.reduceEq, Int.reduceBEq, Int.reduceLT, Int.reduceLE, Int.reduceAdd, Int.reduceSub, Int.reduceMul, Int.reduceNeg, Nat.reduceBEq, Slot.shut, List.replicate, implies_true, vO, rg R (by omega), rngL_length]
      refine ⟨by omega, ?_⟩
      rw [rngL_map]
      refine ru_lcM (α := Nat) (xs := List.range R) (h := fun k => .int (0 + (k : Nat))) (k := fun r => txt ((t.take ((r + 1) * n)).drop (r * n))) (fun r hr => ?_) ?_
      · have hr := List.mem_range.mp hr
        have e1 : mulD (.int (r : Int)) (.int (n : Int)) = some (.int ((r * n : Nat) : Int)) := by rw [mulD_ii (by omega), Int.natCast_mul]
        have e2 : mulD (.int ((r : Int) + 1)) (.int (n : Int)) = some (.int (((r + 1) * n : Nat) : Int)) := by rw [mulD_ii (by omega), Int.natCast_mul]; rfl
        have e3 := slD_mid (l := t) (a := ((r * n : Nat) : Int)) (b := (((r + 1) * n : Nat) : Int)) (by rw [wt t ht]; omega) (by omega) (by omega)
        rw [Int.toNat_natCast, Int.toNat_natCast] at e3
        simp only [vA, ru_seq, Nat.reduceAdd, Nat.reduceSub, Nat.reduceLeDiff, reduceCtorEq, String.reduceEq, Int.reduceBEq, Int.reduceLT, Int.reduceLE, Int.reduceAdd, Int.reduceSub, Int.reduceMul, Int.reduceNeg, Nat.reduceBEq, Slot.shut, List.replicate, implies_true, e1, e2, e3]
      · simp only [vA, ru_seq, Nat.reduceAdd, Nat.reduceSub, Nat.reduceLeDiff, reduceCtorEq, String.reduceEq, Int.reduceBEq, Int.reduceLT, Int.reduceLE, Int.reduceAdd, Int.reduceSub, Int.reduceMul, Int.reduceNeg, Nat.reduceBEq, Slot.shut, List.replicate, implies_true, chunk]
        have e : ((List.range R).map fun r => txt ((t.take ((r + 1) * n)).drop (r * n))) = (chunk R n t).map txt := by unfold chunk; rw [List.map_map]; rfl
        rw [e]
        rfl
    · have e : (W.map fun t => WD (chunk R n t)) = (W.map (chunk R n)).map WD := by rw [List.map_map]; rfl
      rw [e]
      simp only [vA, ru_seq, Nat.reduceAdd, Nat.reduceSub, Nat.reduceLeDiff, reduceCtorEq, String.reduceEq, Int.reduceBEq, Int.reduceLT, Int.reduceLE, Int.reduceAdd, Int.reduceSub, Int.reduceMul, Int.reduceNeg, Nat.reduceBEq, Slot.shut, List.replicate, implies_true]
end K07
namespace K07
open Vl
/-! ### the unlike pieces, the pieces by kinds -/
theorem ru_tupF {xs : List D} {E : String → DS → Prop} {s : DS} {Q : D → DS → Prop} : ru E (tupF [.lst xs]) s Q ↔ Q (.tup xs) s := Iff.rfl
abbrev TD (wl : List (List Nat)) : D := .tup (wl.map txt)
noncomputable abbrev tE : En (List (List Nat)) := eU eT
noncomputable abbrev tT (M : List (List (List Nat))) : Slot := .ownT (M.map tE.e) (M.map fun _ => .bl true)
theorem tt_in {x : List (List Nat)} {M : List (List (List Nat))} (h : x ∈ M) : notInX (TD x) (.dT (M.map tE.e) (M.map fun _ => .bl true)) = some (.bl false) := by
  have := notInX_enD tE keyOk_U (f := fun _ => .bl true) x M
  exact this.trans (by simp [h])
theorem tt_out {x : List (List Nat)} {M : List (List (List Nat))} (h : x ∉ M) : notInX (TD x) (.dT (M.map tE.e) (M.map fun _ => .bl true)) = some (.bl true) := by
  have := notInX_enD tE keyOk_U (f := fun _ => .bl true) x M
  exact this.trans (by simp [h])
theorem fst_append {α : Type} (orb : α → α → Bool) : ∀ (X Y F : List α), Bu.fst orb (X ++ Y) F = Bu.fst orb Y (Bu.fst orb X F)
  | [], _, _ => rfl
  | x :: r, Y, F => by
    rw [List.cons_append, Bu.fst, Bu.fst]
    split
    · exact fst_append orb r Y F
    · exact fst_append orb r Y (F ++ [x])
/-- the first ones of the first i pieces -/
noncomputable def fi (R n s i : Nat) : List (List (List Nat)) := Bu.fst (orb R n) ((AP R n s).take i) []
theorem fi_in {R n s i : Nat} {x : List (List Nat)} (h : (AP R n s)[i]? = some x) (hx : (fi R n s i).any (fun f => orb R n f x) = true) : fi R n s (i + 1) = fi R n s i := by
  unfold fi at hx ⊢
  rw [List.take_add_one, h, fst_append]
  show Bu.fst _ [x] _ = _
  rw [Bu.fst, if_pos hx, Bu.fst]
theorem fi_out {R n s i : Nat} {x : List (List Nat)} (h : (AP R n s)[i]? = some x) (hx : ¬ (fi R n s i).any (fun f => orb R n f x) = true) : fi R n s (i + 1) = fi R n s i ++ [x] := by
  unfold fi at hx ⊢
  rw [List.take_add_one, h, fst_append]
  show Bu.fst _ [x] _ = _
  rw [Bu.fst, if_neg hx, Bu.fst]
theorem fst_len {α : Type} (orb : α → α → Bool) : ∀ (X F : List α), (Bu.fst orb X F).length ≤ F.length + X.length
  | [], F => by rw [Bu.fst]; simp
  | x :: r, F => by
    rw [Bu.fst]
    split
    · have := fst_len orb r F
      rw [List.length_cons]; omega
    · have := fst_len orb r (F ++ [x])
      rw [List.length_append, List.length_singleton] at this
      rw [List.length_cons]; omega
theorem fi_len {R n s i : Nat} : (fi R n s i).length ≤ i := by
  unfold fi
  have := fst_len (orb R n) ((AP R n s).take i) []
  rw [List.length_take] at this
  simp at this
  omega
/-- what is met: led from one of the first ones -/
def Met (R n s i : Nat) (M : List (List (List Nat))) : Prop := ∀ y, y ∈ M ↔ (fi R n s i).any (fun f => orb R n f y) = true
theorem unlike_ok {R n s : Nat} (h1 : 1 ≤ R) (h2 : R ≤ 8) (h3 : 1 ≤ n) (h4 : n ≤ 24) (h5 : 1 ≤ s) (h6 : s ≤ 7) (hb : s ^ (n * R) ≤ 4096) (m) : den_unlike_pieces [.int R, .int n, .int s] m = .ok (.lst ((firsts R n s).map WD)) m := by
  refine fn_ok rfl ?_
  unfold body_unlike_pieces
  have hRn : R * n ≤ 192 := Nat.le_trans (Nat.mul_le_mul h2 h4) (by decide)
  have al : (AP R n s).length ≤ 4096 := by rw [AP_len R n s h6]; exact hb
  have ml : (mots n).length ≤ 96 := by rw [mots_len]; omega
  (rw [ru_seq]; simp only [vA, Nat.reduceAdd, Nat.reduceSub, Nat.reduceLeDiff, reduceCtorEq, String.reduceEq, Int.reduceBEq, Int.reduceLT, Int.reduceLE, Int.reduceAdd, Int.reduceSub, Int.reduceMul, Int.reduceNeg, Nat.reduceBEq, Slot.shut, List.replicate, implies_true, vO, check_all_ok h1 h2 h3 h4 h5 h6])
  (rw [ru_seq]; simp only [vA, Nat.reduceAdd, Nat.reduceSub, Nat.reduceLeDiff, reduceCtorEq, String.reduceEq, Int.reduceBEq, Int.reduceLT, Int.reduceLE, Int.reduceAdd, Int.reduceSub, Int.reduceMul, Int.reduceNeg, Nat.reduceBEq, Slot.shut, List.replicate, implies_true, vO, listed_ok (R := R) (n := n) (s := s) h2 (by omega) (by omega) (by rw [Nat.mul_comm]; exact hb)])
  (rw [ru_seq]; simp only [vA, Nat.reduceAdd, Nat.reduceSub, Nat.reduceLeDiff, reduceCtorEq, String.reduceEq, Int.reduceBEq, Int.reduceLT, Int.reduceLE, Int.reduceAdd, Int.reduceSub, Int.reduceMul, Int.reduceNeg, Nat.reduceBEq, Slot.shut, List.replicate, implies_true, vO])
  (rw [ru_seq]; simp only [vA, Nat.reduceAdd, Nat.reduceSub, Nat.reduceLeDiff, reduceCtorEq, String.reduceEq, Int.reduceBEq, Int.reduceLT, Int.reduceLE, Int.reduceAdd, Int.reduceSub, Int.reduceMul, Int.reduceNeg, Nat.reduceBEq, Slot.shut, List.replicate, implies_true, vO])
  (rw [ru_seq]; simp only [vA, Nat.reduceAdd, Nat.reduceSub, Nat.reduceLeDiff, reduceCtorEq, String.reduceEq, Int.reduceBEq, Int.reduceLT, Int.reduceLE, Int.reduceAdd, Int.reduceSub, Int.reduceMul, Int.reduceNeg, Nat.reduceBEq, Slot.shut, List.replicate, implies_true, vO, pieces_ok h1 h2 h5 h6 h4 hb])
  refine ru_forI (fun i s1 => ∃ (M : List (List (List Nat))) (c5 c6 : Slot), Met R n s i M ∧ M.length ≤ 96 * i ∧ s1 = ⟨[.val (.int R), .val (.int n), .val (.int s), tT M, .own ((fi R n s i).map WD), c5, c6], m⟩) ⟨[], .un, .un, fun y => by simp [fi, Bu.fst], by simp, by simp [fi, Bu.fst]⟩ (fun i d s1 hi hI => ?_) (fun s1 hI => ?_)
  · obtain ⟨M, c5, c6, hM, hl, rfl⟩ := hI
    rw [List.getElem?_map] at hi
    cases ex : (AP R n s)[i]? with
    | none => rw [ex] at hi; cases hi
    | some x =>
      rw [ex] at hi
      cases hi
      have hxm : x ∈ AP R n s := List.mem_of_getElem? ex
      have hil : i < (AP R n s).length := (List.getElem?_eq_some_iff.mp ex).1
      have g := AP_good h1 h2 h3 h4 hxm
      by_cases hx : x ∈ M
      · have nx := tt_in hx
        simp only [vA, Nat.reduceAdd, Nat.reduceSub, Nat.reduceLeDiff, reduceCtorEq, String.reduceEq, Int.reduceBEq, Int.reduceLT, Int.reduceLE, Int.reduceAdd, Int.reduceSub, Int.reduceMul, Int.reduceNeg, Nat.reduceBEq, Slot.shut, List.replicate, implies_true, ru_tupF, nx]
        have ef := fi_in ex ((hM x).mp hx)
        refine ⟨M, .val (WD x), c6, fun y => ?_, by omega, ?_⟩
        · rw [ef]; exact hM y
        · rw [ef]
      · have nx := tt_out hx
        have ef := fi_out ex fun h => hx ((hM x).mpr h)
        have fl := fi_len (R := R) (n := n) (s := s) (i := i)
        simp only [vA, ru_seq, Nat.reduceAdd, Nat.reduceSub, Nat.reduceLeDiff, reduceCtorEq, String.reduceEq, Int.reduceBEq, Int.reduceLT, Int.reduceLE, Int.reduceAdd, Int.reduceSub, Int.reduceMul, Int.reduceNeg, Nat.reduceBEq, Slot.shut, List.replicate, implies_true, ru_tupF, nx]
        refine P.ru_app (xs := (fi R n s i).map WD) rfl (by rw [List.length_map]; omega) ?_
        have ea : (fi R n s i).map WD ++ [WD x] = (fi R n s (i + 1)).map WD := by rw [ef, List.map_append]; rfl
        simp only [vA, ru_seq, Nat.reduceAdd, Nat.reduceSub, Nat.reduceLeDiff, reduceCtorEq, String.reduceEq, Int.reduceBEq, Int.reduceLT, Int.reduceLE, Int.reduceAdd, Int.reduceSub, Int.reduceMul, Int.reduceNeg, Nat.reduceBEq, Slot.shut, List.replicate, implies_true, ea, motions_ok n h4]
        refine ru_forI (fun j s1 => ∃ (M2 : List (List (List Nat))) (c6 : Slot), (∀ y, y ∈ M2 ↔ y ∈ M ∨ ∃ t ∈ (mots n).take j, act R n t x = y) ∧ M2.length ≤ M.length + j ∧ s1 = ⟨[.val (.int R), .val (.int n), .val (.int s), tT M2, .own ((fi R n s (i + 1)).map WD), .val (WD x), c6], m⟩) ⟨M, c6, fun y => by simp, by omega, rfl⟩ (fun j d s1 hj hJ => ?_) (fun s1 hJ => ?_)
        · obtain ⟨M2, c6, hM2, hl2, rfl⟩ := hJ
          rw [List.getElem?_map] at hj
          cases et : (mots n)[j]? with
          | none => rw [et] at hj; cases hj
          | some t =>
            rw [et] at hj
            cases hj
            have hjl : j < (mots n).length := (List.getElem?_eq_some_iff.mp et).1
            simp only [vA, ru_seq, Nat.reduceAdd, Nat.reduceSub, Nat.reduceLeDiff, reduceCtorEq, String.reduceEq, Int.reduceBEq, Int.reduceLT, Int.reduceLE, Int.reduceAdd, Int.reduceSub, Int.reduceMul, Int.reduceNeg, Nat.reduceBEq, Slot.shut, List.replicate, implies_true, ru_putv, led_by_ok g, ru_tupF]
            refine ⟨rfl, ?_⟩
            show ru _ (putAt 3 (tE.e (act R n t x)) ((fun _ : List (List Nat) => D.bl true) (act R n t x))) _ _
            refine ru_putC tE keyOk_U (f := fun _ => .bl true) rfl (by omega) ?_
            simp only [vA, ru_seq, Nat.reduceAdd, Nat.reduceSub, Nat.reduceLeDiff, reduceCtorEq, String.reduceEq, Int.reduceBEq, Int.reduceLT, Int.reduceLE, Int.reduceAdd, Int.reduceSub, Int.reduceMul, Int.reduceNeg, Nat.reduceBEq, Slot.shut, List.replicate, implies_true]
            refine ⟨insK M2 (act R n t x), _, fun y => ?_, Nat.le_trans insK_len (by omega), rfl⟩
            rw [insK_mem, hM2, List.take_add_one, et]
            constructor
            · rintro ((h | ⟨t', ht', e⟩) | rfl)
              · exact .inl h
              · exact .inr ⟨t', List.mem_append_left _ ht', e⟩
              · exact .inr ⟨t, List.mem_append_right _ (by simp), rfl⟩
            · rintro (h | ⟨t', ht', e⟩)
              · exact .inl (.inl h)
              · rcases List.mem_append.mp ht' with ht' | ht'
                · exact .inl (.inr ⟨t', ht', e⟩)
                · have : t' = t := by simpa using ht'
                  subst this
                  exact .inr e.symm
        · obtain ⟨M2, c6, hM2, hl2, rfl⟩ := hJ
          rw [List.length_map] at hl2 hM2
          rw [List.take_length] at hM2
          refine ⟨M2, _, _, fun y => ?_, by omega, rfl⟩
          rw [hM2, hM y, ef, List.any_append]
          simp only [List.any_cons, List.any_nil, Bool.or_false, Bool.or_eq_true, orb_iff]
  · obtain ⟨M, c5, c6, hM, hl, rfl⟩ := hI
    have e : fi R n s (((AP R n s).map WD).length) = firsts R n s := by unfold fi firsts; rw [List.length_map, List.take_length]
    rw [e]
    simp only [vA, ru_seq, Nat.reduceAdd, Nat.reduceSub, Nat.reduceLeDiff, reduceCtorEq, String.reduceEq, Int.reduceBEq, Int.reduceLT, Int.reduceLE, Int.reduceAdd, Int.reduceSub, Int.reduceMul, Int.reduceNeg, Nat.reduceBEq, Slot.shut, List.replicate, implies_true]
end K07
namespace K07
open Vl
/-! ### pieces by kinds -/
def KIp (wl : List (List Nat)) (j : Nat) : Prop := j < 7 ∧ (∃ d, idxTD c_NAMES d = some (.int (j : Nat)) ∧ ∀ m, den_kind_of [WD wl] m = .ok d m) ∧ ∀ m, ∃ ex, den__law_kind [WD wl] m = .ok (.int (j : Nat)) (m ++ ex)
open Classical in
noncomputable def kix (wl : List (List Nat)) : Nat := if h : ∃ j, KIp wl j then h.choose else 0
open Classical in
noncomputable def pox (wl : List (List Nat)) (n : Nat) : Nat := if h : ∃ p, PerP wl n p then h.choose else 0
theorem kix_ok {wl : List (List Nat)} {R n : Nat} (g : Good wl R n) : KIp wl (kix wl) := by
  obtain ⟨p, hp⟩ := g.per
  obtain ⟨d, j, h1, h2, h3, h4⟩ := kinds_ok g hp
  have : ∃ j, KIp wl j := ⟨j, h1, ⟨d, h2, h3⟩, h4⟩
  unfold kix
  rw [dif_pos this]
  exact this.choose_spec
theorem pox_ok {wl : List (List Nat)} {R n : Nat} (g : Good wl R n) : PerP wl n (pox wl n) := by
  have : ∃ p, PerP wl n p := g.per
  unfold pox
  rw [dif_pos this]
  exact this.choose_spec
def bump (acc : List Int) (j : Nat) : List Int := acc.set j (acc.getD j 0 + 1)
noncomputable def KC (n : Nat) (l : List (List (List Nat))) : List Int := l.foldl (fun acc x => if pox x n = n then bump acc (kix x) else acc) (List.replicate 7 0)
theorem KC_snoc (n : Nat) (l : List (List (List Nat))) (x : List (List Nat)) : KC n (l ++ [x]) = if pox x n = n then bump (KC n l) (kix x) else KC n l := by
  unfold KC
  rw [List.foldl_append]
  rfl
theorem KC_len (n : Nat) (l : List (List (List Nat))) : (KC n l).length = 7 := by
  unfold KC
  have : ∀ (l : List (List (List Nat))) (acc : List Int), acc.length = 7 → (l.foldl (fun acc x => if pox x n = n then bump acc (kix x) else acc) acc).length = 7 := fun l => by
    induction l with
    | nil => exact fun acc h => h
    | cons a r ih =>
      intro acc h
      rw [List.foldl_cons]
      refine ih _ ?_
      split
      · unfold bump; rw [List.length_set]; exact h
      · exact h
  exact this l _ (by simp)
theorem el_at {l : List Int} {j : Nat} (h : j < l.length) : elD (.lst (l.map .int)) (.int (j : Nat)) = some (.int (l.getD j 0)) := by
  show (if (0 : Int) ≤ (j : Nat) then (l.map D.int)[(j : Int).toNat]? else none) = _
  rw [if_pos (by omega), Int.toNat_natCast, List.getElem?_map, List.getD_eq_getElem?_getD, List.getElem?_eq_getElem h]
  rfl
theorem set_map {l : List Int} {j : Nat} {v : Int} : (l.map D.int).set j (.int v) = (l.set j v).map D.int := by rw [List.map_set]
theorem by_kinds_ok {R n s : Nat} (h1 : 1 ≤ R) (h2 : R ≤ 8) (h3 : 1 ≤ n) (h4 : n ≤ 24) (h5 : 1 ≤ s) (h6 : s ≤ 7) (hb : s ^ (n * R) ≤ 4096) (m) : den_count_by_kinds [.int R, .int n, .int s] m = .ok (.lst ((KC n (AP R n s)).map .int)) m := by
  refine fn_ok rfl ?_
  unfold body_count_by_kinds
  have hRn : R * n ≤ 192 := Nat.le_trans (Nat.mul_le_mul h2 h4) (by decide)
  have lk : ∀ s1 : DS, lookD s1 c_NAMES = c_NAMES := fun _ => rfl
  have l7 : lenD c_NAMES = some (.int 7) := rfl
  have r7 : repF (.lst [.int 0]) (.int 7) = some ((KC n []).map .int) := rfl
  (rw [ru_seq]; simp only [vA, Nat.reduceAdd, Nat.reduceSub, Nat.reduceLeDiff, reduceCtorEq, String.reduceEq, Int.reduceBEq, Int.reduceLT, Int.reduceLE, Int.reduceAdd, Int.reduceSub, Int.reduceMul, Int.reduceNeg, Nat.reduceBEq, Slot.shut, List.replicate, implies_true, vO, check_all_ok h1 h2 h3 h4 h5 h6])
  (rw [ru_seq]; simp only [vA, Nat.reduceAdd, Nat.reduceSub, Nat.reduceLeDiff, reduceCtorEq, String.reduceEq, Int.reduceBEq, Int.reduceLT, Int.reduceLE, Int.reduceAdd, Int.reduceSub, Int.reduceMul, Int.reduceNeg, Nat.reduceBEq, Slot.shut, List.replicate, implies_true, vO, listed_ok (R := R) (n := n) (s := s) h2 (by omega) (by omega) (by rw [Nat.mul_comm]; exact hb)])
  (rw [ru_seq]; simp only [vA, Nat.reduceAdd, Nat.reduceSub, Nat.reduceLeDiff, reduceCtorEq, String.reduceEq, Int.reduceBEq, Int.reduceLT, Int.reduceLE, Int.reduceAdd, Int.reduceSub, Int.reduceMul, Int.reduceNeg, Nat.reduceBEq, Slot.shut, List.replicate, implies_true, vO, lk, l7, r7])
  (rw [ru_seq]; simp only [vA, Nat.reduceAdd, Nat.reduceSub, Nat.reduceLeDiff, reduceCtorEq, String.reduceEq, Int.reduceBEq, Int.reduceLT, Int.reduceLE, Int.reduceAdd, Int.reduceSub, Int.reduceMul, Int.reduceNeg, Nat.reduceBEq, Slot.shut, List.replicate, implies_true, vO, pieces_ok h1 h2 h5 h6 h4 hb])
  refine ru_forI (fun i s1 => ∃ (c4 : Slot), s1 = ⟨[.val (.int R), .val (.int n), .val (.int s), .own ((KC n ((AP R n s).take i)).map .int), c4], m⟩) ⟨.un, rfl⟩ (fun i d s1 hi hI => ?_) (fun s1 hI => ?_)
  · obtain ⟨c4, rfl⟩ := hI
    rw [List.getElem?_map] at hi
    cases ex : (AP R n s)[i]? with
    | none => rw [ex] at hi; cases hi
    | some x =>
      rw [ex] at hi
      cases hi
      have g := AP_good h1 h2 h3 h4 (List.mem_of_getElem? ex)
      obtain ⟨k1, ⟨d, k2, k3⟩, k4⟩ := kix_ok g
      have kl := KC_len n ((AP R n s).take i)
      have ht : (AP R n s).take (i + 1) = (AP R n s).take i ++ [x] := by rw [List.take_add_one, ex]; rfl
      have ks := KC_snoc n ((AP R n s).take i) x
      rw [← ht] at ks
      by_cases hx : pox x n = n
      · rw [if_pos hx] at ks
        have pk := fun m => period_of_ok g (pox_ok g) m
        rw [hx] at pk
        have ea := el_at (l := KC n ((AP R n s).take i)) (j := kix x) (by omega)
        simp only [vA, Nat.reduceAdd, Nat.reduceSub, Nat.reduceLeDiff, reduceCtorEq, String.reduceEq, Int.reduceBEq, Int.reduceLT, Int.reduceLE, Int.reduceAdd, Int.reduceSub, Int.reduceMul, Int.reduceNeg, Nat.reduceBEq, Slot.shut, List.replicate, implies_true, pk, ru_augv]
        refine ⟨rfl, ?_⟩
        simp only [vA, Nat.reduceAdd, Nat.reduceSub, Nat.reduceLeDiff, reduceCtorEq, String.reduceEq, Int.reduceBEq, Int.reduceLT, Int.reduceLE, Int.reduceAdd, Int.reduceSub, Int.reduceMul, Int.reduceNeg, Nat.reduceBEq, Slot.shut, List.replicate, implies_true, ru_idxT, k3, k2, ea]
        refine ru_putL (xs := (KC n ((AP R n s).take i)).map .int) rfl (by rw [List.length_map]; omega) ?_
        rw [set_map]
        simp only [vA, Nat.reduceAdd, Nat.reduceSub, Nat.reduceLeDiff, reduceCtorEq, String.reduceEq, Int.reduceBEq, Int.reduceLT, Int.reduceLE, Int.reduceAdd, Int.reduceSub, Int.reduceMul, Int.reduceNeg, Nat.reduceBEq, Slot.shut, List.replicate, implies_true]
        refine ⟨.val (WD x), ?_⟩
        rw [ks]
        rfl
      · rw [if_neg hx] at ks
        have pk := fun m => period_of_ok g (pox_ok g) m
        have ne : ((pox x n : Int) == (n : Int)) = false := by rw [beq_eq_false_iff_ne]; omega
        simp only [vA, Nat.reduceAdd, Nat.reduceSub, Nat.reduceLeDiff, reduceCtorEq, String.reduceEq, Int.reduceBEq, Int.reduceLT, Int.reduceLE, Int.reduceAdd, Int.reduceSub, Int.reduceMul, Int.reduceNeg, Nat.reduceBEq, Slot.shut, List.replicate, implies_true, pk, ne]
        refine ⟨.val (WD x), ?_⟩
        rw [ks]
  · obtain ⟨c4, rfl⟩ := hI
    rw [List.length_map, List.take_length]
    simp only [vA, ru_seq, Nat.reduceAdd, Nat.reduceSub, Nat.reduceLeDiff, reduceCtorEq, String.reduceEq, Int.reduceBEq, Int.reduceLT, Int.reduceLE, Int.reduceAdd, Int.reduceSub, Int.reduceMul, Int.reduceNeg, Nat.reduceBEq, Slot.shut, List.replicate, implies_true]
end K07
namespace K07
open Vl
/-! ### few pieces: gone through -/
theorem md {i : Int} (j : Int) (h : 0 < j := by decide) : modD (.int i) (.int j) = some (.int (i % j)) := modD_ii h
theorem eq_ws {ls : List (List (List Nat))} (hl : ls.length ≤ 100000) (h : ∀ w ∈ ls, w.length ≤ 1000) (m) : P.den__law_equal 12 [.lst (ls.map WD), .lst (ls.map WD)] m = .ok (.bl true) m := by
  refine equal_cl (d := .lst (ls.map WD)) ((eL (eL eT)).cl ls) (Nat.le_trans ((eL (eL eT)).dpl ls) (by decide)) (wideD_lst (by simp; omega) fun x hx => ?_) m
  obtain ⟨w, hw, rfl⟩ := List.mem_map.mp hx
  exact wideD_lst (by have := h w hw; simp; omega) fun y hy => by obtain ⟨a, _, rfl⟩ := List.mem_map.mp hy; rfl
theorem eq_is {l : List Int} (h : l.length ≤ 1000) (m) : P.den__law_equal 12 [.lst (l.map .int), .lst (l.map .int)] m = .ok (.bl true) m := by
  refine equal_cl (d := .lst (l.map .int)) ((eL eI).cl l) (Nat.le_trans ((eL eI).dpl l) (by decide)) (wideD_lst (by simp; omega) fun x hx => ?_) m
  obtain ⟨w, hw, rfl⟩ := List.mem_map.mp hx
  rfl
theorem sort_W {ls : List (List (List Nat))} (hl : ls.length ≤ 1000000) : sortF (ls.map WD) = some ((srt (eL eT) ls).map WD) := by
  have := sortF_enL (eL eT) (by decide) ls (.inr fun a _ => rfl) hl
  exact this
/-- what is met from x by the motions of T, too -/
def Ad (M : List (List (List Nat))) (R n : Nat) (x : List (List Nat)) (T : List ((Bool × Bool) × Nat)) (M2 : List (List (List Nat))) : Prop := (∀ y, y ∈ M2 ↔ y ∈ M ∨ ∃ t ∈ T, act R n t x = y) ∧ M2.length ≤ M.length + T.length
theorem Ad.nil {M : List (List (List Nat))} {R n : Nat} {x : List (List Nat)} : Ad M R n x [] M := ⟨fun y => by simp, by simp⟩
theorem Ad.add {M M2 : List (List (List Nat))} {R n : Nat} {x : List (List Nat)} {T : List ((Bool × Bool) × Nat)} (h : Ad M R n x T M2) (t) : Ad M R n x (T ++ [t]) (insK M2 (act R n t x)) := by
  refine ⟨fun y => ?_, Nat.le_trans insK_len (by have := h.2; rw [List.length_append, List.length_singleton]; omega)⟩
  rw [insK_mem, h.1 y]
  constructor
  · rintro ((h | ⟨t', ht', e⟩) | rfl)
    · exact .inl h
    · exact .inr ⟨t', List.mem_append_left _ ht', e⟩
    · exact .inr ⟨t, List.mem_append_right _ (by simp), rfl⟩
  · rintro (h | ⟨t', ht', e⟩)
    · exact .inl (.inl h)
    · rcases List.mem_append.mp ht' with ht' | ht'
      · exact .inl (.inr ⟨t', ht', e⟩)
      · have : t' = t := by simpa using ht'
        subst this
        exact .inr e.symm
theorem mm_snoc {n : Nat} {l : List (Bool × Bool)} {p : Bool × Bool} : mm n (l ++ [p]) = mm n l ++ (List.range n).map fun k => (p, k) := by
  unfold mm
  rw [List.flatMap_append]
  simp
def mu3 (s : DS) : Nat := match s.env[3]? with
  | some (Slot.val (D.int v)) => v.toNat
  | _ => 0
theorem few_ok {mem : List MO} (hd : P.Drw mem) : ∃ mem', den__law_few [.mut 0] mem = .ok (.bl true) mem' ∧ P.Drw mem' := by
  have main : ∃ d m, den__law_few [.mut 0] mem = .ok d m ∧ d = .bl true ∧ P.Drw m := by
    refine fn_ex rfl ?_
    unfold body__law_few
    simp only [List.cons_append, List.nil_append, List.replicate]
    (rw [ru_seq]; simp only [vA, Nat.reduceAdd, Nat.reduceSub, Nat.reduceLeDiff, reduceCtorEq, String.reduceEq, Int.reduceBEq, Int.reduceLT, Int.reduceLE, Int.reduceAdd, Int.reduceSub, Int.reduceMul, Int.reduceNeg, Nat.reduceBEq, Slot.shut, List.replicate, implies_true, vO])
    refine P.O.fr_draw hd fun v1 m1 a1 b1 d1 t1 => ?_
    obtain ⟨s, hs, h5, h3'⟩ : ∃ s : Nat, 1 + v1 % 3 = (s : Int) ∧ 1 ≤ s ∧ s ≤ 3 := ⟨(1 + v1 % 3).toNat, by omega, by omega, by omega⟩
    simp only [vA, Nat.reduceAdd, Nat.reduceSub, Nat.reduceLeDiff, reduceCtorEq, String.reduceEq, Int.reduceBEq, Int.reduceLT, Int.reduceLE, Int.reduceAdd, Int.reduceSub, Int.reduceMul, Int.reduceNeg, Nat.reduceBEq, Slot.shut, List.replicate, implies_true, md (i := v1) 3, hs]
    (rw [ru_seq]; simp only [vA, Nat.reduceAdd, Nat.reduceSub, Nat.reduceLeDiff, reduceCtorEq, String.reduceEq, Int.reduceBEq, Int.reduceLT, Int.reduceLE, Int.reduceAdd, Int.reduceSub, Int.reduceMul, Int.reduceNeg, Nat.reduceBEq, Slot.shut, List.replicate, implies_true, vO])
    refine P.O.fr_draw d1 fun v2 m2 a2 b2 d2 t2 => ?_
    obtain ⟨R, hR, h1, hR3⟩ : ∃ R : Nat, 1 + v2 % 3 = (R : Int) ∧ 1 ≤ R ∧ R ≤ 3 := ⟨(1 + v2 % 3).toNat, by omega, by omega, by omega⟩
    simp only [vA, Nat.reduceAdd, Nat.reduceSub, Nat.reduceLeDiff, reduceCtorEq, String.reduceEq, Int.reduceBEq, Int.reduceLT, Int.reduceLE, Int.reduceAdd, Int.reduceSub, Int.reduceMul, Int.reduceNeg, Nat.reduceBEq, Slot.shut, List.replicate, implies_true, md (i := v2) 3, hR]
    (rw [ru_seq]; simp only [vA, Nat.reduceAdd, Nat.reduceSub, Nat.reduceLeDiff, reduceCtorEq, String.reduceEq, Int.reduceBEq, Int.reduceLT, Int.reduceLE, Int.reduceAdd, Int.reduceSub, Int.reduceMul, Int.reduceNeg, Nat.reduceBEq, Slot.shut, List.replicate, implies_true, vO])
    refine P.O.fr_draw d2 fun v3 m3 a3 b3 d3 t3 => ?_
    obtain ⟨n0, hn0, hn1, hn8⟩ : ∃ n : Nat, 1 + v3 % 8 = (n : Int) ∧ 1 ≤ n ∧ n ≤ 8 := ⟨(1 + v3 % 8).toNat, by omega, by omega, by omega⟩
    simp only [vA, Nat.reduceAdd, Nat.reduceSub, Nat.reduceLeDiff, reduceCtorEq, String.reduceEq, Int.reduceBEq, Int.reduceLT, Int.reduceLE, Int.reduceAdd, Int.reduceSub, Int.reduceMul, Int.reduceNeg, Nat.reduceBEq, Slot.shut, List.replicate, implies_true, md (i := v3) 8, hn0]
    refine ru_seqI (fun s1 => ∃ n : Nat, 1 ≤ n ∧ n ≤ 8 ∧ s ^ (R * n) ≤ 300 ∧ s1 = ⟨[.val (.mut 0), .val (.int s), .val (.int R), .val (.int n), .un, .un, .un, .un, .un, .un, .un], m3⟩) ?_ fun s1 hI => ?_
    · refine ru_while (fun s1 => ∃ n : Nat, 1 ≤ n ∧ n ≤ 8 ∧ s1 = ⟨[.val (.mut 0), .val (.int s), .val (.int R), .val (.int n), .un, .un, .un, .un, .un, .un, .un], m3⟩) mu3 ⟨n0, hn1, hn8, rfl⟩ fun s1 hI => ?_
      obtain ⟨n, g1, g8, rfl⟩ := hI
      have hRn : R * n ≤ 24 := Nat.le_trans (Nat.mul_le_mul hR3 g8) (by decide)
      have em : mulD (.int (R : Int)) (.int (n : Int)) = some (.int ((R * n : Nat) : Int)) := by rw [mulD_ii (by omega), Int.natCast_mul]
      have ep := fun m => law_power_ok s (by omega) (R * n) (by omega) m
      by_cases hb : s ^ (R * n) ≤ 300
      · simp only [vA, Nat.reduceAdd, Nat.reduceSub, Nat.reduceLeDiff, reduceCtorEq, String.reduceEq, Int.reduceBEq, Int.reduceLT, Int.reduceLE, Int.reduceAdd, Int.reduceSub, Int.reduceMul, Int.reduceNeg, Nat.reduceBEq, Slot.shut, List.replicate, implies_true, em, ep, decide_eq_false (show ¬ (300 : Int) < ((s ^ (R * n) : Nat) : Int) by omega)]
        exact ⟨n, g1, g8, hb, rfl⟩
      · simp only [vA, Nat.reduceAdd, Nat.reduceSub, Nat.reduceLeDiff, reduceCtorEq, String.reduceEq, Int.reduceBEq, Int.reduceLT, Int.reduceLE, Int.reduceAdd, Int.reduceSub, Int.reduceMul, Int.reduceNeg, Nat.reduceBEq, Slot.shut, List.replicate, implies_true, em, ep, decide_eq_true (show (300 : Int) < ((s ^ (R * n) : Nat) : Int) by omega)]
        have g2 : 2 ≤ n := by
          rcases Nat.lt_or_ge n 2 with h | h
          · exfalso
            have : n = 1 := by omega
            subst this
            rw [Nat.mul_one] at hb
            have : s ^ R ≤ 3 ^ 3 := Nat.le_trans (Nat.pow_le_pow_left h3' R) (Nat.pow_le_pow_right (by decide) hR3)
            have e27 : 3 ^ 3 = 27 := rfl
            omega
          · exact h
        refine ⟨⟨n - 1, by omega, by omega, ?_⟩, ?_⟩
        · rw [show ((n : Int) - 1) = ((n - 1 : Nat) : Int) by omega]
        · show ((n : Int) - 1).toNat < ((n : Int)).toNat
          omega
    · obtain ⟨n, g1, g8, hb, rfl⟩ := hI
      have hR8 : R ≤ 8 := by omega
      have hn24 : n ≤ 24 := by omega
      have hs7 : s ≤ 7 := by omega
      have hb' : s ^ (n * R) ≤ 4096 := by rw [Nat.mul_comm]; omega
      have al : (AP R n s).length ≤ 300 := by rw [AP_len R n s hs7, Nat.mul_comm]; exact hb
      have pl : ((wd s (R * n)).map (chunk R n)).length ≤ 1000000 := by rw [List.length_map]; unfold wd; rw [gen_len, SL_len hs7]; omega
      have es := sort_W pl
      rw [sorted_pieces hs7] at es
      have r7 : repF (.lst [.int 0]) (.int 7) = some ((KC n []).map .int) := rfl
      (rw [ru_seq]; simp only [vA, Nat.reduceAdd, Nat.reduceSub, Nat.reduceLeDiff, reduceCtorEq, String.reduceEq, Int.reduceBEq, Int.reduceLT, Int.reduceLE, Int.reduceAdd, Int.reduceSub, Int.reduceMul, Int.reduceNeg, Nat.reduceBEq, Slot.shut, List.replicate, implies_true, vO, law_pieces_ok hR8 h5 hs7 hn24 (by omega)])
      generalize ((wd s (R * n)).map (chunk R n)).map WD = PL at es
      (rw [ru_seq]; simp only [vA, Nat.reduceAdd, Nat.reduceSub, Nat.reduceLeDiff, reduceCtorEq, String.reduceEq, Int.reduceBEq, Int.reduceLT, Int.reduceLE, Int.reduceAdd, Int.reduceSub, Int.reduceMul, Int.reduceNeg, Nat.reduceBEq, Slot.shut, List.replicate, implies_true, vO])
      (rw [ru_seq]; simp only [vA, Nat.reduceAdd, Nat.reduceSub, Nat.reduceLeDiff, reduceCtorEq, String.reduceEq, Int.reduceBEq, Int.reduceLT, Int.reduceLE, Int.reduceAdd, Int.reduceSub, Int.reduceMul, Int.reduceNeg, Nat.reduceBEq, Slot.shut, List.replicate, implies_true, vO])
      (rw [ru_seq]; simp only [vA, Nat.reduceAdd, Nat.reduceSub, Nat.reduceLeDiff, reduceCtorEq, String.reduceEq, Int.reduceBEq, Int.reduceLT, Int.reduceLE, Int.reduceAdd, Int.reduceSub, Int.reduceMul, Int.reduceNeg, Nat.reduceBEq, Slot.shut, List.replicate, implies_true, vO, r7])
      refine ru_seqI (fun s1 => ∃ (M : List (List (List Nat))) (c8 c9 c10 : Slot) (mm : List MO), P.Drw mm ∧ s1 = ⟨[.val (.mut 0), .val (.int s), .val (.int R), .val (.int n), .val (.lst PL), tT M, .own ((firsts R n s).map WD), .own ((KC n (AP R n s)).map .int), c8, c9, c10], mm⟩) ?_ fun s1 hI => ?_
      · simp only [vA, Nat.reduceAdd, Nat.reduceSub, Nat.reduceLeDiff, reduceCtorEq, String.reduceEq, Int.reduceBEq, Int.reduceLT, Int.reduceLE, Int.reduceAdd, Int.reduceSub, Int.reduceMul, Int.reduceNeg, Nat.reduceBEq, Slot.shut, List.replicate, implies_true, es]
        refine ru_forI (fun i s1 => ∃ (M : List (List (List Nat))) (c8 c9 c10 : Slot) (mm : List MO), Met R n s i M ∧ M.length ≤ 96 * i ∧ P.Drw mm ∧ s1 = ⟨[.val (.mut 0), .val (.int s), .val (.int R), .val (.int n), .val (.lst PL), tT M, .own ((fi R n s i).map WD), .own ((KC n ((AP R n s).take i)).map .int), c8, c9, c10], mm⟩) ⟨[], .un, .un, .un, m3, fun y => by simp [fi, Bu.fst], by simp, d3, by simp [fi, Bu.fst]⟩ (fun i d s1 hi hI => ?_) (fun s1 hI => ?_)
        · obtain ⟨M, c8, c9, c10, mm, hM, hl, dm, rfl⟩ := hI
          rw [List.getElem?_map] at hi
          cases ex : (AP R n s)[i]? with
          | none => rw [ex] at hi; cases hi
          | some x =>
            rw [ex] at hi
            cases hi
            have hxm : x ∈ AP R n s := List.mem_of_getElem? ex
            have hil : i < (AP R n s).length := (List.getElem?_eq_some_iff.mp ex).1
            have g := AP_good h1 hR8 g1 hn24 hxm
            simp only [vA, Nat.reduceAdd, Nat.reduceSub, Nat.reduceLeDiff, reduceCtorEq, String.reduceEq, Int.reduceBEq, Int.reduceLT, Int.reduceLE, Int.reduceAdd, Int.reduceSub, Int.reduceMul, Int.reduceNeg, Nat.reduceBEq, Slot.shut, List.replicate, implies_true]
            refine ru_seqI (fun s1 => ∃ (M : List (List (List Nat))) (c9 c10 : Slot) (mm : List MO), Met R n s (i + 1) M ∧ M.length ≤ 96 * (i + 1) ∧ P.Drw mm ∧ s1 = ⟨[.val (.mut 0), .val (.int s), .val (.int R), .val (.int n), .val (.lst PL), tT M, .own ((fi R n s (i + 1)).map WD), .own ((KC n ((AP R n s).take i)).map .int), .val (WD x), c9, c10], mm⟩) ?_ fun s1 hI => ?_
            · by_cases hx : x ∈ M
              · have nx := tt_in hx
                simp only [vA, Nat.reduceAdd, Nat.reduceSub, Nat.reduceLeDiff, reduceCtorEq, String.reduceEq, Int.reduceBEq, Int.reduceLT, Int.reduceLE, Int.reduceAdd, Int.reduceSub, Int.reduceMul, Int.reduceNeg, Nat.reduceBEq, Slot.shut, List.replicate, implies_true, ru_tupF, nx]
                have ef := fi_in ex ((hM x).mp hx)
                refine ⟨M, c9, c10, mm, fun y => ?_, by omega, dm, ?_⟩
                · rw [ef]; exact hM y
                · rw [ef]
              · have nx := tt_out hx
                have ef := fi_out ex fun h => hx ((hM x).mpr h)
                have fl := fi_len (R := R) (n := n) (s := s) (i := i)
                simp only [vA, ru_seq, Nat.reduceAdd, Nat.reduceSub, Nat.reduceLeDiff, reduceCtorEq, String.reduceEq, Int.reduceBEq, Int.reduceLT, Int.reduceLE, Int.reduceAdd, Int.reduceSub, Int.reduceMul, Int.reduceNeg, Nat.reduceBEq, Slot.shut, List.replicate, implies_true, ru_tupF, nx]
                refine P.ru_app (xs := (fi R n s i).map WD) rfl (by rw [List.length_map]; omega) ?_
                have ea : (fi R n s i).map WD ++ [WD x] = (fi R n s (i + 1)).map WD := by rw [ef, List.map_append]; rfl
                simp only [vA, ru_seq, Nat.reduceAdd, Nat.reduceSub, Nat.reduceLeDiff, reduceCtorEq, String.reduceEq, Int.reduceBEq, Int.reduceLT, Int.reduceLE, Int.reduceAdd, Int.reduceSub, Int.reduceMul, Int.reduceNeg, Nat.reduceBEq, Slot.shut, List.replicate, implies_true, ea]
                have eK : [D.str "glided", D.str "mirrored", D.str "moved", D.str "turned"] = KL.map fun p => kd p.1 p.2 := rfl
                have hKL : KL.length = 4 := rfl
                rw [eK]
                refine ru_mono (Q := fun o s1 => o = .nx ∧ ∃ (M2 : List (List (List Nat))) (c9 c10 : Slot) (mm : List MO), Ad M R n x (mots n) M2 ∧ P.Drw mm ∧ s1 = ⟨[.val (.mut 0), .val (.int s), .val (.int R), .val (.int n), .val (.lst PL), tT M2, .own ((fi R n s (i + 1)).map WD), .own ((KC n ((AP R n s).take i)).map .int), .val (WD x), c9, c10], mm⟩) ?_ fun o s1 hJ => ?_
                · unfold mots
                  generalize KL = kl at hKL
                  refine ru_forI (fun a s1 => ∃ (M2 : List (List (List Nat))) (c9 c10 : Slot) (mm : List MO), Ad M R n x (K07.mm n (kl.take a)) M2 ∧ P.Drw mm ∧ s1 = ⟨[.val (.mut 0), .val (.int s), .val (.int R), .val (.int n), .val (.lst PL), tT M2, .own ((fi R n s (i + 1)).map WD), .own ((KC n ((AP R n s).take i)).map .int), .val (WD x), c9, c10], mm⟩) ⟨M, c9, c10, mm, Ad.nil, dm, rfl⟩ (fun a d s1 ha hJ => ?_) (fun s1 hJ => ?_)
                  · obtain ⟨M2, c9, c10, mm, hA, dm, rfl⟩ := hJ
                    rw [List.getElem?_map] at ha
                    cases ep : kl[a]? with
                    | none => rw [ep] at ha; cases ha
                    | some p =>
                      rw [ep] at ha
                      cases ha
                      have hal : a < 4 := by rw [← hKL]; exact (List.getElem?_eq_some_iff.mp ep).1
                      have hT : kl.take (a + 1) = kl.take a ++ [p] := by rw [List.take_add_one, ep]; rfl
                      have hTl : (K07.mm n (kl.take a)).length ≤ 96 := by
                        rw [mm_len, List.length_take]
                        exact Nat.le_trans (Nat.mul_le_mul (show min a kl.length ≤ 4 by omega) hn24) (by decide)
                      have hML : M.length ≤ 28800 := by omega
                      simp only [vA, ru_seq, Nat.reduceAdd, Nat.reduceSub, Nat.reduceLeDiff, reduceCtorEq, String.reduceEq, Int.reduceBEq, Int.reduceLT, Int.reduceLE, Int.reduceAdd, Int.reduceSub, Int.reduceMul, Int.reduceNeg, Nat.reduceBEq, Slot.shut, List.replicate, implies_true, rg n (by omega)]
                      refine ru_forI (fun b s1 => b ≤ n ∧ ∃ (M2 : List (List (List Nat))) (c10 : Slot) (mm : List MO), Ad M R n x (K07.mm n (kl.take a) ++ (List.range b).map fun k => (p, k)) M2 ∧ P.Drw mm ∧ s1 = ⟨[.val (.mut 0), .val (.int s), .val (.int R), .val (.int n), .val (.lst PL), tT M2, .own ((fi R n s (i + 1)).map WD), .own ((KC n ((AP R n s).take i)).map .int), .val (WD x), .val (kd p.1 p.2), c10], mm⟩) ⟨Nat.zero_le _, M2, c10, mm, by simpa using hA, dm, rfl⟩ (fun b d s1 hb2 hJ => ?_) (fun s1 hJ => ?_)
                      · obtain ⟨_, M2, c10, mm, hA, dm, rfl⟩ := hJ
                        have hb3 := (rngL_get hb2).1
                        rw [(rngL_get hb2).2]
                        obtain ⟨x1, q1⟩ := law_led_ok g p.1 p.2 (b : Nat) mm
                        have hA2 := hA.2
                        rw [List.length_append, List.length_map, List.length_range] at hA2
                        simp only [vA, ru_seq, Nat.reduceAdd, Nat.reduceSub, Nat.reduceLeDiff, reduceCtorEq, String.reduceEq, Int.reduceBEq, Int.reduceLT, Int.reduceLE, Int.reduceAdd, Int.reduceSub, Int.reduceMul, Int.reduceNeg, Nat.reduceBEq, Slot.shut, List.replicate, implies_true, ru_putv, q1, ru_tupF]
                        refine ⟨rfl, ?_⟩
                        show ru _ (putAt 5 (tE.e (act R n (p, b) x)) ((fun _ : List (List Nat) => D.bl true) (act R n (p, b) x))) _ _
                        refine ru_putC tE keyOk_U (f := fun _ => .bl true) rfl (by omega) ?_
                        simp only [vA, ru_seq, Nat.reduceAdd, Nat.reduceSub, Nat.reduceLeDiff, reduceCtorEq, String.reduceEq, Int.reduceBEq, Int.reduceLT, Int.reduceLE, Int.reduceAdd, Int.reduceSub, Int.reduceMul, Int.reduceNeg, Nat.reduceBEq, Slot.shut, List.replicate, implies_true]
                        have hA3 := hA.add (p, b)
                        rw [List.append_assoc] at hA3
                        refine ⟨by omega, insK M2 (act R n (p, b) x), .val (.int b), mm ++ x1, ?_, Drw.app dm, rfl⟩
                        rw [List.range_succ, List.map_append]
                        exact hA3
                      · obtain ⟨_, M2, c10, mm, hA, dm, rfl⟩ := hJ
                        rw [rngL_length, ← mm_snoc, ← hT] at hA
                        exact ⟨M2, _, c10, mm, hA, dm, rfl⟩
                  · obtain ⟨M2, c9, c10, mm, hA, dm, rfl⟩ := hJ
                    rw [List.length_map, List.take_length] at hA
                    exact ⟨rfl, M2, c9, c10, mm, hA, dm, rfl⟩
                · obtain ⟨rfl, M2, c9, c10, mm, hA, dm, rfl⟩ := hJ
                  have hA2 := hA.2
                  rw [mots_len] at hA2
                  refine ⟨rfl, M2, c9, c10, mm, fun y => ?_, by omega, dm, rfl⟩
                  rw [hA.1, hM y, ef, List.any_append]
                  simp only [List.any_cons, List.any_nil, Bool.or_false, Bool.or_eq_true, orb_iff]
            · obtain ⟨M, c9, c10, mm, hM, hl, dm, rfl⟩ := hI
              obtain ⟨k1, ⟨d, k2, k3⟩, k4⟩ := kix_ok g
              have kl := KC_len n ((AP R n s).take i)
              have ht : (AP R n s).take (i + 1) = (AP R n s).take i ++ [x] := by rw [List.take_add_one, ex]; rfl
              have ks := KC_snoc n ((AP R n s).take i) x
              rw [← ht] at ks
              by_cases hx : pox x n = n
              · rw [if_pos hx] at ks
                have pk := fun m => law_period_ok g (pox_ok g) m
                rw [hx] at pk
                obtain ⟨x1, q1⟩ := k4 mm
                obtain ⟨x2, q2⟩ := k4 (mm ++ x1)
                have ei : ixD (.lst ((KC n ((AP R n s).take i)).map .int)) (.int (kix x : Nat)) = some (.int ((KC n ((AP R n s).take i)).getD (kix x) 0)) := ixD_li (by
                  rw [List.getElem?_map, List.getD_eq_getElem?_getD, List.getElem?_eq_getElem (by omega)]; rfl)
                simp only [vA, Nat.reduceAdd, Nat.reduceSub, Nat.reduceLeDiff, reduceCtorEq, String.reduceEq, Int.reduceBEq, Int.reduceLT, Int.reduceLE, Int.reduceAdd, Int.reduceSub, Int.reduceMul, Int.reduceNeg, Nat.reduceBEq, Slot.shut, List.replicate, implies_true, pk, q1, ei, ru_putv]
                refine ⟨rfl, ?_⟩
                simp only [vA, Nat.reduceAdd, Nat.reduceSub, Nat.reduceLeDiff, reduceCtorEq, String.reduceEq, Int.reduceBEq, Int.reduceLT, Int.reduceLE, Int.reduceAdd, Int.reduceSub, Int.reduceMul, Int.reduceNeg, Nat.reduceBEq, Slot.shut, List.replicate, implies_true, q2]
                refine ru_putL (xs := (KC n ((AP R n s).take i)).map .int) rfl (by rw [List.length_map]; omega) ?_
                rw [set_map]
                simp only [vA, Nat.reduceAdd, Nat.reduceSub, Nat.reduceLeDiff, reduceCtorEq, String.reduceEq, Int.reduceBEq, Int.reduceLT, Int.reduceLE, Int.reduceAdd, Int.reduceSub, Int.reduceMul, Int.reduceNeg, Nat.reduceBEq, Slot.shut, List.replicate, implies_true]
                refine ⟨M, .val (WD x), c9, c10, mm ++ x1 ++ x2, hM, hl, Drw.app (Drw.app dm), ?_⟩
                rw [ks]
                rfl
              · rw [if_neg hx] at ks
                have pk := fun m => law_period_ok g (pox_ok g) m
                have ne : ((pox x n : Int) == (n : Int)) = false := by rw [beq_eq_false_iff_ne]; omega
                simp only [vA, Nat.reduceAdd, Nat.reduceSub, Nat.reduceLeDiff, reduceCtorEq, String.reduceEq, Int.reduceBEq, Int.reduceLT, Int.reduceLE, Int.reduceAdd, Int.reduceSub, Int.reduceMul, Int.reduceNeg, Nat.reduceBEq, Slot.shut, List.replicate, implies_true, pk, ne]
                refine ⟨M, .val (WD x), c9, c10, mm, hM, hl, dm, ?_⟩
                rw [ks]
        · obtain ⟨M, c8, c9, c10, mm, hM, hl, dm, rfl⟩ := hI
          have e : fi R n s (((AP R n s).map WD).length) = firsts R n s := by unfold fi firsts; rw [List.length_map, List.take_length]
          have e2 : (AP R n s).take (((AP R n s).map WD).length) = AP R n s := by rw [List.length_map, List.take_length]
          rw [e, e2]
          exact ⟨rfl, M, c8, c9, c10, mm, dm, rfl⟩
      · obtain ⟨M, c8, c9, c10, mm, dm, rfl⟩ := hI
        have fl : (firsts R n s).length ≤ 300 := by
          have := fst_len (orb R n) (AP R n s) []
          unfold firsts
          simp at this
          omega
        have fw : ∀ w ∈ firsts R n s, w.length ≤ 1000 := fun w hw => by
          have h2 := (Bu.fst_inv (AP R n s) [] [] (fun x hx => orb_iff.mpr ⟨((false, false), 0), mem_mots.mpr g1, led_zero (AP_good h1 hR8 g1 hn24 hx)⟩) (by simp) List.Pairwise.nil (by simp)).1 w hw
          have := (mem_AP.mp (by simpa using h2)).1
          omega
        (rw [ru_seq]; simp only [vA, Nat.reduceAdd, Nat.reduceSub, Nat.reduceLeDiff, reduceCtorEq, String.reduceEq, Int.reduceBEq, Int.reduceLT, Int.reduceLE, Int.reduceAdd, Int.reduceSub, Int.reduceMul, Int.reduceNeg, Nat.reduceBEq, Slot.shut, List.replicate, implies_true, vO, unlike_ok h1 hR8 g1 hn24 h5 hs7 hb', eq_ws (show (firsts R n s).length ≤ 100000 by omega) fw, count_unlike_ok h1 hR8 g1 hn24 h5 hs7, eq_i])
        simp only [vA, Nat.reduceAdd, Nat.reduceSub, Nat.reduceLeDiff, reduceCtorEq, String.reduceEq, Int.reduceBEq, Int.reduceLT, Int.reduceLE, Int.reduceAdd, Int.reduceSub, Int.reduceMul, Int.reduceNeg, Nat.reduceBEq, Slot.shut, List.replicate, implies_true, by_kinds_ok h1 hR8 g1 hn24 h5 hs7 hb', eq_is (show (KC n (AP R n s)).length ≤ 1000 by rw [KC_len]; decide)]
        exact dm
  obtain ⟨d, m, e, rfl, hm⟩ := main
  exact ⟨m, e, hm⟩
end K07
namespace K07
open Vl
theorem lawN {R n s : Nat} (h1 : 1 ≤ R) (h2 : R ≤ 8) (h3 : 1 ≤ n) (h4 : n ≤ 24) (h5 : 1 ≤ s) (h6 : s ≤ 7) (e b : Bool) (k : Int) : ∃ many : Nat, (∀ m, den__law_rings [.int R, .int n, kd e b, .int k] m = .ok (.int many) m) ∧ ∀ m, den__law_power [.int s, .int many] m = .ok (.int (fixN R n s e b k)) m := by
  obtain ⟨many, q1, q2, q3⟩ := law_rings_ok h1 h2 h3 h4 e b k
  refine ⟨many, q3, fun m => ?_⟩
  rw [law_power_ok s (by omega) many (by omega), q2 s h5 h6]
theorem four (a b c d : D) {v : Int} (h0 : 0 ≤ v) (h3 : v < 4) : ∃ w, ixD (.lst [a, b, c, d]) (.int v) = some w ∧ (w = a ∨ w = b ∨ w = c ∨ w = d) := by
  have : v = 0 ∨ v = 1 ∨ v = 2 ∨ v = 3 := by omega
  rcases this with rfl | rfl | rfl | rfl
  · exact ⟨a, rfl, .inl rfl⟩
  · exact ⟨b, rfl, .inr (.inl rfl)⟩
  · exact ⟨c, rfl, .inr (.inr (.inl rfl))⟩
  · exact ⟨d, rfl, .inr (.inr (.inr rfl))⟩
theorem eight (l : List D) (hl : l.length = 8) {v : Int} (h0 : 0 ≤ v) (h3 : v < 8) : ∃ w ∈ l, ixD (.lst l) (.int v) = some w := by
  have h : v.toNat < l.length := by omega
  refine ⟨l[v.toNat], List.getElem_mem h, ?_⟩
  have := ixD_li (xs := l) (i := v.toNat) (List.getElem?_eq_getElem h)
  rwa [Int.toNat_of_nonneg h0] at this
theorem num1 (v : Int) (lo hi : Int) (k : Bool) (h : (decide (lo ≤ v) && decide (v ≤ hi)) = k) (m) : den_is_number [.int v, .int lo, .int hi] m = .ok (.bl k) m := by rw [num_ok, h]
def sizes : List D := [.tup [.int 0, .int 1, .int 2], .tup [.int 9, .int 1, .int 2], .tup [.int 1, .int 0, .int 2], .tup [.int 1, .int 25, .int 2], .tup [.int 1, .int 1, .int 0], .tup [.int 1, .int 1, .int 8], .tup [.bl true, .int 1, .int 2], .tup [.int 1, .non, .int 2]]
theorem bad_size {d : D} (h : d ∈ sizes) : ∃ a b c, d = .tup [a, b, c] ∧ ∀ m, den_check_all [a, b, c] m = .err "BadArgument" m := by
  unfold sizes at h
  simp only [List.mem_cons, List.not_mem_nil, or_false] at h
  rcases h with rfl | rfl | rfl | rfl | rfl | rfl | rfl | rfl
  · exact ⟨_, _, _, rfl, all_err (.inl (num1 _ _ _ _ (by decide)))⟩
  · exact ⟨_, _, _, rfl, all_err (.inl (num1 _ _ _ _ (by decide)))⟩
  · exact ⟨_, _, _, rfl, all_err (.inr ⟨num1 _ _ _ _ (by decide), .inl (num1 _ _ _ _ (by decide))⟩)⟩
  · exact ⟨_, _, _, rfl, all_err (.inr ⟨num1 _ _ _ _ (by decide), .inl (num1 _ _ _ _ (by decide))⟩)⟩
  · exact ⟨_, _, _, rfl, all_err (.inr ⟨num1 _ _ _ _ (by decide), .inr ⟨num1 _ _ _ _ (by decide), num1 _ _ _ _ (by decide)⟩⟩)⟩
  · exact ⟨_, _, _, rfl, all_err (.inr ⟨num1 _ _ _ _ (by decide), .inr ⟨num1 _ _ _ _ (by decide), num1 _ _ _ _ (by decide)⟩⟩)⟩
  · exact ⟨_, _, _, rfl, all_err (.inl (num_bl _ _ _))⟩
  · exact ⟨_, _, _, rfl, all_err (.inr ⟨num1 _ _ _ _ (by decide), .inl (num_non _ _)⟩)⟩
theorem law_true (ns : List Int) (hl : ns.length ≤ 63) : ∃ m, den_law [.frl (ns.map .int)] [] = .ok (.bl true) m := by
  have main : ∃ d m, den_law [.frl (ns.map .int)] [] = .ok d m ∧ d = .bl true := by
    refine fn_ex rfl ?_
    obtain ⟨nums, hn, e0⟩ := P.numbers_ok ns hl []
    unfold body_law
    simp only [List.map_cons, List.map_nil, List.cons_append, List.nil_append, List.replicate]
    rw [ru_seq, ru_mem]
    refine ru_val (a := [.lst (nums.map .int), .int 0]) (s' := ⟨_, []⟩) (by simp only [vA, ru_seq, Nat.reduceAdd, Nat.reduceSub, Nat.reduceLeDiff, reduceCtorEq, String.reduceEq, Int.reduceBEq, Int.reduceLT, Int.reduceLE, Int.reduceAdd, Int.reduceSub, Int.reduceMul, Int.reduceNeg, Nat.reduceBEq, Slot.shut, List.replicate, implies_true, e0]; rfl) ?_
    have dr : P.Drw [.lst [.lst (nums.map .int), .int 0]] := ⟨nums, 0, [], rfl, hn, by decide⟩
    simp only [List.set_cons_succ, List.set_cons_zero, List.length_nil, List.nil_append]
    generalize D.frl (ns.map .int) = sc
    generalize [MO.lst [.lst (nums.map .int), .int 0]] = m0 at dr
    -- few
    obtain ⟨m1, ef, d1⟩ := few_ok dr
    (rw [ru_seq]; simp only [vA, Nat.reduceAdd, Nat.reduceSub, Nat.reduceLeDiff, reduceCtorEq, String.reduceEq, Int.reduceBEq, Int.reduceLT, Int.reduceLE, Int.reduceAdd, Int.reduceSub, Int.reduceMul, Int.reduceNeg, Nat.reduceBEq, Slot.shut, List.replicate, implies_true, vO, ef])
    -- rows, n, signs
    (rw [ru_seq]; simp only [vA, Nat.reduceAdd, Nat.reduceSub, Nat.reduceLeDiff, reduceCtorEq, String.reduceEq, Int.reduceBEq, Int.reduceLT, Int.reduceLE, Int.reduceAdd, Int.reduceSub, Int.reduceMul, Int.reduceNeg, Nat.reduceBEq, Slot.shut, List.replicate, implies_true, vO])
    refine P.O.fr_draw d1 fun v2 m2 a2 b2 d2 t2 => ?_
    obtain ⟨R, hR, h1, h2⟩ : ∃ R : Nat, 1 + v2 % 8 = (R : Int) ∧ 1 ≤ R ∧ R ≤ 8 := ⟨(1 + v2 % 8).toNat, by omega, by omega, by omega⟩
    simp only [vA, Nat.reduceAdd, Nat.reduceSub, Nat.reduceLeDiff, reduceCtorEq, String.reduceEq, Int.reduceBEq, Int.reduceLT, Int.reduceLE, Int.reduceAdd, Int.reduceSub, Int.reduceMul, Int.reduceNeg, Nat.reduceBEq, Slot.shut, List.replicate, implies_true, md (i := v2) 8, hR]
    refine P.O.fr_draw d2 fun v3 m3 a3 b3 d3 t3 => ?_
    obtain ⟨n, hn', h3, h4⟩ : ∃ n : Nat, 1 + v3 % 24 = (n : Int) ∧ 1 ≤ n ∧ n ≤ 24 := ⟨(1 + v3 % 24).toNat, by omega, by omega, by omega⟩
    simp only [vA, Nat.reduceAdd, Nat.reduceSub, Nat.reduceLeDiff, reduceCtorEq, String.reduceEq, Int.reduceBEq, Int.reduceLT, Int.reduceLE, Int.reduceAdd, Int.reduceSub, Int.reduceMul, Int.reduceNeg, Nat.reduceBEq, Slot.shut, List.replicate, implies_true, md (i := v3) 24, hn']
    refine P.O.fr_draw d3 fun v4 m4 a4 b4 d4 t4 => ?_
    obtain ⟨s, hs, h5, h6⟩ : ∃ s : Nat, 1 + v4 % 7 = (s : Int) ∧ 1 ≤ s ∧ s ≤ 7 := ⟨(1 + v4 % 7).toNat, by omega, by omega, by omega⟩
    simp only [vA, Nat.reduceAdd, Nat.reduceSub, Nat.reduceLeDiff, reduceCtorEq, String.reduceEq, Int.reduceBEq, Int.reduceLT, Int.reduceLE, Int.reduceAdd, Int.reduceSub, Int.reduceMul, Int.reduceNeg, Nat.reduceBEq, Slot.shut, List.replicate, implies_true, md (i := v4) 7, hs]
    -- kinds, motion
    (rw [ru_seq]; simp only [vA, Nat.reduceAdd, Nat.reduceSub, Nat.reduceLeDiff, reduceCtorEq, String.reduceEq, Int.reduceBEq, Int.reduceLT, Int.reduceLE, Int.reduceAdd, Int.reduceSub, Int.reduceMul, Int.reduceNeg, Nat.reduceBEq, Slot.shut, List.replicate, implies_true, vO])
    (rw [ru_seq]; simp only [vA, Nat.reduceAdd, Nat.reduceSub, Nat.reduceLeDiff, reduceCtorEq, String.reduceEq, Int.reduceBEq, Int.reduceLT, Int.reduceLE, Int.reduceAdd, Int.reduceSub, Int.reduceMul, Int.reduceNeg, Nat.reduceBEq, Slot.shut, List.replicate, implies_true, vO])
    refine P.O.fr_draw d4 fun v5 m5 a5 b5 d5 t5 => ?_
    obtain ⟨w, e1, hw⟩ := four (.str "glided") (.str "mirrored") (.str "moved") (.str "turned") (v := v5 % 4) (by omega) (by omega)
    obtain ⟨e, b, rfl⟩ : ∃ e b, w = kd e b := by
      rcases hw with rfl | rfl | rfl | rfl
      · exact ⟨true, false, rfl⟩
      · exact ⟨false, true, rfl⟩
      · exact ⟨false, false, rfl⟩
      · exact ⟨true, true, rfl⟩
    simp only [vA, Nat.reduceAdd, Nat.reduceSub, Nat.reduceLeDiff, reduceCtorEq, String.reduceEq, Int.reduceBEq, Int.reduceLT, Int.reduceLE, Int.reduceAdd, Int.reduceSub, Int.reduceMul, Int.reduceNeg, Nat.reduceBEq, Slot.shut, List.replicate, implies_true, md (i := v5) 4, e1]
    refine P.O.fr_draw d5 fun v6 m6 a6 b6 d6 t6 => ?_
    simp only [vA, Nat.reduceAdd, Nat.reduceSub, Nat.reduceLeDiff, reduceCtorEq, String.reduceEq, Int.reduceBEq, Int.reduceLT, Int.reduceLE, Int.reduceAdd, Int.reduceSub, Int.reduceMul, Int.reduceNeg, Nat.reduceBEq, Slot.shut, List.replicate, implies_true, md (i := v6) 2001]
    have hk1 : -1000000 ≤ v6 % 2001 - 1000 := by omega
    have hk2 : v6 % 2001 - 1000 ≤ 1000000 := by omega
    generalize v6 % 2001 - 1000 = k at hk1 hk2
    -- kept_by
    obtain ⟨many, p1, p2⟩ := lawN h1 h2 h3 h4 h5 h6 e b k
    have kb : ∀ m, den_kept_by [.int R, .int n, .int s, .tup [kd e b, .int k]] m = .ok (.int (fixN R n s e b k)) m := kept_by_ok h1 h2 h3 h4 h5 h6 e b hk1 hk2
    (rw [ru_seq]; simp only [vA, Nat.reduceAdd, Nat.reduceSub, Nat.reduceLeDiff, reduceCtorEq, String.reduceEq, Int.reduceBEq, Int.reduceLT, Int.reduceLE, Int.reduceAdd, Int.reduceSub, Int.reduceMul, Int.reduceNeg, Nat.reduceBEq, Slot.shut, List.replicate, implies_true, vO, kb, ix_p0, ix_p1, p1, p2, eq_i])
    -- whole
    (rw [ru_seq]; simp only [vA, Nat.reduceAdd, Nat.reduceSub, Nat.reduceLeDiff, reduceCtorEq, String.reduceEq, Int.reduceBEq, Int.reduceLT, Int.reduceLE, Int.reduceAdd, Int.reduceSub, Int.reduceMul, Int.reduceNeg, Nat.reduceBEq, Slot.shut, List.replicate, implies_true, vO])
    have eK : [D.str "glided", D.str "mirrored", D.str "moved", D.str "turned"] = KL.map fun p => kd p.1 p.2 := rfl
    have hKL : KL.length = 4 := rfl
    obtain ⟨T, hT⟩ : ∃ T, T = Bu.sm (K07.mm n KL) fun t => fixN R n s t.1.1 t.1.2 t.2 := ⟨_, rfl⟩
    have tot : T = (firsts R n s).length * (4 * n) := by rw [hT]; exact total_eq (s := s) h1 h2 h3 h4
    rw [eK]
    generalize KL = kl at hT hKL ⊢
    refine ru_seqI (fun s1 => ∃ c8 : Slot, s1 = ⟨[.val sc, .val (.mut 0), .val (.int R), .val (.int n), .val (.int s), .val (.lst (kl.map fun p => kd p.1 p.2)), .val (.tup [kd e b, .int k]), .val (.int T), c8, .un, .un, .un, .un], m6⟩) ?_ fun s1 hI => ?_
    · simp only [vA, Nat.reduceAdd, Nat.reduceSub, Nat.reduceLeDiff, reduceCtorEq, String.reduceEq, Int.reduceBEq, Int.reduceLT, Int.reduceLE, Int.reduceAdd, Int.reduceSub, Int.reduceMul, Int.reduceNeg, Nat.reduceBEq, Slot.shut, List.replicate, implies_true]
      refine ru_forI (fun i s1 => ∃ c8 : Slot, s1 = ⟨[.val sc, .val (.mut 0), .val (.int R), .val (.int n), .val (.int s), .val (.lst (kl.map fun p => kd p.1 p.2)), .val (.tup [kd e b, .int k]), .val (.int (Bu.sm (K07.mm n (kl.take i)) fun t => fixN R n s t.1.1 t.1.2 t.2)), c8, .un, .un, .un, .un], m6⟩) ⟨.un, rfl⟩ (fun i d s1 hi hI => ?_) (fun s1 hI => ?_)
      · obtain ⟨c8, rfl⟩ := hI
        rw [List.getElem?_map] at hi
        cases ep : kl[i]? with
        | none => rw [ep] at hi; cases hi
        | some p =>
          rw [ep] at hi
          cases hi
          have hT : kl.take (i + 1) = kl.take i ++ [p] := by rw [List.take_add_one, ep]; rfl
          have rn := rg n (by omega)
          simp only [vA, ru_seq, Nat.reduceAdd, Nat.reduceSub, Nat.reduceLeDiff, reduceCtorEq, String.reduceEq, Int.reduceBEq, Int.reduceLT, Int.reduceLE, Int.reduceAdd, Int.reduceSub, Int.reduceMul, Int.reduceNeg, Nat.reduceBEq, Slot.shut, List.replicate, implies_true, vO, rn, rngL_length]
          refine ⟨by omega, ?_⟩
          rw [rngL_map]
          refine ru_lcM (α := Nat) (xs := List.range n) (h := fun k => .int (0 + (k : Nat))) (k := fun k => .int (fixN R n s p.1 p.2 (k : Nat))) (fun k hk => ?_) ?_
          · obtain ⟨many, p1, p2⟩ := lawN h1 h2 h3 h4 h5 h6 p.1 p.2 (k : Nat)
            simp only [vA, ru_seq, Nat.reduceAdd, Nat.reduceSub, Nat.reduceLeDiff, reduceCtorEq, String.reduceEq, Int.reduceBEq, Int.reduceLT, Int.reduceLE, Int.reduceAdd, Int.reduceSub, Int.reduceMul, Int.reduceNeg, Nat.reduceBEq, Slot.shut, List.replicate, implies_true, p1, p2]
          · have e : ((List.range n).map fun k : Nat => D.int (fixN R n s p.1 p.2 (k : Nat) : Nat)) = ((List.range n).map fun k : Nat => ((fixN R n s p.1 p.2 (k : Nat) : Nat) : Int)).map .int := by rw [List.map_map]; rfl
            rw [e]
            simp only [vA, ru_seq, Nat.reduceAdd, Nat.reduceSub, Nat.reduceLeDiff, reduceCtorEq, String.reduceEq, Int.reduceBEq, Int.reduceLT, Int.reduceLE, Int.reduceAdd, Int.reduceSub, Int.reduceMul, Int.reduceNeg, Nat.reduceBEq, Slot.shut, List.replicate, implies_true, ru_sum]
            refine ⟨.val (kd p.1 p.2), ?_⟩
            rw [hT, mm_snoc, sum_cast]
            have e2 : ∀ (l l' : List ((Bool × Bool) × Nat)) f, Bu.sm (l ++ l') f = Bu.sm l f + Bu.sm l' f := fun l l' f => by unfold Bu.sm; rw [List.map_append, List.sum_append_nat]
            have e3 : Bu.sm ((List.range n).map fun k => (p, k)) (fun t => fixN R n s t.1.1 t.1.2 t.2) = Bu.sm (List.range n) fun k => fixN R n s p.1 p.2 (k : Nat) := by unfold Bu.sm; rw [List.map_map]; rfl
            rw [e2, e3, Int.natCast_add]
      · obtain ⟨c8, rfl⟩ := hI
        rw [List.length_map, List.take_length, ← hT]
        exact ⟨rfl, _, rfl⟩
    obtain ⟨c8, rfl⟩ := hI
    rw [tot]
    have ed : ((((firsts R n s).length * (4 * n) : Nat) : Int) / (4 * (n : Int))) = (firsts R n s).length := by
      rw [Int.natCast_mul, show ((4 * n : Nat) : Int) = 4 * (n : Int) by omega]
      exact Int.mul_ediv_cancel _ (by omega)
    have em : ((((firsts R n s).length * (4 * n) : Nat) : Int) % (4 * (n : Int))) = 0 := by
      rw [Int.natCast_mul, show ((4 * n : Nat) : Int) = 4 * (n : Int) by omega]
      exact Int.mul_emod_left ..
    have cu := fun m => count_unlike_ok h1 h2 h3 h4 h5 h6 m
    generalize (firsts R n s).length * (4 * n) = T2 at ed em
    (rw [ru_seq]; simp only [vA, Nat.reduceAdd, Nat.reduceSub, Nat.reduceLeDiff, reduceCtorEq, String.reduceEq, Int.reduceBEq, Int.reduceLT, Int.reduceLE, Int.reduceAdd, Int.reduceSub, Int.reduceMul, Int.reduceNeg, Nat.reduceBEq, Slot.shut, List.replicate, implies_true, vO, cu, mulD_ii (i := 4) (j := (n : Int)) (by omega), fdivD_ii (i := (T2 : Int)) (j := 4 * (n : Int)) (by omega) (by omega), ed, eq_i, modD_ii (i := (T2 : Int)) (j := 4 * (n : Int)) (by omega), em])
    -- large
    have g1 := fun m => err_large (a := .int 1) (b := .int 13) (c := .int 2) (fun m => check_all_ok (R := 1) (n := 13) (s := 2) (by decide) (by decide) (by decide) (by decide) (by decide) (by decide) m) (fun m => listed_err (R := 1) (n := 13) (s := 2) (by decide) (by decide) (by decide) (by decide) m) (.inl rfl) m
    have g2 := fun m => err_large (a := .int 2) (b := .int 4) (c := .int 4) (fun m => check_all_ok (R := 2) (n := 4) (s := 4) (by decide) (by decide) (by decide) (by decide) (by decide) (by decide) m) (fun m => listed_err (R := 2) (n := 4) (s := 4) (by decide) (by decide) (by decide) (by decide) m) (.inr rfl) m
    (rw [ru_seq]; simp only [vA, Nat.reduceAdd, Nat.reduceSub, Nat.reduceLeDiff, reduceCtorEq, String.reduceEq, Int.reduceBEq, Int.reduceLT, Int.reduceLE, Int.reduceAdd, Int.reduceSub, Int.reduceMul, Int.reduceNeg, Nat.reduceBEq, Slot.shut, List.replicate, implies_true, vO, g1, g2])
    -- wrong sizes
    (rw [ru_seq]; simp only [vA, Nat.reduceAdd, Nat.reduceSub, Nat.reduceLeDiff, reduceCtorEq, String.reduceEq, Int.reduceBEq, Int.reduceLT, Int.reduceLE, Int.reduceAdd, Int.reduceSub, Int.reduceMul, Int.reduceNeg, Nat.reduceBEq, Slot.shut, List.replicate, implies_true, vO])
    (rw [ru_seq]; simp only [vA, Nat.reduceAdd, Nat.reduceSub, Nat.reduceLeDiff, reduceCtorEq, String.reduceEq, Int.reduceBEq, Int.reduceLT, Int.reduceLE, Int.reduceAdd, Int.reduceSub, Int.reduceMul, Int.reduceNeg, Nat.reduceBEq, Slot.shut, List.replicate, implies_true, vO])
    refine P.O.fr_draw d6 fun v7 m7 a7 b7 d7 t7 => ?_
    obtain ⟨w, hw, iw⟩ := eight sizes rfl (v := v7 % 8) (by omega) (by omega)
    obtain ⟨a, b', c, rfl, hc⟩ := bad_size hw
    have iw : ixD (.lst [.tup [.int 0, .int 1, .int 2], .tup [.int 9, .int 1, .int 2], .tup [.int 1, .int 0, .int 2], .tup [.int 1, .int 25, .int 2], .tup [.int 1, .int 1, .int 0], .tup [.int 1, .int 1, .int 8], .tup [.bl true, .int 1, .int 2], .tup [.int 1, .non, .int 2]]) (.int (v7 % 8)) = _ := iw
    simp only [vA, Nat.reduceAdd, Nat.reduceSub, Nat.reduceLeDiff, reduceCtorEq, String.reduceEq, Int.reduceBEq, Int.reduceLT, Int.reduceLE, Int.reduceAdd, Int.reduceSub, Int.reduceMul, Int.reduceNeg, Nat.reduceBEq, Slot.shut, List.replicate, implies_true, md (i := v7) 8, iw]
    generalize D.lst (kl.map fun p => kd p.1 p.2) = kD
    generalize D.lst [.tup [.int 0, .int 1, .int 2], .tup [.int 9, .int 1, .int 2], .tup [.int 1, .int 0, .int 2], .tup [.int 1, .int 25, .int 2], .tup [.int 1, .int 1, .int 0], .tup [.int 1, .int 1, .int 8], .tup [.bl true, .int 1, .int 2], .tup [.int 1, .non, .int 2]] = SZ
    have i0 : ixD (.tup [a, b', c]) (.int 0) = some a := rfl
    have i1 : ixD (.tup [a, b', c]) (.int 1) = some b' := rfl
    have i2 : ixD (.tup [a, b', c]) (.int 2) = some c := rfl
    have lkt : ∀ s1 : DS, lookD s1 (.tup [a, b', c]) = .tup [a, b', c] := fun _ => rfl
    generalize D.tup [a, b', c] = BD at i0 i1 i2 lkt
    refine ru_seqI (fun s1 => ∃ c11 : Slot, s1 = ⟨[.val sc, .val (.mut 0), .val (.int R), .val (.int n), .val (.int s), .val kD, .val (.tup [kd e b, .int k]), .val (.int T2), c8, .val SZ, .val BD, c11, .un], m7⟩) ?_ fun s1 hI => ?_
    · simp only [vA, Nat.reduceAdd, Nat.reduceSub, Nat.reduceLeDiff, reduceCtorEq, String.reduceEq, Int.reduceBEq, Int.reduceLT, Int.reduceLE, Int.reduceAdd, Int.reduceSub, Int.reduceMul, Int.reduceNeg, Nat.reduceBEq, Slot.shut, List.replicate, implies_true]
      refine ru_forI (fun _ s1 => ∃ c11 : Slot, s1 = ⟨[.val sc, .val (.mut 0), .val (.int R), .val (.int n), .val (.int s), .val kD, .val (.tup [kd e b, .int k]), .val (.int T2), c8, .val SZ, .val BD, c11, .un], m7⟩) ⟨.un, rfl⟩ (fun i d s1 hi hI => ?_) (fun s1 hI => ⟨rfl, hI⟩)
      obtain ⟨c11, rfl⟩ := hI
      have hd := List.mem_of_getElem? hi
      simp only [List.mem_cons, List.not_mem_nil, or_false] at hd
      have he := fun m => err_arg (mo := .tup [.str "moved", .int 0]) hc hd m
      simp only [vA, Nat.reduceAdd, Nat.reduceSub, Nat.reduceLeDiff, reduceCtorEq, String.reduceEq, Int.reduceBEq, Int.reduceLT, Int.reduceLE, Int.reduceAdd, Int.reduceSub, Int.reduceMul, Int.reduceNeg, Nat.reduceBEq, Slot.shut, List.replicate, implies_true, i0, i1, i2, he, lkt]
      exact ⟨.val d, rfl⟩
    obtain ⟨c11, rfl⟩ := hI
    simp only [vA, Nat.reduceAdd, Nat.reduceSub, Nat.reduceLeDiff, reduceCtorEq, String.reduceEq, Int.reduceBEq, Int.reduceLT, Int.reduceLE, Int.reduceAdd, Int.reduceSub, Int.reduceMul, Int.reduceNeg, Nat.reduceBEq, Slot.shut, List.replicate, implies_true]
    refine P.O.fr_draw d7 fun v8 m8 a8 b8 d8 t8 => ?_
    obtain ⟨w, e8, hw8⟩ := four .non (.tup [.str "slid", .int 0]) (.tup [.str "moved", .bl true]) (.lst [.str "moved", .int 0]) (v := v8 % 4) (by omega) (by omega)
    have he := fun m => err_motion (bad_motion hw8) m
    simp only [vA, Nat.reduceAdd, Nat.reduceSub, Nat.reduceLeDiff, reduceCtorEq, String.reduceEq, Int.reduceBEq, Int.reduceLT, Int.reduceLE, Int.reduceAdd, Int.reduceSub, Int.reduceMul, Int.reduceNeg, Nat.reduceBEq, Slot.shut, List.replicate, implies_true, md (i := v8) 4, e8, he]
  obtain ⟨d, m, e, rfl⟩ := main
  exact ⟨m, e⟩
end K07
namespace K07
open PySem PySem.Spec PyProof.Rows Vl
open L2 (FnScope defScope defBody defArgs nomark fun_mk)
theorem all_mk {l : PySem.W.OpenLaw} {w : World} {K : PySem.W.Frag} {h : Heap} {mg : Str → Option Value} {fa : Addr} (X : K.In h) (G : h.Ns mainGlobals mg) (hfa : mg "law" = some (.ref fa))
    {f0 : Addr} {od0 an0 : Option Addr} {sl0 : Array (Option Value)} {oc0 kV0 dc0 pm0 cd0 ct0 : Value}
    {f1 : Addr} {od1 an1 : Option Addr} {sl1 : Array (Option Value)} {oc1 kV1 dc1 pm1 cd1 ct1 : Value}
    {f2 : Addr} {od2 an2 : Option Addr} {sl2 : Array (Option Value)} {oc2 kV2 dc2 pm2 cd2 ct2 : Value}
    {f3 : Addr} {od3 an3 : Option Addr} {sl3 : Array (Option Value)} {oc3 kV3 dc3 pm3 cd3 ct3 : Value}
    {f4 : Addr} {od4 an4 : Option Addr} {sl4 : Array (Option Value)} {oc4 kV4 dc4 pm4 cd4 ct4 : Value}
    {f5 : Addr} {od5 an5 : Option Addr} {sl5 : Array (Option Value)} {oc5 kV5 dc5 pm5 cd5 ct5 : Value}
    {f6 : Addr} {od6 an6 : Option Addr} {sl6 : Array (Option Value)} {oc6 kV6 dc6 pm6 cd6 ct6 : Value}
    {f7 : Addr} {od7 an7 : Option Addr} {sl7 : Array (Option Value)} {oc7 kV7 dc7 pm7 cd7 ct7 : Value}
    {f8 : Addr} {od8 an8 : Option Addr} {sl8 : Array (Option Value)} {oc8 kV8 dc8 pm8 cd8 ct8 : Value}
    {f9 : Addr} {od9 an9 : Option Addr} {sl9 : Array (Option Value)} {oc9 kV9 dc9 pm9 cd9 ct9 : Value}
    {f10 : Addr} {od10 an10 : Option Addr} {sl10 : Array (Option Value)} {oc10 kV10 dc10 pm10 cd10 ct10 : Value}
    {f11 : Addr} {od11 an11 : Option Addr} {sl11 : Array (Option Value)} {oc11 kV11 dc11 pm11 cd11 ct11 : Value}
    {f12 : Addr} {od12 an12 : Option Addr} {sl12 : Array (Option Value)} {oc12 kV12 dc12 pm12 cd12 ct12 : Value}
    {f13 : Addr} {od13 an13 : Option Addr} {sl13 : Array (Option Value)} {oc13 kV13 dc13 pm13 cd13 ct13 : Value}
    {f14 : Addr} {od14 an14 : Option Addr} {sl14 : Array (Option Value)} {oc14 kV14 dc14 pm14 cd14 ct14 : Value}
    {f15 : Addr} {od15 an15 : Option Addr} {sl15 : Array (Option Value)} {oc15 kV15 dc15 pm15 cd15 ct15 : Value}
    {f16 : Addr} {od16 an16 : Option Addr} {sl16 : Array (Option Value)} {oc16 kV16 dc16 pm16 cd16 ct16 : Value}
    {f17 : Addr} {od17 an17 : Option Addr} {sl17 : Array (Option Value)} {oc17 kV17 dc17 pm17 cd17 ct17 : Value}
    {f18 : Addr} {od18 an18 : Option Addr} {sl18 : Array (Option Value)} {oc18 kV18 dc18 pm18 cd18 ct18 : Value}
    {f19 : Addr} {od19 an19 : Option Addr} {sl19 : Array (Option Value)} {oc19 kV19 dc19 pm19 cd19 ct19 : Value}
    {f20 : Addr} {od20 an20 : Option Addr} {sl20 : Array (Option Value)} {oc20 kV20 dc20 pm20 cd20 ct20 : Value}
    {f21 : Addr} {od21 an21 : Option Addr} {sl21 : Array (Option Value)} {oc21 kV21 dc21 pm21 cd21 ct21 : Value}
    {f22 : Addr} {od22 an22 : Option Addr} {sl22 : Array (Option Value)} {oc22 kV22 dc22 pm22 cd22 ct22 : Value}
    {f23 : Addr} {od23 an23 : Option Addr} {sl23 : Array (Option Value)} {oc23 kV23 dc23 pm23 cd23 ct23 : Value}
    {f24 : Addr} {od24 an24 : Option Addr} {sl24 : Array (Option Value)} {oc24 kV24 dc24 pm24 cd24 ct24 : Value}
    {f25 : Addr} {od25 an25 : Option Addr} {sl25 : Array (Option Value)} {oc25 kV25 dc25 pm25 cd25 ct25 : Value}
    {f26 : Addr} {od26 an26 : Option Addr} {sl26 : Array (Option Value)} {oc26 kV26 dc26 pm26 cd26 ct26 : Value}
    {f27 : Addr} {od27 an27 : Option Addr} {sl27 : Array (Option Value)} {oc27 kV27 dc27 pm27 cd27 ct27 : Value}
    {f28 : Addr} {od28 an28 : Option Addr} {sl28 : Array (Option Value)} {oc28 kV28 dc28 pm28 cd28 ct28 : Value}
    {f29 : Addr} {od29 an29 : Option Addr} {sl29 : Array (Option Value)} {oc29 kV29 dc29 pm29 cd29 ct29 : Value}
    {f30 : Addr} {od30 an30 : Option Addr} {sl30 : Array (Option Value)} {oc30 kV30 dc30 pm30 cd30 ct30 : Value}
    {f31 : Addr} {od31 an31 : Option Addr} {sl31 : Array (Option Value)} {oc31 kV31 dc31 pm31 cd31 ct31 : Value}
    {f32 : Addr} {od32 an32 : Option Addr} {sl32 : Array (Option Value)} {oc32 kV32 dc32 pm32 cd32 ct32 : Value}
    {f33 : Addr} {od33 an33 : Option Addr} {sl33 : Array (Option Value)} {oc33 kV33 dc33 pm33 cd33 ct33 : Value}
    {f34 : Addr} {od34 an34 : Option Addr} {sl34 : Array (Option Value)} {oc34 kV34 dc34 pm34 cd34 ct34 : Value}
    {f35 : Addr} {od35 an35 : Option Addr} {sl35 : Array (Option Value)} {oc35 kV35 dc35 pm35 cd35 ct35 : Value}
    {f36 : Addr} {od36 an36 : Option Addr} {sl36 : Array (Option Value)} {oc36 kV36 dc36 pm36 cd36 ct36 : Value}
    {f37 : Addr} {od37 an37 : Option Addr} {sl37 : Array (Option Value)} {oc37 kV37 dc37 pm37 cd37 ct37 : Value}
    {f38 : Addr} {od38 an38 : Option Addr} {sl38 : Array (Option Value)} {oc38 kV38 dc38 pm38 cd38 ct38 : Value}
    {f39 : Addr} {od39 an39 : Option Addr} {sl39 : Array (Option Value)} {oc39 kV39 dc39 pm39 cd39 ct39 : Value}
    {f40 : Addr} {od40 an40 : Option Addr} {sl40 : Array (Option Value)} {oc40 kV40 dc40 pm40 cd40 ct40 : Value}
    {f41 : Addr} {od41 an41 : Option Addr} {sl41 : Array (Option Value)} {oc41 kV41 dc41 pm41 cd41 ct41 : Value}
    {f42 : Addr} {od42 an42 : Option Addr} {sl42 : Array (Option Value)} {oc42 kV42 dc42 pm42 cd42 ct42 : Value}
    {f43 : Addr} {od43 an43 : Option Addr} {sl43 : Array (Option Value)} {oc43 kV43 dc43 pm43 cd43 ct43 : Value}
    {ca1 : Addr} {cdx1 : Option Addr} {cn1 : Nat} {cs1 : Array (Option Value)}
    {tk2 : Tok}
    {tk3 : Tok}
    {tk4 : Tok}
    {tk5 : Tok}
    {tk6 : Tok}
    {tk7 : Tok}
    {tk8 : Tok}
    {tk9 : Tok}
    {ca10 : Addr} {cn10 : Nat} {cs10 : Array (Option Value)}
    {tk11 : Tok}
    {tk12 : Tok}
    {tk13 : Tok}
    {tk14 : Tok}
    {tk15 : Tok}
    {tk16 : Tok}
    {tk17 : Tok}
    {tk18 : Tok}
    {e0 : Addr}
    {e1 : Addr}
    (a0 : PySem.W.nsIn K mainGlobals "is_number" = some (some (.ref f0)))
    (l0 : K.lookup f0 = some ⟨oc0, od0, .func (PySem.W.fnOf "is_number" "is_number" (defArgs s_is_number) (defBody s_is_number) (defScope s_is_number) .none kV0 dc0 pm0 an0 cd0 ct0), sl0⟩)
    (q0 : PySem.W.codeIn K cd0 "is_number" = true)
    (k0 : PySem.W.keepIn K (.ref f0) = true)
    (a1 : PySem.W.nsIn K mainGlobals "is_motion" = some (some (.ref f1)))
    (l1 : K.lookup f1 = some ⟨oc1, od1, .func (PySem.W.fnOf "is_motion" "is_motion" (defArgs s_is_motion) (defBody s_is_motion) (defScope s_is_motion) .none kV1 dc1 pm1 an1 cd1 ct1), sl1⟩)
    (q1 : PySem.W.codeIn K cd1 "is_motion" = true)
    (k1 : PySem.W.keepIn K (.ref f1) = true)
    (a2 : PySem.W.nsIn K mainGlobals "check_motion" = some (some (.ref f2)))
    (l2 : K.lookup f2 = some ⟨oc2, od2, .func (PySem.W.fnOf "check_motion" "check_motion" (defArgs s_check_motion) (defBody s_check_motion) (defScope s_check_motion) .none kV2 dc2 pm2 an2 cd2 ct2), sl2⟩)
    (q2 : PySem.W.codeIn K cd2 "check_motion" = true)
    (k2 : PySem.W.keepIn K (.ref f2) = true)
    (a3 : PySem.W.nsIn K mainGlobals "check_number" = some (some (.ref f3)))
    (l3 : K.lookup f3 = some ⟨oc3, od3, .func (PySem.W.fnOf "check_number" "check_number" (defArgs s_check_number) (defBody s_check_number) (defScope s_check_number) .none kV3 dc3 pm3 an3 cd3 ct3), sl3⟩)
    (q3 : PySem.W.codeIn K cd3 "check_number" = true)
    (k3 : PySem.W.keepIn K (.ref f3) = true)
    (a4 : PySem.W.nsIn K mainGlobals "check_sizes" = some (some (.ref f4)))
    (l4 : K.lookup f4 = some ⟨oc4, od4, .func (PySem.W.fnOf "check_sizes" "check_sizes" (defArgs s_check_sizes) (defBody s_check_sizes) (defScope s_check_sizes) .none kV4 dc4 pm4 an4 cd4 ct4), sl4⟩)
    (q4 : PySem.W.codeIn K cd4 "check_sizes" = true)
    (k4 : PySem.W.keepIn K (.ref f4) = true)
    (a5 : PySem.W.nsIn K mainGlobals "check_all" = some (some (.ref f5)))
    (l5 : K.lookup f5 = some ⟨oc5, od5, .func (PySem.W.fnOf "check_all" "check_all" (defArgs s_check_all) (defBody s_check_all) (defScope s_check_all) .none kV5 dc5 pm5 an5 cd5 ct5), sl5⟩)
    (q5 : PySem.W.codeIn K cd5 "check_all" = true)
    (k5 : PySem.W.keepIn K (.ref f5) = true)
    (a6 : PySem.W.nsIn K mainGlobals "power" = some (some (.ref f6)))
    (l6 : K.lookup f6 = some ⟨oc6, od6, .func (PySem.W.fnOf "power" "power" (defArgs s_power) (defBody s_power) (defScope s_power) .none kV6 dc6 pm6 an6 cd6 ct6), sl6⟩)
    (q6 : PySem.W.codeIn K cd6 "power" = true)
    (k6 : PySem.W.keepIn K (.ref f6) = true)
    (a7 : PySem.W.nsIn K mainGlobals "rest" = some (some (.ref f7)))
    (l7 : K.lookup f7 = some ⟨oc7, od7, .func (PySem.W.fnOf "rest" "rest" (defArgs s_rest) (defBody s_rest) (defScope s_rest) .none kV7 dc7 pm7 an7 cd7 ct7), sl7⟩)
    (q7 : PySem.W.codeIn K cd7 "rest" = true)
    (k7 : PySem.W.keepIn K (.ref f7) = true)
    (a8 : PySem.W.nsIn K mainGlobals "exchanges_rows" = some (some (.ref f8)))
    (l8 : K.lookup f8 = some ⟨oc8, od8, .func (PySem.W.fnOf "exchanges_rows" "exchanges_rows" (defArgs s_exchanges_rows) (defBody s_exchanges_rows) (defScope s_exchanges_rows) .none kV8 dc8 pm8 an8 cd8 ct8), sl8⟩)
    (q8 : PySem.W.codeIn K cd8 "exchanges_rows" = true)
    (k8 : PySem.W.keepIn K (.ref f8) = true)
    (a9 : PySem.W.nsIn K mainGlobals "runs_back" = some (some (.ref f9)))
    (l9 : K.lookup f9 = some ⟨oc9, od9, .func (PySem.W.fnOf "runs_back" "runs_back" (defArgs s_runs_back) (defBody s_runs_back) (defScope s_runs_back) .none kV9 dc9 pm9 an9 cd9 ct9), sl9⟩)
    (q9 : PySem.W.codeIn K cd9 "runs_back" = true)
    (k9 : PySem.W.keepIn K (.ref f9) = true)
    (a10 : PySem.W.nsIn K mainGlobals "goes_to" = some (some (.ref f10)))
    (l10 : K.lookup f10 = some ⟨oc10, od10, .func (PySem.W.fnOf "goes_to" "goes_to" (defArgs s_goes_to) (defBody s_goes_to) (defScope s_goes_to) .none kV10 dc10 pm10 an10 cd10 ct10), sl10⟩)
    (q10 : PySem.W.codeIn K cd10 "goes_to" = true)
    (k10 : PySem.W.keepIn K (.ref f10) = true)
    (a11 : PySem.W.nsIn K mainGlobals "cells_of" = some (some (.ref f11)))
    (l11 : K.lookup f11 = some ⟨oc11, od11, .func (PySem.W.fnOf "cells_of" "cells_of" (defArgs s_cells_of) (defBody s_cells_of) (defScope s_cells_of) .none kV11 dc11 pm11 an11 cd11 ct11), sl11⟩)
    (q11 : PySem.W.codeIn K cd11 "cells_of" = true)
    (k11 : PySem.W.keepIn K (.ref f11) = true)
    (a12 : PySem.W.nsIn K mainGlobals "rings_of" = some (some (.ref f12)))
    (l12 : K.lookup f12 = some ⟨oc12, od12, .func (PySem.W.fnOf "rings_of" "rings_of" (defArgs s_rings_of) (defBody s_rings_of) (defScope s_rings_of) .none kV12 dc12 pm12 an12 cd12 ct12), sl12⟩)
    (q12 : PySem.W.codeIn K cd12 "rings_of" = true)
    (k12 : PySem.W.keepIn K (.ref f12) = true)
    (a13 : PySem.W.nsIn K mainGlobals "kept_by" = some (some (.ref f13)))
    (l13 : K.lookup f13 = some ⟨oc13, od13, .func (PySem.W.fnOf "kept_by" "kept_by" (defArgs s_kept_by) (defBody s_kept_by) (defScope s_kept_by) .none kV13 dc13 pm13 an13 cd13 ct13), sl13⟩)
    (q13 : PySem.W.codeIn K cd13 "kept_by" = true)
    (k13 : PySem.W.keepIn K (.ref f13) = true)
    (a14 : PySem.W.nsIn K mainGlobals "motions_of" = some (some (.ref f14)))
    (l14 : K.lookup f14 = some ⟨oc14, od14, .func (PySem.W.fnOf "motions_of" "motions_of" (defArgs s_motions_of) (defBody s_motions_of) (defScope s_motions_of) .none kV14 dc14 pm14 an14 cd14 ct14), sl14⟩)
    (q14 : PySem.W.codeIn K cd14 "motions_of" = true)
    (k14 : PySem.W.keepIn K (.ref f14) = true)
    (a15 : PySem.W.nsIn K mainGlobals "count_unlike" = some (some (.ref f15)))
    (l15 : K.lookup f15 = some ⟨oc15, od15, .func (PySem.W.fnOf "count_unlike" "count_unlike" (defArgs s_count_unlike) (defBody s_count_unlike) (defScope s_count_unlike) .none kV15 dc15 pm15 an15 cd15 ct15), sl15⟩)
    (q15 : PySem.W.codeIn K cd15 "count_unlike" = true)
    (k15 : PySem.W.keepIn K (.ref f15) = true)
    (a16 : PySem.W.nsIn K mainGlobals "_law_mixed" = some (some (.ref f16)))
    (l16 : K.lookup f16 = some ⟨oc16, od16, .func (PySem.W.fnOf "_law_mixed" "_law_mixed" (defArgs s__law_mixed) (defBody s__law_mixed) (defScope s__law_mixed) .none kV16 dc16 pm16 an16 cd16 ct16), sl16⟩)
    (q16 : PySem.W.codeIn K cd16 "_law_mixed" = true)
    (k16 : PySem.W.keepIn K (.ref f16) = true)
    (a17 : PySem.W.nsIn K mainGlobals "_law_numbers" = some (some (.ref f17)))
    (l17 : K.lookup f17 = some ⟨oc17, od17, .func (PySem.W.fnOf "_law_numbers" "_law_numbers" (defArgs s__law_numbers) (defBody s__law_numbers) (defScope s__law_numbers) .none kV17 dc17 pm17 an17 cd17 ct17), sl17⟩)
    (q17 : PySem.W.codeIn K cd17 "_law_numbers" = true)
    (k17 : PySem.W.keepIn K (.ref f17) = true)
    (a18 : PySem.W.nsIn K mainGlobals "_law_draw" = some (some (.ref f18)))
    (l18 : K.lookup f18 = some ⟨oc18, od18, .func (PySem.W.fnOf "_law_draw" "_law_draw" (defArgs s__law_draw) (defBody s__law_draw) (defScope s__law_draw) .none kV18 dc18 pm18 an18 cd18 ct18), sl18⟩)
    (q18 : PySem.W.codeIn K cd18 "_law_draw" = true)
    (k18 : PySem.W.keepIn K (.ref f18) = true)
    (a19 : PySem.W.nsIn K mainGlobals "_law_equal" = some (some (.ref f19)))
    (l19 : K.lookup f19 = some ⟨oc19, od19, .func (PySem.W.fnOf "_law_equal" "_law_equal" (defArgs s__law_equal) (defBody s__law_equal) (defScope s__law_equal) .none kV19 dc19 pm19 an19 cd19 ct19), sl19⟩)
    (q19 : PySem.W.codeIn K cd19 "_law_equal" = true)
    (k19 : PySem.W.keepIn K (.ref f19) = true)
    (a20 : PySem.W.nsIn K mainGlobals "_law_all_equal" = some (some (.ref f20)))
    (l20 : K.lookup f20 = some ⟨oc20, od20, .func (PySem.W.fnOf "_law_all_equal" "_law_all_equal" (defArgs s__law_all_equal) (defBody s__law_all_equal) (defScope s__law_all_equal) .none kV20 dc20 pm20 an20 cd20 ct20), sl20⟩)
    (q20 : PySem.W.codeIn K cd20 "_law_all_equal" = true)
    (k20 : PySem.W.keepIn K (.ref f20) = true)
    (a21 : PySem.W.nsIn K mainGlobals "_law_power" = some (some (.ref f21)))
    (l21 : K.lookup f21 = some ⟨oc21, od21, .func (PySem.W.fnOf "_law_power" "_law_power" (defArgs s__law_power) (defBody s__law_power) (defScope s__law_power) .none kV21 dc21 pm21 an21 cd21 ct21), sl21⟩)
    (q21 : PySem.W.codeIn K cd21 "_law_power" = true)
    (k21 : PySem.W.keepIn K (.ref f21) = true)
    (a22 : PySem.W.nsIn K mainGlobals "_law_goes" = some (some (.ref f22)))
    (l22 : K.lookup f22 = some ⟨oc22, od22, .func (PySem.W.fnOf "_law_goes" "_law_goes" (defArgs s__law_goes) (defBody s__law_goes) (defScope s__law_goes) .none kV22 dc22 pm22 an22 cd22 ct22), sl22⟩)
    (q22 : PySem.W.codeIn K cd22 "_law_goes" = true)
    (k22 : PySem.W.keepIn K (.ref f22) = true)
    (a23 : PySem.W.nsIn K mainGlobals "_law_rings" = some (some (.ref f23)))
    (l23 : K.lookup f23 = some ⟨oc23, od23, .func (PySem.W.fnOf "_law_rings" "_law_rings" (defArgs s__law_rings) (defBody s__law_rings) (defScope s__law_rings) .none kV23 dc23 pm23 an23 cd23 ct23), sl23⟩)
    (q23 : PySem.W.codeIn K cd23 "_law_rings" = true)
    (k23 : PySem.W.keepIn K (.ref f23) = true)
    (a24 : PySem.W.nsIn K mainGlobals "back_of" = some (some (.ref f24)))
    (l24 : K.lookup f24 = some ⟨oc24, od24, .func (PySem.W.fnOf "back_of" "back_of" (defArgs s_back_of) (defBody s_back_of) (defScope s_back_of) .none kV24 dc24 pm24 an24 cd24 ct24), sl24⟩)
    (q24 : PySem.W.codeIn K cd24 "back_of" = true)
    (k24 : PySem.W.keepIn K (.ref f24) = true)
    (a25 : PySem.W.nsIn K mainGlobals "led_by" = some (some (.ref f25)))
    (l25 : K.lookup f25 = some ⟨oc25, od25, .func (PySem.W.fnOf "led_by" "led_by" (defArgs s_led_by) (defBody s_led_by) (defScope s_led_by) .none kV25 dc25 pm25 an25 cd25 ct25), sl25⟩)
    (q25 : PySem.W.codeIn K cd25 "led_by" = true)
    (k25 : PySem.W.keepIn K (.ref f25) = true)
    (a26 : PySem.W.nsIn K mainGlobals "check_listed" = some (some (.ref f26)))
    (l26 : K.lookup f26 = some ⟨oc26, od26, .func (PySem.W.fnOf "check_listed" "check_listed" (defArgs s_check_listed) (defBody s_check_listed) (defScope s_check_listed) .none kV26 dc26 pm26 an26 cd26 ct26), sl26⟩)
    (q26 : PySem.W.codeIn K cd26 "check_listed" = true)
    (k26 : PySem.W.keepIn K (.ref f26) = true)
    (a27 : PySem.W.nsIn K mainGlobals "lines_of" = some (some (.ref f27)))
    (l27 : K.lookup f27 = some ⟨oc27, od27, .func (PySem.W.fnOf "lines_of" "lines_of" (defArgs s_lines_of) (defBody s_lines_of) (defScope s_lines_of) .none kV27 dc27 pm27 an27 cd27 ct27), sl27⟩)
    (q27 : PySem.W.codeIn K cd27 "lines_of" = true)
    (k27 : PySem.W.keepIn K (.ref f27) = true)
    (a28 : PySem.W.nsIn K mainGlobals "all_pieces" = some (some (.ref f28)))
    (l28 : K.lookup f28 = some ⟨oc28, od28, .func (PySem.W.fnOf "all_pieces" "all_pieces" (defArgs s_all_pieces) (defBody s_all_pieces) (defScope s_all_pieces) .none kV28 dc28 pm28 an28 cd28 ct28), sl28⟩)
    (q28 : PySem.W.codeIn K cd28 "all_pieces" = true)
    (k28 : PySem.W.keepIn K (.ref f28) = true)
    (a29 : PySem.W.nsIn K mainGlobals "unlike_pieces" = some (some (.ref f29)))
    (l29 : K.lookup f29 = some ⟨oc29, od29, .func (PySem.W.fnOf "unlike_pieces" "unlike_pieces" (defArgs s_unlike_pieces) (defBody s_unlike_pieces) (defScope s_unlike_pieces) .none kV29 dc29 pm29 an29 cd29 ct29), sl29⟩)
    (q29 : PySem.W.codeIn K cd29 "unlike_pieces" = true)
    (k29 : PySem.W.keepIn K (.ref f29) = true)
    (a30 : PySem.W.nsIn K mainGlobals "period_of" = some (some (.ref f30)))
    (l30 : K.lookup f30 = some ⟨oc30, od30, .func (PySem.W.fnOf "period_of" "period_of" (defArgs s_period_of) (defBody s_period_of) (defScope s_period_of) .none kV30 dc30 pm30 an30 cd30 ct30), sl30⟩)
    (q30 : PySem.W.codeIn K cd30 "period_of" = true)
    (k30 : PySem.W.keepIn K (.ref f30) = true)
    (a31 : PySem.W.nsIn K mainGlobals "least_of" = some (some (.ref f31)))
    (l31 : K.lookup f31 = some ⟨oc31, od31, .func (PySem.W.fnOf "least_of" "least_of" (defArgs s_least_of) (defBody s_least_of) (defScope s_least_of) .none kV31 dc31 pm31 an31 cd31 ct31), sl31⟩)
    (q31 : PySem.W.codeIn K cd31 "least_of" = true)
    (k31 : PySem.W.keepIn K (.ref f31) = true)
    (a32 : PySem.W.nsIn K mainGlobals "kept_of" = some (some (.ref f32)))
    (l32 : K.lookup f32 = some ⟨oc32, od32, .func (PySem.W.fnOf "kept_of" "kept_of" (defArgs s_kept_of) (defBody s_kept_of) (defScope s_kept_of) .none kV32 dc32 pm32 an32 cd32 ct32), sl32⟩)
    (q32 : PySem.W.codeIn K cd32 "kept_of" = true)
    (k32 : PySem.W.keepIn K (.ref f32) = true)
    (a33 : PySem.W.nsIn K mainGlobals "kind_of" = some (some (.ref f33)))
    (l33 : K.lookup f33 = some ⟨oc33, od33, .func (PySem.W.fnOf "kind_of" "kind_of" (defArgs s_kind_of) (defBody s_kind_of) (defScope s_kind_of) .none kV33 dc33 pm33 an33 cd33 ct33), sl33⟩)
    (q33 : PySem.W.codeIn K cd33 "kind_of" = true)
    (k33 : PySem.W.keepIn K (.ref f33) = true)
    (a34 : PySem.W.nsIn K mainGlobals "count_by_kinds" = some (some (.ref f34)))
    (l34 : K.lookup f34 = some ⟨oc34, od34, .func (PySem.W.fnOf "count_by_kinds" "count_by_kinds" (defArgs s_count_by_kinds) (defBody s_count_by_kinds) (defScope s_count_by_kinds) .none kV34 dc34 pm34 an34 cd34 ct34), sl34⟩)
    (q34 : PySem.W.codeIn K cd34 "count_by_kinds" = true)
    (k34 : PySem.W.keepIn K (.ref f34) = true)
    (a35 : PySem.W.nsIn K mainGlobals "_law_error" = some (some (.ref f35)))
    (l35 : K.lookup f35 = some ⟨oc35, od35, .func (PySem.W.fnOf "_law_error" "_law_error" (defArgs s__law_error) (defBody s__law_error) (defScope s__law_error) .none kV35 dc35 pm35 an35 cd35 ct35), sl35⟩)
    (q35 : PySem.W.codeIn K cd35 "_law_error" = true)
    (k35 : PySem.W.keepIn K (.ref f35) = true)
    (a36 : PySem.W.nsIn K mainGlobals "_law_period" = some (some (.ref f36)))
    (l36 : K.lookup f36 = some ⟨oc36, od36, .func (PySem.W.fnOf "_law_period" "_law_period" (defArgs s__law_period) (defBody s__law_period) (defScope s__law_period) .none kV36 dc36 pm36 an36 cd36 ct36), sl36⟩)
    (q36 : PySem.W.codeIn K cd36 "_law_period" = true)
    (k36 : PySem.W.keepIn K (.ref f36) = true)
    (a37 : PySem.W.nsIn K mainGlobals "_law_led" = some (some (.ref f37)))
    (l37 : K.lookup f37 = some ⟨oc37, od37, .func (PySem.W.fnOf "_law_led" "_law_led" (defArgs s__law_led) (defBody s__law_led) (defScope s__law_led) .none kV37 dc37 pm37 an37 cd37 ct37), sl37⟩)
    (q37 : PySem.W.codeIn K cd37 "_law_led" = true)
    (k37 : PySem.W.keepIn K (.ref f37) = true)
    (a38 : PySem.W.nsIn K mainGlobals "_law_pieces" = some (some (.ref f38)))
    (l38 : K.lookup f38 = some ⟨oc38, od38, .func (PySem.W.fnOf "_law_pieces" "_law_pieces" (defArgs s__law_pieces) (defBody s__law_pieces) (defScope s__law_pieces) .none kV38 dc38 pm38 an38 cd38 ct38), sl38⟩)
    (q38 : PySem.W.codeIn K cd38 "_law_pieces" = true)
    (k38 : PySem.W.keepIn K (.ref f38) = true)
    (a39 : PySem.W.nsIn K mainGlobals "_law_least" = some (some (.ref f39)))
    (l39 : K.lookup f39 = some ⟨oc39, od39, .func (PySem.W.fnOf "_law_least" "_law_least" (defArgs s__law_least) (defBody s__law_least) (defScope s__law_least) .none kV39 dc39 pm39 an39 cd39 ct39), sl39⟩)
    (q39 : PySem.W.codeIn K cd39 "_law_least" = true)
    (k39 : PySem.W.keepIn K (.ref f39) = true)
    (a40 : PySem.W.nsIn K mainGlobals "_law_kept" = some (some (.ref f40)))
    (l40 : K.lookup f40 = some ⟨oc40, od40, .func (PySem.W.fnOf "_law_kept" "_law_kept" (defArgs s__law_kept) (defBody s__law_kept) (defScope s__law_kept) .none kV40 dc40 pm40 an40 cd40 ct40), sl40⟩)
    (q40 : PySem.W.codeIn K cd40 "_law_kept" = true)
    (k40 : PySem.W.keepIn K (.ref f40) = true)
    (a41 : PySem.W.nsIn K mainGlobals "_law_kind" = some (some (.ref f41)))
    (l41 : K.lookup f41 = some ⟨oc41, od41, .func (PySem.W.fnOf "_law_kind" "_law_kind" (defArgs s__law_kind) (defBody s__law_kind) (defScope s__law_kind) .none kV41 dc41 pm41 an41 cd41 ct41), sl41⟩)
    (q41 : PySem.W.codeIn K cd41 "_law_kind" = true)
    (k41 : PySem.W.keepIn K (.ref f41) = true)
    (a42 : PySem.W.nsIn K mainGlobals "_law_few" = some (some (.ref f42)))
    (l42 : K.lookup f42 = some ⟨oc42, od42, .func (PySem.W.fnOf "_law_few" "_law_few" (defArgs s__law_few) (defBody s__law_few) (defScope s__law_few) .none kV42 dc42 pm42 an42 cd42 ct42), sl42⟩)
    (q42 : PySem.W.codeIn K cd42 "_law_few" = true)
    (k42 : PySem.W.keepIn K (.ref f42) = true)
    (a43 : PySem.W.nsIn K mainGlobals "law" = some (some (.ref f43)))
    (l43 : K.lookup f43 = some ⟨oc43, od43, .func (PySem.W.fnOf "law" "law" (defArgs s_law) (defBody s_law) (defScope s_law) .none kV43 dc43 pm43 an43 cd43 ct43), sl43⟩)
    (q43 : PySem.W.codeIn K cd43 "law" = true)
    (k43 : PySem.W.keepIn K (.ref f43) = true)
    (z_bool : PySem.W.nsIn K mainGlobals "bool" = some none)
    (z_int : PySem.W.nsIn K mainGlobals "int" = some none)
    (z_isinstance : PySem.W.nsIn K mainGlobals "isinstance" = some none)
    (z_len : PySem.W.nsIn K mainGlobals "len" = some none)
    (z_list : PySem.W.nsIn K mainGlobals "list" = some none)
    (z_range : PySem.W.nsIn K mainGlobals "range" = some none)
    (z_sorted : PySem.W.nsIn K mainGlobals "sorted" = some none)
    (z_str : PySem.W.nsIn K mainGlobals "str" = some none)
    (z_sum : PySem.W.nsIn K mainGlobals "sum" = some none)
    (z_tuple : PySem.W.nsIn K mainGlobals "tuple" = some none)
    (v_KINDS : PySem.W.nsIn K mainGlobals "KINDS" = some (some (.ref ca1)))
    (cl1 : K.lookup ca1 = some ⟨.type "tuple", cdx1, .seq #[.str "glided" tk2, .str "mirrored" tk3, .str "moved" tk4, .str "turned" tk5] cn1, cs1⟩)
    (v_MOST_COLUMNS : PySem.W.nsIn K mainGlobals "MOST_COLUMNS" = some (some (.int (24) tk6)))
    (v_MOST_LISTED : PySem.W.nsIn K mainGlobals "MOST_LISTED" = some (some (.int (4096) tk7)))
    (v_MOST_MOVE : PySem.W.nsIn K mainGlobals "MOST_MOVE" = some (some (.int (1000000) tk8)))
    (v_MOST_ROWS : PySem.W.nsIn K mainGlobals "MOST_ROWS" = some (some (.int (8) tk9)))
    (v_NAMES : PySem.W.nsIn K mainGlobals "NAMES" = some (some (.ref ca10)))
    (cl10 : K.lookup ca10 = some ⟨.type "tuple", none, .seq #[.str "hop" tk11, .str "step" tk12, .str "sidle" tk13, .str "spinning hop" tk14, .str "spinning sidle" tk15, .str "jump" tk16, .str "spinning jump" tk17] cn10, cs10⟩)
    (v_SIGNS : PySem.W.nsIn K mainGlobals "SIGNS" = some (some (.str ".abcdef" tk18)))
    (g_BadArgument : PySem.W.nsIn K mainGlobals "BadArgument" = some (some (.ref e0)))
    (x_BadArgument : PySem.W.excIn K e0 [.type "ValueError", .type "Exception", .type "BaseException", .type "object"] "ValueError.__new__" = true)
    (y_BadArgument : PySem.W.keepIn K (.ref e0) = true)
    (b_BadArgument : PySem.W.subIn K (.ref e0) (.type "BaseException") = some true)
    (t_BadArgument : PySem.W.typeIn K (.ref e0) = some (.type "type"))
    (i_BadArgument : PySem.W.isClsIn K e0 = true)
    (g_TooLarge : PySem.W.nsIn K mainGlobals "TooLarge" = some (some (.ref e1)))
    (x_TooLarge : PySem.W.excIn K e1 [.type "ValueError", .type "Exception", .type "BaseException", .type "object"] "ValueError.__new__" = true)
    (y_TooLarge : PySem.W.keepIn K (.ref e1) = true)
    (b_TooLarge : PySem.W.subIn K (.ref e1) (.type "BaseException") = some true)
    (t_TooLarge : PySem.W.typeIn K (.ref e1) = some (.type "type"))
    (i_TooLarge : PySem.W.isClsIn K e1 = true)
    (p_BadArgument_BadArgument : PySem.W.subIn K (.ref e0) (.ref e0) = some true)
    (p_BadArgument_TooLarge : PySem.W.subIn K (.ref e0) (.ref e1) = some false)
    (p_TooLarge_BadArgument : PySem.W.subIn K (.ref e1) (.ref e0) = some false)
    (p_TooLarge_TooLarge : PySem.W.subIn K (.ref e1) (.ref e1) = some true) :
    ∃ fd : FuncData, (∀ (s : Shared) (v : Value), BindsTo s fd ⟨[v], []⟩ [("script", v)]) ∧ ∀ base : Heap, K.In base → base.Ns mainGlobals mg → L2.FnOk l.prog w K mg base (L2.CX l.prog w) 15 fa fd ["script"] (spLawW K w den_law) := by
  have e := hfa.symm.trans (PySem.W.mg_of X G a43)
  cases e
  refine ⟨PySem.W.fnOf "law" "law" (defArgs s_law) (defBody s_law) (defScope s_law) .none kV43 dc43 pm43 an43 cd43 ct43, fun s v => .of_eq rfl, fun base _ _ => ?_⟩
  have hF : Fx ⟨l.prog, w, K, mg, base, fun s => if s = "BadArgument" then .ref e0 else if s = "TooLarge" then .ref e1 else .none⟩ :=
    { d_is_number := ⟨⟨f0, _, fun_mk (st := s_is_number) l0 q0 k0, PySem.W.mg_of X G a0, (fun_mk (st := s_is_number) l0 q0 k0).binds (ps := ["value", "low", "high"]) fun _ _ _ _ _ _ us hl => match us, hl with | [_, _, _], _ => rfl⟩⟩
      d_is_motion := ⟨⟨f1, _, fun_mk (st := s_is_motion) l1 q1 k1, PySem.W.mg_of X G a1, (fun_mk (st := s_is_motion) l1 q1 k1).binds (ps := ["value"]) fun _ _ _ _ _ _ us hl => match us, hl with | [_], _ => rfl⟩⟩
      d_check_motion := ⟨⟨f2, _, fun_mk (st := s_check_motion) l2 q2 k2, PySem.W.mg_of X G a2, (fun_mk (st := s_check_motion) l2 q2 k2).binds (ps := ["value"]) fun _ _ _ _ _ _ us hl => match us, hl with | [_], _ => rfl⟩⟩
      d_check_number := ⟨⟨f3, _, fun_mk (st := s_check_number) l3 q3 k3, PySem.W.mg_of X G a3, (fun_mk (st := s_check_number) l3 q3 k3).binds (ps := ["value", "low", "high"]) fun _ _ _ _ _ _ us hl => match us, hl with | [_, _, _], _ => rfl⟩⟩
      d_check_sizes := ⟨⟨f4, _, fun_mk (st := s_check_sizes) l4 q4 k4, PySem.W.mg_of X G a4, (fun_mk (st := s_check_sizes) l4 q4 k4).binds (ps := ["rows", "n"]) fun _ _ _ _ _ _ us hl => match us, hl with | [_, _], _ => rfl⟩⟩
      d_check_all := ⟨⟨f5, _, fun_mk (st := s_check_all) l5 q5 k5, PySem.W.mg_of X G a5, (fun_mk (st := s_check_all) l5 q5 k5).binds (ps := ["rows", "n", "signs"]) fun _ _ _ _ _ _ us hl => match us, hl with | [_, _, _], _ => rfl⟩⟩
      d_power := ⟨⟨f6, _, fun_mk (st := s_power) l6 q6 k6, PySem.W.mg_of X G a6, (fun_mk (st := s_power) l6 q6 k6).binds (ps := ["number", "k"]) fun _ _ _ _ _ _ us hl => match us, hl with | [_, _], _ => rfl⟩⟩
      d_rest := ⟨⟨f7, _, fun_mk (st := s_rest) l7 q7 k7, PySem.W.mg_of X G a7, (fun_mk (st := s_rest) l7 q7 k7).binds (ps := ["number", "by"]) fun _ _ _ _ _ _ us hl => match us, hl with | [_, _], _ => rfl⟩⟩
      d_exchanges_rows := ⟨⟨f8, _, fun_mk (st := s_exchanges_rows) l8 q8 k8, PySem.W.mg_of X G a8, (fun_mk (st := s_exchanges_rows) l8 q8 k8).binds (ps := ["kind"]) fun _ _ _ _ _ _ us hl => match us, hl with | [_], _ => rfl⟩⟩
      d_runs_back := ⟨⟨f9, _, fun_mk (st := s_runs_back) l9 q9 k9, PySem.W.mg_of X G a9, (fun_mk (st := s_runs_back) l9 q9 k9).binds (ps := ["kind"]) fun _ _ _ _ _ _ us hl => match us, hl with | [_], _ => rfl⟩⟩
      d_goes_to := ⟨⟨f10, _, fun_mk (st := s_goes_to) l10 q10 k10, PySem.W.mg_of X G a10, (fun_mk (st := s_goes_to) l10 q10 k10).binds (ps := ["motion", "cell", "rows"]) fun _ _ _ _ _ _ us hl => match us, hl with | [_, _, _], _ => rfl⟩⟩
      d_cells_of := ⟨⟨f11, _, fun_mk (st := s_cells_of) l11 q11 k11, PySem.W.mg_of X G a11, (fun_mk (st := s_cells_of) l11 q11 k11).binds (ps := ["rows", "n"]) fun _ _ _ _ _ _ us hl => match us, hl with | [_, _], _ => rfl⟩⟩
      d_rings_of := ⟨⟨f12, _, fun_mk (st := s_rings_of) l12 q12 k12, PySem.W.mg_of X G a12, (fun_mk (st := s_rings_of) l12 q12 k12).binds (ps := ["rows", "n", "motion"]) fun _ _ _ _ _ _ us hl => match us, hl with | [_, _, _], _ => rfl⟩⟩
      d_kept_by := ⟨⟨f13, _, fun_mk (st := s_kept_by) l13 q13 k13, PySem.W.mg_of X G a13, (fun_mk (st := s_kept_by) l13 q13 k13).binds (ps := ["rows", "n", "signs", "motion"]) fun _ _ _ _ _ _ us hl => match us, hl with | [_, _, _, _], _ => rfl⟩⟩
      d_motions_of := ⟨⟨f14, _, fun_mk (st := s_motions_of) l14 q14 k14, PySem.W.mg_of X G a14, (fun_mk (st := s_motions_of) l14 q14 k14).binds (ps := ["n"]) fun _ _ _ _ _ _ us hl => match us, hl with | [_], _ => rfl⟩⟩
      d_count_unlike := ⟨⟨f15, _, fun_mk (st := s_count_unlike) l15 q15 k15, PySem.W.mg_of X G a15, (fun_mk (st := s_count_unlike) l15 q15 k15).binds (ps := ["rows", "n", "signs"]) fun _ _ _ _ _ _ us hl => match us, hl with | [_, _, _], _ => rfl⟩⟩
      d__law_mixed := ⟨⟨f16, _, fun_mk (st := s__law_mixed) l16 q16 k16, PySem.W.mg_of X G a16, (fun_mk (st := s__law_mixed) l16 q16 k16).binds (ps := ["number", "k"]) fun _ _ _ _ _ _ us hl => match us, hl with | [_, _], _ => rfl⟩⟩
      d__law_numbers := ⟨⟨f17, _, fun_mk (st := s__law_numbers) l17 q17 k17, PySem.W.mg_of X G a17, (fun_mk (st := s__law_numbers) l17 q17 k17).binds (ps := ["script"]) fun _ _ _ _ _ _ us hl => match us, hl with | [_], _ => rfl⟩⟩
      d__law_draw := ⟨⟨f18, _, fun_mk (st := s__law_draw) l18 q18 k18, PySem.W.mg_of X G a18, (fun_mk (st := s__law_draw) l18 q18 k18).binds (ps := ["draws"]) fun _ _ _ _ _ _ us hl => match us, hl with | [_], _ => rfl⟩⟩
      d__law_equal := ⟨⟨f19, _, fun_mk (st := s__law_equal) l19 q19 k19, PySem.W.mg_of X G a19, (fun_mk (st := s__law_equal) l19 q19 k19).binds (ps := ["actual", "due"]) fun _ _ _ _ _ _ us hl => match us, hl with | [_, _], _ => rfl⟩⟩
      d__law_all_equal := ⟨⟨f20, _, fun_mk (st := s__law_all_equal) l20 q20 k20, PySem.W.mg_of X G a20, (fun_mk (st := s__law_all_equal) l20 q20 k20).binds (ps := ["actual", "due"]) fun _ _ _ _ _ _ us hl => match us, hl with | [_, _], _ => rfl⟩⟩
      d__law_power := ⟨⟨f21, _, fun_mk (st := s__law_power) l21 q21 k21, PySem.W.mg_of X G a21, (fun_mk (st := s__law_power) l21 q21 k21).binds (ps := ["number", "k"]) fun _ _ _ _ _ _ us hl => match us, hl with | [_, _], _ => rfl⟩⟩
      d__law_goes := ⟨⟨f22, _, fun_mk (st := s__law_goes) l22 q22 k22, PySem.W.mg_of X G a22, (fun_mk (st := s__law_goes) l22 q22 k22).binds (ps := ["rows", "n", "kind", "k", "cell"]) fun _ _ _ _ _ _ us hl => match us, hl with | [_, _, _, _, _], _ => rfl⟩⟩
      d__law_rings := ⟨⟨f23, _, fun_mk (st := s__law_rings) l23 q23 k23, PySem.W.mg_of X G a23, (fun_mk (st := s__law_rings) l23 q23 k23).binds (ps := ["rows", "n", "kind", "k"]) fun _ _ _ _ _ _ us hl => match us, hl with | [_, _, _, _], _ => rfl⟩⟩
      d_back_of := ⟨⟨f24, _, fun_mk (st := s_back_of) l24 q24 k24, PySem.W.mg_of X G a24, (fun_mk (st := s_back_of) l24 q24 k24).binds (ps := ["motion"]) fun _ _ _ _ _ _ us hl => match us, hl with | [_], _ => rfl⟩⟩
      d_led_by := ⟨⟨f25, _, fun_mk (st := s_led_by) l25 q25 k25, PySem.W.mg_of X G a25, (fun_mk (st := s_led_by) l25 q25 k25).binds (ps := ["piece", "motion"]) fun _ _ _ _ _ _ us hl => match us, hl with | [_, _], _ => rfl⟩⟩
      d_check_listed := ⟨⟨f26, _, fun_mk (st := s_check_listed) l26 q26 k26, PySem.W.mg_of X G a26, (fun_mk (st := s_check_listed) l26 q26 k26).binds (ps := ["rows", "n", "signs"]) fun _ _ _ _ _ _ us hl => match us, hl with | [_, _, _], _ => rfl⟩⟩
      d_lines_of := ⟨⟨f27, _, fun_mk (st := s_lines_of) l27 q27 k27, PySem.W.mg_of X G a27, (fun_mk (st := s_lines_of) l27 q27 k27).binds (ps := ["n", "signs"]) fun _ _ _ _ _ _ us hl => match us, hl with | [_, _], _ => rfl⟩⟩
      d_all_pieces := ⟨⟨f28, _, fun_mk (st := s_all_pieces) l28 q28 k28, PySem.W.mg_of X G a28, (fun_mk (st := s_all_pieces) l28 q28 k28).binds (ps := ["rows", "n", "signs"]) fun _ _ _ _ _ _ us hl => match us, hl with | [_, _, _], _ => rfl⟩⟩
      d_unlike_pieces := ⟨⟨f29, _, fun_mk (st := s_unlike_pieces) l29 q29 k29, PySem.W.mg_of X G a29, (fun_mk (st := s_unlike_pieces) l29 q29 k29).binds (ps := ["rows", "n", "signs"]) fun _ _ _ _ _ _ us hl => match us, hl with | [_, _, _], _ => rfl⟩⟩
      d_period_of := ⟨⟨f30, _, fun_mk (st := s_period_of) l30 q30 k30, PySem.W.mg_of X G a30, (fun_mk (st := s_period_of) l30 q30 k30).binds (ps := ["piece"]) fun _ _ _ _ _ _ us hl => match us, hl with | [_], _ => rfl⟩⟩
      d_least_of := ⟨⟨f31, _, fun_mk (st := s_least_of) l31 q31 k31, PySem.W.mg_of X G a31, (fun_mk (st := s_least_of) l31 q31 k31).binds (ps := ["piece"]) fun _ _ _ _ _ _ us hl => match us, hl with | [_], _ => rfl⟩⟩
      d_kept_of := ⟨⟨f32, _, fun_mk (st := s_kept_of) l32 q32 k32, PySem.W.mg_of X G a32, (fun_mk (st := s_kept_of) l32 q32 k32).binds (ps := ["piece"]) fun _ _ _ _ _ _ us hl => match us, hl with | [_], _ => rfl⟩⟩
      d_kind_of := ⟨⟨f33, _, fun_mk (st := s_kind_of) l33 q33 k33, PySem.W.mg_of X G a33, (fun_mk (st := s_kind_of) l33 q33 k33).binds (ps := ["piece"]) fun _ _ _ _ _ _ us hl => match us, hl with | [_], _ => rfl⟩⟩
      d_count_by_kinds := ⟨⟨f34, _, fun_mk (st := s_count_by_kinds) l34 q34 k34, PySem.W.mg_of X G a34, (fun_mk (st := s_count_by_kinds) l34 q34 k34).binds (ps := ["rows", "n", "signs"]) fun _ _ _ _ _ _ us hl => match us, hl with | [_, _, _], _ => rfl⟩⟩
      d__law_error := ⟨⟨f35, _, fun_mk (st := s__law_error) l35 q35 k35, PySem.W.mg_of X G a35, (fun_mk (st := s__law_error) l35 q35 k35).binds (ps := ["name", "rows", "n", "signs", "motion"]) fun _ _ _ _ _ _ us hl => match us, hl with | [_, _, _, _, _], _ => rfl⟩⟩
      d__law_period := ⟨⟨f36, _, fun_mk (st := s__law_period) l36 q36 k36, PySem.W.mg_of X G a36, (fun_mk (st := s__law_period) l36 q36 k36).binds (ps := ["piece"]) fun _ _ _ _ _ _ us hl => match us, hl with | [_], _ => rfl⟩⟩
      d__law_led := ⟨⟨f37, _, fun_mk (st := s__law_led) l37 q37 k37, PySem.W.mg_of X G a37, (fun_mk (st := s__law_led) l37 q37 k37).binds (ps := ["piece", "kind", "k"]) fun _ _ _ _ _ _ us hl => match us, hl with | [_, _, _], _ => rfl⟩⟩
      d__law_pieces := ⟨⟨f38, _, fun_mk (st := s__law_pieces) l38 q38 k38, PySem.W.mg_of X G a38, (fun_mk (st := s__law_pieces) l38 q38 k38).binds (ps := ["rows", "n", "signs"]) fun _ _ _ _ _ _ us hl => match us, hl with | [_, _, _], _ => rfl⟩⟩
      d__law_least := ⟨⟨f39, _, fun_mk (st := s__law_least) l39 q39 k39, PySem.W.mg_of X G a39, (fun_mk (st := s__law_least) l39 q39 k39).binds (ps := ["piece"]) fun _ _ _ _ _ _ us hl => match us, hl with | [_], _ => rfl⟩⟩
      d__law_kept := ⟨⟨f40, _, fun_mk (st := s__law_kept) l40 q40 k40, PySem.W.mg_of X G a40, (fun_mk (st := s__law_kept) l40 q40 k40).binds (ps := ["piece"]) fun _ _ _ _ _ _ us hl => match us, hl with | [_], _ => rfl⟩⟩
      d__law_kind := ⟨⟨f41, _, fun_mk (st := s__law_kind) l41 q41 k41, PySem.W.mg_of X G a41, (fun_mk (st := s__law_kind) l41 q41 k41).binds (ps := ["piece"]) fun _ _ _ _ _ _ us hl => match us, hl with | [_], _ => rfl⟩⟩
      d__law_few := ⟨⟨f42, _, fun_mk (st := s__law_few) l42 q42 k42, PySem.W.mg_of X G a42, (fun_mk (st := s__law_few) l42 q42 k42).binds (ps := ["draws"]) fun _ _ _ _ _ _ us hl => match us, hl with | [_], _ => rfl⟩⟩
      d_law := ⟨⟨fa, _, fun_mk (st := s_law) l43 q43 k43, PySem.W.mg_of X G a43, (fun_mk (st := s_law) l43 q43 k43).binds (ps := ["script"]) fun _ _ _ _ _ _ us hl => match us, hl with | [_], _ => rfl⟩⟩
      z_bool := PySem.W.mg_none_of X G z_bool
      z_int := PySem.W.mg_none_of X G z_int
      z_isinstance := PySem.W.mg_none_of X G z_isinstance
      z_len := PySem.W.mg_none_of X G z_len
      z_list := PySem.W.mg_none_of X G z_list
      z_range := PySem.W.mg_none_of X G z_range
      z_sorted := PySem.W.mg_none_of X G z_sorted
      z_str := PySem.W.mg_none_of X G z_str
      z_sum := PySem.W.mg_none_of X G z_sum
      z_tuple := PySem.W.mg_none_of X G z_tuple
      c_KINDS := gconst_of (PySem.W.mg_of X G v_KINDS) (.tup cl1 (Nat.le_of_ble_eq_true rfl) (.cons (.str _ _) (.cons (.str _ _) (.cons (.str _ _) (.cons (.str _ _) GReps.nil)))))
      c_MOST_COLUMNS := gconst_of (PySem.W.mg_of X G v_MOST_COLUMNS) (.int _ _)
      c_MOST_LISTED := gconst_of (PySem.W.mg_of X G v_MOST_LISTED) (.int _ _)
      c_MOST_MOVE := gconst_of (PySem.W.mg_of X G v_MOST_MOVE) (.int _ _)
      c_MOST_ROWS := gconst_of (PySem.W.mg_of X G v_MOST_ROWS) (.int _ _)
      c_NAMES := gconst_of (PySem.W.mg_of X G v_NAMES) (.tup cl10 (Nat.le_of_ble_eq_true rfl) (.cons (.str _ _) (.cons (.str _ _) (.cons (.str _ _) (.cons (.str _ _) (.cons (.str _ _) (.cons (.str _ _) (.cons (.str _ _) GReps.nil))))))))
      c_SIGNS := gconst_of (PySem.W.mg_of X G v_SIGNS) (.str _ _)
      t_NAMES := tconst_of (PySem.W.mg_of X G v_NAMES) cl10 (Nat.le_of_ble_eq_true rfl) (.cons (.str _ _) (.cons (.str _ _) (.cons (.str _ _) (.cons (.str _ _) (.cons (.str _ _) (.cons (.str _ _) (.cons (.str _ _) GReps.nil)))))))
      e_BadArgument := ⟨⟨e0, by simp, PySem.W.mg_of X G g_BadArgument, x_BadArgument, y_BadArgument, b_BadArgument, t_BadArgument⟩⟩
      e_TooLarge := ⟨⟨e1, by simp, PySem.W.mg_of X G g_TooLarge, x_TooLarge, y_TooLarge, b_TooLarge, t_TooLarge⟩⟩
      xm := by
        intro a ha b hb
        simp only [exL, List.mem_cons, List.not_mem_nil, or_false] at ha hb
        rcases ha with rfl | rfl <;> rcases hb with rfl | rfl
        · simpa using exm_one b_BadArgument i_BadArgument t_BadArgument p_BadArgument_BadArgument
        · simpa using exm_one b_TooLarge i_TooLarge t_TooLarge p_BadArgument_TooLarge
        · simpa using exm_one b_BadArgument i_BadArgument t_BadArgument p_TooLarge_BadArgument
        · simpa using exm_one b_TooLarge i_TooLarge t_TooLarge p_TooLarge_TooLarge }
  exact (fn_mk (fun_mk (st := s_law) l43 q43 k43) sc_law (vb_law hF)).imp fun vs H Q E q => spLaw_of (q _)
end K07
open PySem PySem.W PyProof.Rows
set_option maxHeartbeats 0 in
theorem PySem.Challenge.cw_everyfield_k07_whole_counts_of_strips_holds : PySem.Challenge.rw_everyfield_k07_whole_counts_of_strips.Holds := by
  w_on; o_law; k_head; (case hw => w_witness2)
  k_fill
  refine L2.walk_of (l := PySem.Challenge.rw_everyfield_k07_whole_counts_of_strips) (n := 63) (k := 15) (x := "script") (CX := fun w => L2.CX PySem.Challenge.rw_everyfield_k07_whole_counts_of_strips.prog w) (sp := fun w => Vl.spLawW _ w K07.den_law) rfl (by decide) rfl ⟨rfl, by decide, by decide⟩ (fun w h Y => PySem.W.kIn_of Y) ?F (fun _ _ a ns hl _ hS mg => Vl.spLaw_script hS (K07.law_true ns hl)) (fun _ _ _ _ _ ⟨_, _, _, _, _, h⟩ => h.2.2.2.2.2.2.2)
  case F =>
    intro w mg fa h KX G hmg
    refine' K07.all_mk KX G hmg ?a0 ?l0 ?q0 ?k0 ?a1 ?l1 ?q1 ?k1 ?a2 ?l2 ?q2 ?k2 ?a3 ?l3 ?q3 ?k3 ?a4 ?l4 ?q4 ?k4 ?a5 ?l5 ?q5 ?k5 ?a6 ?l6 ?q6 ?k6 ?a7 ?l7 ?q7 ?k7 ?a8 ?l8 ?q8 ?k8 ?a9 ?l9 ?q9 ?k9 ?a10 ?l10 ?q10 ?k10 ?a11 ?l11 ?q11 ?k11 ?a12 ?l12 ?q12 ?k12 ?a13 ?l13 ?q13 ?k13 ?a14 ?l14 ?q14 ?k14 ?a15 ?l15 ?q15 ?k15 ?a16 ?l16 ?q16 ?k16 ?a17 ?l17 ?q17 ?k17 ?a18 ?l18 ?q18 ?k18 ?a19 ?l19 ?q19 ?k19 ?a20 ?l20 ?q20 ?k20 ?a21 ?l21 ?q21 ?k21 ?a22 ?l22 ?q22 ?k22 ?a23 ?l23 ?q23 ?k23 ?a24 ?l24 ?q24 ?k24 ?a25 ?l25 ?q25 ?k25 ?a26 ?l26 ?q26 ?k26 ?a27 ?l27 ?q27 ?k27 ?a28 ?l28 ?q28 ?k28 ?a29 ?l29 ?q29 ?k29 ?a30 ?l30 ?q30 ?k30 ?a31 ?l31 ?q31 ?k31 ?a32 ?l32 ?q32 ?k32 ?a33 ?l33 ?q33 ?k33 ?a34 ?l34 ?q34 ?k34 ?a35 ?l35 ?q35 ?k35 ?a36 ?l36 ?q36 ?k36 ?a37 ?l37 ?q37 ?k37 ?a38 ?l38 ?q38 ?k38 ?a39 ?l39 ?q39 ?k39 ?a40 ?l40 ?q40 ?k40 ?a41 ?l41 ?q41 ?k41 ?a42 ?l42 ?q42 ?k42 ?a43 ?l43 ?q43 ?k43 ?z_bool ?z_int ?z_isinstance ?z_len ?z_list ?z_range ?z_sorted ?z_str ?z_sum ?z_tuple ?v_KINDS ?cl1 ?v_MOST_COLUMNS ?v_MOST_LISTED ?v_MOST_MOVE ?v_MOST_ROWS ?v_NAMES ?cl10 ?v_SIGNS ?g_BadArgument ?x_BadArgument ?y_BadArgument ?b_BadArgument ?t_BadArgument ?i_BadArgument ?g_TooLarge ?x_TooLarge ?y_TooLarge ?b_TooLarge ?t_TooLarge ?i_TooLarge ?p_BadArgument_BadArgument ?p_BadArgument_TooLarge ?p_TooLarge_BadArgument ?p_TooLarge_TooLarge
    (case a0 => first | k_is | rfl)
    (case l0 => first | k_is | rfl)
    (case q0 => first | k_is | rfl)
    (case k0 => first | k_is | rfl)
    (case a1 => first | k_is | rfl)
    (case l1 => first | k_is | rfl)
    (case q1 => first | k_is | rfl)
    (case k1 => first | k_is | rfl)
    (case a2 => first | k_is | rfl)
    (case l2 => first | k_is | rfl)
    (case q2 => first | k_is | rfl)
    (case k2 => first | k_is | rfl)
    (case a3 => first | k_is | rfl)
    (case l3 => first | k_is | rfl)
    (case q3 => first | k_is | rfl)
    (case k3 => first | k_is | rfl)
    (case a4 => first | k_is | rfl)
    (case l4 => first | k_is | rfl)
    (case q4 => first | k_is | rfl)
    (case k4 => first | k_is | rfl)
    (case a5 => first | k_is | rfl)
    (case l5 => first | k_is | rfl)
    (case q5 => first | k_is | rfl)
    (case k5 => first | k_is | rfl)
    (case a6 => first | k_is | rfl)
    (case l6 => first | k_is | rfl)
    (case q6 => first | k_is | rfl)
    (case k6 => first | k_is | rfl)
    (case a7 => first | k_is | rfl)
    (case l7 => first | k_is | rfl)
    (case q7 => first | k_is | rfl)
    (case k7 => first | k_is | rfl)
    (case a8 => first | k_is | rfl)
    (case l8 => first | k_is | rfl)
    (case q8 => first | k_is | rfl)
    (case k8 => first | k_is | rfl)
    (case a9 => first | k_is | rfl)
    (case l9 => first | k_is | rfl)
    (case q9 => first | k_is | rfl)
    (case k9 => first | k_is | rfl)
    (case a10 => first | k_is | rfl)
    (case l10 => first | k_is | rfl)
    (case q10 => first | k_is | rfl)
    (case k10 => first | k_is | rfl)
    (case a11 => first | k_is | rfl)
    (case l11 => first | k_is | rfl)
    (case q11 => first | k_is | rfl)
    (case k11 => first | k_is | rfl)
    (case a12 => first | k_is | rfl)
    (case l12 => first | k_is | rfl)
    (case q12 => first | k_is | rfl)
    (case k12 => first | k_is | rfl)
    (case a13 => first | k_is | rfl)
    (case l13 => first | k_is | rfl)
    (case q13 => first | k_is | rfl)
    (case k13 => first | k_is | rfl)
    (case a14 => first | k_is | rfl)
    (case l14 => first | k_is | rfl)
    (case q14 => first | k_is | rfl)
    (case k14 => first | k_is | rfl)
    (case a15 => first | k_is | rfl)
    (case l15 => first | k_is | rfl)
    (case q15 => first | k_is | rfl)
    (case k15 => first | k_is | rfl)
    (case a16 => first | k_is | rfl)
    (case l16 => first | k_is | rfl)
    (case q16 => first | k_is | rfl)
    (case k16 => first | k_is | rfl)
    (case a17 => first | k_is | rfl)
    (case l17 => first | k_is | rfl)
    (case q17 => first | k_is | rfl)
    (case k17 => first | k_is | rfl)
    (case a18 => first | k_is | rfl)
    (case l18 => first | k_is | rfl)
    (case q18 => first | k_is | rfl)
    (case k18 => first | k_is | rfl)
    (case a19 => first | k_is | rfl)
    (case l19 => first | k_is | rfl)
    (case q19 => first | k_is | rfl)
    (case k19 => first | k_is | rfl)
    (case a20 => first | k_is | rfl)
    (case l20 => first | k_is | rfl)
    (case q20 => first | k_is | rfl)
    (case k20 => first | k_is | rfl)
    (case a21 => first | k_is | rfl)
    (case l21 => first | k_is | rfl)
    (case q21 => first | k_is | rfl)
    (case k21 => first | k_is | rfl)
    (case a22 => first | k_is | rfl)
    (case l22 => first | k_is | rfl)
    (case q22 => first | k_is | rfl)
    (case k22 => first | k_is | rfl)
    (case a23 => first | k_is | rfl)
    (case l23 => first | k_is | rfl)
    (case q23 => first | k_is | rfl)
    (case k23 => first | k_is | rfl)
    (case a24 => first | k_is | rfl)
    (case l24 => first | k_is | rfl)
    (case q24 => first | k_is | rfl)
    (case k24 => first | k_is | rfl)
    (case a25 => first | k_is | rfl)
    (case l25 => first | k_is | rfl)
    (case q25 => first | k_is | rfl)
    (case k25 => first | k_is | rfl)
    (case a26 => first | k_is | rfl)
    (case l26 => first | k_is | rfl)
    (case q26 => first | k_is | rfl)
    (case k26 => first | k_is | rfl)
    (case a27 => first | k_is | rfl)
    (case l27 => first | k_is | rfl)
    (case q27 => first | k_is | rfl)
    (case k27 => first | k_is | rfl)
    (case a28 => first | k_is | rfl)
    (case l28 => first | k_is | rfl)
    (case q28 => first | k_is | rfl)
    (case k28 => first | k_is | rfl)
    (case a29 => first | k_is | rfl)
    (case l29 => first | k_is | rfl)
    (case q29 => first | k_is | rfl)
    (case k29 => first | k_is | rfl)
    (case a30 => first | k_is | rfl)
    (case l30 => first | k_is | rfl)
    (case q30 => first | k_is | rfl)
    (case k30 => first | k_is | rfl)
    (case a31 => first | k_is | rfl)
    (case l31 => first | k_is | rfl)
    (case q31 => first | k_is | rfl)
    (case k31 => first | k_is | rfl)
    (case a32 => first | k_is | rfl)
    (case l32 => first | k_is | rfl)
    (case q32 => first | k_is | rfl)
    (case k32 => first | k_is | rfl)
    (case a33 => first | k_is | rfl)
    (case l33 => first | k_is | rfl)
    (case q33 => first | k_is | rfl)
    (case k33 => first | k_is | rfl)
    (case a34 => first | k_is | rfl)
    (case l34 => first | k_is | rfl)
    (case q34 => first | k_is | rfl)
    (case k34 => first | k_is | rfl)
    (case a35 => first | k_is | rfl)
    (case l35 => first | k_is | rfl)
    (case q35 => first | k_is | rfl)
    (case k35 => first | k_is | rfl)
    (case a36 => first | k_is | rfl)
    (case l36 => first | k_is | rfl)
    (case q36 => first | k_is | rfl)
    (case k36 => first | k_is | rfl)
    (case a37 => first | k_is | rfl)
    (case l37 => first | k_is | rfl)
    (case q37 => first | k_is | rfl)
    (case k37 => first | k_is | rfl)
    (case a38 => first | k_is | rfl)
    (case l38 => first | k_is | rfl)
    (case q38 => first | k_is | rfl)
    (case k38 => first | k_is | rfl)
    (case a39 => first | k_is | rfl)
    (case l39 => first | k_is | rfl)
    (case q39 => first | k_is | rfl)
    (case k39 => first | k_is | rfl)
    (case a40 => first | k_is | rfl)
    (case l40 => first | k_is | rfl)
    (case q40 => first | k_is | rfl)
    (case k40 => first | k_is | rfl)
    (case a41 => first | k_is | rfl)
    (case l41 => first | k_is | rfl)
    (case q41 => first | k_is | rfl)
    (case k41 => first | k_is | rfl)
    (case a42 => first | k_is | rfl)
    (case l42 => first | k_is | rfl)
    (case q42 => first | k_is | rfl)
    (case k42 => first | k_is | rfl)
    (case a43 => first | k_is | rfl)
    (case l43 => first | k_is | rfl)
    (case q43 => first | k_is | rfl)
    (case k43 => first | k_is | rfl)
    (case z_bool => first | k_is | rfl)
    (case z_int => first | k_is | rfl)
    (case z_isinstance => first | k_is | rfl)
    (case z_len => first | k_is | rfl)
    (case z_list => first | k_is | rfl)
    (case z_range => first | k_is | rfl)
    (case z_sorted => first | k_is | rfl)
    (case z_str => first | k_is | rfl)
    (case z_sum => first | k_is | rfl)
    (case z_tuple => first | k_is | rfl)
    (case v_KINDS => first | k_is | rfl)
    (case cl1 => first | k_is | rfl)
    (case v_MOST_COLUMNS => first | k_is | rfl)
    (case v_MOST_LISTED => first | k_is | rfl)
    (case v_MOST_MOVE => first | k_is | rfl)
    (case v_MOST_ROWS => first | k_is | rfl)
    (case v_NAMES => first | k_is | rfl)
    (case cl10 => first | k_is | rfl)
    (case v_SIGNS => first | k_is | rfl)
    (case g_BadArgument => first | k_is | rfl)
    (case x_BadArgument => k_exc)
    (case y_BadArgument => first | k_is | rfl)
    (case b_BadArgument => first | k_is | rfl)
    (case t_BadArgument => first | k_is | rfl)
    (case i_BadArgument => first | k_is | rfl)
    (case g_TooLarge => first | k_is | rfl)
    (case x_TooLarge => k_exc)
    (case y_TooLarge => first | k_is | rfl)
    (case b_TooLarge => first | k_is | rfl)
    (case t_TooLarge => first | k_is | rfl)
    (case i_TooLarge => first | k_is | rfl)
    (case p_BadArgument_BadArgument => first | k_is | rfl)
    (case p_BadArgument_TooLarge => first | k_is | rfl)
    (case p_TooLarge_BadArgument => first | k_is | rfl)
    (case p_TooLarge_TooLarge => first | k_is | rfl)
