import PyProof.Rows.All
import Wide.All
import OpenK.AllK
import Wide.FinOn
import KE.KStateDown
import HandS.ForExc
import HandS.Comp
import HandS.Iter
import HandS.Rev
import HandS.Zip
import HandS.Dict
import HandS.Text
import HandS.More
import HandS.Sort
import HandS.Strs
import HandS.SetFor
import HandS.Conv
import HandS.Wide
import HandS.WideBits
import HandS.IsInst
import HandS.ExcIs
import HandS.ExcInit
import HandS.TupLe
import HandS.TupAny
import HandS.Style
import HandS.CallSlots
import HandS.Defaults
import HandS.TryMany
import HandS.HotCalls
import HandS.ExcInitHot
import HandS.ExcField
import KE.KExcSuper
import HandS.SortInts
import HandS.Head0
import HandS.Head1
import HandS.Head2
import HandS.HeadEnd
import HandS.HeadHook1
import HandS.HeadHook2
import KE.LtData
import KE.KBits
import KE.IntBitsLaws
import PySem.Challenge.RW_nodearer_k03_lots
set_option Elab.async false
set_option linter.all false
set_option maxRecDepth 100000
set_option maxHeartbeats 0
namespace J
open PySem PySem.Spec PyProof.Rows L2

/-! ### plain data, slots, results -/
abbrev St := L2.St
inductive D where
  | non | bl (b : Bool) | int (i : Int) | str (x : Str) | tup (l : List D) | lst (l : List D) | rol (l : List D) | ins (c : Str) (ns : List Str) (ds : List D)
inductive Sl where
  | no | val (d : D) | own (b : Bool) (l : List D)
abbrev Env := List Sl
structure Exn where
  c : Str
  ns : List Str
  ds : List D
inductive R (α : Type) where
  | ok (a : α) (E : Env)
  | exc (x : Exn) (E : Env)
  | stuck
inductive RV where
  | v (d : D)
  | l (l : List D)
inductive RS where
  | nx (E : Env)
  | rt (r : RV) (E : Env)
  | bk (E : Env)
  | ct (E : Env)
  | exc (x : Exn) (E : Env)
  | stuck
def R.bind {α β : Type} (m : R α) (k : α → Env → R β) : R β := match m with
  | .ok a E => k a E
  | .exc x E => .exc x E
  | .stuck => .stuck
def R.bindS {α : Type} (m : R α) (k : α → Env → RS) : RS := match m with
  | .ok a E => k a E
  | .exc x E => .exc x E
  | .stuck => .stuck
def RS.seq (m : RS) (k : Env → RS) : RS := match m with
  | .nx E => k E
  | r => r
@[simp] theorem R.bind_ok {α β : Type} (a : α) (E : Env) (k : α → Env → R β) : (R.ok a E).bind k = k a E := rfl
@[simp] theorem R.bind_exc {α β : Type} (x : Exn) (E : Env) (k : α → Env → R β) : (R.exc x E : R α).bind k = .exc x E := rfl
@[simp] theorem R.bind_stuck {α β : Type} (k : α → Env → R β) : (R.stuck : R α).bind k = .stuck := rfl
@[simp] theorem R.bindS_ok {α : Type} (a : α) (E : Env) (k : α → Env → RS) : (R.ok a E).bindS k = k a E := rfl
@[simp] theorem R.bindS_exc {α : Type} (x : Exn) (E : Env) (k : α → Env → RS) : (R.exc x E : R α).bindS k = .exc x E := rfl
@[simp] theorem R.bindS_stuck {α : Type} (k : α → Env → RS) : (R.stuck : R α).bindS k = .stuck := rfl
@[simp] theorem RS.seq_nx (E : Env) (k : Env → RS) : (RS.nx E).seq k = k E := rfl
@[simp] theorem RS.seq_rt (r : RV) (E : Env) (k : Env → RS) : (RS.rt r E).seq k = .rt r E := rfl
@[simp] theorem RS.seq_bk (E : Env) (k : Env → RS) : (RS.bk E).seq k = .bk E := rfl
@[simp] theorem RS.seq_ct (E : Env) (k : Env → RS) : (RS.ct E).seq k = .ct E := rfl
@[simp] theorem RS.seq_exc (x : Exn) (E : Env) (k : Env → RS) : (RS.exc x E).seq k = .exc x E := rfl
@[simp] theorem RS.seq_stuck (k : Env → RS) : RS.stuck.seq k = .stuck := rfl
theorem R.bind_assoc {α β γ : Type} (m : R α) (k : α → Env → R β) (k' : β → Env → R γ) : (m.bind k).bind k' = m.bind fun a E => (k a E).bind k' := by cases m <;> rfl
theorem R.bind_bindS {α β : Type} (m : R α) (k : α → Env → R β) (k' : β → Env → RS) : (m.bind k).bindS k' = m.bindS fun a E => (k a E).bindS k' := by cases m <;> rfl

/-! ### heaps -/
def Ex (H H' : Hp) : Prop := ∀ a o, H a = some o → H' a = some o
theorem Ex.refl (H : Hp) : Ex H H := fun _ _ h => h
theorem Ex.trans {H H1 H2 : Hp} (a : Ex H H1) (b : Ex H1 H2) : Ex H H2 := fun x o h => b x o (a x o h)
theorem Ex.new {H : Hp} {p : Addr} {o : HO} (h : H p = none) : Ex H (upd H p o) := fun a u e => by
  rw [upd_ne (ne_of_none e h)]; exact e
theorem Ex.back {H H' : Hp} {p : Addr} (e : Ex H H') (h : H' p = none) : H p = none := by
  cases h1 : H p with
  | none => rfl
  | some o => rw [e p o h1] at h; cases h
/-- the small one grows where the great one has grown -/
theorem Ex.both {G H : Hp} {p : Addr} {o : HO} (e : Ex G H) : Ex (upd G p o) (upd H p o) := fun a u h => by
  by_cases ha : a = p
  · subst ha; rw [upd_same] at h ⊢; exact h
  · rw [upd_ne ha] at h ⊢; exact e a u h
theorem Ex.mut {G H : Hp} {p : Addr} {o : HO} (e : Ex G H) (h : G p = none) : Ex G (upd H p o) := fun a u ha => by
  rw [upd_ne (ne_of_none ha h)]; exact e a u ha
theorem Ex.rd {H H' : Hp} {a : Addr} {u : HO} (e : Ex H H') (h : Rd H a u) : Rd H' a u := by
  rcases h with h | ⟨o, h⟩
  · exact .inl (e a _ h)
  · exact .inr ⟨o, e a _ h⟩
theorem Ex.sl {K : PySem.W.Frag} {H H' : Hp} {a : Addr} {xs : List V} (e : Ex H H') (h : SqL K H a xs) : SqL K H' a xs := by
  rcases h with h | h
  · exact .inl (e.rd h)
  · exact .inr h
theorem Ex.st {K : PySem.W.Frag} {H H' : Hp} {a : Addr} {xs : List V} (e : Ex H H') (h : SqT K H a xs) : SqT K H' a xs := by
  rcases h with h | h
  · exact .inl (e.rd h)
  · exact .inr h

/-! ### what a value stands for -/
mutual
inductive Rp (K : PySem.W.Frag) (G : Hp) : V → D → Prop
  | non : Rp K G .non .non
  | bl (b : Bool) : Rp K G (.bl b) (.bl b)
  | int (i : Int) : Rp K G (.int i) (.int i)
  | str (x : Str) : Rp K G (.str x) (.str x)
  | tup {a : Addr} {vs : List V} {ds : List D} : SqT K G a vs → RpA K G vs ds → Rp K G (.ref a) (.tup ds)
  | lst {a : Addr} {vs : List V} {ds : List D} : G a = some (.lst vs) → RpA K G vs ds → Rp K G (.ref a) (.lst ds)
  | rol {a : Addr} {vs : List V} {ds : List D} : SqL K G a vs → RpA K G vs ds → Rp K G (.ref a) (.rol ds)
  | ins {a dx : Addr} {c : Str} {ns : List Str} {vs : List V} {ds : List D} : G a = some (.ins (He.ga K c) dx (ns.zip vs)) → vs.length = ns.length → RpA K G vs ds → Rp K G (.ref a) (.ins c ns ds)
inductive RpA (K : PySem.W.Frag) (G : Hp) : List V → List D → Prop
  | nil : RpA K G [] []
  | cons {v : V} {vs : List V} {d : D} {ds : List D} : Rp K G v d → RpA K G vs ds → RpA K G (v :: vs) (d :: ds)
end
section
variable {K : PySem.W.Frag} {G G' : Hp}
mutual
theorem Rp.mono (e : Ex G G') : ∀ (d : D) {v : V}, Rp K G v d → Rp K G' v d
  | .non, _, h => by cases h; exact .non
  | .bl b, _, h => by cases h; exact .bl b
  | .int b, _, h => by cases h; exact .int b
  | .str b, _, h => by cases h; exact .str b
  | .tup ds, _, h => by
    cases h with
    | tup h1 h2 => exact .tup (e.st h1) (RpA.mono e ds h2)
  | .lst ds, _, h => by
    cases h with
    | lst h1 h2 => exact .lst (e _ _ h1) (RpA.mono e ds h2)
  | .rol ds, _, h => by
    cases h with
    | rol h1 h2 => exact .rol (e.sl h1) (RpA.mono e ds h2)
  | .ins c ns ds, _, h => by
    cases h with
    | ins h1 h2 h3 => exact .ins (e _ _ h1) h2 (RpA.mono e ds h3)
theorem RpA.mono (e : Ex G G') : ∀ (ds : List D) {vs : List V}, RpA K G vs ds → RpA K G' vs ds
  | [], _, h => by cases h; exact .nil
  | d :: ds, _, h => by
    cases h with
    | cons h1 h2 => exact .cons (Rp.mono e d h1) (RpA.mono e ds h2)
end
theorem RpA.length {vs : List V} {ds : List D} (h : RpA K G vs ds) : vs.length = ds.length := by
  induction ds generalizing vs with
  | nil => cases h; rfl
  | cons d ds ih => cases h with | cons h1 h2 => simp [ih h2]
theorem RpA.get {vs : List V} {ds : List D} (h : RpA K G vs ds) : ∀ {i : Nat} {d : D}, ds[i]? = some d → ∃ v, vs[i]? = some v ∧ Rp K G v d := by
  induction ds generalizing vs with
  | nil => intro i d e; simp at e
  | cons d0 ds ih =>
    cases h with
    | cons h1 h2 =>
      intro i d e
      cases i with
      | zero => simp at e; subst e; exact ⟨_, rfl, h1⟩
      | succ i => simpa using ih h2 (by simpa using e)
theorem RpA.get' {vs : List V} {ds : List D} (h : RpA K G vs ds) {i : Nat} {v : V} (e : vs[i]? = some v) : ∃ d, ds[i]? = some d ∧ Rp K G v d := by
  have hl := h.length
  have hi : i < ds.length := by rw [← hl]; exact (List.getElem?_eq_some_iff.mp e).1
  obtain ⟨v', e', r⟩ := h.get (i := i) (d := ds[i]) (List.getElem?_eq_getElem hi)
  rw [e] at e'; cases e'
  exact ⟨_, List.getElem?_eq_getElem hi, r⟩
theorem RpA.append {vs ws : List V} {ds es : List D} (h : RpA K G vs ds) (h' : RpA K G ws es) : RpA K G (vs ++ ws) (ds ++ es) := by
  induction ds generalizing vs with
  | nil => cases h; exact h'
  | cons d ds ih => cases h with | cons h1 h2 => exact .cons h1 (ih h2)
theorem RpA.take {vs : List V} {ds : List D} (h : RpA K G vs ds) (n : Nat) : RpA K G (vs.take n) (ds.take n) := by
  induction ds generalizing vs n with
  | nil => cases h; simp; exact .nil
  | cons d ds ih =>
    cases h with
    | cons h1 h2 =>
      cases n with
      | zero => exact .nil
      | succ n => exact .cons h1 (ih h2 n)
theorem RpA.drop {vs : List V} {ds : List D} (h : RpA K G vs ds) (n : Nat) : RpA K G (vs.drop n) (ds.drop n) := by
  induction ds generalizing vs n with
  | nil => cases h; simp; exact .nil
  | cons d ds ih =>
    cases h with
    | cons h1 h2 =>
      cases n with
      | zero => exact .cons h1 h2
      | succ n => exact ih h2 n
theorem RpA.set {vs : List V} {ds : List D} (h : RpA K G vs ds) {v : V} {d : D} (r : Rp K G v d) (n : Nat) : RpA K G (vs.set n v) (ds.set n d) := by
  induction ds generalizing vs n with
  | nil => cases h; simp; exact .nil
  | cons d0 ds ih =>
    cases h with
    | cons h1 h2 =>
      cases n with
      | zero => exact .cons r h2
      | succ n => exact .cons h1 (ih h2 n)
theorem RpA.reverse {vs : List V} {ds : List D} (h : RpA K G vs ds) : RpA K G vs.reverse ds.reverse := by
  induction ds generalizing vs with
  | nil => cases h; exact .nil
  | cons d ds ih =>
    cases h with
    | cons h1 h2 => rw [List.reverse_cons, List.reverse_cons]; exact (ih h2).append (.cons h1 .nil)
theorem RpA.flat {vs : List V} {ds : List D} (h : RpA K G vs ds) (n : Nat) : RpA K G (List.replicate n vs).flatten (List.replicate n ds).flatten := by
  induction n with
  | zero => exact .nil
  | succ n ih => rw [List.replicate_succ, List.replicate_succ]; exact h.append ih
theorem RpA.ints (ns : List Int) : RpA K G (ns.map V.int) (ns.map D.int) := by
  induction ns with
  | nil => exact .nil
  | cons n ns ih => exact .cons (.int n) ih
theorem RpA.of_ints {vs : List V} {ns : List Int} (h : RpA K G vs (ns.map D.int)) : vs = ns.map V.int := by
  induction ns generalizing vs with
  | nil => cases h; rfl
  | cons n ns ih => cases h with | cons h1 h2 => cases h1; rw [List.map_cons, ih h2]
end

/-! ### the state -/
def SlOk (K : PySem.W.Frag) (G H : Hp) (x : Option V) : Sl → Prop
  | .no => True
  | .val d => ∃ v, x = some v ∧ Rp K G v d
  | .own _ l => ∃ p vs, x = some (.ref p) ∧ H p = some (.lst vs) ∧ RpA K G vs l
/-- what a def leaves as it is; where its own lists from outside stand -/
structure Fr where
  F : Hp
  io : Nat → Addr
structure Sat (K : PySem.W.Frag) (Φ : Fr) (G H : Hp) (σ : St) (E : Env) : Prop where
  len : σ.length = E.length
  sl : ∀ (i : Nat) (s : Sl), E[i]? = some s → ∃ x, σ[i]? = some x ∧ SlOk K G H x s
  gh : Ex G H
  fh : Ex Φ.F H
  fg : ∀ a, Φ.F a ≠ none → G a = none
  ow : ∀ (i : Nat) (b : Bool) (l : List D) (p : Addr), E[i]? = some (.own b l) → σ[i]? = some (some (.ref p)) → G p = none ∧ Φ.F p = none ∧ (b = true → p = Φ.io i)
  di : ∀ (i j : Nat) (b b' : Bool) (l l' : List D) (p : Addr), E[i]? = some (.own b l) → E[j]? = some (.own b' l') → σ[i]? = some (some (.ref p)) → σ[j]? = some (some (.ref p)) → i = j
/-- p is no own list's -/
def NotOwn (σ : St) (E : Env) (p : Addr) : Prop := ∀ (i : Nat) (b : Bool) (l : List D), E[i]? = some (.own b l) → σ[i]? ≠ some (some (.ref p))
section
variable {K : PySem.W.Frag} {Φ : Fr} {G G' H H' : Hp} {σ : St} {E : Env}
theorem SlOk.mono {x : Option V} {s : Sl} (e : Ex G G') (h : SlOk K G H x s) (k : ∀ p b l, s = .own b l → x = some (.ref p) → H' p = H p) : SlOk K G' H' x s := by
  cases s with
  | no => trivial
  | val d => obtain ⟨v, h1, h2⟩ := h; exact ⟨v, h1, h2.mono e⟩
  | own b l => obtain ⟨p, vs, h1, h2, h3⟩ := h; exact ⟨p, vs, h1, (k p b l rfl h1).trans h2, h3.mono e⟩
/-- a new object is known to all -/
theorem Sat.new (S : Sat K Φ G H σ E) {p : Addr} {o : HO} (h : H p = none) : Sat K Φ (upd G p o) (upd H p o) σ E := by
  have np : ∀ (i : Nat) (b : Bool) (l : List D) (q : Addr), E[i]? = some (.own b l) → σ[i]? = some (some (.ref q)) → q ≠ p := fun i b l q h1 h2 z => by
    obtain ⟨x, h3, h4⟩ := S.sl i _ h1
    rw [h2] at h3; cases h3
    obtain ⟨p', vs, h5, h6, _⟩ := h4
    cases h5
    subst z
    rw [h] at h6; cases h6
  refine ⟨S.len, fun i s hs => ?_, S.gh.both, S.fh.trans (Ex.new h), fun a ha => ?_, fun i b l q h1 h2 => ?_, S.di⟩
  · obtain ⟨x, h1, h2⟩ := S.sl i s hs
    refine ⟨x, h1, h2.mono (Ex.new (S.gh.back h)) fun q b l e1 e2 => ?_⟩
    subst e1 e2
    exact upd_ne (np i b l q hs h1)
  · have na : a ≠ p := fun z => by
      subst z
      cases hF : Φ.F a with
      | none => exact ha hF
      | some o => rw [S.fh a o hF] at h; cases h
    rw [upd_ne na]
    exact S.fg a ha
  · rw [upd_ne (np i b l q h1 h2)]
    exact S.ow i b l q h1 h2
theorem Sat.notOwn (S : Sat K Φ G H σ E) {p : Addr} (h : H p = none) : NotOwn σ E p := fun i b l h1 h2 => by
  obtain ⟨x, h3, h4⟩ := S.sl i _ h1
  rw [h2] at h3; cases h3
  obtain ⟨p', vs, h5, h6, _⟩ := h4
  cases h5
  rw [h] at h6; cases h6
/-- a slot gets a value -/
theorem Sat.setV (S : Sat K Φ G H σ E) {i : Nat} {v : V} {d : D} (r : Rp K G v d) : Sat K Φ G H (σ.set i (some v)) (E.set i (.val d)) := by
  have key : ∀ (j : Nat) (b : Bool) (l : List D), (E.set i (.val d))[j]? = some (.own b l) → j ≠ i ∧ E[j]? = some (.own b l) := fun j b l h => by
    by_cases hj : i = j
    · subst hj
      by_cases hl : i < E.length
      · rw [List.getElem?_set_self hl] at h; cases h
      · rw [List.getElem?_eq_none (by simpa using hl)] at h; cases h
    · rw [List.getElem?_set_ne hj] at h; exact ⟨Ne.symm hj, h⟩
  refine ⟨by simp [S.len], fun j s hs => ?_, S.gh, S.fh, S.fg, fun j b l p h1 h2 => ?_, fun j k b b' l l' p h1 h2 h3 h4 => ?_⟩
  · by_cases hj : i = j
    · subst hj
      have hl : i < E.length := by have := (List.getElem?_eq_some_iff.mp hs).1; simpa using this
      rw [List.getElem?_set_self hl] at hs
      cases hs
      exact ⟨some v, by rw [List.getElem?_set_self (by rw [S.len]; exact hl)], v, rfl, r⟩
    · rw [List.getElem?_set_ne hj] at hs ⊢
      exact S.sl j s hs
  · obtain ⟨h0, h1⟩ := key j b l h1
    rw [List.getElem?_set_ne (Ne.symm h0)] at h2
    exact S.ow j b l p h1 h2
  · obtain ⟨n1, h1⟩ := key j b l h1
    obtain ⟨n2, h2⟩ := key k b' l' h2
    rw [List.getElem?_set_ne (Ne.symm n1)] at h3
    rw [List.getElem?_set_ne (Ne.symm n2)] at h4
    exact S.di j k b b' l l' p h1 h2 h3 h4
/-- a slot gets an own list -/
theorem Sat.setO (S : Sat K Φ G H σ E) {i : Nat} {p : Addr} {vs : List V} {l : List D} (hp : H p = some (.lst vs)) (r : RpA K G vs l) (g : G p = none) (f : Φ.F p = none) (n : NotOwn σ E p) : Sat K Φ G H (σ.set i (some (.ref p))) (E.set i (.own false l)) := by
  refine ⟨by simp [S.len], fun j s hs => ?_, S.gh, S.fh, S.fg, fun j b l' q h1 h2 => ?_, fun j k b b' l1 l2 q h1 h2 h3 h4 => ?_⟩
  · by_cases hj : i = j
    · subst hj
      have hl : i < E.length := by have := (List.getElem?_eq_some_iff.mp hs).1; simpa using this
      rw [List.getElem?_set_self hl] at hs
      cases hs
      exact ⟨some (.ref p), by rw [List.getElem?_set_self (by rw [S.len]; exact hl)], p, vs, rfl, hp, r⟩
    · rw [List.getElem?_set_ne hj] at hs ⊢
      exact S.sl j s hs
  · by_cases hj : i = j
    · subst hj
      have hl : i < E.length := by have := (List.getElem?_eq_some_iff.mp h1).1; simpa using this
      rw [List.getElem?_set_self (by rw [S.len]; exact hl)] at h2
      rw [List.getElem?_set_self hl] at h1
      cases h1
      cases h2
      exact ⟨g, f, fun z => nomatch z⟩
    · rw [List.getElem?_set_ne hj] at h1 h2
      exact S.ow j b l' q h1 h2
  · by_cases hj : i = j
    · subst hj
      have hl : i < E.length := by have := (List.getElem?_eq_some_iff.mp h1).1; simpa using this
      rw [List.getElem?_set_self (by rw [S.len]; exact hl)] at h3
      cases h3
      by_cases hk : i = k
      · exact hk
      · rw [List.getElem?_set_ne hk] at h2 h4
        exact absurd h4 (n k b' l2 h2)
    · rw [List.getElem?_set_ne hj] at h1 h3
      by_cases hk : i = k
      · subst hk
        have hl : i < E.length := by have := (List.getElem?_eq_some_iff.mp h2).1; simpa using this
        rw [List.getElem?_set_self (by rw [S.len]; exact hl)] at h4
        cases h4
        exact absurd h3 (n j b l1 h1)
      · rw [List.getElem?_set_ne hk] at h2 h4
        exact S.di j k b b' l1 l2 q h1 h2 h3 h4
/-- a slot is forgotten -/
theorem Sat.setN (S : Sat K Φ G H σ E) {i : Nat} {x : Option V} : Sat K Φ G H (σ.set i x) (E.set i .no) := by
  have key : ∀ (j : Nat) (b : Bool) (l : List D), (E.set i .no)[j]? = some (.own b l) → j ≠ i ∧ E[j]? = some (.own b l) := fun j b l h => by
    by_cases hj : i = j
    · subst hj
      by_cases hl : i < E.length
      · rw [List.getElem?_set_self hl] at h; cases h
      · rw [List.getElem?_eq_none (by simpa using hl)] at h; cases h
    · rw [List.getElem?_set_ne hj] at h; exact ⟨Ne.symm hj, h⟩
  refine ⟨by simp [S.len], fun j s hs => ?_, S.gh, S.fh, S.fg, fun j b l p h1 h2 => ?_, fun j k b b' l l' p h1 h2 h3 h4 => ?_⟩
  · by_cases hj : i = j
    · subst hj
      have hl : i < E.length := by have := (List.getElem?_eq_some_iff.mp hs).1; simpa using this
      rw [List.getElem?_set_self hl] at hs
      cases hs
      exact ⟨x, by rw [List.getElem?_set_self (by rw [S.len]; exact hl)], trivial⟩
    · rw [List.getElem?_set_ne hj] at hs ⊢
      exact S.sl j s hs
  · obtain ⟨h0, h1⟩ := key j b l h1
    rw [List.getElem?_set_ne (Ne.symm h0)] at h2
    exact S.ow j b l p h1 h2
  · obtain ⟨n1, h1⟩ := key j b l h1
    obtain ⟨n2, h2⟩ := key k b' l' h2
    rw [List.getElem?_set_ne (Ne.symm n1)] at h3
    rw [List.getElem?_set_ne (Ne.symm n2)] at h4
    exact S.di j k b b' l l' p h1 h2 h3 h4
/-- an own list is written -/
theorem Sat.write (S : Sat K Φ G H σ E) {i : Nat} {b0 : Bool} {p : Addr} {l l' : List D} {vs' : List V} (hi : E[i]? = some (.own b0 l)) (hp : σ[i]? = some (some (.ref p))) (r : RpA K G vs' l') : Sat K Φ G (upd H p (.lst vs')) σ (E.set i (.own b0 l')) := by
  obtain ⟨g, f, io⟩ := S.ow i b0 l p hi hp
  have hl : i < E.length := (List.getElem?_eq_some_iff.mp hi).1
  have key : ∀ (j : Nat) (b : Bool) (m : List D), (E.set i (.own b0 l'))[j]? = some (.own b m) → ∃ m', E[j]? = some (.own b m') := fun j b m h => by
    by_cases hj : i = j
    · subst hj; rw [List.getElem?_set_self hl] at h; cases h; exact ⟨l, hi⟩
    · rw [List.getElem?_set_ne hj] at h; exact ⟨m, h⟩
  refine ⟨by simp [S.len], fun j s hs => ?_, S.gh.mut g, S.fh.mut f, S.fg, fun j b m q h1 h2 => ?_, fun j k b b' m m' q h1 h2 h3 h4 => ?_⟩
  · by_cases hj : i = j
    · subst hj
      rw [List.getElem?_set_self hl] at hs
      cases hs
      exact ⟨_, hp, p, vs', rfl, upd_same, r⟩
    · rw [List.getElem?_set_ne hj] at hs
      obtain ⟨x, h1, h2⟩ := S.sl j s hs
      refine ⟨x, h1, h2.mono (Ex.refl G) fun q b m e1 e2 => ?_⟩
      subst e1 e2
      exact upd_ne fun z => by subst z; exact hj (S.di i j b0 b l m q hi hs hp h1)
  · obtain ⟨m', h1⟩ := key j b m h1
    exact S.ow j b m' q h1 h2
  · obtain ⟨m1, h1⟩ := key j b m h1
    obtain ⟨m2, h2⟩ := key k b' m' h2
    exact S.di j k b b' m1 m2 q h1 h2 h3 h4
/-- an own list is given free -/
theorem Sat.pub (S : Sat K Φ G H σ E) {i : Nat} {b0 : Bool} {l : List D} (hi : E[i]? = some (.own b0 l)) : ∃ G', Ex G G' ∧ Sat K Φ G' H σ (E.set i (.val (.lst l))) := by
  obtain ⟨x, hx, p, vs, rfl, hp, r⟩ := S.sl i _ hi
  obtain ⟨g, f, io⟩ := S.ow i b0 l p hi hx
  have hl : i < E.length := (List.getElem?_eq_some_iff.mp hi).1
  have eG : Ex G (upd G p (.lst vs)) := Ex.new g
  have key : ∀ (j : Nat) (b : Bool) (m : List D), (E.set i (.val (.lst l)))[j]? = some (.own b m) → j ≠ i ∧ E[j]? = some (.own b m) := fun j b m h => by
    by_cases hj : i = j
    · subst hj; rw [List.getElem?_set_self hl] at h; cases h
    · rw [List.getElem?_set_ne hj] at h; exact ⟨Ne.symm hj, h⟩
  refine ⟨upd G p (.lst vs), eG, by simp [S.len], fun j s hs => ?_, fun a u h => ?_, S.fh, fun a ha => ?_, fun j b m q h1 h2 => ?_, fun j k b b' m m' q h1 h2 h3 h4 => ?_⟩
  · by_cases hj : i = j
    · subst hj
      rw [List.getElem?_set_self hl] at hs
      cases hs
      exact ⟨_, hx, .ref p, rfl, .lst upd_same (r.mono eG)⟩
    · rw [List.getElem?_set_ne hj] at hs
      obtain ⟨x, h1, h2⟩ := S.sl j s hs
      exact ⟨x, h1, h2.mono eG fun _ _ _ _ _ => rfl⟩
  · by_cases ha : a = p
    · subst ha; rw [upd_same] at h; rw [← h]; exact hp
    · rw [upd_ne ha] at h; exact S.gh a u h
  · have na : a ≠ p := fun z => by subst z; exact ha f
    rw [upd_ne na]
    exact S.fg a ha
  · obtain ⟨n1, h1⟩ := key j b m h1
    have nq : q ≠ p := fun z => by subst z; exact n1 (S.di j i b b0 m l q h1 hi h2 hx)
    rw [upd_ne nq]
    exact S.ow j b m q h1 h2
  · obtain ⟨n1, h1⟩ := key j b m h1
    obtain ⟨n2, h2⟩ := key k b' m' h2
    exact S.di j k b b' m m' q h1 h2 h3 h4
end
end J

namespace J
open PySem PySem.Spec PyProof.Rows L2

/-! ### what is wanted; c: what is known besides, by the slots -/
structure WJ where
  w : WX
  c : Hp → St → Prop
  mono : ∀ G G' σ, Ex G G' → c G σ → c G' σ
def pw (w : WX) : WJ := ⟨w, fun _ _ => True, fun _ _ _ _ h => h⟩
instance : Coe WX WJ := ⟨pw⟩
structure SatC (K : PySem.W.Frag) (W : WJ) (Φ : Fr) (G H : Hp) (σ : St) (E : Env) : Prop extends Sat K Φ G H σ E where
  c : W.c G σ
instance {K : PySem.W.Frag} {W : WJ} {Φ : Fr} {G H : Hp} {σ : St} {E : Env} : CoeOut (SatC K W Φ G H σ E) (Sat K Φ G H σ E) := ⟨SatC.toSat⟩
theorem Sat.pw {K : PySem.W.Frag} {W : WX} {Φ : Fr} {G H : Hp} {σ : St} {E : Env} (S : Sat K Φ G H σ E) : SatC K (J.pw W) Φ G H σ E := ⟨S, trivial⟩

structure XRp (K : PySem.W.Frag) (G : Hp) (c : Value) (d : Option Addr) (x : Exn) : Prop where
  cls : c = .ref (He.ga K x.c)
  dd : ∃ a vs, d = some a ∧ G a = some (.xd (x.ns.zip vs)) ∧ vs.length = x.ns.length ∧ RpA K G vs x.ds
theorem XRp.mono {K : PySem.W.Frag} {G G' : Hp} {c : Value} {d : Option Addr} {x : Exn} (e : Ex G G') (h : XRp K G c d x) : XRp K G' c d x := by
  obtain ⟨h1, a, vs, h2, h3, h4, h5⟩ := h
  exact ⟨h1, a, vs, h2, e _ _ h3, h4, h5.mono e⟩
def PostX (K : PySem.W.Frag) (W : WX) (Φ : Fr) (G : Hp) (x : Exn) (E' : Env) : Prop := ∀ G' H' σ' c d, Ex G G' → Sat K Φ G' H' σ' E' → XRp K G' c d x → W c d σ' H'
/-- how what comes out lies: F, σ, behind: G', H', E' -/
abbrev Rel (α β : Type) := Fr → St → Hp → Hp → Env → α → β → Prop
def Post {α β : Type} (K : PySem.W.Frag) (W : WX) (rel : Rel α β) (Φ : Fr) (G : Hp) (σ : St) (r : R α) (Q : β → Hp → Prop) : Prop := match r with
  | .ok a E' => ∀ G' H' b, Ex G G' → Sat K Φ G' H' σ E' → rel Φ σ G' H' E' a b → Q b H'
  | .exc x E' => PostX K W Φ G x E'
  | .stuck => False
theorem PostX.mono {K : PySem.W.Frag} {W : WX} {Φ : Fr} {G G0 : Hp} {x : Exn} {E' : Env} (e : Ex G G0) (h : PostX K W Φ G x E') : PostX K W Φ G0 x E' := fun G' H' σ' c d e' S r => h G' H' σ' c d (e.trans e') S r
theorem Post.mono {α β : Type} {K : PySem.W.Frag} {W : WX} {rel : Rel α β} {Φ : Fr} {G G0 : Hp} {σ : St} {r : R α} {Q : β → Hp → Prop} (e : Ex G G0) (h : Post K W rel Φ G σ r Q) : Post K W rel Φ G0 σ r Q := by
  cases r with
  | ok a E' => exact fun G' H' b e' S q => h G' H' b (e.trans e') S q
  | exc x E' => exact PostX.mono e h
  | stuck => exact h
/-- soundness of a denotation -/
def Snd {α β : Type} (K : PySem.W.Frag) (W : WJ) (rel : Rel α β) (t : St → Hp → (β → Hp → Prop) → Prop) (f : Env → R α) : Prop :=
  ∀ Φ G H σ E Q, SatC K W Φ G H σ E → Post K W.w rel Φ G σ (f E) Q → t σ H Q
theorem Snd.go {α β γ δ : Type} {K : PySem.W.Frag} {W : WJ} {rel : Rel α β} {rel2 : Rel γ δ} {t : St → Hp → (β → Hp → Prop) → Prop} {f : Env → R α} (h : Snd K W rel t f) {Φ : Fr} {G H : Hp} {σ : St} {E : Env} {k : α → Env → R γ} {Q : δ → Hp → Prop} {Q1 : β → Hp → Prop}
    (S : SatC K W Φ G H σ E) (hp : Post K W.w rel2 Φ G σ ((f E).bind k) Q) (hk : ∀ a E' G' H' b, f E = .ok a E' → Ex G G' → SatC K W Φ G' H' σ E' → rel Φ σ G' H' E' a b → Post K W.w rel2 Φ G' σ (k a E') Q → Q1 b H') : t σ H Q1 := by
  refine h Φ G H σ E Q1 S ?_
  cases e : f E with
  | ok a E' =>
    rw [e] at hp
    exact fun G' H' b e' S' q => hk a E' G' H' b e e' ⟨S', W.mono _ _ _ e' S.c⟩ q (Post.mono e' hp)
  | exc x E' => rw [e] at hp; exact hp
  | stuck => rw [e] at hp; exact hp

def Sh (K : PySem.W.Frag) (G H : Hp) (v : V) : D → Prop
  | .lst l => ∃ p vs, v = .ref p ∧ H p = some (.lst vs) ∧ RpA K G vs l
  | d => Rp K G v d
theorem Rp.sh {K : PySem.W.Frag} {G H : Hp} {v : V} {d : D} (e : Ex G H) (h : Rp K G v d) : Sh K G H v d := by
  cases h with
  | lst h1 h2 => exact ⟨_, _, rfl, e _ _ h1, h2⟩
  | non => exact .non
  | bl b => exact .bl b
  | int b => exact .int b
  | str b => exact .str b
  | tup h1 h2 => exact .tup h1 h2
  | rol h1 h2 => exact .rol h1 h2
  | ins h1 h2 h3 => exact .ins h1 h2 h3
theorem Sh.mono {K : PySem.W.Frag} {G G' H H' : Hp} {v : V} {d : D} (e : Ex G G') (e2 : Ex H H') (h : Sh K G H v d) : Sh K G' H' v d := by
  cases d with
  | lst l => obtain ⟨p, vs, h1, h2, h3⟩ := h; exact ⟨p, vs, h1, e2 _ _ h2, h3.mono e⟩
  | _ => exact Rp.mono e _ h

def relE (K : PySem.W.Frag) : Rel D V := fun _ _ G' _ _ d v => Rp K G' v d
def relO (K : PySem.W.Frag) : Rel D V := fun _ _ G' H' _ d v => Sh K G' H' v d
def relT : Rel Bool Bool := fun _ _ _ _ _ a b => a = b
def relA (K : PySem.W.Frag) : Rel (List D) (List V) := fun _ _ G' _ _ ds vs => RpA K G' vs ds
def relI : Rel (Option Int) (Option Int) := fun _ _ _ _ _ a b => a = b
def relL (K : PySem.W.Frag) : Rel (List D) V := fun Φ σ G' H' E' l v => ∃ p vs, v = .ref p ∧ H' p = some (.lst vs) ∧ RpA K G' vs l ∧ G' p = none ∧ Φ.F p = none ∧ NotOwn σ E' p

/-! ### the judgements -/
def JE (X : Cx) (W : WJ) (e : Expr) (f : Env → R D) : Prop := ∃ te, PE X e te ∧ Snd X.K W (relE X.K) te f
def JO (X : Cx) (W : WJ) (e : Expr) (f : Env → R D) : Prop := ∃ te, PE X e te ∧ Snd X.K W (relO X.K) te f
def JL (X : Cx) (W : WJ) (e : Expr) (f : Env → R (List D)) : Prop := ∃ te, PE X e te ∧ Snd X.K W (relL X.K) te f
def JT (X : Cx) (W : WJ) (e : Expr) (f : Env → R Bool) : Prop := ∃ te, PT X e te ∧ Snd X.K W relT te f
def JW (X : Cx) (W : WJ) (e : Expr) (f : Env → R Bool) : Prop := ∃ te, PW X e te ∧ Snd X.K W relT te f
def JA (X : Cx) (W : WJ) (es : List Expr) (f : Env → R (List D)) : Prop := ∃ te, PA X es te ∧ Snd X.K W (relA X.K) te f
def JP (X : Cx) (W : WJ) (e : Option Expr) (f : Env → R (Option Int)) : Prop := ∃ te, PO X e te ∧ Snd X.K W relI te f
/-- a quiet one: nothing is changed -/
def JQ (X : Cx) (e : Expr) (f : Env → Option D) : Prop := ∃ te, PE X e te ∧ ∀ Φ G H σ E Q d, Sat X.K Φ G H σ E → f E = some d → (∀ G' H' v, Ex G G' → Ex H H' → Sat X.K Φ G' H' σ E → Rp X.K G' v d → Q v H') → te σ H Q

section
variable {X : Cx} {W : WJ} {a b c e o : Expr} {es : List Expr} {pos : Pos} {fa fb fc : Env → R D}
theorem JE.toO (h : JE X W e fa) : JO X W e fa := by
  obtain ⟨te, h1, h2⟩ := h
  refine ⟨te, h1, fun Φ G H σ E Q S hp => h2 Φ G H σ E Q S ?_⟩
  cases e : fa E with
  | ok d E' => rw [e] at hp; exact fun G' H' v e' S' r => hp G' H' v e' S' (Rp.sh S'.gh r)
  | exc x E' => rw [e] at hp; exact hp
  | stuck => rw [e] at hp; exact hp
def fQ (f : Env → Option D) : Env → R D := fun E => match f E with | some d => .ok d E | none => .stuck
theorem Post.opt {K : PySem.W.Frag} {Φ : Fr} {G : Hp} {σ : St} {E : Env} {o : Option D} {Q : VK} (h : Post K W.w (relE K) Φ G σ (match o with | some d => .ok d E | none => .stuck) Q) : ∃ d, o = some d ∧ ∀ G' H' v, Ex G G' → Sat K Φ G' H' σ E → Rp K G' v d → Q v H' := by
  cases o with
  | some d => exact ⟨d, rfl, h⟩
  | none => exact h.elim
theorem JQ.toE {f : Env → Option D} (h : JQ X e f) : JE X W e (fQ f) := by
  obtain ⟨te, h1, h2⟩ := h
  refine ⟨te, h1, fun Φ G H σ E Q S hp => ?_⟩
  obtain ⟨d, hd, hq⟩ := Post.opt (o := f E) hp
  exact h2 Φ G H σ E Q d S hd fun G' H' v e1 e2 S' r => hq G' H' v e1 S' r

/-! ### names, constants -/
def getV (i : Nat) (E : Env) : Option D := match E[i]? with
  | some (.val d) => some d
  | _ => none
def fVar (i : Nat) : Env → R D := fun E => match E[i]? with
  | some (.val d) => .ok d E
  | _ => .stuck
theorem jq_var (i : Nat) {x : Str} (hN : X.N[i]? = some x := by rfl) (hv : Vis X.env.scope x := by first | exact Or.inl rfl | exact Or.inr (Or.inl rfl) | exact Or.inr (Or.inr rfl)) (hd : (x == ("__debug__" : Str)) = false := by decide)
    (hcd : (x == ("__classdict__" : Str)) = false := by decide) : JQ X (.Name x pos) (getV i) := by
  refine ⟨tVar i, pe_var hN hv hd hcd, fun Φ G H σ E Q d S hf k => ?_⟩
  unfold getV at hf
  cases e : E[i]? with
  | none => rw [e] at hf; cases hf
  | some s =>
    rw [e] at hf
    cases s with
    | no => cases hf
    | own _ l => cases hf
    | val d' =>
      cases hf
      obtain ⟨x, hx, v, rfl, r⟩ := S.sl i _ e
      exact ⟨v, hx, k G H v (Ex.refl G) (Ex.refl H) S r⟩
theorem j_var (i : Nat) {x : Str} (hN : X.N[i]? = some x := by rfl) (hv : Vis X.env.scope x := by first | exact Or.inl rfl | exact Or.inr (Or.inl rfl) | exact Or.inr (Or.inr rfl)) (hd : (x == ("__debug__" : Str)) = false := by decide)
    (hcd : (x == ("__classdict__" : Str)) = false := by decide) : JE X W (.Name x pos) (fVar i) := by
  refine ⟨tVar i, pe_var hN hv hd hcd, fun Φ G H σ E Q S hp => ?_⟩
  unfold fVar at hp
  cases e : E[i]? with
  | none => rw [e] at hp; exact hp.elim
  | some s =>
    rw [e] at hp
    cases s with
    | no => exact hp.elim
    | own _ l => exact hp.elim
    | val d' =>
      obtain ⟨x, hx, v, rfl, r⟩ := S.sl i _ e
      exact ⟨v, hx, hp G H v (Ex.refl G) S r⟩
/-- an own list, looked at -/
def fBor (i : Nat) : Env → R D := fun E => match E[i]? with
  | some (.own _ l) => .ok (.lst l) E
  | some (.val d) => .ok d E
  | _ => .stuck
theorem j_bor (i : Nat) {x : Str} (hN : X.N[i]? = some x := by rfl) (hv : Vis X.env.scope x := by first | exact Or.inl rfl | exact Or.inr (Or.inl rfl) | exact Or.inr (Or.inr rfl)) (hd : (x == ("__debug__" : Str)) = false := by decide)
    (hcd : (x == ("__classdict__" : Str)) = false := by decide) : JO X W (.Name x pos) (fBor i) := by
  refine ⟨tVar i, pe_var hN hv hd hcd, fun Φ G H σ E Q S hp => ?_⟩
  unfold fBor at hp
  cases e : E[i]? with
  | none => rw [e] at hp; exact hp.elim
  | some s =>
    rw [e] at hp
    cases s with
    | no => exact hp.elim
    | own _ l =>
      obtain ⟨x, hx, p, vs, rfl, h1, h2⟩ := S.sl i _ e
      exact ⟨.ref p, hx, hp G H _ (Ex.refl G) S ⟨p, vs, rfl, h1, h2⟩⟩
    | val d' =>
      obtain ⟨x, hx, v, rfl, r⟩ := S.sl i _ e
      exact ⟨v, hx, hp G H v (Ex.refl G) S (Rp.sh S.gh r)⟩
def fC (d : D) : Env → R D := fun E => .ok d E
theorem j_c {v : V} {d : D} (h : PE X e (tC v)) (r : ∀ G, Rp X.K G v d) : JE X W e (fC d) :=
  ⟨tC v, h, fun Φ G H σ E Q S hp => hp G H v (Ex.refl G) S (r G)⟩
theorem jq_c {v : V} {d : D} (h : PE X e (tC v)) (r : ∀ G, Rp X.K G v d) : JQ X e (fun _ => some d) :=
  ⟨tC v, h, fun Φ G H σ E Q d' S hf k => by cases hf; exact k G H v (Ex.refl G) (Ex.refl H) S (r G)⟩
theorem j_int {i j} : JE X W (.Constant (.int i) j pos) (fC (.int i)) := j_c pe_int fun _ => .int _
theorem jq_int {i j} : JQ X (.Constant (.int i) j pos) (fun _ => some (.int i)) := jq_c pe_int fun _ => .int _
theorem j_bl {i j} : JE X W (.Constant (.bool i) j pos) (fC (.bl i)) := j_c pe_bl fun _ => .bl _
theorem j_non {j} : JE X W (.Constant .none j pos) (fC .non) := j_c pe_non fun _ => .non
theorem j_str {x j} : JE X W (.Constant (.str x) j pos) (fC (.str x)) := j_c pe_str fun _ => .str _
/-- a module's int -/
theorem j_gint {x : Str} {i : Int} (hm : ∃ t, X.mg x = some (.int i t)) (hg : Gl X x := by rfl) (hd : (x == ("__debug__" : Str)) = false := by decide) : JE X W (.Name x pos) (fC (.int i)) := by
  obtain ⟨t, hm⟩ := hm
  exact j_c (pe_glob (v := .int i) hg hm ⟨t, rfl⟩ hd) fun _ => .int _
theorem j_gstr {x y : Str} (hm : ∃ t, X.mg x = some (.str y t)) (hg : Gl X x := by rfl) (hd : (x == ("__debug__" : Str)) = false := by decide) : JE X W (.Name x pos) (fC (.str y)) := by
  obtain ⟨t, hm⟩ := hm
  exact j_c (pe_glob (v := .str y) hg hm ⟨t, rfl⟩ hd) fun _ => .str _

/-! ### operations by values -/
/-- r does g on what is told -/
def OpS (K : PySem.W.Frag) (r : R2) (g : D → D → Option D) : Prop :=
  ∀ Φ G H σ E x y a b d Q, Sat K Φ G H σ E → Sh K G H x a → Sh K G H y b → g a b = some d → (∀ G' H' v, Ex G G' → Ex H H' → Sat K Φ G' H' σ E → Rp K G' v d → Q v H') → r x y H Q
theorem OpS.or {K : PySem.W.Frag} {r r' : R2} {g g' : D → D → Option D} (h : OpS K r g) (h' : OpS K r' g') : OpS K (fun x y H Q => r x y H Q ∨ r' x y H Q) (fun a b => match g a b with | some d => some d | none => g' a b) := by
  intro Φ G H σ E x y a b d Q S ha hb hg k
  cases e : g a b with
  | some d' => simp only [e] at hg; cases hg; exact .inl (h Φ G H σ E x y a b d Q S ha hb e k)
  | none => simp only [e] at hg; exact .inr (h' Φ G H σ E x y a b d Q S ha hb hg k)
def fop (g : D → D → Option D) (fa fb : Env → R D) : Env → R D := fun E => (fa E).bind fun a E => (fb E).bind fun b E => match g a b with | some d => .ok d E | none => .stuck
theorem snd_op {r : R2} {g : D → D → Option D} {ta tb : TE} (hs : OpS X.K r g) (ha : Snd X.K W (relE X.K) ta fa) (hb : Snd X.K W (relO X.K) tb fb) : Snd X.K W (relE X.K) (tOp r ta tb) (fop g fa fb) := by
  intro Φ G H σ E Q S hp
  refine ha.go S hp fun a E1 G1 H1 x _ e1 S1 r1 hp => ?_
  refine hb.go S1 hp fun b E2 G2 H2 y _ e2 S2 r2 hp => ?_
  obtain ⟨d, hd, hq⟩ := hp.opt
  exact hs Φ G2 H2 σ E2 x y a b d Q S2 (Rp.sh S2.gh (Rp.mono e2 _ r1)) r2 hd fun G' H' v e _ S' r => hq G' H' v e S' r
theorem j_op {op : Operator} {r : R2} {g : D → D → Option D} (ho : OpR X (binaryOp op) r) (hs : OpS X.K r g) (ha : JE X W a fa) (hb : JO X W b fb) : JE X W (.BinOp a op b pos) (fop g fa fb) := by
  obtain ⟨ta, pa, sa⟩ := ha
  obtain ⟨tb, pb, sb⟩ := hb
  exact ⟨_, pe_op ho pa pb, snd_op hs sa sb⟩
/-- the left one looked at, the right one quiet -/
def fopB (g : D → D → Option D) (fa : Env → R D) (fb : Env → Option D) : Env → R D := fun E => (fa E).bind fun a E => match (fb E).bind (g a) with | some d => .ok d E | none => .stuck
theorem snd_opB {r : R2} {g : D → D → Option D} {fb : Env → Option D} {ta tb : TE} (hs : OpS X.K r g) (ha : Snd X.K W (relO X.K) ta fa)
    (hb : ∀ Φ G H σ E Q d, Sat X.K Φ G H σ E → fb E = some d → (∀ G' H' v, Ex G G' → Ex H H' → Sat X.K Φ G' H' σ E → Rp X.K G' v d → Q v H') → tb σ H Q) : Snd X.K W (relE X.K) (tOp r ta tb) (fopB g fa fb) := by
  intro Φ G H σ E Q S hp
  refine ha.go S hp fun a E1 G1 H1 x _ e1 S1 r1 hp => ?_
  obtain ⟨d, hd, hq⟩ := hp.opt
  obtain ⟨b, hb1, hb2⟩ := Option.bind_eq_some_iff.mp hd
  refine hb Φ G1 H1 σ E1 _ b S1 hb1 fun G2 H2 y e2 e3 S2 r2 => ?_
  exact hs Φ G2 H2 σ E1 x y a b d Q S2 (r1.mono e2 e3) (Rp.sh S2.gh r2) hb2 fun G' H' v e _ S' r => hq G' H' v (e2.trans e) S' r
theorem j_opB {op : Operator} {r : R2} {g : D → D → Option D} {fb : Env → Option D} (ho : OpR X (binaryOp op) r) (hs : OpS X.K r g) (ha : JO X W a fa) (hb : JQ X b fb) : JE X W (.BinOp a op b pos) (fopB g fa fb) := by
  obtain ⟨ta, pa, sa⟩ := ha
  obtain ⟨tb, pb, sb⟩ := hb
  exact ⟨_, pe_op ho pa pb, snd_opB hs sa sb⟩
theorem jq_op {op : Operator} {r : R2} {g : D → D → Option D} {qa qb : Env → Option D} (ho : OpR X (binaryOp op) r) (hs : OpS X.K r g) (ha : JQ X a qa) (hb : JQ X b qb) : JQ X (.BinOp a op b pos) (fun E => (qa E).bind fun x => (qb E).bind fun y => g x y) := by
  obtain ⟨ta, pa, sa⟩ := ha
  obtain ⟨tb, pb, sb⟩ := hb
  refine ⟨_, pe_op ho pa pb, fun Φ G H σ E Q d S hf k => ?_⟩
  obtain ⟨x, hx, hf⟩ := Option.bind_eq_some_iff.mp hf
  obtain ⟨y, hy, hf⟩ := Option.bind_eq_some_iff.mp hf
  refine sa Φ G H σ E _ x S hx fun G1 H1 u e1 f1 S1 r1 => ?_
  refine sb Φ G1 H1 σ E _ y S1 hy fun G2 H2 w e2 f2 S2 r2 => ?_
  exact hs Φ G2 H2 σ E u w x y d Q S2 (Rp.sh S2.gh (Rp.mono e2 _ r1)) (Rp.sh S2.gh r2) hf fun G' H' v e f S' r => k G' H' v ((e1.trans e2).trans e) ((f1.trans f2).trans f) S' r

/-! ### ints -/
def g2I (g : Int → Int → Option Int) : D → D → Option D
  | .int i, .int j => (g i j).map D.int
  | _, _ => none
def g2B (g : Int → Int → Bool) : D → D → Option D
  | .int i, .int j => some (.bl (g i j))
  | _, _ => none
theorem opS_I {K : PySem.W.Frag} {C : Int → Int → Prop} {h : Int → Int → Int} {g : Int → Int → Option Int} (hg : ∀ i j k, g i j = some k → C i j ∧ k = h i j) : OpS K (rI C fun i j => .int (h i j)) (g2I g) := by
  intro Φ G H σ E x y a b d Q S ha hb hd k
  cases a with
  | int i =>
    cases b with
    | int j =>
      cases ha; cases hb
      obtain ⟨z, hz, rfl⟩ := Option.map_eq_some_iff.mp (show (g i j).map D.int = some d from hd)
      obtain ⟨c, rfl⟩ := hg i j z hz
      exact ⟨i, j, rfl, rfl, c, k G H _ (Ex.refl G) (Ex.refl H) S (.int _)⟩
    | _ => cases hd
  | _ => cases hd
theorem opS_I0 {K : PySem.W.Frag} {h : Int → Int → Int} : OpS K (rI0 fun i j => .int (h i j)) (g2I fun i j => some (h i j)) := by
  intro Φ G H σ E x y a b d Q S ha hb hd k
  cases a with
  | int i =>
    cases b with
    | int j =>
      cases ha; cases hb
      cases hd
      exact ⟨i, j, rfl, rfl, k G H _ (Ex.refl G) (Ex.refl H) S (.int _)⟩
    | _ => cases hd
  | _ => cases hd
theorem opS_B0 {K : PySem.W.Frag} {h : Int → Int → Bool} : OpS K (rI0 fun i j => .bl (h i j)) (g2B h) := by
  intro Φ G H σ E x y a b d Q S ha hb hd k
  cases a with
  | int i =>
    cases b with
    | int j =>
      cases ha; cases hb
      cases hd
      exact ⟨i, j, rfl, rfl, k G H _ (Ex.refl G) (Ex.refl H) S (.bl _)⟩
    | _ => cases hd
  | _ => cases hd
end
end J

namespace J
open PySem PySem.Spec PyProof.Rows L2

/-! ### data that == reads -/
mutual
def toPy : D → PyData
  | .non => .none
  | .bl b => .bool b
  | .int i => .int i
  | .str x => .str x
  | .tup l => .tuple (toPys l)
  | .lst l => .list (toPys l)
  | .rol l => .list (toPys l)
  | .ins _ _ _ => .none
def toPys : List D → List PyData
  | [] => []
  | d :: ds => toPy d :: toPys ds
end
mutual
def plain : D → Bool
  | .tup l => plains l
  | .lst l => plains l
  | .rol l => plains l
  | .ins _ _ _ => false
  | _ => true
def plains : List D → Bool
  | [] => true
  | d :: ds => plain d && plains ds
end
def okD (d : D) : Bool := plain d && SeqAt.shaped (toPy d)
section
variable {K : PySem.W.Frag} {G H : Hp}
mutual
theorem Rp.dp : ∀ (d : D) {v : V}, plain d = true → Rp K G v d → Dp K G v (toPy d)
  | .non, _, _, h => by cases h; exact .non
  | .bl b, _, _, h => by cases h; exact .bl b
  | .int b, _, _, h => by cases h; exact .int b
  | .str b, _, _, h => by cases h; exact .str b
  | .tup l, _, p, h => by
    cases h with
    | tup h1 h2 => exact .tup h1 (RpA.dp l (by simpa [plain] using p) h2)
  | .lst l, _, p, h => by
    cases h with
    | lst h1 h2 => exact .lst (SqL.of h1) (RpA.dp l (by simpa [plain] using p) h2)
  | .rol l, _, p, h => by
    cases h with
    | rol h1 h2 => exact .lst h1 (RpA.dp l (by simpa [plain] using p) h2)
  | .ins _ _ _, _, p, h => by simp [plain] at p
theorem RpA.dp : ∀ (ds : List D) {vs : List V}, plains ds = true → RpA K G vs ds → DpAll K G vs (toPys ds)
  | [], _, _, h => by cases h; exact .nil
  | d :: ds, _, p, h => by
    have p' : plain d = true ∧ plains ds = true := by simpa [plains] using p
    cases h with
    | cons h1 h2 => exact .cons (Rp.dp d p'.1 h1) (RpA.dp ds p'.2 h2)
end
theorem Sh.dp {d : D} {v : V} (p : plain d = true) (e : Ex G H) (h : Sh K G H v d) : Dp K H v (toPy d) := by
  cases d with
  | lst l =>
    obtain ⟨a, vs, rfl, h1, h2⟩ := h
    exact .lst (SqL.of h1) (RpA.dp l (by simpa [plain] using p) (h2.mono e))
  | _ => exact Rp.dp _ p (Rp.mono e _ h)
end

/-! ### operators -/
def gSub : D → D → Option D := g2I fun i j => some (i - j)
def gMulI (i j : Int) : Option Int := if i.natAbs.log2 + j.natAbs.log2 < 1000000 then some (i * j) else none
def gDivI (i j : Int) : Option Int := if 0 < j ∧ j.natAbs.log2 < 9000 then some (i / j) else none
def gModI (i j : Int) : Option Int := if 0 < j then some (i % j) else none
def gPowI (i j : Int) : Option Int := if 0 ≤ j ∧ j ≤ 1000000 ∧ i.natAbs < 2 ^ 64 then some (i ^ j.toNat) else none
def gShlI (i j : Int) : Option Int := if 0 ≤ j ∧ j ≤ 1000000 ∧ i.natAbs < 2 ^ 64 then some (i * 2 ^ j.toNat) else none
def gShrI (i j : Int) : Option Int := if 0 ≤ j then some (i / 2 ^ j.toNat) else none
def gDiv : D → D → Option D := g2I gDivI
def gMod : D → D → Option D := g2I gModI
def gPow : D → D → Option D := g2I gPowI
def gShl : D → D → Option D := g2I gShlI
def gShr : D → D → Option D := g2I gShrI
def gAnd : D → D → Option D := g2I fun i j => some (Builtin.bitAnd i j)
def gOr : D → D → Option D := g2I fun i j => some (Builtin.bitOr i j)
def gXor : D → D → Option D := g2I fun i j => some (Builtin.bitXor i j)
def gAdd : D → D → Option D
  | .int i, .int j => some (.int (i + j))
  | .str x, .str y => if x.length + y.length ≤ 16777216 then some (.str (x ++ y)) else none
  | .lst x, .lst y => if x.length + y.length ≤ 16777216 then some (.lst (x ++ y)) else none
  | .tup x, .tup y => if x.length + y.length ≤ 16777216 then some (.tup (x ++ y)) else none
  | _, _ => none
def gMul : D → D → Option D
  | .int i, .int j => (gMulI i j).map D.int
  | .lst x, .int k => if 0 ≤ k ∧ k ≤ 1000000 ∧ x.length * k.toNat ≤ 16777216 then some (.lst (List.replicate k.toNat x).flatten) else none
  | _, _ => none
def gEq : D → D → Option D := fun a b => if (okD a && okD b) = true then some (.bl (PyData.eqv (toPy a) (toPy b))) else none
def gNe : D → D → Option D := fun a b => if (okD a && okD b) = true then some (.bl (!PyData.eqv (toPy a) (toPy b))) else none
def gLt : D → D → Option D := g2B fun i j => decide (i < j)
def gLe : D → D → Option D := g2B fun i j => decide (i ≤ j)
def gGt : D → D → Option D := g2B fun i j => decide (j < i)
def gGe : D → D → Option D := g2B fun i j => decide (j ≤ i)
theorem if_some {c : Prop} [Decidable c] {α : Type} {a k : α} (h : (if c then some a else none) = some k) : c ∧ k = a := by
  by_cases hc : c
  · rw [if_pos hc] at h; exact ⟨hc, (Option.some.inj h).symm⟩
  · rw [if_neg hc] at h; cases h
section
variable {K : PySem.W.Frag}
theorem opS_mulI : OpS K (rI CMulW fun i j => .int (i * j)) (g2I gMulI) := opS_I fun i j k h => if_some (c := i.natAbs.log2 + j.natAbs.log2 < 1000000) h
theorem opS_div : OpS K (rI CDivW fun i j => .int (i / j)) gDiv := opS_I fun i j k h => if_some (c := 0 < j ∧ j.natAbs.log2 < 9000) h
theorem opS_mod : OpS K (rI (fun _ j => 0 < j) fun i j => .int (i % j)) gMod := opS_I fun i j k h => if_some h
theorem opS_pow : OpS K (rI CPow fun i j => .int (i ^ j.toNat)) gPow := opS_I fun i j k h => if_some (c := 0 ≤ j ∧ j ≤ 1000000 ∧ i.natAbs < 2 ^ 64) h
theorem opS_shl : OpS K (rI CPow fun i j => .int (i * 2 ^ j.toNat)) gShl := opS_I fun i j k h => if_some (c := 0 ≤ j ∧ j ≤ 1000000 ∧ i.natAbs < 2 ^ 64) h
theorem opS_shr : OpS K (rI (fun _ j => 0 ≤ j) fun i j => .int (i / 2 ^ j.toNat)) gShr := opS_I fun i j k h => if_some h
theorem sz {n : Nat} (h : n ≤ 16777216) : n ≤ sizeLine := by rw [sizeLine_eq]; exact h
/-- a new object, given -/
theorem give_new {Φ : Fr} {G H : Hp} {σ : St} {E : Env} {Q : VK} {d : D} {o : HO} (S : Sat K Φ G H σ E) (k : ∀ G' H' v, Ex G G' → Ex H H' → Sat K Φ G' H' σ E → Rp K G' v d → Q v H')
    (r : ∀ p, G p = none → Rp K (upd G p o) (.ref p) d) : ∀ p, H p = none → Q (.ref p) (upd H p o) := fun p hp => by
  have g := S.gh.back hp
  exact k _ _ _ (Ex.new g) (Ex.new hp) (S.new hp) (r p g)
abbrev rAdd4 (K : PySem.W.Frag) : R2 := fun x y H Q => (rI0 fun i j => .int (i + j)) x y H Q ∨ ((fun x y H Q => ∃ i j, x = .str i ∧ y = .str j ∧ i.length + j.length ≤ sizeLine ∧ Q (.str (i ++ j)) H : R2) x y H Q ∨ (rCat x y H Q ∨ rCatA K x y H Q))
theorem op_add4 {X : Cx} : OpR X (binaryOp .Add) (rAdd4 X.K) := OpR.or op_add (OpR.or op_add_str (OpR.or op_cat op_catA))
theorem opS_add : OpS K (rAdd4 K) gAdd := by
  intro Φ G H σ E x y a b d Q S ha hb hd k
  cases a with
  | int i =>
    cases b with
    | int j => cases ha; cases hb; cases hd; exact .inl ⟨i, j, rfl, rfl, k G H _ (Ex.refl G) (Ex.refl H) S (.int _)⟩
    | _ => cases hd
  | str i =>
    cases b with
    | str j =>
      cases ha; cases hb
      obtain ⟨c, rfl⟩ := if_some hd
      exact .inr (.inl ⟨i, j, rfl, rfl, sz c, k G H _ (Ex.refl G) (Ex.refl H) S (.str _)⟩)
    | _ => cases hd
  | lst i =>
    cases b with
    | lst j =>
      obtain ⟨p, vs, rfl, h1, h2⟩ := ha
      obtain ⟨q, ws, rfl, h3, h4⟩ := hb
      obtain ⟨c, rfl⟩ := if_some hd
      refine .inr (.inr (.inl ⟨p, q, vs, ws, rfl, rfl, h1, h3, sz (by rw [h2.length, h4.length]; exact c), give_new S k fun r g => ?_⟩))
      exact .lst upd_same ((h2.append h4).mono (Ex.new g))
    | _ => cases hd
  | tup i =>
    cases b with
    | tup j =>
      cases ha with
      | tup h1 h2 =>
        cases hb with
        | tup h3 h4 =>
          obtain ⟨c, rfl⟩ := if_some hd
          refine .inr (.inr (.inr ⟨_, _, _, _, rfl, rfl, S.gh.st h1, S.gh.st h3, sz (by rw [h2.length, h4.length]; exact c), fun e => ?_, fun n e => ?_, fun n n2 => give_new S k fun r g => ?_⟩))
          · subst e
            cases i with
            | nil => exact k G H _ (Ex.refl G) (Ex.refl H) S (.tup h3 h4)
            | cons _ _ => cases h2
          · subst e
            cases j with
            | nil => rw [List.append_nil] at k; exact k G H _ (Ex.refl G) (Ex.refl H) S (.tup h1 h2)
            | cons _ _ => cases h4
          · exact .tup (SqT.of upd_same) ((h2.append h4).mono (Ex.new g))
    | _ => cases hd
  | _ => cases b <;> cases hd
abbrev rMul2 : R2 := fun x y H Q => (rI CMulW fun i j => .int (i * j)) x y H Q ∨ rRep x y H Q
theorem op_mul2 {X : Cx} : OpR X (binaryOp .Mult) rMul2 := OpR.or op_mulW op_rep
theorem opS_mul : OpS K rMul2 gMul := by
  intro Φ G H σ E x y a b d Q S ha hb hd k
  cases a with
  | int i =>
    cases b with
    | int j => exact .inl (opS_mulI Φ G H σ E x y (.int i) (.int j) d Q S ha hb hd k)
    | _ => cases hd
  | lst i =>
    cases b with
    | int j =>
      obtain ⟨p, vs, rfl, h1, h2⟩ := ha
      cases hb
      obtain ⟨⟨c1, c2, c3⟩, rfl⟩ := if_some hd
      refine .inr ⟨p, j, vs, rfl, rfl, h1, by omega, by omega, sz (by rw [h2.length]; exact c3), give_new S k fun r g => ?_⟩
      exact .lst upd_same ((h2.flat _).mono (Ex.new g))
    | _ => cases hd
  | _ => cases b <;> cases hd
theorem opS_eq : OpS K (rEqD K) gEq := by
  intro Φ G H σ E x y a b d Q S ha hb hd k
  obtain ⟨c, rfl⟩ := if_some hd
  obtain ⟨c1, c2⟩ := Bool.and_eq_true_iff.mp c
  obtain ⟨p1, s1⟩ := Bool.and_eq_true_iff.mp c1
  obtain ⟨p2, s2⟩ := Bool.and_eq_true_iff.mp c2
  exact ⟨_, _, ha.dp p1 S.gh, hb.dp p2 S.gh, s1, s2, k G H _ (Ex.refl G) (Ex.refl H) S (.bl _)⟩
theorem opS_ne : OpS K (rNeD K) gNe := by
  intro Φ G H σ E x y a b d Q S ha hb hd k
  obtain ⟨c, rfl⟩ := if_some hd
  obtain ⟨c1, c2⟩ := Bool.and_eq_true_iff.mp c
  obtain ⟨p1, s1⟩ := Bool.and_eq_true_iff.mp c1
  obtain ⟨p2, s2⟩ := Bool.and_eq_true_iff.mp c2
  exact ⟨_, _, ha.dp p1 S.gh, hb.dp p2 S.gh, s1, s2, k G H _ (Ex.refl G) (Ex.refl H) S (.bl _)⟩
/-- x in l, flat things -/
def flatD : D → Bool
  | .non => true
  | .bl _ => true
  | .int _ => true
  | .str _ => true
  | _ => false
def vD : D → V
  | .bl b => .bl b
  | .int i => .int i
  | .str x => .str x
  | _ => .non
theorem Rp.flat {G : Hp} {v : V} {d : D} (h : Rp K G v d) (f : flatD d = true) : v = vD d ∧ flatV v = true := by
  cases h with
  | non => exact ⟨rfl, rfl⟩
  | bl b => exact ⟨rfl, rfl⟩
  | int b => exact ⟨rfl, rfl⟩
  | str b => exact ⟨rfl, rfl⟩
  | _ => cases f
theorem RpA.flats {G : Hp} {vs : List V} {ds : List D} (h : RpA K G vs ds) (f : ds.all flatD = true) : vs = ds.map vD ∧ vs.all flatV = true := by
  induction ds generalizing vs with
  | nil => cases h; exact ⟨rfl, rfl⟩
  | cons d ds ih =>
    cases h with
    | cons h1 h2 =>
      rw [List.all_cons] at f
      obtain ⟨f1, f2⟩ := Bool.and_eq_true_iff.mp f
      obtain ⟨a1, a2⟩ := h1.flat f1
      obtain ⟨b1, b2⟩ := ih h2 f2
      subst b1
      exact ⟨by rw [a1]; rfl, by rw [List.all_cons, a2, b2]; rfl⟩
def itemsD : D → Option (List D)
  | .lst l => some l
  | .rol l => some l
  | .tup l => some l
  | _ => none
theorem Sh.items {G H : Hp} {v : V} {d : D} {l : List D} (h : Sh K G H v d) (e : Ex G H) (hl : itemsD d = some l) : ∃ p vs, v = .ref p ∧ (SqL K H p vs ∨ SqT K H p vs) ∧ RpA K G vs l := by
  cases d with
  | lst l' => cases hl; obtain ⟨p, vs, h1, h2, h3⟩ := h; exact ⟨p, vs, h1, .inl (SqL.of h2), h3⟩
  | rol l' => cases hl; cases h with | rol h1 h2 => exact ⟨_, _, rfl, .inl (e.sl h1), h2⟩
  | tup l' => cases hl; cases h with | tup h1 h2 => exact ⟨_, _, rfl, .inr (e.st h1), h2⟩
  | _ => cases hl
def gInB (neg : Bool) : D → D → Option D := fun a b => match itemsD b with
  | some l => if (flatD a && l.all flatD) = true then some (.bl (if neg then !inV (vD a) (l.map vD) else inV (vD a) (l.map vD))) else none
  | none => none
theorem opS_in (neg : Bool) : OpS K (rIn K neg) (gInB neg) := by
  intro Φ G H σ E x y a b d Q S ha hb hd k
  unfold gInB at hd
  cases e : itemsD b with
  | none => rw [e] at hd; cases hd
  | some l =>
    rw [e] at hd
    obtain ⟨c, rfl⟩ := if_some hd
    obtain ⟨c1, c2⟩ := Bool.and_eq_true_iff.mp c
    obtain ⟨p, vs, rfl, hs, hr⟩ := hb.items S.gh e
    have ha' : Rp K G x a := by
      cases a with
      | lst _ => cases c1
      | _ => exact ha
    obtain ⟨a1, a2⟩ := ha'.flat c1
    obtain ⟨b1, b2⟩ := hr.flats c2
    subst a1 b1
    exact ⟨p, _, rfl, hs, a2, b2, k G H _ (Ex.refl G) (Ex.refl H) S (.bl _)⟩
end

section
variable {X : Cx} {W : WJ} {a b c e o : Expr} {es : List Expr} {pos : Pos} {fa fb fc : Env → R D}
theorem j_add (ha : JE X W a fa) (hb : JO X W b fb) : JE X W (.BinOp a .Add b pos) (fop gAdd fa fb) := j_op op_add4 opS_add ha hb
theorem j_sub (ha : JE X W a fa) (hb : JO X W b fb) : JE X W (.BinOp a .Sub b pos) (fop gSub fa fb) := j_op op_sub opS_I0 ha hb
theorem j_mul (ha : JE X W a fa) (hb : JO X W b fb) : JE X W (.BinOp a .Mult b pos) (fop gMul fa fb) := j_op op_mul2 opS_mul ha hb
theorem j_fdiv (ha : JE X W a fa) (hb : JO X W b fb) : JE X W (.BinOp a .FloorDiv b pos) (fop gDiv fa fb) := j_op op_fdivW opS_div ha hb
theorem j_mod (ha : JE X W a fa) (hb : JO X W b fb) : JE X W (.BinOp a .Mod b pos) (fop gMod fa fb) := j_op op_mod opS_mod ha hb
theorem j_pow (ha : JE X W a fa) (hb : JO X W b fb) : JE X W (.BinOp a .Pow b pos) (fop gPow fa fb) := j_op op_pow opS_pow ha hb
theorem j_shl (ha : JE X W a fa) (hb : JO X W b fb) : JE X W (.BinOp a .LShift b pos) (fop gShl fa fb) := j_op op_shl opS_shl ha hb
theorem j_shr (ha : JE X W a fa) (hb : JO X W b fb) : JE X W (.BinOp a .RShift b pos) (fop gShr fa fb) := j_op op_shr opS_shr ha hb
theorem j_and_ (ha : JE X W a fa) (hb : JO X W b fb) : JE X W (.BinOp a .BitAnd b pos) (fop gAnd fa fb) := j_op op_and opS_I0 ha hb
theorem j_or_ (ha : JE X W a fa) (hb : JO X W b fb) : JE X W (.BinOp a .BitOr b pos) (fop gOr fa fb) := j_op op_or opS_I0 ha hb
theorem j_xor_ (ha : JE X W a fa) (hb : JO X W b fb) : JE X W (.BinOp a .BitXor b pos) (fop gXor fa fb) := j_op op_xor opS_I0 ha hb
theorem jq_add {qa qb : Env → Option D} (ha : JQ X a qa) (hb : JQ X b qb) : JQ X (.BinOp a .Add b pos) (fun E => (qa E).bind fun x => (qb E).bind fun y => gAdd x y) := jq_op op_add4 opS_add ha hb
theorem jq_sub {qa qb : Env → Option D} (ha : JQ X a qa) (hb : JQ X b qb) : JQ X (.BinOp a .Sub b pos) (fun E => (qa E).bind fun x => (qb E).bind fun y => gSub x y) := jq_op op_sub opS_I0 ha hb
/-- one-place -/
def fun1 (g : D → Option D) (fa : Env → R D) : Env → R D := fun E => (fa E).bind fun a E => match g a with | some d => .ok d E | none => .stuck
def gNeg : D → Option D
  | .int i => some (.int (-i))
  | _ => none
def gInv : D → Option D
  | .int i => some (.int (Builtin.bitNot i))
  | _ => none
theorem j_neg (ha : JE X W a fa) : JE X W (.UnaryOp .USub a pos) (fun1 gNeg fa) := by
  obtain ⟨ta, pa, sa⟩ := ha
  refine ⟨_, pe_un un_neg pa, fun Φ G H σ E Q S hp => ?_⟩
  refine sa.go S hp fun a E1 G1 H1 x _ e1 S1 r1 hp => ?_
  obtain ⟨d, hd, hq⟩ := hp.opt
  cases a with
  | int i => cases hd; cases r1; exact ⟨i, rfl, hq G1 H1 _ (Ex.refl G1) S1 (.int _)⟩
  | _ => cases hd
theorem jq_neg {qa : Env → Option D} (ha : JQ X a qa) : JQ X (.UnaryOp .USub a pos) (fun E => (qa E).bind gNeg) := by
  obtain ⟨ta, pa, sa⟩ := ha
  refine ⟨_, pe_un un_neg pa, fun Φ G H σ E Q d S hf k => ?_⟩
  obtain ⟨x, hx, hf⟩ := Option.bind_eq_some_iff.mp hf
  refine sa Φ G H σ E _ x S hx fun G1 H1 u e1 f1 S1 r1 => ?_
  cases x with
  | int i => cases hf; cases r1; exact ⟨i, rfl, k G1 H1 _ e1 f1 S1 (.int _)⟩
  | _ => cases hf
theorem j_inv (ha : JE X W a fa) : JE X W (.UnaryOp .Invert a pos) (fun1 gInv fa) := by
  obtain ⟨ta, pa, sa⟩ := ha
  refine ⟨_, pe_un un_inv pa, fun Φ G H σ E Q S hp => ?_⟩
  refine sa.go S hp fun a E1 G1 H1 x _ e1 S1 r1 hp => ?_
  obtain ⟨d, hd, hq⟩ := hp.opt
  cases a with
  | int i => cases hd; cases r1; exact ⟨i, rfl, hq G1 H1 _ (Ex.refl G1) S1 (.int _)⟩
  | _ => cases hd

/-! ### comparisons -/
theorem j_cmp {op : CmpOp} {r : R2} {g : D → D → Option D} (ho : OpR X (compareOp op) r) (hs : OpS X.K r g) (ha : JE X W a fa) (hb : JO X W b fb) (hm : behindInMarks op b = false) : JE X W (.Compare a [op] [b] pos) (fop g fa fb) := by
  obtain ⟨ta, pa, sa⟩ := ha
  obtain ⟨tb, pb, sb⟩ := hb
  exact ⟨_, pe_cmpR ho pa pb hm, snd_op hs sa sb⟩
theorem j_cmpB {op : CmpOp} {r : R2} {g : D → D → Option D} {fb : Env → Option D} (ho : OpR X (compareOp op) r) (hs : OpS X.K r g) (ha : JO X W a fa) (hb : JQ X b fb) (hm : behindInMarks op b = false) : JE X W (.Compare a [op] [b] pos) (fopB g fa fb) := by
  obtain ⟨ta, pa, sa⟩ := ha
  obtain ⟨tb, pb, sb⟩ := hb
  exact ⟨_, pe_cmpR ho pa pb hm, snd_opB hs sa sb⟩
/-- a value as a test: a bool -/
def fTest (f : Env → R D) : Env → R Bool := fun E => (f E).bind fun d E => match d with | .bl k => .ok k E | _ => .stuck
theorem snd_test {te : TE} {f : Env → R D} (h : Snd X.K W (relE X.K) te f) : Snd X.K W relT (tTest te) (fTest f) := by
  intro Φ G H σ E Q S hp
  refine h.go S hp fun a E1 G1 H1 x _ e1 S1 r1 hp => ?_
  cases a with
  | bl k => cases r1; exact ⟨k, rfl, hp G1 H1 k (Ex.refl G1) S1 rfl⟩
  | _ => exact hp.elim
theorem jt_cmp {op : CmpOp} {r : R2} {g : D → D → Option D} (ho : OpR X (compareOp op) r) (hs : OpS X.K r g) (ha : JE X W a fa) (hb : JO X W b fb) (hm : behindInMarks op b = false) : JT X W (.Compare a [op] [b] pos) (fTest (fop g fa fb)) := by
  obtain ⟨ta, pa, sa⟩ := ha
  obtain ⟨tb, pb, sb⟩ := hb
  exact ⟨_, pt_cmpR ho pa pb hm, snd_test (snd_op hs sa sb)⟩
theorem jt_cmpB {op : CmpOp} {r : R2} {g : D → D → Option D} {fb : Env → Option D} (ho : OpR X (compareOp op) r) (hs : OpS X.K r g) (ha : JO X W a fa) (hb : JQ X b fb) (hm : behindInMarks op b = false) : JT X W (.Compare a [op] [b] pos) (fTest (fopB g fa fb)) := by
  obtain ⟨ta, pa, sa⟩ := ha
  obtain ⟨tb, pb, sb⟩ := hb
  exact ⟨_, pt_cmpR ho pa pb hm, snd_test (snd_opB hs sa sb)⟩
/-- a op b op' c -/
def fChain (g g' : D → D → Option D) (fa fb fc : Env → R D) : Env → R D := fun E => (fa E).bind fun a E => (fb E).bind fun b E => match g a b with
  | some (.bl true) => (fc E).bind fun c E => match g' b c with | some d => .ok d E | none => .stuck
  | some (.bl false) => .ok (.bl false) E
  | _ => .stuck
theorem snd_chain {r r' : R2} {g g' : D → D → Option D} {ta tb tc : TE} (hs : OpS X.K r g) (hs' : OpS X.K r' g') (ha : Snd X.K W (relE X.K) ta fa) (hb : Snd X.K W (relE X.K) tb fb) (hc : Snd X.K W (relO X.K) tc fc) : Snd X.K W (relE X.K) (tChain r r' ta tb tc) (fChain g g' fa fb fc) := by
  intro Φ G H σ E Q S hp
  refine ha.go S hp fun a E1 G1 H1 x _ e1 S1 r1 hp => ?_
  refine hb.go S1 hp fun b E2 G2 H2 y _ e2 S2 r2 hp => ?_
  cases e : g a b with
  | none => rw [e] at hp; exact hp.elim
  | some d =>
    rw [e] at hp
    refine hs Φ G2 H2 σ E2 x y a b d _ S2 (Rp.sh S2.gh (Rp.mono e2 _ r1)) (Rp.sh S2.gh r2) e fun G3 H3 v e3 _ S3 r3 => ?_
    cases d with
    | bl k =>
      cases r3
      refine ⟨k, rfl, ?_⟩
      cases k with
      | true =>
        refine iteT ?_
        refine hc.go (⟨S3, W.mono _ _ _ e3 S2.c⟩ : SatC X.K W _ _ _ _ _) (Post.mono e3 hp) fun c E4 G4 H4 z _ e4 S4 r4 hp => ?_
        obtain ⟨d, hd, hq⟩ := hp.opt
        exact hs' Φ G4 H4 σ E4 y z b c d Q S4 (Rp.sh S4.gh (Rp.mono (e3.trans e4) _ r2)) r4 hd fun G' H' v e _ S' r => hq G' H' v e S' r
      | false => exact iteF (Post.mono e3 hp G3 H3 _ (Ex.refl G3) S3 (.bl _))
    | _ => exact hp.elim
theorem j_chain {op op' : CmpOp} {r r' : R2} {g g' : D → D → Option D} (ho : OpR X (compareOp op) r) (ho' : OpR X (compareOp op') r') (hs : OpS X.K r g) (hs' : OpS X.K r' g') (ha : JE X W a fa) (hb : JE X W b fb) (hc : JO X W c fc)
    (hm : lastMarks [op, op'] [b, c] = false := by with_unfolding_all rfl) : JE X W (.Compare a [op, op'] [b, c] pos) (fChain g g' fa fb fc) := by
  obtain ⟨ta, pa, sa⟩ := ha
  obtain ⟨tb, pb, sb⟩ := hb
  obtain ⟨tc, pc, sc⟩ := hc
  exact ⟨_, pe_chain ho ho' pa pb pc hm, snd_chain hs hs' sa sb sc⟩
theorem jt_chain {op op' : CmpOp} {r r' : R2} {g g' : D → D → Option D} (ho : OpR X (compareOp op) r) (ho' : OpR X (compareOp op') r') (hs : OpS X.K r g) (hs' : OpS X.K r' g') (ha : JE X W a fa) (hb : JE X W b fb) (hc : JO X W c fc)
    (hm : lastMarks [op, op'] [b, c] = false := by with_unfolding_all rfl) : JT X W (.Compare a [op, op'] [b, c] pos) (fTest (fChain g g' fa fb fc)) := by
  obtain ⟨ta, pa, sa⟩ := ha
  obtain ⟨tb, pb, sb⟩ := hb
  obtain ⟨tc, pc, sc⟩ := hc
  exact ⟨_, pt_chain ho ho' pa pb pc hm, snd_test (snd_chain hs hs' sa sb sc)⟩
/-- is None -/
def isNonD : D → Bool
  | .non => true
  | _ => false
def fIsN (neg : Bool) (fa : Env → R D) : Env → R D := fun E => (fa E).bind fun a E => .ok (.bl (if neg then !isNonD a else isNonD a)) E
theorem Sh.non {K : PySem.W.Frag} {G H : Hp} {v : V} {d : D} (h : Sh K G H v d) : decide (v = .non) = isNonD d := by
  cases d with
  | lst l => obtain ⟨p, vs, rfl, _⟩ := h; rfl
  | non => cases h; rfl
  | _ => cases h <;> rfl
theorem j_isN {j pos'} (ha : JO X W a fa) : JE X W (.Compare a [.Is] [.Constant .none j pos'] pos) (fIsN false fa) := by
  obtain ⟨ta, pa, sa⟩ := ha
  refine ⟨_, pe_cmp (pc_isN pa), fun Φ G H σ E Q S hp => ?_⟩
  refine sa.go S hp fun a E1 G1 H1 x _ e1 S1 r1 hp => ?_
  show Q (.bl (decide (x = .non))) H1
  rw [r1.non]
  exact hp G1 H1 _ (Ex.refl G1) S1 (.bl _)
theorem j_notN {j pos'} (ha : JO X W a fa) : JE X W (.Compare a [.IsNot] [.Constant .none j pos'] pos) (fIsN true fa) := by
  obtain ⟨ta, pa, sa⟩ := ha
  refine ⟨_, pe_cmp (pc_notN pa), fun Φ G H σ E Q S hp => ?_⟩
  refine sa.go S hp fun a E1 G1 H1 x _ e1 S1 r1 hp => ?_
  show Q (.bl (!decide (x = .non))) H1
  rw [r1.non]
  exact hp G1 H1 _ (Ex.refl G1) S1 (.bl _)
theorem jt_isN {j pos'} (ha : JO X W a fa) : JT X W (.Compare a [.Is] [.Constant .none j pos'] pos) (fTest (fIsN false fa)) := by
  obtain ⟨ta, pa, sa⟩ := ha
  refine ⟨_, pt_cmp (pc_isN pa), fun Φ G H σ E Q S hp => ?_⟩
  refine snd_test (te := tIsN ta) (f := fIsN false fa) (fun Φ G H σ E Q S hp => ?_) Φ G H σ E Q S hp
  refine sa.go S hp fun a E1 G1 H1 x _ e1 S1 r1 hp => ?_
  show Q (.bl (decide (x = .non))) H1
  rw [r1.non]
  exact hp G1 H1 _ (Ex.refl G1) S1 (.bl _)
theorem jt_notN {j pos'} (ha : JO X W a fa) : JT X W (.Compare a [.IsNot] [.Constant .none j pos'] pos) (fTest (fIsN true fa)) := by
  obtain ⟨ta, pa, sa⟩ := ha
  refine ⟨_, pt_cmp (pc_notN pa), fun Φ G H σ E Q S hp => ?_⟩
  refine snd_test (te := tNotN ta) (f := fIsN true fa) (fun Φ G H σ E Q S hp => ?_) Φ G H σ E Q S hp
  refine sa.go S hp fun a E1 G1 H1 x _ e1 S1 r1 hp => ?_
  show Q (.bl (!decide (x = .non))) H1
  rw [r1.non]
  exact hp G1 H1 _ (Ex.refl G1) S1 (.bl _)

/-! ### truth, and, or, not, if -/
def truD : D → Option Bool
  | .non => some false
  | .bl b => some b
  | .int i => some (i != 0)
  | .str x => if x.length ≤ 16777216 then some ((x.length : Int) != 0) else none
  | .lst l => some (!l.isEmpty)
  | .rol l => some (!l.isEmpty)
  | .tup l => some (!l.isEmpty)
  | .ins _ _ _ => none
theorem RpA.emp {K : PySem.W.Frag} {G : Hp} {vs : List V} {ds : List D} (h : RpA K G vs ds) : vs.isEmpty = ds.isEmpty := by cases h <;> rfl
theorem Sh.tru {K : PySem.W.Frag} {G H : Hp} {v : V} {d : D} {k : Bool} (h : Sh K G H v d) (e : Ex G H) (hk : truD d = some k) : TruV K v H k := by
  cases d with
  | lst l => obtain ⟨p, vs, rfl, h1, h2⟩ := h; cases hk; exact .inl ⟨vs, SqL.of h1, by rw [h2.emp]⟩
  | non => cases h; cases hk; rfl
  | bl b => cases h; cases hk; rfl
  | int b => cases h; cases hk; rfl
  | str x => cases h; obtain ⟨c, rfl⟩ := if_some hk; exact ⟨sz c, rfl⟩
  | rol l => cases h with | rol h1 h2 => cases hk; exact .inl ⟨_, e.sl h1, by rw [h2.emp]⟩
  | tup l => cases h with | tup h1 h2 => cases hk; exact .inr (.inl ⟨_, e.st h1, by rw [h2.emp]⟩)
  | ins _ _ _ => cases hk
def fTru (f : Env → R D) : Env → R Bool := fun E => (f E).bind fun d E => match truD d with | some k => .ok k E | none => .stuck
theorem jt_tru (ha : JO X W a fa) (he : ∀ whole, isTrue a X.env whole = (do let v ← whole; standAt a.pos; holding [v] (truthy v)) := by intro _; rfl) : JT X W a (fTru fa) := by
  obtain ⟨ta, pa, sa⟩ := ha
  refine ⟨_, pt_truth pa he, fun Φ G H σ E Q S hp => ?_⟩
  refine sa.go S hp fun a E1 G1 H1 x _ e1 S1 r1 hp => ?_
  cases e : truD a with
  | none => rw [e] at hp; exact hp.elim
  | some k => rw [e] at hp; exact ⟨k, r1.tru S1.gh e, hp G1 H1 k (Ex.refl G1) S1 rfl⟩
def fAnd (f g : Env → R Bool) : Env → R Bool := fun E => (f E).bind fun a E => if a = true then g E else .ok false E
def fOr (f g : Env → R Bool) : Env → R Bool := fun E => (f E).bind fun a E => if a = true then .ok true E else g E
def fNot (f : Env → R Bool) : Env → R Bool := fun E => (f E).bind fun a E => .ok (!a) E
variable {f g : Env → R Bool}
theorem JW.t (h : JW X W e f) : JT X W e f := by obtain ⟨te, h1, h2⟩ := h; exact ⟨te, h1.pt, h2⟩
theorem jw_and1 (h : JT X W a f) : JW X W (.BoolOp .And [a] pos) f := by obtain ⟨te, h1, h2⟩ := h; exact ⟨te, pw_and1 h1, h2⟩
theorem jw_or1 (h : JT X W a f) : JW X W (.BoolOp .Or [a] pos) f := by obtain ⟨te, h1, h2⟩ := h; exact ⟨te, pw_or1 h1, h2⟩
theorem jw_and {rest : List Expr} (h : JT X W a f) (h' : JW X W (.BoolOp .And (b :: rest) pos) g) : JW X W (.BoolOp .And (a :: b :: rest) pos) (fAnd f g) := by
  obtain ⟨te, h1, h2⟩ := h
  obtain ⟨tu, h3, h4⟩ := h'
  refine ⟨_, pw_and h1 h3, fun Φ G H σ E Q S hp => ?_⟩
  refine h2.go S hp fun a E1 G1 H1 x _ e1 S1 r1 hp => ?_
  subst r1
  cases a with
  | true => exact iteT (h4 Φ G1 H1 σ E1 Q S1 hp)
  | false => exact iteF (hp G1 H1 _ (Ex.refl G1) S1 rfl)
theorem jw_or {rest : List Expr} (h : JT X W a f) (h' : JW X W (.BoolOp .Or (b :: rest) pos) g) : JW X W (.BoolOp .Or (a :: b :: rest) pos) (fOr f g) := by
  obtain ⟨te, h1, h2⟩ := h
  obtain ⟨tu, h3, h4⟩ := h'
  refine ⟨_, pw_or h1 h3, fun Φ G H σ E Q S hp => ?_⟩
  refine h2.go S hp fun a E1 G1 H1 x _ e1 S1 r1 hp => ?_
  subst r1
  cases a with
  | false => exact iteF (h4 Φ G1 H1 σ E1 Q S1 hp)
  | true => exact iteT (hp G1 H1 _ (Ex.refl G1) S1 rfl)
theorem jt_not (h : JT X W a f) : JT X W (.UnaryOp .Not a pos) (fNot f) := by
  obtain ⟨te, h1, h2⟩ := h
  refine ⟨_, pt_not h1, fun Φ G H σ E Q S hp => ?_⟩
  refine h2.go S hp fun a E1 G1 H1 x _ e1 S1 r1 hp => ?_
  subst r1
  exact hp G1 H1 _ (Ex.refl G1) S1 rfl
/-- .. as values -/
def fAndV (f g : Env → R D) : Env → R D := fun E => (f E).bind fun a E => match a with | .bl true => g E | .bl false => .ok (.bl false) E | _ => .stuck
def fOrV (f g : Env → R D) : Env → R D := fun E => (f E).bind fun a E => match a with | .bl false => g E | .bl true => .ok (.bl true) E | _ => .stuck
def gNot : D → Option D
  | .bl b => some (.bl (!b))
  | _ => none
theorem j_one {op} (h : JE X W a fa) : JE X W (.BoolOp op [a] pos) fa := by obtain ⟨te, h1, h2⟩ := h; exact ⟨te, pe_one h1, h2⟩
theorem j_and {rest : List Expr} (h : JE X W a fa) (h' : JE X W (.BoolOp .And (b :: rest) pos) fb) : JE X W (.BoolOp .And (a :: b :: rest) pos) (fAndV fa fb) := by
  obtain ⟨te, h1, h2⟩ := h
  obtain ⟨tu, h3, h4⟩ := h'
  refine ⟨_, pe_and h1 h3, fun Φ G H σ E Q S hp => ?_⟩
  refine h2.go S hp fun a E1 G1 H1 x _ e1 S1 r1 hp => ?_
  cases a with
  | bl k =>
    cases r1
    refine ⟨k, rfl, ?_⟩
    cases k with
    | true => exact iteT (h4 Φ G1 H1 σ E1 Q S1 hp)
    | false => exact iteF (hp G1 H1 _ (Ex.refl G1) S1 (.bl _))
  | _ => exact hp.elim
theorem j_or {rest : List Expr} (h : JE X W a fa) (h' : JE X W (.BoolOp .Or (b :: rest) pos) fb) : JE X W (.BoolOp .Or (a :: b :: rest) pos) (fOrV fa fb) := by
  obtain ⟨te, h1, h2⟩ := h
  obtain ⟨tu, h3, h4⟩ := h'
  refine ⟨_, pe_or h1 h3, fun Φ G H σ E Q S hp => ?_⟩
  refine h2.go S hp fun a E1 G1 H1 x _ e1 S1 r1 hp => ?_
  cases a with
  | bl k =>
    cases r1
    refine ⟨k, rfl, ?_⟩
    cases k with
    | false => exact iteF (h4 Φ G1 H1 σ E1 Q S1 hp)
    | true => exact iteT (hp G1 H1 _ (Ex.refl G1) S1 (.bl _))
  | _ => exact hp.elim
theorem j_not (ha : JE X W a fa) : JE X W (.UnaryOp .Not a pos) (fun1 gNot fa) := by
  obtain ⟨ta, pa, sa⟩ := ha
  refine ⟨_, pe_not pa, fun Φ G H σ E Q S hp => ?_⟩
  refine sa.go S hp fun a E1 G1 H1 x _ e1 S1 r1 hp => ?_
  obtain ⟨d, hd, hq⟩ := hp.opt
  cases a with
  | bl i => cases hd; cases r1; exact ⟨i, rfl, hq G1 H1 _ (Ex.refl G1) S1 (.bl _)⟩
  | _ => cases hd
def fIf (t : Env → R Bool) (fa fb : Env → R D) : Env → R D := fun E => (t E).bind fun k E => if k = true then fa E else fb E
theorem j_if (ht : JT X W c f) (ha : JE X W a fa) (hb : JE X W b fb) : JE X W (.IfExp c a b pos) (fIf f fa fb) := by
  obtain ⟨tc, pc, sc⟩ := ht
  obtain ⟨ta, pa, sa⟩ := ha
  obtain ⟨tb, pb, sb⟩ := hb
  refine ⟨_, pe_ifExp pc pa pb, fun Φ G H σ E Q S hp => ?_⟩
  refine sc.go S hp fun k E1 G1 H1 x _ e1 S1 r1 hp => ?_
  subst r1
  cases k with
  | true => exact iteT (sa Φ G1 H1 σ E1 Q S1 hp)
  | false => exact iteF (sb Φ G1 H1 σ E1 Q S1 hp)

/-! ### arguments, displays -/
def fNil : Env → R (List D) := fun E => .ok [] E
def fCons (fa : Env → R D) (fr : Env → R (List D)) : Env → R (List D) := fun E => (fa E).bind fun a E => (fr E).bind fun r E => .ok (a :: r) E
variable {fr : Env → R (List D)}
theorem ja_nil : JA X W [] fNil := ⟨_, pa_nil, fun Φ G H σ E Q S hp => hp G H [] (Ex.refl G) S .nil⟩
theorem ja_cons (ha : JE X W e fa) (hr : JA X W es fr) (hs : starEach (e :: es) X.env = (false, eval e X.env) :: starEach es X.env := by rfl) : JA X W (e :: es) (fCons fa fr) := by
  obtain ⟨ta, pa, sa⟩ := ha
  obtain ⟨tr, pr, sr⟩ := hr
  refine ⟨_, pa_cons pa pr hs, fun Φ G H σ E Q S hp => ?_⟩
  refine sa.go S hp fun a E1 G1 H1 x _ e1 S1 r1 hp => ?_
  refine sr.go S1 hp fun r E2 G2 H2 xs _ e2 S2 r2 hp => ?_
  exact hp G2 H2 _ (Ex.refl G2) S2 (.cons (Rp.mono e2 _ r1) r2)
def fTup (fr : Env → R (List D)) : Env → R D := fun E => (fr E).bind fun l E => if l.length ≤ 16777216 then .ok (.tup l) E else .stuck
def fLst (fr : Env → R (List D)) : Env → R (List D) := fun E => (fr E).bind fun l E => if l.length ≤ 16777216 then .ok l E else .stuck
theorem j_tup {x1} (h : JA X W es fr) : JE X W (.Tuple es x1 pos) (fTup fr) := by
  obtain ⟨tr, pr, sr⟩ := h
  refine ⟨_, pe_tup pr, fun Φ G H σ E Q S hp => ?_⟩
  refine sr.go S hp fun l E1 G1 H1 xs _ e1 S1 r1 hp => ?_
  by_cases c : l.length ≤ 16777216
  · rw [if_pos c] at hp
    refine ⟨sz (by rw [r1.length]; exact c), fun p hn => ?_⟩
    have g := S1.gh.back hn
    exact hp _ _ _ (Ex.new g) (S1.new hn) (.tup (SqT.of upd_same) (r1.mono (Ex.new g)))
  · rw [if_neg c] at hp; exact hp.elim
theorem Sat.newH {K : PySem.W.Frag} {Φ : Fr} {G H : Hp} {σ : St} {E : Env} (S : Sat K Φ G H σ E) {p : Addr} {o : HO} (h : H p = none) : Sat K Φ G (upd H p o) σ E := by
  refine ⟨S.len, fun i s hs => ?_, S.gh.trans (Ex.new h), S.fh.trans (Ex.new h), S.fg, S.ow, S.di⟩
  obtain ⟨x, h1, h2⟩ := S.sl i s hs
  refine ⟨x, h1, h2.mono (Ex.refl G) fun q b l e1 e2 => ?_⟩
  subst e1 e2
  refine upd_ne fun z => ?_
  subst z
  exact S.notOwn h i b l hs h1
/-- a new list, handed out as one's own -/
theorem relL.new {K : PySem.W.Frag} {Φ : Fr} {G H : Hp} {σ : St} {E : Env} {p : Addr} {vs : List V} {l : List D} (S : Sat K Φ G H σ E) (h : H p = none) (r : RpA K G vs l) : relL K Φ σ G (upd H p (.lst vs)) E l (.ref p) :=
  ⟨p, vs, rfl, upd_same, r, S.gh.back h, S.fh.back h, S.notOwn h⟩
theorem jl_lst (h : JA X W es fr) : JL X W (.List es pos) (fLst fr) := by
  obtain ⟨tr, pr, sr⟩ := h
  refine ⟨_, pe_lst pr, fun Φ G H σ E Q S hp => ?_⟩
  refine sr.go S hp fun l E1 G1 H1 xs _ e1 S1 r1 hp => ?_
  by_cases c : l.length ≤ 16777216
  · rw [if_pos c] at hp
    refine ⟨sz (by rw [r1.length]; exact c), fun p hn => ?_⟩
    exact hp _ _ _ (Ex.refl G1) (S1.newH hn) (relL.new S1 hn r1)
  · rw [if_neg c] at hp; exact hp.elim
/-- one's own list is given free -/
theorem Sat.free {K : PySem.W.Frag} {Φ : Fr} {G H : Hp} {σ : St} {E : Env} (S : Sat K Φ G H σ E) {p : Addr} {vs : List V} (hp : H p = some (.lst vs)) (g : G p = none) (f : Φ.F p = none) (n : NotOwn σ E p) : Sat K Φ (upd G p (.lst vs)) H σ E := by
  refine ⟨S.len, fun i s hs => ?_, fun a u h => ?_, S.fh, fun a ha => ?_, fun i b l q h1 h2 => ?_, S.di⟩
  · obtain ⟨x, h1, h2⟩ := S.sl i s hs
    exact ⟨x, h1, h2.mono (Ex.new g) fun _ _ _ _ _ => rfl⟩
  · by_cases ha : a = p
    · subst ha; rw [upd_same] at h; rw [← h]; exact hp
    · rw [upd_ne ha] at h; exact S.gh a u h
  · have na : a ≠ p := fun z => by subst z; exact ha f
    rw [upd_ne na]
    exact S.fg a ha
  · have nq : q ≠ p := fun z => by subst z; exact n i b l h1 h2
    rw [upd_ne nq]
    exact S.ow i b l q h1 h2
def fPub (f : Env → R (List D)) : Env → R D := fun E => (f E).bind fun l E => .ok (.lst l) E
theorem JL.toE (h : JL X W e fr) : JE X W e (fPub fr) := by
  obtain ⟨tr, pr, sr⟩ := h
  refine ⟨_, pr, fun Φ G H σ E Q S hp => ?_⟩
  refine sr.go S hp fun l E1 G1 H1 v _ e1 S1 r1 hp => ?_
  obtain ⟨p, vs, rfl, h1, h2, h3, h4, h5⟩ := r1
  exact hp _ _ _ (Ex.new h3) (S1.free h1 h3 h4 h5) (.lst upd_same (h2.mono (Ex.new h3)))
end
end J

namespace J
open PySem PySem.Spec PyProof.Rows L2

/-! ### calls of built-ins -/
def C1S (K : PySem.W.Frag) (r : List V → Hp → VK → Prop) (g : D → Option D) : Prop :=
  ∀ Φ G H σ E x a d Q, Sat K Φ G H σ E → Sh K G H x a → g a = some d → (∀ G' H' v, Ex G G' → Ex H H' → Sat K Φ G' H' σ E → Rp K G' v d → Q v H') → r [x] H Q
/-- .. a new list, one's own -/
def C1L (K : PySem.W.Frag) (r : List V → Hp → VK → Prop) (g : D → Option (List D)) : Prop :=
  ∀ Φ G H σ E x a d Q, Sat K Φ G H σ E → Sh K G H x a → g a = some d → (∀ G' H' v, Ex G G' → Ex H H' → Sat K Φ G' H' σ E → relL K Φ σ G' H' E d v → Q v H') → r [x] H Q
def C2S (K : PySem.W.Frag) (r : List V → Hp → VK → Prop) (g : D → D → Option D) : Prop :=
  ∀ Φ G H σ E x y a b d Q, Sat K Φ G H σ E → Rp K G x a → Sh K G H y b → g a b = some d → (∀ G' H' v, Ex G G' → Ex H H' → Sat K Φ G' H' σ E → Rp K G' v d → Q v H') → r [x, y] H Q
section
variable {X : Cx} {W : WJ} {a b c e o : Expr} {es : List Expr} {p pos : Pos} {fa fb fc : Env → R D} {x : Str} {id T : String} {r : List V → Hp → VK → Prop}
theorem snd_c1 {g : D → Option D} {ta : TE} (hs : C1S X.K r g) (sa : Snd X.K W (relO X.K) ta fa) : Snd X.K W (relE X.K) (tCB r (tCons ta tNil)) (fun1 g fa) := by
  intro Φ G H σ E Q S hp
  refine sa.go S hp fun a E1 G1 H1 x _ e1 S1 r1 hp => ?_
  obtain ⟨d, hd, hq⟩ := hp.opt
  exact hs Φ G1 H1 σ E1 x a d Q S1 r1 hd fun G' H' v e _ S' r => hq G' H' v e S' r
theorem snd_c2 {g : D → D → Option D} {ta tb : TE} (hs : C2S X.K r g) (sa : Snd X.K W (relE X.K) ta fa) (sb : Snd X.K W (relO X.K) tb fb) : Snd X.K W (relE X.K) (tCB r (tCons ta (tCons tb tNil))) (fop g fa fb) := by
  intro Φ G H σ E Q S hp
  refine sa.go S hp fun a E1 G1 H1 x _ e1 S1 r1 hp => ?_
  refine sb.go S1 hp fun b E2 G2 H2 y _ e2 S2 r2 hp => ?_
  obtain ⟨d, hd, hq⟩ := hp.opt
  exact hs Φ G2 H2 σ E2 x y a b d Q S2 (Rp.mono e2 _ r1) r2 hd fun G' H' v e _ S' r => hq G' H' v e S' r
def fun1L (g : D → Option (List D)) (fa : Env → R D) : Env → R (List D) := fun E => (fa E).bind fun a E => match g a with | some d => .ok d E | none => .stuck
theorem snd_c1L {g : D → Option (List D)} {ta : TE} (hs : C1L X.K r g) (sa : Snd X.K W (relO X.K) ta fa) : Snd X.K W (relL X.K) (tCB r (tCons ta tNil)) (fun1L g fa) := by
  intro Φ G H σ E Q S hp
  refine sa.go S hp fun a E1 G1 H1 x _ e1 S1 r1 hp => ?_
  cases e : g a with
  | none => rw [e] at hp; exact hp.elim
  | some d =>
    rw [e] at hp
    exact hs Φ G1 H1 σ E1 x a d Q S1 r1 e fun G' H' v e' _ S' r => hp G' H' v e' S' r
theorem j_b1 {g : D → Option D} (hc : CallR X (.builtin id) r) (hs : C1S X.K r g) (hm : X.mg x = none) (hv : bootBuiltins x = some (.builtin id)) (ha : JO X W a fa) (hg : Gl X x := by rfl) (hn : x ≠ "__name__" := by decide) (hdb : (x == ("__debug__" : Str)) = false := by decide)
    (he : starEach [a] X.env = (false, eval a X.env) :: starEach [] X.env := by rfl) (hpl : (backTo pos (starEach [] X.env)).any (·.1) = false := by rfl) : JE X W (.Call (.Name x p) [a] [] pos) (fun1 g fa) := by
  obtain ⟨ta, pa, sa⟩ := ha
  exact ⟨_, pe_callB hc hg hm hv (pa_cons pa pa_nil he) hn hdb he hpl, snd_c1 hs sa⟩
theorem j_t1 {g : D → Option D} (hc : CallR X (.type T) r) (hs : C1S X.K r g) (hm : X.mg x = none) (hv : bootBuiltins x = some (.type T)) (ha : JO X W a fa) (hg : Gl X x := by rfl) (hn : x ≠ "__name__" := by decide) (hdb : (x == ("__debug__" : Str)) = false := by decide)
    (he : starEach [a] X.env = (false, eval a X.env) :: starEach [] X.env := by rfl) (hpl : (backTo pos (starEach [] X.env)).any (·.1) = false := by rfl) : JE X W (.Call (.Name x p) [a] [] pos) (fun1 g fa) := by
  obtain ⟨ta, pa, sa⟩ := ha
  exact ⟨_, pe_callTy hc hg hm hv (pa_cons pa pa_nil he) hn hdb he hpl, snd_c1 hs sa⟩
theorem jl_t1 {g : D → Option (List D)} (hc : CallR X (.type T) r) (hs : C1L X.K r g) (hm : X.mg x = none) (hv : bootBuiltins x = some (.type T)) (ha : JO X W a fa) (hg : Gl X x := by rfl) (hn : x ≠ "__name__" := by decide) (hdb : (x == ("__debug__" : Str)) = false := by decide)
    (he : starEach [a] X.env = (false, eval a X.env) :: starEach [] X.env := by rfl) (hpl : (backTo pos (starEach [] X.env)).any (·.1) = false := by rfl) : JL X W (.Call (.Name x p) [a] [] pos) (fun1L g fa) := by
  obtain ⟨ta, pa, sa⟩ := ha
  exact ⟨_, pe_callTy hc hg hm hv (pa_cons pa pa_nil he) hn hdb he hpl, snd_c1L hs sa⟩
theorem jl_b1 {g : D → Option (List D)} (hc : CallR X (.builtin id) r) (hs : C1L X.K r g) (hm : X.mg x = none) (hv : bootBuiltins x = some (.builtin id)) (ha : JO X W a fa) (hg : Gl X x := by rfl) (hn : x ≠ "__name__" := by decide) (hdb : (x == ("__debug__" : Str)) = false := by decide)
    (he : starEach [a] X.env = (false, eval a X.env) :: starEach [] X.env := by rfl) (hpl : (backTo pos (starEach [] X.env)).any (·.1) = false := by rfl) : JL X W (.Call (.Name x p) [a] [] pos) (fun1L g fa) := by
  obtain ⟨ta, pa, sa⟩ := ha
  exact ⟨_, pe_callB hc hg hm hv (pa_cons pa pa_nil he) hn hdb he hpl, snd_c1L hs sa⟩
theorem j_b2 {g : D → D → Option D} (hc : CallR X (.builtin id) r) (hs : C2S X.K r g) (hm : X.mg x = none) (hv : bootBuiltins x = some (.builtin id)) (ha : JE X W a fa) (hb : JO X W b fb) (hg : Gl X x := by rfl) (hn : x ≠ "__name__" := by decide) (hdb : (x == ("__debug__" : Str)) = false := by decide)
    (he : starEach [a, b] X.env = (false, eval a X.env) :: starEach [b] X.env := by rfl) (he2 : starEach [b] X.env = (false, eval b X.env) :: starEach [] X.env := by rfl) (hpl : (backTo pos (starEach [b] X.env)).any (·.1) = false := by rfl) : JE X W (.Call (.Name x p) [a, b] [] pos) (fop g fa fb) := by
  obtain ⟨ta, pa, sa⟩ := ha
  obtain ⟨tb, pb, sb⟩ := hb
  exact ⟨_, pe_callB hc hg hm hv (pa_cons pa (pa_cons pb pa_nil he2) he) hn hdb he hpl, snd_c2 hs sa sb⟩
end
section
variable {K : PySem.W.Frag}
abbrev rLen_ (K : PySem.W.Frag) : List V → Hp → VK → Prop := fun xs H Q => ∃ x n, xs = [x] ∧ LenV K x H n ∧ Q (.int n) H
def gLen : D → Option D
  | .str x => if x.length ≤ 16777216 then some (.int (x.length : Nat)) else none
  | .lst l => some (.int (l.length : Nat))
  | .rol l => some (.int (l.length : Nat))
  | .tup l => some (.int (l.length : Nat))
  | _ => none
theorem c1_len : C1S K (rLen_ K) gLen := by
  intro Φ G H σ E x a d Q S ha hd k
  cases a with
  | str z => cases ha; obtain ⟨c, rfl⟩ := if_some hd; exact ⟨_, _, rfl, ⟨sz c, rfl⟩, k G H _ (Ex.refl G) (Ex.refl H) S (.int _)⟩
  | lst l => obtain ⟨p, vs, rfl, h1, h2⟩ := ha; cases hd; exact ⟨_, l.length, rfl, .inl ⟨vs, SqL.of h1, h2.length.symm⟩, k G H _ (Ex.refl G) (Ex.refl H) S (.int _)⟩
  | rol l => cases ha with | rol h1 h2 => cases hd; exact ⟨_, l.length, rfl, .inl ⟨_, S.gh.sl h1, h2.length.symm⟩, k G H _ (Ex.refl G) (Ex.refl H) S (.int _)⟩
  | tup l => cases ha with | tup h1 h2 => cases hd; exact ⟨_, l.length, rfl, .inr ⟨_, S.gh.st h1, h2.length.symm⟩, k G H _ (Ex.refl G) (Ex.refl H) S (.int _)⟩
  | _ => cases hd
def gAbs : D → Option D
  | .int i => some (.int (if i < 0 then -i else i))
  | _ => none
theorem c1_abs : C1S K (fun xs H Q => ∃ i, xs = [.int i] ∧ Q (.int (if i < 0 then -i else i)) H) gAbs := by
  intro Φ G H σ E x a d Q S ha hd k
  cases a with
  | int i => cases ha; cases hd; exact ⟨i, rfl, k G H _ (Ex.refl G) (Ex.refl H) S (.int _)⟩
  | _ => cases hd
def gIntF : D → Option D
  | .int i => some (.int i)
  | .bl b => some (.int (if b then 1 else 0))
  | _ => none
theorem c1_int : C1S K (fun xs H Q => (∃ i, xs = [.int i] ∧ Q (.int i) H) ∨ ∃ k, xs = [.bl k] ∧ Q (.int (if k then 1 else 0)) H) gIntF := by
  intro Φ G H σ E x a d Q S ha hd k
  cases a with
  | int i => cases ha; cases hd; exact .inl ⟨i, rfl, k G H _ (Ex.refl G) (Ex.refl H) S (.int _)⟩
  | bl i => cases ha; cases hd; exact .inr ⟨i, rfl, k G H _ (Ex.refl G) (Ex.refl H) S (.int _)⟩
  | _ => cases hd
def gBoolF : D → Option D
  | .int i => some (.bl (i != 0))
  | .bl b => some (.bl b)
  | _ => none
theorem c1_bool : C1S K (fun xs H Q => (∃ i, xs = [.int i] ∧ Q (.bl (i != 0)) H) ∨ ∃ k, xs = [.bl k] ∧ Q (.bl k) H) gBoolF := by
  intro Φ G H σ E x a d Q S ha hd k
  cases a with
  | int i => cases ha; cases hd; exact .inl ⟨i, rfl, k G H _ (Ex.refl G) (Ex.refl H) S (.bl _)⟩
  | bl i => cases ha; cases hd; exact .inr ⟨i, rfl, k G H _ (Ex.refl G) (Ex.refl H) S (.bl _)⟩
  | _ => cases hd
def gStrF : D → Option D
  | .int i => if i.natAbs.log2 < 1920 then some (.str (toString i)) else none
  | _ => none
theorem c1_str : C1S K (fun xs H Q => ∃ i, xs = [.int i] ∧ i.natAbs.log2 < 1920 ∧ Q (.str (toString i)) H) gStrF := by
  intro Φ G H σ E x a d Q S ha hd k
  cases a with
  | int i => cases ha; obtain ⟨c, rfl⟩ := if_some hd; exact ⟨i, rfl, c, k G H _ (Ex.refl G) (Ex.refl H) S (.str _)⟩
  | _ => cases hd
/-- a list of ints, told as such -/
def intsD : List D → Option (List Int)
  | [] => some []
  | .int i :: l => (intsD l).map (i :: ·)
  | _ :: _ => none
theorem intsD_map (ns : List Int) : intsD (ns.map D.int) = some ns := by
  induction ns with
  | nil => rfl
  | cons n ns ih => simp [intsD, ih]
theorem intsD_eq : ∀ {l : List D} {ns : List Int}, intsD l = some ns → l = ns.map D.int
  | [], ns, h => by cases h; rfl
  | .int i :: l, ns, h => by
    obtain ⟨ms, h1, rfl⟩ := Option.map_eq_some_iff.mp (show (intsD l).map (i :: ·) = some ns from h)
    rw [intsD_eq h1]; rfl
  | .non :: l, ns, h => by cases h
  | .bl _ :: l, ns, h => by cases h
  | .str _ :: l, ns, h => by cases h
  | .tup _ :: l, ns, h => by cases h
  | .lst _ :: l, ns, h => by cases h
  | .rol _ :: l, ns, h => by cases h
  | .ins _ _ _ :: l, ns, h => by cases h
def listD : D → Option (List D)
  | .lst l => some l
  | .rol l => some l
  | _ => none
theorem Sh.listV {G H : Hp} {v : V} {d : D} {l : List D} (h : Sh K G H v d) (e : Ex G H) (hl : listD d = some l) : ∃ p vs, v = .ref p ∧ SqL K H p vs ∧ RpA K G vs l := by
  cases d with
  | lst l' => cases hl; obtain ⟨p, vs, h1, h2, h3⟩ := h; exact ⟨p, vs, h1, SqL.of h2, h3⟩
  | rol l' => cases hl; cases h with | rol h1 h2 => exact ⟨_, _, rfl, e.sl h1, h2⟩
  | _ => cases hl
def gSum : D → Option D := fun d => (listD d).bind fun l => (intsD l).map fun ns => .int ns.sum
theorem c1_sum : C1S K (rSum K) gSum := by
  intro Φ G H σ E x a d Q S ha hd k
  obtain ⟨l, h1, h2⟩ := Option.bind_eq_some_iff.mp hd
  obtain ⟨ns, h3, rfl⟩ := Option.map_eq_some_iff.mp h2
  obtain ⟨p, vs, rfl, h4, h5⟩ := ha.listV S.gh h1
  rw [intsD_eq h3] at h5
  have := h5.of_ints
  subst this
  exact ⟨p, ns, rfl, h4, k G H _ (Ex.refl G) (Ex.refl H) S (.int _)⟩
def maxI : List Int → Int
  | [] => 0
  | x :: xs => xs.foldl (fun a b => if a < b then b else a) x
def minI : List Int → Int
  | [] => 0
  | x :: xs => xs.foldl (fun a b => if b < a then b else a) x
theorem foldmax (x : Int) (xs : List Int) : xs.foldl (fun a b => if a < b then b else a) x ∈ x :: xs ∧ ∀ y ∈ x :: xs, y ≤ xs.foldl (fun a b => if a < b then b else a) x := by
  induction xs generalizing x with
  | nil => simp
  | cons z zs ih =>
    rw [List.foldl_cons]
    by_cases c : x < z
    · rw [if_pos c]
      obtain ⟨h1, h2⟩ := ih z
      refine ⟨List.mem_cons_of_mem _ h1, fun y hy => ?_⟩
      rcases List.mem_cons.mp hy with rfl | hy
      · have := h2 z (List.mem_cons_self ..); omega
      · exact h2 y hy
    · rw [if_neg c]
      obtain ⟨h1, h2⟩ := ih x
      refine ⟨?_, fun y hy => ?_⟩
      · rcases List.mem_cons.mp h1 with h | h
        · rw [h]; exact List.mem_cons_self ..
        · exact List.mem_cons_of_mem _ (List.mem_cons_of_mem _ h)
      · rcases List.mem_cons.mp hy with rfl | hy
        · exact h2 y (List.mem_cons_self ..)
        · rcases List.mem_cons.mp hy with rfl | hy
          · have := h2 x (List.mem_cons_self ..); omega
          · exact h2 y (List.mem_cons_of_mem _ hy)
theorem foldmin (x : Int) (xs : List Int) : xs.foldl (fun a b => if b < a then b else a) x ∈ x :: xs ∧ ∀ y ∈ x :: xs, xs.foldl (fun a b => if b < a then b else a) x ≤ y := by
  induction xs generalizing x with
  | nil => simp
  | cons z zs ih =>
    rw [List.foldl_cons]
    by_cases c : z < x
    · rw [if_pos c]
      obtain ⟨h1, h2⟩ := ih z
      refine ⟨List.mem_cons_of_mem _ h1, fun y hy => ?_⟩
      rcases List.mem_cons.mp hy with rfl | hy
      · have := h2 z (List.mem_cons_self ..); omega
      · exact h2 y hy
    · rw [if_neg c]
      obtain ⟨h1, h2⟩ := ih x
      refine ⟨?_, fun y hy => ?_⟩
      · rcases List.mem_cons.mp h1 with h | h
        · rw [h]; exact List.mem_cons_self ..
        · exact List.mem_cons_of_mem _ (List.mem_cons_of_mem _ h)
      · rcases List.mem_cons.mp hy with rfl | hy
        · exact h2 y (List.mem_cons_self ..)
        · rcases List.mem_cons.mp hy with rfl | hy
          · have := h2 x (List.mem_cons_self ..); omega
          · exact h2 y (List.mem_cons_of_mem _ hy)
theorem maxI_spec (x : Int) (xs : List Int) : maxI (x :: xs) ∈ x :: xs ∧ ∀ y ∈ x :: xs, y ≤ maxI (x :: xs) := foldmax x xs
theorem minI_spec (x : Int) (xs : List Int) : minI (x :: xs) ∈ x :: xs ∧ ∀ y ∈ x :: xs, minI (x :: xs) ≤ y := foldmin x xs
def gMax1 : D → Option D := fun d => (listD d).bind fun l => (intsD l).bind fun ns => if ns.isEmpty then none else some (.int (maxI ns))
def gMin1 : D → Option D := fun d => (listD d).bind fun l => (intsD l).bind fun ns => if ns.isEmpty then none else some (.int (minI ns))
theorem c1_max : C1S K (rMax K) gMax1 := by
  intro Φ G H σ E x a d Q S ha hd k
  obtain ⟨l, h1, h2⟩ := Option.bind_eq_some_iff.mp hd
  obtain ⟨ns, h3, h6⟩ := Option.bind_eq_some_iff.mp h2
  obtain ⟨p, vs, rfl, h4, h5⟩ := ha.listV S.gh h1
  rw [intsD_eq h3] at h5
  have := h5.of_ints
  subst this
  cases ns with
  | nil => cases h6
  | cons n ns =>
    cases h6
    refine ⟨p, n :: ns, rfl, h4, Nat.succ_pos _, fun m hm hle => ?_⟩
    obtain ⟨s1, s2⟩ := maxI_spec n ns
    have em : m = maxI (n :: ns) := Int.le_antisymm (s2 m hm) (hle _ s1)
    rw [em]
    exact k G H _ (Ex.refl G) (Ex.refl H) S (.int _)
theorem c1_min : C1S K (rMin K) gMin1 := by
  intro Φ G H σ E x a d Q S ha hd k
  obtain ⟨l, h1, h2⟩ := Option.bind_eq_some_iff.mp hd
  obtain ⟨ns, h3, h6⟩ := Option.bind_eq_some_iff.mp h2
  obtain ⟨p, vs, rfl, h4, h5⟩ := ha.listV S.gh h1
  rw [intsD_eq h3] at h5
  have := h5.of_ints
  subst this
  cases ns with
  | nil => cases h6
  | cons n ns =>
    cases h6
    refine ⟨p, n :: ns, rfl, h4, Nat.succ_pos _, fun m hm hle => ?_⟩
    obtain ⟨s1, s2⟩ := minI_spec n ns
    have em : m = minI (n :: ns) := Int.le_antisymm (hle _ s1) (s2 m hm)
    rw [em]
    exact k G H _ (Ex.refl G) (Ex.refl H) S (.int _)
def gMax2 : D → D → Option D := g2I fun i j => some (if j > i then j else i)
def gMin2 : D → D → Option D := g2I fun i j => some (if j < i then j else i)
theorem c2_I {h : Int → Int → Int} : C2S K (fun xs H Q => ∃ i j, xs = [.int i, .int j] ∧ Q (.int (h i j)) H) (g2I fun i j => some (h i j)) := by
  intro Φ G H σ E x y a b d Q S ha hb hd k
  cases a with
  | int i =>
    cases b with
    | int j => cases ha; cases hb; cases hd; exact ⟨i, j, rfl, k G H _ (Ex.refl G) (Ex.refl H) S (.int _)⟩
    | _ => cases hd
  | _ => cases hd
theorem c1_list : C1L K (fun xs H Q => ∃ p ys, xs = [.ref p] ∧ (SqL K H p ys ∨ SqT K H p ys) ∧ ∀ l, H l = none → Q (.ref l) (upd H l (.lst ys))) itemsD := by
  intro Φ G H σ E x a d Q S ha hd k
  obtain ⟨p, vs, rfl, h4, h5⟩ := ha.items S.gh hd
  exact ⟨p, vs, rfl, h4, fun l hl => k G _ _ (Ex.refl G) (Ex.new hl) (S.newH hl) (relL.new S hl h5)⟩
def gTuple : D → Option D
  | .lst l => some (.tup l)
  | .rol l => some (.tup l)
  | .tup l => some (.tup l)
  | _ => none
theorem c1_tuple : C1S K (fun xs H Q => ∃ p ys, xs = [.ref p] ∧ ((SqL K H p ys ∧ ∀ l, H l = none → Q (.ref l) (upd H l (.tup ys))) ∨ (SqT K H p ys ∧ Q (.ref p) H))) gTuple := by
  intro Φ G H σ E x a d Q S ha hd k
  cases a with
  | lst l =>
    obtain ⟨p, vs, rfl, h1, h2⟩ := ha; cases hd
    exact ⟨p, vs, rfl, .inl ⟨SqL.of h1, give_new S k fun q g => .tup (SqT.of upd_same) (h2.mono (Ex.new g))⟩⟩
  | rol l =>
    cases ha with
    | rol h1 h2 => cases hd; exact ⟨_, _, rfl, .inl ⟨S.gh.sl h1, give_new S k fun q g => .tup (SqT.of upd_same) (h2.mono (Ex.new g))⟩⟩
  | tup l =>
    cases ha with
    | tup h1 h2 => cases hd; exact ⟨_, _, rfl, .inr ⟨S.gh.st h1, k G H _ (Ex.refl G) (Ex.refl H) S (.tup h1 h2)⟩⟩
  | _ => cases hd
def tyName : D → Option String
  | .non => some "NoneType"
  | .bl _ => some "bool"
  | .int _ => some "int"
  | .str _ => some "str"
  | .lst _ => some "list"
  | .tup _ => some "tuple"
  | _ => none
/-- a tracked tuple -/
inductive TyS : String → Prop
/-- isinstance(x, T), T a built-in class -/
def gIsi (T : String) : D → Option D := fun d => (tyName d).bind fun n => (kitB n T).map D.bl
theorem Sh.tyx {G H : Hp} {v : V} {d : D} {n : String} (h : Sh K G H v d) (e : Ex G H) (hn : tyName d = some n) : TyX K H v (.type n) := by
  cases d with
  | non => cases h; cases hn; exact .base .non
  | bl b => cases h; cases hn; exact .base (.bl b)
  | int b => cases h; cases hn; exact .base (.int b)
  | str b => cases h; cases hn; exact .base (.str b)
  | lst l => obtain ⟨p, vs, rfl, h1, h2⟩ := h; cases hn; exact .base (.lst h1)
  | tup l =>
    cases hn
    cases h with
    | tup h1 h2 =>
      rcases e.st h1 with (h | ⟨o, h⟩) | ⟨o, its, m, hk, hc, _⟩
      · exact .base (.tup h)
      · exact .fTuple h
      · exact .kTuple hk hc
  | _ => cases hn
end
section
variable {X : Cx} {W : WJ} {a b c e o : Expr} {es : List Expr} {p pos : Pos} {fa fb fc : Env → R D} {x : Str} {id T : String} {r : List V → Hp → VK → Prop}
theorem j_isi {y : Str} {p2 : Pos} {T : String} (hm : X.mg "isinstance" = none) (hm2 : X.mg y = none) (hv2 : bootBuiltins y = some (.type T)) (ha : JO X W a fa) (hg : Gl X "isinstance" := by rfl) (hg2 : Gl X y := by rfl) (hn2 : y ≠ "__name__" := by decide) (hd2 : (y == ("__debug__" : Str)) = false := by decide)
    (he : starEach [a, .Name y p2] X.env = (false, eval a X.env) :: starEach [.Name y p2] X.env := by rfl) (he2 : starEach [.Name y p2] X.env = (false, eval (.Name y p2) X.env) :: starEach [] X.env := by rfl) (hpl : (backTo pos (starEach [.Name y p2] X.env)).any (·.1) = false := by rfl) :
    JE X W (.Call (.Name "isinstance" p) [a, .Name y p2] [] pos) (fun1 (gIsi T) fa) := by
  obtain ⟨ta, pa, sa⟩ := ha
  refine ⟨_, pe_callB call_isi hg hm (by decide +kernel) (pa_cons pa (pa_cons (pe_bltn (v := .ty T) hg2 hm2 hv2 rfl hn2 hd2) pa_nil he2) he) (by decide) (by decide) he hpl, fun Φ G H σ E Q S hp => ?_⟩
  refine sa.go S hp fun a E1 G1 H1 x _ e1 S1 r1 hp => ?_
  obtain ⟨d, hd, hq⟩ := hp.opt
  obtain ⟨n, h1, h2⟩ := Option.bind_eq_some_iff.mp hd
  obtain ⟨k, h3, rfl⟩ := Option.map_eq_some_iff.mp h2
  exact ⟨x, .ty T, .type n, .type T, k, rfl, .ty T, r1.tyx S1.gh h1, kit_ty h3, hq G1 H1 _ (Ex.refl G1) S1 (.bl _)⟩

/-! ### subscripts -/
def gIx : D → D → Option D := fun a b => match b with
  | .int i => (match a with
    | .lst l => atI l i
    | .rol l => atI l i
    | .tup l => atI l i
    | .str z => if z.length ≤ 16777216 then (atI z.cps.toList i).map fun c => .str ⟨#[c]⟩ else none
    | _ => none)
  | _ => none
theorem RpA.atI {K : PySem.W.Frag} {G : Hp} {vs : List V} {ds : List D} (h : RpA K G vs ds) {i : Int} {d : D} (e : L2.atI ds i = some d) : ∃ v, L2.atI vs i = some v ∧ Rp K G v d := by
  unfold L2.atI at e ⊢
  rw [h.length]
  obtain ⟨j, h1, h2⟩ := Option.bind_eq_some_iff.mp e
  obtain ⟨v, h3, h4⟩ := h.get h2
  exact ⟨v, by rw [h1]; exact h3, h4⟩
theorem opS_ix {K : PySem.W.Frag} : OpS K (rIx K) gIx := by
  intro Φ G H σ E x y a b d Q S ha hb hd k
  cases b with
  | int i =>
    cases hb
    cases a with
    | lst l =>
      obtain ⟨p, vs, rfl, h1, h2⟩ := ha
      obtain ⟨v, h3, h4⟩ := h2.atI hd
      exact .inl ⟨p, vs, i, v, rfl, rfl, SqL.of h1, h3, k G H _ (Ex.refl G) (Ex.refl H) S h4⟩
    | rol l =>
      cases ha with
      | rol h1 h2 =>
        obtain ⟨v, h3, h4⟩ := h2.atI hd
        exact .inl ⟨_, _, i, v, rfl, rfl, S.gh.sl h1, h3, k G H _ (Ex.refl G) (Ex.refl H) S h4⟩
    | tup l =>
      cases ha with
      | tup h1 h2 =>
        obtain ⟨v, h3, h4⟩ := h2.atI hd
        exact .inr (.inl ⟨_, _, i, v, rfl, rfl, S.gh.st h1, h3, k G H _ (Ex.refl G) (Ex.refl H) S h4⟩)
    | str z =>
      cases ha
      have hd' : (if z.length ≤ 16777216 then (L2.atI z.cps.toList i).map fun c => D.str ⟨#[c]⟩ else none) = some d := hd
      by_cases c : z.length ≤ 16777216
      · rw [if_pos c] at hd'
        obtain ⟨q, h1, rfl⟩ := Option.map_eq_some_iff.mp hd'
        exact .inr (.inr ⟨z, i, q, rfl, rfl, sz c, h1, k G H _ (Ex.refl G) (Ex.refl H) S (.str _)⟩)
      · rw [if_neg c] at hd'; cases hd'
    | _ => cases hd
  | _ => cases hd
theorem j_ix (ha : JE X W a fa) (hb : JO X W b fb) (hs : PlainIx b := by exact fun _ _ => rfl) : JE X W (.Subscript a b pos) (fop gIx fa fb) := by
  obtain ⟨ta, pa, sa⟩ := ha
  obtain ⟨tb, pb, sb⟩ := hb
  exact ⟨_, pe_ix ix_seq pa pb hs, snd_op opS_ix sa sb⟩
theorem j_ixB {qb : Env → Option D} (ha : JO X W a fa) (hb : JQ X b qb) (hs : PlainIx b := by exact fun _ _ => rfl) : JE X W (.Subscript a b pos) (fopB gIx fa qb) := by
  obtain ⟨ta, pa, sa⟩ := ha
  obtain ⟨tb, pb, sb⟩ := hb
  exact ⟨_, pe_ix ix_seq pa pb hs, snd_opB opS_ix sa sb⟩

/-! ### slices, the bounds quiet -/
def JPq (X : Cx) (e : Option Expr) (f : Env → Option (Option Int)) : Prop := ∃ te, PO X e te ∧ ∀ Φ G H σ E Q d, Sat X.K Φ G H σ E → f E = some d → (∀ G' H', Ex G G' → Ex H H' → Sat X.K Φ G' H' σ E → Q d H') → te σ H Q
def intP : Option D → Option (Option Int)
  | some (.int i) => some (some i)
  | _ => none
theorem jp_none : JPq X none (fun _ => some none) := ⟨_, po_none, fun Φ G H σ E Q d S hf k => by cases hf; exact k G H (Ex.refl G) (Ex.refl H) S⟩
theorem jp_some {q : Env → Option D} (h : JQ X e q) : JPq X (some e) (fun E => intP (q E)) := by
  obtain ⟨te, h1, h2⟩ := h
  refine ⟨_, po_some h1, fun Φ G H σ E Q d S hf k => ?_⟩
  have hf : intP (q E) = some d := hf
  cases e : q E with
  | none => rw [e] at hf; cases hf
  | some x =>
    rw [e] at hf
    cases x with
    | int i =>
      cases hf
      refine h2 Φ G H σ E _ _ S e fun G' H' v e1 e2 S' r => ?_
      cases r
      exact ⟨i, rfl, k G' H' e1 e2 S'⟩
    | _ => cases hf
def cutD (l : List D) (lo hi : Option Int) : List D := (l.drop (HT.sIx l.length 0 lo)).take (HT.sIx l.length l.length hi - HT.sIx l.length 0 lo)
theorem RpA.cut {K : PySem.W.Frag} {G : Hp} {vs : List V} {ds : List D} (h : RpA K G vs ds) (lo hi : Option Int) : RpA K G (cutV vs lo hi) (cutD ds lo hi) := by
  unfold cutV cutD
  rw [h.length]
  exact (h.drop _).take _
def gCut : D → Option Int → Option Int → Option D := fun d lo hi => match d with
  | .lst l => some (.lst (cutD l lo hi))
  | .rol l => some (.lst (cutD l lo hi))
  | .tup l => some (.tup (cutD l lo hi))
  | .str z => if z.length ≤ 16777216 then some (.str (cutS z lo hi)) else none
  | _ => none
def fCut (fa : Env → R D) (lo hi : Env → Option (Option Int)) : Env → R D := fun E => (fa E).bind fun a E => match (lo E).bind fun l => (hi E).bind fun h => gCut a l h with | some d => .ok d E | none => .stuck
def fCutL (fa : Env → R D) (lo hi : Env → Option (Option Int)) : Env → R (List D) := fun E => (fa E).bind fun a E => match (lo E).bind fun l => (hi E).bind fun h => (listD a).map fun xs => cutD xs l h with | some d => .ok d E | none => .stuck
abbrev rSl3 (K : PySem.W.Frag) : V → Option Int → Option Int → Hp → VK → Prop := fun x lo hi H Q => rSlL K x lo hi H Q ∨ (rSlA K x lo hi H Q ∨ rSlS x lo hi H Q)
theorem j_cut {lo hi : Option Expr} {p2 : Pos} {fl fh : Env → Option (Option Int)} (ha : JO X W e fa) (hl : JPq X lo fl) (hh : JPq X hi fh) : JE X W (.Subscript e (.Slice lo hi none p2) pos) (fCut fa fl fh) := by
  obtain ⟨ta, pa, sa⟩ := ha
  obtain ⟨tl, pl, sl⟩ := hl
  obtain ⟨th, ph, sh⟩ := hh
  refine ⟨_, pe_slice (r := rSl3 X.K) (SlR.or sl_list (SlR.or sl_tupA sl_str)) pa pl ph, fun Φ G H σ E Q S hp => ?_⟩
  refine sa.go S hp fun a E1 G1 H1 x _ e1 S1 r1 hp => ?_
  obtain ⟨d, hd, hq⟩ := hp.opt
  obtain ⟨l, h1, hd⟩ := Option.bind_eq_some_iff.mp hd
  obtain ⟨u, h2, hd⟩ := Option.bind_eq_some_iff.mp hd
  refine sl Φ G1 H1 σ E1 _ l S1 h1 fun G2 H2 e2 f2 S2 => ?_
  refine sh Φ G2 H2 σ E1 _ u S2 h2 fun G3 H3 e3 f3 S3 => ?_
  have r3 := r1.mono (e2.trans e3) (f2.trans f3)
  have k : ∀ G' H' v, Ex G3 G' → Ex H3 H' → Sat X.K Φ G' H' σ E1 → Rp X.K G' v d → Q v H' := fun G' H' v e _ S' r => hq G' H' v ((e2.trans e3).trans e) S' r
  cases a with
  | lst z =>
    obtain ⟨p, vs, rfl, h1, h2⟩ := r3
    cases hd
    exact .inl ⟨p, vs, rfl, SqL.of h1, give_new S3 k fun q g => .lst upd_same ((h2.cut l u).mono (Ex.new g))⟩
  | rol z =>
    cases r3 with
    | rol h1 h2 => cases hd; exact .inl ⟨_, _, rfl, S3.gh.sl h1, give_new S3 k fun q g => .lst upd_same ((h2.cut l u).mono (Ex.new g))⟩
  | tup z =>
    cases r3 with
    | tup h1 h2 =>
      cases hd
      refine .inr (.inl ⟨_, _, rfl, S3.gh.st h1, fun w => ?_, fun _ => give_new S3 k fun q g => .tup (SqT.of upd_same) ((h2.cut l u).mono (Ex.new g))⟩)
      refine k G3 H3 _ (Ex.refl G3) (Ex.refl H3) S3 (.tup h1 ?_)
      have e : cutD z l u = z := by
        unfold cutD
        rw [h2.length] at w
        rw [w.1, w.2, List.drop_zero, Nat.sub_zero, List.take_length]
      rw [e]; exact h2
  | str z =>
    cases r3
    obtain ⟨c, rfl⟩ := if_some (show (if z.length ≤ 16777216 then some (D.str (cutS z l u)) else none) = some d from hd)
    exact .inr (.inr ⟨z, rfl, sz c, k G3 H3 _ (Ex.refl G3) (Ex.refl H3) S3 (.str _)⟩)
  | _ => cases hd
theorem jl_cut {lo hi : Option Expr} {p2 : Pos} {fl fh : Env → Option (Option Int)} (ha : JO X W e fa) (hl : JPq X lo fl) (hh : JPq X hi fh) : JL X W (.Subscript e (.Slice lo hi none p2) pos) (fCutL fa fl fh) := by
  obtain ⟨ta, pa, sa⟩ := ha
  obtain ⟨tl, pl, sl⟩ := hl
  obtain ⟨th, ph, sh⟩ := hh
  refine ⟨_, pe_slice (r := rSlL X.K) sl_list pa pl ph, fun Φ G H σ E Q S hp => ?_⟩
  refine sa.go S hp fun a E1 G1 H1 x _ e1 S1 r1 hp => ?_
  cases hd : (fl E1).bind fun l => (fh E1).bind fun h => (listD a).map fun xs => cutD xs l h with
  | none => rw [hd] at hp; exact hp.elim
  | some d =>
    rw [hd] at hp
    obtain ⟨l, h1, hd⟩ := Option.bind_eq_some_iff.mp hd
    obtain ⟨u, h2, hd⟩ := Option.bind_eq_some_iff.mp hd
    obtain ⟨z, h3, rfl⟩ := Option.map_eq_some_iff.mp hd
    refine sl Φ G1 H1 σ E1 _ l S1 h1 fun G2 H2 e2 f2 S2 => ?_
    refine sh Φ G2 H2 σ E1 _ u S2 h2 fun G3 H3 e3 f3 S3 => ?_
    obtain ⟨p, vs, rfl, h4, h5⟩ := (r1.mono (e2.trans e3) (f2.trans f3)).listV S3.gh h3
    exact ⟨p, vs, rfl, h4, fun q hn => hp _ _ _ (e2.trans e3) (S3.newH hn) (relL.new S3 hn (h5.cut l u))⟩
/-- xs[::-1] of a list -/
def gRev : D → Option (List D) := fun d => (listD d).map List.reverse
theorem jl_rev {k : Nat} {p1 p2 p3 : Pos} (ha : JO X W e fa) : JL X W (.Subscript e (.Slice none none (some (.UnaryOp .USub (.Constant (.int 1) k p1) p2)) p3) pos) (fun1L gRev fa) := by
  obtain ⟨ta, pa, sa⟩ := ha
  refine ⟨_, pe_revL pa, fun Φ G H σ E Q S hp => ?_⟩
  refine sa.go S hp fun a E1 G1 H1 x _ e1 S1 r1 hp => ?_
  cases hd : gRev a with
  | none => rw [hd] at hp; exact hp.elim
  | some d =>
    rw [hd] at hp
    obtain ⟨z, h3, rfl⟩ := Option.map_eq_some_iff.mp hd
    obtain ⟨p, vs, rfl, h4, h5⟩ := r1.listV S1.gh h3
    exact ⟨p, vs, rfl, h4, fun q hn => hp _ _ _ (Ex.refl G1) (S1.newH hn) (relL.new S1 hn h5.reverse)⟩
/-- x.bit_length() -/
def gBits : D → Option D
  | .int i => some (.int (Builtin.Int.intBits i : Nat))
  | _ => none
theorem j_bits {apos : Pos} (ha : JE X W o fa) (hbase : attributeBase o "bit_length" X.env (eval o X.env) = eval o X.env := by rfl) (hline : (apos.endLine == pos.line) = true := by rfl) : JE X W (.Call (.Attribute o "bit_length" apos) [] [] pos) (fun1 gBits fa) := by
  obtain ⟨ta, pa, sa⟩ := ha
  refine ⟨_, pe_bits pa hbase hline, fun Φ G H σ E Q S hp => ?_⟩
  refine sa.go S hp fun a E1 G1 H1 x _ e1 S1 r1 hp => ?_
  obtain ⟨d, hd, hq⟩ := hp.opt
  cases a with
  | int i => cases hd; cases r1; exact ⟨i, rfl, hq G1 H1 _ (Ex.refl G1) S1 (.int _)⟩
  | _ => cases hd
/-- x.pop() of one's own list in slot i -/
def fPop (i : Nat) : Env → R D := fun E => match E[i]? with
  | some (.own b l) => (match l[l.length - 1]? with
    | some d => .ok d (E.set i (.own b l.dropLast))
    | none => .stuck)
  | _ => .stuck
theorem RpA.dropLast {K : PySem.W.Frag} {G : Hp} {vs : List V} {ds : List D} (h : RpA K G vs ds) : RpA K G vs.dropLast ds.dropLast := by
  rw [List.dropLast_eq_take, List.dropLast_eq_take, h.length]
  exact h.take _
theorem j_pop (i : Nat) {x : Str} {p2 apos : Pos} (hN : X.N[i]? = some x := by rfl) (hv : Vis X.env.scope x := by first | exact Or.inl rfl | exact Or.inr (Or.inl rfl) | exact Or.inr (Or.inr rfl)) (hd : (x == ("__debug__" : Str)) = false := by decide)
    (hcd : (x == ("__classdict__" : Str)) = false := by decide) (hbase : attributeBase (.Name x p2) "pop" X.env (eval (.Name x p2) X.env) = eval (.Name x p2) X.env := by rfl) (hline : (apos.endLine == pos.line) = true := by rfl) :
    JE X W (.Call (.Attribute (.Name x p2) "pop" apos) [] [] pos) (fPop i) := by
  refine ⟨_, pe_bm0 PySem.F.plainAttrs_list PySem.F.slot_list_pop PySem.F.type_list_pop mt_pop (pe_var hN hv hd hcd) hbase hline, fun Φ G H σ E Q S hp => ?_⟩
  unfold fPop at hp
  cases e : E[i]? with
  | none => rw [e] at hp; exact hp.elim
  | some s =>
    rw [e] at hp
    cases s with
    | no => exact hp.elim
    | val d => exact hp.elim
    | own b l =>
      simp only at hp
      cases e2 : l[l.length - 1]? with
      | none => rw [e2] at hp; exact hp.elim
      | some d =>
        rw [e2] at hp
        obtain ⟨x, hx, q, vs, rfl, h1, h2⟩ := S.sl i _ e
        obtain ⟨v, h3, h4⟩ := h2.get e2
        refine ⟨.ref q, hx, .inl ⟨rfl, vs, SqL.of h1⟩, q, vs, v, rfl, rfl, h1, by rw [h2.length]; exact h3, ?_⟩
        exact hp G _ v (Ex.refl G) (S.write e hx h2.dropLast) h4
end

/-! ### statements -/
def PostS (K : PySem.W.Frag) (W : WX) (Φ : Fr) (G : Hp) (σ : St) (r : RS) (D : Ends) : Prop := match r with
  | .nx E' => ∀ G' H' σ', Ex G G' → Sat K Φ G' H' σ' E' → D.nx σ' H'
  | .rt (.v d) E' => ∀ G' H' σ' v, Ex G G' → Sat K Φ G' H' σ' E' → Rp K G' v d → D.rt v H'
  | .rt (.l l) E' => ∀ G' H' σ' v, Ex G G' → Sat K Φ G' H' σ' E' → relL K Φ σ' G' H' E' l v → D.rt v H'
  | .bk E' => ∀ G' H' σ', Ex G G' → Sat K Φ G' H' σ' E' → D.bk σ' H'
  | .ct E' => ∀ G' H' σ', Ex G G' → Sat K Φ G' H' σ' E' → D.ct σ' H'
  | .exc x E' => PostX K W Φ G x E'
  | .stuck => False
theorem PostS.mono {K : PySem.W.Frag} {W : WX} {Φ : Fr} {G G0 : Hp} {σ σ0 : St} {r : RS} {D : Ends} (e : Ex G G0) (h : PostS K W Φ G σ r D) : PostS K W Φ G0 σ0 r D := by
  cases r with
  | nx E' => exact fun G' H' σ' e' S => h G' H' σ' (e.trans e') S
  | rt rv E' =>
    cases rv with
    | v d => exact fun G' H' σ' v e' S r => h G' H' σ' v (e.trans e') S r
    | l d => exact fun G' H' σ' v e' S r => h G' H' σ' v (e.trans e') S r
  | bk E' => exact fun G' H' σ' e' S => h G' H' σ' (e.trans e') S
  | ct E' => exact fun G' H' σ' e' S => h G' H' σ' (e.trans e') S
  | exc x E' => exact PostX.mono e h
  | stuck => exact h
def SndS (K : PySem.W.Frag) (W : WX) (t : TS) (f : Env → RS) : Prop := ∀ Φ G H σ E D, Sat K Φ G H σ E → PostS K W Φ G σ (f E) D → t D σ H
def JS (X : Cx) (W : WX) (s : Stmt) (f : Env → RS) : Prop := ∃ t, PS X s t ∧ SndS X.K W t f
def JSs (X : Cx) (W : WX) (s : List Stmt) (f : Env → RS) : Prop := ∃ t, PSs X s t ∧ SndS X.K W t f
/-- an expression, then what stands behind -/
theorem Snd.goS {α β : Type} {K : PySem.W.Frag} {W : WX} {rel : Rel α β} {t : St → Hp → (β → Hp → Prop) → Prop} {f : Env → R α} (h : Snd K (pw W) rel t f) {Φ : Fr} {G H : Hp} {σ : St} {E : Env} {k : α → Env → RS} {D : Ends} {Q1 : β → Hp → Prop}
    (S : Sat K Φ G H σ E) (hp : PostS K W Φ G σ ((f E).bindS k) D) (hk : ∀ a E' G' H' b, f E = .ok a E' → Ex G G' → Sat K Φ G' H' σ E' → rel Φ σ G' H' E' a b → PostS K W Φ G' σ (k a E') D → Q1 b H') : t σ H Q1 := by
  refine h Φ G H σ E Q1 S.pw ?_
  cases e : f E with
  | ok a E' =>
    rw [e] at hp
    exact fun G' H' b e' S' q => hk a E' G' H' b e e' S' q (PostS.mono e' hp)
  | exc x E' => rw [e] at hp; exact hp
  | stuck => rw [e] at hp; exact hp
def sNil : Env → RS := fun E => .nx E
def sSeq (f g : Env → RS) : Env → RS := fun E => (f E).seq g
section
variable {X : Cx} {W : WX} {a b c e o : Expr} {es : List Expr} {p pos : Pos} {fa fb fc : Env → R D} {st : Stmt} {sts : List Stmt} {f g : Env → RS}
theorem jss_nil : JSs X W [] sNil := ⟨_, pss_nil, fun Φ G H σ E D S hp => hp G H σ (Ex.refl G) S⟩
theorem jss_one (h : JS X W st f) : JSs X W [st] f := by obtain ⟨t, h1, h2⟩ := h; exact ⟨t, pss_one h1, h2⟩
theorem jss_cons (h : JS X W st f) (h' : JSs X W sts g) : JSs X W (st :: sts) (sSeq f g) := by
  obtain ⟨t, h1, h2⟩ := h
  obtain ⟨u, h3, h4⟩ := h'
  refine ⟨_, pss_cons h1 h3, fun Φ G H σ E D S hp => ?_⟩
  refine h2 Φ G H σ E { D with nx := u D } S ?_
  have hp' : PostS X.K W Φ G σ ((f E).seq g) D := hp
  cases e : f E with
  | nx E' => rw [e] at hp'; exact fun G' H' σ' e' S' => h4 Φ G' H' σ' E' D S' (PostS.mono e' hp')
  | rt rv E' => rw [e] at hp'; cases rv with | v d => exact hp' | l d => exact hp'
  | bk E' => rw [e] at hp'; exact hp'
  | ct E' => rw [e] at hp'; exact hp'
  | exc x E' => rw [e] at hp'; exact hp'
  | stuck => rw [e] at hp'; exact hp'
/-- an own list is given free, ahead of what follows -/
def pubE (i : Nat) (E : Env) : Env := match E[i]? with
  | some (.own _ l) => E.set i (.val (.lst l))
  | _ => E
theorem JSs.pub (i : Nat) (h : JSs X W sts f) : JSs X W sts (fun E => f (pubE i E)) := by
  obtain ⟨t, h1, h2⟩ := h
  refine ⟨t, h1, fun Φ G H σ E D S hp => ?_⟩
  cases e : E[i]? with
  | none =>
    have ee : pubE i E = E := by unfold pubE; rw [e]
    simp only [ee] at hp
    exact h2 Φ G H σ E D S hp
  | some s =>
    cases s with
    | own b l =>
      have ee : pubE i E = E.set i (.val (.lst l)) := by unfold pubE; rw [e]
      simp only [ee] at hp
      obtain ⟨G', e', S'⟩ := S.pub e
      exact h2 Φ G' H σ _ D S' (PostS.mono e' hp)
    | no =>
      have ee : pubE i E = E := by unfold pubE; rw [e]
      simp only [ee] at hp
      exact h2 Φ G H σ E D S hp
    | val d =>
      have ee : pubE i E = E := by unfold pubE; rw [e]
      simp only [ee] at hp
      exact h2 Φ G H σ E D S hp
theorem js_pass : JS X W (.Pass pos) sNil := ⟨_, ps_pass, fun Φ G H σ E D S hp => hp G H σ (Ex.refl G) S⟩
theorem js_break : JS X W (.Break pos) (fun E => .bk E) := ⟨_, ps_break, fun Φ G H σ E D S hp => hp G H σ (Ex.refl G) S⟩
theorem js_continue : JS X W (.Continue pos) (fun E => .ct E) := ⟨_, ps_continue, fun Φ G H σ E D S hp => hp G H σ (Ex.refl G) S⟩
def sExpr (fa : Env → R D) : Env → RS := fun E => (fa E).bindS fun _ E => .nx E
theorem js_expr (h : JE X W e fa) (hs : swapsWith e none pos.line X.env = pure false := by rfl) : JS X W (.Expr e pos) (sExpr fa) := by
  obtain ⟨te, h1, h2⟩ := h
  refine ⟨_, ps_expr h1 hs, fun Φ G H σ E D S hp => ?_⟩
  exact h2.goS S hp fun a E' G' H' v _ e' S' r hp => hp G' H' σ (Ex.refl G') S'
def sRet (fa : Env → R D) : Env → RS := fun E => (fa E).bindS fun d E => .rt (.v d) E
theorem js_ret (h : JE X W e fa) : JS X W (.Return (some e) pos) (sRet fa) := by
  obtain ⟨te, h1, h2⟩ := h
  refine ⟨_, ps_ret h1, fun Φ G H σ E D S hp => ?_⟩
  exact h2.goS S hp fun a E' G' H' v _ e' S' r hp => hp G' H' σ v (Ex.refl G') S' r
def sRetL (fa : Env → R (List D)) : Env → RS := fun E => (fa E).bindS fun d E => .rt (.l d) E
theorem js_retL {fl : Env → R (List D)} (h : JL X W e fl) : JS X W (.Return (some e) pos) (sRetL fl) := by
  obtain ⟨te, h1, h2⟩ := h
  refine ⟨_, ps_ret h1, fun Φ G H σ E D S hp => ?_⟩
  exact h2.goS S hp fun a E' G' H' v _ e' S' r hp => hp G' H' σ v (Ex.refl G') S' r
def sRetN : Env → RS := fun E => .rt (.v .non) E
theorem js_retN : JS X W (.Return none pos) sRetN := ⟨_, ps_retN, fun Φ G H σ E D S hp => hp G H σ .non (Ex.refl G) S .non⟩
def sIf (t : Env → R Bool) (f g : Env → RS) : Env → RS := fun E => (t E).bindS fun k E => if k = true then f E else g E
theorem js_if {t : Env → R Bool} {sa sb : List Stmt} (ht : JT X W c t) (ha : JSs X W sa f) (hb : JSs X W sb g) : JS X W (.If c sa sb pos) (sIf t f g) := by
  obtain ⟨tt, h1, h2⟩ := ht
  obtain ⟨ta, h3, h4⟩ := ha
  obtain ⟨tb, h5, h6⟩ := hb
  refine ⟨_, ps_if h1 h3 h5, fun Φ G H σ E D S hp => ?_⟩
  refine h2.goS S hp fun k E' G' H' v _ e' S' r hp => ?_
  subst r
  cases k with
  | true => exact iteT (h4 Φ G' H' σ E' D S' hp)
  | false => exact iteF (h6 Φ G' H' σ E' D S' hp)

/-! ### targets -/
def Chg (is : List Nat) (σ σ' : St) : Prop := σ'.length = σ.length ∧ ∀ i, i ∉ is → σ'[i]? = σ[i]?
def GGo (K : PySem.W.Frag) (is : List Nat) (g : D → Env → Option Env) (t : TG) : Prop := ∀ Φ G H σ E v d E' (Q : St → Hp → Prop), Sat K Φ G H σ E → Rp K G v d → g d E = some E' → (∀ G' H' σ', Ex G G' → Sat K Φ G' H' σ' E' → Chg is σ σ' → Q σ' H') → t v σ H Q
def GsGo (K : PySem.W.Frag) (is : List Nat) (g : List D → Env → Option Env) (t : TGs) : Prop := ∀ Φ G H σ E vs ds E' (Q : St → Hp → Prop), Sat K Φ G H σ E → RpA K G vs ds → g ds E = some E' → (∀ G' H' σ', Ex G G' → Sat K Φ G' H' σ' E' → Chg is σ σ' → Q σ' H') → t vs σ H Q
def JG (X : Cx) (tg : Expr) (is : List Nat) (g : D → Env → Option Env) : Prop := ∃ t, PG X tg t ∧ GGo X.K is g t
def JGs (X : Cx) (tg : List Expr) (is : List Nat) (g : List D → Env → Option Env) : Prop := ∃ t, PGs X tg t ∧ GsGo X.K is g t
def gNm (i : Nat) : D → Env → Option Env := fun d E => some (E.set i (.val d))
theorem jg_name (i : Nat) {x : Str} (hN : X.N.Nodup) (hi : X.N[i]? = some x := by rfl) (hx : Loc X.env.scope x := by first | exact Or.inl rfl | exact Or.inr rfl) (hf : X.fn x = true ∨ X.env.scope.names.lookup x = some .local := by first | exact .inl rfl | exact .inr rfl | assumption) : JG X (.Name x pos) [i] (gNm i) :=
  ⟨_, pg_name hN hi hx hf, fun Φ G H σ E v d E' Q S r hg k => by cases hg; exact k G H _ (Ex.refl G) (S.setV r) ⟨List.length_set, fun j hj => List.getElem?_set_ne fun z => hj (by simp [z])⟩⟩
def gsNil : List D → Env → Option Env := fun l E => match l with | [] => some E | _ => none
def gsCons (g : D → Env → Option Env) (r : List D → Env → Option Env) : List D → Env → Option Env := fun l E => match l with | d :: ds => (g d E).bind (r ds) | [] => none
theorem jgs_nil : JGs X [] [] gsNil := ⟨_, pgs_nil, fun Φ G H σ E vs ds E' Q S r hg k => by
  cases ds with
  | nil => cases hg; cases r; exact ⟨rfl, k G H _ (Ex.refl G) S ⟨rfl, fun _ _ => rfl⟩⟩
  | cons _ _ => cases hg⟩
theorem jgs_cons {is1 is2 : List Nat} {g1 : D → Env → Option Env} {g2 : List D → Env → Option Env} (h : JG X e is1 g1) (h' : JGs X es is2 g2) (hs : (assignEach (e :: es) X.env).map (·.2) = assign e X.env :: (assignEach es X.env).map (·.2) := by rfl) : JGs X (e :: es) (is1 ++ is2) (gsCons g1 g2) := by
  obtain ⟨t, h1, h2⟩ := h
  obtain ⟨u, h3, h4⟩ := h'
  refine ⟨_, pgs_cons h1 h3 hs, fun Φ G H σ E vs ds E' Q S r hg k => ?_⟩
  cases ds with
  | nil => cases hg
  | cons d ds =>
    cases r with
    | cons r1 r2 =>
      obtain ⟨E1, e1, e2⟩ := Option.bind_eq_some_iff.mp (show (g1 d E).bind (g2 ds) = some E' from hg)
      refine ⟨_, _, rfl, h2 Φ G H σ E _ d E1 _ S r1 e1 fun G1 H1 σ1 x1 S1 c1 => ?_⟩
      exact h4 Φ G1 H1 σ1 E1 _ ds E' Q S1 (r2.mono x1) e2 fun G2 H2 σ2 x2 S2 c2 => k G2 H2 σ2 (x1.trans x2) S2 ⟨c2.1.trans c1.1, fun j hj => (c2.2 j fun z => hj (List.mem_append_right _ z)).trans (c1.2 j fun z => hj (List.mem_append_left _ z))⟩
def gTup2 (g : List D → Env → Option Env) : D → Env → Option Env := fun d E => match d with | .tup l => g l E | _ => none
theorem jg_tup {k n : Nat} {is : List Nat} {g2 : List D → Env → Option Env} (hc : X.calm = true) (h : JGs X es is g2) (hlen : ∀ l E E', g2 l E = some E' → l.length = n) (hn : (assignEach es X.env).length = n := by rfl) (hst : (assignEach es X.env).findIdx? (·.1) = none := by rfl) : JG X (.Tuple es k pos) is (gTup2 g2) := by
  obtain ⟨t, h1, h2⟩ := h
  refine ⟨_, pg_tup hc h1 hn hst, fun Φ G H σ E v d E' Q S r hg k => ?_⟩
  cases d with
  | tup l =>
    cases r with
    | tup r1 r2 =>
      exact ⟨_, _, rfl, S.gh.st r1, by rw [r2.length]; exact hlen l E E' hg, h2 Φ G H σ E _ l E' Q S r2 hg k⟩
  | _ => cases hg
theorem gs_len0 : ∀ l E E', gsNil l E = some E' → l.length = 0 := fun l E E' h => by cases l with | nil => rfl | cons _ _ => cases h
theorem gs_lenS {g1 : D → Env → Option Env} {g2 : List D → Env → Option Env} {n : Nat} (h : ∀ l E E', g2 l E = some E' → l.length = n) : ∀ l E E', gsCons g1 g2 l E = some E' → l.length = n + 1 := fun l E E' hg => by
  cases l with
  | nil => cases hg
  | cons d ds =>
    obtain ⟨E1, e1, e2⟩ := Option.bind_eq_some_iff.mp (show (g1 d E).bind (g2 ds) = some E' from hg)
    rw [List.length_cons, h ds E1 E' e2]
def sAsg (fa : Env → R D) (g : D → Env → Option Env) : Env → RS := fun E => (fa E).bindS fun d E => match g d E with | some E' => .nx E' | none => .stuck
theorem js_asg {tg : Expr} {is : List Nat} {g : D → Env → Option Env} (h : JE X W e fa) (hg : JG X tg is g) (hs : swapsWithSole [tg] e pos.line X.env = pure false := by rfl) (hw : swappedStores [tg] e X.env = pure none := by rfl)
    (h1 : (assignEach [tg] X.env).map (·.2) = [assign tg X.env] := by rfl) : JS X W (.Assign [tg] e pos) (sAsg fa g) := by
  obtain ⟨te, p1, s1⟩ := h
  obtain ⟨t, p2, s2⟩ := hg
  refine ⟨_, ps_asg p1 p2 hs hw h1, fun Φ G H σ E D S hp => ?_⟩
  refine s1.goS S hp fun d E' G' H' v _ e' S' r hp => ?_
  cases eg : g d E' with
  | none => rw [eg] at hp; exact hp.elim
  | some E2 => rw [eg] at hp; exact s2 Φ G' H' σ E' v d E2 _ S' r eg fun G2 H2 σ2 e2 S2 _ => hp G2 H2 σ2 e2 S2
def sSet (i : Nat) (fa : Env → R D) : Env → RS := fun E => (fa E).bindS fun d E => .nx (E.set i (.val d))
theorem js_set (i : Nat) {x : Str} {pos' : Pos} (hN : X.N.Nodup) (h : JE X W e fa) (hi : X.N[i]? = some x := by rfl) (hx : Loc X.env.scope x := by first | exact Or.inl rfl | exact Or.inr rfl) (hs : swapsWith e (some (.Name x pos')) pos.line X.env = pure false := by rfl) (hf : X.fn x = true ∨ X.env.scope.names.lookup x = some .local := by first | exact .inl rfl | exact .inr rfl | assumption) :
    JS X W (.Assign [.Name x pos'] e pos) (sSet i fa) := by
  obtain ⟨te, p1, s1⟩ := h
  refine ⟨_, ps_set hN hi hx p1 hs hf, fun Φ G H σ E D S hp => ?_⟩
  exact s1.goS S hp fun d E' G' H' v _ e' S' r hp => hp G' H' _ (Ex.refl G') (S'.setV r)
def sSetL (i : Nat) (fa : Env → R (List D)) : Env → RS := fun E => (fa E).bindS fun l E => .nx (E.set i (.own false l))
theorem js_setL (i : Nat) {x : Str} {pos' : Pos} {fl : Env → R (List D)} (hN : X.N.Nodup) (h : JL X W e fl) (hi : X.N[i]? = some x := by rfl) (hx : Loc X.env.scope x := by first | exact Or.inl rfl | exact Or.inr rfl) (hs : swapsWith e (some (.Name x pos')) pos.line X.env = pure false := by rfl) (hf : X.fn x = true ∨ X.env.scope.names.lookup x = some .local := by first | exact .inl rfl | exact .inr rfl | assumption) :
    JS X W (.Assign [.Name x pos'] e pos) (sSetL i fl) := by
  obtain ⟨te, p1, s1⟩ := h
  refine ⟨_, ps_set hN hi hx p1 hs hf, fun Φ G H σ E D S hp => ?_⟩
  refine s1.goS S hp fun l E' G' H' v _ e' S' r hp => ?_
  obtain ⟨q, vs, rfl, h1, h2, h3, h4, h5⟩ := r
  exact hp G' H' _ (Ex.refl G') (S'.setO h1 h2 h3 h4 h5)
/-- x += e, x a value -/
def sAug (i : Nat) (g : D → D → Option D) (fa : Env → R D) : Env → RS := fun E => match E[i]? with
  | some (.val x) => (fa E).bindS fun d E => match g x d with | some y => .nx (E.set i (.val y)) | none => .stuck
  | _ => .stuck
theorem js_augI (i : Nat) {x : Str} {pos' : Pos} {op : Operator} {h : Int → Int → Int} (ho : PIp X op (ipI h)) (hN : X.N.Nodup) (he : JE X W e fa) (hi : X.N[i]? = some x := by rfl) (hx : Loc X.env.scope x := by first | exact Or.inl rfl | exact Or.inr rfl) (hf : X.fn x = true ∨ X.env.scope.names.lookup x = some .local := by first | exact .inl rfl | exact .inr rfl | assumption) :
    JS X W (.AugAssign (.Name x pos') op e pos) (sAug i (g2I fun i j => some (h i j)) fa) := by
  obtain ⟨te, p1, s1⟩ := he
  refine ⟨_, ps_aug hN hi hx p1 ho hf, fun Φ G H σ E D S hp => ?_⟩
  unfold sAug at hp
  cases ee : E[i]? with
  | none => rw [ee] at hp; exact hp.elim
  | some s =>
    rw [ee] at hp
    cases s with
    | no => exact hp.elim
    | own _ _ => exact hp.elim
    | val d0 =>
      obtain ⟨w, hw, v, rfl, r⟩ := S.sl i _ ee
      refine ⟨v, hw, ?_⟩
      refine s1.goS S hp fun d E' G' H' u _ e' S' r' hp => ?_
      cases d0 with
      | int m =>
        cases d with
        | int n => cases r; cases r'; exact ⟨m, n, rfl, rfl, hp G' H' _ (Ex.refl G') (S'.setV (.int _))⟩
        | _ => exact hp.elim
      | _ => exact hp.elim
/-- x.append(e), x one's own list -/
def sApp (i : Nat) (fa : Env → R D) : Env → RS := fun E => match E[i]? with
  | some (.own _ _) => (fa E).bindS fun d E => (match E[i]? with
    | some (.own b l) => if l.length < 16777216 then .nx (E.set i (.own b (l ++ [d]))) else .stuck
    | _ => .stuck)
  | _ => .stuck
theorem js_app (i : Nat) {x : Str} {p2 apos cpos : Pos} (h : JE X W e fa) (hN : X.N[i]? = some x := by rfl) (hv : Vis X.env.scope x := by first | exact Or.inl rfl | exact Or.inr (Or.inl rfl) | exact Or.inr (Or.inr rfl)) (hd : (x == ("__debug__" : Str)) = false := by decide)
    (hcd : (x == ("__classdict__" : Str)) = false := by decide) (hbase : attributeBase (.Name x p2) "append" X.env (eval (.Name x p2) X.env) = eval (.Name x p2) X.env := by rfl)
    (hfew : ((backTo cpos (starEach [e] X.env)).all (fun x => !x.1) && (backToKw cpos (keywordEach [] X.env)).all (fun x => x.1.isSome)
      && decide ([e].length + ([] : List Keyword).length + (if ([] : List Keyword).isEmpty then 0 else 1) < 30)) = true := by rfl)
    (hline : (apos.endLine == cpos.line) = true := by rfl) (hs : starEach [e] X.env = (false, eval e X.env) :: starEach [] X.env := by rfl) (hplain : (backTo cpos (starEach [] X.env)).any (·.1) = false := by rfl)
    (hsw : swapsWith (.Call (.Attribute (.Name x p2) "append" apos) [e] [] cpos) none pos.line X.env = pure false := by rfl) :
    JS X W (.Expr (.Call (.Attribute (.Name x p2) "append" apos) [e] [] cpos) pos) (sApp i fa) := by
  obtain ⟨te, p1, s1⟩ := h
  refine ⟨_, ps_expr (pe_bm PySem.F.plainAttrs_list PySem.F.slot_list_append PySem.F.type_list_append mt_append (pe_var hN hv hd hcd) (pa_cons p1 pa_nil hs) hbase hfew hline hs hplain) hsw, fun Φ G H σ E D S hp => ?_⟩
  unfold sApp at hp
  cases ee : E[i]? with
  | none => rw [ee] at hp; exact hp.elim
  | some s =>
    rw [ee] at hp
    cases s with
    | no => exact hp.elim
    | val _ => exact hp.elim
    | own b0 l0 =>
      obtain ⟨w, hw, q, vs, rfl, h1, h2⟩ := S.sl i _ ee
      refine ⟨.ref q, hw, .inl ⟨rfl, vs, SqL.of h1⟩, ?_⟩
      refine s1.goS S hp fun d E' G' H' u _ e' S' r' hp => ?_
      cases e2 : E'[i]? with
      | none => rw [e2] at hp; exact hp.elim
      | some s =>
        rw [e2] at hp
        cases s with
        | no => exact hp.elim
        | val _ => exact hp.elim
        | own b l =>
          simp only at hp
          by_cases c : l.length < 16777216
          · rw [if_pos c] at hp
            obtain ⟨w', hw', q', ws, rfl, h3, h4⟩ := S'.sl i _ e2
            rw [hw] at hw'
            cases hw'
            refine ⟨q, ws, u, rfl, rfl, h3, by rw [sizeLine_eq, h4.length]; exact c, ?_⟩
            exact hp G' _ σ (Ex.refl G') (S'.write e2 hw (h4.append (.cons r' .nil)))
          · rw [if_neg c] at hp; exact hp.elim
/-- x[k] = e, x one's own list -/
def sSetIx (i : Nat) (fk fa : Env → R D) : Env → RS := fun E => (fa E).bindS fun d E => match E[i]? with
  | some (.own _ _) => (fk E).bindS fun k E => (match k, E[i]? with
    | .int k, some (.own b l) => (match ixN l.length k with
      | some j => .nx (E.set i (.own b (l.set j d)))
      | none => .stuck)
    | _, _ => .stuck)
  | _ => .stuck
theorem js_setIx (i : Nat) {x : Str} {p2 tp : Pos} {fk : Env → R D} (h : JE X W e fa) (hk : JE X W c fk) (hN : X.N[i]? = some x := by rfl) (hv : Vis X.env.scope x := by first | exact Or.inl rfl | exact Or.inr (Or.inl rfl) | exact Or.inr (Or.inr rfl)) (hd : (x == ("__debug__" : Str)) = false := by decide)
    (hcd : (x == ("__classdict__" : Str)) = false := by decide)
    (ha : ∀ v, assign (.Subscript (.Name x p2) c tp) X.env v = (do
      let ov ← holding [v] (eval (.Name x p2) X.env)
      let iv ← holding [v, ov] (eval c X.env)
      standAt tp
      holding [v, ov, iv] (setItem ov iv v)
      release [v, ov, iv] []) := by intro _; rfl)
    (hs : swapsWithSole [.Subscript (.Name x p2) c tp] e pos.line X.env = pure false := by rfl) (hw : swappedStores [.Subscript (.Name x p2) c tp] e X.env = pure none := by rfl)
    (h1 : (assignEach [.Subscript (.Name x p2) c tp] X.env).map (·.2) = [assign (.Subscript (.Name x p2) c tp) X.env] := by rfl) :
    JS X W (.Assign [.Subscript (.Name x p2) c tp] e pos) (sSetIx i fk fa) := by
  obtain ⟨te, p1, s1⟩ := h
  obtain ⟨tk, p3, s3⟩ := hk
  refine ⟨_, ps_asg p1 (pg_sub (pe_var hN hv hd hcd) p3 set_list ha) hs hw h1, fun Φ G H σ E D S hp => ?_⟩
  refine s1.goS S hp fun d E1 G1 H1 v _ x1 S1 r1 hp => ?_
  cases ee : E1[i]? with
  | none => rw [ee] at hp; exact hp.elim
  | some s =>
    rw [ee] at hp
    cases s with
    | no => exact hp.elim
    | val _ => exact hp.elim
    | own b0 l0 =>
      obtain ⟨w, hw, q, vs, rfl, h1, h2⟩ := S1.sl i _ ee
      refine ⟨.ref q, hw, ?_⟩
      refine s3.goS S1 hp fun k E2 G2 H2 u _ x2 S2 r2 hp => ?_
      cases k with
      | int k =>
        cases e2 : E2[i]? with
        | none => rw [e2] at hp; exact hp.elim
        | some s =>
          rw [e2] at hp
          cases s with
          | no => exact hp.elim
          | val _ => exact hp.elim
          | own b l =>
            simp only at hp
            cases e3 : ixN l.length k with
            | none => rw [e3] at hp; exact hp.elim
            | some j =>
              rw [e3] at hp
              obtain ⟨w', hw', q', ws, rfl, h3, h4⟩ := S2.sl i _ e2
              rw [hw] at hw'
              cases hw'
              cases r2
              refine ⟨q, ws, k, j, rfl, rfl, h3, by rw [h4.length]; exact e3, ?_⟩
              exact hp G2 _ σ (Ex.refl G2) (S2.write e2 hw (h4.set (Rp.mono x2 _ r1) j))
      | _ => exact hp.elim

/-! ### what is walked -/
def WalkOk (K : PySem.W.Frag) (J : It) (G : Hp) (ds : List D) : Prop := ∀ Φ G' H' σ E, Ex G G' → Sat K Φ G' H' σ E → ∀ i, i ≤ ds.length →
  (i = ds.length → J.stop i H') ∧ (∀ d, ds[i]? = some d → J.go i H' ∧ ∀ x H'', J.yld i H' x H'' → ∃ G'', Ex G' G'' ∧ Sat K Φ G'' H'' σ E ∧ Rp K G'' x d)
theorem WalkOk.mono {K : PySem.W.Frag} {J : It} {G G' : Hp} {ds : List D} (e : Ex G G') (h : WalkOk K J G ds) : WalkOk K J G' ds := fun Φ G2 H' σ E e2 S => h Φ G2 H' σ E (e.trans e2) S
def JI (X : Cx) (W : WJ) (tg iter : Expr) (f : Env → R (List D)) : Prop := ∃ wi, PI X tg iter wi ∧ Snd X.K W (fun _ _ G' _ _ ds J => WalkOk X.K J G' ds) wi f
theorem pi_or {tg iter : Expr} {w1 w2 : TI} (h1 : PI X tg iter w1) (h2 : PI X tg iter w2) : PI X tg iter (fun σ H R => w1 σ H R ∨ w2 σ H R) := by
  refine ⟨fun pins s σ H R I h => ?_⟩
  rcases h with h | h
  · exact h1.run pins s σ H R I h
  · exact h2.run pins s σ H R I h
theorem walk_list {K : PySem.W.Frag} {G : Hp} {a : Addr} {vs : List V} {ds : List D} (h : SqL K G a vs) (r : RpA K G vs ds) : WalkOk K (Itl K a) G ds := by
  intro Φ G' H' σ E e S i hi
  have hq := (e.trans S.gh).sl h
  refine ⟨fun z => ⟨vs, hq, by rw [r.length, z]; exact Nat.le_refl _⟩, fun d hd => ?_⟩
  obtain ⟨v, hv, rv⟩ := r.get hd
  refine ⟨⟨vs, v, hq, hv⟩, fun x H'' hy => ?_⟩
  obtain ⟨rfl, hx⟩ := hy
  have := hx vs hq
  rw [hv] at this
  cases this
  exact ⟨G', Ex.refl G', S, Rp.mono e _ rv⟩
end
end J

namespace J
open PySem PySem.Spec PyProof.Rows L2

/-! ### one form for a whole family of contexts -/
def canE {α β : Type} (K : PySem.W.Frag) (W : WJ) (rel : Rel α β) (f : Env → R α) : St → Hp → (β → Hp → Prop) → Prop := fun σ H Q => ∃ Φ G E, SatC K W Φ G H σ E ∧ Post K W.w rel Φ G σ (f E) Q
theorem canE.snd {α β : Type} {K : PySem.W.Frag} {W : WJ} {rel : Rel α β} {f : Env → R α} : Snd K W rel (canE K W rel f) f := fun Φ G H σ E Q S hp => ⟨Φ, G, E, S, hp⟩
def canG (K : PySem.W.Frag) (is : List Nat) (g : D → Env → Option Env) : TG := fun v σ H Q => ∃ Φ G E d E', Sat K Φ G H σ E ∧ Rp K G v d ∧ g d E = some E' ∧ ∀ G' H' σ', Ex G G' → Sat K Φ G' H' σ' E' → Chg is σ σ' → Q σ' H'
theorem canG.go {K : PySem.W.Frag} {is : List Nat} {g : D → Env → Option Env} : GGo K is g (canG K is g) := fun Φ G H σ E v d E' Q S r hg k => ⟨Φ, G, E, d, E', S, r, hg, k⟩
section
variable {X : Cx} {W : WJ} {e tg : Expr} {es : List Expr} {pos : Pos} {is : List Nat} {f : Env → R D} {t : Env → R Bool} {g : D → Env → Option Env} {fl : Env → R (List D)}
theorem JE.can (h : JE X W e f) : PE X e (canE X.K W (relE X.K) f) := by
  obtain ⟨te, h1, h2⟩ := h
  exact ⟨fun pins s σ H Q I ⟨Φ, G, E, S, hp⟩ => h1.run pins s σ H Q I (h2 Φ G H σ E Q S hp)⟩
theorem JT.can (h : JT X W e t) : PT X e (canE X.K W relT t) := by
  obtain ⟨te, h1, h2⟩ := h
  exact ⟨fun pins s σ H Q I ⟨Φ, G, E, S, hp⟩ => h1.run pins s σ H Q I (h2 Φ G H σ E Q S hp)⟩
theorem JG.can (h : JG X tg is g) : PG X tg (canG X.K is g) := by
  obtain ⟨te, h1, h2⟩ := h
  exact ⟨fun pins s σ H v u Q I r ⟨Φ, G, E, d, E', S, rv, hg, k⟩ => h1.run pins s σ H v u Q I r (h2 Φ G H σ E v d E' Q S rv hg k)⟩
abbrev relW (K : PySem.W.Frag) : Rel (List D) It := fun _ _ G' _ _ ds J => WalkOk K J G' ds
theorem JI.can (h : JI X W tg e fl) : PI X tg e (canE X.K W (relW X.K) fl) := by
  obtain ⟨te, h1, h2⟩ := h
  exact ⟨fun pins s σ H Q I ⟨Φ, G, E, S, hp⟩ => h1.run pins s σ H Q I (h2 Φ G H σ E Q S hp)⟩
/-- the tests of a comprehension -/
def JTs (X : Cx) (W : WJ) (es : List Expr) (t : Env → R Bool) : Prop := ∃ te, PTs X es te ∧ Snd X.K W relT te t
theorem JTs.can (h : JTs X W es t) : PTs X es (canE X.K W relT t) := by
  obtain ⟨te, h1, h2⟩ := h
  exact ⟨fun pins s σ H Q I ⟨Φ, G, E, S, hp⟩ => h1.run pins s σ H Q I (h2 Φ G H σ E Q S hp)⟩
def fYes : Env → R Bool := fun E => .ok true E
theorem jts_nil : JTs X W [] fYes := ⟨_, pts_nil, fun Φ G H σ E Q S hp => hp G H true (Ex.refl G) S rfl⟩
theorem jts_one (h : JT X W e t) : JTs X W [e] t := by obtain ⟨te, h1, h2⟩ := h; exact ⟨te, pts_one h1, h2⟩
end

/-! ### what is walked -/
section
variable {K : PySem.W.Frag} {G : Hp}
theorem walk_tup {a : Addr} {vs : List V} {ds : List D} (h : SqT K G a vs) (r : RpA K G vs ds) : WalkOk K (Itt K a) G ds := by
  intro Φ G' H' σ E e S i hi
  have hq := (e.trans S.gh).st h
  refine ⟨fun z => ⟨vs, hq, by rw [r.length, z]; exact Nat.le_refl _⟩, fun d hd => ?_⟩
  obtain ⟨v, hv, rv⟩ := r.get hd
  refine ⟨⟨vs, v, hq, hv⟩, fun x H'' hy => ?_⟩
  obtain ⟨rfl, hx⟩ := hy
  have h2 := hx vs hq
  rw [hv] at h2
  cases h2
  exact ⟨G', Ex.refl G', S, Rp.mono e _ rv⟩
def upD (lo : Int) (n : Nat) : List D := (List.range n).map fun k => .int (lo + (k : Nat))
theorem upD_get {lo : Int} {n i : Nat} {d : D} (h : (upD lo n)[i]? = some d) : i < n ∧ d = .int (lo + (i : Nat)) := by
  unfold upD at h
  rw [List.getElem?_map] at h
  obtain ⟨k, h1, h2⟩ := Option.map_eq_some_iff.mp h
  obtain ⟨h3, h4⟩ := List.getElem?_eq_some_iff.mp h1
  rw [List.getElem_range] at h4
  subst h4
  exact ⟨by simpa using h3, h2.symm⟩
theorem walk_range {lo : Int} {n : Nat} : WalkOk K (Itr lo n) G (upD lo n) := by
  intro Φ G' H' σ E e S i hi
  have hl : (upD lo n).length = n := by unfold upD; simp
  refine ⟨fun z => by show n ≤ i; omega, fun d hd => ?_⟩
  obtain ⟨h1, rfl⟩ := upD_get hd
  refine ⟨h1, fun x H'' hy => ?_⟩
  obtain ⟨rfl, rfl⟩ := hy
  exact ⟨G', Ex.refl G', S, .int _⟩
def enumD (ds : List D) : List D := ds.zipIdx.map fun p => .tup [.int (p.2 : Nat), p.1]
theorem walk_enum {a : Addr} {vs : List V} {ds : List D} (h : SqL K G a vs) (r : RpA K G vs ds) : WalkOk K (Ite K a) G (enumD ds) := by
  intro Φ G' H' σ E e S i hi
  have hq := (e.trans S.gh).sl h
  have hl : (enumD ds).length = ds.length := by unfold enumD; simp
  refine ⟨fun z => ⟨vs, hq, by rw [r.length]; omega⟩, fun d hd => ?_⟩
  unfold enumD at hd
  rw [List.getElem?_map, List.getElem?_zipIdx] at hd
  obtain ⟨p, h1, rfl⟩ := Option.map_eq_some_iff.mp hd
  obtain ⟨d0, h2, rfl⟩ := Option.map_eq_some_iff.mp h1
  obtain ⟨v, hv, rv⟩ := r.get h2
  refine ⟨⟨vs, v, hq, hv⟩, fun x H'' hy => ?_⟩
  obtain ⟨T, y, rfl, hT, rfl, hy⟩ := hy
  have h3 := hy vs hq
  rw [hv] at h3
  cases h3
  have g := S.gh.back hT
  have e0 : ((0 + i : Nat) : Int) = (i : Nat) := by rw [Nat.zero_add]
  refine ⟨_, Ex.new g, S.new hT, .tup (SqT.of upd_same) (.cons ?_ (.cons (Rp.mono (e.trans (Ex.new g)) _ rv) .nil))⟩
  show Rp K _ (.int (i : Nat)) (.int ((0 + i : Nat) : Int))
  rw [e0]
  exact .int _
def zipD (ds es : List D) : List D := (ds.zip es).map fun p => .tup [p.1, p.2]
theorem zipD_get {ds es : List D} {i : Nat} {d : D} (h : (zipD ds es)[i]? = some d) : ∃ x y, ds[i]? = some x ∧ es[i]? = some y ∧ d = .tup [x, y] := by
  unfold zipD at h
  rw [List.getElem?_map] at h
  obtain ⟨p, h1, rfl⟩ := Option.map_eq_some_iff.mp h
  rw [List.getElem?_zip_eq_some] at h1
  exact ⟨_, _, h1.1, h1.2, rfl⟩
theorem walk_zip {a b : Addr} {vs us : List V} {ds es : List D} (h : SqL K G a vs) (r : RpA K G vs ds) (h' : SqL K G b us) (r' : RpA K G us es) : WalkOk K (Itz K a b) G (zipD ds es) := by
  intro Φ G' H' σ E e S i hi
  have hq := (e.trans S.gh).sl h
  have hq' := (e.trans S.gh).sl h'
  have hl : (zipD ds es).length = min ds.length es.length := by unfold zipD; simp
  refine ⟨fun z => ⟨vs, us, hq, hq', by rw [r.length, r'.length]; omega⟩, fun d hd => ?_⟩
  obtain ⟨x, y, h1, h2, rfl⟩ := zipD_get hd
  obtain ⟨v, hv, rv⟩ := r.get h1
  obtain ⟨u, hu, ru⟩ := r'.get h2
  refine ⟨⟨vs, us, v, u, hq, hq', hv, hu⟩, fun x H'' hy => ?_⟩
  obtain ⟨T, v', u', rfl, hT, rfl, y1, y2⟩ := hy
  have h3 := y1 vs hq
  have h4 := y2 us hq'
  rw [hv] at h3; rw [hu] at h4
  cases h3; cases h4
  have g := S.gh.back hT
  exact ⟨_, Ex.new g, S.new hT, .tup (SqT.of upd_same) (.cons (Rp.mono (e.trans (Ex.new g)) _ rv) (.cons (Rp.mono (e.trans (Ex.new g)) _ ru) .nil))⟩
theorem walk_revL {a : Addr} {vs : List V} {ds : List D} (h : SqL K G a vs) (r : RpA K G vs ds) : WalkOk K (Itv K a vs.length) G ds.reverse := by
  intro Φ G' H' σ E e S i hi
  have hq := (e.trans S.gh).sl h
  have hl := r.length
  rw [List.length_reverse] at hi
  refine ⟨fun z => ?_, fun d hd => ?_⟩
  · rw [List.length_reverse] at z
    show vs.length ≤ i
    omega
  · have hi2 : i < ds.length := by have := (List.getElem?_eq_some_iff.mp hd).1; simpa using this
    rw [List.getElem?_reverse hi2] at hd
    obtain ⟨v, hv, rv⟩ := r.get hd
    have e1 : vs.length - 1 - i = ds.length - 1 - i := by omega
    refine ⟨⟨by omega, vs, v, hq, by rw [e1]; exact hv⟩, fun x H'' hy => ?_⟩
    obtain ⟨rfl, hx⟩ := hy
    have h3 := hx vs hq
    rw [e1, hv] at h3
    cases h3
    exact ⟨G', Ex.refl G', S, Rp.mono e _ rv⟩
theorem walk_revT {a : Addr} {vs : List V} {ds : List D} (h : SqT K G a vs) (r : RpA K G vs ds) : WalkOk K (RT.ItvT K a vs.length) G ds.reverse := by
  intro Φ G' H' σ E e S i hi
  have hq := (e.trans S.gh).st h
  have hl := r.length
  rw [List.length_reverse] at hi
  refine ⟨fun z => ?_, fun d hd => ?_⟩
  · rw [List.length_reverse] at z
    show vs.length ≤ i
    omega
  · have hi2 : i < ds.length := by have := (List.getElem?_eq_some_iff.mp hd).1; simpa using this
    rw [List.getElem?_reverse hi2] at hd
    obtain ⟨v, hv, rv⟩ := r.get hd
    have e1 : vs.length - 1 - i = ds.length - 1 - i := by omega
    refine ⟨⟨by omega, vs, v, hq, by rw [e1]; exact hv⟩, fun x H'' hy => ?_⟩
    obtain ⟨rfl, hx⟩ := hy
    have h3 := hx vs hq
    rw [e1, hv] at h3
    cases h3
    exact ⟨G', Ex.refl G', S, Rp.mono e _ rv⟩
end
section
variable {X : Cx} {W : WJ} {a b e tg : Expr} {p pos tpos : Pos} {fa fb : Env → R D} {elts : List Expr} {kk : Nat}
theorem ji_seq (ha : JE X W e fa) : JI X W tg e (fun1L itemsD fa) := by
  obtain ⟨ta, pa, sa⟩ := ha
  refine ⟨_, pi_or (pi_list pa) (pi_tup pa), fun Φ G H σ E Q S hp => ?_⟩
  have key : ∀ (Q' : V → Hp → Prop), (∀ d ds E1 G1 H1 v, itemsD d = some ds → Ex G G1 → Sat X.K Φ G1 H1 σ E1 → Rp X.K G1 v d → Post X.K W.w (relW X.K) Φ G1 σ (.ok ds E1) Q → Q' v H1) → ta σ H Q' := fun Q' k => by
    refine sa.go S hp fun d E1 G1 H1 v _ e1 S1 r1 hp => ?_
    cases hd : itemsD d with
    | none => rw [hd] at hp; exact hp.elim
    | some ds => rw [hd] at hp; exact k d ds E1 G1 H1 v hd e1 S1 r1 hp
  cases hf : fa E with
  | exc x E' => exact .inl (sa Φ G H σ E _ S (by rw [hf]; have hp' := hp; unfold fun1L at hp'; rw [hf] at hp'; exact hp'))
  | stuck => have hp' := hp; unfold fun1L at hp'; rw [hf] at hp'; exact hp'.elim
  | ok d E' =>
    have hp' := hp; unfold fun1L at hp'; rw [hf] at hp'
    have hp2 : Post X.K W.w (relW X.K) Φ G σ (match itemsD d with | some d => .ok d E' | none => .stuck) Q := hp'
    cases hd : itemsD d with
    | none => rw [hd] at hp2; exact hp2.elim
    | some ds =>
      rw [hd] at hp2
      cases d with
      | tup l =>
        cases hd
        refine .inr (sa Φ G H σ E _ S ?_)
        rw [hf]
        intro G1 H1 v e1 S1 r1
        cases r1 with
        | tup h1 h2 => exact ⟨_, rfl, ⟨_, S1.gh.st h1⟩, hp2 G1 H1 _ e1 S1 (walk_tup h1 h2)⟩
      | lst l =>
        cases hd
        refine .inl (sa Φ G H σ E _ S ?_)
        rw [hf]
        intro G1 H1 v e1 S1 r1
        cases r1 with
        | lst h1 h2 => exact ⟨_, rfl, ⟨_, SqL.of (S1.gh _ _ h1)⟩, hp2 G1 H1 _ e1 S1 (walk_list (SqL.of h1) h2)⟩
      | rol l =>
        cases hd
        refine .inl (sa Φ G H σ E _ S ?_)
        rw [hf]
        intro G1 H1 v e1 S1 r1
        cases r1 with
        | rol h1 h2 => exact ⟨_, rfl, ⟨_, S1.gh.sl h1⟩, hp2 G1 H1 _ e1 S1 (walk_list h1 h2)⟩
      | _ => cases hd
def smI (j : Int) : Bool := decide (j.natAbs < 2 ^ 62)
theorem smI_iff {j : Int} (h : smI j = true) : -(2 ^ 62) ≤ j ∧ j < 2 ^ 62 := by
  have h := of_decide_eq_true h
  omega
def fRng1 (fa : Env → R D) : Env → R (List D) := fun E => (fa E).bind fun a E => match a with
  | .int j => if smI j = true then .ok (upD 0 j.toNat) E else .stuck
  | _ => .stuck
theorem ji_range1 (hm : X.mg "range" = none) (ha : JE X W a fa) (hg : Gl X "range" := by rfl) (hs : starEach [a] X.env = [(false, eval a X.env)] := by rfl) (he : starEach [a] X.env = (false, eval a X.env) :: starEach [] X.env := by rfl) : JI X W tg (.Call (.Name "range" p) [a] [] pos) (fRng1 fa) := by
  obtain ⟨ta, pa, sa⟩ := ha
  refine ⟨_, pi_range1 hg hm (pa_cons pa pa_nil he) hs, fun Φ G H σ E Q S hp => ?_⟩
  refine sa.go S hp fun d E1 G1 H1 v _ e1 S1 r1 hp => ?_
  cases d with
  | int j =>
    simp only at hp
    by_cases c : smI j = true
    · rw [if_pos c] at hp
      cases r1
      exact ⟨j, rfl, (smI_iff c).1, (smI_iff c).2, hp G1 H1 _ (Ex.refl G1) S1 walk_range⟩
    · rw [if_neg c] at hp; exact hp.elim
  | _ => exact hp.elim
def fRng2 (fa fb : Env → R D) : Env → R (List D) := fun E => (fa E).bind fun a E => (fb E).bind fun b E => match a, b with
  | .int i, .int j => if (smI i && smI j) = true then .ok (upD i (j - i).toNat) E else .stuck
  | _, _ => .stuck
theorem ji_range2 (hm : X.mg "range" = none) (ha : JE X W a fa) (hb : JE X W b fb) (hg : Gl X "range" := by rfl) (hs : starEach [a, b] X.env = [(false, eval a X.env), (false, eval b X.env)] := by rfl) (hs2 : starEach [b] X.env = [(false, eval b X.env)] := by rfl)
    (he : starEach [a, b] X.env = (false, eval a X.env) :: starEach [b] X.env := by rfl) (he2 : starEach [b] X.env = (false, eval b X.env) :: starEach [] X.env := by rfl) : JI X W tg (.Call (.Name "range" p) [a, b] [] pos) (fRng2 fa fb) := by
  obtain ⟨ta, pa, sa⟩ := ha
  obtain ⟨tb, pb, sb⟩ := hb
  refine ⟨_, pi_range2 hg hm (pa_cons pa (pa_cons pb pa_nil he2) he) hs hs2, fun Φ G H σ E Q S hp => ?_⟩
  refine sa.go S hp fun d E1 G1 H1 v _ e1 S1 r1 hp => ?_
  refine sb.go S1 hp fun d' E2 G2 H2 u _ e2 S2 r2 hp => ?_
  cases d with
  | int i =>
    cases d' with
    | int j =>
      simp only at hp
      by_cases c : (smI i && smI j) = true
      · rw [if_pos c] at hp
        cases r1
        cases r2
        rw [Bool.and_eq_true] at c
        exact ⟨i, j, rfl, ⟨(smI_iff c.1).1, (smI_iff c.1).2, (smI_iff c.2).1, (smI_iff c.2).2⟩, hp G2 H2 _ (Ex.refl G2) S2 walk_range⟩
      · rw [if_neg c] at hp; exact hp.elim
    | _ => exact hp.elim
  | _ => exact hp.elim
theorem ji_enum (hm : X.mg "enumerate" = none) (ha : JE X W e fa) (hg : Gl X "enumerate" := by rfl) (hs : starEach [e] X.env = [(false, eval e X.env)] := by rfl) (he : starEach [e] X.env = (false, eval e X.env) :: starEach [] X.env := by rfl) :
    JI X W (.Tuple elts kk tpos) (.Call (.Name "enumerate" p) [e] [] pos) (fun1L (fun d => (listD d).map enumD) fa) := by
  obtain ⟨ta, pa, sa⟩ := ha
  refine ⟨_, pi_enum hg hm (pa_cons pa pa_nil he) hs, fun Φ G H σ E Q S hp => ?_⟩
  refine sa.go S hp fun d E1 G1 H1 v _ e1 S1 r1 hp => ?_
  cases d with
  | lst l => cases r1 with | lst h1 h2 => exact ⟨_, _, rfl, SqL.of (S1.gh _ _ h1), hp G1 H1 _ (Ex.refl G1) S1 (walk_enum (SqL.of h1) h2)⟩
  | rol l => cases r1 with | rol h1 h2 => exact ⟨_, _, rfl, S1.gh.sl h1, hp G1 H1 _ (Ex.refl G1) S1 (walk_enum h1 h2)⟩
  | _ => exact hp.elim
def gZip : D → D → Option (List D) := fun a b => (listD a).bind fun x => (listD b).map fun y => zipD x y
def fZip (fa fb : Env → R D) : Env → R (List D) := fun E => (fa E).bind fun a E => (fb E).bind fun b E => match gZip a b with | some d => .ok d E | none => .stuck
theorem Rp.listG {K : PySem.W.Frag} {G : Hp} {v : V} {d : D} {l : List D} (h : Rp K G v d) (hl : listD d = some l) : ∃ p vs, v = .ref p ∧ SqL K G p vs ∧ RpA K G vs l := by
  cases d with
  | lst l' => cases hl; cases h with | lst h1 h2 => exact ⟨_, _, rfl, SqL.of h1, h2⟩
  | rol l' => cases hl; cases h with | rol h1 h2 => exact ⟨_, _, rfl, h1, h2⟩
  | _ => cases hl
theorem ji_zip (hm : X.mg "zip" = none) (ha : JE X W a fa) (hb : JE X W b fb) (hg : Gl X "zip" := by rfl)
    (he : starEach [a, b] X.env = (false, eval a X.env) :: starEach [b] X.env := by rfl) (he2 : starEach [b] X.env = (false, eval b X.env) :: starEach [] X.env := by rfl) (hpl : (backTo pos (starEach [b] X.env)).any (·.1) = false := by rfl) :
    JI X W (.Tuple elts kk tpos) (.Call (.Name "zip" p) [a, b] [] pos) (fZip fa fb) := by
  obtain ⟨ta, pa, sa⟩ := ha
  obtain ⟨tb, pb, sb⟩ := hb
  refine ⟨_, pi_zip hg hm (pa_cons pa (pa_cons pb pa_nil he2) he) he hpl, fun Φ G H σ E Q S hp => ?_⟩
  refine sa.go S hp fun d E1 G1 H1 v _ e1 S1 r1 hp => ?_
  refine sb.go S1 hp fun d' E2 G2 H2 u _ e2 S2 r2 hp => ?_
  cases hd : gZip d d' with
  | none => rw [hd] at hp; exact hp.elim
  | some ds =>
    rw [hd] at hp
    obtain ⟨x, h1, hd⟩ := Option.bind_eq_some_iff.mp hd
    obtain ⟨y, h2, rfl⟩ := Option.map_eq_some_iff.mp hd
    obtain ⟨p, vs, rfl, h3, h4⟩ := (Rp.mono e2 _ r1).listG h1
    obtain ⟨q, us, rfl, h5, h6⟩ := r2.listG h2
    exact ⟨p, q, vs, us, rfl, S2.gh.sl h3, S2.gh.sl h5, hp G2 H2 _ (Ex.refl G2) S2 (walk_zip h3 h4 h5 h6)⟩
def gRevA : D → Option (List D) := fun d => (itemsD d).map List.reverse
theorem ji_rev (hm : X.mg "reversed" = none) (ha : JE X W e fa) (hg : Gl X "reversed" := by rfl) (he : starEach [e] X.env = (false, eval e X.env) :: starEach [] X.env := by rfl) : JI X W tg (.Call (.Name "reversed" p) [e] [] pos) (fun1L gRevA fa) := by
  obtain ⟨ta, pa, sa⟩ := ha
  refine ⟨_, RT.pi_revA hg hm pa he, fun Φ G H σ E Q S hp => ?_⟩
  refine sa.go S hp fun d E1 G1 H1 v _ e1 S1 r1 hp => ?_
  cases d with
  | lst l => cases r1 with | lst h1 h2 => exact ⟨_, _, rfl, .inl ⟨SqL.of (S1.gh _ _ h1), hp G1 H1 _ (Ex.refl G1) S1 (walk_revL (SqL.of h1) h2)⟩⟩
  | rol l => cases r1 with | rol h1 h2 => exact ⟨_, _, rfl, .inl ⟨S1.gh.sl h1, hp G1 H1 _ (Ex.refl G1) S1 (walk_revL h1 h2)⟩⟩
  | tup l => cases r1 with | tup h1 h2 => exact ⟨_, _, rfl, .inr ⟨S1.gh.st h1, hp G1 H1 _ (Ex.refl G1) S1 (walk_revT h1 h2)⟩⟩
  | _ => exact hp.elim
end

/-! ### for -/
def forD (g : D → Env → Option Env) (f : Env → RS) : List D → Env → RS
  | [], E => .nx E
  | d :: ds, E => match g d E with
    | none => .stuck
    | some E1 => match f E1 with
      | .nx E2 => forD g f ds E2
      | .ct E2 => forD g f ds E2
      | .bk E2 => .nx E2
      | r => r
def sFor (fi : Env → R (List D)) (g : D → Env → Option Env) (f : Env → RS) : Env → RS := fun E => (fi E).bindS fun ds E => forD g f ds E
/-- what a loop's turn needs -/
structure ForW (K : PySem.W.Frag) (W : WX) (Φ : Fr) (G1 : Hp) (D : Ends) (g : J.D → Env → Option Env) (f : Env → RS) (ds : List J.D) (i m : Nat) (σ : St) (H : Hp) : Prop where
  le : i ≤ ds.length
  m : m = ds.length - i
  at' : ∃ G E, Ex G1 G ∧ Sat K Φ G H σ E ∧ PostS K W Φ G σ (forD g f (ds.drop i) E) D
theorem js_for {iter tg : Expr} {body : List Stmt} {is : List Nat} {X : Cx} {W : WX} {pos : Pos} {fi : Env → R (List D)} {g : D → Env → Option Env} {f : Env → RS} (hp : PassesOwn (model X.prog X.w) X.A X.env X.xe) (hc : X.calm = true) (hi : JI X (pw W) tg iter fi) (hg : JG X tg is g) (hb : JSs X W body f)
    (hs : ∀ x, foldedSetIterable iter X.env x = pure x := by intro _; rfl) : JS X W (.For tg iter body [] pos) (sFor fi g f) := by
  obtain ⟨wi, p1, s1⟩ := hi
  obtain ⟨tgt, p2, s2⟩ := hg
  obtain ⟨tb, p3, s3⟩ := hb
  refine ⟨_, ps_for hp hc p1 p2 p3 hs, fun Φ G H σ E D S hP => ?_⟩
  refine s1.goS S hP fun ds E1 G1 H1 J _ e1 S1 wk hP => ?_
  refine ⟨ForW X.K W Φ G1 D g f ds, ⟨_, Nat.zero_le _, rfl, G1, E1, Ex.refl G1, S1, hP⟩, fun i m σ2 H2 w => ?_⟩
  obtain ⟨hle, rfl, G2, E2, x2, S2, hP2⟩ := w
  obtain ⟨ws, wg⟩ := wk Φ G2 H2 σ2 E2 x2 S2 i hle
  by_cases hi : i = ds.length
  · refine .inl ⟨ws hi, ?_⟩
    rw [hi, List.drop_length] at hP2
    exact hP2 G2 H2 σ2 (Ex.refl G2) S2
  · have hlt : i < ds.length := by omega
    have hd : ds[i]? = some ds[i] := List.getElem?_eq_getElem hlt
    rw [List.drop_eq_getElem_cons hlt] at hP2
    obtain ⟨go, step⟩ := wg _ hd
    refine .inr ⟨go, fun σ' H' => ∃ m', m' < ds.length - i ∧ ForW X.K W Φ G1 D g f ds (i + 1) m' σ' H', fun σ' H' h => h, fun x H' hy => ?_⟩
    obtain ⟨G3, x3, S3, r3⟩ := step x H' hy
    simp only [forD] at hP2
    cases hgd : g ds[i] E2 with
    | none => rw [hgd] at hP2; exact hP2.elim
    | some E3 =>
      rw [hgd] at hP2
      refine s2 Φ G3 H' σ2 E2 x _ E3 _ S3 r3 hgd fun G4 H4 σ4 x4 S4 _ => ?_
      refine s3 Φ G4 H4 σ4 E3 _ S4 ?_
      have again : ∀ {E5 : Env}, PostS X.K W Φ G2 σ2 (forD g f (ds.drop (i + 1)) E5) D → ∀ G5 H5 σ5, Ex G4 G5 → Sat X.K Φ G5 H5 σ5 E5 → ∃ m', m' < ds.length - i ∧ ForW X.K W Φ G1 D g f ds (i + 1) m' σ5 H5 := fun {E5} h5 G5 H5 σ5 x5 S5 =>
        ⟨ds.length - (i + 1), by omega, by omega, rfl, G5, E5, x2.trans (x3.trans (x4.trans x5)), S5, PostS.mono (x3.trans (x4.trans x5)) h5⟩
      cases hf : f E3 with
      | nx E5 => simp only [hf] at hP2; exact again hP2
      | ct E5 => simp only [hf] at hP2; exact again hP2
      | bk E5 => simp only [hf] at hP2; exact fun G5 H5 σ5 x5 S5 => hP2 G5 H5 σ5 (x3.trans (x4.trans x5)) S5
      | rt rv E5 =>
        simp only [hf] at hP2
        cases rv with
        | v d => exact fun G5 H5 σ5 v x5 S5 => hP2 G5 H5 σ5 v (x3.trans (x4.trans x5)) S5
        | l d => exact fun G5 H5 σ5 v x5 S5 => hP2 G5 H5 σ5 v (x3.trans (x4.trans x5)) S5
      | exc x E5 => simp only [hf] at hP2; exact PostX.mono (x3.trans x4) hP2
      | stuck => simp only [hf] at hP2; exact hP2.elim

/-! ### while -/
def whileD (t : Env → R Bool) (f : Env → RS) : Nat → Env → RS
  | 0, _ => .stuck
  | n + 1, E => (t E).bindS fun b E1 => if b = true then (match f E1 with
      | .nx E2 => whileD t f n E2
      | .ct E2 => whileD t f n E2
      | .bk E2 => .nx E2
      | r => r) else .nx E1
theorem js_while {c : Expr} {body : List Stmt} {X : Cx} {W : WX} {pos : Pos} {t : Env → R Bool} {f : Env → RS} (fuel : Env → Nat) (hp : PassesOwn (model X.prog X.w) X.A X.env X.xe) (hc : JT X W c t) (hb : JSs X W body f) : JS X W (.While c body [] pos) (fun E => whileD t f (fuel E) E) := by
  obtain ⟨tt, p1, s1⟩ := hc
  obtain ⟨tb, p3, s3⟩ := hb
  refine ⟨_, ps_while hp p1 p3, fun Φ G H σ E D S hP => ?_⟩
  refine ⟨fun m σ' H' => ∃ G' E', Ex G G' ∧ Sat X.K Φ G' H' σ' E' ∧ PostS X.K W Φ G' σ' (whileD t f m E') D, ⟨fuel E, G, E, Ex.refl G, S, hP⟩, fun m σ2 H2 w => ?_⟩
  obtain ⟨G2, E2, x2, S2, hP2⟩ := w
  cases m with
  | zero => exact hP2.elim
  | succ m =>
    refine s1.goS S2 hP2 fun b E3 G3 H3 b' _ x3 S3 r hP3 => ?_
    have r : b = b' := r
    subst r
    cases b with
    | false => exact iteF (hP3 G3 H3 σ2 (Ex.refl G3) S3)
    | true =>
      simp only [if_true] at hP3 ⊢
      refine ⟨fun σ' H' => ∃ m', m' < m + 1 ∧ ∃ G' E', Ex G G' ∧ Sat X.K Φ G' H' σ' E' ∧ PostS X.K W Φ G' σ' (whileD t f m' E') D, fun σ' H' h => h, ?_⟩
      refine s3 Φ G3 H3 σ2 E3 _ S3 ?_
      have again : ∀ {E5 : Env}, PostS X.K W Φ G3 σ2 (whileD t f m E5) D → ∀ G5 H5 σ5, Ex G3 G5 → Sat X.K Φ G5 H5 σ5 E5 → ∃ m', m' < m + 1 ∧ ∃ G' E', Ex G G' ∧ Sat X.K Φ G' H5 σ5 E' ∧ PostS X.K W Φ G' σ5 (whileD t f m' E') D := fun {E5} h5 G5 H5 σ5 x5 S5 =>
        ⟨m, by omega, G5, E5, x2.trans (x3.trans x5), S5, PostS.mono x5 h5⟩
      cases hf : f E3 with
      | nx E5 => simp only [hf] at hP3; exact again hP3
      | ct E5 => simp only [hf] at hP3; exact again hP3
      | bk E5 => simp only [hf] at hP3; exact fun G5 H5 σ5 x5 S5 => hP3 G5 H5 σ5 x5 S5
      | rt rv E5 =>
        simp only [hf] at hP3
        cases rv with
        | v d => exact hP3
        | l d => exact hP3
      | exc x E5 => simp only [hf] at hP3; exact hP3
      | stuck => simp only [hf] at hP3; exact hP3.elim
end J

namespace J
open PySem PySem.Spec PyProof.Rows L2

/-! ### slots forgotten -/
def wipeE : List Nat → Env → Env
  | [], E => E
  | v :: vs, E => (wipeE vs E).set v .no
section
variable {K : PySem.W.Frag} {Φ : Fr} {G H : Hp} {σ σ' : St} {E : Env}
theorem Sat.wipe (S : Sat K Φ G H σ E) : ∀ vs : List Nat, Sat K Φ G H (L2.wipe σ vs) (wipeE vs E)
  | [] => S
  | v :: vs => (Sat.wipe S vs).setN
theorem wipeE_len (E : Env) : ∀ vs : List Nat, (wipeE vs E).length = E.length
  | [] => rfl
  | v :: vs => by unfold wipeE; rw [List.length_set, wipeE_len E vs]
theorem wipeE_in {i : Nat} : ∀ {vs : List Nat}, i ∈ vs → (wipeE vs E)[i]? = some .no ∨ (wipeE vs E)[i]? = none
  | [], h => by cases h
  | v :: vs, h => by
    unfold wipeE
    by_cases hv : v = i
    · subst hv
      by_cases hl : v < (wipeE vs E).length
      · rw [List.getElem?_set_self hl]; exact .inl rfl
      · rw [List.getElem?_eq_none (by simpa using hl)]; exact .inr rfl
    · rw [List.getElem?_set_ne hv]
      rcases List.mem_cons.mp h with z | z
      · exact absurd z.symm hv
      · exact wipeE_in z
theorem wipe_in {i : Nat} : ∀ {vs : List Nat}, i ∈ vs → (L2.wipe σ vs)[i]? = some none ∨ (L2.wipe σ vs)[i]? = none
  | [], h => by cases h
  | v :: vs, h => by
    unfold L2.wipe
    by_cases hv : v = i
    · subst hv
      by_cases hl : v < (L2.wipe σ vs).length
      · rw [List.getElem?_set_self hl]; exact .inl rfl
      · rw [List.getElem?_eq_none (by simpa using hl)]; exact .inr rfl
    · rw [List.getElem?_set_ne hv]
      rcases List.mem_cons.mp h with z | z
      · exact absurd z.symm hv
      · exact wipe_in z
/-- the slots that count are the same -/
theorem Sat.agree (S : Sat K Φ G H σ E) (hl : σ'.length = σ.length) (h : ∀ (i : Nat) (s : Sl), E[i]? = some s → s ≠ Sl.no → σ'[i]? = σ[i]?) : Sat K Φ G H σ' E := by
  refine ⟨hl.trans S.len, fun i s hs => ?_, S.gh, S.fh, S.fg, fun i b l p h1 h2 => ?_, fun i j b b' l l' p h1 h2 h3 h4 => ?_⟩
  · by_cases hn : s = .no
    · subst hn
      have hi : i < σ'.length := by rw [hl, S.len]; exact (List.getElem?_eq_some_iff.mp hs).1
      exact ⟨_, List.getElem?_eq_getElem hi, trivial⟩
    · rw [h i s hs hn]; exact S.sl i s hs
  · rw [h i _ h1 (by simp)] at h2; exact S.ow i b l p h1 h2
  · rw [h i _ h1 (by simp)] at h3
    rw [h j _ h2 (by simp)] at h4
    exact S.di i j b b' l l' p h1 h2 h3 h4
/-- back to the slots as they were -/
theorem Sat.unwipe {vs : List Nat} (S : Sat K Φ G H σ' E) (h : L2.wipe σ' vs = L2.wipe σ vs) : Sat K Φ G H σ (wipeE vs E) := by
  have S1 := S.wipe vs
  rw [h] at S1
  refine S1.agree (wipe_length σ vs).symm fun i s hs hn => ?_
  by_cases hi : i ∈ vs
  · rcases wipeE_in (E := E) hi with z | z
    · rw [z] at hs; cases hs; exact absurd rfl hn
    · rw [z] at hs; cases hs
  · exact (wipe_out hi).symm
theorem wipe_of {vs is : List Nat} (hc : Chg is (L2.wipe σ vs) σ') (hs : ∀ i ∈ is, i ∈ vs) : L2.wipe σ' vs = L2.wipe σ vs := by
  have hl : σ'.length = σ.length := hc.1.trans (wipe_length σ vs)
  apply List.ext_getElem?
  intro i
  by_cases hi : i ∈ vs
  · by_cases hb : i < σ.length
    · have a1 : i < (L2.wipe σ' vs).length := by rw [wipe_length, hl]; exact hb
      have a2 : i < (L2.wipe σ vs).length := by rw [wipe_length]; exact hb
      have b1 : (L2.wipe σ' vs)[i]? = some none := by
        rcases wipe_in (σ := σ') hi with z | z
        · exact z
        · rw [List.getElem?_eq_getElem a1] at z; cases z
      have b2 : (L2.wipe σ vs)[i]? = some none := by
        rcases wipe_in (σ := σ) hi with z | z
        · exact z
        · rw [List.getElem?_eq_getElem a2] at z; cases z
      rw [b1, b2]
    · rw [List.getElem?_eq_none (by rw [wipe_length, hl]; omega), List.getElem?_eq_none (by rw [wipe_length]; omega)]
  · rw [wipe_out hi, hc.2 i (fun z => hi (hs i z))]
/-- a list that nobody else sees is locked -/
def Fr.lk (Φ : Fr) (D : Addr) (vs : List V) : Fr := ⟨upd Φ.F D (.lst vs), Φ.io⟩
theorem Sat.lk (S : Sat K Φ G H σ E) {p : Addr} {vs : List V} (hp : H p = some (.lst vs)) (g : G p = none) (n : NotOwn σ E p) : Sat K (Φ.lk p vs) G H σ E := by
  refine ⟨S.len, S.sl, S.gh, fun a o h => ?_, fun a h => ?_, fun i b l q h1 h2 => ?_, S.di⟩
  · by_cases ha : a = p
    · subst ha
      have h' : upd Φ.F a (.lst vs) a = some o := h
      rw [upd_same] at h'; rw [← h']; exact hp
    · have h' : upd Φ.F p (.lst vs) a = some o := h
      rw [upd_ne ha] at h'; exact S.fh a o h'
  · by_cases ha : a = p
    · subst ha; exact g
    · refine S.fg a fun z => h ?_
      show upd Φ.F p (.lst vs) a = none
      rw [upd_ne ha]; exact z
  · obtain ⟨h3, h4, h5⟩ := S.ow i b l q h1 h2
    refine ⟨h3, ?_, h5⟩
    show upd Φ.F p (.lst vs) q = none
    rw [upd_ne (fun z => n i b l h1 (by rw [← z]; exact h2))]
    exact h4
theorem Sat.unlk {p : Addr} {vs : List V} (S : Sat K (Φ.lk p vs) G H σ E) (hF : Φ.F p = none) : Sat K Φ G H σ E ∧ H p = some (.lst vs) ∧ G p = none ∧ NotOwn σ E p := by
  have hs : (Φ.lk p vs).F p = some (.lst vs) := upd_same
  refine ⟨⟨S.len, S.sl, S.gh, fun a o h => ?_, fun a h => ?_, fun i b l q h1 h2 => ?_, S.di⟩, S.fh p _ hs, S.fg p (by rw [hs]; simp), fun i b l h1 h2 => ?_⟩
  · by_cases ha : a = p
    · subst ha; rw [hF] at h; cases h
    · exact S.fh a o (by show upd Φ.F p (.lst vs) a = some o; rw [upd_ne ha]; exact h)
  · by_cases ha : a = p
    · subst ha; exact absurd hF h
    · exact S.fg a (by show upd Φ.F p (.lst vs) a ≠ none; rw [upd_ne ha]; exact h)
  · obtain ⟨h3, h4, h5⟩ := S.ow i b l q h1 h2
    refine ⟨h3, ?_, h5⟩
    by_cases ha : q = p
    · subst ha; exact hF
    · have h4' : upd Φ.F p (.lst vs) q = none := h4
      rw [upd_ne ha] at h4'; exact h4'
  · obtain ⟨h3, h4, h5⟩ := S.ow i b l p h1 h2
    rw [hs] at h4; cases h4
end

/-! ### [f for g in ds if t] -/
def R.nx {α : Type} (m : R α) : R α := match m with
  | .ok a E => .ok a E
  | _ => .stuck
def lcD (vs : List Nat) (g : D → Env → Option Env) (t : Env → R Bool) (f : Env → R D) : List D → List D → Env → R (List D)
  | [], acc, E => .ok acc E
  | d :: ds, acc, E => match g d (wipeE vs E) with
    | none => .stuck
    | some E1 => match t E1 with
      | .ok true E2 => (match f E2 with
        | .ok y E3 => if acc.length < 16777216 then lcD vs g t f ds (acc ++ [y]) (wipeE vs E3) else .stuck
        | _ => .stuck)
      | .ok false E2 => lcD vs g t f ds acc (wipeE vs E2)
      | _ => .stuck
def fLc (vs : List Nat) (fi : Env → R (List D)) (g : D → Env → Option Env) (t : Env → R Bool) (f : Env → R D) : Env → R (List D) := fun E => (fi E).bind fun ds E => lcD vs g t f ds [] E
def W0 : WX := fun _ _ _ _ => False
def V0 : WJ := pw W0
structure LcW (K : PySem.W.Frag) (W : WX) (Φ : Fr) (G1 : Hp) (σ : St) (P : Addr) (Q : V → Hp → Prop) (vs : List Nat) (g : D → Env → Option Env) (t : Env → R Bool) (f : Env → R D) (ds : List D) (i m : Nat) (H : Hp) : Prop where
  le : i ≤ ds.length
  m : m = ds.length - i
  at' : ∃ G E xs acc, Ex G1 G ∧ Sat K Φ G H σ E ∧ H P = some (.lst xs) ∧ RpA K G xs acc ∧ G P = none ∧ Φ.F P = none ∧ NotOwn σ E P ∧ Post K W (relL K) Φ G σ (lcD vs g t f (ds.drop i) acc E) Q
theorem NotOwn.wipe {σ : St} {E : Env} {p : Addr} (n : NotOwn σ E p) : ∀ vs : List Nat, NotOwn (L2.wipe σ vs) (wipeE vs E) p := fun vs i b l h1 h2 => by
  have hi : i ∉ vs := fun z => by
    rcases wipeE_in (E := E) z with q | q
    · rw [q] at h1; cases h1
    · rw [q] at h1; cases h1
  have key : ∀ ws : List Nat, i ∉ ws → (wipeE ws E)[i]? = E[i]? := fun ws => by
    induction ws with
    | nil => intro _; rfl
    | cons w ws ih =>
      intro hw
      unfold wipeE
      rw [List.getElem?_set_ne (fun z => hw (by simp [z]))]
      exact ih fun z => hw (List.mem_cons_of_mem _ z)
  rw [key vs hi] at h1
  rw [wipe_out hi] at h2
  exact n i b l h1 h2
theorem Post.imp {α β : Type} {K : PySem.W.Frag} {W : WX} {rel : Rel α β} {Φ : Fr} {G : Hp} {σ : St} {r : R α} {Q Q' : β → Hp → Prop} (h : Post K W rel Φ G σ r Q) (k : ∀ b H, Q b H → Q' b H) : Post K W rel Φ G σ r Q' := by
  cases r with
  | ok a E' => exact fun G' H' b e S q => k b H' (h G' H' b e S q)
  | exc x E' => exact h
  | stuck => exact h
theorem lc_loop {K : PySem.W.Frag} {W : WX} {Φ : Fr} {G1 : Hp} {σ : St} {P : Addr} {vs is : List Nat} {g : D → Env → Option Env} {t : Env → R Bool} {f : Env → R D} {tg : TG} {tt : TT} {te : TE} {J : It} {ds : List D} {Fin : Hp → Prop} (wk : WalkOk K J G1 ds) (hg : GGo K is g tg) (hvs : ∀ i ∈ is, i ∈ vs) (ht : Snd K V0 relT tt t) (he : Snd K V0 (relE K) te f) :
    ∀ (i m : Nat) (H2 : Hp), LcW K W Φ G1 σ P (fun v H => v = .ref P → Fin H) vs g t f ds i m H2 → (J.stop i H2 ∧ Fin H2) ∨ (J.go i H2 ∧ ∃ Nx : Hp → Prop, (∀ H', Nx H' → ∃ m', m' < m ∧ LcW K W Φ G1 σ P (fun v H => v = .ref P → Fin H) vs g t f ds (i + 1) m' H') ∧ ∀ x H', J.yld i H2 x H' → tg x (L2.wipe σ vs) H' fun σ2 H2 => L2.wipe σ2 vs = L2.wipe σ vs ∧ tt σ2 H2 fun b H3 =>
      if b = true then te σ2 H3 fun y H4 => ∃ acc, H4 P = some (.lst acc) ∧ acc.length < sizeLine ∧ Nx (upd H4 P (.lst (acc ++ [y]))) else Nx H3) := by
  intro i m H2 w
  obtain ⟨hle, rfl, G2, E2, xs, acc, x2, S2, hD, ra, gD, fD, nD, hP2⟩ := w
  obtain ⟨ws, wg⟩ := wk Φ G2 H2 σ E2 x2 S2 i hle
  by_cases hi' : i = ds.length
  · refine .inl ⟨ws hi', ?_⟩
    rw [hi', List.drop_length] at hP2
    exact hP2 G2 H2 (.ref P) (Ex.refl G2) S2 ⟨P, xs, rfl, hD, ra, gD, fD, nD⟩ rfl
  · have hlt : i < ds.length := by omega
    have hd : ds[i]? = some ds[i] := List.getElem?_eq_getElem hlt
    rw [List.drop_eq_getElem_cons hlt] at hP2
    obtain ⟨go, _⟩ := wg _ hd
    refine .inr ⟨go, fun H' => ∃ m', m' < ds.length - i ∧ LcW K W Φ G1 σ P (fun v H => v = .ref P → Fin H) vs g t f ds (i + 1) m' H', fun H' h => h, fun x H' hy => ?_⟩
    have S2l := S2.lk hD gD nD
    obtain ⟨_, wg2⟩ := wk (Φ.lk P xs) G2 H2 σ E2 x2 S2l i hle
    obtain ⟨G3, x3, S3, r3⟩ := (wg2 _ hd).2 x H' hy
    simp only [lcD] at hP2
    cases hgd : g ds[i] (wipeE vs E2) with
    | none => rw [hgd] at hP2; exact hP2.elim
    | some E3 =>
      rw [hgd] at hP2
      refine hg (Φ.lk P xs) G3 H' _ (wipeE vs E2) x _ E3 _ (S3.wipe vs) r3 hgd fun G4 H4 σ4 x4 S4 c4 => ?_
      have hw := wipe_of c4 hvs
      refine ⟨hw, ?_⟩
      refine ht (Φ.lk P xs) G4 H4 σ4 E3 _ S4.pw ?_
      cases hte : t E3 with
      | exc x E5 => simp only [hte] at hP2; exact hP2.elim
      | stuck => simp only [hte] at hP2; exact hP2.elim
      | ok b E5 =>
        simp only [hte] at hP2
        intro G5 H5 b' x5 S5 hb
        have hb' : b = b' := hb
        subst hb'
        have again : ∀ {ys : List V} {ac : List D} {G6 : Hp} {H6 : Hp} {E6 : Env}, Ex G2 G6 → Sat K Φ G6 H6 σ (wipeE vs E6) → H6 P = some (.lst ys) → RpA K G6 ys ac → G6 P = none → NotOwn σ (wipeE vs E6) P → Post K W (relL K) Φ G2 σ (lcD vs g t f (ds.drop (i + 1)) ac (wipeE vs E6)) (fun v H => v = .ref P → Fin H) →
            ∃ m', m' < ds.length - i ∧ LcW K W Φ G1 σ P (fun v H => v = .ref P → Fin H) vs g t f ds (i + 1) m' H6 := fun x6 S6 h6 r6 g6 n6 p6 => ⟨ds.length - (i + 1), by omega, by omega, rfl, _, _, _, _, x2.trans x6, S6, h6, r6, g6, fD, n6, Post.mono x6 p6⟩
        cases b with
        | false =>
          refine iteF ?_
          obtain ⟨U1, U2, U3, U4⟩ := S5.unlk fD
          have U := U1.unwipe hw
          refine again (x3.trans (x4.trans x5)) U U2 (ra.mono (x3.trans (x4.trans x5))) U3 (fun j b l h1 h2 => ?_) hP2
          obtain ⟨k1, k2⟩ := (S5.unwipe hw).ow j b l P h1 h2 |>.2
          rw [show (Φ.lk P xs).F P = some (.lst xs) from upd_same] at k1
          cases k1
        | true =>
          refine iteT ?_
          refine he (Φ.lk P xs) G5 H5 σ4 E5 _ S5.pw ?_
          cases hfe : f E5 with
          | exc x E6 => simp only [hfe] at hP2; exact hP2.elim
          | stuck => simp only [hfe] at hP2; exact hP2.elim
          | ok y E6 =>
            simp only [hfe] at hP2
            intro G6 H6 v x6 S6 r6
            obtain ⟨U1, U2, U3, U4⟩ := S6.unlk fD
            have U := U1.unwipe hw
            have xx := x3.trans (x4.trans (x5.trans x6))
            have nn : NotOwn σ (wipeE vs E6) P := fun j b l h1 h2 => by
              obtain ⟨k1, k2⟩ := (S6.unwipe hw).ow j b l P h1 h2 |>.2
              rw [show (Φ.lk P xs).F P = some (.lst xs) from upd_same] at k1
              cases k1
            by_cases c : acc.length < 16777216
            · simp only [if_pos c] at hP2
              have ra6 := ra.mono xx
              refine ⟨xs, U2, by rw [sizeLine_eq, ra.length]; exact c, ?_⟩
              refine again xx ?_ upd_same (ra6.append (.cons r6 .nil)) U3 nn hP2
              refine ⟨U.len, fun j s hs => ?_, U.gh.mut U3, U.fh.mut fD, U.fg, U.ow, U.di⟩
              obtain ⟨x, h1, h2⟩ := U.sl j s hs
              refine ⟨x, h1, h2.mono (Ex.refl _) fun q b l e1 e2 => ?_⟩
              subst e1 e2
              exact upd_ne fun z => by subst z; exact nn j b l hs h1
            · simp only [if_neg c] at hP2; exact hP2.elim
theorem lc_snd {K : PySem.W.Frag} {W : WJ} {vs is : List Nat} {fi : Env → R (List D)} {g : D → Env → Option Env} {t : Env → R Bool} {f : Env → R D} {wi : TI} {tg : TG} {tt : TT} {te : TE} (hi : Snd K W (relW K) wi fi) (hg : GGo K is g tg) (hvs : ∀ i ∈ is, i ∈ vs) (ht : Snd K V0 relT tt t) (he : Snd K V0 (relE K) te f) :
    Snd K W (relL K) (tLc wi tg tt te vs) (fLc vs fi g t f) := by
  intro Φ G H σ E Q S hP
  refine hi.go S hP fun ds E1 G1 H1 J _ e1 S1 wk hP => ?_
  intro P hPn
  exact ⟨_, ⟨_, Nat.zero_le _, rfl, G1, E1, [], [], Ex.refl G1, S1.newH hPn, upd_same, .nil, S1.gh.back hPn, S1.fh.back hPn, S1.notOwn hPn, hP.imp fun b H q z => by rw [← z]; exact q⟩, lc_loop (W := W.w) (Fin := fun H => Q (.ref P) H) wk hg hvs ht he⟩
section
variable {X : Cx} {W : WJ} {elt tg iter : Expr} {ifs : List Expr} {scope : Scope} {pos : Pos} {is : List Nat} {fi : Env → R (List D)} {g : D → Env → Option Env} {t : Env → R Bool} {f : Env → R D}
theorem jl_lc (own : List (Str × Nat)) (hc : X.calm = true) (hN : X.N.Nodup) (hi : JI X W tg iter fi) (ok : BlkOk X.N X.env.scope scope own)
    (hg : ∀ (s : Shared) (H : Hp) (C : Addr) (cl : List (Str × Addr)) (fp : List Addr), JG (X.blk s H scope (compEnvC scope cl C X.env) fp) tg is g) (hvs : ∀ i ∈ is, i ∈ own.map (·.2))
    (ht : ∀ (s : Shared) (H : Hp) (C : Addr) (cl : List (Str × Addr)) (fp : List Addr), JTs (X.blk s H scope (compEnvC scope cl C X.env) fp) V0 ifs t)
    (he : ∀ (s : Shared) (H : Hp) (C : Addr) (cl : List (Str × Addr)) (fp : List Addr), JE (X.blk s H scope (compEnvC scope cl C X.env) fp) V0 elt f) (hs : ∀ x, foldedSetIterable iter X.env x = pure x := by intro _; rfl) :
    JL X W (.ListComp elt [⟨tg, iter, ifs, 0⟩] scope pos) (fLc (own.map (·.2)) fi g t f) := by
  obtain ⟨wi, p1, s1⟩ := hi
  exact ⟨_, pe_lc hc hN p1 ok (fun s H C cl fp => (hg s H C cl fp).can) (fun s H C cl fp => (ht s H C cl fp).can) (fun s H C cl fp => (he s H C cl fp).can) hs, lc_snd s1 canG.go hvs canE.snd canE.snd⟩
theorem js_setLc {W : WX} (i : Nat) {y : Str} {py spos : Pos} (own : List (Str × Nat)) (hc : X.calm = true) (hN : X.N.Nodup) (hi : JI X (pw W) tg iter fi) (ok : BlkOk X.N X.env.scope scope own)
    (hg : ∀ (s : Shared) (H : Hp) (C : Addr) (cl : List (Str × Addr)) (fp : List Addr), JG (X.blk s H scope (compEnvC scope cl C X.env) fp) tg is g) (hvs : ∀ i ∈ is, i ∈ own.map (·.2))
    (ht : ∀ (s : Shared) (H : Hp) (C : Addr) (cl : List (Str × Addr)) (fp : List Addr), JTs (X.blk s H scope (compEnvC scope cl C X.env) fp) V0 ifs t)
    (he : ∀ (s : Shared) (H : Hp) (C : Addr) (cl : List (Str × Addr)) (fp : List Addr), JE (X.blk s H scope (compEnvC scope cl C X.env) fp) V0 elt f)
    (hy : X.N[i]? = some y := by rfl) (hyl : X.env.scope.names.lookup y = some .local := by rfl) (hk : X.env.scope.kind = .function := by rfl) (hl : (py.line == pos.line) = true := by rfl) (hl3 : (py.line == pos.line) = true := by rfl)
    (ha : (scope.names.any fun (n, k) => n == y && (k == .local || k == .cell)) = false := by decide +kernel) (hs : ∀ x, foldedSetIterable iter X.env x = pure x := by intro _; rfl) :
    JS X W (.Assign [.Name y py] (.ListComp elt [⟨tg, iter, ifs, 0⟩] scope pos) spos) (sSetL i (fLc (own.map (·.2)) fi g t f)) := by
  obtain ⟨wi, p1, s1⟩ := hi
  refine ⟨_, ps_setLc (g := canG X.K is g) (tt := canE X.K V0 relT t) (te := canE X.K V0 (relE X.K) f) hc hN hy hyl (sw_true hk hyl hl3 ha) p1 ok (fun s H C cl fp => (hg s H C cl fp).can) (fun s H C cl fp => (ht s H C cl fp).can) (fun s H C cl fp => (he s H C cl fp).can) hs, fun Φ G H σ E D S hp => ?_⟩
  have sn : Snd X.K (pw W) (relL X.K) _ (fLc (own.map (·.2)) fi g t f) := lc_snd s1 (canG.go (K := X.K) (is := is) (g := g)) hvs (canE.snd (K := X.K) (W := V0) (rel := relT) (f := t)) (canE.snd (K := X.K) (W := V0) (rel := relE X.K) (f := f))
  refine sn.goS S hp fun l E' G' H' v _ e' S' r hp => ?_
  obtain ⟨q, vs, rfl, h1, h2, h3, h4, h5⟩ := r
  exact hp G' H' _ (Ex.refl G') (S'.setO h1 h2 h3 h4 h5)
end

/-! ### one's own list, given away -/
def fGive (i : Nat) : Env → R (List D) := fun E => match E[i]? with
  | some (.own false l) => .ok l (E.set i .no)
  | _ => .stuck
theorem jl_give {X : Cx} {W : WJ} {pos : Pos} (i : Nat) {x : Str} (hN : X.N[i]? = some x := by rfl) (hv : Vis X.env.scope x := by first | exact Or.inl rfl | exact Or.inr (Or.inl rfl) | exact Or.inr (Or.inr rfl)) (hd : (x == ("__debug__" : Str)) = false := by decide)
    (hcd : (x == ("__classdict__" : Str)) = false := by decide) : JL X W (.Name x pos) (fGive i) := by
  refine ⟨tVar i, pe_var hN hv hd hcd, fun Φ G H σ E Q S hp => ?_⟩
  unfold fGive at hp
  cases e : E[i]? with
  | none => rw [e] at hp; exact hp.elim
  | some s =>
    rw [e] at hp
    cases s with
    | no => exact hp.elim
    | val _ => exact hp.elim
    | own b l =>
      cases b with
      | true => exact hp.elim
      | false =>
        obtain ⟨x, hx, p, vs, rfl, h1, h2⟩ := S.sl i _ e
        obtain ⟨g, f, _⟩ := S.ow i false l p e hx
        have S' : Sat X.K Φ G H σ (E.set i .no) := by
          have S1 := S.setN (i := i) (x := σ[i]?.join)
          have e1 : σ.set i σ[i]?.join = σ := by
            rw [hx]
            apply List.ext_getElem?
            intro j
            by_cases hj : i = j
            · subst hj
              rw [List.getElem?_set_self (List.getElem?_eq_some_iff.mp hx).1, hx]; rfl
            · rw [List.getElem?_set_ne hj]
          rw [e1] at S1; exact S1
        refine ⟨.ref p, hx, hp G H _ (Ex.refl G) S' ⟨p, vs, rfl, h1, h2, g, f, fun j b l' h3 h4 => ?_⟩⟩
        by_cases hj : i = j
        · subst hj
          rw [List.getElem?_set_self (List.getElem?_eq_some_iff.mp e).1] at h3; cases h3
        · rw [List.getElem?_set_ne hj] at h3
          exact hj (S.di i j false b l l' p e h3 hx h4)
end J

namespace J
open PySem PySem.Spec PyProof.Rows L2

/-! ### what a def promises -/
/-- an argument: a value, or one's own list in slot i -/
inductive Ar where
  | v (d : D) | o (i : Nat)
structure IO (K : PySem.W.Frag) (Φ : Fr) (G H : Hp) (E : Env) : Prop where
  gh : Ex G H
  fh : Ex Φ.F H
  fg : ∀ a, Φ.F a ≠ none → G a = none
  io : ∀ (i : Nat) (l : List D), E[i]? = some (.own true l) → ∃ vs, H (Φ.io i) = some (.lst vs) ∧ RpA K G vs l ∧ G (Φ.io i) = none ∧ Φ.F (Φ.io i) = none
theorem Sat.toIO {K : PySem.W.Frag} {Φ : Fr} {G H : Hp} {σ : St} {E : Env} (S : Sat K Φ G H σ E) : IO K Φ G H E :=
  ⟨S.gh, S.fh, S.fg, fun i l h => by
    obtain ⟨x, h1, p, vs, rfl, h2, h3⟩ := S.sl i _ h
    obtain ⟨h4, h5, h6⟩ := S.ow i true l p h h1
    have := h6 rfl
    subst this
    exact ⟨vs, h2, h3, h4, h5⟩⟩
def PostF (K : PySem.W.Frag) (Φ : Fr) (G : Hp) (r : R RV) (Q : VK) (Ec : XK) : Prop := match r with
  | .ok (.v d) E' => ∀ G' H' v, Ex G G' → IO K Φ G' H' E' → Rp K G' v d → Q v H'
  | .ok (.l l) E' => ∀ G' H' p vs, Ex G G' → IO K Φ G' H' E' → H' p = some (.lst vs) → RpA K G' vs l → G' p = none → Φ.F p = none → (∀ (i : Nat) (m : List D), E'[i]? = some (.own true m) → p ≠ Φ.io i) → Q (.ref p) H'
  | .exc x E' => ∀ G' H' c d, Ex G G' → IO K Φ G' H' E' → XRp K G' c d x → Ec c d H'
  | .stuck => False
abbrev DF := List Sl → R RV
def spJ (K : PySem.W.Frag) (n : Nat) (F : DF) : Sp := fun vs H Q Ec => vs.length = n ∧ ∃ Φ G as, Sat K Φ G H (vs.map some) as ∧ PostF K Φ G (F as) Q Ec
/-- the body, from the arguments -/
def runF (n : Nat) (f : Env → RS) : DF := fun as => match f (as ++ List.replicate (n - as.length) .no) with
  | .nx E => .ok (.v .non) E
  | .rt r E => .ok r E
  | .exc x E => .exc x E
  | _ => .stuck
theorem Sat.begin {K : PySem.W.Frag} {Φ : Fr} {G H : Hp} {vs : List V} {as : List Sl} (N : List Str) (S : Sat K Φ G H (vs.map some) as) : Sat K Φ G H (L2.start N vs) (as ++ List.replicate (N.length - as.length) .no) := by
  have hl : vs.length = as.length := by have := S.len; simpa using this
  have key : ∀ (i : Nat) (s : Sl), (as ++ List.replicate (N.length - as.length) Sl.no)[i]? = some s → (i < as.length ∧ as[i]? = some s ∧ (L2.start N vs)[i]? = (vs.map some)[i]?) ∨ (as.length ≤ i ∧ s = .no ∧ i < (L2.start N vs).length) := fun i s h => by
    by_cases hi : i < as.length
    · rw [List.getElem?_append_left hi] at h
      refine .inl ⟨hi, h, ?_⟩
      unfold L2.start
      rw [List.getElem?_append_left (by simpa [hl] using hi)]
    · have hi' : as.length ≤ i := by omega
      rw [List.getElem?_append_right hi', List.getElem?_replicate] at h
      split at h
      · rename_i hlt
        refine .inr ⟨hi', (Option.some.inj h).symm, ?_⟩
        unfold L2.start
        rw [List.length_append, List.length_map, List.length_replicate, hl]; omega
      · cases h
  refine ⟨?_, fun i s h => ?_, S.gh, S.fh, S.fg, fun i b l p h1 h2 => ?_, fun i j b b' l l' p h1 h2 h3 h4 => ?_⟩
  · unfold L2.start
    rw [List.length_append, List.length_map, List.length_replicate, List.length_append, List.length_replicate, hl]
  · rcases key i s h with ⟨_, h1, h2⟩ | ⟨_, rfl, h2⟩
    · rw [h2]; exact S.sl i s h1
    · exact ⟨_, List.getElem?_eq_getElem h2, trivial⟩
  · rcases key i _ h1 with ⟨_, h3, h4⟩ | ⟨_, h3, _⟩
    · rw [h4] at h2; exact S.ow i b l p h3 h2
    · cases h3
  · rcases key i _ h1 with ⟨_, h5, h6⟩ | ⟨_, h5, _⟩
    · rcases key j _ h2 with ⟨_, h7, h8⟩ | ⟨_, h7, _⟩
      · rw [h6] at h3; rw [h8] at h4; exact S.di i j b b' l l' p h5 h7 h3 h4
      · cases h7
    · cases h5
/-- a def by its body -/
theorem fn_J {P : Program} {w : World} {K : PySem.W.Frag} {mg : Str → Option Value} {base : Heap} {k : Nat} {f : Addr} {name qual : Str} {params : Arguments} {body : List Stmt} {scope : Scope} {dV kV doc pm cdv ct oc : Value} {an od : Option Addr}
    {osl : Array (Option Value)} {N ps : List Str} {fb : Env → RS} (lk : K.lookup f = some ⟨oc, od, .func (PySem.W.fnOf name qual params body scope dV kV doc pm an cdv ct), osl⟩) (hcd : PySem.W.codeIn K cdv qual = true) (S : FnScope N ps scope)
    (hbody : ∀ (A : Around) (outer : List PySem.Env) (s : Shared) (H : Hp) (E : XK), Room k (A.deeper (envOfC qual scope s.heap.objs.size f cdv)) →
      L2N.Takes (cxOf (L2N.CX P w) P w K mg base N qual scope f cdv A outer s H E) (fun c d _ H => E c d H) → PassesOwn (model P w) (cxOf (L2N.CX P w) P w K mg base N qual scope f cdv A outer s H E).A (cxOf (L2N.CX P w) P w K mg base N qual scope f cdv A outer s H E).env (cxOf (L2N.CX P w) P w K mg base N qual scope f cdv A outer s H E).xe →
      JSs (cxOf (L2N.CX P w) P w K mg base N qual scope f cdv A outer s H E) (fun c d _ H => E c d H) body fb) :
    FnOk P w K mg base (L2N.CX P w) (k + 1) f (PySem.W.fnOf name qual params body scope dV kV doc pm an cdv ct) ps (spJ K ps.length (runF N.length fb)) := by
  refine fn_of lk hcd S (fun vs H Q E h => h.1) fun A outer s H vs Q E hr hsp => ?_
  have hX := hbody A outer s H E hr (L2N.takes_of rfl rfl rfl rfl) (passes_of rfl)
  obtain ⟨t, h1, h2⟩ := hX
  refine ⟨t, h1, ?_⟩
  obtain ⟨hl, Φ, G, as, S0, hP⟩ := hsp
  refine h2 Φ G H _ _ _ (S0.begin N) ?_
  unfold runF at hP
  cases hf : fb (as ++ List.replicate (N.length - as.length) .no) with
  | nx E' => rw [hf] at hP; exact fun G' H' σ' e' S' => hP G' H' .non e' S'.toIO .non
  | rt rv E' =>
    rw [hf] at hP
    cases rv with
    | v d => exact fun G' H' σ' v e' S' r => hP G' H' v e' S'.toIO r
    | l d =>
      refine fun G' H' σ' v e' S' r => ?_
      obtain ⟨p, vs, rfl, k1, k2, k3, k4, k5⟩ := r
      refine hP G' H' p vs e' S'.toIO k1 k2 k3 k4 fun i m hi z => ?_
      obtain ⟨x, q1, p', us, rfl, q2, q3⟩ := S'.sl i _ hi
      obtain ⟨q4, q5, q6⟩ := S'.ow i true m p' hi q1
      have := q6 rfl
      subst this
      rw [← z] at q1
      exact k5 i true m hi q1
  | bk E' => rw [hf] at hP; exact hP.elim
  | ct E' => rw [hf] at hP; exact hP.elim
  | exc x E' => rw [hf] at hP; exact fun G' H' σ' c d e' S' r => hP G' H' c d e' S'.toIO r
  | stuck => rw [hf] at hP; exact hP.elim

/-! ### a def that a name calls -/
structure FnJ (P : Program) (w : World) (K : PySem.W.Frag) (mg : Str → Option Value) (base : Heap) (k : Nat) (x : Str) (n : Nat) (F : DF) : Prop where
  ok : ∃ f fd ps, mg x = some (.ref f) ∧ PySem.W.keepIn K (.ref f) = true ∧ ps.length = n ∧ Binds K fd ps [] ∧ FnOk P w K mg base (L2N.CX P w) k f fd ps (spJ K n F)
theorem FnJ.mono {P : Program} {w : World} {K : PySem.W.Frag} {mg : Str → Option Value} {base : Heap} {j k : Nat} {x : Str} {n : Nat} {F : DF} (h : FnJ P w K mg base j x n F) (hk : j ≤ k) : FnJ P w K mg base k x n F := by
  obtain ⟨f, fd, ps, h1, h2, h3, h4, h5⟩ := h
  exact ⟨f, fd, ps, h1, h2, h3, h4, h5.mono hk⟩

/-! ### arguments -/
inductive ArOk (K : PySem.W.Frag) (σ : St) (G : Hp) : List Ar → List V → Prop
  | nil : ArOk K σ G [] []
  | v {d : D} {v : V} {as : List Ar} {vs : List V} : Rp K G v d → ArOk K σ G as vs → ArOk K σ G (.v d :: as) (v :: vs)
  | o {i : Nat} {v : V} {as : List Ar} {vs : List V} : σ[i]? = some (some v) → ArOk K σ G as vs → ArOk K σ G (.o i :: as) (v :: vs)
theorem ArOk.len {K : PySem.W.Frag} {σ : St} {G : Hp} {as : List Ar} {vs : List V} (h : ArOk K σ G as vs) : as.length = vs.length := by induction h <;> simp_all
def ArV (K : PySem.W.Frag) (σ : St) (G : Hp) (v : V) : Ar → Prop
  | .v d => Rp K G v d
  | .o i => σ[i]? = some (some v)
theorem ArOk.get {K : PySem.W.Frag} {σ : St} {G : Hp} {as : List Ar} {vs : List V} (h : ArOk K σ G as vs) : ∀ {j : Nat} {a : Ar}, as[j]? = some a → ∃ v, vs[j]? = some v ∧ ArV K σ G v a := by
  induction h with
  | nil => intro j a e; simp at e
  | v h1 h2 ih =>
    intro j a e
    cases j with
    | zero => simp at e; subst e; exact ⟨_, rfl, h1⟩
    | succ j => simpa using ih (by simpa using e)
  | o h1 h2 ih =>
    intro j a e
    cases j with
    | zero => simp at e; subst e; exact ⟨_, rfl, h1⟩
    | succ j => simpa using ih (by simpa using e)
abbrev relAr (K : PySem.W.Frag) : Rel (List Ar) (List V) := fun _ σ G' _ _ as vs => ArOk K σ G' as vs
def JX (X : Cx) (W : WJ) (es : List Expr) (f : Env → R (List Ar)) : Prop := ∃ te, PA X es te ∧ Snd X.K W (relAr X.K) te f
section
variable {X : Cx} {W : WJ} {e : Expr} {es : List Expr} {fa : Env → R D} {fr : Env → R (List Ar)} {pos : Pos}
def xNil : Env → R (List Ar) := fun E => .ok [] E
def xV (fa : Env → R D) (fr : Env → R (List Ar)) : Env → R (List Ar) := fun E => (fa E).bind fun a E => (fr E).bind fun r E => .ok (.v a :: r) E
def xO (i : Nat) (fr : Env → R (List Ar)) : Env → R (List Ar) := fun E => match E[i]? with
  | some (.own _ _) => (fr E).bind fun r E => .ok (.o i :: r) E
  | _ => .stuck
theorem jx_nil : JX X W [] xNil := ⟨_, pa_nil, fun Φ G H σ E Q S hp => hp G H [] (Ex.refl G) S .nil⟩
theorem ArOk.mono {K : PySem.W.Frag} {σ : St} {G G' : Hp} {as : List Ar} {vs : List V} (e : Ex G G') (h : ArOk K σ G as vs) : ArOk K σ G' as vs := by
  induction h with
  | nil => exact .nil
  | v h1 h2 ih => exact .v (Rp.mono e _ h1) ih
  | o h1 h2 ih => exact .o h1 ih
theorem jx_v (ha : JE X W e fa) (hr : JX X W es fr) (hs : starEach (e :: es) X.env = (false, eval e X.env) :: starEach es X.env := by rfl) : JX X W (e :: es) (xV fa fr) := by
  obtain ⟨ta, pa, sa⟩ := ha
  obtain ⟨tr, pr, sr⟩ := hr
  refine ⟨_, pa_cons pa pr hs, fun Φ G H σ E Q S hp => ?_⟩
  refine sa.go S hp fun a E1 G1 H1 v _ e1 S1 r1 hp => ?_
  refine sr.go S1 hp fun as E2 G2 H2 vs _ e2 S2 r2 hp => ?_
  exact hp G2 H2 _ (Ex.refl G2) S2 (.v (Rp.mono e2 _ r1) r2)
theorem jx_o (i : Nat) {x : Str} (hr : JX X W es fr) (hN : X.N[i]? = some x := by rfl) (hv : Vis X.env.scope x := by first | exact Or.inl rfl | exact Or.inr (Or.inl rfl) | exact Or.inr (Or.inr rfl)) (hd : (x == ("__debug__" : Str)) = false := by decide)
    (hcd : (x == ("__classdict__" : Str)) = false := by decide) (hs : starEach (.Name x pos :: es) X.env = (false, eval (.Name x pos) X.env) :: starEach es X.env := by rfl) : JX X W (.Name x pos :: es) (xO i fr) := by
  obtain ⟨tr, pr, sr⟩ := hr
  refine ⟨_, pa_cons (pe_var hN hv hd hcd) pr hs, fun Φ G H σ E Q S hp => ?_⟩
  unfold xO at hp
  cases ee : E[i]? with
  | none => rw [ee] at hp; exact hp.elim
  | some s =>
    rw [ee] at hp
    cases s with
    | no => exact hp.elim
    | val _ => exact hp.elim
    | own b l =>
      obtain ⟨w, hw, p, vs, rfl, h1, h2⟩ := S.sl i _ ee
      refine ⟨.ref p, hw, ?_⟩
      refine sr.go S hp fun as E2 G2 H2 us _ e2 S2 r2 hp => ?_
      exact hp G2 H2 _ (Ex.refl G2) S2 (.o hw r2)
end

/-! ### a call -/
def ownsA : List Ar → List Nat
  | [] => []
  | .v _ :: as => ownsA as
  | .o i :: as => i :: ownsA as
def ndA : List Nat → Bool
  | [] => true
  | i :: is => !is.contains i && ndA is
def argS (E : Env) : List Ar → Option (List Sl)
  | [] => some []
  | .v d :: as => (argS E as).map (.val d :: ·)
  | .o i :: as => match E[i]? with
    | some (.own _ l) => (argS E as).map (.own true l :: ·)
    | _ => none
def backE (Ec : Env) : Nat → List Ar → Env → Env
  | _, [], E => E
  | j, .v _ :: as, E => backE Ec (j + 1) as E
  | j, .o i :: as, E => backE Ec (j + 1) as (match E[i]?, Ec[j]? with
    | some (.own b _), some (.own true l) => E.set i (.own b l)
    | _, _ => E.set i .no)
theorem mem_ownsA {i : Nat} {as : List Ar} : i ∈ ownsA as ↔ ∃ j : Nat, as[j]? = some (Ar.o i) := by
  induction as with
  | nil => simp [ownsA]
  | cons a as ih =>
    cases a with
    | v d =>
      show i ∈ ownsA as ↔ _
      rw [ih]
      constructor
      · rintro ⟨j, h⟩; exact ⟨j + 1, h⟩
      · rintro ⟨j, h⟩
        cases j with
        | zero => simp at h
        | succ j => exact ⟨j, h⟩
    | o k =>
      show i ∈ k :: ownsA as ↔ _
      rw [List.mem_cons, ih]
      constructor
      · rintro (rfl | ⟨j, h⟩)
        · exact ⟨0, rfl⟩
        · exact ⟨j + 1, h⟩
      · rintro ⟨j, h⟩
        cases j with
        | zero => simp at h; exact .inl h.symm
        | succ j => exact .inr ⟨j, h⟩
theorem ndA_inj {as : List Ar} (h : ndA (ownsA as) = true) {i j k : Nat} (h1 : as[i]? = some (.o k)) (h2 : as[j]? = some (.o k)) : i = j := by
  induction as generalizing i j with
  | nil => simp at h1
  | cons a as ih =>
    cases a with
    | v d =>
      cases i with
      | zero => simp at h1
      | succ i =>
        cases j with
        | zero => simp at h2
        | succ j => rw [ih h h1 h2]
    | o m =>
      have h' : (!(ownsA as).contains m && ndA (ownsA as)) = true := h
      rw [Bool.and_eq_true] at h'
      have nm : m ∉ ownsA as := by simpa using h'.1
      cases i with
      | zero =>
        cases j with
        | zero => rfl
        | succ j => simp at h1; subst h1; exact absurd (mem_ownsA.mpr ⟨j, h2⟩) nm
      | succ i =>
        cases j with
        | zero => simp at h2; subst h2; exact absurd (mem_ownsA.mpr ⟨i, h1⟩) nm
        | succ j => rw [ih h'.2 h1 h2]
theorem argS_get {E : Env} : ∀ {as : List Ar} {ss : List Sl}, argS E as = some ss → as.length = ss.length ∧ ∀ (j : Nat) (s : Sl), ss[j]? = some s → (∃ d, as[j]? = some (.v d) ∧ s = .val d) ∨ ∃ i b l, as[j]? = some (.o i) ∧ E[i]? = some (.own b l) ∧ s = .own true l
  | [], ss, h => by cases h; exact ⟨rfl, fun j s e => by simp at e⟩
  | .v d :: as, ss, h => by
    obtain ⟨r, h1, rfl⟩ := Option.map_eq_some_iff.mp (show (argS E as).map (.val d :: ·) = some ss from h)
    obtain ⟨k1, k2⟩ := argS_get h1
    refine ⟨by simp [k1], fun j s e => ?_⟩
    cases j with
    | zero => simp at e; exact .inl ⟨d, rfl, e.symm⟩
    | succ j => simpa using k2 j s (by simpa using e)
  | .o i :: as, ss, h => by
    unfold argS at h
    cases e : E[i]? with
    | none => rw [e] at h; cases h
    | some s0 =>
      rw [e] at h
      cases s0 with
      | no => cases h
      | val _ => cases h
      | own b l =>
        obtain ⟨r, h1, rfl⟩ := Option.map_eq_some_iff.mp (show (argS E as).map (.own true l :: ·) = some ss from h)
        obtain ⟨k1, k2⟩ := argS_get h1
        refine ⟨by simp [k1], fun j s e' => ?_⟩
        cases j with
        | zero => simp at e'; exact .inr ⟨i, b, l, rfl, e, e'.symm⟩
        | succ j => simpa using k2 j s (by simpa using e')
theorem backE_len (Ec : Env) : ∀ (as : List Ar) (j : Nat) (E : Env), (backE Ec j as E).length = E.length
  | [], j, E => rfl
  | .v _ :: as, j, E => backE_len Ec as (j + 1) E
  | .o i :: as, j, E => by
    unfold backE
    rw [backE_len Ec as (j + 1) _]
    split <;> simp
theorem backE_out {Ec : Env} {i : Nat} : ∀ (as : List Ar) (j : Nat) (E : Env), i ∉ ownsA as → (backE Ec j as E)[i]? = E[i]?
  | [], j, E, _ => rfl
  | .v _ :: as, j, E, h => backE_out as (j + 1) E h
  | .o k :: as, j, E, h => by
    have h' : i ∉ k :: ownsA as := h
    have hk : k ≠ i := fun z => h' (by simp [z])
    unfold backE
    rw [backE_out as (j + 1) _ fun z => h' (List.mem_cons_of_mem _ z)]
    split <;> rw [List.getElem?_set_ne hk]
theorem backE_in {Ec : Env} {i : Nat} : ∀ (as : List Ar) (j : Nat) (E : Env) (m : Nat) (s : Sl), ndA (ownsA as) = true → as[m]? = some (.o i) → (backE Ec j as E)[i]? = some s →
    s = .no ∨ ∃ b l l', E[i]? = some (.own b l) ∧ Ec[j + m]? = some (.own true l') ∧ s = .own b l'
  | [], j, E, m, s, _, h, _ => by simp at h
  | .v _ :: as, j, E, m, s, nd, h, hs => by
    cases m with
    | zero => simp at h
    | succ m =>
      have := backE_in as (j + 1) E m s nd h hs
      rwa [show j + 1 + m = j + (m + 1) by omega] at this
  | .o k :: as, j, E, m, s, nd, h, hs => by
    have nd' : (!(ownsA as).contains k && ndA (ownsA as)) = true := nd
    rw [Bool.and_eq_true] at nd'
    have nm : k ∉ ownsA as := by simpa using nd'.1
    cases m with
    | zero =>
      simp at h
      subst h
      unfold backE at hs
      rw [backE_out as (j + 1) _ nm] at hs
      split at hs
      · rename_i b l0 l e1 e2
        rw [List.getElem?_set_self (List.getElem?_eq_some_iff.mp e1).1] at hs
        exact .inr ⟨b, l0, l, e1, by simpa using e2, (Option.some.inj hs).symm⟩
      · left
        by_cases hl : k < E.length
        · rw [List.getElem?_set_self hl] at hs; exact (Option.some.inj hs).symm
        · rw [List.getElem?_eq_none (by simpa using hl)] at hs; cases hs
    | succ m =>
      have hik : k ≠ i := fun z => nm (mem_ownsA.mpr ⟨m, by rw [z]; exact h⟩)
      unfold backE at hs
      rcases backE_in as (j + 1) _ m s nd'.2 h hs with z | ⟨b, l, l', h1, h2, h3⟩
      · exact .inl z
      · refine .inr ⟨b, l, l', ?_, ?_, h3⟩
        · split at h1 <;> rwa [List.getElem?_set_ne hik] at h1
        · rwa [show j + 1 + m = j + (m + 1) by omega] at h2
def adV : Option V → Addr
  | some (.ref p) => p
  | _ => 0
open Classical in
/-- what a callee sees as locked -/
noncomputable def FcOf (Φ : Fr) (H : Hp) (σ : St) (E : Env) (is : List Nat) : Hp := fun a => if ∃ j b l, E[j]? = some (.own b l) ∧ σ[j]? = some (some (.ref a)) ∧ j ∉ is then H a else Φ.F a
section
variable {K : PySem.W.Frag} {Φ : Fr} {G H G' H' : Hp} {σ : St} {E : Env} {as : List Ar} {vs : List V} {ss : List Sl}
theorem Fc_own {is : List Nat} {j : Nat} {b : Bool} {l : List D} {a : Addr} (h1 : E[j]? = some (.own b l)) (h2 : σ[j]? = some (some (.ref a))) (h3 : j ∉ is) : FcOf Φ H σ E is a = H a := by
  unfold FcOf
  rw [if_pos ⟨j, b, l, h1, h2, h3⟩]
theorem Fc_old (S : Sat K Φ G H σ E) {is : List Nat} {a : Addr} {o : HO} (h : Φ.F a = some o) : FcOf Φ H σ E is a = some o := by
  unfold FcOf
  rw [if_neg]
  · exact h
  · rintro ⟨j, b, l, h1, h2, _⟩
    rw [(S.ow j b l a h1 h2).2.1] at h; cases h
theorem Sat.toCall (S : Sat K Φ G H σ E) (r : ArOk K σ G as vs) (h : argS E as = some ss) (nd : ndA (ownsA as) = true) : Sat K ⟨FcOf Φ H σ E (ownsA as), fun j => adV vs[j]?⟩ G H (vs.map some) ss := by
  obtain ⟨hl, hg⟩ := argS_get h
  have own : ∀ {j : Nat} {b : Bool} {l : List D} {p : Addr}, ss[j]? = some (.own b l) → (vs.map some)[j]? = some (some (.ref p)) → ∃ i b', as[j]? = some (.o i) ∧ E[i]? = some (.own b' l) ∧ σ[i]? = some (some (.ref p)) := fun {j b l p} h1 h2 => by
    rcases hg j _ h1 with ⟨d, _, z⟩ | ⟨i, b', l', h3, h4, h5⟩
    · cases z
    · cases h5
      obtain ⟨v, h6, h7⟩ := r.get h3
      rw [List.getElem?_map, h6] at h2
      cases h2
      exact ⟨i, b', h3, h4, h7⟩
  refine ⟨by rw [List.length_map, ← r.len, hl], fun j s hs => ?_, S.gh, fun a o ha => ?_, fun a ha => ?_, fun j b l p h1 h2 => ?_, fun i j b b' l l' p h1 h2 h3 h4 => ?_⟩
  · rcases hg j s hs with ⟨d, h1, rfl⟩ | ⟨i, b, l, h1, h2, rfl⟩
    · obtain ⟨v, h6, h7⟩ := r.get h1
      exact ⟨some v, by rw [List.getElem?_map, h6]; rfl, v, rfl, h7⟩
    · obtain ⟨v, h6, h7⟩ := r.get h1
      obtain ⟨x, k1, p, us, rfl, k2, k3⟩ := S.sl i _ h2
      have h7 : σ[i]? = some (some v) := h7
      rw [k1] at h7
      cases h7
      exact ⟨some (.ref p), by rw [List.getElem?_map, h6]; rfl, p, us, rfl, k2, k3⟩
  · have ha' : FcOf Φ H σ E (ownsA as) a = some o := ha
    unfold FcOf at ha'
    split at ha'
    · exact ha'
    · exact S.fh a o ha'
  · have ha' : FcOf Φ H σ E (ownsA as) a ≠ none := ha
    unfold FcOf at ha'
    split at ha'
    · rename_i c
      obtain ⟨j, b, l, h1, h2, _⟩ := c
      exact (S.ow j b l a h1 h2).1
    · exact S.fg a ha'
  · obtain ⟨i, b', k1, k2, k3⟩ := own h1 h2
    obtain ⟨q1, q2, _⟩ := S.ow i b' l p k2 k3
    refine ⟨q1, ?_, fun _ => ?_⟩
    · show FcOf Φ H σ E (ownsA as) p = none
      unfold FcOf
      rw [if_neg]
      · exact q2
      · rintro ⟨m, b2, l2, m1, m2, m3⟩
        exact m3 (mem_ownsA.mpr ⟨j, by rw [← S.di i m b' b2 l l2 p k2 m1 k3 m2]; exact k1⟩)
    · show p = adV vs[j]?
      rw [List.getElem?_map] at h2
      cases e : vs[j]? with
      | none => rw [e] at h2; cases h2
      | some v => rw [e] at h2; cases h2; rfl
  · obtain ⟨m, b2, k1, k2, k3⟩ := own h1 h3
    obtain ⟨n, b3, k4, k5, k6⟩ := own h2 h4
    have := S.di m n b2 b3 l l' p k2 k5 k3 k6
    subst this
    exact ndA_inj nd k1 k4
theorem Sat.fromCall {Ec : Env} (S : Sat K Φ G H σ E) (r : ArOk K σ G as vs) (h : argS E as = some ss) (nd : ndA (ownsA as) = true) (e : Ex G G') (I : IO K ⟨FcOf Φ H σ E (ownsA as), fun j => adV vs[j]?⟩ G' H' Ec) : Sat K Φ G' H' σ (backE Ec 0 as E) := by
  obtain ⟨hl, hg⟩ := argS_get h
  have own : ∀ {i : Nat} {b : Bool} {l : List D}, (backE Ec 0 as E)[i]? = some (.own b l) → (i ∉ ownsA as ∧ E[i]? = some (.own b l)) ∨ ∃ (j : Nat) (l0 : List D), as[j]? = some (Ar.o i) ∧ E[i]? = some (Sl.own b l0) ∧ Ec[j]? = some (Sl.own true l) := fun {i b l} hi => by
    by_cases hm : i ∈ ownsA as
    · obtain ⟨j, hj⟩ := mem_ownsA.mp hm
      rcases backE_in as 0 E j _ nd hj hi with z | ⟨b', l0, l', h1, h2, h3⟩
      · cases z
      · cases h3
        exact .inr ⟨j, l0, hj, h1, by simpa using h2⟩
    · rw [backE_out as 0 E hm] at hi
      exact .inl ⟨hm, hi⟩
  have own0 : ∀ {i : Nat} {b : Bool} {l : List D}, (backE Ec 0 as E)[i]? = some (.own b l) → ∃ l0, E[i]? = some (.own b l0) := fun hi => by
    rcases own hi with ⟨_, h1⟩ | ⟨_, l0, _, h1, _⟩
    · exact ⟨_, h1⟩
    · exact ⟨_, h1⟩
  have ioA : ∀ {i j : Nat} {p : Addr}, as[j]? = some (.o i) → σ[i]? = some (some (.ref p)) → adV vs[j]? = p := fun {i j p} h1 h2 => by
    obtain ⟨v, h3, h4⟩ := r.get h1
    have h4 : σ[i]? = some (some v) := h4
    rw [h2] at h4; cases h4
    rw [h3]; rfl
  refine ⟨by rw [backE_len]; exact S.len, fun i s hs => ?_, I.gh, fun a o ha => I.fh a o (Fc_old S ha), fun a ha => ?_, fun i b l p h1 h2 => ?_, fun i j b b' l l' p h1 h2 h3 h4 => ?_⟩
  · by_cases hm : i ∈ ownsA as
    · obtain ⟨j, hj⟩ := mem_ownsA.mp hm
      rcases backE_in as 0 E j _ nd hj hs with rfl | ⟨b', l0, l', h1, h2, rfl⟩
      · have hi : i < σ.length := by
          have := (List.getElem?_eq_some_iff.mp hs).1
          rw [backE_len] at this; rw [S.len]; exact this
        exact ⟨_, List.getElem?_eq_getElem hi, trivial⟩
      · obtain ⟨x, k1, p, us, rfl, k2, k3⟩ := S.sl i _ h1
        obtain ⟨ws, q1, q2, q3, q4⟩ := I.io j l' (by simpa using h2)
        have ea : adV vs[j]? = p := ioA hj k1
        rw [show (⟨FcOf Φ H σ E (ownsA as), fun j => adV vs[j]?⟩ : Fr).io j = p from ea] at q1
        exact ⟨_, k1, p, ws, rfl, q1, q2⟩
    · rw [backE_out as 0 E hm] at hs
      obtain ⟨x, k1, k2⟩ := S.sl i s hs
      refine ⟨x, k1, k2.mono e fun p b l e1 e2 => ?_⟩
      subst e1 e2
      obtain ⟨y, q1, p', us, q2, q3, _⟩ := S.sl i _ hs
      rw [k1] at q1; cases q1; cases q2
      rw [q3]
      exact I.fh p _ ((Fc_own hs k1 hm).trans q3)
  · cases e0 : Φ.F a with
    | none => exact absurd e0 ha
    | some o =>
      refine I.fg a ?_
      show FcOf Φ H σ E (ownsA as) a ≠ none
      rw [Fc_old S e0]; simp
  · rcases own h1 with ⟨hm, k1⟩ | ⟨j, l0, k0, k1, k2⟩
    · obtain ⟨q1, q2, q3⟩ := S.ow i b l p k1 h2
      refine ⟨I.fg p ?_, q2, q3⟩
      show FcOf Φ H σ E (ownsA as) p ≠ none
      rw [Fc_own k1 h2 hm]
      obtain ⟨y, m1, p', us, rfl, m3, _⟩ := S.sl i _ k1
      rw [h2] at m1; cases m1
      rw [m3]; simp
    · obtain ⟨q1, q2, q3⟩ := S.ow i b l0 p k1 h2
      obtain ⟨ws, m1, m2, m3, m4⟩ := I.io j l k2
      rw [show (⟨FcOf Φ H σ E (ownsA as), fun j => adV vs[j]?⟩ : Fr).io j = p from ioA k0 h2] at m3
      exact ⟨m3, q2, q3⟩
  · obtain ⟨l1, h1⟩ := own0 h1
    obtain ⟨l2, h2⟩ := own0 h2
    exact S.di i j b b' l1 l2 p h1 h2 h3 h4
theorem NotOwn.fromCall {Ec : Env} (S : Sat K Φ G H σ E) (r : ArOk K σ G as vs) (nd : ndA (ownsA as) = true) {p : Addr} (h1 : FcOf Φ H σ E (ownsA as) p = none) (h2 : ∀ (i : Nat) (m : List D), Ec[i]? = some (.own true m) → p ≠ adV vs[i]?) : NotOwn σ (backE Ec 0 as E) p := fun i b l k1 k2 => by
  by_cases hm : i ∈ ownsA as
  · obtain ⟨j, hj⟩ := mem_ownsA.mp hm
    rcases backE_in as 0 E j _ nd hj k1 with z | ⟨b', l0, l', q1, q2, q3⟩
    · cases z
    · obtain ⟨v, m3, m4⟩ := r.get hj
      have m4 : σ[i]? = some (some v) := m4
      rw [k2] at m4; cases m4
      exact h2 j l' (by simpa using q2) (by rw [m3]; rfl)
  · rw [backE_out as 0 E hm] at k1
    rw [Fc_own k1 k2 hm] at h1
    obtain ⟨y, m1, p', us, rfl, m3, _⟩ := S.sl i _ k1
    rw [k2] at m1; cases m1
    rw [m3] at h1; cases h1
theorem Fc_none (S : Sat K Φ G H σ E) {is : List Nat} {p : Addr} (h : FcOf Φ H σ E is p = none) : Φ.F p = none := by
  cases e : Φ.F p with
  | none => rfl
  | some o => rw [Fc_old S e] at h; cases h
end
def fCallR {α : Type} (n : Nat) (F : DF) (fa : Env → R (List Ar)) (k : RV → Option α) : Env → R α := fun E => (fa E).bind fun as E1 => match (if (ndA (ownsA as) && as.length == n) = true then argS E1 as else none) with
  | none => .stuck
  | some ss => match F ss with
    | .ok rv Ec => (match k rv with | some d => .ok d (backE Ec 0 as E1) | none => .stuck)
    | .exc x Ec => .exc x (backE Ec 0 as E1)
    | .stuck => .stuck
def rvD : RV → Option D
  | .v d => some d
  | .l l => some (.lst l)
def rvL : RV → Option (List D)
  | .v _ => none
  | .l l => some l
section
variable {X : Cx} {W : WJ} {k : Nat} {F : DF} {x : Str} {p pos : Pos} {e : Expr} {es : List Expr} {fa : Env → R (List Ar)}
theorem snd_call {α : Type} {ta : TA} {rel : Rel α V} {kv : RV → Option α} {n : Nat} (sa : Snd X.K W (relAr X.K) ta fa)
    (hv : ∀ d a, kv (.v d) = some a → ∀ Φ σ G' H' E' v, Rp X.K G' v d → Sat X.K Φ G' H' σ E' → rel Φ σ G' H' E' a v)
    (hl : ∀ l a, kv (.l l) = some a → ∀ (Φ : Fr) (σ : St) (G' H' : Hp) (E' : Env) (p : Addr) (vs : List V), Sat X.K Φ G' H' σ E' → H' p = some (.lst vs) → RpA X.K G' vs l → G' p = none → Φ.F p = none → NotOwn σ E' p → ∃ G2, Ex G' G2 ∧ Sat X.K Φ G2 H' σ E' ∧ rel Φ σ G2 H' E' a (.ref p)) :
    Snd X.K W rel (tCallSD (spJ X.K n F) [] (fun σ => WE W.w σ) ta) (fCallR n F fa kv) := by
  intro Φ G H σ E Q S hp
  unfold fCallR at hp
  refine sa.go S hp fun as E1 G1 H1 vs _ e1 S1 r1 hp => ?_
  by_cases c : (ndA (ownsA as) && as.length == n) = true
  · rw [if_pos c] at hp
    rw [Bool.and_eq_true] at c
    have nd := c.1
    have hn : as.length = n := by simpa using c.2
    cases hs : argS E1 as with
    | none => rw [hs] at hp; exact hp.elim
    | some ss =>
      simp only [hs] at hp
      have SC := S1.toCall r1 hs nd
      show spJ X.K n F (vs ++ []) H1 Q (WE W.w σ)
      rw [List.append_nil]
      refine ⟨r1.len.symm.trans hn, _, G1, ss, SC, ?_⟩
      cases hF : F ss with
      | stuck => rw [hF] at hp; exact hp.elim
      | exc x Ec =>
        simp only [hF] at hp
        exact fun G' H' c d e I r => hp G' H' σ c d e (S1.fromCall r1 hs nd e I) r
      | ok rv Ec =>
        simp only [hF] at hp
        cases hk : kv rv with
        | none => rw [hk] at hp; exact hp.elim
        | some a =>
          simp only [hk] at hp
          cases rv with
          | v d =>
            intro G' H' v e I r
            have S2 := S1.fromCall r1 hs nd e I
            exact hp G' H' v e S2 (hv d a hk Φ σ G' H' _ v r S2)
          | l l =>
            intro G' H' p vs' e I h1 h2 h3 h4 h5
            have S2 := S1.fromCall r1 hs nd e I
            have n2 := NotOwn.fromCall (Ec := Ec) S1 r1 nd h4 h5
            obtain ⟨G2, e2, S3, q⟩ := hl l a hk Φ σ G' H' _ p vs' S2 h1 h2 h3 (Fc_none S1.toSat h4) n2
            exact hp G2 H' (.ref p) (e.trans e2) S3 q
  · rw [if_neg c] at hp; exact hp.elim
theorem j_call (hF : FnJ X.prog X.w X.K X.mg X.base k x (e :: es).length F) (hr : Room k X.A) (tk : L2N.Takes X W.w) (ha : JX X W (e :: es) fa) (hg : Gl X x := by rfl) (hdb : (x == ("__debug__" : Str)) = false := by decide)
    (he : starEach (e :: es) X.env = (false, eval e X.env) :: starEach es X.env := by rfl) (hpl : (backTo pos (starEach es X.env)).any (·.1) = false := by rfl) : JE X W (.Call (.Name x p) (e :: es) [] pos) (fCallR (e :: es).length F fa rvD) := by
  obtain ⟨f, fd, ps, h1, h2, h3, h4, h5⟩ := hF
  obtain ⟨ta, pa, sa⟩ := ha
  refine ⟨_, pe_callSD (dvs := []) (E := fun σ => WE W.w σ) h5 hr hg h1 h2 h4 .nil (fun σ => L2N.passAt tk σ) pa hdb he hpl, snd_call sa (fun d a hk Φ σ G' H' E' v r _ => ?_) fun l a hk Φ σ G' H' E' p vs S h1 h2 h3 h4 h5 => ?_⟩
  · cases hk; exact r
  · cases hk; exact ⟨_, Ex.new h3, S.free h1 h3 h4 h5, .lst upd_same (h2.mono (Ex.new h3))⟩
theorem jl_call (hF : FnJ X.prog X.w X.K X.mg X.base k x (e :: es).length F) (hr : Room k X.A) (tk : L2N.Takes X W.w) (ha : JX X W (e :: es) fa) (hg : Gl X x := by rfl) (hdb : (x == ("__debug__" : Str)) = false := by decide)
    (he : starEach (e :: es) X.env = (false, eval e X.env) :: starEach es X.env := by rfl) (hpl : (backTo pos (starEach es X.env)).any (·.1) = false := by rfl) : JL X W (.Call (.Name x p) (e :: es) [] pos) (fCallR (e :: es).length F fa rvL) := by
  obtain ⟨f, fd, ps, h1, h2, h3, h4, h5⟩ := hF
  obtain ⟨ta, pa, sa⟩ := ha
  refine ⟨_, pe_callSD (dvs := []) (E := fun σ => WE W.w σ) h5 hr hg h1 h2 h4 .nil (fun σ => L2N.passAt tk σ) pa hdb he hpl, snd_call sa (fun d a hk => by cases hk) fun l a hk Φ σ G' H' E' p vs S h1 h2 h3 h4 h5 => ?_⟩
  cases hk; exact ⟨G', Ex.refl G', S, p, vs, rfl, h1, h2, h3, h4, h5⟩
end
end J

namespace J
open PySem PySem.Spec PyProof.Rows L2

/-! ### a method that closes over __class__ -/
abbrev envS (qual : Str) (scope : Scope) (L f : Addr) (cda cc : Addr) : PySem.Env := PySem.W.ksEnv qual scope L f (.ref cda) cc
/-- the context of such a body -/
def cxS (CX : CXT) (P : Program) (w : World) (K : PySem.W.Frag) (mg : Str → Option Value) (base : Heap) (N : List Str) (qual : Str) (scope : Scope) (f cda cc : Addr) (A : Around) (outer : List PySem.Env) (s : Shared) (H : Hp) (E : XK) : Cx :=
  { cxOf CX P w K mg base N qual scope f (.ref cda) A outer s H E with
    A := A.deeper (envS qual scope s.heap.objs.size f cda cc), env := envS qual scope s.heap.objs.size f cda cc, stack := envS qual scope s.heap.objs.size f cda cc :: outer, fn := fun _ => false,
    xe := fun e s' => wpAny (model P w) (A.deeper (envS qual scope s.heap.objs.size f cda cc)) (leaving (envS qual scope s.heap.objs.size f cda cc) e) (fun _ s'' => CX outer H s E e s'') (fun e' s'' => CX outer H s E e' s'') s' }
structure SupScope (N P : List Str) (sc : Scope) : Prop where
  kind : sc.kind = .function
  co : sc.isCoroutine = false
  gen : sc.isGenerator = false
  nd : N.Nodup
  pre : N.take P.length = P
  par : ∀ x ∈ P, sc.names.lookup x = some .local
  nocell : ∀ y ∈ sc.names, y.2 ≠ .cell
  free : ∀ y ∈ sc.names, y.2 = .free → y.1 = "__class__"
  sup : sc.names.lookup ("super" : Str) = some .globalImplicit
  cls : sc.names.lookup ("__class__" : Str) = some .free
theorem lookup_only {α β : Type} [BEq α] [LawfulBEq α] {y : α} {u : β} : ∀ {l : List (α × β)}, (y, u) ∈ l → (∀ v, (y, v) ∈ l → v = u) → l.lookup y = some u
  | [], h, _ => by cases h
  | (a, b) :: l, h, k => by
    unfold List.lookup
    by_cases e : y = a
    · subst e
      rw [show (y == y) = true from beq_self_eq_true y]
      rw [k b (List.mem_cons_self ..)]
    · rw [show (y == a) = false from by simpa using e]
      refine lookup_only ?_ fun v hv => k v (List.mem_cons_of_mem _ hv)
      rcases List.mem_cons.mp h with z | z
      · cases z; exact absurd rfl e
      · exact z
theorem zip_only {ps : List Str} {us : List Value} (nd : ps.Nodup) {i : Nat} {y : Str} {u : Value} (h1 : ps[i]? = some y) (h2 : us[i]? = some u) : (ps.zip us).reverse.lookup y = some u := by
  refine lookup_only (List.mem_reverse.mpr ?_) fun v hv => ?_
  · refine List.mem_of_getElem? (i := i) ?_
    rw [List.getElem?_zip_eq_some]; exact ⟨h1, h2⟩
  · obtain ⟨j, hj⟩ := List.getElem?_of_mem (List.mem_reverse.mp hv)
    rw [List.getElem?_zip_eq_some] at hj
    have : i = j := nodup_ix nd h1 hj.1
    subst this
    rw [h2] at hj
    exact (Option.some.inj hj.2).symm
theorem inv_sup {CX : CXT} {P : Program} {w : World} {K : PySem.W.Frag} {mg : Str → Option Value} {base : Heap} {N ps : List Str} {qual : Str} {scope : Scope} {f cda cc D : Addr} {A : Around} {outer : List PySem.Env} {s : Shared} {h1 : Heap} {t1 : Nat} {H : Hp} {E : XK} {us : List Value} {vs : List V} {cl : Value} {cld : Option Addr} {csl : Array (Option Value)}
    (S : SupScope N ps scope) (hd : A.handled = none) (e0 : Env0 P w K mg base A outer s H) (hl : vs.length = ps.length) (r : Vals vs us) (hcell : K.lookup cc = some ⟨cl, cld, .cell (some (.ref D)), csl⟩)
    (hns : h1.Ns s.heap.objs.size fun x => (ps.zip us).reverse.lookup x) (hk : ∀ b o, s.heap.get? b = some o → h1.get? b = some o) :
    Inv (cxS CX P w K mg base N qual scope f cda cc A outer s H E) [] (L2.start N vs) H { s with heap := h1, toks := t1 } := by
  have hpl : ps.length ≤ N.length := by have := congrArg List.length S.pre; rw [List.length_take] at this; omega
  have ndP : ps.Nodup := by rw [← S.pre]; exact S.nd.sublist (List.take_sublist _ _)
  have one : ∀ x c, (envS qual scope s.heap.objs.size f cda cc).cells.lookup x = some c → x = "__class__" ∧ c = cc := fun x c h => by
    have h' : List.lookup x [(("__class__" : Str), cc)] = some c := h
    rw [List.lookup_cons] at h'
    split at h'
    · rename_i e
      exact ⟨by simpa using e, (Option.some.inj h').symm⟩
    · cases h'
  have bcc : base.get? cc = some ⟨cl, cld, .cell (some (.ref D)), csl⟩ := e0.mod.kin _ _ hcell
  have scc := e0.bs _ _ bcc
  refine ⟨⟨e0.mod, S.kind, rfl, rfl, Nat.le_refl _, fun x y c a b => ?_, fun x hx => ?_, fun x c z _ => absurd (show false = true from z) (by decide), fun _ => hd, Around.frames_deeper e0.frames, .inr ⟨rfl, rfl⟩, fun b z => absurd (show b ∈ ([] : List Addr) from z) (by simp), e0.bs, e0.bsz, fun b _ _ z => absurd (show b ∈ ([] : List Addr) from z) (by simp), fun b z => absurd (show b ∈ ([] : List Addr) from z) (by simp), e0.funs, e0.frf⟩,
    rfl, e0.bare, Un.kept hk, ⟨_, hns, fun i y v a b c => ?_⟩, fun x c a => ?_, e0.hok.fresh (Nat.le_refl _), fun x c a => ?_, fun p hp => absurd (show p ∈ ([] : List (Addr × Obj)) from hp) (by simp), e0.hok.kept hk, ?_⟩
  · rw [(one x c a).1, (one y c b).1]
  · have hx : scope.names.lookup x = some .cell ∨ scope.names.lookup x = some .free := hx
    rcases hx with hx | hx
    · exact absurd rfl (S.nocell _ (PySem.mem_of_lookup hx))
    · have e := S.free _ (PySem.mem_of_lookup hx) rfl
      have e : x = "__class__" := e
      subst e
      exact ⟨cc, rfl⟩
  · have hi : i < vs.length := by
      unfold L2.start at b
      by_cases hi : i < vs.length
      · exact hi
      · rw [List.getElem?_append_right (by simpa using hi), List.getElem?_replicate] at b
        split at b <;> cases b
    have hv : vs[i]? = some v := by
      unfold L2.start at b
      rw [List.getElem?_append_left (by simpa using hi), List.getElem?_map] at b
      cases e : vs[i]? with
      | none => rw [e] at b; cases b
      | some a => rw [e] at b; cases b; rfl
    obtain ⟨u, hu, rv⟩ := r.get hv
    have hp : ps[i]? = some y := by rw [← S.pre, List.getElem?_take_of_lt (by omega)]; exact a
    exact ⟨u, rv, .inl ⟨S.par y (List.mem_of_getElem? hp), zip_only ndP hp hu⟩⟩
  · obtain ⟨_, rfl⟩ := one x c a
    exact ⟨_, _, hk _ _ scc.1, rfl⟩
  · obtain ⟨_, rfl⟩ := one x c a
    exact scc.2
  · unfold L2.start
    show _ = N.length
    rw [List.length_append, List.length_map, List.length_replicate]
    omega
/-! ### ValueError.__init__ bound to an exception, called -/
theorem bound_ve {prog : Program} {w : World} {A : Around} {E : Value → Shared → Prop} {hp : Heap} {g : Array GenState} {d : Drawn} {t : Nat} {os : OsState} {nm q : Str} {C N u a t0 : Addr} {bs bm : List Value} {hdct : Bool} {sn : List Str} {sub : List Value} {ab : Bool} {col : Option Bool} {dd : Option Addr} {k0 k1 k2 k3 k5 : Option Value}
    {xs : List Value} {Q : Value → Shared → Prop} (cC : hp.get? C = some (excClassObj nm q C N bs bm hdct sn sub ab col dd k0 k1 k2 k3 k5 "ValueError.__new__")) (ea : hp.get? a = some (HandSPX.excO C t0)) (eu : hp.get? u = some (PySem.W.kxs_mw "ValueError.__init__" a)) (hz : xs.length ≤ sizeLine)
    (fin : ∀ h' t1, (∀ b o, b ≠ a → hp.get? b = some o → h'.get? b = some o) → h'.get? a = some (HandSPX.excO C t1) → Q .none ⟨h', g, d, t, os⟩) : wpAny (model prog w) A (call (.ref u) xs) Q E ⟨hp, g, d, t, os⟩ := by
  refine wpAny_call (codeAny_of_tree ?_)
  show wpAny _ A.in1 (callAny (.ref u) ⟨xs, []⟩) _ _ _
  simp only [callAny]
  refine wpAny_bind (wpAny_load eu ?_)
  simp only [PySem.W.kxs_mw, show (Value.type "method-wrapper" == Value.type "method" || Value.type "method-wrapper" == Value.type "builtin_function_or_method" || Value.type "method-wrapper" == Value.type "method-wrapper") = true by decide, if_true]
  refine W.KFB.if_so (by decide) ?_
  refine wpAny_bind (PySem.W.check_bound_init F.excBase_ValueError.toExcCallFacts cC ea rfl ?_)
  refine wpAny_bind (wpAny_pure (wpAny_pure ?_))
  refine ⟨Code.quiet_builtin _ (by decide +kernel), codeAny_builtin F.excBase_ValueError.initEntry ?_⟩
  rw [Around.under_plainId F.excBase_ValueError.init.plain _]
  wp_walk
  refine fin _ hp.objs.size (fun b o nb e => ?_) ?_
  · rw [Heap.get?_update_other _ _ (Ne.symm nb)]; exact Heap.get?_push_of_some _ e
  · rw [Heap.get?_update_self _ (Heap.get?_push_of_some _ ea) rfl]; rfl
/-- what is to be known of an own exception class that calls super().__init__ -/
structure SupF (P : Program) (K : PySem.W.Frag) (mg : Str → Option Value) (C cda : Addr) : Prop where
  any : PySem.W.nsIn K PySem.cStatics "thirdparty.any" = some none
  sup : PySem.W.ks_superIn K C C "__init__" = some (some (.builtin "ValueError.__init__"))
  ve : PySem.W.subIn K (.ref C) (.type "ValueError") = some true
  slf : PySem.W.mroIn K C (.ref C) = some true
  code : ∃ ccl cdd vs ccs file tf, K.lookup cda = some ⟨ccl, cdd, .fields vs, ccs⟩ ∧ vs[2]? = some (.str file tf) ∧ ((P.main.file : Str) == file) = true
  mgs : mg "super" = none
  top : (P.main.scope.names.lookup ("super" : Str)).isSome = false
theorem fn_sup {CX : CXT} {P : Program} {w : World} {K : PySem.W.Frag} {mg : Str → Option Value} {base : Heap} {k : Nat} {f cda cc C : Addr} {name qual msg : Str} {params : Arguments} {rest : List Stmt} {scope : Scope} {dV kV doc pm ct oc cl : Value} {an od cld : Option Addr}
    {osl csl : Array (Option Value)} {N ps : List Str} {sp : Sp} {p0 p1 p2 p3 p4 pc : Pos} {j : Nat} {ar : Arg}
    (lk : K.lookup f = some ⟨oc, od, .func (PySem.W.ksFn name qual params (.Expr (.Call (.Attribute (.Call (.Name "super" p0) [] [] p1) "__init__" p2) [.Constant (.str msg) j pc] [] p3) p4 :: rest) scope dV kV doc pm an (.ref cda) ct cc), osl⟩)
    {pl : Sem Bool} (hev : ∀ L : Addr, eval (.Call (.Attribute (.Call (.Name "super" p0) [] [] p1) "__init__" p2) [.Constant (.str msg) j pc] [] p3) (envS qual scope L f cda cc) = (do
      let ov ← attributeBase (.Call (.Name "super" p0) [] [] p1) "__init__" (envS qual scope L f cda cc) (eval (.Call (.Name "super" p0) [] [] p1) (envS qual scope L f cda cc))
      standAt p2.atName
      let (f', first) ← holding [ov] (getMethod ov "__init__" pl)
      callWith p3 f' first (backTo p3 (starEach [.Constant (.str msg) j pc] (envS qual scope L f cda cc))) []))
    (hsw : ∀ L : Addr, swapsWith (.Call (.Attribute (.Call (.Name "super" p0) [] [] p1) "__init__" p2) [.Constant (.str msg) j pc] [] p3) none p4.line (envS qual scope L f cda cc) = pure false)
    (hin : ∀ L : Addr, interactive (envS qual scope L f cda cc) = false)
    (hcd : PySem.W.codeIn K (.ref cda) qual = true) (S : SupScope N ps scope) (T : OexC K C) (SF : SupF P K mg C cda) (hcell : K.lookup cc = some ⟨cl, cld, .cell (some (.ref C)), csl⟩) (har : (params.posonlyargs ++ params.args).head? = some ar) (har2 : ps[0]? = some ar.arg)
    (len : ∀ vs H Q E, sp vs H Q E → vs.length = ps.length) (hself : ∀ vs H Q E, sp vs H Q E → ∃ a ws, vs = .ref a :: ws ∧ H a = some (exo a C none))
    (hbody : ∀ (A : Around) (outer : List PySem.Env) (s : Shared) (H : Hp) (vs : List V) (Q : VK) (E : XK), Room k (A.deeper (envS qual scope s.heap.objs.size f cda cc)) → sp vs H Q E →
      ∃ t, PSs (cxS CX P w K mg base N qual scope f cda cc A outer s H E) rest t ∧ t { nx := fun _ H' => Q .non H', rt := Q } (L2.start N vs) H) :
    FnOk P w K mg base CX (k + 1) f (PySem.W.ksFn name qual params (.Expr (.Call (.Attribute (.Call (.Name "super" p0) [] [] p1) "__init__" p2) [.Constant (.str msg) j pc] [] p3) p4 :: rest) scope dV kV doc pm an (.ref cda) ct cc) ps sp := by
  refine ⟨len, fun A outer s H args us vs Q E hr e0 hb r hsp => ?_⟩
  have hl := len _ _ _ _ hsp
  have KX : K.In s.heap := e0.mod.kin.keeps fun b o e => (e0.bs b o e).1
  have lim : s.heap.NoLimit := e0.mod.nolimit.keeps fun b o e => (e0.bs b o e).1
  have hloc : ∀ y ∈ ps.zip us, scope.names.lookup y.1 = some .local := fun ⟨n, v⟩ hy => S.par n (List.of_mem_zip hy).1
  refine ks_codeAny_call_defAt (fd := PySem.W.ksFn name qual params (.Expr (.Call (.Attribute (.Call (.Name "super" p0) [] [] p1) "__init__" p2) [.Constant (.str msg) j pc] [] p3) p4 :: rest) scope dV kV doc pm an (.ref cda) ct cc) hr.depth (KX _ _ lk) rfl lim (PySem.W.codeRec_of KX hcd) rfl hb S.nocell hloc (fun h1 hns hk => ?_) S.co S.gen S.kind
  have I0 : Inv (cxS CX P w K mg base N qual scope f cda cc A outer s H E) [] (L2.start N vs) H { s with heap := h1, toks := s.toks + (ps.zip us).length } := inv_sup S hr.hd e0 hl r hcell hns hk
  obtain ⟨t, ht, hq⟩ := hbody A outer s H vs Q E (hr.deeper _) hsp
  obtain ⟨a, ws, rfl, ea⟩ := hself _ _ _ _ hsp
  obtain ⟨nm, q, N', bs, bm, sn, sub, ab, col, dd, k0, k1, k2, k3, k5, hC, hbm⟩ := T.cls
  obtain ⟨ccl, cdd, vs', ccs, file, tf, hcode, hvs, hfile⟩ := SF.code
  have K1 : K.In h1 := KX.keeps hk
  have hcl : PySem.W.clsIn K C = some { name := nm, bases := bs, mro := .ref C :: bm, ns := N', qualname := q, hasDict := true, slotNames := sn, subclasses := sub, abstract := ab, collection := col, hasDel := false } := by unfold PySem.W.clsIn; rw [hC] <;> rfl
  obtain ⟨t0, ha1⟩ := exo_at I0.hok ea
  have G0 : h1.Ns mainGlobals mg := e0.mod.glob.keeps fun b o e => hk b o (e0.bs b o e).1
  obtain ⟨mb, B0, B1⟩ := e0.mod.blt
  have B0 : h1.Ns builtinsNs mb := B0.keeps fun b o e => hk b o (e0.bs b o e).1
  have hself : (ps.zip us).reverse.lookup ar.arg = some (.ref a) := by
    have ndP : ps.Nodup := by rw [← S.pre]; exact S.nd.sublist (List.take_sublist _ _)
    obtain ⟨u, hu, ru⟩ := r.get (i := 0) (x := .ref a) rfl
    have ru : u = .ref a := ru
    subst ru
    exact zip_only ndP har2 hu
  have hwC : PySem.W.InstAt h1 a (HandSPX.excO C t0) C none := ⟨ha1, rfl, rfl, trivial⟩
  refine ks_wpAt_execs_cons (ks_wpAt_Expr_any (ks_wpAt_MethodCall (pl := pl) ?_ (hev _)) (hin _) (hsw _))
  refine ks_wpAt_super_base (env := envS qual scope s.heap.objs.size f cda cc) S.sup S.cls (by decide) rfl (K1 _ _ lk) rfl har rfl (K1 _ _ hcode) rfl hvs hfile SF.top ?_
  refine PySem.W.ks_loadName_global S.kind S.sup (Calls.loadGlobal_builtin (env := envS qual scope s.heap.objs.size f cda cc) G0 SF.mgs B0 ((B1 "super" (by decide)).trans (by first | rfl | decide +kernel | kernel_rfl)) ⟨rfl, ?_⟩)
  refine wpAny_loadName_free S.kind S.cls rfl ⟨_, K1 _ _ hcell, rfl⟩ ?_
  refine wpAny_loadName_local S.kind (S.par _ (List.mem_of_getElem? har2)) hns hself ?_
  refine ks_wpAny_isType_cls (K1 _ _ hC) rfl ⟨rfl, ?_⟩
  refine ks_wpAny_call_super (K1 _ _ hC) rfl ha1 rfl (fun c e => by cases e) (PySem.W.looks_mroIn K1 SF.slf) (fun h2 e2 k2 => ?_)
  have K2 : K.In h2 := K1.keeps k2
  have I2 := I0.kept (h' := h2) (t' := s.toks + (ps.zip us).length) k2
  have hw2 : PySem.W.InstAt h2 a (HandSPX.excO C t0) C none := ⟨k2 _ _ ha1, rfl, rfl, trivial⟩
  have hal : PySem.W.alongIn K "__init__" (((Value.ref C :: bm).dropWhile (· != .ref C)).drop 1) = some (some (.builtin "ValueError.__init__")) := by
    have q := SF.sup
    unfold PySem.W.ks_superIn at q
    rw [hcl] at q
    exact q
  refine PySem.W.kxs_getMethod PySem.W.kxs_ValueError e2 (PySem.W.looks_opaque K2 SF.any) (l₀ := .ref C :: bm) (fun A Q E s k q => wpAny_bind ((PySem.W.looks_clsIn K2 hcl) A _ E s k (wpAny_pure q))) rfl K2 hal (hw2.type.andThen (PySem.W.looks_subIn K2 SF.ve)) (PySem.W.ks_ne K2 hw2 hcl) (by decide) ?_
  have he : starEach [.Constant (.str msg) j pc] (envS qual scope s.heap.objs.size f cda cc) = (false, eval (.Constant (.str msg) j pc) (envS qual scope s.heap.objs.size f cda cc)) :: starEach [] (envS qual scope s.heap.objs.size f cda cc) := rfl
  have hu : (h2.push (PySem.W.kxs_mw "ValueError.__init__" a)).get? h2.objs.size = some (PySem.W.kxs_mw "ValueError.__init__" a) := Heap.get?_push_size _ rfl
  have k3 : ∀ b o, h2.get? b = some o → (h2.push (PySem.W.kxs_mw "ValueError.__init__" a)).get? b = some o := fun b o e => Heap.get?_push_of_some _ e
  have I3 := I2.kept (h' := h2.push (PySem.W.kxs_mw "ValueError.__init__" a)) (t' := s.toks + (ps.zip us).length + 1) k3
  have I3 := I3.pins_of (pins' := [(h2.objs.size, PySem.W.kxs_mw "ValueError.__init__" a)]) fun p hp => by
    have e : p = (h2.objs.size, PySem.W.kxs_mw "ValueError.__init__" a) := by simpa using hp
    subst e
    exact ⟨hu, I2.hok.fresh (Nat.le_refl _), Nat.ne_of_gt I2.lt, I2.nofs (Nat.le_refl _), fun v z => by cases z⟩
  show wpAny _ _ (callWith p3 (.ref h2.objs.size) [] (backTo p3 (starEach [.Constant (.str msg) j pc] (envS qual scope s.heap.objs.size f cda cc))) []) _ _ _
  rw [he]
  refine PySem.W.kxs_callWith (i := "ValueError.__init__") (x := a) rfl ?_
  refine Calls.evalArgs_plain ?_
  have pa : PA (cxS CX P w K mg base N qual scope f cda cc A outer s H E) [.Constant (.str msg) j pc] _ := pa_cons pe_str pa_nil he
  have ra := pa.run p3 _ _ _ H (fun vs H1 => vs = [.str msg] ∧ H1 = H) I3 ⟨rfl, rfl⟩
  refine wpAny_mono ra (fun us3 s3 h3 => ?_) fun _ _ z => z
  obtain ⟨vs3, H3, I4, r3, rfl, rfl⟩ := h3
  have hlen : us3.length ≤ sizeLine := by rw [← Paired.length r3, sizeLine_eq]; show (1 : Nat) ≤ _; decide
  have hu4 : s3.heap.get? h2.objs.size = some (PySem.W.kxs_mw "ValueError.__init__" a) := (I4.pin _ (List.mem_append_right _ (List.mem_singleton.mpr rfl))).1
  obtain ⟨t4, ha4⟩ := exo_at I4.hok ea
  have K4 : K.In s3.heap := I4.kIn
  refine ⟨hu4, ?_⟩
  obtain ⟨hp4, g4, d4, tk4, os4⟩ := s3
  refine bound_ve (K4 _ _ hC) ha4 hu4 hlen fun h5 t5 k5' ha5 => ?_
  have I5 := I4.write (t' := tk4) (h' := h5) (x := a) (e := a) (o := exo a C none) (by rw [ea]; exact True.intro) (.inl rfl) k5' ⟨_, ha5⟩ (exo_ok ha5)
  have eu : upd H3 a (exo a C none) = H3 := by
    funext b
    by_cases hb : b = a
    · rw [hb, upd_same, ea]
    · rw [upd_ne hb]
  rw [eu] at I5
  have I6 := I5.pins_of (pins' := []) fun p hp => absurd hp (by simp)
  refine wpAt_of_wpAny (wpAny_mono (ht.run [] _ _ _ _ I6 hq) (fun fl s' hs => ?_) fun e s' hs => hs)
  cases fl with
  | ret u =>
    obtain ⟨v, σ', H', J', rv, q⟩ := hs
    exact ⟨v, H', J'.os, J'.bare, J'.base, J'.hok, rv, q⟩
  | next =>
    obtain ⟨σ', H', J', q⟩ := hs
    exact ⟨.non, H', J'.os, J'.bare, J'.base, J'.hok, rfl, q⟩
  | brk => exact hs.elim fun _ h => h.elim fun _ h => h.2.elim
  | cont => exact hs.elim fun _ h => h.elim fun _ h => h.2.elim
end J

namespace J
open PySem PySem.Spec PyProof.Rows L2

section
variable {K : PySem.W.Frag} {Φ : Fr} {G H : Hp} {σ : St} {E : Env} {p : Addr} {o : HO}
/-- an object of nobody's is written -/
theorem Sat.upd (S : Sat K Φ G H σ E) (g : G p = none) (f : Φ.F p = none) (n : NotOwn σ E p) : Sat K Φ G (L2.upd H p o) σ E := by
  refine ⟨S.len, fun i s hs => ?_, S.gh.mut g, S.fh.mut f, S.fg, S.ow, S.di⟩
  obtain ⟨x, h1, h2⟩ := S.sl i s hs
  refine ⟨x, h1, h2.mono (Ex.refl G) fun q b l e1 e2 => ?_⟩
  subst e1 e2
  exact upd_ne fun z => by subst z; exact n i b l hs h1
def Fr.lo (Φ : Fr) (p : Addr) (o : HO) : Fr := ⟨L2.upd Φ.F p o, Φ.io⟩
theorem Sat.lo (S : Sat K Φ G H σ E) (hp : H p = some o) (g : G p = none) (n : NotOwn σ E p) : Sat K (Φ.lo p o) G H σ E := by
  refine ⟨S.len, S.sl, S.gh, fun a u h => ?_, fun a h => ?_, fun i b l q h1 h2 => ?_, S.di⟩
  · by_cases ha : a = p
    · subst ha
      have h' : L2.upd Φ.F a o a = some u := h
      rw [upd_same] at h'; rw [← h']; exact hp
    · have h' : L2.upd Φ.F p o a = some u := h
      rw [upd_ne ha] at h'; exact S.fh a u h'
  · by_cases ha : a = p
    · subst ha; exact g
    · refine S.fg a fun z => h ?_
      show L2.upd Φ.F p o a = none
      rw [upd_ne ha]; exact z
  · obtain ⟨h3, h4, h5⟩ := S.ow i b l q h1 h2
    refine ⟨h3, ?_, h5⟩
    show L2.upd Φ.F p o q = none
    rw [upd_ne (fun z => n i b l h1 (by rw [← z]; exact h2))]
    exact h4
theorem Sat.unlo (S : Sat K (Φ.lo p o) G H σ E) (hF : Φ.F p = none) : Sat K Φ G H σ E ∧ H p = some o ∧ G p = none ∧ NotOwn σ E p := by
  have hs : (Φ.lo p o).F p = some o := upd_same
  refine ⟨⟨S.len, S.sl, S.gh, fun a u h => ?_, fun a h => ?_, fun i b l q h1 h2 => ?_, S.di⟩, S.fh p _ hs, S.fg p (by rw [hs]; simp), fun i b l h1 h2 => ?_⟩
  · by_cases ha : a = p
    · subst ha; rw [hF] at h; cases h
    · exact S.fh a u (by show L2.upd Φ.F p o a = some u; rw [upd_ne ha]; exact h)
  · by_cases ha : a = p
    · subst ha; exact absurd hF h
    · exact S.fg a (by show L2.upd Φ.F p o a ≠ none; rw [upd_ne ha]; exact h)
  · obtain ⟨h3, h4, h5⟩ := S.ow i b l q h1 h2
    refine ⟨h3, ?_, h5⟩
    by_cases ha : q = p
    · subst ha; exact hF
    · have h4' : L2.upd Φ.F p o q = none := h4
      rw [upd_ne ha] at h4'; exact h4'
  · obtain ⟨h3, h4, h5⟩ := S.ow i b l p h1 h2
    rw [hs] at h4; cases h4
end

/-! ### self.f = e, one after the other -/
/-- the exception at a as far as it is made -/
def Xst (H : Hp) (a C : Addr) (ns : List Str) (us : List V) : Option Addr → Prop
  | none => H a = some (exo a C none) ∧ ns = [] ∧ us = []
  | some d => H a = some (exo a C (some d)) ∧ H d = some (exd d (ns.zip us)) ∧ d ≠ a
def putF : List (Str × (Env → R D)) → List Str → List D → Env → Option (List Str × List D)
  | [], ns, ds, _ => some (ns, ds)
  | (f, fe) :: r, ns, ds, E => match fe E with
    | .ok d E1 => putF r (f :: ns) (d :: ds) E1
    | _ => none
/-- what is wished behind the fields -/
def PutW (K : PySem.W.Frag) (Φ : Fr) (G H0 : Hp) (a C : Addr) (σ : St) (r : Option (List Str × List D)) (Q : St → Hp → Prop) : Prop := match r with
  | none => False
  | some (ns, ds) => ∀ G' H' d us E', Ex G G' → Sat K Φ G' H' σ E' → H' a = some (exo a C (some d)) → H' d = some (exd d (ns.zip us)) → H0 d = none → d ≠ a → RpA K G' us ds → us.length = ns.length → G' d = none → Φ.F d = none → G' a = none → Q σ H'
def PutS (K : PySem.W.Frag) (t : TS) (fl : List (Str × (Env → R D))) : Prop := ∀ Φ G H σ E D H0 a C ns us ds o, OexC K C → (∀ p ∈ fl, PySem.W.findIn K (.ref C) p.1 = some none) → σ[0]? = some (some (.ref a)) → Sat K Φ G H σ E → NotOwn σ E a → G a = none → Φ.F a = none → Xst H a C ns us o → RpA K G us ds → us.length = ns.length → ns.length + fl.length ≤ 900 →
  (∀ d, o = some d → G d = none ∧ Φ.F d = none ∧ H0 d = none ∧ NotOwn σ E d) → (∀ b, b ≠ a → G b = none → Φ.F b = none → (∀ d, o = some d → b ≠ d) → H0 b ≠ none → False) → (fl = [] → o ≠ none) → PutW K Φ G H0 a C σ (putF fl ns ds E) D.nx → t D σ H
def JPut (X : Cx) (s : List Stmt) (fl : List (Str × (Env → R D))) : Prop := ∃ t, PSs X s t ∧ PutS X.K t fl
theorem NotOwn.ne {K : PySem.W.Frag} {Φ : Fr} {G H : Hp} {σ : St} {E : Env} (S : Sat K Φ G H σ E) {p : Addr} {o : HO} (h : H p = some o) (hn : ∀ vs, o ≠ .lst vs) : NotOwn σ E p := fun i b l h1 h2 => by
  obtain ⟨x, h3, q, vs, h5, h6, _⟩ := S.sl i _ h1
  rw [h2] at h3; cases h3; cases h5
  rw [h] at h6
  exact hn vs (Option.some.inj h6)
theorem exo_lst {e C : Addr} {d : Option Addr} {xs : List V} : exo e C d ≠ .lst xs := fun z => by
  have z' : HO.ext _ = HO.lst xs := z
  cases z'
theorem exd_lst {e : Addr} {fs : List (Str × V)} {xs : List V} : exd e fs ≠ .lst xs := fun z => by
  have z' : HO.ext _ = HO.lst xs := z
  cases z'
theorem jput_nil {X : Cx} : JPut X [] [] := by
  refine ⟨_, pss_nil, fun Φ G H σ E D H0 a C ns us ds o T hf hs S nA gA fA hx r hl hz ho hc hne hp => ?_⟩
  cases o with
  | none => exact absurd rfl (hne rfl)
  | some d =>
    obtain ⟨x1, x2, x3⟩ := hx
    obtain ⟨o1, o2, o3, o4⟩ := ho d rfl
    exact hp G H d us E (Ex.refl G) S x1 x2 o3 x3 r hl o1 o2 gA
theorem jput_cons {X : Cx} {s : Str} {f : Str} {e : Expr} {rest : List Stmt} {fe : Env → R D} {fl : List (Str × (Env → R D))} {p p' pos : Pos} (he : JE X V0 e fe) (hr : JPut X rest fl) (hN : X.N[0]? = some s) (hv : Vis X.env.scope s := by first | exact Or.inl rfl | exact Or.inr (Or.inl rfl) | exact Or.inr (Or.inr rfl)) (hd : (s == ("__debug__" : Str)) = false := by decide)
    (hcd : (s == ("__classdict__" : Str)) = false := by decide) (hs : swapsWith e (some (.Attribute (.Name s p) f p')) pos.line X.env = pure false := by rfl) : JPut X (.Assign [.Attribute (.Name s p) f p'] e pos :: rest) ((f, fe) :: fl) := by
  obtain ⟨te, h1, h2⟩ := he
  obtain ⟨t, h3, h4⟩ := hr
  refine ⟨_, pss_cons (ps_ost (pe_var hN hv hd hcd) h1 hs) h3, fun Φ G H σ E D H0 a C ns us ds o T hf hself S nA gA fA hx r hl hz ho hc hne hp => ?_⟩
  have hp0 := hp
  unfold putF at hp
  have mono : ∀ {G1 : Hp} {r : Option (List Str × List J.D)}, Ex G G1 → PutW X.K Φ G H0 a C σ r D.nx → PutW X.K Φ G1 H0 a C σ r D.nx := fun {G1 r} e1 h => by
    cases r with
    | none => exact h
    | some r => exact fun G' H' d us E' e2 => h G' H' d us E' (e1.trans e2)
  cases hfe : fe E with
  | exc x E' => rw [hfe] at hp; exact hp.elim
  | stuck => rw [hfe] at hp; exact hp.elim
  | ok y0 E1 =>
    rw [hfe] at hp
    have hp : PutW X.K Φ G H0 a C σ (putF fl (f :: ns) (y0 :: ds) E1) D.nx := hp
    have hfp := hf (f, fe) (List.mem_cons_self ..)
    have hfl : ∀ p ∈ fl, PySem.W.findIn X.K (.ref C) p.1 = some none := fun p hp => hf p (List.mem_cons_of_mem _ hp)
    have hz2 : (f :: ns).length + fl.length ≤ 900 := by simp only [List.length_cons] at hz ⊢; omega
    show te σ H fun y H1 => tVar 0 σ H1 fun x H2 => ∃ a C : Addr, x = .ref a ∧ OexC X.K C ∧ PySem.W.findIn X.K (.ref C) f = some none ∧ _
    cases o with
    | none =>
      obtain ⟨x1, rfl, rfl⟩ := hx
      cases r
      refine h2 (Φ.lo a (exo a C none)) G H σ E _ (S.lo x1 gA nA).pw ?_
      rw [hfe]
      intro G1 H1 y e1 S1 r1
      obtain ⟨S2, y1, y2, y3⟩ := S1.unlo fA
      refine ⟨.ref a, hself, a, C, rfl, T, hfp, .inl ⟨y1, fun dx hdx hne1 => ?_⟩⟩
      have g1 := S2.gh.back hdx
      have f1 := S2.fh.back hdx
      have hda : a ≠ dx := fun z => hne1 z.symm
      refine h4 Φ G1 _ σ E1 D H0 a C [f] [y] [y0] (some dx) T hfl hself ((S2.upd g1 f1 (S2.notOwn hdx)).upd y2 fA y3) y3 y2 fA ⟨upd_same, ?_, hne1⟩ (.cons r1 .nil) rfl hz2 (fun d e => ?_) (fun b b1 b2 b3 b4 b5 => hc b b1 (e1.back b2) b3 (fun _ z => by cases z) b5) (fun _ z => by cases z) (mono e1 hp)
      · rw [upd_ne (Ne.symm hda), upd_same]; rfl
      · cases e
        refine ⟨g1, f1, ?_, S2.notOwn hdx⟩
        cases h0 : H0 dx with
        | none => rfl
        | some w => exact (hc dx hne1 (e1.back g1) f1 (fun _ z => by cases z) (by rw [h0]; simp)).elim
    | some d0 =>
      obtain ⟨x1, x2, x3⟩ := hx
      obtain ⟨o1, o2, o3, o4⟩ := ho d0 rfl
      have fd0 : (Φ.lo a (exo a C (some d0))).F d0 = none := by show L2.upd Φ.F a _ d0 = none; rw [upd_ne x3]; exact o2
      refine h2 ((Φ.lo a (exo a C (some d0))).lo d0 (exd d0 (ns.zip us))) G H σ E _ ((S.lo x1 gA nA).lo x2 o1 o4).pw ?_
      rw [hfe]
      intro G1 H1 y e1 S1 r1
      obtain ⟨S2, z1, z2, z3⟩ := S1.unlo fd0
      obtain ⟨S3, y1, y2, y3⟩ := S2.unlo fA
      refine ⟨.ref a, hself, a, C, rfl, T, hfp, .inr ⟨d0, ns.zip us, y1, z1, ?_, ?_⟩⟩
      · rw [List.length_zip]; simp only [List.length_cons] at hz; omega
      · refine h4 Φ G1 _ σ E1 D H0 a C (f :: ns) (y :: us) (y0 :: ds) (some d0) T hfl hself (S3.upd z2 o2 z3) y3 y2 fA ⟨?_, upd_same, x3⟩ (.cons r1 (r.mono e1)) (by simp [hl]) hz2 (fun d e => ?_) (fun b b1 b2 b3 b4 b5 => hc b b1 (e1.back b2) b3 b4 b5) (fun _ z => by cases z) (mono e1 hp)
        · rw [upd_ne (Ne.symm x3)]; exact y1
        · cases e; exact ⟨z2, o2, o3, z3⟩
end J

namespace J
open PySem PySem.Spec PyProof.Rows L2

section
variable {K : PySem.W.Frag} {Φ : Fr} {G H : Hp} {σ : St} {E : Env}
theorem Sat.bare (S : Sat K Φ G H σ E) : Sat K Φ G H [] [] := ⟨rfl, fun i s h => by simp at h, S.gh, S.fh, S.fg, fun i b l p h => by simp at h, fun i j b b' l l' p h => by simp at h⟩
theorem Sat.vals (S : Sat K Φ G H [] []) {a : Addr} {ws : List V} {ds : List D} (r : RpA K G ws ds) : Sat K Φ G H ((V.ref a :: ws).map some) (.no :: ds.map .val) := by
  have nown : ∀ (i : Nat) (b : Bool) (l : List D), (Sl.no :: ds.map Sl.val)[i]? ≠ some (.own b l) := fun i b l h => by
    cases i with
    | zero => simp at h
    | succ i => simp at h
  refine ⟨by simp [r.length], fun i s h => ?_, S.gh, S.fh, S.fg, fun i b l p h => absurd h (nown i b l), fun i j b b' l l' p h => absurd h (nown i b l)⟩
  cases i with
  | zero => simp at h; subst h; exact ⟨_, rfl, trivial⟩
  | succ i =>
    rw [List.getElem?_cons_succ, List.getElem?_map] at h
    obtain ⟨d, h1, rfl⟩ := Option.map_eq_some_iff.mp h
    obtain ⟨v, h2, h3⟩ := r.get h1
    exact ⟨some v, by rw [List.map_cons, List.getElem?_cons_succ, List.getElem?_map, h2]; rfl, v, rfl, h3⟩
end

/-! ### what an own exception's __init__ promises -/
def PostN (K : PySem.W.Frag) (Φ : Fr) (G H : Hp) (a C : Addr) (r : Option (List Str × List D)) (Q : VK) : Prop := match r with
  | none => False
  | some (ns, ds) => ∀ G' H' d us, Ex G G' → Sat K Φ G' H' [] [] → H' a = some (exo a C (some d)) → H' d = some (exd d (ns.zip us)) → H d = none → d ≠ a → RpA K G' us ds → us.length = ns.length → G' d = none → Φ.F d = none → G' a = none → Q .non H'
def spI (K : PySem.W.Frag) (n : Nat) (C : Addr) (F : List D → Option (List Str × List D)) : Sp := fun vs H Q _ => vs.length = n ∧ ∃ a ws Φ G ds, vs = .ref a :: ws ∧ H a = some (exo a C none) ∧ G a = none ∧ Φ.F a = none ∧ Sat K Φ G H [] [] ∧ RpA K G ws ds ∧ (∀ b, b ≠ a → G b = none → Φ.F b = none → H b ≠ none → False) ∧ PostN K Φ G H a C (F ds) Q
def initF (n : Nat) (fl : List (Str × (Env → R D))) : List D → Option (List Str × List D) := fun ds => putF fl [] [] ((.no :: ds.map .val) ++ List.replicate (n - (.no :: ds.map Sl.val).length) .no)
theorem fn_initJ {P : Program} {w : World} {K : PySem.W.Frag} {mg : Str → Option Value} {base : Heap} {k : Nat} {f cda cc C : Addr} {name qual msg : Str} {params : Arguments} {rest : List Stmt} {scope : Scope} {dV kV doc pm ct oc cl : Value} {an od cld : Option Addr}
    {osl csl : Array (Option Value)} {N ps : List Str} {p0 p1 p2 p3 p4 pc : Pos} {j : Nat} {ar : Arg} {fl : List (Str × (Env → R D))}
    (lk : K.lookup f = some ⟨oc, od, .func (PySem.W.ksFn name qual params (.Expr (.Call (.Attribute (.Call (.Name "super" p0) [] [] p1) "__init__" p2) [.Constant (.str msg) j pc] [] p3) p4 :: rest) scope dV kV doc pm an (.ref cda) ct cc), osl⟩)
    {pl : Sem Bool} (hev : ∀ L : Addr, eval (.Call (.Attribute (.Call (.Name "super" p0) [] [] p1) "__init__" p2) [.Constant (.str msg) j pc] [] p3) (envS qual scope L f cda cc) = (do
      let ov ← attributeBase (.Call (.Name "super" p0) [] [] p1) "__init__" (envS qual scope L f cda cc) (eval (.Call (.Name "super" p0) [] [] p1) (envS qual scope L f cda cc))
      standAt p2.atName
      let (f', first) ← holding [ov] (getMethod ov "__init__" pl)
      callWith p3 f' first (backTo p3 (starEach [.Constant (.str msg) j pc] (envS qual scope L f cda cc))) []))
    (hsw : ∀ L : Addr, swapsWith (.Call (.Attribute (.Call (.Name "super" p0) [] [] p1) "__init__" p2) [.Constant (.str msg) j pc] [] p3) none p4.line (envS qual scope L f cda cc) = pure false)
    (hin : ∀ L : Addr, interactive (envS qual scope L f cda cc) = false)
    (hcd : PySem.W.codeIn K (.ref cda) qual = true) (S : SupScope N ps scope) (T : OexC K C) (SF : SupF P K mg C cda) (hcell : K.lookup cc = some ⟨cl, cld, .cell (some (.ref C)), csl⟩) (har : (params.posonlyargs ++ params.args).head? = some ar) (har2 : ps[0]? = some ar.arg)
    (hfl : fl ≠ []) (hlen : fl.length ≤ 900) (hno : ∀ p ∈ fl, PySem.W.findIn K (.ref C) p.1 = some none)
    (hput : ∀ (A : Around) (outer : List PySem.Env) (s : Shared) (H : Hp) (E : XK), JPut (cxS (L2N.CX P w) P w K mg base N qual scope f cda cc A outer s H E) rest fl) :
    FnOk P w K mg base (L2N.CX P w) (k + 1) f (PySem.W.ksFn name qual params (.Expr (.Call (.Attribute (.Call (.Name "super" p0) [] [] p1) "__init__" p2) [.Constant (.str msg) j pc] [] p3) p4 :: rest) scope dV kV doc pm an (.ref cda) ct cc) ps (spI K ps.length C (initF N.length fl)) := by
  refine fn_sup lk hev hsw hin hcd S T SF hcell har har2 (fun vs H Q E h => h.1) (fun vs H Q E h => ?_) fun A outer s H vs Q E hr hsp => ?_
  · obtain ⟨_, a, ws, Φ, G, ds, h1, h2, _⟩ := h
    exact ⟨a, ws, h1, h2⟩
  · obtain ⟨t, h1, h2⟩ := hput A outer s H E
    refine ⟨t, h1, ?_⟩
    obtain ⟨hl, a, ws, Φ, G, ds, rfl, ea, gA, fA, S0, r, cov, hP⟩ := hsp
    have S1 := (S0.vals (a := a) r).begin N
    refine h2 Φ G H _ _ _ H a C [] [] [] none T hno ?_ S1 (NotOwn.ne S1 ea fun vs => exo_lst) gA fA ⟨ea, rfl, rfl⟩ .nil rfl (by simpa using hlen) (fun d e => by cases e) (fun b h1 h2 h3 _ h4 => cov b h1 h2 h3 h4) (fun z => absurd z hfl) ?_
    · unfold L2.start; rfl
    · unfold initF at hP
      cases hF : putF fl [] [] ((.no :: ds.map .val) ++ List.replicate (N.length - (.no :: ds.map Sl.val).length) .no) with
      | none => rw [hF] at hP; exact hP.elim
      | some r =>
        rw [hF] at hP
        exact fun G' H' d us E' e1 S2 x1 x2 x3 x4 x5 x6 x7 x8 x9 => hP G' H' d us e1 S2.bare x1 x2 x3 x4 x5 x6 x7 x8 x9
/-- an own exception class, as a raise sees it -/
structure ExcJ (P : Program) (w : World) (K : PySem.W.Frag) (mg : Str → Option Value) (base : Heap) (k : Nat) (x : Str) (n : Nat) (F : List D → Option (List Str × List D)) : Prop where
  ok : ∃ fI fd ps, mg x = some (.ref (He.ga K x)) ∧ OexC K (He.ga K x) ∧ PySem.W.findIn K (.ref (He.ga K x)) "__init__" = some (some (.ref fI)) ∧ PySem.W.typeIn K (.ref fI) = some (.type "function") ∧ ps.length = n + 1 ∧ Binds K fd ps [] ∧ FnOk P w K mg base (L2N.CX P w) k fI fd ps (spI K (n + 1) (He.ga K x) F)
/-- C(e, ..) -/
theorem pmkN {X : Cx} {CX : CXT} {x : Str} {C fI : Addr} {k : Nat} {fd : FuncData} {ps : List Str} {sp : Sp} {e : Expr} {es : List Expr} {p pos : Pos} {ta : TA} (T : OexC X.K C) (iC : PySem.W.findIn X.K (.ref C) "__init__" = some (some (.ref fI))) (tI : PySem.W.typeIn X.K (.ref fI) = some (.type "function"))
    (F1 : FnOk X.prog X.w X.K X.mg X.base CX k fI fd ps sp) (hr : Room (k + 1) X.A) (hb : Binds X.K fd ps []) (hx : Passes CX X fun _ _ _ => False) (hg : Gl X x) (hm : X.mg x = some (.ref C)) (ha : PA X (e :: es) ta)
    (hdb : (x == ("__debug__" : Str)) = false := by decide) (he : starEach (e :: es) X.env = (false, eval e X.env) :: starEach es X.env := by rfl) (hpl : (backTo pos (starEach es X.env)).any (·.1) = false := by rfl) :
    L2N.PMk X (.Call (.Name x p) (e :: es) [] pos) (tMkO C sp [] ta) := by
  intro pins s σ H Q I hw
  obtain ⟨nm, qn, nsA, bs, bm, sn, sub, ab, col, dd, k0, k1, k2, k3, k5, hC, hbm⟩ := T.cls
  refine wpAny_Call_Name_kw (ld_glob I hg hm ?_ hdb)
  refine PySem.W.callWith_K (h₀ := X.base) I.ok.mod.kin T.kC (thn (ha.run pos pins s σ H _ I hw) fun us s1 ⟨vs, H1, J1, rr, hz, wish⟩ => ⟨J1.kIn, ?_⟩) he hpl
  show wpAny _ _ (call (.ref C) us) _ _ _
  obtain ⟨hp, gs, dr, tk, os⟩ := s1
  have up1 : hp.objs.size ≤ hp.objs.size + 1 := Nat.le_succ _
  have q1 := wish (hp.objs.size + 1) (J1.hok.fresh up1)
  rw [List.append_nil] at q1
  have kp : ∀ b o, hp.get? b = some o → ((hp.push (PySem.W.kdv_tup us)).push (HandSPX.excO C hp.objs.size)).get? b = some o := fun b o z => Heap.get?_push_of_some _ (Heap.get?_push_of_some _ z)
  have at1 : ((hp.push (PySem.W.kdv_tup us)).push (HandSPX.excO C hp.objs.size)).get? (hp.objs.size + 1) = some (HandSPX.excO C hp.objs.size) := by heap_get
  have J2 := J1.laid (t' := tk) (o := exo (hp.objs.size + 1) C none) kp up1 (exo_ok at1)
  have r2 : Vals (V.ref (hp.objs.size + 1) :: vs) (Value.ref (hp.objs.size + 1) :: us) := .cons rfl rr
  have ln : (Value.ref (hp.objs.size + 1) :: us).length = ps.length := r2.length.symm.trans (F1.len _ _ _ _ q1)
  have ul : us.length ≤ sizeLine := by rw [← Paired.length rr, sizeLine_eq]; omega
  have b2 := hb _ (Value.ref (hp.objs.size + 1) :: us) J2.kIn (by rw [List.append_nil]; exact ln)
  rw [List.append_nil] at b2
  have run := F1.run _ X.stack _ _ ⟨Value.ref (hp.objs.size + 1) :: us, []⟩ _ _ _ (fun _ _ _ => False) (hr.make C us []) (J2.env0.make C us []) b2 r2 q1
  refine wpAny_call (HandSPX.call_own F.excBase_ValueError (fun Y => HandSPX.refsVE_contains Y bm hbm) (J1.kIn _ _ hC) (PySem.W.looks_findIn J1.kIn iC) (fun self => PySem.W.bind_fn J1.kIn self tI) ul (codeAny_mono run fun rs s' back => ?_))
  cases rs with
  | error er => exact hx pins σ _ _ er s' J2 back
  | ok fl =>
    cases fl with
    | next => exact False.elim back
    | brk => exact False.elim back
    | cont => exact False.elim back
    | ret u =>
      obtain ⟨v, H2, os2, bare2, un2, hok2, rv, ev, d, fs, ea, ed, hd1, q2⟩ := back
      subst ev
      obtain ⟨h2, g2, d2, t2, os'⟩ := s'
      obtain ⟨t0, G, J, kG, ge, hoe, na⟩ := mk_end0 (d2 := d2) (t2 := t2) J1 up1 kp un2 hok2 os2 bare2 ea ed hd1
      exact ⟨rv, hp.objs.size + 1, _, _, ⟨G, g2, d2, t2, os'⟩, _, .ref C, some d, rfl, J, kG, ge, hoe, ⟨rfl, rfl, fun vs hv => by cases hv; rfl⟩, rfl, rfl, na, rfl, bare2, raises_own T.exC T.tyC, q2⟩
def sRaise (c : Str) (n : Nat) (F : List D → Option (List Str × List D)) (fa : Env → R (List D)) : Env → RS := fun E => (fa E).bindS fun ds E1 => if (ds.length == n && decide (n ≤ 1000)) = true then (match F ds with | some (ns, es) => .exc ⟨c, ns, es⟩ E1 | none => .stuck) else .stuck
/-- all that is not tracked -/
def lockF (G H : Hp) : Hp := fun b => match G b with | none => H b | some _ => none
theorem lockF_none {G H : Hp} {b : Addr} (h : G b = none) : lockF G H b = H b := by unfold lockF; rw [h]
theorem js_raise {X : Cx} {W : WX} {k : Nat} {x : Str} {e : Expr} {es : List Expr} {p pos pos2 : Pos} {F : List D → Option (List Str × List D)} {fa : Env → R (List D)} (hc : X.calm = true) (tk : L2N.Takes X W) (hX : ExcJ X.prog X.w X.K X.mg X.base k x (e :: es).length F) (hr : Room (k + 1) X.A) (ha : JA X (pw W) (e :: es) fa)
    (hg : Gl X x := by rfl) (hdb : (x == ("__debug__" : Str)) = false := by decide) (he : starEach (e :: es) X.env = (false, eval e X.env) :: starEach es X.env := by rfl) (hpl : (backTo pos (starEach es X.env)).any (·.1) = false := by rfl) :
    JS X W (.Raise (some (.Call (.Name x p) (e :: es) [] pos)) none pos2) (sRaise x (e :: es).length F fa) := by
  obtain ⟨fI, fd, ps, hm, T, iC, tI, hps, hb, F1⟩ := hX
  obtain ⟨ta, pa, sa⟩ := ha
  refine ⟨_, L2N.ps_raise hc tk (pmkN T iC tI F1 hr hb (L2N.passes_call (E := fun _ _ _ => False) tk fun _ _ _ _ h => h.elim) hg hm pa hdb he hpl), fun Φ G H σ E D S hp => ?_⟩
  refine sa.goS S hp fun ds E1 G1 H1 vs _ e1 S1 r1 hp => ?_
  by_cases c : (ds.length == (e :: es).length && decide ((e :: es).length ≤ 1000)) = true
  · rw [if_pos c] at hp
    rw [Bool.and_eq_true] at c
    have c1 : ds.length = (e :: es).length := by simpa using c.1
    have c2 : (e :: es).length ≤ 1000 := of_decide_eq_true c.2
    have hlv : vs.length = (e :: es).length := r1.length.trans c1
    cases hF : F ds with
    | none => rw [hF] at hp; exact hp.elim
    | some r =>
      obtain ⟨ns, fs⟩ := r
      rw [hF] at hp
      have hp : PostX X.K W Φ G1 ⟨x, ns, fs⟩ E1 := hp
      refine ⟨by rw [hlv]; exact c2, fun a ha => ?_⟩
      have ga := S1.gh.back ha
      rw [List.append_nil]
      have fla : ∀ b o, lockF G1 H1 b = some o → H1 b = some o ∧ G1 b = none := fun b o h => by
        unfold lockF at h
        cases hg1 : G1 b with
        | none => rw [hg1] at h; exact ⟨h, rfl⟩
        | some u => rw [hg1] at h; cases h
      refine ⟨by rw [List.length_cons, hlv], a, vs, ⟨lockF G1 H1, Φ.io⟩, G1, ds, rfl, upd_same, ga, (lockF_none ga).trans ha, ?_, r1, fun b h1 h2 h3 h4 => ?_, ?_⟩
      · refine ⟨rfl, fun i s h => by simp at h, S1.gh.trans (Ex.new ha), fun b o h => Ex.new ha b o (fla b o h).1, fun b h => ?_, fun i b l p h => by simp at h, fun i j b b' l l' p h => by simp at h⟩
        cases h5 : lockF G1 H1 b with
        | none => exact absurd h5 h
        | some o => exact (fla b o h5).2
      · have h3' : lockF G1 H1 b = none := h3
        rw [lockF_none h2] at h3'
        rw [upd_ne h1] at h4
        exact h4 h3'
      · show PostN X.K _ G1 _ a _ (F ds) _
        rw [hF]
        intro G' H' d us x1 S2 h1 h2 h3 h4 h5 h6 h7 h8 h9
        have hd1 : H1 d = none := by rw [upd_ne h4] at h3; exact h3
        have kp : ∀ b o, H1 b = some o → G1 b = none → H' b = some o ∧ b ≠ a ∧ b ≠ d ∧ G' b = none := fun b o hb hgb => by
          have hl : lockF G1 H1 b = some o := (lockF_none hgb).trans hb
          exact ⟨S2.fh b o hl, (fun z => by rw [z, ha] at hb; cases hb), (fun z => by rw [z, hd1] at hb; cases hb), S2.fg b (by show lockF G1 H1 b ≠ none; rw [hl]; simp)⟩
        have kk : ∀ b o, H' b = some o → b ≠ a → b ≠ d → L2.upd (del H' a) d (.xd (ns.zip us)) b = some o := fun b o hb n1 n2 => by rw [upd_ne n2, del_ne n1]; exact hb
        refine ⟨rfl, d, ns.zip us, h1, h2, hd1, ?_⟩
        have eg : Ex G1 (L2.upd G' d (.xd (ns.zip us))) := x1.trans (Ex.new h7)
        refine hp (L2.upd G' d (.xd (ns.zip us))) _ σ (.ref (He.ga X.K x)) (some d) eg ⟨S1.len, fun i s hs => ?_, fun b o hb => ?_, fun b o hb => ?_, fun b hb => ?_, fun i b l q q1 q2 => ?_, S1.di⟩ ⟨rfl, d, us, rfl, upd_same, h6, h5.mono (Ex.new h7)⟩
        · obtain ⟨y, y1, y2⟩ := S1.sl i s hs
          refine ⟨y, y1, y2.mono eg fun q b l e2 e3 => ?_⟩
          subst e2 e3
          obtain ⟨z, z1, q', vs', z2, z3, _⟩ := S1.sl i _ hs
          rw [y1] at z1; cases z1; cases z2
          obtain ⟨k1, k2, k3, _⟩ := kp q _ z3 (S1.ow i b l q hs y1).1
          rw [z3]; exact kk q _ k1 k2 k3
        · by_cases hbd : b = d
          · subst hbd; rw [upd_same] at hb ⊢; exact hb
          · rw [upd_ne hbd] at hb
            exact kk b o (S2.gh b o hb) (fun z => by rw [z, h9] at hb; cases hb) hbd
        · have gb := S1.fg b (by rw [hb]; simp)
          obtain ⟨k1, k2, k3, _⟩ := kp b o (S1.fh b o hb) gb
          exact kk b o k1 k2 k3
        · cases h0 : Φ.F b with
          | none => exact absurd h0 hb
          | some o =>
            obtain ⟨k1, k2, k3, k4⟩ := kp b o (S1.fh b o h0) (S1.fg b hb)
            rw [upd_ne k3]; exact k4
        · obtain ⟨w1, w2, w3⟩ := S1.ow i b l q q1 q2
          obtain ⟨z, z1, q', vs', z2, z3, _⟩ := S1.sl i _ q1
          rw [q2] at z1; cases z1; cases z2
          obtain ⟨k1, k2, k3, k4⟩ := kp q _ z3 w1
          exact ⟨by rw [upd_ne k3]; exact k4, w2, w3⟩
  · rw [if_neg c] at hp; exact hp.elim
end J

namespace J
open PySem PySem.Spec PyProof.Rows L2

/-! ### try with clauses, named or not -/
abbrev TSx := Addr → Value → Option Addr → TS
/-- the ends behind a named clause -/
def offE (i : Nat) (D : Ends) : Ends := { nx := fun σ H => D.nx (σ.set i none) H, rt := D.rt, bk := fun σ H => D.bk (σ.set i none) H, ct := fun σ H => D.ct (σ.set i none) H }
def wAll (K : PySem.W.Frag) (Wout : WX) (D : Ends) : List (Value × Option Nat × TSx) → WX
  | [] => Wout
  | (c, none, ts) :: r => fun cls d σ H => ∃ b, PySem.W.exmOne K cls c = some b ∧ (b = true → ∀ a, H a = none → ts a cls d D σ H) ∧ (b = false → wAll K Wout D r cls d σ H)
  | (c, some i, ts) :: r => fun cls d σ H => ∃ b, PySem.W.exmOne K cls c = some b ∧ (b = true → ∀ a, H a = none → ts a cls d (offE i D) (σ.set i (some (.ref a))) H) ∧ (b = false → wAll K Wout D r cls d σ H)
def SuOk (X : Cx) (body : List Stmt) (ts : TSx) : Prop := ∀ (a : Addr) (oe : Obj) (cls : Value) (d : Option Addr) (pn : List (Addr × Obj)), L2N.Zn cls d oe → (∃ vs, oe.data = .fields vs) → PSs (X.suite a ((a, oe) :: pn)) body (ts a cls d)
inductive HdsA (X : Cx) : List ExceptHandler → List (Value × Option Nat × TSx) → Prop
  | nil : HdsA X [] []
  | bare {x : Str} {c : Value} {ts : TSx} {b₀ : Stmt} {su : List Stmt} {q1 q2 : Pos} {hds : List ExceptHandler} {l : List (Value × Option Nat × TSx)} (hc : Names X x c) (hsu : SuOk X (b₀ :: su) ts) (r : HdsA X hds l) : HdsA X (.ExceptHandler (some (.Name x q1)) none (b₀ :: su) q2 :: hds) ((c, none, ts) :: l)
  | named {x n : Str} {i : Nat} {c : Value} {ts : TSx} {b₀ : Stmt} {su : List Stmt} {q1 q2 : Pos} {hds : List ExceptHandler} {l : List (Value × Option Nat × TSx)} (hi : X.N[i]? = some n) (hn : X.env.kindOf n = some .local) (hc : Names X x c) (hsu : SuOk X (b₀ :: su) ts) (r : HdsA X hds l) :
      HdsA X (.ExceptHandler (some (.Name x q1)) (some n) (b₀ :: su) q2 :: hds) ((c, some i, ts) :: l)
section
variable {X : Cx} {body : List Stmt} {hd : ExceptHandler} {hds : List ExceptHandler} {l : List (Value × Option Nat × TSx)} {pos : Pos} {tb : WX → TS} {Wo : WX}
theorem ps_try_all (hs : X.stack = X.env :: X.outer) (hf : X.env.frame = some X.env.locals) (hN : X.N.Nodup) (tk : L2N.Takes X Wo)
    (hb : ∀ (W : WX) (pn : List (Addr × Obj)) (xe : Value → Shared → Prop), L2N.Takes (X.tr pn xe) W → PassesOwn (model X.prog X.w) X.A X.env xe → PSs (X.tr pn xe) body (tb W)) (hh : HdsA X (hd :: hds) l) :
    PS X (.Try body (hd :: hds) [] [] pos) (fun D σ H => tb (wAll X.K Wo D l) D σ H) := by
  refine ⟨fun pins s σ H D I wish => ?_⟩
  have ok := I.ok
  have fr : X.A.frames = some (X.env :: X.outer) := by rw [ok.frames, hs]
  refine wpAny_Try_except ?_
  have taken := hb (wAll X.K Wo D l) (X.pn ++ pins) (fun e s₁ => wpAny (model X.prog X.w) X.A (noteFrame e X.env) (fun _ s₂ => wpAny (model X.prog X.w) X.A (setFlight e none) (fun _ s₃ => wpAny (model X.prog X.w) X.A (handleBy e X.env (hd :: hds)) (SP X pins D) X.xe s₃) X.xe s₂) X.xe s₁)
  refine wpAny_mono ((taken (fun u s' caught => ?_) PassesOwn.looking).run [] s σ H D (I.toTry _) wish) (fun f s1 went => ?_) fun _ _ z => z
  · obtain ⟨a, B, sI, pins', σ1, H1, cls, d, rfl, J0, nb, up, sky, na, os, ag, w⟩ := caught
    have J1 : Inv X pins σ1 H1 sI := J0.ofTry ok
    have sky1 : Sky B (X.env :: X.outer) a (L2N.Zn cls d) X.env.locals s'.heap := by rw [← hs]; exact sky
    show wpAny (model X.prog X.w) X.A (noteFrame (.ref a) X.env) _ _ _
    refine L2N.Sky.land L2N.Zn.steady fr hf sky1 fun g3 fly up3 => ?_
    have J3 : Inv X pins σ1 H1 { s' with heap := g3 } := J1.landed nb fly.1 (up.trans up3) os ag
    obtain ⟨oe, vs, e3, z3, d3⟩ := fly.there
    have ground : a ∉ frs (X.env :: X.outer) := fun hm => by
      obtain ⟨_, o', e', hnf⟩ := fly.2.2.1.mem hm
      rw [e3] at e'; cases e'
      exact hnf _ d3
    have offL : a ≠ X.env.locals := fun z => ground (List.mem_filterMap.mpr ⟨X.env, List.mem_cons_self, by rw [hf, z]⟩)
    have offF : a ∉ X.fs := fun hm => by
      obtain ⟨e, he, q⟩ := List.mem_filterMap.mp hm
      exact ground (List.mem_filterMap.mpr ⟨e, List.mem_cons_of_mem _ he, q⟩)
    have S3 := J3.suite e3 d3 na offL offF
    have run : ∀ {hs' : List ExceptHandler} {l' : List (Value × Option Nat × TSx)}, HdsA X hs' l' → wAll X.K Wo D l' cls d σ1 H1 → wpAny (model X.prog X.w) X.A (handleBy (.ref a) X.env hs') (SP X pins D) X.xe { s' with heap := g3 } := by
      intro hs' l' hk
      induction hk with
      | nil =>
        intro w
        refine wpAny_handleBy_nil ?_
        obtain ⟨m1, m2, m3, oe', vs', T, oT, ts', he', hz', hd', h1', hr'⟩ := id fly
        unfold PySem.passOn
        refine wpAny_bind (wpAny_field he' hd' h1' ?_)
        rw [if_neg (show ¬ ((Value.ref T == Value.none) = true) from by simp)]
        have on : wpAny (model X.prog X.w) X.A (setFlight (.ref a) X.env.frame) (fun _ s4 => wpAny (model X.prog X.w) X.A (throw (.ref a) : Sem Flow) (SP X pins D) X.xe s4) X.xe { s' with heap := g3 } := by
          rw [hf]
          exact HandSPX.setFlight_upZ fly fun g4 held up4 => wpAny_throw (tk _ _ ⟨a, B, sI, pins, σ1, H1, cls, d, rfl, J1, nb, (up.trans up3).trans up4, .inr (.inr (by rw [hs]; exact held)), na, os, ag, w⟩)
        first
          | exact wpAny_bind (wpAny_pure (wpAny_bind on))
          | exact wpAny_bind on
      | @bare x c ts b₀ su q1 q2 hds2 l2 hc hsu r ih =>
        intro w
        obtain ⟨b, hb1, yes, no⟩ := w
        refine wpAny_handleBy_cons (codeAny_handlers_test ?_) (by intro q; cases q)
        have LT : PySem.W.Looks (model X.prog X.w) g3 (typeOf (.ref a)) cls := fun A Q E s k q => wpAny_typeOf_ref (k _ _ e3) (by rw [z3.1]; exact q)
        have LM := PySem.W.exm_one (M := model X.prog X.w) (J3.kIn) LT hb1
        have ask : ∀ {Q : Value → Shared → Prop} {E : Value → Shared → Prop}, Q c { s' with heap := g3 } → wpAny (model X.prog X.w) (X.A.mark (some (.ref a))) (eval (.Name x q1) X.env) Q E { s' with heap := g3 } := fun {Q E} q => by
          obtain ⟨hg, hdb, hm | ⟨hm, hv, hnn⟩⟩ := hc
          · exact ld_glob (X := X.suite a ((a, oe) :: (X.pn ++ pins))) S3 hg hm q hdb
          · exact ld_blt (X := X.suite a ((a, oe) :: (X.pn ++ pins))) S3 hg hm hv q hnn hdb
        refine ask (LM.here ?_)
        cases b with
        | false =>
          show wpAny _ X.A (handleBy (.ref a) X.env hds2) _ _ _
          exact ih (no rfl)
        | true =>
          refine codeAny_handlers_suite ?_
          refine HandSPX.lands_againZ fly fun g4 fly4 up4 => ?_
          have J4 : Inv X pins σ1 H1 { s' with heap := g4 } := J1.landed nb fly4.1 ((up.trans up3).trans up4) os ag
          obtain ⟨oe4, vs4, e4, z4, d4⟩ := fly4.there
          have S4 := J4.suite e4 d4 na offL offF
          refine wpAny_mono ((hsu a oe4 cls d (X.pn ++ pins) z4 ⟨_, d4⟩).run [] _ _ H1 _ S4 (yes rfl a na)) (fun f s6 hsp => ?_) (fun _ _ z => False.elim z)
          cases f with
          | next => obtain ⟨σ6, H6, S6, q6⟩ := hsp; exact ⟨_, _, S6.unsuite ok, q6⟩
          | brk => obtain ⟨σ6, H6, S6, q6⟩ := hsp; exact ⟨_, _, S6.unsuite ok, q6⟩
          | cont => obtain ⟨σ6, H6, S6, q6⟩ := hsp; exact ⟨_, _, S6.unsuite ok, q6⟩
          | ret u => obtain ⟨v6, σ6, H6, S6, r6, q6⟩ := hsp; exact ⟨_, _, _, S6.unsuite ok, r6, q6⟩
      | @named x n i c ts b₀ su q1 q2 hds2 l2 hi hn hc hsu r ih =>
        intro w
        obtain ⟨b, hb1, yes, no⟩ := w
        refine wpAny_handleBy_cons (codeAny_handlers_test ?_) (by intro q; cases q)
        have LT : PySem.W.Looks (model X.prog X.w) g3 (typeOf (.ref a)) cls := fun A Q E s k q => wpAny_typeOf_ref (k _ _ e3) (by rw [z3.1]; exact q)
        have LM := PySem.W.exm_one (M := model X.prog X.w) (J3.kIn) LT hb1
        have ask : ∀ {Q : Value → Shared → Prop} {E : Value → Shared → Prop}, Q c { s' with heap := g3 } → wpAny (model X.prog X.w) (X.A.mark (some (.ref a))) (eval (.Name x q1) X.env) Q E { s' with heap := g3 } := fun {Q E} q => by
          obtain ⟨hg, hdb, hm | ⟨hm, hv, hnn⟩⟩ := hc
          · exact ld_glob (X := X.suite a ((a, oe) :: (X.pn ++ pins))) S3 hg hm q hdb
          · exact ld_blt (X := X.suite a ((a, oe) :: (X.pn ++ pins))) S3 hg hm hv q hnn hdb
        refine ask (LM.here ?_)
        cases b with
        | false =>
          show wpAny _ X.A (handleBy (.ref a) X.env hds2) _ _ _
          exact ih (no rfl)
        | true =>
          refine codeAny_handlers_suite_as ?_
          refine HandSPX.lands_againZ fly fun g4 fly4 up4 => ?_
          have J4 : Inv X pins σ1 H1 { s' with heap := g4 } := J1.landed nb fly4.1 ((up.trans up3).trans up4) os ag
          obtain ⟨oe4, vs4, e4, z4, d4⟩ := fly4.there
          have S4 := J4.suite e4 d4 na offL offF
          refine store_ok (X := X.suite a ((a, oe4) :: (X.pn ++ pins))) (v := .ref a) S4 hN hi (.inl hn) rfl (fun s5 S5 => ?_) (.inr hn)
          refine wpAny_mono ((hsu a oe4 cls d (X.pn ++ pins) z4 ⟨_, d4⟩).run [] s5 _ H1 _ S5 (yes rfl a na)) (fun f s6 hsp => ?_) (fun _ _ z => False.elim z)
          have off : ∀ {σ6 : St} {H6 : Hp} {Q : Shared → Prop}, Inv (X.suite a ((a, oe4) :: (X.pn ++ pins))) [] σ6 H6 s6 → (∀ s7, Inv X pins (σ6.set i none) H6 s7 → Q s7) → wpAny (model X.prog X.w) X.A (do bindName X.env n .none; unbindBehindTheSuite X.env n q2) (fun _ s7 => Q s7) X.xe s6 :=
            fun {σ6 H6 Q} S6 hq => gone_ok (S6.unsuite ok) hN hi hn hq
          cases f with
          | next => obtain ⟨σ6, H6, S6, q6⟩ := hsp; exact off S6 fun s7 J7 => ⟨_, _, J7, q6⟩
          | brk => obtain ⟨σ6, H6, S6, q6⟩ := hsp; exact off S6 fun s7 J7 => ⟨_, _, J7, q6⟩
          | cont => obtain ⟨σ6, H6, S6, q6⟩ := hsp; exact off S6 fun s7 J7 => ⟨_, _, J7, q6⟩
          | ret u => obtain ⟨v6, σ6, H6, S6, r6, q6⟩ := hsp; exact off S6 fun s7 J7 => ⟨_, _, _, J7, r6, q6⟩
    exact run hh w
  · cases f with
    | next => obtain ⟨σ', H', J', q⟩ := went; exact wpAny_execs_nil ⟨σ', H', J'.ofTry ok, q⟩
    | brk => obtain ⟨σ', H', J', q⟩ := went; exact ⟨σ', H', J'.ofTry ok, q⟩
    | cont => obtain ⟨σ', H', J', q⟩ := went; exact ⟨σ', H', J'.ofTry ok, q⟩
    | ret u => obtain ⟨v, σ', H', J', r, q⟩ := went; exact ⟨v, σ', H', J'.ofTry ok, r, q⟩
end
end J

namespace J
open PySem PySem.Spec PyProof.Rows L2

def canS (K : PySem.W.Frag) (W : WX) (f : Env → RS) : TS := fun D σ H => ∃ Φ G E, Sat K Φ G H σ E ∧ PostS K W Φ G σ (f E) D
theorem JSs.can {X : Cx} {W : WX} {s : List Stmt} {f : Env → RS} (h : JSs X W s f) : PSs X s (canS X.K W f) := by
  obtain ⟨t, h1, h2⟩ := h
  exact ⟨fun pins s σ H D I ⟨Φ, G, E, S, hp⟩ => h1.run pins s σ H D I (h2 Φ G H σ E D S hp)⟩

/-! ### what is known in an except suite -/
def WS (K : PySem.W.Frag) (oi : Option Nat) (a : Addr) (cls : Value) (d : Option Addr) (x : Exn) : WJ := ⟨fun _ _ _ _ => False, fun G σ => (∀ i, oi = some i → σ[i]? = some (some (.ref a))) ∧ XRp K G cls d x, fun G G' σ e h => ⟨h.1, h.2.mono e⟩⟩
def PostU (K : PySem.W.Frag) (Φ : Fr) (G : Hp) (σ : St) (r : RS) (D : Ends) : Prop := match r with
  | .nx E' => ∀ G' H', Ex G G' → Sat K Φ G' H' σ E' → D.nx σ H'
  | .rt (.v d) E' => ∀ G' H' v, Ex G G' → Sat K Φ G' H' σ E' → Rp K G' v d → D.rt v H'
  | .rt (.l l) E' => ∀ G' H' v, Ex G G' → Sat K Φ G' H' σ E' → relL K Φ σ G' H' E' l v → D.rt v H'
  | .bk E' => ∀ G' H', Ex G G' → Sat K Φ G' H' σ E' → D.bk σ H'
  | .ct E' => ∀ G' H', Ex G G' → Sat K Φ G' H' σ E' → D.ct σ H'
  | .exc _ _ => False
  | .stuck => False
theorem PostU.mono {K : PySem.W.Frag} {Φ : Fr} {G G0 : Hp} {σ : St} {r : RS} {D : Ends} (e : Ex G G0) (h : PostU K Φ G σ r D) : PostU K Φ G0 σ r D := by
  cases r with
  | nx E' => exact fun G' H' e' S => h G' H' (e.trans e') S
  | rt rv E' =>
    cases rv with
    | v d => exact fun G' H' v e' S r => h G' H' v (e.trans e') S r
    | l d => exact fun G' H' v e' S r => h G' H' v (e.trans e') S r
  | bk E' => exact fun G' H' e' S => h G' H' (e.trans e') S
  | ct E' => exact fun G' H' e' S => h G' H' (e.trans e') S
  | exc x E' => exact h
  | stuck => exact h
def SndU (K : PySem.W.Frag) (W : WJ) (t : TS) (f : Env → RS) : Prop := (∀ c d σ H, ¬ W.w c d σ H) → ∀ Φ G H σ E D, SatC K W Φ G H σ E → PostU K Φ G σ (f E) D → t D σ H
def JU (X : Cx) (W : WJ) (s : List Stmt) (f : Env → RS) : Prop := ∃ t, PSs X s t ∧ SndU X.K W t f
def JU1 (X : Cx) (W : WJ) (s : Stmt) (f : Env → RS) : Prop := ∃ t, PS X s t ∧ SndU X.K W t f
def dropX (r : RS) : RS := match r with | .exc _ _ => .stuck | r => r
section
variable {X : Cx} {W : WJ} {e c : Expr} {pos : Pos} {fa : Env → R D} {f g : Env → RS} {st : Stmt} {sts sa sb : List Stmt}
theorem Snd.goU {α β : Type} {K : PySem.W.Frag} {rel : Rel α β} {t : St → Hp → (β → Hp → Prop) → Prop} {f : Env → R α} (h : Snd K W rel t f) {Φ : Fr} {G H : Hp} {σ : St} {E : Env} {k : α → Env → RS} {D : Ends} {Q1 : β → Hp → Prop}
    (S : SatC K W Φ G H σ E) (hp : PostU K Φ G σ ((f E).bindS k) D) (hk : ∀ a E' G' H' b, f E = .ok a E' → Ex G G' → SatC K W Φ G' H' σ E' → rel Φ σ G' H' E' a b → PostU K Φ G' σ (k a E') D → Q1 b H') : t σ H Q1 := by
  refine h Φ G H σ E Q1 S ?_
  cases e : f E with
  | ok a E' =>
    rw [e] at hp
    exact fun G' H' b e' S' q => hk a E' G' H' b e e' ⟨S', W.mono _ _ _ e' S.c⟩ q (PostU.mono e' hp)
  | exc x E' => rw [e] at hp; exact hp.elim
  | stuck => rw [e] at hp; exact hp
theorem ju_nil : JU X W [] sNil := ⟨_, pss_nil, fun _ Φ G H σ E D S hp => hp G H (Ex.refl G) S⟩
theorem ju_cons (h : JU1 X W st f) (h' : JU X W sts g) : JU X W (st :: sts) (sSeq f g) := by
  obtain ⟨t, h1, h2⟩ := h
  obtain ⟨u, h3, h4⟩ := h'
  refine ⟨_, pss_cons h1 h3, fun hw Φ G H σ E D S hp => ?_⟩
  refine h2 hw Φ G H σ E { D with nx := u D } S ?_
  have hp' : PostU X.K Φ G σ ((f E).seq g) D := hp
  cases e : f E with
  | nx E' => rw [e] at hp'; exact fun G' H' e' S' => h4 hw Φ G' H' σ E' D ⟨S', W.mono _ _ _ e' S.c⟩ (PostU.mono e' hp')
  | rt rv E' => rw [e] at hp'; cases rv with | v d => exact hp' | l d => exact hp'
  | bk E' => rw [e] at hp'; exact hp'
  | ct E' => rw [e] at hp'; exact hp'
  | exc x E' => rw [e] at hp'; exact hp'
  | stuck => rw [e] at hp'; exact hp'
theorem ju_ret (h : JE X W e fa) : JU1 X W (.Return (some e) pos) (sRet fa) := by
  obtain ⟨te, h1, h2⟩ := h
  refine ⟨_, ps_ret h1, fun hw Φ G H σ E D S hp => ?_⟩
  exact h2.goU S hp fun a E' G' H' v _ e' S' r hp => hp G' H' v (Ex.refl G') S' r
theorem ju_retN : JU1 X W (.Return none pos) sRetN := ⟨_, ps_retN, fun hw Φ G H σ E D S hp => hp G H .non (Ex.refl G) S .non⟩
theorem ju_pass : JU1 X W (.Pass pos) sNil := ⟨_, ps_pass, fun hw Φ G H σ E D S hp => hp G H (Ex.refl G) S⟩
theorem ju_break : JU1 X W (.Break pos) (fun E => .bk E) := ⟨_, ps_break, fun hw Φ G H σ E D S hp => hp G H (Ex.refl G) S⟩
theorem ju_continue : JU1 X W (.Continue pos) (fun E => .ct E) := ⟨_, ps_continue, fun hw Φ G H σ E D S hp => hp G H (Ex.refl G) S⟩
theorem ju_if {t : Env → R Bool} (ht : JT X W c t) (ha : JU X W sa f) (hb : JU X W sb g) : JU1 X W (.If c sa sb pos) (sIf t f g) := by
  obtain ⟨tt, h1, h2⟩ := ht
  obtain ⟨ta, h3, h4⟩ := ha
  obtain ⟨tb, h5, h6⟩ := hb
  refine ⟨_, ps_if h1 h3 h5, fun hw Φ G H σ E D S hp => ?_⟩
  refine h2.goU S hp fun k E' G' H' v _ e' S' r hp => ?_
  subst r
  cases k with
  | true => exact iteT (h4 hw Φ G' H' σ E' D S' hp)
  | false => exact iteF (h6 hw Φ G' H' σ E' D S' hp)
end

/-! ### the statement -/
structure Cl where
  m : Exn → Option Bool
  i : Option Nat
  s : Exn → Env → RS
def inE : Option Nat → Env → Option Env
  | none, E => some E
  | some i, E => if i < E.length then some (E.set i .no) else none
def outE : Option Nat → RS → RS
  | none, r => r
  | some i, .nx E => .nx (E.set i .no)
  | some i, .bk E => .bk (E.set i .no)
  | some i, .ct E => .ct (E.set i .no)
  | some _, r => r
def clD : List Cl → Exn → Env → RS
  | [], x, E => .exc x E
  | h :: r, x, E => match h.m x with
    | none => .stuck
    | some false => clD r x E
    | some true => (match inE h.i E with
      | none => .stuck
      | some E' => outE h.i (dropX (h.s x E')))
def sTry (fb : Env → RS) (hs : List Cl) : Env → RS := fun E => match fb E with
  | .exc x E' => clD hs x E'
  | r => r
def tsU (K : PySem.W.Frag) (h : Cl) : TSx := fun a cls d D σ H => ∃ x Φ G E, SatC K (WS K h.i a cls d x) Φ G H σ E ∧ PostU K Φ G σ (h.s x E) D
/-- a suite, whatever exception it holds -/
def JSu (X : Cx) (h : Cl) (body : List Stmt) : Prop := ∀ (a : Addr) (oe : Obj) (cls : Value) (d : Option Addr) (pn : List (Addr × Obj)) (x : Exn), L2N.Zn cls d oe → (∃ vs, oe.data = .fields vs) → JU (X.suite a ((a, oe) :: pn)) (WS X.K h.i a cls d x) body (h.s x)
theorem JSu.ok {X : Cx} {h : Cl} {body : List Stmt} (hj : JSu X h body) : SuOk X body (tsU X.K h) := fun a oe cls d pn hz hd => by
  refine ⟨fun pins s σ H D I w => ?_⟩
  obtain ⟨x, Φ, G, E, S, hp⟩ := w
  obtain ⟨t, h1, h2⟩ := hj a oe cls d pn x hz hd
  exact h1.run pins s σ H D I (h2 (fun _ _ _ _ h => h) Φ G H σ E D S hp)
/-- the clauses, as the text has them -/
inductive JHs (X : Cx) : List ExceptHandler → List Cl → Prop
  | nil : JHs X [] []
  | bare {x : Str} {c : Value} {h : Cl} {b₀ : Stmt} {su : List Stmt} {q1 q2 : Pos} {hds : List ExceptHandler} {l : List Cl} (hc : Names X x c) (hm : ∀ y b, h.m y = some b → PySem.W.exmOne X.K (.ref (He.ga X.K y.c)) c = some b) (hi : h.i = none) (hsu : JSu X h (b₀ :: su)) (r : JHs X hds l) : JHs X (.ExceptHandler (some (.Name x q1)) none (b₀ :: su) q2 :: hds) (h :: l)
  | named {x n : Str} {i : Nat} {c : Value} {h : Cl} {b₀ : Stmt} {su : List Stmt} {q1 q2 : Pos} {hds : List ExceptHandler} {l : List Cl} (hx : X.N[i]? = some n) (hn : X.env.kindOf n = some .local) (hc : Names X x c) (hm : ∀ y b, h.m y = some b → PySem.W.exmOne X.K (.ref (He.ga X.K y.c)) c = some b) (hi : h.i = some i) (hsu : JSu X h (b₀ :: su)) (r : JHs X hds l) :
      JHs X (.ExceptHandler (some (.Name x q1)) (some n) (b₀ :: su) q2 :: hds) (h :: l)
theorem JHs.ok {X : Cx} {hds : List ExceptHandler} {l : List Cl} (h : JHs X hds l) : ∃ L, HdsA X hds L ∧ ∀ (Wo : WX) (D : Ends) Φ G σ x E, PostS X.K Wo Φ G σ (clD l x E) D → PostX X.K (wAll X.K Wo D L) Φ G x E := by
  induction h with
  | nil => exact ⟨[], .nil, fun Wo D Φ G σ x E hp => hp⟩
  | @bare x c h b₀ su q1 q2 hds l hc hm hi hsu r ih =>
    obtain ⟨L, h1, h2⟩ := ih
    refine ⟨(c, none, tsU X.K h) :: L, .bare hc hsu.ok h1, fun Wo D Φ G σ y E hp G' H' σ' cl d e S rx => ?_⟩
    simp only [clD] at hp
    cases hmx : h.m y with
    | none => rw [hmx] at hp; exact hp.elim
    | some b =>
      have hcl := rx.cls
      refine ⟨b, by rw [hcl]; exact hm y b hmx, fun hb a ha => ?_, fun hb => ?_⟩
      · subst hb
        rw [hmx, hi] at hp
        have hp : PostS X.K Wo Φ G σ (dropX (h.s y E)) D := hp
        refine ⟨y, Φ, G', E, ⟨S, fun i z => (by rw [hi] at z; cases z), rx⟩, ?_⟩
        cases hs : h.s y E with
        | nx E' => rw [hs] at hp; exact fun G2 H2 e2 S2 => hp G2 H2 σ' (e.trans e2) S2
        | rt rv E' =>
          rw [hs] at hp
          cases rv with
          | v d => exact fun G2 H2 v e2 S2 r => hp G2 H2 σ' v (e.trans e2) S2 r
          | l d => exact fun G2 H2 v e2 S2 r => hp G2 H2 σ' v (e.trans e2) S2 r
        | bk E' => rw [hs] at hp; exact fun G2 H2 e2 S2 => hp G2 H2 σ' (e.trans e2) S2
        | ct E' => rw [hs] at hp; exact fun G2 H2 e2 S2 => hp G2 H2 σ' (e.trans e2) S2
        | exc x E' => rw [hs] at hp; exact hp
        | stuck => rw [hs] at hp; exact hp
      · subst hb
        rw [hmx] at hp
        exact h2 Wo D Φ G σ y E hp G' H' σ' cl d e S rx
  | @named x n i c h b₀ su q1 q2 hds l hx hn hc hm hi hsu r ih =>
    obtain ⟨L, h1, h2⟩ := ih
    refine ⟨(c, some i, tsU X.K h) :: L, .named hx hn hc hsu.ok h1, fun Wo D Φ G σ y E hp G' H' σ' cl d e S rx => ?_⟩
    simp only [clD] at hp
    cases hmx : h.m y with
    | none => rw [hmx] at hp; exact hp.elim
    | some b =>
      have hcl := rx.cls
      refine ⟨b, by rw [hcl]; exact hm y b hmx, fun hb a ha => ?_, fun hb => ?_⟩
      · subst hb
        rw [hmx, hi] at hp
        simp only [inE] at hp
        by_cases hlt : i < E.length
        · rw [if_pos hlt] at hp
          have hp : PostS X.K Wo Φ G σ (outE (some i) (dropX (h.s y (E.set i .no)))) D := hp
          have S3 : Sat X.K Φ G' H' (σ'.set i (some (.ref a))) (E.set i .no) := S.setN
          refine ⟨y, Φ, G', E.set i .no, ⟨S3, fun j z => ?_, rx⟩, ?_⟩
          · rw [hi] at z; cases z
            exact List.getElem?_set_self (by rw [S.len]; exact hlt)
          · cases hs : h.s y (E.set i .no) with
            | nx E' => rw [hs] at hp; exact fun G2 H2 e2 S2 => hp G2 H2 _ (e.trans e2) S2.setN
            | rt rv E' =>
              rw [hs] at hp
              cases rv with
              | v d => exact fun G2 H2 v e2 S2 r => hp G2 H2 _ v (e.trans e2) S2 r
              | l d => exact fun G2 H2 v e2 S2 r => hp G2 H2 _ v (e.trans e2) S2 r
            | bk E' => rw [hs] at hp; exact fun G2 H2 e2 S2 => hp G2 H2 _ (e.trans e2) S2.setN
            | ct E' => rw [hs] at hp; exact fun G2 H2 e2 S2 => hp G2 H2 _ (e.trans e2) S2.setN
            | exc x E' => rw [hs] at hp; exact hp
            | stuck => rw [hs] at hp; exact hp
        · rw [if_neg hlt] at hp; exact hp.elim
      · subst hb
        rw [hmx] at hp
        exact h2 Wo D Φ G σ y E hp G' H' σ' cl d e S rx
theorem js_try {X : Cx} {W : WX} {body : List Stmt} {hd : ExceptHandler} {hds : List ExceptHandler} {l : List Cl} {pos : Pos} {fb : Env → RS} (hs : X.stack = X.env :: X.outer) (hf : X.env.frame = some X.env.locals) (hN : X.N.Nodup) (tk : L2N.Takes X W)
    (hb : ∀ (W : WX) (pn : List (Addr × Obj)) (xe : Value → Shared → Prop), L2N.Takes (X.tr pn xe) W → PassesOwn (model X.prog X.w) X.A X.env xe → JSs (X.tr pn xe) W body fb) (hh : JHs X (hd :: hds) l) : JS X W (.Try body (hd :: hds) [] [] pos) (sTry fb l) := by
  obtain ⟨L, h1, h2⟩ := hh.ok
  refine ⟨_, ps_try_all hs hf hN tk (tb := fun W => canS X.K W fb) (fun W pn xe tk hp => (hb W pn xe tk hp).can) h1, fun Φ G H σ E D S hp => ?_⟩
  refine ⟨Φ, G, E, S, ?_⟩
  unfold sTry at hp
  cases hfe : fb E with
  | nx E' => rw [hfe] at hp; exact hp
  | rt rv E' => rw [hfe] at hp; cases rv with | v d => exact hp | l d => exact hp
  | bk E' => rw [hfe] at hp; exact hp
  | ct E' => rw [hfe] at hp; exact hp
  | exc x E' => rw [hfe] at hp; exact h2 W D Φ G σ x E' hp
  | stuck => rw [hfe] at hp; exact hp

/-! ### in a suite: fields, isinstance -/
section
variable {X : Cx} {a : Addr} {oe : Obj} {cls : Value} {d : Option Addr} {pn : List (Addr × Obj)} {x : Exn} {pos : Pos}
def fXf (okc : Str → Bool) (x : Exn) (f : Str) : Env → R D := fun E => if okc x.c = true then (match (x.ns.zip x.ds).lookup f with
  | some v => .ok v E
  | none => .stuck) else .stuck
theorem RpA.look {K : PySem.W.Frag} {G : Hp} {f : Str} : ∀ {ns : List Str} {vs : List V} {ds : List D} {v : D}, RpA K G vs ds → (ns.zip ds).lookup f = some v → ∃ u, (ns.zip vs).lookup f = some u ∧ Rp K G u v
  | [], _, _, _, _, h => by simp at h
  | n :: ns, _, [], _, r, h => by simp at h
  | n :: ns, _, y :: ds, v, r, h => by
    cases r with
    | @cons w ws _ _ r1 r2 =>
      rw [List.zip_cons_cons, List.lookup_cons] at h ⊢
      split at h
      · cases h; exact ⟨w, rfl, r1⟩
      · exact r2.look h
theorem j_stuck {X : Cx} {W : WJ} {e : Expr} : JE X W e (fun _ => .stuck) := ⟨fun _ _ _ => False, ⟨fun pins s σ H Q I h => h.elim⟩, fun Φ G H σ E Q S hp => hp⟩
theorem j_xf (okc : Str → Bool) {n f : Str} {i : Nat} {p2 : Pos} (hz : L2N.Zn cls d oe) (hd : ∃ vs, oe.data = .fields vs) (hk : ∀ c, okc c = true → XfC X.K (He.ga X.K c) ∧ PySem.W.findIn X.K (.ref (He.ga X.K c)) f = some none) (hN : X.N[i]? = some n := by rfl) (hv : Vis X.env.scope n := by first | exact Or.inl rfl | exact Or.inr (Or.inl rfl) | exact Or.inr (Or.inr rfl)) (hdb : (n == ("__debug__" : Str)) = false := by decide)
    (hcd : (n == ("__classdict__" : Str)) = false := by decide) (hb : attributeBase (.Name n p2) f X.env (eval (.Name n p2) X.env) = eval (.Name n p2) X.env := by rfl) :
    JE (X.suite a ((a, oe) :: pn)) (WS X.K (some i) a cls d x) (.Attribute (.Name n p2) f pos) (fXf okc x f) := by
  by_cases c : okc x.c = true
  · obtain ⟨T, hno⟩ := hk x.c c
    refine ⟨_, pe_xf T hno hz.zc hd (pe_var (X := X.suite a ((a, oe) :: pn)) hN hv hdb hcd) hb, fun Φ G H σ E Q S hp => ?_⟩
    unfold fXf at hp
    rw [if_pos c] at hp
    obtain ⟨s1, s2⟩ := S.c
    obtain ⟨dd, vs, rfl, h1, h2, h3⟩ := s2.dd
    cases hl : (x.ns.zip x.ds).lookup f with
    | none => rw [hl] at hp; exact hp.elim
    | some v =>
      rw [hl] at hp
      obtain ⟨u, hu, ru⟩ := h3.look hl
      exact ⟨.ref a, s1 i rfl, rfl, s2.cls, dd, _, u, rfl, S.gh _ _ h1, hu, hp G H u (Ex.refl G) S ru⟩
  · have e : fXf okc x f = fun _ => R.stuck := by funext E; unfold fXf; rw [if_neg c]
    rw [e]; exact j_stuck
end
end J

namespace J
open PySem PySem.Spec PyProof.Rows L2

/-! ### isinstance of a caught exception that has a dict -/
section
open PySem.W PySem.Calls
variable {prog : Program} {w : World} {A : Around} {E : Value → Shared → Prop} {s : Shared} {K : Frag} {x C : Addr} {ox od : Obj}
theorem cls_of_exc {Q : Option Value → Shared → Prop} (T : ExcC K C) (X : K.In s.heap) (I : InstAt s.heap x ox C (some od)) (fin : Q (some (.ref C)) { s with toks := s.toks + 1 }) : wpAny (model prog w) A (getAttr? (.ref x) "__class__") Q E s := by
  have own : findObj K C (some od) "__class__" = some (.bind (.builtin "getset_descriptor.__get__") (.builtin "object.__class__")) := findObj_data (by obtain ⟨cd, hc, _⟩ := any_some T.hd; rw [hc]; rfl) T.ha T.hn T.ht
  obtain ⟨hp, g, d, t, os⟩ := s
  have M0 := I.type (M := model prog w)
  have M1 := looks_findIn (M := model prog w) X T.hg
  have M2 := looks_findIn (M := model prog w) X T.hk
  have M3 := looks_find (M := model prog w) X I own
  have below : Looks (model prog w) hp (isInstance (.ref x) (.type "BaseException")) true := M0.andThen (looks_subIn X T.hs)
  have b1 : (false && onTheHeap (Value.builtin "BaseException.__getattribute__")) = false := rfl
  have b2 : (onTheHeap (Value.ref C) && Value.builtin "BaseException.__getattribute__" == Value.builtin "object.__getattribute__") = false := by
    rw [show (Value.builtin "BaseException.__getattribute__" == Value.builtin "object.__getattribute__") = false by decide +kernel]; rfl
  unfold getAttr? getAttrBy? getAttrBy
  refine wpAny_bind (wpAny_mkText (wpAny_bind (wpAny_attempt (wpAny_holding (wpAny_bind (M0.at (wpAny_bind (M1.at ?_))))))))
  show wpAny _ _ (if (onTheHeap (Value.ref C) && Value.builtin "BaseException.__getattribute__" == Value.builtin "object.__getattribute__") = true then _ else _) _ _ _
  rw [b2, if_neg Bool.false_ne_true]
  unfold getAttrByItsOwn hookBefore
  refine wpAny_bind ?_
  rw [if_pos (show onTheHeap (Value.ref C) = true from rfl)]
  refine M2.at ?_
  refine wpAny_bind (wpAny_attempt (wpAny_holding ?_))
  unfold callGetattribute
  rw [b1, if_neg Bool.false_ne_true]
  unfold boundAndCalled
  rw [PySem.F.excAttr_ValueError.ga.bind (.ref x)]
  refine wpAny_bind (wpAny_pure ?_)
  show wpAny _ _ (call (.builtin "BaseException.__getattribute__") [.ref x, .str "__class__" t]) _ _ _
  refine wpAny_call (codeAny_call_builtin PySem.F.excAttr_ValueError.ga.plain PySem.F.entry_bexc_ga ?_)
  refine @check_slot (model prog w) _ _ ⟨hp, g, d, t + 1, os⟩ "BaseException.__getattribute__" "BaseException" "__getattribute__" (.ref x) [.str "__class__" t] [] _ (by decide +kernel) (by decide +kernel) below (PySem.F.args_bexc_ga (.ref x) (.str "__class__" t)) ?_
  unfold Builtin.«object.__getattribute__»
  refine wpAny_bind (wpAny_of_eq (a := ((Value.ref x : Value), [Value.str "__class__" t])) (by first | rfl | (simp only [slotArgs]; rfl)) ?_)
  refine wpAny_bind (wpAny_pure (wpAny_bind (M0.at (wpAny_bind (M3.at ?_)))))
  show wpAny _ _ (holding [Value.builtin "object.__class__"] (call (.builtin "getset_descriptor.__get__") [.builtin "object.__class__", .ref x, .ref C]) >>= ret) _ _ _
  refine wpAny_bind (wpAny_holding (wpAny_call (class_get (s := ⟨hp, g, d, t + 1, os⟩) (ox := ox) (od := some od) X I T.hm ?_)))
  refine wpAny_pure ?_
  show wpAny _ _ (handedOut (.ref C)) _ _ _
  rw [handedOut_of (v := .ref C) rfl]
  first
    | exact wpAny_pure (wpAny_pure fin)
    | exact wpAny_pure fin
    | exact wpAny_pure (wpAny_bind (wpAny_pure (wpAny_pure fin)))
theorem kitx_excD (T : ExcC K C) : KitX K (.ref x) (.ref C) (fun h => InstAt h x ox C (some od)) := by
  have N := handS_kitx_exc (x := x) (ox := ox) T.hg T.hk T.hs T.hd T.ha T.hn T.ht T.hm
  refine ⟨fun M h X I => I.type, fun M h X I A' Q' E' s' k q => ?_, N.ne, fun X I k => cls_of_exc T X I k⟩
  · obtain ⟨cdD, hcD, _⟩ := any_some T.hd
    unfold clsIn at hcD
    split at hcD
    · rename_i c' d' cd' sl' ho
      unfold isType loadHead
      exact wpAny_bind (wpAny_loadPart (k _ _ (X _ _ ho)) (wpAny_pure q))
    · cases hcD
end
/-- isinstance(e, c) of the caught exception -/
def rIsD (K : PySem.W.Frag) (C a : Addr) (d : Option Addr) : List V → Hp → VK → Prop := fun xs H Q => ∃ (c : V) (cv : Value) (b : Bool) (dd : Addr) (fs : List (Str × V)), xs = [.ref a, c] ∧ ClsV c cv ∧ PySem.W.kitOne K (.ref C) cv = some b ∧ d = some dd ∧ H dd = some (.xd fs) ∧ Q (.bl b) H
theorem call_isD {X : Cx} {a C : Addr} {oe : Obj} {d : Option Addr} {pn : List (Addr × Obj)} (T : ExcC X.K C) (hz : Zc (.ref C) d oe) (hf : ∃ vs, oe.data = .fields vs) : CallR (X.suite a ((a, oe) :: pn)) (.builtin "isinstance") (rIsD X.K C a d) := by
  intro pins s σ H xs us Q I r h
  obtain ⟨c, cv, b, dd, fs, rfl, hcv, e, rfl, ed, q⟩ := h
  obtain ⟨u1, u2, rfl, r1, r2⟩ := vals2 r
  cases (show u1 = Value.ref a from r1)
  have e2 := hcv.eq r2
  subst e2
  obtain ⟨hget, _⟩ := I.pin (a, oe) (List.mem_append_left _ List.mem_cons_self)
  obtain ⟨mA, hns, hr⟩ := (show ObjOk X.prog X.w H s.heap dd (.xd fs) from I.hok dd _ ed)
  obtain ⟨od, ho, hl⟩ := lookIn_ns hns
  have J : PySem.W.InstAt s.heap a oe C (some od) := ⟨hget, hz.1, by obtain ⟨vs, hv⟩ := hf; unfold PySem.W.notCls; rw [hv] <;> rfl, by rw [hz.2]; exact ho⟩
  exact PySem.W.kia_one (kitx_excD T) I.kIn J e (fun z => nomatch z) fun tk => ⟨.bl b, H, I.tok tk, rfl, q⟩
def rIsDT (K : PySem.W.Frag) (C a : Addr) (d : Option Addr) : List V → Hp → VK → Prop := fun xs H Q => ∃ (tp : Addr) (cs : List V) (cvs : List Value) (b : Bool) (dd : Addr) (fs : List (Str × V)), xs = [.ref a, .ref tp] ∧ H tp = some (.tup cs) ∧ Paired ClsV cs cvs ∧ PySem.W.kitAny K (.ref C) cvs = some b ∧ d = some dd ∧ H dd = some (.xd fs) ∧ Q (.bl b) H
theorem call_isDT {X : Cx} {a C : Addr} {oe : Obj} {d : Option Addr} {pn : List (Addr × Obj)} (T : ExcC X.K C) (hz : Zc (.ref C) d oe) (hf : ∃ vs, oe.data = .fields vs) : CallR (X.suite a ((a, oe) :: pn)) (.builtin "isinstance") (rIsDT X.K C a d) := by
  intro pins s σ H xs us Q I r h
  obtain ⟨tp, cs, cvs, b, dd, fs, rfl, hT, hcv, e, rfl, ed, q⟩ := h
  obtain ⟨u1, u2, rfl, r1, r2⟩ := vals2 r
  cases (show u1 = Value.ref a from r1)
  cases (show u2 = Value.ref tp from r2)
  obtain ⟨hget, _⟩ := I.pin (a, oe) (List.mem_append_left _ List.mem_cons_self)
  obtain ⟨mA, hns, hr⟩ := (show ObjOk X.prog X.w H s.heap dd (.xd fs) from I.hok dd _ ed)
  obtain ⟨od, ho, hl⟩ := lookIn_ns hns
  have J : PySem.W.InstAt s.heap a oe C (some od) := ⟨hget, hz.1, by obtain ⟨vs, hv⟩ := hf; unfold PySem.W.notCls; rw [hv] <;> rfl, by rw [hz.2]; exact ho⟩
  obtain ⟨_, its, rv, o, h1, h2, n, h3⟩ := (show ObjOk X.prog X.w H s.heap tp (.tup cs) from I.hok tp _ hT)
  have e3 := ClsV.all hcv rv
  subst e3
  obtain ⟨oc, od', dt, sl⟩ := o
  simp only at h2 h3
  subst h2 h3
  exact PySem.W.kia_tup (kitx_excD T) I.kIn J h1 e (fun z => nomatch z) fun tk => ⟨.bl b, H, I.tok tk, rfl, q⟩
end J

namespace J
open PySem PySem.Spec PyProof.Rows L2

/-! ### classes named one after the other -/
def JCs (X : Cx) (es : List Expr) (cs : List V) (cvs : List Value) : Prop := Paired ClsV cs cvs ∧ PA X es (fun σ H Q => Q cs H)
section
variable {X : Cx} {es : List Expr} {cs : List V} {cvs : List Value} {p : Pos} {y : Str}
theorem jcs_nil : JCs X [] [] [] := ⟨.nil, ⟨fun pos pins s σ H Q I h => (pa_nil (X := X)).run pos pins s σ H Q I h⟩⟩
theorem jcs_own {C : Addr} (h : JCs X es cs cvs) (hm : X.mg y = some (.ref C)) (hg : Gl X y := by rfl) (hd : (y == ("__debug__" : Str)) = false := by decide) (hs : starEach (.Name y p :: es) X.env = (false, eval (.Name y p) X.env) :: starEach es X.env := by rfl) : JCs X (.Name y p :: es) (.ref C :: cs) (.ref C :: cvs) :=
  ⟨.cons (.own C) h.1, ⟨fun pos pins s σ H Q I hq => (pa_cons (pe_glob (v := .ref C) hg hm rfl hd) h.2 hs).run pos pins s σ H Q I hq⟩⟩
theorem jcs_ty {T : String} (h : JCs X es cs cvs) (hm : X.mg y = none) (hv : bootBuiltins y = some (.type T)) (hg : Gl X y := by rfl) (hn : y ≠ "__name__" := by decide) (hd : (y == ("__debug__" : Str)) = false := by decide) (hs : starEach (.Name y p :: es) X.env = (false, eval (.Name y p) X.env) :: starEach es X.env := by rfl) : JCs X (.Name y p :: es) (.ty T :: cs) (.type T :: cvs) :=
  ⟨.cons (.ty T) h.1, ⟨fun pos pins s σ H Q I hq => (pa_cons (pe_bltn (v := .ty T) hg hm hv rfl hn hd) h.2 hs).run pos pins s σ H Q I hq⟩⟩
end
def fIsE (m : Str → Option Bool) (x : Exn) : Env → R D := fun E => match m x.c with
  | some b => .ok (.bl b) E
  | none => .stuck
section
variable {X : Cx} {a : Addr} {oe : Obj} {cls : Value} {d : Option Addr} {pn : List (Addr × Obj)} {x : Exn} {p p2 pos : Pos}
theorem j_isE (m : Str → Option Bool) {n : Str} {ec : Expr} {cs : List V} {cvs : List Value} {i : Nat} (hz : L2N.Zn cls d oe) (hd : ∃ vs, oe.data = .fields vs) (hC : JCs (X.suite a ((a, oe) :: pn)) [ec] cs cvs) (hk : ∀ c b, m c = some b → ExcC X.K (He.ga X.K c) ∧ ∃ cv, cvs = [cv] ∧ PySem.W.kitOne X.K (.ref (He.ga X.K c)) cv = some b) (hm : X.mg "isinstance" = none)
    (hg : Gl X "isinstance" := by rfl) (hN : X.N[i]? = some n := by rfl) (hv : Vis X.env.scope n := by first | exact Or.inl rfl | exact Or.inr (Or.inl rfl) | exact Or.inr (Or.inr rfl)) (hdb : (n == ("__debug__" : Str)) = false := by decide) (hcd : (n == ("__classdict__" : Str)) = false := by decide)
    (he : starEach [.Name n p2, ec] X.env = (false, eval (.Name n p2) X.env) :: starEach [ec] X.env := by rfl) (hpl : (backTo pos (starEach [ec] X.env)).any (·.1) = false := by rfl) :
    JE (X.suite a ((a, oe) :: pn)) (WS X.K (some i) a cls d x) (.Call (.Name "isinstance" p) [.Name n p2, ec] [] pos) (fIsE m x) := by
  cases c : m x.c with
  | none =>
    have e : fIsE m x = fun _ => R.stuck := by funext E; unfold fIsE; rw [c]
    rw [e]; exact j_stuck
  | some b =>
    obtain ⟨T, cv, rfl, hkit⟩ := hk x.c b c
    by_cases hcls : cls = .ref (He.ga X.K x.c)
    · subst hcls
      refine ⟨_, pe_callB (call_isD T hz.zc hd) hg hm (by decide +kernel) (pa_cons (pe_var (X := X.suite a ((a, oe) :: pn)) hN hv hdb hcd) hC.2 he) (by decide) (by decide) he hpl, fun Φ G H σ E Q S hp => ?_⟩
      unfold fIsE at hp
      rw [c] at hp
      obtain ⟨s1, s2⟩ := S.c
      obtain ⟨dd, vs, rfl, h1, h2, h3⟩ := s2.dd
      have hcs := hC.1
      cases hcs with
      | cons k1 k2 =>
        cases k2
        exact ⟨.ref a, s1 i rfl, _, cv, b, dd, _, rfl, k1, hkit, rfl, S.gh _ _ h1, hp G H _ (Ex.refl G) S (.bl b)⟩
    · refine ⟨fun _ _ _ => False, ⟨fun pins s σ H Q I h => h.elim⟩, fun Φ G H σ E Q S hp => hcls S.c.2.cls⟩
theorem j_isET (m : Str → Option Bool) {n : Str} {ets : List Expr} {kx : Nat} {pt : Pos} {cs : List V} {cvs : List Value} {i : Nat} (hz : L2N.Zn cls d oe) (hd : ∃ vs, oe.data = .fields vs) (hC : JCs (X.suite a ((a, oe) :: pn)) ets cs cvs) (hlen : cs.length ≤ 1000) (hk : ∀ c b, m c = some b → ExcC X.K (He.ga X.K c) ∧ PySem.W.kitAny X.K (.ref (He.ga X.K c)) cvs = some b) (hm : X.mg "isinstance" = none)
    (hg : Gl X "isinstance" := by rfl) (hN : X.N[i]? = some n := by rfl) (hv : Vis X.env.scope n := by first | exact Or.inl rfl | exact Or.inr (Or.inl rfl) | exact Or.inr (Or.inr rfl)) (hdb : (n == ("__debug__" : Str)) = false := by decide) (hcd : (n == ("__classdict__" : Str)) = false := by decide)
    (he : starEach [.Name n p2, .Tuple ets kx pt] X.env = (false, eval (.Name n p2) X.env) :: starEach [.Tuple ets kx pt] X.env := by rfl) (he2 : starEach [.Tuple ets kx pt] X.env = (false, eval (.Tuple ets kx pt) X.env) :: starEach [] X.env := by rfl) (hpl : (backTo pos (starEach [.Tuple ets kx pt] X.env)).any (·.1) = false := by rfl) :
    JE (X.suite a ((a, oe) :: pn)) (WS X.K (some i) a cls d x) (.Call (.Name "isinstance" p) [.Name n p2, .Tuple ets kx pt] [] pos) (fIsE m x) := by
  cases c : m x.c with
  | none =>
    have e : fIsE m x = fun _ => R.stuck := by funext E; unfold fIsE; rw [c]
    rw [e]; exact j_stuck
  | some b =>
    obtain ⟨T, hkit⟩ := hk x.c b c
    by_cases hcls : cls = .ref (He.ga X.K x.c)
    · subst hcls
      refine ⟨_, pe_callB (call_isDT T hz.zc hd) hg hm (by decide +kernel) (pa_cons (pe_var (X := X.suite a ((a, oe) :: pn)) hN hv hdb hcd) (pa_cons (pe_tup hC.2) pa_nil he2) he) (by decide) (by decide) he hpl, fun Φ G H σ E Q S hp => ?_⟩
      unfold fIsE at hp
      rw [c] at hp
      obtain ⟨s1, s2⟩ := S.c
      obtain ⟨dd, vs, rfl, h1, h2, h3⟩ := s2.dd
      refine ⟨.ref a, s1 i rfl, by rw [sizeLine_eq]; omega, fun tp htp => ?_⟩
      have nd : dd ≠ tp := fun z => by have q := S.gh _ _ h1; rw [z, htp] at q; cases q
      exact ⟨tp, cs, cvs, b, dd, _, rfl, upd_same, hC.1, hkit, rfl, by rw [upd_ne nd]; exact S.gh _ _ h1, hp G _ _ (Ex.refl G) (S.toSat.newH htp) (.bl b)⟩
    · refine ⟨fun _ _ _ => False, ⟨fun pins s σ H Q I h => h.elim⟩, fun Φ G H σ E Q S hp => hcls S.c.2.cls⟩
end

/-! ### defs called in a suite -/
theorem fn_JH {P : Program} {w : World} {K : PySem.W.Frag} {mg : Str → Option Value} {base : Heap} {k : Nat} {f : Addr} {name qual : Str} {params : Arguments} {body : List Stmt} {scope : Scope} {dV kV doc pm cdv ct oc : Value} {an od : Option Addr}
    {osl : Array (Option Value)} {N ps : List Str} {fb : Env → RS} (lk : K.lookup f = some ⟨oc, od, .func (PySem.W.fnOf name qual params body scope dV kV doc pm an cdv ct), osl⟩) (hcd : PySem.W.codeIn K cdv qual = true) (S : FnScope N ps scope)
    (hbody : ∀ (A : Around) (outer : List PySem.Env) (s : Shared) (H : Hp) (E : XK) (p : Addr × Obj), L2H.RoomH k (A.deeper (envOfC qual scope s.heap.objs.size f cdv)) → JSs (L2H.cxH (L2N.CX P w) P w K mg base N qual scope f cdv A outer s H E p) (fun c d _ H => E c d H) body fb) :
    L2H.FnH P w K mg base (L2N.CX P w) (k + 1) f (PySem.W.fnOf name qual params body scope dV kV doc pm an cdv ct) ps (spJ K ps.length (runF N.length fb)) := by
  refine L2H.fn_ofH lk hcd S (fun vs H Q E h => h.1) fun A outer s H vs Q E p hot hr hsp => ?_
  obtain ⟨t, h1, h2⟩ := hbody A outer s H E p hr
  refine ⟨t, h1, ?_⟩
  obtain ⟨hl, Φ, G, as, S0, hP⟩ := hsp
  refine h2 Φ G H _ _ _ (S0.begin N) ?_
  unfold runF at hP
  cases hf : fb (as ++ List.replicate (N.length - as.length) .no) with
  | nx E' => rw [hf] at hP; exact fun G' H' σ' e' S' => hP G' H' .non e' S'.toIO .non
  | rt rv E' =>
    rw [hf] at hP
    cases rv with
    | v d => exact fun G' H' σ' v e' S' r => hP G' H' v e' S'.toIO r
    | l d =>
      refine fun G' H' σ' v e' S' r => ?_
      obtain ⟨p, vs, rfl, k1, k2, k3, k4, k5⟩ := r
      refine hP G' H' p vs e' S'.toIO k1 k2 k3 k4 fun i m hi z => ?_
      obtain ⟨x, q1, p', us, rfl, q2, q3⟩ := S'.sl i _ hi
      obtain ⟨q4, q5, q6⟩ := S'.ow i true m p' hi q1
      have := q6 rfl
      subst this
      rw [← z] at q1
      exact k5 i true m hi q1
  | bk E' => rw [hf] at hP; exact hP.elim
  | ct E' => rw [hf] at hP; exact hP.elim
  | exc x E' => rw [hf] at hP; exact fun G' H' σ' c d e' S' r => hP G' H' c d e' S'.toIO r
  | stuck => rw [hf] at hP; exact hP.elim
structure FnHJ (P : Program) (w : World) (K : PySem.W.Frag) (mg : Str → Option Value) (base : Heap) (k : Nat) (x : Str) (n : Nat) (F : DF) : Prop where
  ok : ∃ f fd ps, mg x = some (.ref f) ∧ PySem.W.keepIn K (.ref f) = true ∧ ps.length = n ∧ Binds K fd ps [] ∧ L2H.FnH P w K mg base (L2N.CX P w) k f fd ps (spJ K n F)
theorem hot_of {X : Cx} {a : Addr} {oe : Obj} {cls : Value} {d : Option Addr} {pn : List (Addr × Obj)} (hz : L2N.Zn cls d oe) (hd : ∃ vs, oe.data = .fields vs) : L2H.HotC (X.suite a ((a, oe) :: pn)) := by
  obtain ⟨vs, hv⟩ := hd
  exact ⟨(a, oe), ⟨rfl, vs, hv, hz.2.2 vs hv⟩, List.mem_cons_self⟩
section
variable {X : Cx} {W : WJ} {k : Nat} {F : DF} {x : Str} {p pos : Pos} {e : Expr} {es : List Expr} {fa : Env → R (List Ar)}
theorem j_callH (hF : FnHJ X.prog X.w X.K X.mg X.base k x (e :: es).length F) (hr : L2H.RoomH k X.A) (hc : L2H.HotC X) (tk : L2N.Takes X W.w) (ha : JX X W (e :: es) fa) (hg : Gl X x := by rfl) (hdb : (x == ("__debug__" : Str)) = false := by decide)
    (he : starEach (e :: es) X.env = (false, eval e X.env) :: starEach es X.env := by rfl) (hpl : (backTo pos (starEach es X.env)).any (·.1) = false := by rfl) : JE X W (.Call (.Name x p) (e :: es) [] pos) (fCallR (e :: es).length F fa rvD) := by
  obtain ⟨f, fd, ps, h1, h2, h3, h4, h5⟩ := hF
  obtain ⟨ta, pa, sa⟩ := ha
  have sn := snd_call (F := F) (n := (e :: es).length) (rel := relE X.K) (kv := rvD) sa (fun d a hk Φ σ G' H' E' v r _ => by cases hk; exact r) fun l a hk Φ σ G' H' E' p vs S h1 h2 h3 h4 h5 => by cases hk; exact ⟨_, Ex.new h3, S.free h1 h3 h4 h5, .lst upd_same (h2.mono (Ex.new h3))⟩
  refine ⟨_, L2H.pe_callH (E := fun σ => WE W.w σ) h5 hr hc hg h1 h2 h4 (fun σ => L2N.passAt tk σ) pa hdb he hpl, fun Φ G H σ E Q S hp => ?_⟩
  have q := sn Φ G H σ E Q S hp
  unfold tCallSD at q
  unfold tCallS
  simp only [List.append_nil] at q
  exact q
end
theorem takes_su {X : Cx} {a : Addr} {pn : List (Addr × Obj)} {K : PySem.W.Frag} {oi : Option Nat} {b : Addr} {cls : Value} {d : Option Addr} {x : Exn} : L2N.Takes (X.suite a pn) (WS K oi b cls d x).w := fun _ _ ⟨_, _, _, _, _, _, _, _, _, _, _, _, _, _, _, _, w⟩ => w.elim
theorem takes_blk {X : Cx} {s : Shared} {H : Hp} {scope : Scope} {cenv : PySem.Env} {fp : List Addr} : L2N.Takes (X.blk s H scope cenv fp) V0.w := fun _ _ ⟨_, _, _, _, _, _, _, _, _, _, _, _, _, _, _, _, w⟩ => w.elim
end J

namespace J
open PySem PySem.Spec PyProof.Rows L2

/-! ### set(xs), xs a list of ints -/
abbrev mtS (w : World) : Obj := { cls := .type "set", dict := none, data := .set #[] 0 (.fresh 0 0 (!w.params.followText "set-order")) }
section
variable {P : Program} {w : World} {A : Around} {E : Value → Shared → Prop} {s : Shared}
theorem set_of_list {l : Addr} {xs : Array Value} (ns : List Int) {Q : Value → Shared → Prop} (calm : A.handled = none) (isl : s.heap.IsList l xs) (inz : IntsAre xs.toList ns) (few : ns.length + 1 < scanBound)
    (fin : ∀ (h' : Heap) (tk c : Nat), SetR w h' s.heap.objs.size (fun j => decide (j ∈ ns)) c → c ≤ ns.length → (∀ b o, s.heap.get? b = some o → h'.get? b = some o) → Q (.ref s.heap.objs.size) { s with heap := h', toks := tk }) :
    wpAny (model P w) A (call (.type "set") [.ref l]) Q E s := by
  have lenx : xs.size = ns.length := by
    have z := IntsAre.length inz
    rwa [Array.length_toList] at z
  obtain ⟨c0, tl0, mro0⟩ := F.called_set.mro
  have made0 := F.called_set.made
  have sub0 := F.called_set.sub
  refine wpAny_call (codeAny_of_tree ?_)
  show wpAny _ _ (callAny (.type "set") _) _ _ _
  refine wpAny_pure ⟨Code.quiet_builtin _ (by decide +kernel), ?_⟩
  refine codeAny_builtin F.entry_type_call ?_
  rw [Around.under_plain (weight_type_call_type "set" [.ref l] []) rfl]
  have nt0 := F.called_set.notType
  have cc0 := F.called_set.canCreate
  have tc0 := F.typeCall_set_1 (.ref l)
  repeat (any_goals (first | assumption | wp_step))
  refine codeAny_mono (code_set_led1 (.ref l) (E := E) (Q₁ := fun u s1 => u = .ref s.heap.objs.size ∧ s1 = { s with heap := s.heap.push (mtS w) }) ⟨rfl, rfl⟩) fun res s1 got => ?_
  cases res with
  | error e => exact got
  | ok fl =>
    cases fl with
    | next => exact got.elim
    | brk => exact got.elim
    | cont => exact got.elim
    | ret u =>
      obtain ⟨rfl, rfl⟩ := got
      have S0 : (s.heap.push (mtS w)).get? s.heap.objs.size = some (mtS w) := Heap.get?_push_size _ rfl
      have T0 : Shared.TypeIs { s with heap := s.heap.push (mtS w) } (.ref s.heap.objs.size) "set" := ⟨_, S0, rfl⟩
      have li0 := F.called_set.init.lookup
      have bi0 := F.called_set.init.bind (.ref s.heap.objs.size)
      repeat (any_goals (first | assumption | wp_step))
      refine codeAny_mono (codeAny_call_builtin (R := wants (fun r s2 => r = .none ∧ ∃ h' tk c, s2 = { s with heap := h', toks := tk } ∧ SetR w h' s.heap.objs.size (fun j => decide (j ∈ ns)) c ∧ c ≤ ns.length ∧ (∀ b o, s.heap.get? b = some o → h'.get? b = some o)) E)
        F.called_set.init.plain F.entry_set_init (check_set_init_1 T0 ?_)) fun res2 s2 got2 => ?_
      · obtain ⟨ol, hol, hcl, nl, hdl⟩ := isl
        obtain ⟨oc, od, oda, osl⟩ := ol
        simp only at hcl hdl
        subst hcl; subst hdl
        have ol1 : (s.heap.push (mtS w)).get? l = some { cls := .type "list", dict := od, data := .seq xs nl, slots := osl } := Heap.get?_push_of_some _ hol
        have n1 := F.sub_list_set
        have n2 := F.sub_list_frozenset
        have n3 : (Value.type "list" == Value.type "dict") = false := by decide
        have isl1 : (s.heap.push (mtS w)).IsList l xs := ⟨_, ol1, rfl, nl, rfl⟩
        unfold Builtin.«set.__init__» noKeywords Builtin.Frozenset.updateFrom
        generalize hIt : pyIter = IT
        wp_walk
        subst hIt
        refine wpAny_pyIter_list isl1 ?_
        refine wpAny_bind (wpAny_runValue ?_)
        have lt0 : l < s.heap.objs.size := Heap.lt_size hol
        have calm3 : A.in1.in1.in1.handled = none := by simp [calm]
        have ne1 : l ≠ (s.heap.push (mtS w)).objs.size := by rw [Heap.size_push]; exact Nat.ne_of_lt (Nat.lt_succ_of_lt lt0)
        have off : s.heap.objs.size ∉ [(s.heap.push (mtS w)).objs.size, l] := by
          rw [Heap.size_push]
          intro z
          rcases List.mem_cons.mp z with z | z
          · exact absurd z (Nat.ne_of_lt (Nat.lt_succ_self _))
          · have z : s.heap.objs.size = l := by simpa using z
            exact absurd z (Nat.ne_of_gt lt0)
        have each : ∀ (i : Nat) (v : Value), xs[i]? = some v → ∃ k t, ns[i]? = some k ∧ v = .int k t := fun i v hv => by
          have hi : i < ns.length := by rw [← lenx]; exact (Array.getElem?_eq_some_iff.mp hv).1
          obtain ⟨t, e⟩ := PyProof.Rows.IntsAre.int_at inz i v (by rw [Array.getElem?_toList]; exact hv)
          exact ⟨ns[i], t, List.getElem?_eq_getElem hi, by rw [e, List.getD_eq_getElem?_getD, List.getElem?_eq_getElem hi] <;> rfl⟩
        refine set_update_ints ((Walks.list calm3 _ l ne1 xs).toS) s.heap.objs.size off ns lenx few each (xs.size - 0) 0 _ (by omega) (Nat.zero_le _) ⟨⟨_, Heap.get?_push_size _ rfl, rfl, rfl⟩, (isl1.push _)⟩ ?start ?stop
        case start =>
          exact ⟨0, Nat.le_refl 0, setR_new_at (Heap.get?_push_of_some _ S0)⟩
        case stop =>
          intro s3 c3 mv le3 R3
          obtain ⟨h3, g3, d3, t3, o3⟩ := s3
          have eg : g3 = s.gens := mv.gens
          have ed : d3 = s.drawn := mv.drawn
          have eo : o3 = s.os := mv.os
          subst eg ed eo
          show wpAny _ _ _ _ _ _
          refine wpAny_pure ?_
          show wpAny _ _ (ret Value.none) _ _ _
          rw [lenx] at le3
          refine wpAny_pure ⟨rfl, h3, t3, c3, rfl, R3, le3, fun b o e => ?_⟩
          have lb := Heap.lt_size e
          refine mv.heap b o (fun z => ?_) (Heap.get?_push_of_some _ (Heap.get?_push_of_some _ e))
          rcases List.mem_cons.mp z with z | z
          · exact absurd z (Nat.ne_of_lt lb)
          · have z : b = (s.heap.push (mtS w)).objs.size := by simpa using z
            rw [Heap.size_push] at z
            exact absurd z (Nat.ne_of_lt (Nat.lt_succ_of_lt lb))
      · cases res2 with
        | error e => exact got2
        | ok fl2 =>
          cases fl2 with
          | next => exact got2.elim
          | brk => exact got2.elim
          | cont => exact got2.elim
          | ret r =>
            obtain ⟨rfl, h', tk, c', rfl, R4, le4, k4⟩ := got2
            repeat (any_goals (first | assumption | wp_step))
            exact fin _ _ _ R4 le4 k4
end
/-- set(xs), xs a list or a tuple of ints -/
def rSetI (X : Cx) : List V → Hp → VK → Prop := fun vs H Q => ∃ (p : Addr) (ns : List Int), vs = [.ref p] ∧ (SqL X.K H p (ns.map V.int) ∨ SqT X.K H p (ns.map V.int)) ∧ ns.length ≤ 1000 ∧ ∀ (a : Addr) (c : Nat), c ≤ ns.length → H a = none → Q (.ref a) (upd H a (SetO X.w a (fun j => decide (j ∈ ns)) c))
theorem cr_setI {X : Cx} (hc : X.calm = true) : CallR X (.type "set") (rSetI X) := by
  intro pins s σ H vs us Q I r h
  obtain ⟨p, ns, rfl, hq, hl, q⟩ := h
  have e1 := Vals.ref1 r
  subst e1
  have fin : ∀ (h' : Heap) (tk c : Nat), SetR X.w h' s.heap.objs.size (fun j => decide (j ∈ ns)) c → c ≤ ns.length → (∀ b o, s.heap.get? b = some o → h'.get? b = some o) → EP X pins σ Q (.ref s.heap.objs.size) { s with heap := h', toks := tk } := fun h' tk c R le k =>
    ⟨.ref _, _, I.laid (t' := tk) k (Nat.le_refl _) (setO_new R), rfl, q _ c le (I.hok.fresh (Nat.le_refl _))⟩
  rcases hq with hq | hq
  · obtain ⟨its, rv, pt, hz⟩ := I.list hq
    exact set_of_list ns (I.ok.hd hc) pt.isList (ints_of_vals rv) (by unfold scanBound; omega) fin
  · obtain ⟨its, rv, pt, hz⟩ := I.tuple hq
    exact call_set_tupI ns (I.ok.hd hc) (show s.heap.IsTuple p its.toArray from pt) (ints_of_vals rv) (by unfold scanBound; omega) fin
end J

namespace J
open PySem PySem.Spec PyProof.Rows L2

/-! ### sorted(set(xs)) -/
def insU (k : Int) : List Int → List Int
  | [] => [k]
  | x :: xs => if k < x then k :: x :: xs else if k = x then x :: xs else x :: insU k xs
def sortU : List Int → List Int
  | [] => []
  | x :: xs => insU x (sortU xs)
theorem insU_mem {k j : Int} : ∀ {l : List Int}, j ∈ insU k l ↔ j = k ∨ j ∈ l
  | [] => by simp [insU]
  | x :: xs => by
    unfold insU
    split
    · simp
    · split
      · rename_i h1 h2
        subst h2
        simp only [List.mem_cons]
        constructor
        · intro h; exact .inr h
        · rintro (h | h)
          · exact .inl h
          · exact h
      · simp only [List.mem_cons, insU_mem (l := xs)]
        constructor
        · rintro (h | h | h)
          · exact .inr (.inl h)
          · exact .inl h
          · exact .inr (.inr h)
        · rintro (h | h | h)
          · exact .inr (.inl h)
          · exact .inl h
          · exact .inr (.inr h)
theorem insU_pw {k : Int} : ∀ {l : List Int}, l.Pairwise (· < ·) → (insU k l).Pairwise (· < ·)
  | [], _ => by simp [insU]
  | x :: xs, h => by
    obtain ⟨h1, h2⟩ := List.pairwise_cons.mp h
    unfold insU
    split
    · rename_i hk
      refine List.pairwise_cons.mpr ⟨fun y hy => ?_, h⟩
      rcases List.mem_cons.mp hy with rfl | hy
      · exact hk
      · exact Int.lt_trans hk (h1 y hy)
    · split
      · exact h
      · refine List.pairwise_cons.mpr ⟨fun y hy => ?_, insU_pw h2⟩
        rcases insU_mem.mp hy with rfl | hy
        · omega
        · exact h1 y hy
theorem sortU_mem {j : Int} : ∀ {l : List Int}, j ∈ sortU l ↔ j ∈ l
  | [] => by simp [sortU]
  | x :: xs => by unfold sortU; rw [insU_mem, sortU_mem (l := xs), List.mem_cons]
theorem sortU_pw : ∀ {l : List Int}, (sortU l).Pairwise (· < ·)
  | [] => .nil
  | x :: xs => insU_pw sortU_pw
theorem pw_uniq : ∀ {l m : List Int}, l.Pairwise (· < ·) → m.Pairwise (· < ·) → (∀ k, k ∈ l ↔ k ∈ m) → l = m
  | [], [], _, _, _ => rfl
  | [], y :: ys, _, _, h => by have := (h y).mpr (List.mem_cons_self ..); cases this
  | x :: xs, [], _, _, h => by have := (h x).mp (List.mem_cons_self ..); cases this
  | x :: xs, y :: ys, hl, hm, h => by
    obtain ⟨l1, l2⟩ := List.pairwise_cons.mp hl
    obtain ⟨m1, m2⟩ := List.pairwise_cons.mp hm
    have exy : x = y := by
      rcases List.mem_cons.mp ((h x).mp (List.mem_cons_self ..)) with e | e
      · exact e
      · rcases List.mem_cons.mp ((h y).mpr (List.mem_cons_self ..)) with e2 | e2
        · exact e2.symm
        · have a := m1 x e; have b := l1 y e2; omega
    subst exy
    rw [pw_uniq l2 m2 fun k => ?_]
    constructor
    · intro hk
      rcases List.mem_cons.mp ((h k).mp (List.mem_cons_of_mem _ hk)) with e | e
      · subst e; have := l1 k hk; omega
      · exact e
    · intro hk
      rcases List.mem_cons.mp ((h k).mpr (List.mem_cons_of_mem _ hk)) with e | e
      · subst e; have := m1 k hk; omega
      · exact e
def gSS : D → Option (List D) := fun d => (itemsD d).bind fun l => (intsD l).bind fun ns => if ns.length ≤ 63 then some ((sortU ns).map D.int) else none
section
variable {X : Cx} {W : WJ} {a b e : Expr} {p p2 pos pos2 : Pos} {fa fb : Env → R D}
theorem jl_ss (hc : X.calm = true) (hm : X.mg "sorted" = none) (hm2 : X.mg "set" = none) (ha : JO X W a fa) (hg : Gl X "sorted" := by rfl) (hg2 : Gl X "set" := by rfl)
    (he : starEach [a] X.env = (false, eval a X.env) :: starEach [] X.env := by rfl) (hpl : (backTo pos2 (starEach [] X.env)).any (·.1) = false := by rfl)
    (he2 : starEach [.Call (.Name "set" p2) [a] [] pos2] X.env = (false, eval (.Call (.Name "set" p2) [a] [] pos2) X.env) :: starEach [] X.env := by rfl) (hpl2 : (backTo pos (starEach [] X.env)).any (·.1) = false := by rfl) :
    JL X W (.Call (.Name "sorted" p) [.Call (.Name "set" p2) [a] [] pos2] [] pos) (fun1L gSS fa) := by
  obtain ⟨ta, pa, sa⟩ := ha
  refine ⟨_, pe_callB (cr_sortedSet hc) hg hm (by decide +kernel) (pa_cons (pe_callTy (cr_setI hc) hg2 hm2 (by decide +kernel) (pa_cons pa pa_nil he) (by decide) (by decide) he hpl) pa_nil he2) (by decide) (by decide) he2 hpl2, fun Φ G H σ E Q S hp => ?_⟩
  refine sa.go S hp fun d E1 G1 H1 x _ e1 S1 r1 hp => ?_
  cases hd : gSS d with
  | none => rw [hd] at hp; exact hp.elim
  | some l =>
    rw [hd] at hp
    obtain ⟨l0, h1, hd⟩ := Option.bind_eq_some_iff.mp hd
    obtain ⟨ns, h2, hd⟩ := Option.bind_eq_some_iff.mp hd
    obtain ⟨c63, rfl⟩ := if_some hd
    obtain ⟨q, vs, rfl, h4, h5⟩ := r1.items S1.gh h1
    rw [intsD_eq h2] at h5
    have := h5.of_ints
    subst this
    refine ⟨q, ns, rfl, h4, by omega, fun s c hcl hs => ?_⟩
    refine ⟨s, _, c, rfl, upd_same, by omega, fun ms r m1 m2 m3 hr => ?_⟩
    have em : ms = sortU ns := pw_uniq m1 sortU_pw fun k => by rw [m2 k, sortU_mem, decide_eq_true_eq]
    subst em
    have S2 := S1.toSat.newH (o := SetO X.w s (fun j => decide (j ∈ ns)) c) hs
    exact hp _ _ _ (Ex.refl G1) (S2.newH hr) (relL.new S2 hr (RpA.ints _))

/-! ### xs + ys, xs * n: a list of one's own -/
def fopL (g : D → D → Option D) (fa fb : Env → R D) : Env → R (List D) := fun E => (fa E).bind fun a E => (fb E).bind fun b E => match a, g a b with
  | .lst _, some (.lst l) => .ok l E
  | _, _ => .stuck
theorem jl_add (ha : JE X W a fa) (hb : JO X W b fb) : JL X W (.BinOp a .Add b pos) (fopL gAdd fa fb) := by
  obtain ⟨ta, pa, sa⟩ := ha
  obtain ⟨tb, pb, sb⟩ := hb
  refine ⟨_, pe_op op_cat pa pb, fun Φ G H σ E Q S hp => ?_⟩
  refine sa.go S hp fun d E1 G1 H1 x _ e1 S1 r1 hp => ?_
  refine sb.go S1 hp fun d' E2 G2 H2 y _ e2 S2 r2 hp => ?_
  cases d with
  | lst l =>
    cases d' with
    | lst m =>
      have r1 := Rp.mono e2 _ r1
      cases r1 with
      | lst h1 h2 =>
        obtain ⟨q, ws, rfl, h3, h4⟩ := r2
        by_cases c : l.length + m.length ≤ 16777216
        · have hg : gAdd (.lst l) (.lst m) = some (.lst (l ++ m)) := if_pos c
          simp only [hg] at hp
          exact ⟨_, _, _, _, rfl, rfl, S2.gh _ _ h1, h3, sz (by rw [h2.length, h4.length]; exact c), fun r hr => hp _ _ _ (Ex.refl G2) (S2.toSat.newH hr) (relL.new S2.toSat hr (h2.append h4))⟩
        · have hg : gAdd (.lst l) (.lst m) = none := if_neg c
          simp only [hg] at hp
          exact hp.elim
    | _ => exact hp.elim
  | _ => exact hp.elim
theorem jl_mul (ha : JE X W a fa) (hb : JO X W b fb) : JL X W (.BinOp a .Mult b pos) (fopL gMul fa fb) := by
  obtain ⟨ta, pa, sa⟩ := ha
  obtain ⟨tb, pb, sb⟩ := hb
  refine ⟨_, pe_op op_rep pa pb, fun Φ G H σ E Q S hp => ?_⟩
  refine sa.go S hp fun d E1 G1 H1 x _ e1 S1 r1 hp => ?_
  refine sb.go S1 hp fun d' E2 G2 H2 y _ e2 S2 r2 hp => ?_
  cases d with
  | lst l =>
    cases d' with
    | int k =>
      have r1 := Rp.mono e2 _ r1
      cases r2
      cases r1 with
      | lst h1 h2 =>
        by_cases c : 0 ≤ k ∧ k ≤ 1000000 ∧ l.length * k.toNat ≤ 16777216
        · have hg : gMul (.lst l) (.int k) = some (.lst (List.replicate k.toNat l).flatten) := if_pos c
          simp only [hg] at hp
          exact ⟨_, k, _, rfl, rfl, S2.gh _ _ h1, by omega, by omega, sz (by rw [h2.length]; exact c.2.2), fun r hr => hp _ _ _ (Ex.refl G2) (S2.toSat.newH hr) (relL.new S2.toSat hr (h2.flat _))⟩
        · have hg : gMul (.lst l) (.int k) = none := if_neg c
          simp only [hg] at hp
          exact hp.elim
    | _ => exact hp.elim
  | _ => exact hp.elim
end
end J

namespace J
open PySem PySem.Spec PyProof.Rows L2

/-! ### xs[lo:hi] = ys -/
section
variable {prog : Program} {w : World} {A : Around} {E : Value → Shared → Prop} {s : Shared}
theorem put_run {l b sl : Addr} {xs ys : Array Value} {n n2 : Nat} {vl vu : Value} {lo hi : Option Int} {a c : Nat} {Q : Unit → Shared → Prop} (e : s.heap.get? l = some { cls := .type "list", data := .seq xs n }) (e2 : s.heap.get? b = some { cls := .type "list", data := .seq ys n2 }) (apart : l ≠ b)
    (isl : s.heap.IsSliceOf sl vl vu .none) (pl : IsPart vl lo) (pu : IsPart vu hi) (bnd : sliceBounds lo hi none xs.size = ((a : Int), (c : Int), 1)) (hac : a ≤ c) (room : xs.size + ys.size ≤ sizeLine)
    (fin : Q () { s with heap := s.heap.update l (Obj.mapSeq fun zs => zs.extract 0 a ++ ys ++ zs.extract c zs.size) }) : wpAny (model prog w) A (setItem (.ref l) (.ref sl) (.ref b)) Q E s := by
  have Ll : s.heap.IsList l xs := PySem.IsL.isList e
  have Lb : s.heap.IsList b ys := PySem.IsL.isList e2
  obtain ⟨os, o1, o2, o3⟩ := id isl
  have Ts : s.TypeIs (.ref sl) "slice" := ⟨os, o1, o2⟩
  have noStep : ¬ ((rawPart none == rawInt 0) = true) := Bool.false_ne_true
  have other : Builtin.List.listSameRef (.ref l) (.ref b) = false := by unfold Builtin.List.listSameRef; exact beq_eq_false_iff_ne.mpr apart
  have mx : (max (a : Int) (c : Int)).toNat = c := by omega
  have room1 : ((fun zs : Array Value => zs.extract 0 a ++ ys ++ zs.extract c zs.size) xs).size ≤ sizeLine + 1 := by simp only [Array.size_append, Array.size_extract]; omega
  unfold setItem
  try with_reducible refine wpAny_holding ?_
  first | refine wpAny_bind (wpAny_pure ?_) | skip
  refine wpAny_bind (wpAny_sequenceKey Ll.typeIs (by decide) ?_)
  refine wpAny_bind (wpAny_callSpecial?_slot (name := Str.ofString "__setitem__") Ll.typeIs slot_list_setitem (wpAny_call_entry slot_list_setitem Ll.typeIs entry_list_setitem ?_ (args_list_setitem _ _ _)))
  show wpAny _ _ (Builtin.List.listSubscript? (.ref sl) >>= _) _ _ s
  refine wpAny_bind ?_
  unfold Builtin.List.listSubscript?
  refine wpAny_bind (wpAny_specialOf Ts slice_no_index ?_)
  simp only [Option.isNone_none, if_true]
  refine wpAny_pure ?_
  show wpAny _ _ (typeOf (.ref sl) >>= _) _ _ s
  refine wpAny_bind (wpAny_typeOf Ts ?_)
  first
    | rw [if_neg (by decide)]
    | refine PySem.W.KFB.if_not (by decide) ?_
  rw [listSliceParts_eq]
  refine wpAny_bind (wpAny_bind (wpAny_field o1 o3 (x := .none) rfl (wpAny_bind (wpAny_listPart .none ?_))))
  rw [if_neg noStep]
  refine wpAny_bind (wpAny_field o1 o3 (x := vl) rfl (wpAny_bind (wpAny_listPart pl ?_)))
  refine wpAny_bind (wpAny_field o1 o3 (x := vu) rfl (wpAny_bind (wpAny_listPart pu (wpAny_pure ?_))))
  first
    | simp only [other, Bool.false_eq_true, if_false]
    | refine PySem.W.KFB.if_not other ?_
    | (dsimp only
       rw [if_neg (by rw [other]; exact Bool.false_ne_true)])
  refine wpAny_bind (m := Builtin.List.listAllItems (.ref b) "must assign iterable to extended slice") ?_
  unfold Builtin.List.listAllItems
  refine wpAny_bind (wpAny_typeOf Lb.typeIs ?_)
  first
    | refine PySem.W.KFB.if_so (by decide) ?_
    | rw [if_pos (by decide)]
    | simp only [beq_self_eq_true, Bool.true_or, if_true]
  unfold Builtin.List.listItems
  refine wpAny_bind (wpAny_seqItems e2 rfl (wpAny_pure ?_))
  refine wpAny_bind (wpAny_bind (wpAny_seqItems e rfl (wpAny_pure ?_)))
  have raw := (sliceIndices_raw lo hi none xs.size (by simp)).trans (congrArg (pure : Int × Int × Int → Sem (Int × Int × Int)) bnd)
  refine wpAny_bind (wpAny_of_eq raw ?_)
  show wpAny _ _ (if ((1 : Int) == 1) = true then _ else _) _ _ s
  rw [if_pos (by decide)]
  refine wpAny_bind (wpAny_rule ?_)
  first
    | simp only [notLongL room, Bool.false_eq_true, if_false]
    | refine PySem.W.KFB.if_not (notLongL room) ?_
  first | refine wpAny_bind (wpAny_pure ?_) | skip
  show wpAny _ _ (updateSeq l (fun zs => zs.extract 0 ((a : Int)).toNat ++ ys ++ zs.extract (max (a : Int) (c : Int)).toNat zs.size) >>= _) _ _ s
  rw [mx, Int.toNat_natCast]
  refine wpAny_bind (wpAny_updateSeq (hz := Nat.le_trans (Nat.le_add_right _ _) room) (_hz' := room1) e rfl ?_)
  refine wpAny_bind (wpAny_letGo ?_)
  first
    | exact wpAny_bind (wpAny_pure (wpAny_pure ⟨.none, rfl, wpAny_pure fin⟩))
    | exact wpAny_pure ⟨.none, rfl, wpAny_pure fin⟩
end
/-- where the bounds lie -/
def cutB (lo hi : Option Int) (n : Nat) : Option (Nat × Nat) :=
  if 0 ≤ (sliceBounds lo hi none n).1 ∧ (sliceBounds lo hi none n).1 ≤ (sliceBounds lo hi none n).2.1 ∧ (sliceBounds lo hi none n).2.1 ≤ n ∧ (sliceBounds lo hi none n).2.2 = 1 then some ((sliceBounds lo hi none n).1.toNat, (sliceBounds lo hi none n).2.1.toNat) else none
theorem cutB_is {lo hi : Option Int} {n a c : Nat} (h : cutB lo hi n = some (a, c)) : sliceBounds lo hi none n = ((a : Int), (c : Int), 1) ∧ a ≤ c ∧ c ≤ n := by
  unfold cutB at h
  obtain ⟨⟨h1, h2, h3, h4⟩, e⟩ := if_some h
  generalize sliceBounds lo hi none n = t at h1 h2 h3 h4 e
  obtain ⟨x, y, z⟩ := t
  simp only at h1 h2 h3 h4 e
  obtain ⟨rfl, rfl⟩ := Prod.mk.inj e
  subst h4
  exact ⟨by rw [Int.toNat_of_nonneg h1, Int.toNat_of_nonneg (Int.le_trans h1 h2)], by omega, by omega⟩
/-- x[lo:hi] = e, x one's own list -/
def sSetCut (i : Nat) (fl fh : Env → Option (Option Int)) (fa : Env → R D) : Env → RS := fun E => (fa E).bindS fun d E => match d, E[i]? with
  | .lst ys, some (.own b l) => (match (fl E).bind fun x => (fh E).bind fun y => cutB x y l.length with
    | some (a, c) => if l.length + ys.length ≤ 16777216 then .nx (E.set i (.own b (l.take a ++ ys ++ l.drop c))) else .stuck
    | none => .stuck)
  | _, _ => .stuck
def gSubCut (to : TE) (tl th : TO) (r : V → V → Option Int → Option Int → Hp → (Hp → Prop) → Prop) : TG := fun v σ H Q => to σ H fun x H1 => tl σ H1 fun l H2 => th σ H2 fun u H3 => r x v l u H3 fun H4 => Q σ H4
def rPut : V → V → Option Int → Option Int → Hp → (Hp → Prop) → Prop := fun x v lo hi H Q => ∃ (l b : Addr) (xs ys : List V) (a c : Nat), x = .ref l ∧ v = .ref b ∧ l ≠ b ∧ H l = some (.lst xs) ∧ H b = some (.lst ys) ∧ cutB lo hi xs.length = some (a, c) ∧ xs.length + ys.length ≤ sizeLine ∧ Q (upd H l (.lst (xs.take a ++ ys ++ xs.drop c)))
theorem pg_cut {X : Cx} {o : Expr} {lo hi : Option Expr} {to : TE} {tl th : TO} {p2 pos : Pos} (ho : PE X o to) (hl : PO X lo tl) (hh : PO X hi th)
    (ha : ∀ v, assign (.Subscript o (.Slice lo hi none p2) pos) X.env v = (do
      let ov ← holding [v] (eval o X.env)
      let iv ← holding [v, ov] (eval (.Slice lo hi none p2) X.env)
      standAt pos
      holding [v, ov, iv] (setItem ov iv v)
      release [iv, v, ov] []) := by intro _; rfl) : PG X (.Subscript o (.Slice lo hi none p2) pos) (gSubCut to tl th rPut) := by
  refine ⟨fun pins s σ H v u Q I r h => ?_⟩
  rw [ha]
  refine wpAny_bind (wpAny_holding (thn (ho.run pins s σ H _ I h) fun ov s1 ⟨x, H1, I1, r1, q1⟩ => ?_))
  refine wpAny_bind (wpAny_holding ?_)
  refine wpAny_Slice (thn (hl.run pins s1 σ H1 _ I1 q1) fun vl s2 ⟨y, H2, I2, pl, q2⟩ => thn (hh.run pins s2 σ H2 _ I2 q2) fun vu s3 ⟨z, H3, I3, pu, q3⟩ => ?_)
  rw [evalPart_none]
  refine wpAny_pure ?_
  have I4 : Inv X pins σ H3 { s3 with heap := s3.heap.push { cls := .type "slice", data := .fields #[vl, vu, .none] } } := I3.kept (t' := s3.toks) fun b ob q => Heap.get?_push_of_some _ q
  obtain ⟨l, b, xs, ys, a, c, rfl, rfl, hne, hl1, hb1, hcut, hz, q⟩ := q3
  cases (show ov = Value.ref l from r1)
  cases (show u = Value.ref b from r)
  obtain ⟨z1, its, n, rv, hlen, e⟩ := I4.lstM hl1
  obtain ⟨z2, its2, n2, rv2, hlen2, e2⟩ := I4.lstM hb1
  have hsz : its.toArray.size = xs.length := by rw [List.size_toArray]; exact hlen.symm
  have hsz2 : its2.toArray.size = ys.length := by rw [List.size_toArray]; exact hlen2.symm
  obtain ⟨bb, hac, hcn⟩ := cutB_is hcut
  refine wpAny_bind (wpAny_standAt (wpAny_bind (wpAny_holding ?_)))
  refine put_run (a := a) (c := c) e e2 hne (Heap.IsSliceOf.new ..) pl pu (by rw [hsz]; exact bb) hac (by rw [hsz, hsz2]; exact hz) (wpAny_release ⟨σ, _, ?_, q⟩)
  refine I4.lset (its' := its.take a ++ its2 ++ its.drop c) (t' := s3.toks) hl1 e ?_ (Vals.append (Vals.append (rv.take _) rv2) (rv.drop _)) ?_
  · exact splice_eq its its2 a c
  · rw [List.length_append, List.length_append, List.length_take, List.length_drop]; omega
theorem js_setCut {X : Cx} {W : WX} (i : Nat) {x : Str} {e : Expr} {lo hi : Option Expr} {p1 p2 tp pos : Pos} {fa : Env → R D} {fl fh : Env → Option (Option Int)} (h : JE X (pw W) e fa) (hl : JPq X lo fl) (hh : JPq X hi fh) (hN : X.N[i]? = some x := by rfl) (hv : Vis X.env.scope x := by first | exact Or.inl rfl | exact Or.inr (Or.inl rfl) | exact Or.inr (Or.inr rfl)) (hd : (x == ("__debug__" : Str)) = false := by decide)
    (hcd : (x == ("__classdict__" : Str)) = false := by decide)
    (ha : ∀ v, assign (.Subscript (.Name x p1) (.Slice lo hi none p2) tp) X.env v = (do
      let ov ← holding [v] (eval (.Name x p1) X.env)
      let iv ← holding [v, ov] (eval (.Slice lo hi none p2) X.env)
      standAt tp
      holding [v, ov, iv] (setItem ov iv v)
      release [iv, v, ov] []) := by intro _; rfl)
    (hs : swapsWithSole [.Subscript (.Name x p1) (.Slice lo hi none p2) tp] e pos.line X.env = pure false := by rfl) (hw : swappedStores [.Subscript (.Name x p1) (.Slice lo hi none p2) tp] e X.env = pure none := by rfl)
    (h1 : (assignEach [.Subscript (.Name x p1) (.Slice lo hi none p2) tp] X.env).map (·.2) = [assign (.Subscript (.Name x p1) (.Slice lo hi none p2) tp) X.env] := by rfl) :
    JS X W (.Assign [.Subscript (.Name x p1) (.Slice lo hi none p2) tp] e pos) (sSetCut i fl fh fa) := by
  obtain ⟨te, q1, s1⟩ := h
  obtain ⟨tl, q2, s2⟩ := hl
  obtain ⟨th, q3, s3⟩ := hh
  refine ⟨_, ps_asg q1 (pg_cut (pe_var hN hv hd hcd) q2 q3 ha) hs hw h1, fun Φ G H σ E D S hp => ?_⟩
  refine s1.goS S hp fun d E1 G1 H1 v _ x1 S1 r1 hp => ?_
  cases d with
  | lst ys =>
    cases ee : E1[i]? with
    | none => simp only [ee] at hp; exact hp.elim
    | some sl =>
      cases sl with
      | no => simp only [ee] at hp; exact hp.elim
      | val _ => simp only [ee] at hp; exact hp.elim
      | own b l =>
        simp only [ee] at hp
        cases hc : (fl E1).bind fun x => (fh E1).bind fun y => cutB x y l.length with
        | none => rw [hc] at hp; exact hp.elim
        | some ac =>
          obtain ⟨a, c⟩ := ac
          rw [hc] at hp
          simp only at hp
          by_cases cz : l.length + ys.length ≤ 16777216
          · rw [if_pos cz] at hp
            obtain ⟨lo', k1, hc⟩ := Option.bind_eq_some_iff.mp hc
            obtain ⟨hi', k2, hc⟩ := Option.bind_eq_some_iff.mp hc
            obtain ⟨w, hw', q, vs, rfl, h3, h4⟩ := S1.sl i _ ee
            refine ⟨.ref q, hw', ?_⟩
            refine s2 Φ G1 H1 σ E1 _ lo' S1 k1 fun G2 H2 e2 f2 S2 => ?_
            refine s3 Φ G2 H2 σ E1 _ hi' S2 k2 fun G3 H3 e3 f3 S3 => ?_
            obtain ⟨w2, hw2, q2', vs2, e5, h5, h6⟩ := S3.sl i _ ee
            rw [hw'] at hw2
            cases hw2
            cases e5
            cases r1 with
            | lst g1 g2 =>
              have g3 := S3.gh _ _ ((e2.trans e3) _ _ g1)
              obtain ⟨o1, o2, o3⟩ := S3.ow i b l q ee hw'
              refine ⟨q, _, vs2, _, a, c, rfl, rfl, fun z => ?_, h5, g3, by rw [h6.length]; exact hc, sz (by rw [h6.length, g2.length]; exact cz), ?_⟩
              · rw [z, (e2.trans e3) _ _ g1] at o1; cases o1
              · exact hp G3 _ σ (e2.trans e3) (S3.write ee hw' (((h6.take a).append (g2.mono (e2.trans e3))).append (h6.drop c)))
          · rw [if_neg cz] at hp; exact hp.elim
  | _ => exact hp.elim
/-- x.reverse(), x one's own list -/
def sRev (i : Nat) : Env → RS := fun E => match E[i]? with
  | some (.own b l) => .nx (E.set i (.own b l.reverse))
  | _ => .stuck
theorem js_rev {X : Cx} {W : WX} (i : Nat) {x : Str} {p2 apos cpos pos : Pos} (hN : X.N[i]? = some x := by rfl) (hv : Vis X.env.scope x := by first | exact Or.inl rfl | exact Or.inr (Or.inl rfl) | exact Or.inr (Or.inr rfl)) (hd : (x == ("__debug__" : Str)) = false := by decide)
    (hcd : (x == ("__classdict__" : Str)) = false := by decide) (hbase : attributeBase (.Name x p2) "reverse" X.env (eval (.Name x p2) X.env) = eval (.Name x p2) X.env := by rfl) (hline : (apos.endLine == cpos.line) = true := by rfl)
    (hsw : swapsWith (.Call (.Attribute (.Name x p2) "reverse" apos) [] [] cpos) none pos.line X.env = pure false := by rfl) :
    JS X W (.Expr (.Call (.Attribute (.Name x p2) "reverse" apos) [] [] cpos) pos) (sRev i) := by
  refine ⟨_, ps_expr (pe_bm0 PySem.F.plainAttrs_list PySem.F.slot_list_reverse PySem.F.type_list_reverse mt_reverse (pe_var hN hv hd hcd) hbase hline) hsw, fun Φ G H σ E D S hp => ?_⟩
  unfold sRev at hp
  cases e : E[i]? with
  | none => rw [e] at hp; exact hp.elim
  | some s =>
    rw [e] at hp
    cases s with
    | no => exact hp.elim
    | val d => exact hp.elim
    | own b l =>
      obtain ⟨x, hx, q, vs, rfl, h1, h2⟩ := S.sl i _ e
      exact ⟨.ref q, hx, .inl ⟨rfl, vs, SqL.of h1⟩, q, vs, rfl, rfl, h1, hp G _ σ (Ex.refl G) (S.write e hx h2.reverse)⟩
end J

namespace J
open PySem PySem.Spec PyProof.Rows L2

/-! ### [f for g in ds if t for g1 in es if t1] -/
def lcD2 (vs : List Nat) (g : D → Env → Option Env) (t : Env → R Bool) (fi1 : Env → R (List D)) (vs1 : List Nat) (g1 : D → Env → Option Env) (t1 : Env → R Bool) (f : Env → R D) : List D → List D → Env → R (List D)
  | [], acc, E => .ok acc E
  | d :: ds, acc, E => match g d (wipeE vs E) with
    | none => .stuck
    | some E1 => match t E1 with
      | .ok true E2 => (match fi1 E2 with
        | .ok es E3 => (match lcD vs1 g1 t1 f es acc E3 with
          | .ok acc' E4 => lcD2 vs g t fi1 vs1 g1 t1 f ds acc' (wipeE vs E4)
          | _ => .stuck)
        | _ => .stuck)
      | .ok false E2 => lcD2 vs g t fi1 vs1 g1 t1 f ds acc (wipeE vs E2)
      | _ => .stuck
def fLc2 (vs : List Nat) (fi : Env → R (List D)) (g : D → Env → Option Env) (t : Env → R Bool) (fi1 : Env → R (List D)) (vs1 : List Nat) (g1 : D → Env → Option Env) (t1 : Env → R Bool) (f : Env → R D) : Env → R (List D) := fun E => (fi E).bind fun ds E => lcD2 vs g t fi1 vs1 g1 t1 f ds [] E
structure Lc2W (K : PySem.W.Frag) (W : WX) (Φ : Fr) (G1 : Hp) (σ : St) (P : Addr) (Q : V → Hp → Prop) (L : List D → List D → Env → R (List D)) (ds : List D) (i m : Nat) (H : Hp) : Prop where
  le : i ≤ ds.length
  m : m = ds.length - i
  at' : ∃ G E xs acc, Ex G1 G ∧ Sat K Φ G H σ E ∧ H P = some (.lst xs) ∧ RpA K G xs acc ∧ G P = none ∧ Φ.F P = none ∧ NotOwn σ E P ∧ Post K W (relL K) Φ G σ (L (ds.drop i) acc E) Q
theorem NotOwn.unwipe {σ σ' : St} {E : Env} {p : Addr} {vs : List Nat} (n : NotOwn σ' E p) (h : L2.wipe σ' vs = L2.wipe σ vs) : NotOwn σ (wipeE vs E) p := fun i b l h1 h2 => by
  have n1 := n.wipe vs
  rw [h] at n1
  have hi : i ∉ vs := fun z => by
    rcases wipeE_in (E := E) z with q | q
    · rw [q] at h1; cases h1
    · rw [q] at h1; cases h1
  exact n1 i b l h1 (by rw [wipe_out hi]; exact h2)
theorem lc2_snd {K : PySem.W.Frag} {W : WJ} {vs is vs1 is1 : List Nat} {fi fi1 : Env → R (List D)} {g g1 : D → Env → Option Env} {t t1 : Env → R Bool} {f : Env → R D} {wi wi1 : TI} {tg tg1 : TG} {tt tt1 : TT} {te : TE} (hi : Snd K W (relW K) wi fi) (hg : GGo K is g tg) (hvs : ∀ i ∈ is, i ∈ vs) (ht : Snd K V0 relT tt t)
    (hi1 : Snd K V0 (relW K) wi1 fi1) (hg1 : GGo K is1 g1 tg1) (hvs1 : ∀ i ∈ is1, i ∈ vs1) (ht1 : Snd K V0 relT tt1 t1) (he : Snd K V0 (relE K) te f) : Snd K W (relL K) (tLc2 wi tg tt wi1 tg1 tt1 te vs vs1) (fLc2 vs fi g t fi1 vs1 g1 t1 f) := by
  intro Φ G H σ E Q S hP
  refine hi.go S hP fun ds E1 G1 H1 J _ e1 S1 wk hP => ?_
  intro P hPn
  refine ⟨Lc2W K W.w Φ G1 σ P Q (lcD2 vs g t fi1 vs1 g1 t1 f) ds, ⟨_, Nat.zero_le _, rfl, G1, E1, [], [], Ex.refl G1, S1.newH hPn, upd_same, .nil, S1.gh.back hPn, S1.fh.back hPn, S1.notOwn hPn, hP⟩, fun i m H2 w => ?_⟩
  obtain ⟨hle, rfl, G2, E2, xs, acc, x2, S2, hD, ra, gD, fD, nD, hP2⟩ := w
  obtain ⟨ws, wg⟩ := wk Φ G2 H2 σ E2 x2 S2 i hle
  by_cases hi' : i = ds.length
  · refine .inl ⟨ws hi', ?_⟩
    rw [hi', List.drop_length] at hP2
    exact hP2 G2 H2 (.ref P) (Ex.refl G2) S2 ⟨P, xs, rfl, hD, ra, gD, fD, nD⟩
  · have hlt : i < ds.length := by omega
    have hd : ds[i]? = some ds[i] := List.getElem?_eq_getElem hlt
    rw [List.drop_eq_getElem_cons hlt] at hP2
    obtain ⟨go, _⟩ := wg _ hd
    refine .inr ⟨go, fun H' => ∃ m', m' < ds.length - i ∧ Lc2W K W.w Φ G1 σ P Q (lcD2 vs g t fi1 vs1 g1 t1 f) ds (i + 1) m' H', fun H' h => h, fun x H' hy => ?_⟩
    have S2l := S2.lk hD gD nD
    obtain ⟨_, wg2⟩ := wk (Φ.lk P xs) G2 H2 σ E2 x2 S2l i hle
    obtain ⟨G3, x3, S3, r3⟩ := (wg2 _ hd).2 x H' hy
    simp only [lcD2] at hP2
    cases hgd : g ds[i] (wipeE vs E2) with
    | none => rw [hgd] at hP2; exact hP2.elim
    | some E3 =>
      rw [hgd] at hP2
      refine hg (Φ.lk P xs) G3 H' _ (wipeE vs E2) x _ E3 _ (S3.wipe vs) r3 hgd fun G4 H4 σ4 x4 S4 c4 => ?_
      have hw := wipe_of c4 hvs
      refine ⟨hw, ?_⟩
      refine ht (Φ.lk P xs) G4 H4 σ4 E3 _ S4.pw ?_
      cases hte : t E3 with
      | exc x E5 => simp only [hte] at hP2; exact hP2.elim
      | stuck => simp only [hte] at hP2; exact hP2.elim
      | ok b E5 =>
        simp only [hte] at hP2
        intro G5 H5 b' x5 S5 hb
        have hb' : b = b' := hb
        subst hb'
        have again : ∀ {ys : List V} {ac : List D} {G6 : Hp} {H6 : Hp} {E6 : Env}, Ex G2 G6 → Sat K Φ G6 H6 σ (wipeE vs E6) → H6 P = some (.lst ys) → RpA K G6 ys ac → G6 P = none → NotOwn σ (wipeE vs E6) P → Post K W.w (relL K) Φ G2 σ (lcD2 vs g t fi1 vs1 g1 t1 f (ds.drop (i + 1)) ac (wipeE vs E6)) Q →
            ∃ m', m' < ds.length - i ∧ Lc2W K W.w Φ G1 σ P Q (lcD2 vs g t fi1 vs1 g1 t1 f) ds (i + 1) m' H6 := fun x6 S6 h6 r6 g6 n6 p6 => ⟨ds.length - (i + 1), by omega, by omega, rfl, _, _, _, _, x2.trans x6, S6, h6, r6, g6, fD, n6, Post.mono x6 p6⟩
        cases b with
        | false =>
          refine iteF ?_
          obtain ⟨U1, U2, U3, U4⟩ := S5.unlk fD
          exact again (x3.trans (x4.trans x5)) (U1.unwipe hw) U2 (ra.mono (x3.trans (x4.trans x5))) U3 (U4.unwipe hw) hP2
        | true =>
          refine iteT ?_
          refine hi1 (Φ.lk P xs) G5 H5 σ4 E5 _ S5.pw ?_
          cases hfi : fi1 E5 with
          | exc x E6 => simp only [hfi] at hP2; exact hP2.elim
          | stuck => simp only [hfi] at hP2; exact hP2.elim
          | ok es E6 =>
            simp only [hfi] at hP2
            intro G6 H6 J1 x6 S6 wk1
            obtain ⟨U1, U2, U3, U4⟩ := S6.unlk fD
            have xx := x3.trans (x4.trans (x5.trans x6))
            refine ⟨_, ⟨_, Nat.zero_le _, rfl, G6, E6, xs, acc, Ex.refl G6, U1, U2, ra.mono xx, U3, fD, U4, ?_⟩, lc_loop (W := W0) (P := P) (vs := vs1) (t := t1) (f := f) (Fin := fun H' => ∃ m', m' < ds.length - i ∧ Lc2W K W.w Φ G1 σ P Q (lcD2 vs g t fi1 vs1 g1 t1 f) ds (i + 1) m' H') wk1 hg1 hvs1 ht1 he⟩
            show Post K W0 (relL K) Φ G6 σ4 (lcD vs1 g1 t1 f es acc E6) _
            cases hl : lcD vs1 g1 t1 f es acc E6 with
            | exc x E7 => simp only [hl] at hP2; exact hP2.elim
            | stuck => simp only [hl] at hP2; exact hP2.elim
            | ok ac E7 =>
              simp only [hl] at hP2
              intro G7 H7 v x7 S7 rl hv
              obtain ⟨p, ys, rfl, l1, l2, l3, l4, l5⟩ := rl
              cases hv
              exact again (xx.trans x7) (S7.unwipe hw) l1 l2 l3 (l5.unwipe hw) hP2
section
variable {X : Cx} {elt tg iter tg1 iter1 : Expr} {ifs ifs1 : List Expr} {scope : Scope} {pos : Pos} {is is1 : List Nat} {fi fi1 : Env → R (List D)} {g g1 : D → Env → Option Env} {t t1 : Env → R Bool} {f : Env → R D}
theorem jl_lc2 {W : WJ} (own : List (Str × Nat)) (vs1 : List Nat) (hc : X.calm = true) (hN : X.N.Nodup) (hi : JI X W tg iter fi) (ok : BlkOk X.N X.env.scope scope own) (hv : ∀ i ∈ vs1, i ∈ own.map (·.2))
    (hg : ∀ (s : Shared) (H : Hp) (C : Addr) (cl : List (Str × Addr)) (fp : List Addr), JG (X.blk s H scope (compEnvC scope cl C X.env) fp) tg is g) (hvs : ∀ i ∈ is, i ∈ own.map (·.2)) (ht : ∀ (s : Shared) (H : Hp) (C : Addr) (cl : List (Str × Addr)) (fp : List Addr), JTs (X.blk s H scope (compEnvC scope cl C X.env) fp) V0 ifs t)
    (hi1 : ∀ (s : Shared) (H : Hp) (C : Addr) (cl : List (Str × Addr)) (fp : List Addr), JI (X.blk s H scope (compEnvC scope cl C X.env) fp) V0 tg1 iter1 fi1)
    (hg1 : ∀ (s : Shared) (H : Hp) (C : Addr) (cl : List (Str × Addr)) (fp : List Addr), JG (X.blk s H scope (compEnvC scope cl C X.env) fp) tg1 is1 g1) (hvs1 : ∀ i ∈ is1, i ∈ vs1) (ht1 : ∀ (s : Shared) (H : Hp) (C : Addr) (cl : List (Str × Addr)) (fp : List Addr), JTs (X.blk s H scope (compEnvC scope cl C X.env) fp) V0 ifs1 t1)
    (he : ∀ (s : Shared) (H : Hp) (C : Addr) (cl : List (Str × Addr)) (fp : List Addr), JE (X.blk s H scope (compEnvC scope cl C X.env) fp) V0 elt f) (hs : ∀ x, foldedSetIterable iter X.env x = pure x := by intro _; rfl) (hs1 : ∀ env x, foldedSetIterable iter1 env x = pure x := by intro _ _; rfl) :
    JL X W (.ListComp elt [⟨tg, iter, ifs, 0⟩, ⟨tg1, iter1, ifs1, 0⟩] scope pos) (fLc2 (own.map (·.2)) fi g t fi1 vs1 g1 t1 f) := by
  obtain ⟨wi, p1, s1⟩ := hi
  exact ⟨_, pe_lc2 hc hN p1 ok hv (fun s H C cl fp => (hg s H C cl fp).can) (fun s H C cl fp => (ht s H C cl fp).can) (fun s H C cl fp => (hi1 s H C cl fp).can) (fun s H C cl fp => (hg1 s H C cl fp).can) (fun s H C cl fp => (ht1 s H C cl fp).can) (fun s H C cl fp => (he s H C cl fp).can) hs hs1,
    lc2_snd s1 canG.go hvs canE.snd canE.snd canG.go hvs1 canE.snd canE.snd⟩
theorem js_setLc2 {W : WX} (i : Nat) {y : Str} {py spos : Pos} (own : List (Str × Nat)) (vs1 : List Nat) (hc : X.calm = true) (hN : X.N.Nodup) (hi : JI X (pw W) tg iter fi) (ok : BlkOk X.N X.env.scope scope own) (hv : ∀ i ∈ vs1, i ∈ own.map (·.2))
    (hg : ∀ (s : Shared) (H : Hp) (C : Addr) (cl : List (Str × Addr)) (fp : List Addr), JG (X.blk s H scope (compEnvC scope cl C X.env) fp) tg is g) (hvs : ∀ i ∈ is, i ∈ own.map (·.2)) (ht : ∀ (s : Shared) (H : Hp) (C : Addr) (cl : List (Str × Addr)) (fp : List Addr), JTs (X.blk s H scope (compEnvC scope cl C X.env) fp) V0 ifs t)
    (hi1 : ∀ (s : Shared) (H : Hp) (C : Addr) (cl : List (Str × Addr)) (fp : List Addr), JI (X.blk s H scope (compEnvC scope cl C X.env) fp) V0 tg1 iter1 fi1)
    (hg1 : ∀ (s : Shared) (H : Hp) (C : Addr) (cl : List (Str × Addr)) (fp : List Addr), JG (X.blk s H scope (compEnvC scope cl C X.env) fp) tg1 is1 g1) (hvs1 : ∀ i ∈ is1, i ∈ vs1) (ht1 : ∀ (s : Shared) (H : Hp) (C : Addr) (cl : List (Str × Addr)) (fp : List Addr), JTs (X.blk s H scope (compEnvC scope cl C X.env) fp) V0 ifs1 t1)
    (he : ∀ (s : Shared) (H : Hp) (C : Addr) (cl : List (Str × Addr)) (fp : List Addr), JE (X.blk s H scope (compEnvC scope cl C X.env) fp) V0 elt f)
    (hy : X.N[i]? = some y := by rfl) (hyl : X.env.scope.names.lookup y = some .local := by rfl) (hk : X.env.scope.kind = .function := by rfl) (hl3 : (py.line == pos.line) = true := by rfl)
    (ha : (scope.names.any fun (n, k) => n == y && (k == .local || k == .cell)) = false := by decide +kernel) (hs : ∀ x, foldedSetIterable iter X.env x = pure x := by intro _; rfl) (hs1 : ∀ env x, foldedSetIterable iter1 env x = pure x := by intro _ _; rfl) :
    JS X W (.Assign [.Name y py] (.ListComp elt [⟨tg, iter, ifs, 0⟩, ⟨tg1, iter1, ifs1, 0⟩] scope pos) spos) (sSetL i (fLc2 (own.map (·.2)) fi g t fi1 vs1 g1 t1 f)) := by
  obtain ⟨wi, p1, s1⟩ := hi
  refine ⟨_, ps_setLc2 (g := canG X.K is g) (tt := canE X.K V0 relT t) (wi1 := canE X.K V0 (relW X.K) fi1) (g1 := canG X.K is1 g1) (tt1 := canE X.K V0 relT t1) (te := canE X.K V0 (relE X.K) f) hc hN hy hyl (sw_true hk hyl hl3 ha) p1 ok hv (fun s H C cl fp => (hg s H C cl fp).can) (fun s H C cl fp => (ht s H C cl fp).can) (fun s H C cl fp => (hi1 s H C cl fp).can)
    (fun s H C cl fp => (hg1 s H C cl fp).can) (fun s H C cl fp => (ht1 s H C cl fp).can) (fun s H C cl fp => (he s H C cl fp).can) hs hs1, fun Φ G H σ E D S hp => ?_⟩
  have sn : Snd X.K (pw W) (relL X.K) _ (fLc2 (own.map (·.2)) fi g t fi1 vs1 g1 t1 f) := lc2_snd s1 (canG.go (K := X.K) (is := is) (g := g)) hvs (canE.snd (K := X.K) (W := V0) (rel := relT) (f := t)) (canE.snd (K := X.K) (W := V0) (rel := relW X.K) (f := fi1)) (canG.go (K := X.K) (is := is1) (g := g1)) hvs1 (canE.snd (K := X.K) (W := V0) (rel := relT) (f := t1)) (canE.snd (K := X.K) (W := V0) (rel := relE X.K) (f := f))
  refine sn.goS S hp fun l E' G' H' v _ e' S' r hp => ?_
  obtain ⟨q, vs, rfl, h1, h2, h3, h4, h5⟩ := r
  exact hp G' H' _ (Ex.refl G') (S'.setO h1 h2 h3 h4 h5)
end
end J

namespace J
open PySem PySem.Spec PyProof.Rows L2

/-! ### x <= y of ints and tuples of such -/
mutual
def numP : PyData → Bool
  | .int _ => true
  | .tuple xs => numPs xs
  | _ => false
def numPs : List PyData → Bool
  | [] => true
  | x :: xs => numP x && numPs xs
end
mutual
def leP : PyData → PyData → Bool
  | .int i, y => match y with | .int j => decide (i ≤ j) | _ => false
  | .tuple xs, y => match y with | .tuple ys => lePs xs ys | _ => false
  | _, _ => false
def lePs : List PyData → List PyData → Bool
  | [], _ => true
  | x :: xs, ys => match ys with
    | [] => false
    | y :: ys => if PyData.eqv x y = true then lePs xs ys else leP x y
end
theorem lexAt_up {e r : Nat → Bool} {z : Bool} : ∀ (k i : Nat), Ob.lexAt (fun j => e (j + 1)) (fun j => r (j + 1)) z i k = Ob.lexAt e r z (i + 1) k
  | 0, i => rfl
  | k + 1, i => by rw [Ob.lexAt_succ, Ob.lexAt_succ, lexAt_up k (i + 1)]
theorem lePs_lex : ∀ (xs ys : List PyData), lePs xs ys = Ob.lexAt (fun j => PyData.eqv (xs.getD j .none) (ys.getD j .none)) (fun j => leP (xs.getD j .none) (ys.getD j .none)) (decide (xs.length ≤ ys.length)) 0 (min xs.length ys.length)
  | [], ys => by simp [lePs, Ob.lexAt]
  | x :: xs, [] => by simp [lePs, Ob.lexAt]
  | x :: xs, y :: ys => by
    have h := lePs_lex xs ys
    have hm : min (x :: xs).length (y :: ys).length = min xs.length ys.length + 1 := by simp only [List.length_cons]; omega
    have hd : decide ((x :: xs).length ≤ (y :: ys).length) = decide (xs.length ≤ ys.length) := by simp
    rw [hm, hd, Ob.lexAt_succ, lePs, ← lexAt_up, h]
    rfl
open PySem.W in
mutual
theorem rc_le : ∀ (x y : PyData) (A : Around) (s : Shared) (a b : Value) (as bs : List Addr), Reads s.heap a x as → Reads s.heap b y bs → alike x y = true → numP x = true → A.units + min x.depth y.depth < cLine → Ob.RcOp .LtE A s a b (leP x y)
  | .int i, y, A, s, a, b, as, bs, ra, rb, h, hn, hu => by
    cases y with
    | int j => cases ra; cases rb; exact Ob.RcOp.le_int _ _ _ _
    | _ => simp [alike] at h
  | .tuple xs, y, A, s, a, b, as, bs, ra, rb, h, hn, hu => by
    cases y with
    | tuple ys =>
      have hal : alikeAll xs ys = true := by simpa [alike] using h
      have hns : numPs xs = true := by simpa [numP] using hn
      cases ra with
      | @tuple l o vs n _ as₁ h1 h2 h3 h4 =>
        cases rb with
        | @tuple l' o' vs' n' _ bs₁ k1 k2 k3 k4 =>
          have n1 : vs.size = xs.length := by simpa using SeqAt.ReadsAll.length _ _ _ h4
          have n2 : vs'.size = ys.length := by simpa using SeqAt.ReadsAll.length _ _ _ k4
          have e : leP (.tuple xs) (.tuple ys) = Ob.lexAt (fun j => PyData.eqv (xs.getD j .none) (ys.getD j .none)) (fun j => leP (xs.getD j .none) (ys.getD j .none)) (decide (vs.size ≤ vs'.size)) 0 (min vs.size vs'.size) := by rw [n1, n2, ← lePs_lex]; rfl
          rw [e]
          refine Ob.RcOp.tuples_le ⟨_, h1, h2, _, h3⟩ ⟨_, k1, k2, _, k3⟩ (SeqAt.room_here hu) (fun j j1 j2 => ?_) fun j j1 j2 hj => ?_
          · have q := eqAt_alikeAll xs ys A.in1 s vs.toList vs'.toList _ _ h4 k4 hal (SeqAt.room_in hu) j (by simpa using j1) (by simpa using j2)
            have e3 : SeqAt.pairEq xs ys j = PyData.eqv (xs.getD j .none) (ys.getD j .none) := rfl
            rw [← e3]
            simpa using q
          · have q := rc_les xs ys A.in1 s vs.toList vs'.toList _ _ h4 k4 hal hns (SeqAt.room_in hu) j (by simpa using j1) (by simpa using j2)
            simpa using q
    | _ => simp [alike] at h
  | .none, y, A, s, a, b, as, bs, ra, rb, h, hn, hu => by simp [numP] at hn
  | .bool _, y, A, s, a, b, as, bs, ra, rb, h, hn, hu => by simp [numP] at hn
  | .str _, y, A, s, a, b, as, bs, ra, rb, h, hn, hu => by simp [numP] at hn
  | .list _, y, A, s, a, b, as, bs, ra, rb, h, hn, hu => by simp [numP] at hn
  | .dict _, y, A, s, a, b, as, bs, ra, rb, h, hn, hu => by simp [numP] at hn
theorem rc_les : ∀ (xs ys : List PyData) (A : Around) (s : Shared) (vs ws : List Value) (as bs : List Addr), ReadsAll s.heap vs xs as → ReadsAll s.heap ws ys bs → alikeAll xs ys = true → numPs xs = true → A.units + min (PyData.depthAll xs) (PyData.depthAll ys) < cLine →
    ∀ j (h1 : j < vs.length) (h2 : j < ws.length), Ob.RcOp .LtE A s vs[j] ws[j] (leP (xs.getD j .none) (ys.getD j .none))
  | [], _, _, _, _, _, _, _, ra, _, _, _, _, j, h1, _ => by cases ra; exact absurd h1 (Nat.not_lt_zero _)
  | _ :: _, [], _, _, _, _, _, _, _, rb, _, _, _, j, _, h2 => by cases rb; exact absurd h2 (Nat.not_lt_zero _)
  | x :: xs, y :: ys, A, s, _, _, _, _, ra, rb, h, hn, hu, j, h1, h2 => by
    have hn' : numP x = true ∧ numPs xs = true := by simpa [numPs] using hn
    cases ra with
    | cons r rs =>
      cases rb with
      | cons r' rs' =>
        cases j with
        | zero => exact rc_le x y A s _ _ _ _ r r' (alike_all_cons h).1 hn'.1 (SeqAt.room_head hu)
        | succ j => exact rc_les xs ys A s _ _ _ _ rs rs' (alike_all_cons h).2 hn'.2 (SeqAt.room_tail hu) j (Nat.lt_of_succ_lt_succ h1) (Nat.lt_of_succ_lt_succ h2)
end
abbrev rLeP (K : PySem.W.Frag) : R2 := fun x y H Q => ∃ d e, Dp K H x d ∧ Dp K H y e ∧ PySem.W.alike d e = true ∧ numP d = true ∧ d.depth ≤ 60 ∧ Q (.bl (leP d e)) H
theorem op_leP {X : Cx} (hu : X.A.units + 64 < cLine) : OpR X (compareOp .LtE) (rLeP X.K) := by
  intro pins s σ H x y v u Q I rx ry h
  obtain ⟨d, e, hd, he, ha, hn, hz, q⟩ := h
  obtain ⟨as, r1⟩ := Dp.reads I d x v hd rx
  obtain ⟨bs, r2⟩ := Dp.reads I e y u he ry
  have R := rc_le d e X.A s v u as bs r1 r2 ha hn (by omega)
  exact R X.prog X.w X.xe (EP X pins σ Q) ⟨.bl _, H, I, rfl, q⟩
def gLeP : D → D → Option D := fun a b => if (plain a && plain b && PySem.W.alike (toPy a) (toPy b) && numP (toPy a) && decide ((toPy a).depth ≤ 60)) = true then some (.bl (leP (toPy a) (toPy b))) else none
theorem opS_leP {K : PySem.W.Frag} : OpS K (rLeP K) gLeP := by
  intro Φ G H σ E x y a b d Q S ha hb hd k
  obtain ⟨c, rfl⟩ := if_some hd
  simp only [Bool.and_eq_true, decide_eq_true_eq] at c
  obtain ⟨⟨⟨⟨c1, c2⟩, c3⟩, c4⟩, c5⟩ := c
  exact ⟨_, _, ha.dp c1 S.gh, hb.dp c2 S.gh, c3, c4, c5, k G H _ (Ex.refl G) (Ex.refl H) S (.bl _)⟩
end J

namespace J
open PySem PySem.Spec PyProof.Rows L2

/-! ### the head's facts: own exception classes too -/
def oexB (K : PySem.W.Frag) (C : Addr) : Bool := match K.lookup C with
  | some ⟨.type "type", _, .cls cd, sl⟩ => (match cd.mro, sl.toList with
    | .ref C' :: bm, [_, _, _, _, some (.builtin n), _] => C' == C && (n == "ValueError.__new__" && (!cd.hasDel && (cd.hasDict && PySem.HandSPX.refsVE bm)))
    | _, _ => false)
  | _ => false
theorem oexB_ok {K : PySem.W.Frag} {C : Addr} (h : oexB K C = true) : ∃ nm q N bs bm sn sub ab col dd k0 k1 k2 k3 k5, K.lookup C = some (excClassObj nm q C N bs bm true sn sub ab col dd k0 k1 k2 k3 k5 "ValueError.__new__") ∧ PySem.HandSPX.refsVE bm = true := by
  unfold oexB at h
  split at h
  · rename_i dd cd sl ho
    split at h
    · rename_i C' bm k0 k1 k2 k3 n k5 hm hs
      simp only [Bool.and_eq_true, beq_iff_eq, Bool.not_eq_true'] at h
      obtain ⟨rfl, rfl, hdel, hdct, hbm⟩ := h
      obtain ⟨nm, bs, mro, ns, qn, hd, sn, sub, ab, col, del⟩ := cd
      dsimp only at hm hdel hdct
      subst hm hdel hdct
      obtain ⟨l⟩ := sl
      simp only at hs
      subst hs
      exact ⟨nm, qn, ns, bs, bm, sn, sub, ab, col, dd, k0, k1, k2, k3, k5, ho, hbm⟩
    · cases h
  · cases h
inductive Cn where
  | own (c : Str)
  | ty (t : String)
def Cn.v (K : PySem.W.Frag) : Cn → Value
  | .own c => .ref (He.ga K c)
  | .ty t => .type t
inductive Fb where
  | any
  | exc (c : Str)
  | sup (c : Str)
  | noat (c f : Str)
  | exm (a b : Str) (r : Bool)
  | kit1 (a : Str) (c : Cn) (r : Bool)
  | kitN (a : Str) (cs : List Cn) (r : Bool)
def excB (K : PySem.W.Frag) (C : Addr) : Bool := oexB K C && (He.eqO (PySem.W.findIn K (.ref C) "__setattr__") (some (some (.builtin "object.__setattr__"))) && (decide (PySem.W.subIn K (.ref C) (.type "BaseException") = some true) && (decide (PySem.W.typeIn K (.ref C) = some (.type "type")) && (PySem.W.keepIn K (.ref C) &&
  (He.eqO (PySem.W.findIn K (.ref C) "__getattribute__") (some (some (.builtin "BaseException.__getattribute__"))) && (He.eqO (PySem.W.findIn K (.ref C) "__getattr__") (some none) && (PySem.W.hasDictIn K C && (He.eqO (PySem.W.findIn K (.ref C) "__class__") (some (some (.builtin "object.__class__"))) &&
  (He.eqO (PySem.W.specialIn K (.builtin "object.__class__") "__get__") (some (some (.builtin "getset_descriptor.__get__"))) && (decide (PySem.W.takesIn K (.builtin "object.__class__") = some true) && decide (PySem.W.mroIn K C (.type "object") = some true)))))))))))
def supB (K : PySem.W.Frag) (C : Addr) : Bool := He.eqO (PySem.W.ks_superIn K C C "__init__") (some (some (.builtin "ValueError.__init__"))) && (decide (PySem.W.subIn K (.ref C) (.type "ValueError") = some true) && (decide (PySem.W.mroIn K C (.ref C) = some true) &&
  (He.eqO (PySem.W.findIn K (.ref C) "__init__") (some (some (.ref (He.ma K C "__init__")))) && decide (PySem.W.typeIn K (.ref (He.ma K C "__init__")) = some (.type "function")))))
def Fb.ok (K : PySem.W.Frag) : Fb → Bool
  | .any => He.eqO (PySem.W.nsIn K PySem.cStatics "thirdparty.any") (some none)
  | .exc c => excB K (He.ga K c)
  | .sup c => supB K (He.ga K c)
  | .noat c f => He.eqO (PySem.W.findIn K (.ref (He.ga K c)) f) (some none)
  | .exm a b r => decide (PySem.W.exmOne K (.ref (He.ga K a)) (.ref (He.ga K b)) = some r)
  | .kit1 a c r => decide (PySem.W.kitOne K (.ref (He.ga K a)) (c.v K) = some r)
  | .kitN a cs r => decide (PySem.W.kitAny K (.ref (He.ga K a)) (cs.map (Cn.v K)) = some r)
section
variable {K : PySem.W.Frag} {C : Addr}
theorem excB_oex (h : excB K C = true) : OexC K C := by
  unfold excB at h
  simp only [Bool.and_eq_true] at h
  obtain ⟨h1, h2, h3, h4, h5, _⟩ := h
  exact ⟨oexB_ok h1, He.eqO_ok h2, of_decide_eq_true h3, of_decide_eq_true h4, h5⟩
theorem excB_exc (h : excB K C = true) : ExcC K C := by
  unfold excB at h
  simp only [Bool.and_eq_true] at h
  obtain ⟨h1, h2, h3, h4, h5, h6, h7, h8, h9, h10, h11, h12⟩ := h
  exact ⟨He.eqO_ok h6, He.eqO_ok h7, of_decide_eq_true h3, h8, He.eqO_ok h9, He.eqO_ok h10, of_decide_eq_true h11, of_decide_eq_true h12⟩
theorem excB_xf (h : excB K C = true) : XfC K C := by
  have T := excB_exc h
  exact ⟨T.hg, T.hk, T.hs, T.hd⟩
end

/-! ### an __init__ that closes over __class__ -/
structure DefS where
  c : Str
  name : Str
  qual : Str
  params : Arguments
  body : List Stmt
  scope : Scope
  file : Str
abbrev FnS : Type := Option (Str × Str × Arguments × FuncBody × Scope × Addr × List Str × Addr)
def fnS (K : PySem.W.Frag) (c : Str) : FnS := match K.lookup (He.ma K (He.ga K c) "__init__") with
  | some ⟨_, _, .func fd, _⟩ => some (fd.name, fd.qualname, fd.params, fd.body, fd.scope, fd.globals, fd.closure.map (·.1), fd.builtins)
  | _ => none
def DefS.val (d : DefS) : FnS := some (d.name, d.qual, d.params, .stmts d.body, d.scope, mainGlobals, ["__class__"], builtinsNs)
def cellB (K : PySem.W.Frag) (C : Addr) (cl : List (Str × Addr)) : Bool := match cl with
  | [(_, cc)] => (match K.lookup cc with
    | some ⟨_, _, .cell (some (.ref D)), _⟩ => decide (D = C)
    | _ => false)
  | _ => false
def fileB (K : PySem.W.Frag) (file : Str) (cd : Value) : Bool := match cd with
  | .ref a => (match K.lookup a with
    | some ⟨_, _, Data.fields vs, _⟩ => (match vs[2]? with
      | some (Value.str f _) => (file : Str) == f
      | _ => false)
    | _ => false)
  | _ => false
def noneB : Value → Bool
  | .none => true
  | _ => false
def DefS.ok (K : PySem.W.Frag) (d : DefS) : Bool := match K.lookup (He.ma K (He.ga K d.c) "__init__") with
  | some ⟨_, _, .func fd, _⟩ => PySem.W.codeIn K fd.code d.qual && (cellB K (He.ga K d.c) fd.closure && (fileB K d.file fd.code && noneB fd.defaults))
  | _ => false
structure FunS (K : PySem.W.Frag) (d : DefS) (f : Addr) (fd : FuncData) : Prop where
  ex : ∃ (oc : Value) (od : Option Addr) (kV doc pm ct cl : Value) (an cld : Option Addr) (cda cc : Addr) (osl csl : Array (Option Value)) (ccl : Value) (cdd : Option Addr) (vs : Array Value) (ccs : Array (Option Value)) (file : Str) (tf : Tok),
    fd = PySem.W.ksFn d.name d.qual d.params d.body d.scope .none kV doc pm an (.ref cda) ct cc ∧ K.lookup f = some ⟨oc, od, .func fd, osl⟩ ∧ PySem.W.codeIn K (.ref cda) d.qual = true ∧ K.lookup cc = some ⟨cl, cld, .cell (some (.ref (He.ga K d.c))), csl⟩ ∧
      K.lookup cda = some ⟨ccl, cdd, .fields vs, ccs⟩ ∧ vs[2]? = some (.str file tf) ∧ ((d.file : Str) == file) = true
theorem DefS.funS {K : PySem.W.Frag} {d : DefS} (e : fnS K d.c = d.val) (c : d.ok K = true) : ∃ fd, FunS K d (He.ma K (He.ga K d.c) "__init__") fd := by
  unfold DefS.ok at c
  unfold fnS at e
  cases q : K.lookup (He.ma K (He.ga K d.c) "__init__") with
  | none => rw [q] at c; cases c
  | some o =>
    obtain ⟨oc, od, dt, osl⟩ := o
    rw [q] at c e
    cases dt with
    | func fd =>
      obtain ⟨n1, n2, n3, n4, n5, n6, n7, n8, n9, n10, n11, n12, n13, n14, n15⟩ := fd
      have e2 : (some (n1, n2, n3, n4, n5, n6, n7.map (·.1), n15) : FnS) = (some (d.name, d.qual, d.params, .stmts d.body, d.scope, mainGlobals, ["__class__"], builtinsNs) : FnS) := e
      simp only [Option.some.injEq, Prod.mk.injEq] at e2
      obtain ⟨h1, h2, h3, h4, h5, h6, h7, h8⟩ := e2
      subst h1 h2 h3 h4 h5 h6 h8
      have c3 : (PySem.W.codeIn K n13 d.qual && (cellB K (He.ga K d.c) n7 && (fileB K d.file n13 && noneB n8))) = true := c
      simp only [Bool.and_eq_true] at c3
      obtain ⟨k1, k2, k3, k4⟩ := c3
      cases n7 with
      | nil => simp at h7
      | cons p r =>
        cases r with
        | cons _ _ => simp at h7
        | nil =>
          obtain ⟨x, cc⟩ := p
          have hx : x = "__class__" := by simpa using h7
          subst hx
          have k2' : (match K.lookup cc with
            | some ⟨_, _, .cell (some (.ref D)), _⟩ => decide (D = He.ga K d.c)
            | _ => false) = true := k2
          split at k2'
          · rename_i cl cld D csl hc
            have hD : D = He.ga K d.c := of_decide_eq_true k2'
            subst hD
            cases n13 with
            | ref cda =>
              have k3' : (match K.lookup cda with
                | some ⟨_, _, Data.fields vs, _⟩ => (match vs[2]? with
                  | some (Value.str f _) => (d.file : Str) == f
                  | _ => false)
                | _ => false) = true := k3
              split at k3'
              · rename_i ccl cdd vs ccs hcd
                split at k3'
                · rename_i file tf hv
                  cases n8 with
                  | none => exact ⟨_, oc, od, n9, n10, n11, n14, cl, n12, cld, cda, cc, osl, csl, ccl, cdd, vs, ccs, file, tf, rfl, q, k1, hc, hcd, hv, k3'⟩
                  | _ => cases k4
                · cases k3'
              · cases k3'
            | _ => cases k3
          · cases k2'
    | _ => cases c
theorem FunS.binds {K : PySem.W.Frag} {d : DefS} {f : Addr} {fd : FuncData} {ps : List Str} (F : FunS K d f fd)
    (h : ∀ (kV doc pm ct : Value) (an : Option Addr) (cda cc : Addr) (us : List Value), us.length = ps.length → bindArgs (PySem.W.ksFn d.name d.qual d.params d.body d.scope .none kV doc pm an (.ref cda) ct cc) ⟨us, []⟩ = pure (ps.zip us)) : Binds K fd ps [] := by
  obtain ⟨oc, od, kV, doc, pm, ct, cl, an, cld, cda, cc, osl, csl, ccl, cdd, vs, ccs, file, tf, rfl, _⟩ := F.ex
  exact .all (h kV doc pm ct an cda cc)

/-! ### the Hook -/
abbrev AlJ : Type := Bool × List He.FnW × List FnS
def obsJ (fa : List He.Fa) (fb : List Fb) (fn : List He.DefD) (fs : List DefS) (K : PySem.W.Frag) : AlJ := ((fa.all fun f => f.ok K) && ((fb.all fun f => f.ok K) && ((fn.all fun d => d.ok K) && fs.all fun d => d.ok K)), fn.map fun d => He.fnW K d.at_, fs.map fun d => fnS K d.c)
def valJ (fn : List He.DefD) (fs : List DefS) : AlJ := (true, fn.map He.DefD.val, fs.map DefS.val)
def SaysJ (fa : List He.Fa) (fb : List Fb) (fn : List He.DefD) (fs : List DefS) (K : PySem.W.Frag) : Prop := obsJ fa fb fn fs K = valJ fn fs
def asJ (g : Addr → Option Obj) (n : Nat) : List Addr := He.growD g (PySem.cStatics :: He.asD g n)
def obsJG (n : Nat) (fa : List He.Fa) (fb : List Fb) (fn : List He.DefD) (fs : List DefS) (g : Addr → Option Obj) : AlJ := obsJ fa fb fn fs (He.frG g (asJ g n))
def hookJ (n : Nat) (fa : List He.Fa) (fb : List Fb) (fn : List He.DefD) (fs : List DefS) : PySem.W.Hook where
  α := AlJ
  obs := fun s => obsJG n fa fb fn fs s.heap.get?
  val := fun _ => valJ fn fs
  says := fun _ h => ∃ K : PySem.W.Frag, K.In h ∧ SaysJ fa fb fn fs K
  of := fun _ _ e => ⟨_, He.frG_in, e⟩
  keeps := fun _ _ _ ⟨K, hK, c⟩ k => ⟨K, PySem.W.Frag.In.keeps hK k, c⟩
theorem obsJG_eq {n : Nat} {fa : List He.Fa} {fb : List Fb} {fn : List He.DefD} {fs : List DefS} {g : Addr → Option Obj} {s : Shared} (h : ∀ a, g a = s.heap.get? a) : obsJG n fa fb fn fs g = (hookJ n fa fb fn fs).obs s := by
  have e : g = s.heap.get? := funext h
  rw [e] <;> rfl
section
variable {fa : List He.Fa} {fb : List Fb} {fn : List He.DefD} {fs : List DefS} {K : PySem.W.Frag}
theorem SaysJ.alls (c : SaysJ fa fb fn fs K) : (∀ f ∈ fa, f.ok K = true) ∧ (∀ f ∈ fb, f.ok K = true) ∧ (∀ d ∈ fn, d.ok K = true) ∧ ∀ d ∈ fs, d.ok K = true := by
  have c1 : ((fa.all fun f => f.ok K) && ((fb.all fun f => f.ok K) && ((fn.all fun d => d.ok K) && fs.all fun d => d.ok K))) = true := congrArg (fun z : AlJ => z.1) c
  simp only [Bool.and_eq_true, List.all_eq_true] at c1
  exact c1
theorem SaysJ.fact (c : SaysJ fa fb fn fs K) (i : Nat) {f : He.Fa} (h : fa[i]? = some f := by rfl) : f.ok K = true := c.alls.1 f (List.mem_of_getElem? h)
theorem SaysJ.factB (c : SaysJ fa fb fn fs K) (i : Nat) {f : Fb} (h : fb[i]? = some f := by rfl) : f.ok K = true := c.alls.2.1 f (List.mem_of_getElem? h)
theorem SaysJ.def_ (c : SaysJ fa fb fn fs K) (i : Nat) {d : He.DefD} (h : fn[i]? = some d := by rfl) : ∃ fd, FunD K d.name d.qual d.params d.body d.scope (d.dvs K) (d.kws K) (He.fAd K d.at_) fd := by
  have e : fn.map (fun d => He.fnW K d.at_) = fn.map He.DefD.val := congrArg (fun z : AlJ => z.2.1) c
  have e2 : (fn.map fun d => He.fnW K d.at_)[i]? = (fn.map He.DefD.val)[i]? := by rw [e]
  rw [List.getElem?_map, List.getElem?_map, h] at e2
  exact He.DefD.funD (Option.some.inj e2) (c.alls.2.2.1 d (List.mem_of_getElem? h))
theorem SaysJ.ini (c : SaysJ fa fb fn fs K) (i : Nat) {d : DefS} (h : fs[i]? = some d := by rfl) : ∃ fd, FunS K d (He.ma K (He.ga K d.c) "__init__") fd := by
  have e : fs.map (fun d => fnS K d.c) = fs.map DefS.val := congrArg (fun z : AlJ => z.2.2) c
  have e2 : (fs.map fun d => fnS K d.c)[i]? = (fs.map DefS.val)[i]? := by rw [e]
  rw [List.getElem?_map, List.getElem?_map, h] at e2
  exact DefS.funS (Option.some.inj e2) (c.alls.2.2.2 d (List.mem_of_getElem? h))
end
end J

namespace Lw
open PySem PySem.Spec PyProof.Rows L2 J
def top (i : Nat) : Stmt := PySem.Challenge.pw_nodearer_k03_lots.main.body.getD i (.Pass ⟨0, 0, 0, 0⟩)
def fl_NumberError : List (Str × (J.Env → R D)) := [("number", fVar 1)]
def Fx_NumberError : List D → Option (List Str × List D) := initF 2 fl_NumberError
def fl_SizeError : List (Str × (J.Env → R D)) := [("count", fVar 1)]
def Fx_SizeError : List D → Option (List Str × List D) := initF 2 fl_SizeError
def fl_ThingError : List (Str × (J.Env → R D)) := [("thing", fVar 1)]
def Fx_ThingError : List D → Option (List Str × List D) := initF 2 fl_ThingError
def tb_SizeError : List (Str × Bool) := [("NumberError", false), ("SizeError", true), ("ThingError", false)]
def exm_SizeError : Exn → Option Bool := fun y => tb_SizeError.lookup y.c
def tb_ThingError : List (Str × Bool) := [("NumberError", false), ("SizeError", false), ("ThingError", true)]
def exm_ThingError : Exn → Option Bool := fun y => tb_ThingError.lookup y.c
def tb_NumberError : List (Str × Bool) := [("NumberError", true), ("SizeError", false), ("ThingError", false)]
def exm_NumberError : Exn → Option Bool := fun y => tb_NumberError.lookup y.c
def okf_NumberError_number : Str → Bool := fun c => c == "NumberError"
def okf_SizeError_count : Str → Bool := fun c => c == "SizeError"
def okf_ThingError_thing : Str → Bool := fun c => c == "ThingError"
def isx_0 : Str → Option Bool := fun c => if c = "SizeError" then some true else none
def isx_1 : Str → Option Bool := fun c => if c = "SizeError" then some false else none
def isx_2 : Str → Option Bool := fun c => if c = "ThingError" then some true else none
def isx_3 : Str → Option Bool := fun c => if c = "ThingError" then some false else none
def isx_4 : Str → Option Bool := fun c => if c = "NumberError" then some true else none
def isx_5 : Str → Option Bool := fun c => if c = "NumberError" then some true else none
abbrev s_mask_of : Stmt := top 17
def N_mask_of : List Str := ["lot", "mask", "thing"]
def ps_mask_of : List Str := ["lot"]
def f_mask_of : J.Env → RS := (sSeq (sSet 1 (fC (.int 0))) (sSeq (sFor (fun1L itemsD (fVar 0)) (gNm 2) (sSet 1 (fop gOr (fVar 1) (fop gShl (fC (.int 1)) (fVar 2))))) (sRet (fVar 1))))
def F_mask_of : DF := runF 3 f_mask_of
abbrev s_lot_of_mask : Stmt := top 18
def N_lot_of_mask : List Str := ["mask", "thing"]
def ps_lot_of_mask : List Str := ["mask"]
def f_lot_of_mask : J.Env → RS := (sRet (fun1 gTuple (fPub (fLc [1] (fRng1 (fun1 gBits (fVar 0))) (gNm 1) (fTru (fop gAnd (fop gShr (fVar 0) (fVar 1)) (fC (.int 1)))) (fVar 1)))))
def F_lot_of_mask : DF := runF 2 f_lot_of_mask
abbrev s_masks_in_order : Stmt := top 19
def N_masks_in_order : List Str := ["things", "order", "layer", "_", "mask", "begin", "thing"]
def ps_masks_in_order : List Str := ["things"]
def f_masks_in_order : J.Env → RS := (sSeq (sSet 1 (fPub (fLst (fCons (fC (.int 0)) fNil)))) (sSeq (sSet 2 (fPub (fLst (fCons (fTup (fCons (fC (.int 0)) (fCons (fC (.int 0)) fNil))) fNil)))) (sSeq (sFor (fRng1 (fVar 0)) (gNm 3) (sSeq (sSetL 2 (fLc2 [4, 5, 6] (fun1L itemsD (fVar 2)) (gTup2 (gsCons (gNm 4) (gsCons (gNm 5) gsNil))) fYes (fRng2 (fVar 5) (fVar 0)) [6] (gNm 6) fYes (fTup (fCons (fop gOr (fVar 4) (fop gShl (fC (.int 1)) (fVar 6))) (fCons (fop gAdd (fVar 6) (fC (.int 1))) fNil))))) (fun E => (sSet 1 (fop gAdd (fVar 1) (fPub (fLc [4, 3] (fun1L itemsD (fVar 2)) (gTup2 (gsCons (gNm 4) (gsCons (gNm 3) gsNil))) fYes (fVar 4))))) (pubE 2 E)))) (sRet (fVar 1)))))
def F_masks_in_order : DF := runF 7 f_masks_in_order
abbrev s_L_tape : Stmt := top 29
def N_L_tape : List Str := ["_law_script", "_law_digits", "_law_cell", "_law_rest", "_law_k"]
def ps_L_tape : List Str := ["_law_script"]
def f_L_tape : J.Env → RS := (sSeq (sSetL 1 (fLst fNil)) (sSeq (sFor (fun1L itemsD (fCut (fVar 0) (fun _ => some none) (fun E => intP ((fun _ => some (.int 63)) E)))) (gNm 2) (sSeq (sSet 3 (fun1 gAbs (fVar 2))) (sFor (fRng1 (fC (.int 14))) (gNm 4) (sIf (fTest (fop gGt (fVar 3) (fC (.int 0)))) (sSeq (sApp 1 (fop gMod (fun1 gIntF (fVar 3)) (fC (.int 12)))) (sSet 3 (fop gDiv (fVar 3) (fC (.int 12))))) sNil)))) (sRetL (fun1L gRev (fBor 1)))))
def F_L_tape : DF := runF 5 f_L_tape
abbrev s_L_take : Stmt := top 30
def N_L_take : List Str := ["_law_tape_here", "_law_many", "_law_salt", "_law_digit"]
def ps_L_take : List Str := ["_law_tape_here", "_law_many", "_law_salt"]
def f_L_take : J.Env → RS := (sSeq (sSet 3 (fC (.int 0))) (sSeq (sIf (fTest (fop gGt (fun1 gLen (fBor 0)) (fC (.int 0)))) (sSet 3 (fPop 0)) sNil) (sRet (fop gMod (fun1 gIntF (fop gAdd (fVar 3) (fVar 2))) (fVar 1)))))
def F_L_take : DF := runF 4 f_L_take
abbrev s_L_int : Stmt := top 31
def N_L_int : List Str := ["_law_told_here"]
def ps_L_int : List Str := ["_law_told_here"]
def f_L_int : J.Env → RS := (sRet (fAndV (fun1 (gIsi "int") (fVar 0)) (fun1 gNot (fun1 (gIsi "bool") (fVar 0)))))
def F_L_int : DF := runF 1 f_L_int
abbrev s_L_entries : Stmt := top 32
def N_L_entries : List Str := ["_law_tape_here", "_law_things", "_law_salt", "_law_many", "_law_entries_here", "_law_k"]
def ps_L_entries : List Str := ["_law_tape_here", "_law_things", "_law_salt"]
def f_L_entries : J.Env → RS := (sSeq (sSet 3 (fCallR 3 F_L_take (xO 0 (xV (fC (.int 10)) (xV (fVar 2) xNil))) rvD)) (sSeq (sIf (fTest (fop gEq (fVar 1) (fC (.int 0)))) (sRet (fPub (fLst fNil))) sNil) (sSeq (sSetL 4 (fLst fNil)) (sSeq (sFor (fRng1 (fop gMin2 (fVar 3) (fC (.int 8)))) (gNm 5) (sApp 4 (fCallR 3 F_L_take (xO 0 (xV (fVar 1) (xV (fop gAdd (fVar 2) (fop gMul (fC (.int 5)) (fVar 5))) xNil))) rvD))) (fun E => (sSeq (sIf (fTest (fop gEq (fCallR 3 F_L_take (xO 0 (xV (fC (.int 2)) (xV (fC (.int 0)) xNil))) rvD) (fC (.int 0)))) (sSet 4 (fop gAdd (fVar 4) (fCut (fVar 4) (fun _ => some none) (fun E => intP ((fun _ => some (.int 1)) E))))) sNil) (sSeq (sIf (fTest (fop gEq (fVar 3) (fC (.int 9)))) (sRet (fCut (fop gMul (fVar 4) (fC (.int 60))) (fun _ => some none) (fun E => intP ((fun _ => some (.int 60)) E)))) sNil) (sRet (fVar 4)))) (pubE 4 E))))))
def F_L_entries : DF := runF 6 f_L_entries
abbrev s_L_no_thing : Stmt := top 33
def N_L_no_thing : List Str := ["_law_tape_here", "_law_things", "_law_salt", "_law_kind", "_law_step"]
def ps_L_no_thing : List Str := ["_law_tape_here", "_law_things", "_law_salt"]
def f_L_no_thing : J.Env → RS := (sSeq (sSet 3 (fCallR 3 F_L_take (xO 0 (xV (fC (.int 3)) (xV (fVar 2) xNil))) rvD)) (sSeq (sSet 4 (fCallR 3 F_L_take (xO 0 (xV (fC (.int 12)) (xV (fVar 2) xNil))) rvD)) (sRet (fop gIx (fPub (fLst (fCons (fop gAdd (fVar 1) (fVar 4)) (fCons (fop gSub (fun1 gNeg (fC (.int 1))) (fVar 4)) (fCons (fop gAdd (fop gPow (fC (.int 10)) (fC (.int 20))) (fVar 4)) fNil))))) (fVar 3)))))
def F_L_no_thing : DF := runF 5 f_L_no_thing
abbrev s_L_is_lot : Stmt := top 35
def N_L_is_lot : List Str := ["_law_told_here", "_law_due", "_law_k"]
def ps_L_is_lot : List Str := ["_law_told_here", "_law_due"]
def f_L_is_lot : J.Env → RS := (sSeq (sIf (fOr (fNot (fTru (fun1 (gIsi "tuple") (fVar 0)))) (fTest (fop gNe (fun1 gLen (fVar 0)) (fun1 gLen (fVar 1))))) (sRet (fC (.bl false))) sNil) (sSeq (sFor (fRng1 (fun1 gLen (fVar 1))) (gNm 2) (sIf (fOr (fNot (fTru (fCallR 1 F_L_int (xV (fop gIx (fVar 0) (fVar 2)) xNil) rvD))) (fTest (fop gNe (fop gIx (fVar 0) (fVar 2)) (fop gIx (fVar 1) (fVar 2))))) (sRet (fC (.bl false))) sNil)) (sRet (fC (.bl true)))))
def F_L_is_lot : DF := runF 3 f_L_is_lot
abbrev s_L_ascending : Stmt := top 36
def N_L_ascending : List Str := ["_law_told_here", "_law_things", "_law_least", "_law_thing"]
def ps_L_ascending : List Str := ["_law_told_here", "_law_things"]
def f_L_ascending : J.Env → RS := (sSeq (sIf (fNot (fTru (fun1 (gIsi "tuple") (fVar 0)))) (sRet (fC (.bl false))) sNil) (sSeq (sSet 2 (fC (.int 0))) (sSeq (sFor (fun1L itemsD (fVar 0)) (gNm 3) (sSeq (sIf (fOr (fNot (fTru (fCallR 1 F_L_int (xV (fVar 3) xNil) rvD))) (fNot (fTest (fChain gLe gLt (fVar 2) (fVar 3) (fVar 1))))) (sRet (fC (.bl false))) sNil) (sSet 2 (fop gAdd (fVar 3) (fC (.int 1)))))) (sRet (fC (.bl true))))))
def F_L_ascending : DF := runF 4 f_L_ascending
abbrev s_look_number : Stmt := top 9
def N_look_number : List Str := ["number", "low", "high"]
def ps_look_number : List Str := ["number", "low", "high"]
def f_look_number : J.Env → RS := (sSeq (sIf (fOr (fTest (fop gLt (fVar 0) (fVar 1))) (fTest (fop gGt (fVar 0) (fVar 2)))) (sRaise "NumberError" 1 Fx_NumberError (fCons (fVar 0) fNil)) sNil) (sRet (fVar 0)))
def F_look_number : DF := runF 3 f_look_number
abbrev s_look_size : Stmt := top 10
def N_look_size : List Str := ["entries", "low", "high", "count"]
def ps_look_size : List Str := ["entries", "low", "high"]
def f_look_size : J.Env → RS := (sSeq (sSet 3 (fun1 gLen (fVar 0))) (sSeq (sIf (fOr (fTest (fop gLt (fVar 3) (fVar 1))) (fTest (fop gGt (fVar 3) (fVar 2)))) (sRaise "SizeError" 1 Fx_SizeError (fCons (fVar 3) fNil)) sNil) (sRet (fVar 0))))
def F_look_size : DF := runF 4 f_look_size
abbrev s_look_thing : Stmt := top 13
def N_look_thing : List Str := ["things", "thing"]
def ps_look_thing : List Str := ["things", "thing"]
def f_look_thing : J.Env → RS := (sSeq (sIf (fOr (fTest (fop gLt (fVar 1) (fC (.int 0)))) (fTest (fop gGe (fVar 1) (fVar 0)))) (sRaise "ThingError" 1 Fx_ThingError (fCons (fVar 1) fNil)) sNil) (sRet (fVar 1)))
def F_look_thing : DF := runF 2 f_look_thing
abbrev s_look_numbers : Stmt := top 11
def N_look_numbers : List Str := ["entries", "fewest", "most", "low", "high", "number"]
def ps_look_numbers : List Str := ["entries", "fewest", "most", "low", "high"]
def f_look_numbers : J.Env → RS := (sSeq (sExpr (fCallR 3 F_look_size (xV (fVar 0) (xV (fVar 1) (xV (fVar 2) xNil))) rvD)) (sSeq (sFor (fun1L itemsD (fVar 0)) (gNm 5) (sExpr (fCallR 3 F_look_number (xV (fVar 5) (xV (fVar 3) (xV (fVar 4) xNil))) rvD))) (sRet (fun1 gTuple (fVar 0)))))
def F_look_numbers : DF := runF 6 f_look_numbers
abbrev s_look_things : Stmt := top 12
def N_look_things : List Str := ["things"]
def ps_look_things : List Str := ["things"]
def f_look_things : J.Env → RS := (sRet (fCallR 3 F_look_number (xV (fVar 0) (xV (fC (.int 0)) (xV (fC (.int (10))) xNil))) rvD))
def F_look_things : DF := runF 1 f_look_things
abbrev s_look_lot : Stmt := top 14
def N_look_lot : List Str := ["things", "entries", "thing"]
def ps_look_lot : List Str := ["things", "entries"]
def f_look_lot : J.Env → RS := (sSeq (sExpr (fCallR 3 F_look_size (xV (fVar 1) (xV (fC (.int 0)) (xV (fC (.int (60))) xNil))) rvD)) (sSeq (sFor (fun1L itemsD (fVar 1)) (gNm 2) (sExpr (fCallR 2 F_look_thing (xV (fVar 0) (xV (fVar 2) xNil)) rvD))) (sRet (fun1 gTuple (fPub (fun1L gSS (fVar 1)))))))
def F_look_lot : DF := runF 3 f_look_lot
abbrev s_look_costs : Stmt := top 15
def N_look_costs : List Str := ["things", "costs"]
def ps_look_costs : List Str := ["things", "costs"]
def f_look_costs : J.Env → RS := (sRet (fCallR 5 F_look_numbers (xV (fVar 1) (xV (fVar 0) (xV (fVar 0) (xV (fun1 gNeg (fC (.int (1000000)))) (xV (fC (.int (1000000))) xNil))))) rvD))
def F_look_costs : DF := runF 2 f_look_costs
abbrev s_lot_of : Stmt := top 21
def N_lot_of : List Str := ["things", "entries"]
def ps_lot_of : List Str := ["things", "entries"]
def f_lot_of : J.Env → RS := (sSeq (sExpr (fCallR 1 F_look_things (xV (fVar 0) xNil) rvD)) (sRet (fCallR 2 F_look_lot (xV (fVar 0) (xV (fVar 1) xNil)) rvD)))
def F_lot_of : DF := runF 2 f_lot_of
abbrev s_all_lots : Stmt := top 22
def N_all_lots : List Str := ["things", "mask"]
def ps_all_lots : List Str := ["things"]
def f_all_lots : J.Env → RS := (sSeq (sExpr (fCallR 1 F_look_things (xV (fVar 0) xNil) rvD)) (sRetL (fLc [1] (fun1L itemsD (fCallR 1 F_masks_in_order (xV (fVar 0) xNil) rvD)) (gNm 1) fYes (fCallR 1 F_lot_of_mask (xV (fVar 1) xNil) rvD))))
def F_all_lots : DF := runF 2 f_all_lots
abbrev s_P_two_masks : Stmt := top 27
def N_P_two_masks : List Str := ["things", "first", "second", "one", "other"]
def ps_P_two_masks : List Str := ["things", "first", "second"]
def f_P_two_masks : J.Env → RS := (sSeq (sExpr (fCallR 1 F_look_things (xV (fVar 0) xNil) rvD)) (sSeq (sSet 3 (fCallR 2 F_look_lot (xV (fVar 0) (xV (fVar 1) xNil)) rvD)) (sSeq (sSet 4 (fCallR 2 F_look_lot (xV (fVar 0) (xV (fVar 2) xNil)) rvD)) (sRet (fTup (fCons (fCallR 1 F_mask_of (xV (fVar 3) xNil) rvD) (fCons (fCallR 1 F_mask_of (xV (fVar 4) xNil) rvD) fNil)))))))
def F_P_two_masks : DF := runF 5 f_P_two_masks
abbrev s_joined : Stmt := top 23
def N_joined : List Str := ["things", "first", "second", "one", "other"]
def ps_joined : List Str := ["things", "first", "second"]
def f_joined : J.Env → RS := (sSeq (sAsg (fCallR 3 F_P_two_masks (xV (fVar 0) (xV (fVar 1) (xV (fVar 2) xNil))) rvD) (gTup2 (gsCons (gNm 3) (gsCons (gNm 4) gsNil)))) (sRet (fCallR 1 F_lot_of_mask (xV (fop gOr (fVar 3) (fVar 4)) xNil) rvD)))
def F_joined : DF := runF 5 f_joined
abbrev s_common : Stmt := top 24
def N_common : List Str := ["things", "first", "second", "one", "other"]
def ps_common : List Str := ["things", "first", "second"]
def f_common : J.Env → RS := (sSeq (sAsg (fCallR 3 F_P_two_masks (xV (fVar 0) (xV (fVar 1) (xV (fVar 2) xNil))) rvD) (gTup2 (gsCons (gNm 3) (gsCons (gNm 4) gsNil)))) (sRet (fCallR 1 F_lot_of_mask (xV (fop gAnd (fVar 3) (fVar 4)) xNil) rvD)))
def F_common : DF := runF 5 f_common
abbrev s_without : Stmt := top 25
def N_without : List Str := ["things", "first", "second", "one", "other"]
def ps_without : List Str := ["things", "first", "second"]
def f_without : J.Env → RS := (sSeq (sAsg (fCallR 3 F_P_two_masks (xV (fVar 0) (xV (fVar 1) (xV (fVar 2) xNil))) rvD) (gTup2 (gsCons (gNm 3) (gsCons (gNm 4) gsNil)))) (sRet (fCallR 1 F_lot_of_mask (xV (fop gAnd (fVar 3) (fun1 gInv (fVar 4))) xNil) rvD)))
def F_without : DF := runF 5 f_without
abbrev s_cost_of : Stmt := top 26
def N_cost_of : List Str := ["things", "costs", "lot", "looked", "thing"]
def ps_cost_of : List Str := ["things", "costs", "lot"]
def f_cost_of : J.Env → RS := (sSeq (sExpr (fCallR 1 F_look_things (xV (fVar 0) xNil) rvD)) (sSeq (sSet 3 (fCallR 2 F_look_costs (xV (fVar 0) (xV (fVar 1) xNil)) rvD)) (sRet (fun1 gSum (fPub (fLc [4] (fun1L itemsD (fCallR 2 F_look_lot (xV (fVar 0) (xV (fVar 2) xNil)) rvD)) (gNm 4) fYes (fop gIx (fVar 3) (fVar 4))))))))
def F_cost_of : DF := runF 5 f_cost_of
abbrev s_L_all_lots : Stmt := top 37
def N_L_all_lots : List Str := ["_law_things", "_law_turn", "_law_told_here", "_law_before", "_law_k", "_law_lot"]
def ps_L_all_lots : List Str := ["_law_things"]
def f_L_all_lots : J.Env → RS := (sSeq (sFor (fRng1 (fC (.int 2))) (gNm 1) (sSeq (sSetL 2 (fCallR 1 F_all_lots (xV (fVar 0) xNil) rvL)) (sSeq (sIf (fOr (fNot (fTru (fun1 (gIsi "list") (fBor 2)))) (fTest (fop gNe (fun1 gLen (fBor 2)) (fop gShl (fC (.int 1)) (fVar 0))))) (sRet (fC (.bl false))) sNil) (sSeq (sSet 3 (fTup (fCons (fun1 gNeg (fC (.int 1))) (fCons (fTup fNil) fNil)))) (sSeq (sFor (fRng1 (fun1 gLen (fBor 2))) (gNm 4) (sSeq (sIf (fNot (fTru (fCallR 2 F_L_ascending (xV (fopB gIx (fBor 2) (getV 4)) (xV (fVar 0) xNil)) rvD))) (sRet (fC (.bl false))) sNil) (sSeq (sSet 5 (fTup (fCons (fun1 gLen (fopB gIx (fBor 2) (getV 4))) (fCons (fopB gIx (fBor 2) (getV 4)) fNil)))) (sSeq (sIf (fTest (fop gLeP (fVar 5) (fVar 3))) (sRet (fC (.bl false))) sNil) (sSet 3 (fVar 5)))))) (sSeq (sRev 2) (sExpr (fPop 2)))))))) (sRet (fC (.bl true))))
def F_L_all_lots : DF := runF 6 f_L_all_lots
abbrev s_L_told : Stmt := top 34
def N_L_told : List Str := ["_law_name", "_law_things", "_law_one", "_law_other", "e", "f", "g", "_law_told_here"]
def ps_L_told : List Str := ["_law_name", "_law_things", "_law_one", "_law_other"]
def f_L_told : J.Env → RS := (sSeq (sTry (sIf (fTest (fop gEq (fVar 0) (fC (.str "lot_of")))) (sSet 7 (fCallR 2 F_lot_of (xV (fVar 1) (xV (fVar 2) xNil)) rvD)) (sIf (fTest (fop gEq (fVar 0) (fC (.str "all_lots")))) (sSet 7 (fPub (fCallR 1 F_all_lots (xV (fVar 1) xNil) rvL))) (sIf (fTest (fop gEq (fVar 0) (fC (.str "joined")))) (sSet 7 (fCallR 3 F_joined (xV (fVar 1) (xV (fVar 2) (xV (fVar 3) xNil))) rvD)) (sIf (fTest (fop gEq (fVar 0) (fC (.str "common")))) (sSet 7 (fCallR 3 F_common (xV (fVar 1) (xV (fVar 2) (xV (fVar 3) xNil))) rvD)) (sIf (fTest (fop gEq (fVar 0) (fC (.str "without")))) (sSet 7 (fCallR 3 F_without (xV (fVar 1) (xV (fVar 2) (xV (fVar 3) xNil))) rvD)) (sSet 7 (fCallR 3 F_cost_of (xV (fVar 1) (xV (fVar 2) (xV (fVar 3) xNil))) rvD))))))) [⟨exm_SizeError, some 4, fun y => (sSeq (sIf (fOr (fNot (fTru (fIsE isx_0 y))) (fTru (fIsE isx_1 y))) (sSeq (sRet (fTup (fCons (fC (.str "odd")) fNil))) sNil) sNil) (sSeq (sRet (fTup (fCons (fC (.str "size")) (fCons (fXf okf_SizeError_count y "count") (fCons (fCallR 1 F_L_int (xV (fXf okf_SizeError_count y "count") xNil) rvD) fNil))))) sNil))⟩, ⟨exm_ThingError, some 5, fun y => (sSeq (sIf (fOr (fNot (fTru (fIsE isx_2 y))) (fTru (fIsE isx_3 y))) (sSeq (sRet (fTup (fCons (fC (.str "odd")) fNil))) sNil) sNil) (sSeq (sRet (fTup (fCons (fC (.str "thing")) (fCons (fXf okf_ThingError_thing y "thing") (fCons (fCallR 1 F_L_int (xV (fXf okf_ThingError_thing y "thing") xNil) rvD) fNil))))) sNil))⟩, ⟨exm_NumberError, some 6, fun y => (sSeq (sIf (fOr (fNot (fTru (fIsE isx_4 y))) (fNot (fTru (fIsE isx_5 y)))) (sSeq (sRet (fTup (fCons (fC (.str "odd")) fNil))) sNil) sNil) (sSeq (sRet (fTup (fCons (fC (.str "number")) (fCons (fXf okf_NumberError_number y "number") (fCons (fCallR 1 F_L_int (xV (fXf okf_NumberError_number y "number") xNil) rvD) fNil))))) sNil))⟩]) (sRet (fTup (fCons (fC (.str "told")) (fCons (fVar 7) fNil)))))
def F_L_told : DF := runF 8 f_L_told
abbrev s_L_lots : Stmt := top 38
def N_L_lots : List Str := ["_law_things", "_law_one", "_law_other", "_law_first", "_law_due", "_law_k"]
def ps_L_lots : List Str := ["_law_things", "_law_one", "_law_other"]
def f_L_lots : J.Env → RS := (sSeq (sSetL 3 (fLc [5] (fRng1 (fVar 0)) (gNm 5) (fTest (fop (gInB false) (fVar 5) (fVar 1))) (fVar 5))) (fun E => (sSeq (sIf (fNot (fTru (fCallR 2 F_L_is_lot (xV (fCallR 2 F_lot_of (xV (fVar 0) (xV (fVar 1) xNil)) rvD) (xV (fVar 3) xNil)) rvD))) (sRet (fC (.bl false))) sNil) (sSeq (sSetL 4 (fLc [5] (fRng1 (fVar 0)) (gNm 5) (fOr (fTest (fop (gInB false) (fVar 5) (fVar 1))) (fTest (fop (gInB false) (fVar 5) (fVar 2)))) (fVar 5))) (fun E => (sSeq (sIf (fNot (fTru (fCallR 2 F_L_is_lot (xV (fCallR 3 F_joined (xV (fVar 0) (xV (fVar 1) (xV (fVar 2) xNil))) rvD) (xV (fVar 4) xNil)) rvD))) (sRet (fC (.bl false))) sNil) (sSeq (sSetL 4 (fLc [5] (fun1L itemsD (fVar 3)) (gNm 5) (fTest (fop (gInB false) (fVar 5) (fVar 2))) (fVar 5))) (fun E => (sSeq (sIf (fNot (fTru (fCallR 2 F_L_is_lot (xV (fCallR 3 F_common (xV (fVar 0) (xV (fVar 1) (xV (fVar 2) xNil))) rvD) (xV (fVar 4) xNil)) rvD))) (sRet (fC (.bl false))) sNil) (sSeq (sSetL 4 (fLc [5] (fun1L itemsD (fVar 3)) (gNm 5) (fTest (fop (gInB true) (fVar 5) (fVar 2))) (fVar 5))) (fun E => (sRet (fCallR 2 F_L_is_lot (xV (fCallR 3 F_without (xV (fVar 0) (xV (fVar 1) (xV (fVar 2) xNil))) rvD) (xV (fVar 4) xNil)) rvD)) (pubE 4 E)))) (pubE 4 E)))) (pubE 4 E)))) (pubE 3 E)))
def F_L_lots : DF := runF 6 f_L_lots
abbrev s_L_cost : Stmt := top 39
def N_L_cost : List Str := ["_law_things", "_law_costs", "_law_one", "_law_due", "_law_thing", "_law_told_here"]
def ps_L_cost : List Str := ["_law_things", "_law_costs", "_law_one"]
def f_L_cost : J.Env → RS := (sSeq (sSet 3 (fC (.int 0))) (sSeq (sFor (fRng1 (fVar 0)) (gNm 4) (sIf (fTest (fop (gInB false) (fVar 4) (fVar 2))) (sSet 3 (fop gAdd (fVar 3) (fop gIx (fVar 1) (fVar 4)))) sNil)) (sSeq (sSet 5 (fCallR 3 F_cost_of (xV (fVar 0) (xV (fVar 1) (xV (fVar 2) xNil))) rvD)) (sRet (fAndV (fCallR 1 F_L_int (xV (fVar 5) xNil) rvD) (fop gEq (fVar 5) (fVar 3)))))))
def F_L_cost : DF := runF 6 f_L_cost
abbrev s_L_good : Stmt := top 40
def N_L_good : List Str := ["_law_things", "_law_costs", "_law_one", "_law_other", "_law_kept"]
def ps_L_good : List Str := ["_law_things", "_law_costs", "_law_one", "_law_other"]
def f_L_good : J.Env → RS := (sSeq (sSet 4 (fTup (fCons (fPub (fun1L itemsD (fVar 1))) (fCons (fPub (fun1L itemsD (fVar 2))) (fCons (fPub (fun1L itemsD (fVar 3))) fNil))))) (sSeq (sIf (fNot (fTru (fCallR 3 F_L_lots (xV (fVar 0) (xV (fVar 2) (xV (fVar 3) xNil))) rvD))) (sRet (fC (.bl false))) sNil) (sSeq (sIf (fOr (fNot (fTru (fCallR 3 F_L_lots (xV (fVar 0) (xV (fVar 3) (xV (fVar 2) xNil))) rvD))) (fNot (fTru (fCallR 3 F_L_lots (xV (fVar 0) (xV (fVar 2) (xV (fVar 2) xNil))) rvD)))) (sRet (fC (.bl false))) sNil) (sSeq (sIf (fNot (fTru (fCallR 3 F_L_lots (xV (fVar 0) (xV (fun1 gTuple (fVar 2)) (xV (fun1 gTuple (fVar 3)) xNil))) rvD))) (sRet (fC (.bl false))) sNil) (sSeq (sIf (fNot (fTru (fCallR 3 F_L_cost (xV (fVar 0) (xV (fVar 1) (xV (fVar 2) xNil))) rvD))) (sRet (fC (.bl false))) sNil) (sSeq (sIf (fNot (fTru (fCallR 3 F_L_cost (xV (fVar 0) (xV (fun1 gTuple (fVar 1)) (xV (fun1 gTuple (fVar 3)) xNil))) rvD))) (sRet (fC (.bl false))) sNil) (sRet (fop gEq (fTup (fCons (fVar 1) (fCons (fVar 2) (fCons (fVar 3) fNil)))) (fVar 4)))))))))
def F_L_good : DF := runF 5 f_L_good
abbrev s_L_all_refused : Stmt := top 41
def N_L_all_refused : List Str := ["_law_cases", "_law_name", "_law_things", "_law_one", "_law_other", "_law_due", "_law_told_here"]
def ps_L_all_refused : List Str := ["_law_cases"]
def f_L_all_refused : J.Env → RS := (sSeq (sFor (fun1L itemsD (fVar 0)) (gTup2 (gsCons (gNm 1) (gsCons (gNm 2) (gsCons (gNm 3) (gsCons (gNm 4) (gsCons (gNm 5) gsNil)))))) (sSeq (sSet 6 (fCallR 4 F_L_told (xV (fVar 1) (xV (fVar 2) (xV (fVar 3) (xV (fVar 4) xNil)))) rvD)) (sIf (fTest (fop gNe (fVar 6) (fTup (fCons (fop gIx (fVar 5) (fC (.int 0))) (fCons (fop gIx (fVar 5) (fC (.int 1))) (fCons (fC (.bl true)) fNil)))))) (sRet (fC (.bl false))) sNil))) (sRet (fC (.bl true))))
def F_L_all_refused : DF := runF 7 f_L_all_refused
abbrev s_L_bad_lots : Stmt := top 42
def N_L_bad_lots : List Str := ["_law_tape_here", "_law_things", "_law_one", "_law_odd", "_law_at", "_law_wrong", "_law_many", "_law_step", "_law_far", "_law_cases", "_law_name", "_law_kept"]
def ps_L_bad_lots : List Str := ["_law_tape_here", "_law_things", "_law_one"]
def f_L_bad_lots : J.Env → RS := (sSeq (sSet 3 (fCallR 3 F_L_no_thing (xO 0 (xV (fVar 1) (xV (fC (.int 1)) xNil))) rvD)) (sSeq (sSet 4 (fCallR 3 F_L_take (xO 0 (xV (fC (.int 6)) (xV (fC (.int 2)) xNil))) rvD)) (sSeq (sSetL 5 (fopL gAdd (fop gAdd (fCut (fCut (fVar 2) (fun _ => some none) (fun E => intP ((fun _ => some (.int 5)) E))) (fun _ => some none) (fun E => intP ((getV 4) E))) (fPub (fLst (fCons (fVar 3) fNil)))) (fCut (fCut (fVar 2) (fun _ => some none) (fun E => intP ((fun _ => some (.int 5)) E))) (fun E => intP ((getV 4) E)) (fun _ => some none)))) (sSeq (sApp 5 (fCallR 3 F_L_no_thing (xO 0 (xV (fVar 1) (xV (fC (.int 0)) xNil))) rvD)) (sSeq (sSet 6 (fop gMul (fPub (fLst (fCons (fVar 3) fNil))) (fC (.int 61)))) (sSeq (sSet 7 (fCallR 3 F_L_take (xO 0 (xV (fC (.int 12)) (xV (fC (.int 0)) xNil))) rvD)) (sSeq (sSet 8 (fop gIx (fPub (fLst (fCons (fop gAdd (fC (.int 11)) (fVar 7)) (fCons (fop gSub (fun1 gNeg (fC (.int 1))) (fVar 7)) fNil)))) (fCallR 3 F_L_take (xO 0 (xV (fC (.int 2)) (xV (fC (.int 0)) xNil))) rvD))) (sSeq (sSetL 9 (fLst (fCons (fTup (fCons (fC (.str "lot_of")) (fCons (fVar 8) (fCons (fVar 6) (fCons (fC .non) (fCons (fTup (fCons (fC (.str "number")) (fCons (fVar 8) fNil))) fNil)))))) fNil))) (sSeq (sApp 9 (fTup (fCons (fC (.str "all_lots")) (fCons (fVar 8) (fCons (fC .non) (fCons (fC .non) (fCons (fTup (fCons (fC (.str "number")) (fCons (fVar 8) fNil))) fNil))))))) (sSeq (sApp 9 (fTup (fCons (fC (.str "lot_of")) (fCons (fVar 1) (fCons (fVar 6) (fCons (fC .non) (fCons (fTup (fCons (fC (.str "size")) (fCons (fC (.int 61)) fNil))) fNil))))))) (fun E => (sSeq (sApp 9 (fTup (fCons (fC (.str "lot_of")) (fCons (fVar 1) (fCons (fVar 5) (fCons (fC .non) (fCons (fTup (fCons (fC (.str "thing")) (fCons (fVar 3) fNil))) fNil))))))) (sSeq (sFor (fun1L itemsD (fPub (fLst (fCons (fC (.str "joined")) (fCons (fC (.str "common")) (fCons (fC (.str "without")) fNil)))))) (gNm 10) (sSeq (sApp 9 (fTup (fCons (fVar 10) (fCons (fVar 8) (fCons (fVar 5) (fCons (fVar 6) (fCons (fTup (fCons (fC (.str "number")) (fCons (fVar 8) fNil))) fNil))))))) (sSeq (sApp 9 (fTup (fCons (fVar 10) (fCons (fVar 1) (fCons (fVar 5) (fCons (fVar 6) (fCons (fTup (fCons (fC (.str "thing")) (fCons (fVar 3) fNil))) fNil))))))) (sSeq (sApp 9 (fTup (fCons (fVar 10) (fCons (fVar 1) (fCons (fVar 6) (fCons (fVar 5) (fCons (fTup (fCons (fC (.str "size")) (fCons (fC (.int 61)) fNil))) fNil))))))) (sSeq (sApp 9 (fTup (fCons (fVar 10) (fCons (fVar 1) (fCons (fVar 2) (fCons (fVar 5) (fCons (fTup (fCons (fC (.str "thing")) (fCons (fVar 3) fNil))) fNil))))))) (sApp 9 (fTup (fCons (fVar 10) (fCons (fVar 1) (fCons (fVar 2) (fCons (fun1 gTuple (fVar 6)) (fCons (fTup (fCons (fC (.str "size")) (fCons (fC (.int 61)) fNil))) fNil)))))))))))) (sSeq (sSet 11 (fPub (fun1L itemsD (fVar 5)))) (fun E => (sRet (fAndV (fCallR 1 F_L_all_refused (xV (fVar 9) xNil) rvD) (fAndV (fop gEq (fVar 5) (fVar 11)) (fop gEq (fVar 6) (fop gMul (fPub (fLst (fCons (fVar 3) fNil))) (fC (.int 61))))))) (pubE 9 E))))) (pubE 5 E))))))))))))
def F_L_bad_lots : DF := runF 12 f_L_bad_lots
abbrev s_L_bad_costs : Stmt := top 43
def N_L_bad_costs : List Str := ["_law_tape_here", "_law_things", "_law_costs", "_law_one", "_law_odd", "_law_step", "_law_far", "_law_at", "_law_more", "_law_cases", "_law_kept", "_law_less", "_law_wrong", "_law_cost_here"]
def ps_L_bad_costs : List Str := ["_law_tape_here", "_law_things", "_law_costs", "_law_one"]
def f_L_bad_costs : J.Env → RS := (sSeq (sSet 4 (fCallR 3 F_L_no_thing (xO 0 (xV (fVar 1) (xV (fC (.int 2)) xNil))) rvD)) (sSeq (sSet 5 (fCallR 3 F_L_take (xO 0 (xV (fC (.int 12)) (xV (fC (.int 0)) xNil))) rvD)) (sSeq (sSet 6 (fop gIx (fPub (fLst (fCons (fop gAdd (fop gAdd (fop gPow (fC (.int 10)) (fC (.int 6))) (fC (.int 1))) (fVar 5)) (fCons (fop gSub (fop gSub (fun1 gNeg (fC (.int 1))) (fop gPow (fC (.int 10)) (fC (.int 6)))) (fVar 5)) fNil)))) (fCallR 3 F_L_take (xO 0 (xV (fC (.int 2)) (xV (fC (.int 1)) xNil))) rvD))) (sSeq (sSet 7 (fCallR 3 F_L_take (xO 0 (xV (fop gMax2 (fC (.int 1)) (fVar 1)) (xV (fC (.int 1)) xNil))) rvD)) (sSeq (sSet 8 (fop gAdd (fVar 2) (fPub (fLst (fCons (fVar 6) fNil))))) (sSeq (sSetL 9 (fLst (fCons (fTup (fCons (fC (.str "cost_of")) (fCons (fop gAdd (fC (.int 11)) (fVar 5)) (fCons (fPub (fLst (fCons (fVar 6) fNil))) (fCons (fPub (fLst (fCons (fVar 4) fNil))) (fCons (fTup (fCons (fC (.str "number")) (fCons (fop gAdd (fC (.int 11)) (fVar 5)) fNil))) fNil)))))) fNil))) (sSeq (sApp 9 (fTup (fCons (fC (.str "cost_of")) (fCons (fop gSub (fun1 gNeg (fC (.int 1))) (fVar 5)) (fCons (fPub (fLst (fCons (fVar 6) fNil))) (fCons (fPub (fLst (fCons (fVar 4) fNil))) (fCons (fTup (fCons (fC (.str "number")) (fCons (fop gSub (fun1 gNeg (fC (.int 1))) (fVar 5)) fNil))) fNil))))))) (sSeq (sApp 9 (fTup (fCons (fC (.str "cost_of")) (fCons (fVar 1) (fCons (fVar 8) (fCons (fPub (fLst (fCons (fVar 4) fNil))) (fCons (fTup (fCons (fC (.str "size")) (fCons (fop gAdd (fVar 1) (fC (.int 1))) fNil))) fNil))))))) (sSeq (sApp 9 (fTup (fCons (fC (.str "cost_of")) (fCons (fVar 1) (fCons (fVar 2) (fCons (fop gAdd (fCut (fVar 3) (fun _ => some none) (fun E => intP ((fun _ => some (.int 3)) E))) (fPub (fLst (fCons (fVar 4) fNil)))) (fCons (fTup (fCons (fC (.str "thing")) (fCons (fVar 4) fNil))) fNil))))))) (sSeq (sApp 9 (fTup (fCons (fC (.str "cost_of")) (fCons (fVar 1) (fCons (fVar 2) (fCons (fop gMul (fPub (fLst (fCons (fVar 4) fNil))) (fC (.int 61))) (fCons (fTup (fCons (fC (.str "size")) (fCons (fC (.int 61)) fNil))) fNil))))))) (sSeq (sIf (fTest (fop gGt (fVar 1) (fC (.int 0)))) (sSeq (sSet 11 (fCut (fVar 2) (fun E => intP ((fun _ => some (.int 1)) E)) (fun _ => some none))) (sSeq (sSetL 12 (fLc [13] (fun1L itemsD (fVar 2)) (gNm 13) fYes (fop gMul (fun1 gNeg (fC (.int 7))) (fVar 6)))) (sSeq (sSetIx 12 (fVar 7) (fVar 6)) (sSeq (sSetCut 12 (fun _ => some none) (fun E => intP ((getV 7) E)) (fCut (fVar 2) (fun _ => some none) (fun E => intP ((getV 7) E)))) (sSeq (sApp 9 (fTup (fCons (fC (.str "cost_of")) (fCons (fVar 1) (fCons (fVar 11) (fCons (fPub (fLst (fCons (fVar 4) fNil))) (fCons (fTup (fCons (fC (.str "size")) (fCons (fop gSub (fVar 1) (fC (.int 1))) fNil))) fNil))))))) (fun E => (sSeq (sApp 9 (fTup (fCons (fC (.str "cost_of")) (fCons (fVar 1) (fCons (fVar 12) (fCons (fPub (fLst (fCons (fVar 4) fNil))) (fCons (fTup (fCons (fC (.str "number")) (fCons (fVar 6) fNil))) fNil))))))) (sApp 9 (fTup (fCons (fC (.str "cost_of")) (fCons (fVar 1) (fCons (fun1 gTuple (fVar 12)) (fCons (fPub (fLst fNil)) (fCons (fTup (fCons (fC (.str "number")) (fCons (fVar 6) fNil))) fNil)))))))) (pubE 12 E))))))) sNil) (sSeq (sSet 10 (fPub (fun1L itemsD (fVar 2)))) (fun E => (sRet (fAndV (fCallR 1 F_L_all_refused (xV (fVar 9) xNil) rvD) (fop gEq (fVar 2) (fVar 10)))) (pubE 9 E))))))))))))))
def F_L_bad_costs : DF := runF 14 f_L_bad_costs
abbrev s_law : Stmt := top 44
def N_law : List Str := ["_law_script", "_law_tape_here", "_law_things", "_law_one", "_law_other", "_law_costs", "_law_extreme", "_law_k"]
def ps_law : List Str := ["_law_script"]
def f_law : J.Env → RS := (sSeq (sSetL 1 (fCallR 1 F_L_tape (xV (fVar 0) xNil) rvL)) (sSeq (sSet 2 (fop gIx (fPub (fLst (fCons (fC (.int 4)) (fCons (fC (.int 0)) (fCons (fC (.int 1)) (fCons (fC (.int 2)) (fCons (fC (.int 3)) (fCons (fC (.int 5)) (fCons (fC (.int 6)) (fCons (fC (.int 6)) (fCons (fC (.int 10)) (fCons (fC (.int 3)) (fCons (fC (.int 4)) (fCons (fC (.int 5)) fNil)))))))))))))) (fCallR 3 F_L_take (xO 1 (xV (fC (.int 12)) (xV (fC (.int 0)) xNil))) rvD))) (sSeq (sSet 3 (fCallR 3 F_L_entries (xO 1 (xV (fVar 2) (xV (fC (.int 2)) xNil))) rvD)) (sSeq (sSet 4 (fCallR 3 F_L_entries (xO 1 (xV (fVar 2) (xV (fC (.int 3)) xNil))) rvD)) (sSeq (sSetL 5 (fLc [7] (fRng1 (fVar 2)) (gNm 7) fYes (fop gSub (fCallR 3 F_L_take (xO 1 (xV (fC (.int 12)) (xV (fop gAdd (fop gMul (fC (.int 5)) (fVar 7)) (fC (.int 2))) xNil))) rvD) (fC (.int 4))))) (sSeq (sSet 6 (fCallR 3 F_L_take (xO 1 (xV (fC (.int 12)) (xV (fC (.int 1)) xNil))) rvD)) (sSeq (sIf (fTest (fop gLt (fVar 6) (fVar 2))) (sSetIx 5 (fVar 6) (fop gIx (fPub (fLst (fCons (fun1 gNeg (fop gPow (fC (.int 10)) (fC (.int 6)))) (fCons (fop gPow (fC (.int 10)) (fC (.int 6))) fNil)))) (fCallR 3 F_L_take (xO 1 (xV (fC (.int 2)) (xV (fC (.int 0)) xNil))) rvD))) sNil) (fun E => (sSeq (sIf (fOr (fNot (fTru (fCallR 1 F_L_all_lots (xV (fVar 2) xNil) rvD))) (fNot (fTru (fCallR 4 F_L_good (xV (fVar 2) (xV (fVar 5) (xV (fVar 3) (xV (fVar 4) xNil)))) rvD)))) (sRet (fC (.bl false))) sNil) (sSeq (sIf (fNot (fTru (fCallR 3 F_L_bad_lots (xO 1 (xV (fVar 2) (xV (fVar 3) xNil))) rvD))) (sRet (fC (.bl false))) sNil) (sSeq (sIf (fNot (fTru (fCallR 4 F_L_bad_costs (xO 1 (xV (fVar 2) (xV (fVar 5) (xV (fVar 4) xNil)))) rvD))) (sRet (fC (.bl false))) sNil) (sRet (fCallR 4 F_L_good (xV (fVar 2) (xV (fVar 5) (xV (fVar 3) (xV (fVar 4) xNil)))) rvD))))) (pubE 5 E)))))))))
def F_law : DF := runF 8 f_law
def frs : List Str := (["ValueError", "abs", "bool", "int", "isinstance", "len", "list", "max", "min", "range", "set", "sorted", "sum", "tuple", "super"] : List PySem.Str)
structure MF (K : PySem.W.Frag) (mg : Str → Option Value) : Prop where
  fr : ∀ x ∈ frs, mg x = none
  i_MOST_THINGS_LOOK : ∃ t, mg "MOST_THINGS_LOOK" = some (.int (10) t)
  i_MOST_LOT_ENTRIES : ∃ t, mg "MOST_LOT_ENTRIES" = some (.int (60) t)
  i_MOST_COST : ∃ t, mg "MOST_COST" = some (.int (1000000) t)
  cl_NodearerError : mg "NodearerError" = some (.ref (He.ga K "NodearerError"))
  cl_NumberError : mg "NumberError" = some (.ref (He.ga K "NumberError"))
  cl_SizeError : mg "SizeError" = some (.ref (He.ga K "SizeError"))
  cl_ThingError : mg "ThingError" = some (.ref (He.ga K "ThingError"))
  exm_SizeError : ∀ p ∈ tb_SizeError, PySem.W.exmOne K (.ref (He.ga K p.1)) (.ref (He.ga K "SizeError")) = some p.2
  exm_ThingError : ∀ p ∈ tb_ThingError, PySem.W.exmOne K (.ref (He.ga K p.1)) (.ref (He.ga K "ThingError")) = some p.2
  exm_NumberError : ∀ p ∈ tb_NumberError, PySem.W.exmOne K (.ref (He.ga K p.1)) (.ref (He.ga K "NumberError")) = some p.2
  fld_NumberError_number : XfC K (He.ga K "NumberError") ∧ PySem.W.findIn K (.ref (He.ga K "NumberError")) "number" = some none
  fld_SizeError_count : XfC K (He.ga K "SizeError") ∧ PySem.W.findIn K (.ref (He.ga K "SizeError")) "count" = some none
  fld_ThingError_thing : XfC K (He.ga K "ThingError") ∧ PySem.W.findIn K (.ref (He.ga K "ThingError")) "thing" = some none
  exc_NumberError : ExcC K (He.ga K "NumberError")
  exc_SizeError : ExcC K (He.ga K "SizeError")
  exc_ThingError : ExcC K (He.ga K "ThingError")
  kit_0 : PySem.W.kitOne K (.ref (He.ga K "SizeError")) (.ref (He.ga K "NodearerError")) = some true
  kit_1 : PySem.W.kitAny K (.ref (He.ga K "SizeError")) [.ref (He.ga K "NumberError"), .ref (He.ga K "ThingError")] = some false
  kit_2 : PySem.W.kitOne K (.ref (He.ga K "ThingError")) (.ref (He.ga K "NodearerError")) = some true
  kit_3 : PySem.W.kitOne K (.ref (He.ga K "ThingError")) (.ref (He.ga K "NumberError")) = some false
  kit_4 : PySem.W.kitOne K (.ref (He.ga K "NumberError")) (.ref (He.ga K "NodearerError")) = some true
  kit_5 : PySem.W.kitOne K (.ref (He.ga K "NumberError")) (.type "ValueError") = some true
section
variable {P : Program} {w : World} {K : PySem.W.Frag} {mg : Str → Option Value} {base : Heap}
theorem fld_NumberError_number (M : MF K mg) : ∀ c, okf_NumberError_number c = true → XfC K (He.ga K c) ∧ PySem.W.findIn K (.ref (He.ga K c)) "number" = some none := fun c e => by
  have e : c = "NumberError" := by simpa [okf_NumberError_number] using e
  subst e; exact M.fld_NumberError_number
theorem fld_SizeError_count (M : MF K mg) : ∀ c, okf_SizeError_count c = true → XfC K (He.ga K c) ∧ PySem.W.findIn K (.ref (He.ga K c)) "count" = some none := fun c e => by
  have e : c = "SizeError" := by simpa [okf_SizeError_count] using e
  subst e; exact M.fld_SizeError_count
theorem fld_ThingError_thing (M : MF K mg) : ∀ c, okf_ThingError_thing c = true → XfC K (He.ga K c) ∧ PySem.W.findIn K (.ref (He.ga K c)) "thing" = some none := fun c e => by
  have e : c = "ThingError" := by simpa [okf_ThingError_thing] using e
  subst e; exact M.fld_ThingError_thing
theorem isx_0_ok (M : MF K mg) : ∀ c b, isx_0 c = some b → ExcC K (He.ga K c) ∧ ∃ cv, [.ref (He.ga K "NodearerError")] = [cv] ∧ PySem.W.kitOne K (.ref (He.ga K c)) cv = some b := fun c b e => by
  obtain ⟨rfl, rfl⟩ := if_some e
  exact ⟨M.exc_SizeError, _, rfl, M.kit_0⟩
theorem isx_1_ok (M : MF K mg) : ∀ c b, isx_1 c = some b → ExcC K (He.ga K c) ∧ PySem.W.kitAny K (.ref (He.ga K c)) [.ref (He.ga K "NumberError"), .ref (He.ga K "ThingError")] = some b := fun c b e => by
  obtain ⟨rfl, rfl⟩ := if_some e
  exact ⟨M.exc_SizeError, M.kit_1⟩
theorem isx_2_ok (M : MF K mg) : ∀ c b, isx_2 c = some b → ExcC K (He.ga K c) ∧ ∃ cv, [.ref (He.ga K "NodearerError")] = [cv] ∧ PySem.W.kitOne K (.ref (He.ga K c)) cv = some b := fun c b e => by
  obtain ⟨rfl, rfl⟩ := if_some e
  exact ⟨M.exc_ThingError, _, rfl, M.kit_2⟩
theorem isx_3_ok (M : MF K mg) : ∀ c b, isx_3 c = some b → ExcC K (He.ga K c) ∧ ∃ cv, [.ref (He.ga K "NumberError")] = [cv] ∧ PySem.W.kitOne K (.ref (He.ga K c)) cv = some b := fun c b e => by
  obtain ⟨rfl, rfl⟩ := if_some e
  exact ⟨M.exc_ThingError, _, rfl, M.kit_3⟩
theorem isx_4_ok (M : MF K mg) : ∀ c b, isx_4 c = some b → ExcC K (He.ga K c) ∧ ∃ cv, [.ref (He.ga K "NodearerError")] = [cv] ∧ PySem.W.kitOne K (.ref (He.ga K c)) cv = some b := fun c b e => by
  obtain ⟨rfl, rfl⟩ := if_some e
  exact ⟨M.exc_NumberError, _, rfl, M.kit_4⟩
theorem isx_5_ok (M : MF K mg) : ∀ c b, isx_5 c = some b → ExcC K (He.ga K c) ∧ ∃ cv, [.type "ValueError"] = [cv] ∧ PySem.W.kitOne K (.ref (He.ga K c)) cv = some b := fun c b e => by
  obtain ⟨rfl, rfl⟩ := if_some e
  exact ⟨M.exc_NumberError, _, rfl, M.kit_5⟩
theorem sc_mask_of : FnScope N_mask_of ps_mask_of (defScope s_mask_of) := ⟨rfl, rfl, rfl, by decide +kernel, rfl, by decide +kernel, by decide +kernel⟩
theorem b_mask_of {fa : Addr} {cdv : Value} {A : Around} {outer : List PySem.Env} {s : Shared} {H : Hp} {E : XK} (M : MF K mg)    (hr : Room 0 (A.deeper (envOfC "mask_of" (defScope s_mask_of) s.heap.objs.size fa cdv))) (tk : L2N.Takes (cxOf (L2N.CX P w) P w K mg base N_mask_of "mask_of" (defScope s_mask_of) fa cdv A outer s H E) (fun c d _ H => E c d H)) (hp : PassesOwn (model P w) (cxOf (L2N.CX P w) P w K mg base N_mask_of "mask_of" (defScope s_mask_of) fa cdv A outer s H E).A (cxOf (L2N.CX P w) P w K mg base N_mask_of "mask_of" (defScope s_mask_of) fa cdv A outer s H E).env (cxOf (L2N.CX P w) P w K mg base N_mask_of "mask_of" (defScope s_mask_of) fa cdv A outer s H E).xe) :
    JSs (cxOf (L2N.CX P w) P w K mg base N_mask_of "mask_of" (defScope s_mask_of) fa cdv A outer s H E) (fun c d _ H => E c d H) (defBody s_mask_of) f_mask_of := by
  have hc : (cxOf (L2N.CX P w) P w K mg base N_mask_of "mask_of" (defScope s_mask_of) fa cdv A outer s H E).calm = true := rfl
  have hN : (cxOf (L2N.CX P w) P w K mg base N_mask_of "mask_of" (defScope s_mask_of) fa cdv A outer s H E).N.Nodup := sc_mask_of.nd
  have hu := hr.units
  exact (jss_cons (js_set 1 hN j_int) (jss_cons (js_for hp hc (ji_seq (j_var 0)) (jg_name 2 hN) (jss_one (js_set 1 hN (j_or_ (j_var 1) (JE.toO (j_shl j_int (JE.toO (j_var 2)))))))) (jss_one (js_ret (j_var 1)))))
theorem sc_lot_of_mask : FnScope N_lot_of_mask ps_lot_of_mask (defScope s_lot_of_mask) := ⟨rfl, rfl, rfl, by decide +kernel, rfl, by decide +kernel, by decide +kernel⟩
theorem b_lot_of_mask {fa : Addr} {cdv : Value} {A : Around} {outer : List PySem.Env} {s : Shared} {H : Hp} {E : XK} (M : MF K mg)    (hr : Room 0 (A.deeper (envOfC "lot_of_mask" (defScope s_lot_of_mask) s.heap.objs.size fa cdv))) (tk : L2N.Takes (cxOf (L2N.CX P w) P w K mg base N_lot_of_mask "lot_of_mask" (defScope s_lot_of_mask) fa cdv A outer s H E) (fun c d _ H => E c d H)) (hp : PassesOwn (model P w) (cxOf (L2N.CX P w) P w K mg base N_lot_of_mask "lot_of_mask" (defScope s_lot_of_mask) fa cdv A outer s H E).A (cxOf (L2N.CX P w) P w K mg base N_lot_of_mask "lot_of_mask" (defScope s_lot_of_mask) fa cdv A outer s H E).env (cxOf (L2N.CX P w) P w K mg base N_lot_of_mask "lot_of_mask" (defScope s_lot_of_mask) fa cdv A outer s H E).xe) :
    JSs (cxOf (L2N.CX P w) P w K mg base N_lot_of_mask "lot_of_mask" (defScope s_lot_of_mask) fa cdv A outer s H E) (fun c d _ H => E c d H) (defBody s_lot_of_mask) f_lot_of_mask := by
  have hc : (cxOf (L2N.CX P w) P w K mg base N_lot_of_mask "lot_of_mask" (defScope s_lot_of_mask) fa cdv A outer s H E).calm = true := rfl
  have hN : (cxOf (L2N.CX P w) P w K mg base N_lot_of_mask "lot_of_mask" (defScope s_lot_of_mask) fa cdv A outer s H E).N.Nodup := sc_lot_of_mask.nd
  have hu := hr.units
  exact (jss_one (js_ret (j_t1 call_tuple_of c1_tuple (M.fr "tuple" (by decide +kernel)) (by decide +kernel) (JE.toO (JL.toE (jl_lc [("thing", 1)] hc hN (ji_range1 (M.fr "range" (by decide +kernel)) (j_bits (j_var 0))) (blkOk_by (N := N_lot_of_mask) (sc := defScope s_lot_of_mask) (by decide +kernel)) (fun _ _ _ _ _ => (jg_name 1 hN)) (by decide) (fun _ _ _ _ _ => (jts_one (jt_tru (JE.toO (j_and_ (j_shr (j_var 0) (JE.toO (j_var 1))) (JE.toO j_int)))))) (fun _ _ _ _ _ => (j_var 1)) ))))))
theorem sc_masks_in_order : FnScope N_masks_in_order ps_masks_in_order (defScope s_masks_in_order) := ⟨rfl, rfl, rfl, by decide +kernel, rfl, by decide +kernel, by decide +kernel⟩
theorem b_masks_in_order {fa : Addr} {cdv : Value} {A : Around} {outer : List PySem.Env} {s : Shared} {H : Hp} {E : XK} (M : MF K mg)    (hr : Room 0 (A.deeper (envOfC "masks_in_order" (defScope s_masks_in_order) s.heap.objs.size fa cdv))) (tk : L2N.Takes (cxOf (L2N.CX P w) P w K mg base N_masks_in_order "masks_in_order" (defScope s_masks_in_order) fa cdv A outer s H E) (fun c d _ H => E c d H)) (hp : PassesOwn (model P w) (cxOf (L2N.CX P w) P w K mg base N_masks_in_order "masks_in_order" (defScope s_masks_in_order) fa cdv A outer s H E).A (cxOf (L2N.CX P w) P w K mg base N_masks_in_order "masks_in_order" (defScope s_masks_in_order) fa cdv A outer s H E).env (cxOf (L2N.CX P w) P w K mg base N_masks_in_order "masks_in_order" (defScope s_masks_in_order) fa cdv A outer s H E).xe) :
    JSs (cxOf (L2N.CX P w) P w K mg base N_masks_in_order "masks_in_order" (defScope s_masks_in_order) fa cdv A outer s H E) (fun c d _ H => E c d H) (defBody s_masks_in_order) f_masks_in_order := by
  have hc : (cxOf (L2N.CX P w) P w K mg base N_masks_in_order "masks_in_order" (defScope s_masks_in_order) fa cdv A outer s H E).calm = true := rfl
  have hN : (cxOf (L2N.CX P w) P w K mg base N_masks_in_order "masks_in_order" (defScope s_masks_in_order) fa cdv A outer s H E).N.Nodup := sc_masks_in_order.nd
  have hu := hr.units
  exact (jss_cons (js_set 1 hN (JL.toE (jl_lst (ja_cons j_int ja_nil)))) (jss_cons (js_set 2 hN (JL.toE (jl_lst (ja_cons (j_tup (ja_cons j_int (ja_cons j_int ja_nil))) ja_nil)))) (jss_cons (js_for hp hc (ji_range1 (M.fr "range" (by decide +kernel)) (j_var 0)) (jg_name 3 hN) (jss_cons (js_setLc2 2 [("mask", 4), ("begin", 5), ("thing", 6)] [6] hc hN (ji_seq (j_var 2)) (blkOk_by (N := N_masks_in_order) (sc := defScope s_masks_in_order) (by decide +kernel)) (by decide) (fun _ _ _ _ _ => (jg_tup hc (jgs_cons (jg_name 4 hN) (jgs_cons (jg_name 5 hN) jgs_nil)) (gs_lenS (gs_lenS gs_len0)))) (by decide) (fun _ _ _ _ _ => jts_nil) (fun _ _ _ _ _ => (ji_range2 (M.fr "range" (by decide +kernel)) (j_var 5) (j_var 0))) (fun _ _ _ _ _ => (jg_name 6 hN)) (by decide) (fun _ _ _ _ _ => jts_nil) (fun _ _ _ _ _ => (j_tup (ja_cons (j_or_ (j_var 4) (JE.toO (j_shl j_int (JE.toO (j_var 6))))) (ja_cons (j_add (j_var 6) (JE.toO j_int)) ja_nil))))) (JSs.pub 2 (jss_one (js_set 1 hN (j_add (j_var 1) (JE.toO (JL.toE (jl_lc [("mask", 4), ("_", 3)] hc hN (ji_seq (j_var 2)) (blkOk_by (N := N_masks_in_order) (sc := defScope s_masks_in_order) (by decide +kernel)) (fun _ _ _ _ _ => (jg_tup hc (jgs_cons (jg_name 4 hN) (jgs_cons (jg_name 3 hN) jgs_nil)) (gs_lenS (gs_lenS gs_len0)))) (by decide) (fun _ _ _ _ _ => jts_nil) (fun _ _ _ _ _ => (j_var 4)) ))))))))) (jss_one (js_ret (j_var 1))))))
theorem sc_L_tape : FnScope N_L_tape ps_L_tape (defScope s_L_tape) := ⟨rfl, rfl, rfl, by decide +kernel, rfl, by decide +kernel, by decide +kernel⟩
theorem b_L_tape {fa : Addr} {cdv : Value} {A : Around} {outer : List PySem.Env} {s : Shared} {H : Hp} {E : XK} (M : MF K mg)    (hr : Room 0 (A.deeper (envOfC "_law_tape" (defScope s_L_tape) s.heap.objs.size fa cdv))) (tk : L2N.Takes (cxOf (L2N.CX P w) P w K mg base N_L_tape "_law_tape" (defScope s_L_tape) fa cdv A outer s H E) (fun c d _ H => E c d H)) (hp : PassesOwn (model P w) (cxOf (L2N.CX P w) P w K mg base N_L_tape "_law_tape" (defScope s_L_tape) fa cdv A outer s H E).A (cxOf (L2N.CX P w) P w K mg base N_L_tape "_law_tape" (defScope s_L_tape) fa cdv A outer s H E).env (cxOf (L2N.CX P w) P w K mg base N_L_tape "_law_tape" (defScope s_L_tape) fa cdv A outer s H E).xe) :
    JSs (cxOf (L2N.CX P w) P w K mg base N_L_tape "_law_tape" (defScope s_L_tape) fa cdv A outer s H E) (fun c d _ H => E c d H) (defBody s_L_tape) f_L_tape := by
  have hc : (cxOf (L2N.CX P w) P w K mg base N_L_tape "_law_tape" (defScope s_L_tape) fa cdv A outer s H E).calm = true := rfl
  have hN : (cxOf (L2N.CX P w) P w K mg base N_L_tape "_law_tape" (defScope s_L_tape) fa cdv A outer s H E).N.Nodup := sc_L_tape.nd
  have hu := hr.units
  exact (jss_cons (js_setL 1 hN (jl_lst ja_nil)) (jss_cons (js_for hp hc (ji_seq (j_cut (JE.toO (j_var 0)) jp_none (jp_some jq_int))) (jg_name 2 hN) (jss_cons (js_set 3 hN (j_b1 call_abs c1_abs (M.fr "abs" (by decide +kernel)) (by decide +kernel) (JE.toO (j_var 2)))) (jss_one (js_for hp hc (ji_range1 (M.fr "range" (by decide +kernel)) j_int) (jg_name 4 hN) (jss_one (js_if (jt_cmp op_gt opS_B0 (j_var 3) (JE.toO j_int) (nomark _)) (jss_cons (js_app 1 (j_mod (j_t1 call_int1 c1_int (M.fr "int" (by decide +kernel)) (by decide +kernel) (JE.toO (j_var 3))) (JE.toO j_int))) (jss_one (js_set 3 hN (j_fdiv (j_var 3) (JE.toO j_int))))) jss_nil)))))) (jss_one (js_retL (jl_rev (j_bor 1))))))
theorem sc_L_take : FnScope N_L_take ps_L_take (defScope s_L_take) := ⟨rfl, rfl, rfl, by decide +kernel, rfl, by decide +kernel, by decide +kernel⟩
theorem b_L_take {fa : Addr} {cdv : Value} {A : Around} {outer : List PySem.Env} {s : Shared} {H : Hp} {E : XK} (M : MF K mg)    (hr : Room 0 (A.deeper (envOfC "_law_take" (defScope s_L_take) s.heap.objs.size fa cdv))) (tk : L2N.Takes (cxOf (L2N.CX P w) P w K mg base N_L_take "_law_take" (defScope s_L_take) fa cdv A outer s H E) (fun c d _ H => E c d H)) (hp : PassesOwn (model P w) (cxOf (L2N.CX P w) P w K mg base N_L_take "_law_take" (defScope s_L_take) fa cdv A outer s H E).A (cxOf (L2N.CX P w) P w K mg base N_L_take "_law_take" (defScope s_L_take) fa cdv A outer s H E).env (cxOf (L2N.CX P w) P w K mg base N_L_take "_law_take" (defScope s_L_take) fa cdv A outer s H E).xe) :
    JSs (cxOf (L2N.CX P w) P w K mg base N_L_take "_law_take" (defScope s_L_take) fa cdv A outer s H E) (fun c d _ H => E c d H) (defBody s_L_take) f_L_take := by
  have hc : (cxOf (L2N.CX P w) P w K mg base N_L_take "_law_take" (defScope s_L_take) fa cdv A outer s H E).calm = true := rfl
  have hN : (cxOf (L2N.CX P w) P w K mg base N_L_take "_law_take" (defScope s_L_take) fa cdv A outer s H E).N.Nodup := sc_L_take.nd
  have hu := hr.units
  exact (jss_cons (js_set 3 hN j_int) (jss_cons (js_if (jt_cmp op_gt opS_B0 (j_b1 call_len c1_len (M.fr "len" (by decide +kernel)) (by decide +kernel) (j_bor 0)) (JE.toO j_int) (nomark _)) (jss_one (js_set 3 hN (j_pop 0))) jss_nil) (jss_one (js_ret (j_mod (j_t1 call_int1 c1_int (M.fr "int" (by decide +kernel)) (by decide +kernel) (JE.toO (j_add (j_var 3) (JE.toO (j_var 2))))) (JE.toO (j_var 1)))))))
theorem sc_L_int : FnScope N_L_int ps_L_int (defScope s_L_int) := ⟨rfl, rfl, rfl, by decide +kernel, rfl, by decide +kernel, by decide +kernel⟩
theorem b_L_int {fa : Addr} {cdv : Value} {A : Around} {outer : List PySem.Env} {s : Shared} {H : Hp} {E : XK} (M : MF K mg)    (hr : Room 0 (A.deeper (envOfC "_law_int" (defScope s_L_int) s.heap.objs.size fa cdv))) (tk : L2N.Takes (cxOf (L2N.CX P w) P w K mg base N_L_int "_law_int" (defScope s_L_int) fa cdv A outer s H E) (fun c d _ H => E c d H)) (hp : PassesOwn (model P w) (cxOf (L2N.CX P w) P w K mg base N_L_int "_law_int" (defScope s_L_int) fa cdv A outer s H E).A (cxOf (L2N.CX P w) P w K mg base N_L_int "_law_int" (defScope s_L_int) fa cdv A outer s H E).env (cxOf (L2N.CX P w) P w K mg base N_L_int "_law_int" (defScope s_L_int) fa cdv A outer s H E).xe) :
    JSs (cxOf (L2N.CX P w) P w K mg base N_L_int "_law_int" (defScope s_L_int) fa cdv A outer s H E) (fun c d _ H => E c d H) (defBody s_L_int) f_L_int := by
  have hc : (cxOf (L2N.CX P w) P w K mg base N_L_int "_law_int" (defScope s_L_int) fa cdv A outer s H E).calm = true := rfl
  have hN : (cxOf (L2N.CX P w) P w K mg base N_L_int "_law_int" (defScope s_L_int) fa cdv A outer s H E).N.Nodup := sc_L_int.nd
  have hu := hr.units
  exact (jss_one (js_ret (j_and (j_isi (T := "int") (M.fr "isinstance" (by decide +kernel)) (M.fr "int" (by decide +kernel)) (by decide +kernel) (JE.toO (j_var 0))) (j_one (j_not (j_isi (T := "bool") (M.fr "isinstance" (by decide +kernel)) (M.fr "bool" (by decide +kernel)) (by decide +kernel) (JE.toO (j_var 0))))))))
theorem sc_L_entries : FnScope N_L_entries ps_L_entries (defScope s_L_entries) := ⟨rfl, rfl, rfl, by decide +kernel, rfl, by decide +kernel, by decide +kernel⟩
theorem b_L_entries {fa : Addr} {cdv : Value} {A : Around} {outer : List PySem.Env} {s : Shared} {H : Hp} {E : XK} (M : MF K mg) (h_L_take : FnJ P w K mg base 1 "_law_take" 3 F_L_take)   (hr : Room 1 (A.deeper (envOfC "_law_entries" (defScope s_L_entries) s.heap.objs.size fa cdv))) (tk : L2N.Takes (cxOf (L2N.CX P w) P w K mg base N_L_entries "_law_entries" (defScope s_L_entries) fa cdv A outer s H E) (fun c d _ H => E c d H)) (hp : PassesOwn (model P w) (cxOf (L2N.CX P w) P w K mg base N_L_entries "_law_entries" (defScope s_L_entries) fa cdv A outer s H E).A (cxOf (L2N.CX P w) P w K mg base N_L_entries "_law_entries" (defScope s_L_entries) fa cdv A outer s H E).env (cxOf (L2N.CX P w) P w K mg base N_L_entries "_law_entries" (defScope s_L_entries) fa cdv A outer s H E).xe) :
    JSs (cxOf (L2N.CX P w) P w K mg base N_L_entries "_law_entries" (defScope s_L_entries) fa cdv A outer s H E) (fun c d _ H => E c d H) (defBody s_L_entries) f_L_entries := by
  have hc : (cxOf (L2N.CX P w) P w K mg base N_L_entries "_law_entries" (defScope s_L_entries) fa cdv A outer s H E).calm = true := rfl
  have hN : (cxOf (L2N.CX P w) P w K mg base N_L_entries "_law_entries" (defScope s_L_entries) fa cdv A outer s H E).N.Nodup := sc_L_entries.nd
  have hu := hr.units
  exact (jss_cons (js_set 3 hN (j_call (h_L_take.mono (by decide : 1 ≤ 1)) hr tk (jx_o 0 (jx_v j_int (jx_v (j_var 2) jx_nil))))) (jss_cons (js_if (jt_cmp (op_eqD hu) opS_eq (j_var 1) (JE.toO j_int) (nomark _)) (jss_one (js_ret (JL.toE (jl_lst ja_nil)))) jss_nil) (jss_cons (js_setL 4 hN (jl_lst ja_nil)) (jss_cons (js_for hp hc (ji_range1 (M.fr "range" (by decide +kernel)) (j_b2 (call_min2 hc) c2_I (M.fr "min" (by decide +kernel)) (by decide +kernel) (j_var 3) (JE.toO j_int))) (jg_name 5 hN) (jss_one (js_app 4 (j_call (h_L_take.mono (by decide : 1 ≤ 1)) hr tk (jx_o 0 (jx_v (j_var 1) (jx_v (j_add (j_var 2) (JE.toO (j_mul j_int (JE.toO (j_var 5))))) jx_nil))))))) (JSs.pub 4 (jss_cons (js_if (jt_cmp (op_eqD hu) opS_eq (j_call (h_L_take.mono (by decide : 1 ≤ 1)) hr tk (jx_o 0 (jx_v j_int (jx_v j_int jx_nil)))) (JE.toO j_int) (nomark _)) (jss_one (js_set 4 hN (j_add (j_var 4) (JE.toO (j_cut (JE.toO (j_var 4)) jp_none (jp_some jq_int)))))) jss_nil) (jss_cons (js_if (jt_cmp (op_eqD hu) opS_eq (j_var 3) (JE.toO j_int) (nomark _)) (jss_one (js_ret (j_cut (JE.toO (j_mul (j_var 4) (JE.toO j_int))) jp_none (jp_some jq_int)))) jss_nil) (jss_one (js_ret (j_var 4))))))))))
theorem sc_L_no_thing : FnScope N_L_no_thing ps_L_no_thing (defScope s_L_no_thing) := ⟨rfl, rfl, rfl, by decide +kernel, rfl, by decide +kernel, by decide +kernel⟩
theorem b_L_no_thing {fa : Addr} {cdv : Value} {A : Around} {outer : List PySem.Env} {s : Shared} {H : Hp} {E : XK} (M : MF K mg) (h_L_take : FnJ P w K mg base 1 "_law_take" 3 F_L_take)   (hr : Room 1 (A.deeper (envOfC "_law_no_thing" (defScope s_L_no_thing) s.heap.objs.size fa cdv))) (tk : L2N.Takes (cxOf (L2N.CX P w) P w K mg base N_L_no_thing "_law_no_thing" (defScope s_L_no_thing) fa cdv A outer s H E) (fun c d _ H => E c d H)) (hp : PassesOwn (model P w) (cxOf (L2N.CX P w) P w K mg base N_L_no_thing "_law_no_thing" (defScope s_L_no_thing) fa cdv A outer s H E).A (cxOf (L2N.CX P w) P w K mg base N_L_no_thing "_law_no_thing" (defScope s_L_no_thing) fa cdv A outer s H E).env (cxOf (L2N.CX P w) P w K mg base N_L_no_thing "_law_no_thing" (defScope s_L_no_thing) fa cdv A outer s H E).xe) :
    JSs (cxOf (L2N.CX P w) P w K mg base N_L_no_thing "_law_no_thing" (defScope s_L_no_thing) fa cdv A outer s H E) (fun c d _ H => E c d H) (defBody s_L_no_thing) f_L_no_thing := by
  have hc : (cxOf (L2N.CX P w) P w K mg base N_L_no_thing "_law_no_thing" (defScope s_L_no_thing) fa cdv A outer s H E).calm = true := rfl
  have hN : (cxOf (L2N.CX P w) P w K mg base N_L_no_thing "_law_no_thing" (defScope s_L_no_thing) fa cdv A outer s H E).N.Nodup := sc_L_no_thing.nd
  have hu := hr.units
  exact (jss_cons (js_set 3 hN (j_call (h_L_take.mono (by decide : 1 ≤ 1)) hr tk (jx_o 0 (jx_v j_int (jx_v (j_var 2) jx_nil))))) (jss_cons (js_set 4 hN (j_call (h_L_take.mono (by decide : 1 ≤ 1)) hr tk (jx_o 0 (jx_v j_int (jx_v (j_var 2) jx_nil))))) (jss_one (js_ret (j_ix (JL.toE (jl_lst (ja_cons (j_add (j_var 1) (JE.toO (j_var 4))) (ja_cons (j_sub (j_neg j_int) (JE.toO (j_var 4))) (ja_cons (j_add (j_pow j_int (JE.toO j_int)) (JE.toO (j_var 4))) ja_nil))))) (JE.toO (j_var 3)))))))
theorem sc_L_is_lot : FnScope N_L_is_lot ps_L_is_lot (defScope s_L_is_lot) := ⟨rfl, rfl, rfl, by decide +kernel, rfl, by decide +kernel, by decide +kernel⟩
theorem b_L_is_lot {fa : Addr} {cdv : Value} {A : Around} {outer : List PySem.Env} {s : Shared} {H : Hp} {E : XK} (M : MF K mg) (h_L_int : FnJ P w K mg base 1 "_law_int" 1 F_L_int) (hH_L_int : FnHJ P w K mg base 1 "_law_int" 1 F_L_int)  (hr : Room 1 (A.deeper (envOfC "_law_is_lot" (defScope s_L_is_lot) s.heap.objs.size fa cdv))) (tk : L2N.Takes (cxOf (L2N.CX P w) P w K mg base N_L_is_lot "_law_is_lot" (defScope s_L_is_lot) fa cdv A outer s H E) (fun c d _ H => E c d H)) (hp : PassesOwn (model P w) (cxOf (L2N.CX P w) P w K mg base N_L_is_lot "_law_is_lot" (defScope s_L_is_lot) fa cdv A outer s H E).A (cxOf (L2N.CX P w) P w K mg base N_L_is_lot "_law_is_lot" (defScope s_L_is_lot) fa cdv A outer s H E).env (cxOf (L2N.CX P w) P w K mg base N_L_is_lot "_law_is_lot" (defScope s_L_is_lot) fa cdv A outer s H E).xe) :
    JSs (cxOf (L2N.CX P w) P w K mg base N_L_is_lot "_law_is_lot" (defScope s_L_is_lot) fa cdv A outer s H E) (fun c d _ H => E c d H) (defBody s_L_is_lot) f_L_is_lot := by
  have hc : (cxOf (L2N.CX P w) P w K mg base N_L_is_lot "_law_is_lot" (defScope s_L_is_lot) fa cdv A outer s H E).calm = true := rfl
  have hN : (cxOf (L2N.CX P w) P w K mg base N_L_is_lot "_law_is_lot" (defScope s_L_is_lot) fa cdv A outer s H E).N.Nodup := sc_L_is_lot.nd
  have hu := hr.units
  exact (jss_cons (js_if (JW.t (jw_or (jt_not (jt_tru (JE.toO (j_isi (T := "tuple") (M.fr "isinstance" (by decide +kernel)) (M.fr "tuple" (by decide +kernel)) (by decide +kernel) (JE.toO (j_var 0)))))) (jw_or1 (jt_cmp (op_neD hu) opS_ne (j_b1 call_len c1_len (M.fr "len" (by decide +kernel)) (by decide +kernel) (JE.toO (j_var 0))) (JE.toO (j_b1 call_len c1_len (M.fr "len" (by decide +kernel)) (by decide +kernel) (JE.toO (j_var 1)))) (nomark _))))) (jss_one (js_ret j_bl)) jss_nil) (jss_cons (js_for hp hc (ji_range1 (M.fr "range" (by decide +kernel)) (j_b1 call_len c1_len (M.fr "len" (by decide +kernel)) (by decide +kernel) (JE.toO (j_var 1)))) (jg_name 2 hN) (jss_one (js_if (JW.t (jw_or (jt_not (jt_tru (JE.toO (j_call (h_L_int.mono (by decide : 1 ≤ 1)) hr tk (jx_v (j_ix (j_var 0) (JE.toO (j_var 2))) jx_nil))))) (jw_or1 (jt_cmp (op_neD hu) opS_ne (j_ix (j_var 0) (JE.toO (j_var 2))) (JE.toO (j_ix (j_var 1) (JE.toO (j_var 2)))) (nomark _))))) (jss_one (js_ret j_bl)) jss_nil))) (jss_one (js_ret j_bl))))
theorem sc_L_ascending : FnScope N_L_ascending ps_L_ascending (defScope s_L_ascending) := ⟨rfl, rfl, rfl, by decide +kernel, rfl, by decide +kernel, by decide +kernel⟩
theorem b_L_ascending {fa : Addr} {cdv : Value} {A : Around} {outer : List PySem.Env} {s : Shared} {H : Hp} {E : XK} (M : MF K mg) (h_L_int : FnJ P w K mg base 1 "_law_int" 1 F_L_int) (hH_L_int : FnHJ P w K mg base 1 "_law_int" 1 F_L_int)  (hr : Room 1 (A.deeper (envOfC "_law_ascending" (defScope s_L_ascending) s.heap.objs.size fa cdv))) (tk : L2N.Takes (cxOf (L2N.CX P w) P w K mg base N_L_ascending "_law_ascending" (defScope s_L_ascending) fa cdv A outer s H E) (fun c d _ H => E c d H)) (hp : PassesOwn (model P w) (cxOf (L2N.CX P w) P w K mg base N_L_ascending "_law_ascending" (defScope s_L_ascending) fa cdv A outer s H E).A (cxOf (L2N.CX P w) P w K mg base N_L_ascending "_law_ascending" (defScope s_L_ascending) fa cdv A outer s H E).env (cxOf (L2N.CX P w) P w K mg base N_L_ascending "_law_ascending" (defScope s_L_ascending) fa cdv A outer s H E).xe) :
    JSs (cxOf (L2N.CX P w) P w K mg base N_L_ascending "_law_ascending" (defScope s_L_ascending) fa cdv A outer s H E) (fun c d _ H => E c d H) (defBody s_L_ascending) f_L_ascending := by
  have hc : (cxOf (L2N.CX P w) P w K mg base N_L_ascending "_law_ascending" (defScope s_L_ascending) fa cdv A outer s H E).calm = true := rfl
  have hN : (cxOf (L2N.CX P w) P w K mg base N_L_ascending "_law_ascending" (defScope s_L_ascending) fa cdv A outer s H E).N.Nodup := sc_L_ascending.nd
  have hu := hr.units
  exact (jss_cons (js_if (jt_not (jt_tru (JE.toO (j_isi (T := "tuple") (M.fr "isinstance" (by decide +kernel)) (M.fr "tuple" (by decide +kernel)) (by decide +kernel) (JE.toO (j_var 0)))))) (jss_one (js_ret j_bl)) jss_nil) (jss_cons (js_set 2 hN j_int) (jss_cons (js_for hp hc (ji_seq (j_var 0)) (jg_name 3 hN) (jss_cons (js_if (JW.t (jw_or (jt_not (jt_tru (JE.toO (j_call (h_L_int.mono (by decide : 1 ≤ 1)) hr tk (jx_v (j_var 3) jx_nil))))) (jw_or1 (jt_not (jt_chain op_le op_lt opS_B0 opS_B0 (j_var 2) (j_var 3) (JE.toO (j_var 1))))))) (jss_one (js_ret j_bl)) jss_nil) (jss_one (js_set 2 hN (j_add (j_var 3) (JE.toO j_int)))))) (jss_one (js_ret j_bl)))))
theorem sc_look_number : FnScope N_look_number ps_look_number (defScope s_look_number) := ⟨rfl, rfl, rfl, by decide +kernel, rfl, by decide +kernel, by decide +kernel⟩
theorem b_look_number {fa : Addr} {cdv : Value} {A : Around} {outer : List PySem.Env} {s : Shared} {H : Hp} {E : XK} (M : MF K mg)   (e_NumberError : ExcJ P w K mg base 1 "NumberError" 1 Fx_NumberError) (hr : Room 2 (A.deeper (envOfC "look_number" (defScope s_look_number) s.heap.objs.size fa cdv))) (tk : L2N.Takes (cxOf (L2N.CX P w) P w K mg base N_look_number "look_number" (defScope s_look_number) fa cdv A outer s H E) (fun c d _ H => E c d H)) (hp : PassesOwn (model P w) (cxOf (L2N.CX P w) P w K mg base N_look_number "look_number" (defScope s_look_number) fa cdv A outer s H E).A (cxOf (L2N.CX P w) P w K mg base N_look_number "look_number" (defScope s_look_number) fa cdv A outer s H E).env (cxOf (L2N.CX P w) P w K mg base N_look_number "look_number" (defScope s_look_number) fa cdv A outer s H E).xe) :
    JSs (cxOf (L2N.CX P w) P w K mg base N_look_number "look_number" (defScope s_look_number) fa cdv A outer s H E) (fun c d _ H => E c d H) (defBody s_look_number) f_look_number := by
  have hc : (cxOf (L2N.CX P w) P w K mg base N_look_number "look_number" (defScope s_look_number) fa cdv A outer s H E).calm = true := rfl
  have hN : (cxOf (L2N.CX P w) P w K mg base N_look_number "look_number" (defScope s_look_number) fa cdv A outer s H E).N.Nodup := sc_look_number.nd
  have hu := hr.units
  exact (jss_cons (js_if (JW.t (jw_or (jt_cmp op_lt opS_B0 (j_var 0) (JE.toO (j_var 1)) (nomark _)) (jw_or1 (jt_cmp op_gt opS_B0 (j_var 0) (JE.toO (j_var 2)) (nomark _))))) (jss_one (js_raise hc tk e_NumberError (hr.mono (by decide)) (ja_cons (j_var 0) ja_nil))) jss_nil) (jss_one (js_ret (j_var 0))))
theorem sc_look_size : FnScope N_look_size ps_look_size (defScope s_look_size) := ⟨rfl, rfl, rfl, by decide +kernel, rfl, by decide +kernel, by decide +kernel⟩
theorem b_look_size {fa : Addr} {cdv : Value} {A : Around} {outer : List PySem.Env} {s : Shared} {H : Hp} {E : XK} (M : MF K mg)   (e_SizeError : ExcJ P w K mg base 1 "SizeError" 1 Fx_SizeError) (hr : Room 2 (A.deeper (envOfC "look_size" (defScope s_look_size) s.heap.objs.size fa cdv))) (tk : L2N.Takes (cxOf (L2N.CX P w) P w K mg base N_look_size "look_size" (defScope s_look_size) fa cdv A outer s H E) (fun c d _ H => E c d H)) (hp : PassesOwn (model P w) (cxOf (L2N.CX P w) P w K mg base N_look_size "look_size" (defScope s_look_size) fa cdv A outer s H E).A (cxOf (L2N.CX P w) P w K mg base N_look_size "look_size" (defScope s_look_size) fa cdv A outer s H E).env (cxOf (L2N.CX P w) P w K mg base N_look_size "look_size" (defScope s_look_size) fa cdv A outer s H E).xe) :
    JSs (cxOf (L2N.CX P w) P w K mg base N_look_size "look_size" (defScope s_look_size) fa cdv A outer s H E) (fun c d _ H => E c d H) (defBody s_look_size) f_look_size := by
  have hc : (cxOf (L2N.CX P w) P w K mg base N_look_size "look_size" (defScope s_look_size) fa cdv A outer s H E).calm = true := rfl
  have hN : (cxOf (L2N.CX P w) P w K mg base N_look_size "look_size" (defScope s_look_size) fa cdv A outer s H E).N.Nodup := sc_look_size.nd
  have hu := hr.units
  exact (jss_cons (js_set 3 hN (j_b1 call_len c1_len (M.fr "len" (by decide +kernel)) (by decide +kernel) (JE.toO (j_var 0)))) (jss_cons (js_if (JW.t (jw_or (jt_cmp op_lt opS_B0 (j_var 3) (JE.toO (j_var 1)) (nomark _)) (jw_or1 (jt_cmp op_gt opS_B0 (j_var 3) (JE.toO (j_var 2)) (nomark _))))) (jss_one (js_raise hc tk e_SizeError (hr.mono (by decide)) (ja_cons (j_var 3) ja_nil))) jss_nil) (jss_one (js_ret (j_var 0)))))
theorem sc_look_thing : FnScope N_look_thing ps_look_thing (defScope s_look_thing) := ⟨rfl, rfl, rfl, by decide +kernel, rfl, by decide +kernel, by decide +kernel⟩
theorem b_look_thing {fa : Addr} {cdv : Value} {A : Around} {outer : List PySem.Env} {s : Shared} {H : Hp} {E : XK} (M : MF K mg)   (e_ThingError : ExcJ P w K mg base 1 "ThingError" 1 Fx_ThingError) (hr : Room 2 (A.deeper (envOfC "look_thing" (defScope s_look_thing) s.heap.objs.size fa cdv))) (tk : L2N.Takes (cxOf (L2N.CX P w) P w K mg base N_look_thing "look_thing" (defScope s_look_thing) fa cdv A outer s H E) (fun c d _ H => E c d H)) (hp : PassesOwn (model P w) (cxOf (L2N.CX P w) P w K mg base N_look_thing "look_thing" (defScope s_look_thing) fa cdv A outer s H E).A (cxOf (L2N.CX P w) P w K mg base N_look_thing "look_thing" (defScope s_look_thing) fa cdv A outer s H E).env (cxOf (L2N.CX P w) P w K mg base N_look_thing "look_thing" (defScope s_look_thing) fa cdv A outer s H E).xe) :
    JSs (cxOf (L2N.CX P w) P w K mg base N_look_thing "look_thing" (defScope s_look_thing) fa cdv A outer s H E) (fun c d _ H => E c d H) (defBody s_look_thing) f_look_thing := by
  have hc : (cxOf (L2N.CX P w) P w K mg base N_look_thing "look_thing" (defScope s_look_thing) fa cdv A outer s H E).calm = true := rfl
  have hN : (cxOf (L2N.CX P w) P w K mg base N_look_thing "look_thing" (defScope s_look_thing) fa cdv A outer s H E).N.Nodup := sc_look_thing.nd
  have hu := hr.units
  exact (jss_cons (js_if (JW.t (jw_or (jt_cmp op_lt opS_B0 (j_var 1) (JE.toO j_int) (nomark _)) (jw_or1 (jt_cmp op_ge opS_B0 (j_var 1) (JE.toO (j_var 0)) (nomark _))))) (jss_one (js_raise hc tk e_ThingError (hr.mono (by decide)) (ja_cons (j_var 1) ja_nil))) jss_nil) (jss_one (js_ret (j_var 1))))
theorem sc_look_numbers : FnScope N_look_numbers ps_look_numbers (defScope s_look_numbers) := ⟨rfl, rfl, rfl, by decide +kernel, rfl, by decide +kernel, by decide +kernel⟩
theorem b_look_numbers {fa : Addr} {cdv : Value} {A : Around} {outer : List PySem.Env} {s : Shared} {H : Hp} {E : XK} (M : MF K mg) (h_look_number : FnJ P w K mg base 3 "look_number" 3 F_look_number) (h_look_size : FnJ P w K mg base 3 "look_size" 3 F_look_size)   (hr : Room 3 (A.deeper (envOfC "look_numbers" (defScope s_look_numbers) s.heap.objs.size fa cdv))) (tk : L2N.Takes (cxOf (L2N.CX P w) P w K mg base N_look_numbers "look_numbers" (defScope s_look_numbers) fa cdv A outer s H E) (fun c d _ H => E c d H)) (hp : PassesOwn (model P w) (cxOf (L2N.CX P w) P w K mg base N_look_numbers "look_numbers" (defScope s_look_numbers) fa cdv A outer s H E).A (cxOf (L2N.CX P w) P w K mg base N_look_numbers "look_numbers" (defScope s_look_numbers) fa cdv A outer s H E).env (cxOf (L2N.CX P w) P w K mg base N_look_numbers "look_numbers" (defScope s_look_numbers) fa cdv A outer s H E).xe) :
    JSs (cxOf (L2N.CX P w) P w K mg base N_look_numbers "look_numbers" (defScope s_look_numbers) fa cdv A outer s H E) (fun c d _ H => E c d H) (defBody s_look_numbers) f_look_numbers := by
  have hc : (cxOf (L2N.CX P w) P w K mg base N_look_numbers "look_numbers" (defScope s_look_numbers) fa cdv A outer s H E).calm = true := rfl
  have hN : (cxOf (L2N.CX P w) P w K mg base N_look_numbers "look_numbers" (defScope s_look_numbers) fa cdv A outer s H E).N.Nodup := sc_look_numbers.nd
  have hu := hr.units
  exact (jss_cons (js_expr (j_call (h_look_size.mono (by decide : 3 ≤ 3)) hr tk (jx_v (j_var 0) (jx_v (j_var 1) (jx_v (j_var 2) jx_nil))))) (jss_cons (js_for hp hc (ji_seq (j_var 0)) (jg_name 5 hN) (jss_one (js_expr (j_call (h_look_number.mono (by decide : 3 ≤ 3)) hr tk (jx_v (j_var 5) (jx_v (j_var 3) (jx_v (j_var 4) jx_nil))))))) (jss_one (js_ret (j_t1 call_tuple_of c1_tuple (M.fr "tuple" (by decide +kernel)) (by decide +kernel) (JE.toO (j_var 0)))))))
theorem sc_look_things : FnScope N_look_things ps_look_things (defScope s_look_things) := ⟨rfl, rfl, rfl, by decide +kernel, rfl, by decide +kernel, by decide +kernel⟩
theorem b_look_things {fa : Addr} {cdv : Value} {A : Around} {outer : List PySem.Env} {s : Shared} {H : Hp} {E : XK} (M : MF K mg) (h_look_number : FnJ P w K mg base 3 "look_number" 3 F_look_number)   (hr : Room 3 (A.deeper (envOfC "look_things" (defScope s_look_things) s.heap.objs.size fa cdv))) (tk : L2N.Takes (cxOf (L2N.CX P w) P w K mg base N_look_things "look_things" (defScope s_look_things) fa cdv A outer s H E) (fun c d _ H => E c d H)) (hp : PassesOwn (model P w) (cxOf (L2N.CX P w) P w K mg base N_look_things "look_things" (defScope s_look_things) fa cdv A outer s H E).A (cxOf (L2N.CX P w) P w K mg base N_look_things "look_things" (defScope s_look_things) fa cdv A outer s H E).env (cxOf (L2N.CX P w) P w K mg base N_look_things "look_things" (defScope s_look_things) fa cdv A outer s H E).xe) :
    JSs (cxOf (L2N.CX P w) P w K mg base N_look_things "look_things" (defScope s_look_things) fa cdv A outer s H E) (fun c d _ H => E c d H) (defBody s_look_things) f_look_things := by
  have hc : (cxOf (L2N.CX P w) P w K mg base N_look_things "look_things" (defScope s_look_things) fa cdv A outer s H E).calm = true := rfl
  have hN : (cxOf (L2N.CX P w) P w K mg base N_look_things "look_things" (defScope s_look_things) fa cdv A outer s H E).N.Nodup := sc_look_things.nd
  have hu := hr.units
  exact (jss_one (js_ret (j_call (h_look_number.mono (by decide : 3 ≤ 3)) hr tk (jx_v (j_var 0) (jx_v j_int (jx_v (j_gint M.i_MOST_THINGS_LOOK) jx_nil))))))
theorem sc_look_lot : FnScope N_look_lot ps_look_lot (defScope s_look_lot) := ⟨rfl, rfl, rfl, by decide +kernel, rfl, by decide +kernel, by decide +kernel⟩
theorem b_look_lot {fa : Addr} {cdv : Value} {A : Around} {outer : List PySem.Env} {s : Shared} {H : Hp} {E : XK} (M : MF K mg) (h_look_size : FnJ P w K mg base 3 "look_size" 3 F_look_size) (h_look_thing : FnJ P w K mg base 3 "look_thing" 2 F_look_thing)   (hr : Room 3 (A.deeper (envOfC "look_lot" (defScope s_look_lot) s.heap.objs.size fa cdv))) (tk : L2N.Takes (cxOf (L2N.CX P w) P w K mg base N_look_lot "look_lot" (defScope s_look_lot) fa cdv A outer s H E) (fun c d _ H => E c d H)) (hp : PassesOwn (model P w) (cxOf (L2N.CX P w) P w K mg base N_look_lot "look_lot" (defScope s_look_lot) fa cdv A outer s H E).A (cxOf (L2N.CX P w) P w K mg base N_look_lot "look_lot" (defScope s_look_lot) fa cdv A outer s H E).env (cxOf (L2N.CX P w) P w K mg base N_look_lot "look_lot" (defScope s_look_lot) fa cdv A outer s H E).xe) :
    JSs (cxOf (L2N.CX P w) P w K mg base N_look_lot "look_lot" (defScope s_look_lot) fa cdv A outer s H E) (fun c d _ H => E c d H) (defBody s_look_lot) f_look_lot := by
  have hc : (cxOf (L2N.CX P w) P w K mg base N_look_lot "look_lot" (defScope s_look_lot) fa cdv A outer s H E).calm = true := rfl
  have hN : (cxOf (L2N.CX P w) P w K mg base N_look_lot "look_lot" (defScope s_look_lot) fa cdv A outer s H E).N.Nodup := sc_look_lot.nd
  have hu := hr.units
  exact (jss_cons (js_expr (j_call (h_look_size.mono (by decide : 3 ≤ 3)) hr tk (jx_v (j_var 1) (jx_v j_int (jx_v (j_gint M.i_MOST_LOT_ENTRIES) jx_nil))))) (jss_cons (js_for hp hc (ji_seq (j_var 1)) (jg_name 2 hN) (jss_one (js_expr (j_call (h_look_thing.mono (by decide : 3 ≤ 3)) hr tk (jx_v (j_var 0) (jx_v (j_var 2) jx_nil)))))) (jss_one (js_ret (j_t1 call_tuple_of c1_tuple (M.fr "tuple" (by decide +kernel)) (by decide +kernel) (JE.toO (JL.toE (jl_ss hc (M.fr "sorted" (by decide +kernel)) (M.fr "set" (by decide +kernel)) (JE.toO (j_var 1))))))))))
theorem sc_look_costs : FnScope N_look_costs ps_look_costs (defScope s_look_costs) := ⟨rfl, rfl, rfl, by decide +kernel, rfl, by decide +kernel, by decide +kernel⟩
theorem b_look_costs {fa : Addr} {cdv : Value} {A : Around} {outer : List PySem.Env} {s : Shared} {H : Hp} {E : XK} (M : MF K mg) (h_look_numbers : FnJ P w K mg base 4 "look_numbers" 5 F_look_numbers)   (hr : Room 4 (A.deeper (envOfC "look_costs" (defScope s_look_costs) s.heap.objs.size fa cdv))) (tk : L2N.Takes (cxOf (L2N.CX P w) P w K mg base N_look_costs "look_costs" (defScope s_look_costs) fa cdv A outer s H E) (fun c d _ H => E c d H)) (hp : PassesOwn (model P w) (cxOf (L2N.CX P w) P w K mg base N_look_costs "look_costs" (defScope s_look_costs) fa cdv A outer s H E).A (cxOf (L2N.CX P w) P w K mg base N_look_costs "look_costs" (defScope s_look_costs) fa cdv A outer s H E).env (cxOf (L2N.CX P w) P w K mg base N_look_costs "look_costs" (defScope s_look_costs) fa cdv A outer s H E).xe) :
    JSs (cxOf (L2N.CX P w) P w K mg base N_look_costs "look_costs" (defScope s_look_costs) fa cdv A outer s H E) (fun c d _ H => E c d H) (defBody s_look_costs) f_look_costs := by
  have hc : (cxOf (L2N.CX P w) P w K mg base N_look_costs "look_costs" (defScope s_look_costs) fa cdv A outer s H E).calm = true := rfl
  have hN : (cxOf (L2N.CX P w) P w K mg base N_look_costs "look_costs" (defScope s_look_costs) fa cdv A outer s H E).N.Nodup := sc_look_costs.nd
  have hu := hr.units
  exact (jss_one (js_ret (j_call (h_look_numbers.mono (by decide : 4 ≤ 4)) hr tk (jx_v (j_var 1) (jx_v (j_var 0) (jx_v (j_var 0) (jx_v (j_neg (j_gint M.i_MOST_COST)) (jx_v (j_gint M.i_MOST_COST) jx_nil))))))))
theorem sc_lot_of : FnScope N_lot_of ps_lot_of (defScope s_lot_of) := ⟨rfl, rfl, rfl, by decide +kernel, rfl, by decide +kernel, by decide +kernel⟩
theorem b_lot_of {fa : Addr} {cdv : Value} {A : Around} {outer : List PySem.Env} {s : Shared} {H : Hp} {E : XK} (M : MF K mg) (h_look_lot : FnJ P w K mg base 4 "look_lot" 2 F_look_lot) (h_look_things : FnJ P w K mg base 4 "look_things" 1 F_look_things)   (hr : Room 4 (A.deeper (envOfC "lot_of" (defScope s_lot_of) s.heap.objs.size fa cdv))) (tk : L2N.Takes (cxOf (L2N.CX P w) P w K mg base N_lot_of "lot_of" (defScope s_lot_of) fa cdv A outer s H E) (fun c d _ H => E c d H)) (hp : PassesOwn (model P w) (cxOf (L2N.CX P w) P w K mg base N_lot_of "lot_of" (defScope s_lot_of) fa cdv A outer s H E).A (cxOf (L2N.CX P w) P w K mg base N_lot_of "lot_of" (defScope s_lot_of) fa cdv A outer s H E).env (cxOf (L2N.CX P w) P w K mg base N_lot_of "lot_of" (defScope s_lot_of) fa cdv A outer s H E).xe) :
    JSs (cxOf (L2N.CX P w) P w K mg base N_lot_of "lot_of" (defScope s_lot_of) fa cdv A outer s H E) (fun c d _ H => E c d H) (defBody s_lot_of) f_lot_of := by
  have hc : (cxOf (L2N.CX P w) P w K mg base N_lot_of "lot_of" (defScope s_lot_of) fa cdv A outer s H E).calm = true := rfl
  have hN : (cxOf (L2N.CX P w) P w K mg base N_lot_of "lot_of" (defScope s_lot_of) fa cdv A outer s H E).N.Nodup := sc_lot_of.nd
  have hu := hr.units
  exact (jss_cons (js_expr (j_call (h_look_things.mono (by decide : 4 ≤ 4)) hr tk (jx_v (j_var 0) jx_nil))) (jss_one (js_ret (j_call (h_look_lot.mono (by decide : 4 ≤ 4)) hr tk (jx_v (j_var 0) (jx_v (j_var 1) jx_nil))))))
theorem sc_all_lots : FnScope N_all_lots ps_all_lots (defScope s_all_lots) := ⟨rfl, rfl, rfl, by decide +kernel, rfl, by decide +kernel, by decide +kernel⟩
theorem b_all_lots {fa : Addr} {cdv : Value} {A : Around} {outer : List PySem.Env} {s : Shared} {H : Hp} {E : XK} (M : MF K mg) (h_look_things : FnJ P w K mg base 4 "look_things" 1 F_look_things) (h_lot_of_mask : FnJ P w K mg base 1 "lot_of_mask" 1 F_lot_of_mask) (h_masks_in_order : FnJ P w K mg base 1 "masks_in_order" 1 F_masks_in_order)   (hr : Room 4 (A.deeper (envOfC "all_lots" (defScope s_all_lots) s.heap.objs.size fa cdv))) (tk : L2N.Takes (cxOf (L2N.CX P w) P w K mg base N_all_lots "all_lots" (defScope s_all_lots) fa cdv A outer s H E) (fun c d _ H => E c d H)) (hp : PassesOwn (model P w) (cxOf (L2N.CX P w) P w K mg base N_all_lots "all_lots" (defScope s_all_lots) fa cdv A outer s H E).A (cxOf (L2N.CX P w) P w K mg base N_all_lots "all_lots" (defScope s_all_lots) fa cdv A outer s H E).env (cxOf (L2N.CX P w) P w K mg base N_all_lots "all_lots" (defScope s_all_lots) fa cdv A outer s H E).xe) :
    JSs (cxOf (L2N.CX P w) P w K mg base N_all_lots "all_lots" (defScope s_all_lots) fa cdv A outer s H E) (fun c d _ H => E c d H) (defBody s_all_lots) f_all_lots := by
  have hc : (cxOf (L2N.CX P w) P w K mg base N_all_lots "all_lots" (defScope s_all_lots) fa cdv A outer s H E).calm = true := rfl
  have hN : (cxOf (L2N.CX P w) P w K mg base N_all_lots "all_lots" (defScope s_all_lots) fa cdv A outer s H E).N.Nodup := sc_all_lots.nd
  have hu := hr.units
  exact (jss_cons (js_expr (j_call (h_look_things.mono (by decide : 4 ≤ 4)) hr tk (jx_v (j_var 0) jx_nil))) (jss_one (js_retL (jl_lc [("mask", 1)] hc hN (ji_seq (j_call (h_masks_in_order.mono (by decide : 1 ≤ 4)) hr tk (jx_v (j_var 0) jx_nil))) (blkOk_by (N := N_all_lots) (sc := defScope s_all_lots) (by decide +kernel)) (fun _ _ _ _ _ => (jg_name 1 hN)) (by decide) (fun _ _ _ _ _ => jts_nil) (fun _ _ _ _ _ => (j_call (h_lot_of_mask.mono (by decide : 1 ≤ 4)) hr takes_blk (jx_v (j_var 1) jx_nil))) ))))
theorem sc_P_two_masks : FnScope N_P_two_masks ps_P_two_masks (defScope s_P_two_masks) := ⟨rfl, rfl, rfl, by decide +kernel, rfl, by decide +kernel, by decide +kernel⟩
theorem b_P_two_masks {fa : Addr} {cdv : Value} {A : Around} {outer : List PySem.Env} {s : Shared} {H : Hp} {E : XK} (M : MF K mg) (h_look_lot : FnJ P w K mg base 4 "look_lot" 2 F_look_lot) (h_look_things : FnJ P w K mg base 4 "look_things" 1 F_look_things) (h_mask_of : FnJ P w K mg base 1 "mask_of" 1 F_mask_of)   (hr : Room 4 (A.deeper (envOfC "_two_masks" (defScope s_P_two_masks) s.heap.objs.size fa cdv))) (tk : L2N.Takes (cxOf (L2N.CX P w) P w K mg base N_P_two_masks "_two_masks" (defScope s_P_two_masks) fa cdv A outer s H E) (fun c d _ H => E c d H)) (hp : PassesOwn (model P w) (cxOf (L2N.CX P w) P w K mg base N_P_two_masks "_two_masks" (defScope s_P_two_masks) fa cdv A outer s H E).A (cxOf (L2N.CX P w) P w K mg base N_P_two_masks "_two_masks" (defScope s_P_two_masks) fa cdv A outer s H E).env (cxOf (L2N.CX P w) P w K mg base N_P_two_masks "_two_masks" (defScope s_P_two_masks) fa cdv A outer s H E).xe) :
    JSs (cxOf (L2N.CX P w) P w K mg base N_P_two_masks "_two_masks" (defScope s_P_two_masks) fa cdv A outer s H E) (fun c d _ H => E c d H) (defBody s_P_two_masks) f_P_two_masks := by
  have hc : (cxOf (L2N.CX P w) P w K mg base N_P_two_masks "_two_masks" (defScope s_P_two_masks) fa cdv A outer s H E).calm = true := rfl
  have hN : (cxOf (L2N.CX P w) P w K mg base N_P_two_masks "_two_masks" (defScope s_P_two_masks) fa cdv A outer s H E).N.Nodup := sc_P_two_masks.nd
  have hu := hr.units
  exact (jss_cons (js_expr (j_call (h_look_things.mono (by decide : 4 ≤ 4)) hr tk (jx_v (j_var 0) jx_nil))) (jss_cons (js_set 3 hN (j_call (h_look_lot.mono (by decide : 4 ≤ 4)) hr tk (jx_v (j_var 0) (jx_v (j_var 1) jx_nil)))) (jss_cons (js_set 4 hN (j_call (h_look_lot.mono (by decide : 4 ≤ 4)) hr tk (jx_v (j_var 0) (jx_v (j_var 2) jx_nil)))) (jss_one (js_ret (j_tup (ja_cons (j_call (h_mask_of.mono (by decide : 1 ≤ 4)) hr tk (jx_v (j_var 3) jx_nil)) (ja_cons (j_call (h_mask_of.mono (by decide : 1 ≤ 4)) hr tk (jx_v (j_var 4) jx_nil)) ja_nil))))))))
theorem sc_joined : FnScope N_joined ps_joined (defScope s_joined) := ⟨rfl, rfl, rfl, by decide +kernel, rfl, by decide +kernel, by decide +kernel⟩
theorem b_joined {fa : Addr} {cdv : Value} {A : Around} {outer : List PySem.Env} {s : Shared} {H : Hp} {E : XK} (M : MF K mg) (h_P_two_masks : FnJ P w K mg base 5 "_two_masks" 3 F_P_two_masks) (h_lot_of_mask : FnJ P w K mg base 1 "lot_of_mask" 1 F_lot_of_mask)   (hr : Room 5 (A.deeper (envOfC "joined" (defScope s_joined) s.heap.objs.size fa cdv))) (tk : L2N.Takes (cxOf (L2N.CX P w) P w K mg base N_joined "joined" (defScope s_joined) fa cdv A outer s H E) (fun c d _ H => E c d H)) (hp : PassesOwn (model P w) (cxOf (L2N.CX P w) P w K mg base N_joined "joined" (defScope s_joined) fa cdv A outer s H E).A (cxOf (L2N.CX P w) P w K mg base N_joined "joined" (defScope s_joined) fa cdv A outer s H E).env (cxOf (L2N.CX P w) P w K mg base N_joined "joined" (defScope s_joined) fa cdv A outer s H E).xe) :
    JSs (cxOf (L2N.CX P w) P w K mg base N_joined "joined" (defScope s_joined) fa cdv A outer s H E) (fun c d _ H => E c d H) (defBody s_joined) f_joined := by
  have hc : (cxOf (L2N.CX P w) P w K mg base N_joined "joined" (defScope s_joined) fa cdv A outer s H E).calm = true := rfl
  have hN : (cxOf (L2N.CX P w) P w K mg base N_joined "joined" (defScope s_joined) fa cdv A outer s H E).N.Nodup := sc_joined.nd
  have hu := hr.units
  exact (jss_cons (js_asg (j_call (h_P_two_masks.mono (by decide : 5 ≤ 5)) hr tk (jx_v (j_var 0) (jx_v (j_var 1) (jx_v (j_var 2) jx_nil)))) (jg_tup hc (jgs_cons (jg_name 3 hN) (jgs_cons (jg_name 4 hN) jgs_nil)) (gs_lenS (gs_lenS gs_len0)))) (jss_one (js_ret (j_call (h_lot_of_mask.mono (by decide : 1 ≤ 5)) hr tk (jx_v (j_or_ (j_var 3) (JE.toO (j_var 4))) jx_nil)))))
theorem sc_common : FnScope N_common ps_common (defScope s_common) := ⟨rfl, rfl, rfl, by decide +kernel, rfl, by decide +kernel, by decide +kernel⟩
theorem b_common {fa : Addr} {cdv : Value} {A : Around} {outer : List PySem.Env} {s : Shared} {H : Hp} {E : XK} (M : MF K mg) (h_P_two_masks : FnJ P w K mg base 5 "_two_masks" 3 F_P_two_masks) (h_lot_of_mask : FnJ P w K mg base 1 "lot_of_mask" 1 F_lot_of_mask)   (hr : Room 5 (A.deeper (envOfC "common" (defScope s_common) s.heap.objs.size fa cdv))) (tk : L2N.Takes (cxOf (L2N.CX P w) P w K mg base N_common "common" (defScope s_common) fa cdv A outer s H E) (fun c d _ H => E c d H)) (hp : PassesOwn (model P w) (cxOf (L2N.CX P w) P w K mg base N_common "common" (defScope s_common) fa cdv A outer s H E).A (cxOf (L2N.CX P w) P w K mg base N_common "common" (defScope s_common) fa cdv A outer s H E).env (cxOf (L2N.CX P w) P w K mg base N_common "common" (defScope s_common) fa cdv A outer s H E).xe) :
    JSs (cxOf (L2N.CX P w) P w K mg base N_common "common" (defScope s_common) fa cdv A outer s H E) (fun c d _ H => E c d H) (defBody s_common) f_common := by
  have hc : (cxOf (L2N.CX P w) P w K mg base N_common "common" (defScope s_common) fa cdv A outer s H E).calm = true := rfl
  have hN : (cxOf (L2N.CX P w) P w K mg base N_common "common" (defScope s_common) fa cdv A outer s H E).N.Nodup := sc_common.nd
  have hu := hr.units
  exact (jss_cons (js_asg (j_call (h_P_two_masks.mono (by decide : 5 ≤ 5)) hr tk (jx_v (j_var 0) (jx_v (j_var 1) (jx_v (j_var 2) jx_nil)))) (jg_tup hc (jgs_cons (jg_name 3 hN) (jgs_cons (jg_name 4 hN) jgs_nil)) (gs_lenS (gs_lenS gs_len0)))) (jss_one (js_ret (j_call (h_lot_of_mask.mono (by decide : 1 ≤ 5)) hr tk (jx_v (j_and_ (j_var 3) (JE.toO (j_var 4))) jx_nil)))))
theorem sc_without : FnScope N_without ps_without (defScope s_without) := ⟨rfl, rfl, rfl, by decide +kernel, rfl, by decide +kernel, by decide +kernel⟩
theorem b_without {fa : Addr} {cdv : Value} {A : Around} {outer : List PySem.Env} {s : Shared} {H : Hp} {E : XK} (M : MF K mg) (h_P_two_masks : FnJ P w K mg base 5 "_two_masks" 3 F_P_two_masks) (h_lot_of_mask : FnJ P w K mg base 1 "lot_of_mask" 1 F_lot_of_mask)   (hr : Room 5 (A.deeper (envOfC "without" (defScope s_without) s.heap.objs.size fa cdv))) (tk : L2N.Takes (cxOf (L2N.CX P w) P w K mg base N_without "without" (defScope s_without) fa cdv A outer s H E) (fun c d _ H => E c d H)) (hp : PassesOwn (model P w) (cxOf (L2N.CX P w) P w K mg base N_without "without" (defScope s_without) fa cdv A outer s H E).A (cxOf (L2N.CX P w) P w K mg base N_without "without" (defScope s_without) fa cdv A outer s H E).env (cxOf (L2N.CX P w) P w K mg base N_without "without" (defScope s_without) fa cdv A outer s H E).xe) :
    JSs (cxOf (L2N.CX P w) P w K mg base N_without "without" (defScope s_without) fa cdv A outer s H E) (fun c d _ H => E c d H) (defBody s_without) f_without := by
  have hc : (cxOf (L2N.CX P w) P w K mg base N_without "without" (defScope s_without) fa cdv A outer s H E).calm = true := rfl
  have hN : (cxOf (L2N.CX P w) P w K mg base N_without "without" (defScope s_without) fa cdv A outer s H E).N.Nodup := sc_without.nd
  have hu := hr.units
  exact (jss_cons (js_asg (j_call (h_P_two_masks.mono (by decide : 5 ≤ 5)) hr tk (jx_v (j_var 0) (jx_v (j_var 1) (jx_v (j_var 2) jx_nil)))) (jg_tup hc (jgs_cons (jg_name 3 hN) (jgs_cons (jg_name 4 hN) jgs_nil)) (gs_lenS (gs_lenS gs_len0)))) (jss_one (js_ret (j_call (h_lot_of_mask.mono (by decide : 1 ≤ 5)) hr tk (jx_v (j_and_ (j_var 3) (JE.toO (j_inv (j_var 4)))) jx_nil)))))
theorem sc_cost_of : FnScope N_cost_of ps_cost_of (defScope s_cost_of) := ⟨rfl, rfl, rfl, by decide +kernel, rfl, by decide +kernel, by decide +kernel⟩
theorem b_cost_of {fa : Addr} {cdv : Value} {A : Around} {outer : List PySem.Env} {s : Shared} {H : Hp} {E : XK} (M : MF K mg) (h_look_costs : FnJ P w K mg base 5 "look_costs" 2 F_look_costs) (h_look_lot : FnJ P w K mg base 4 "look_lot" 2 F_look_lot) (h_look_things : FnJ P w K mg base 4 "look_things" 1 F_look_things)   (hr : Room 5 (A.deeper (envOfC "cost_of" (defScope s_cost_of) s.heap.objs.size fa cdv))) (tk : L2N.Takes (cxOf (L2N.CX P w) P w K mg base N_cost_of "cost_of" (defScope s_cost_of) fa cdv A outer s H E) (fun c d _ H => E c d H)) (hp : PassesOwn (model P w) (cxOf (L2N.CX P w) P w K mg base N_cost_of "cost_of" (defScope s_cost_of) fa cdv A outer s H E).A (cxOf (L2N.CX P w) P w K mg base N_cost_of "cost_of" (defScope s_cost_of) fa cdv A outer s H E).env (cxOf (L2N.CX P w) P w K mg base N_cost_of "cost_of" (defScope s_cost_of) fa cdv A outer s H E).xe) :
    JSs (cxOf (L2N.CX P w) P w K mg base N_cost_of "cost_of" (defScope s_cost_of) fa cdv A outer s H E) (fun c d _ H => E c d H) (defBody s_cost_of) f_cost_of := by
  have hc : (cxOf (L2N.CX P w) P w K mg base N_cost_of "cost_of" (defScope s_cost_of) fa cdv A outer s H E).calm = true := rfl
  have hN : (cxOf (L2N.CX P w) P w K mg base N_cost_of "cost_of" (defScope s_cost_of) fa cdv A outer s H E).N.Nodup := sc_cost_of.nd
  have hu := hr.units
  exact (jss_cons (js_expr (j_call (h_look_things.mono (by decide : 4 ≤ 5)) hr tk (jx_v (j_var 0) jx_nil))) (jss_cons (js_set 3 hN (j_call (h_look_costs.mono (by decide : 5 ≤ 5)) hr tk (jx_v (j_var 0) (jx_v (j_var 1) jx_nil)))) (jss_one (js_ret (j_b1 (cr_sum hc) c1_sum (M.fr "sum" (by decide +kernel)) (by decide +kernel) (JE.toO (JL.toE (jl_lc [("thing", 4)] hc hN (ji_seq (j_call (h_look_lot.mono (by decide : 4 ≤ 5)) hr tk (jx_v (j_var 0) (jx_v (j_var 2) jx_nil)))) (blkOk_by (N := N_cost_of) (sc := defScope s_cost_of) (by decide +kernel)) (fun _ _ _ _ _ => (jg_name 4 hN)) (by decide) (fun _ _ _ _ _ => jts_nil) (fun _ _ _ _ _ => (j_ix (j_var 3) (JE.toO (j_var 4)))) ))))))))
theorem sc_L_all_lots : FnScope N_L_all_lots ps_L_all_lots (defScope s_L_all_lots) := ⟨rfl, rfl, rfl, by decide +kernel, rfl, by decide +kernel, by decide +kernel⟩
theorem b_L_all_lots {fa : Addr} {cdv : Value} {A : Around} {outer : List PySem.Env} {s : Shared} {H : Hp} {E : XK} (M : MF K mg) (h_L_ascending : FnJ P w K mg base 2 "_law_ascending" 2 F_L_ascending) (h_all_lots : FnJ P w K mg base 5 "all_lots" 1 F_all_lots)   (hr : Room 5 (A.deeper (envOfC "_law_all_lots" (defScope s_L_all_lots) s.heap.objs.size fa cdv))) (tk : L2N.Takes (cxOf (L2N.CX P w) P w K mg base N_L_all_lots "_law_all_lots" (defScope s_L_all_lots) fa cdv A outer s H E) (fun c d _ H => E c d H)) (hp : PassesOwn (model P w) (cxOf (L2N.CX P w) P w K mg base N_L_all_lots "_law_all_lots" (defScope s_L_all_lots) fa cdv A outer s H E).A (cxOf (L2N.CX P w) P w K mg base N_L_all_lots "_law_all_lots" (defScope s_L_all_lots) fa cdv A outer s H E).env (cxOf (L2N.CX P w) P w K mg base N_L_all_lots "_law_all_lots" (defScope s_L_all_lots) fa cdv A outer s H E).xe) :
    JSs (cxOf (L2N.CX P w) P w K mg base N_L_all_lots "_law_all_lots" (defScope s_L_all_lots) fa cdv A outer s H E) (fun c d _ H => E c d H) (defBody s_L_all_lots) f_L_all_lots := by
  have hc : (cxOf (L2N.CX P w) P w K mg base N_L_all_lots "_law_all_lots" (defScope s_L_all_lots) fa cdv A outer s H E).calm = true := rfl
  have hN : (cxOf (L2N.CX P w) P w K mg base N_L_all_lots "_law_all_lots" (defScope s_L_all_lots) fa cdv A outer s H E).N.Nodup := sc_L_all_lots.nd
  have hu := hr.units
  exact (jss_cons (js_for hp hc (ji_range1 (M.fr "range" (by decide +kernel)) j_int) (jg_name 1 hN) (jss_cons (js_setL 2 hN (jl_call (h_all_lots.mono (by decide : 5 ≤ 5)) hr tk (jx_v (j_var 0) jx_nil))) (jss_cons (js_if (JW.t (jw_or (jt_not (jt_tru (JE.toO (j_isi (T := "list") (M.fr "isinstance" (by decide +kernel)) (M.fr "list" (by decide +kernel)) (by decide +kernel) (j_bor 2))))) (jw_or1 (jt_cmp (op_neD hu) opS_ne (j_b1 call_len c1_len (M.fr "len" (by decide +kernel)) (by decide +kernel) (j_bor 2)) (JE.toO (j_shl j_int (JE.toO (j_var 0)))) (nomark _))))) (jss_one (js_ret j_bl)) jss_nil) (jss_cons (js_set 3 hN (j_tup (ja_cons (j_neg j_int) (ja_cons (j_tup ja_nil) ja_nil)))) (jss_cons (js_for hp hc (ji_range1 (M.fr "range" (by decide +kernel)) (j_b1 call_len c1_len (M.fr "len" (by decide +kernel)) (by decide +kernel) (j_bor 2))) (jg_name 4 hN) (jss_cons (js_if (jt_not (jt_tru (JE.toO (j_call (h_L_ascending.mono (by decide : 2 ≤ 5)) hr tk (jx_v (j_ixB (j_bor 2) (jq_var 4)) (jx_v (j_var 0) jx_nil)))))) (jss_one (js_ret j_bl)) jss_nil) (jss_cons (js_set 5 hN (j_tup (ja_cons (j_b1 call_len c1_len (M.fr "len" (by decide +kernel)) (by decide +kernel) (JE.toO (j_ixB (j_bor 2) (jq_var 4)))) (ja_cons (j_ixB (j_bor 2) (jq_var 4)) ja_nil)))) (jss_cons (js_if (jt_cmp (op_leP hu) opS_leP (j_var 5) (JE.toO (j_var 3)) (nomark _)) (jss_one (js_ret j_bl)) jss_nil) (jss_one (js_set 3 hN (j_var 5))))))) (jss_cons (js_rev 2) (jss_one (js_expr (j_pop 2))))))))) (jss_one (js_ret j_bl)))
theorem sc_L_told : FnScope N_L_told ps_L_told (defScope s_L_told) := ⟨rfl, rfl, rfl, by decide +kernel, rfl, by decide +kernel, by decide +kernel⟩
theorem b_L_told {fa : Addr} {cdv : Value} {A : Around} {outer : List PySem.Env} {s : Shared} {H : Hp} {E : XK} (M : MF K mg) (h_L_int : FnJ P w K mg base 1 "_law_int" 1 F_L_int) (h_all_lots : FnJ P w K mg base 5 "all_lots" 1 F_all_lots) (h_common : FnJ P w K mg base 6 "common" 3 F_common) (h_cost_of : FnJ P w K mg base 6 "cost_of" 3 F_cost_of) (h_joined : FnJ P w K mg base 6 "joined" 3 F_joined) (h_lot_of : FnJ P w K mg base 5 "lot_of" 2 F_lot_of) (h_without : FnJ P w K mg base 6 "without" 3 F_without) (hH_L_int : FnHJ P w K mg base 1 "_law_int" 1 F_L_int)  (hr : Room 6 (A.deeper (envOfC "_law_told" (defScope s_L_told) s.heap.objs.size fa cdv))) (tk : L2N.Takes (cxOf (L2N.CX P w) P w K mg base N_L_told "_law_told" (defScope s_L_told) fa cdv A outer s H E) (fun c d _ H => E c d H)) (hp : PassesOwn (model P w) (cxOf (L2N.CX P w) P w K mg base N_L_told "_law_told" (defScope s_L_told) fa cdv A outer s H E).A (cxOf (L2N.CX P w) P w K mg base N_L_told "_law_told" (defScope s_L_told) fa cdv A outer s H E).env (cxOf (L2N.CX P w) P w K mg base N_L_told "_law_told" (defScope s_L_told) fa cdv A outer s H E).xe) :
    JSs (cxOf (L2N.CX P w) P w K mg base N_L_told "_law_told" (defScope s_L_told) fa cdv A outer s H E) (fun c d _ H => E c d H) (defBody s_L_told) f_L_told := by
  have hc : (cxOf (L2N.CX P w) P w K mg base N_L_told "_law_told" (defScope s_L_told) fa cdv A outer s H E).calm = true := rfl
  have hN : (cxOf (L2N.CX P w) P w K mg base N_L_told "_law_told" (defScope s_L_told) fa cdv A outer s H E).N.Nodup := sc_L_told.nd
  have hu := hr.units
  exact (jss_cons (js_try rfl rfl hN tk (fun W pn xe tk hp => (jss_one (js_if (jt_cmp (op_eqD hu) opS_eq (j_var 0) (JE.toO j_str) (nomark _)) (jss_one (js_set 7 hN (j_call (h_lot_of.mono (by decide : 5 ≤ 6)) hr tk (jx_v (j_var 1) (jx_v (j_var 2) jx_nil))))) (jss_one (js_if (jt_cmp (op_eqD hu) opS_eq (j_var 0) (JE.toO j_str) (nomark _)) (jss_one (js_set 7 hN (JL.toE (jl_call (h_all_lots.mono (by decide : 5 ≤ 6)) hr tk (jx_v (j_var 1) jx_nil))))) (jss_one (js_if (jt_cmp (op_eqD hu) opS_eq (j_var 0) (JE.toO j_str) (nomark _)) (jss_one (js_set 7 hN (j_call (h_joined.mono (by decide : 6 ≤ 6)) hr tk (jx_v (j_var 1) (jx_v (j_var 2) (jx_v (j_var 3) jx_nil)))))) (jss_one (js_if (jt_cmp (op_eqD hu) opS_eq (j_var 0) (JE.toO j_str) (nomark _)) (jss_one (js_set 7 hN (j_call (h_common.mono (by decide : 6 ≤ 6)) hr tk (jx_v (j_var 1) (jx_v (j_var 2) (jx_v (j_var 3) jx_nil)))))) (jss_one (js_if (jt_cmp (op_eqD hu) opS_eq (j_var 0) (JE.toO j_str) (nomark _)) (jss_one (js_set 7 hN (j_call (h_without.mono (by decide : 6 ≤ 6)) hr tk (jx_v (j_var 1) (jx_v (j_var 2) (jx_v (j_var 3) jx_nil)))))) (jss_one (js_set 7 hN (j_call (h_cost_of.mono (by decide : 6 ≤ 6)) hr tk (jx_v (j_var 1) (jx_v (j_var 2) (jx_v (j_var 3) jx_nil))))))))))))))))) (.named (i := 4) (h := ⟨exm_SizeError, some 4, fun y => (sSeq (sIf (fOr (fNot (fTru (fIsE isx_0 y))) (fTru (fIsE isx_1 y))) (sSeq (sRet (fTup (fCons (fC (.str "odd")) fNil))) sNil) sNil) (sSeq (sRet (fTup (fCons (fC (.str "size")) (fCons (fXf okf_SizeError_count y "count") (fCons (fCallR 1 F_L_int (xV (fXf okf_SizeError_count y "count") xNil) rvD) fNil))))) sNil))⟩) rfl rfl ⟨rfl, by decide, .inl M.cl_SizeError⟩ (fun y b e => M.exm_SizeError _ (PySem.mem_of_lookup e)) rfl (fun a oe cls d pn y hz hd => (ju_cons (ju_if (JW.t (jw_or (jt_not (jt_tru (JE.toO (j_isE isx_0 hz hd (jcs_own jcs_nil (M.cl_NodearerError)) (isx_0_ok M) (M.fr "isinstance" (by decide +kernel)))))) (jw_or1 (jt_tru (JE.toO (j_isET isx_1 hz hd (jcs_own (jcs_own jcs_nil (M.cl_ThingError)) (M.cl_NumberError)) (by simp) (isx_1_ok M) (M.fr "isinstance" (by decide +kernel)))))))) (ju_cons (ju_ret (j_tup (ja_cons j_str ja_nil))) ju_nil) ju_nil) (ju_cons (ju_ret (j_tup (ja_cons j_str (ja_cons (j_xf okf_SizeError_count hz hd (fld_SizeError_count M)) (ja_cons (j_callH (hH_L_int) (L2H.roomH_mark (hr.mono (by decide)) _) (hot_of hz hd) takes_su (jx_v (j_xf okf_SizeError_count hz hd (fld_SizeError_count M)) jx_nil)) ja_nil))))) ju_nil))) (.named (i := 5) (h := ⟨exm_ThingError, some 5, fun y => (sSeq (sIf (fOr (fNot (fTru (fIsE isx_2 y))) (fTru (fIsE isx_3 y))) (sSeq (sRet (fTup (fCons (fC (.str "odd")) fNil))) sNil) sNil) (sSeq (sRet (fTup (fCons (fC (.str "thing")) (fCons (fXf okf_ThingError_thing y "thing") (fCons (fCallR 1 F_L_int (xV (fXf okf_ThingError_thing y "thing") xNil) rvD) fNil))))) sNil))⟩) rfl rfl ⟨rfl, by decide, .inl M.cl_ThingError⟩ (fun y b e => M.exm_ThingError _ (PySem.mem_of_lookup e)) rfl (fun a oe cls d pn y hz hd => (ju_cons (ju_if (JW.t (jw_or (jt_not (jt_tru (JE.toO (j_isE isx_2 hz hd (jcs_own jcs_nil (M.cl_NodearerError)) (isx_2_ok M) (M.fr "isinstance" (by decide +kernel)))))) (jw_or1 (jt_tru (JE.toO (j_isE isx_3 hz hd (jcs_own jcs_nil (M.cl_NumberError)) (isx_3_ok M) (M.fr "isinstance" (by decide +kernel)))))))) (ju_cons (ju_ret (j_tup (ja_cons j_str ja_nil))) ju_nil) ju_nil) (ju_cons (ju_ret (j_tup (ja_cons j_str (ja_cons (j_xf okf_ThingError_thing hz hd (fld_ThingError_thing M)) (ja_cons (j_callH (hH_L_int) (L2H.roomH_mark (hr.mono (by decide)) _) (hot_of hz hd) takes_su (jx_v (j_xf okf_ThingError_thing hz hd (fld_ThingError_thing M)) jx_nil)) ja_nil))))) ju_nil))) (.named (i := 6) (h := ⟨exm_NumberError, some 6, fun y => (sSeq (sIf (fOr (fNot (fTru (fIsE isx_4 y))) (fNot (fTru (fIsE isx_5 y)))) (sSeq (sRet (fTup (fCons (fC (.str "odd")) fNil))) sNil) sNil) (sSeq (sRet (fTup (fCons (fC (.str "number")) (fCons (fXf okf_NumberError_number y "number") (fCons (fCallR 1 F_L_int (xV (fXf okf_NumberError_number y "number") xNil) rvD) fNil))))) sNil))⟩) rfl rfl ⟨rfl, by decide, .inl M.cl_NumberError⟩ (fun y b e => M.exm_NumberError _ (PySem.mem_of_lookup e)) rfl (fun a oe cls d pn y hz hd => (ju_cons (ju_if (JW.t (jw_or (jt_not (jt_tru (JE.toO (j_isE isx_4 hz hd (jcs_own jcs_nil (M.cl_NodearerError)) (isx_4_ok M) (M.fr "isinstance" (by decide +kernel)))))) (jw_or1 (jt_not (jt_tru (JE.toO (j_isE isx_5 hz hd (jcs_ty (T := "ValueError") jcs_nil (M.fr "ValueError" (by decide +kernel)) (by decide +kernel)) (isx_5_ok M) (M.fr "isinstance" (by decide +kernel))))))))) (ju_cons (ju_ret (j_tup (ja_cons j_str ja_nil))) ju_nil) ju_nil) (ju_cons (ju_ret (j_tup (ja_cons j_str (ja_cons (j_xf okf_NumberError_number hz hd (fld_NumberError_number M)) (ja_cons (j_callH (hH_L_int) (L2H.roomH_mark (hr.mono (by decide)) _) (hot_of hz hd) takes_su (jx_v (j_xf okf_NumberError_number hz hd (fld_NumberError_number M)) jx_nil)) ja_nil))))) ju_nil))) .nil)))) (jss_one (js_ret (j_tup (ja_cons j_str (ja_cons (j_var 7) ja_nil))))))
theorem sc_L_lots : FnScope N_L_lots ps_L_lots (defScope s_L_lots) := ⟨rfl, rfl, rfl, by decide +kernel, rfl, by decide +kernel, by decide +kernel⟩
theorem b_L_lots {fa : Addr} {cdv : Value} {A : Around} {outer : List PySem.Env} {s : Shared} {H : Hp} {E : XK} (M : MF K mg) (h_L_is_lot : FnJ P w K mg base 2 "_law_is_lot" 2 F_L_is_lot) (h_common : FnJ P w K mg base 6 "common" 3 F_common) (h_joined : FnJ P w K mg base 6 "joined" 3 F_joined) (h_lot_of : FnJ P w K mg base 5 "lot_of" 2 F_lot_of) (h_without : FnJ P w K mg base 6 "without" 3 F_without)   (hr : Room 6 (A.deeper (envOfC "_law_lots" (defScope s_L_lots) s.heap.objs.size fa cdv))) (tk : L2N.Takes (cxOf (L2N.CX P w) P w K mg base N_L_lots "_law_lots" (defScope s_L_lots) fa cdv A outer s H E) (fun c d _ H => E c d H)) (hp : PassesOwn (model P w) (cxOf (L2N.CX P w) P w K mg base N_L_lots "_law_lots" (defScope s_L_lots) fa cdv A outer s H E).A (cxOf (L2N.CX P w) P w K mg base N_L_lots "_law_lots" (defScope s_L_lots) fa cdv A outer s H E).env (cxOf (L2N.CX P w) P w K mg base N_L_lots "_law_lots" (defScope s_L_lots) fa cdv A outer s H E).xe) :
    JSs (cxOf (L2N.CX P w) P w K mg base N_L_lots "_law_lots" (defScope s_L_lots) fa cdv A outer s H E) (fun c d _ H => E c d H) (defBody s_L_lots) f_L_lots := by
  have hc : (cxOf (L2N.CX P w) P w K mg base N_L_lots "_law_lots" (defScope s_L_lots) fa cdv A outer s H E).calm = true := rfl
  have hN : (cxOf (L2N.CX P w) P w K mg base N_L_lots "_law_lots" (defScope s_L_lots) fa cdv A outer s H E).N.Nodup := sc_L_lots.nd
  have hu := hr.units
  exact (jss_cons (js_setLc 3 [("_law_k", 5)] hc hN (ji_range1 (M.fr "range" (by decide +kernel)) (j_var 0)) (blkOk_by (N := N_L_lots) (sc := defScope s_L_lots) (by decide +kernel)) (fun _ _ _ _ _ => (jg_name 5 hN)) (by decide) (fun _ _ _ _ _ => (jts_one (jt_cmp op_in_seq (opS_in false) (j_var 5) (JE.toO (j_var 1)) rfl))) (fun _ _ _ _ _ => (j_var 5))) (JSs.pub 3 (jss_cons (js_if (jt_not (jt_tru (JE.toO (j_call (h_L_is_lot.mono (by decide : 2 ≤ 6)) hr tk (jx_v (j_call (h_lot_of.mono (by decide : 5 ≤ 6)) hr tk (jx_v (j_var 0) (jx_v (j_var 1) jx_nil))) (jx_v (j_var 3) jx_nil)))))) (jss_one (js_ret j_bl)) jss_nil) (jss_cons (js_setLc 4 [("_law_k", 5)] hc hN (ji_range1 (M.fr "range" (by decide +kernel)) (j_var 0)) (blkOk_by (N := N_L_lots) (sc := defScope s_L_lots) (by decide +kernel)) (fun _ _ _ _ _ => (jg_name 5 hN)) (by decide) (fun _ _ _ _ _ => (jts_one (JW.t (jw_or (jt_cmp op_in_seq (opS_in false) (j_var 5) (JE.toO (j_var 1)) rfl) (jw_or1 (jt_cmp op_in_seq (opS_in false) (j_var 5) (JE.toO (j_var 2)) rfl)))))) (fun _ _ _ _ _ => (j_var 5))) (JSs.pub 4 (jss_cons (js_if (jt_not (jt_tru (JE.toO (j_call (h_L_is_lot.mono (by decide : 2 ≤ 6)) hr tk (jx_v (j_call (h_joined.mono (by decide : 6 ≤ 6)) hr tk (jx_v (j_var 0) (jx_v (j_var 1) (jx_v (j_var 2) jx_nil)))) (jx_v (j_var 4) jx_nil)))))) (jss_one (js_ret j_bl)) jss_nil) (jss_cons (js_setLc 4 [("_law_k", 5)] hc hN (ji_seq (j_var 3)) (blkOk_by (N := N_L_lots) (sc := defScope s_L_lots) (by decide +kernel)) (fun _ _ _ _ _ => (jg_name 5 hN)) (by decide) (fun _ _ _ _ _ => (jts_one (jt_cmp op_in_seq (opS_in false) (j_var 5) (JE.toO (j_var 2)) rfl))) (fun _ _ _ _ _ => (j_var 5))) (JSs.pub 4 (jss_cons (js_if (jt_not (jt_tru (JE.toO (j_call (h_L_is_lot.mono (by decide : 2 ≤ 6)) hr tk (jx_v (j_call (h_common.mono (by decide : 6 ≤ 6)) hr tk (jx_v (j_var 0) (jx_v (j_var 1) (jx_v (j_var 2) jx_nil)))) (jx_v (j_var 4) jx_nil)))))) (jss_one (js_ret j_bl)) jss_nil) (jss_cons (js_setLc 4 [("_law_k", 5)] hc hN (ji_seq (j_var 3)) (blkOk_by (N := N_L_lots) (sc := defScope s_L_lots) (by decide +kernel)) (fun _ _ _ _ _ => (jg_name 5 hN)) (by decide) (fun _ _ _ _ _ => (jts_one (jt_cmp op_notIn_seq (opS_in true) (j_var 5) (JE.toO (j_var 2)) rfl))) (fun _ _ _ _ _ => (j_var 5))) (JSs.pub 4 (jss_one (js_ret (j_call (h_L_is_lot.mono (by decide : 2 ≤ 6)) hr tk (jx_v (j_call (h_without.mono (by decide : 6 ≤ 6)) hr tk (jx_v (j_var 0) (jx_v (j_var 1) (jx_v (j_var 2) jx_nil)))) (jx_v (j_var 4) jx_nil))))))))))))))))
theorem sc_L_cost : FnScope N_L_cost ps_L_cost (defScope s_L_cost) := ⟨rfl, rfl, rfl, by decide +kernel, rfl, by decide +kernel, by decide +kernel⟩
theorem b_L_cost {fa : Addr} {cdv : Value} {A : Around} {outer : List PySem.Env} {s : Shared} {H : Hp} {E : XK} (M : MF K mg) (h_L_int : FnJ P w K mg base 1 "_law_int" 1 F_L_int) (h_cost_of : FnJ P w K mg base 6 "cost_of" 3 F_cost_of) (hH_L_int : FnHJ P w K mg base 1 "_law_int" 1 F_L_int)  (hr : Room 6 (A.deeper (envOfC "_law_cost" (defScope s_L_cost) s.heap.objs.size fa cdv))) (tk : L2N.Takes (cxOf (L2N.CX P w) P w K mg base N_L_cost "_law_cost" (defScope s_L_cost) fa cdv A outer s H E) (fun c d _ H => E c d H)) (hp : PassesOwn (model P w) (cxOf (L2N.CX P w) P w K mg base N_L_cost "_law_cost" (defScope s_L_cost) fa cdv A outer s H E).A (cxOf (L2N.CX P w) P w K mg base N_L_cost "_law_cost" (defScope s_L_cost) fa cdv A outer s H E).env (cxOf (L2N.CX P w) P w K mg base N_L_cost "_law_cost" (defScope s_L_cost) fa cdv A outer s H E).xe) :
    JSs (cxOf (L2N.CX P w) P w K mg base N_L_cost "_law_cost" (defScope s_L_cost) fa cdv A outer s H E) (fun c d _ H => E c d H) (defBody s_L_cost) f_L_cost := by
  have hc : (cxOf (L2N.CX P w) P w K mg base N_L_cost "_law_cost" (defScope s_L_cost) fa cdv A outer s H E).calm = true := rfl
  have hN : (cxOf (L2N.CX P w) P w K mg base N_L_cost "_law_cost" (defScope s_L_cost) fa cdv A outer s H E).N.Nodup := sc_L_cost.nd
  have hu := hr.units
  exact (jss_cons (js_set 3 hN j_int) (jss_cons (js_for hp hc (ji_range1 (M.fr "range" (by decide +kernel)) (j_var 0)) (jg_name 4 hN) (jss_one (js_if (jt_cmp op_in_seq (opS_in false) (j_var 4) (JE.toO (j_var 2)) rfl) (jss_one (js_set 3 hN (j_add (j_var 3) (JE.toO (j_ix (j_var 1) (JE.toO (j_var 4))))))) jss_nil))) (jss_cons (js_set 5 hN (j_call (h_cost_of.mono (by decide : 6 ≤ 6)) hr tk (jx_v (j_var 0) (jx_v (j_var 1) (jx_v (j_var 2) jx_nil))))) (jss_one (js_ret (j_and (j_call (h_L_int.mono (by decide : 1 ≤ 6)) hr tk (jx_v (j_var 5) jx_nil)) (j_one (j_cmp (op_eqD hu) opS_eq (j_var 5) (JE.toO (j_var 3)) (nomark _)))))))))
theorem sc_L_good : FnScope N_L_good ps_L_good (defScope s_L_good) := ⟨rfl, rfl, rfl, by decide +kernel, rfl, by decide +kernel, by decide +kernel⟩
theorem b_L_good {fa : Addr} {cdv : Value} {A : Around} {outer : List PySem.Env} {s : Shared} {H : Hp} {E : XK} (M : MF K mg) (h_L_cost : FnJ P w K mg base 7 "_law_cost" 3 F_L_cost) (h_L_lots : FnJ P w K mg base 7 "_law_lots" 3 F_L_lots)   (hr : Room 7 (A.deeper (envOfC "_law_good" (defScope s_L_good) s.heap.objs.size fa cdv))) (tk : L2N.Takes (cxOf (L2N.CX P w) P w K mg base N_L_good "_law_good" (defScope s_L_good) fa cdv A outer s H E) (fun c d _ H => E c d H)) (hp : PassesOwn (model P w) (cxOf (L2N.CX P w) P w K mg base N_L_good "_law_good" (defScope s_L_good) fa cdv A outer s H E).A (cxOf (L2N.CX P w) P w K mg base N_L_good "_law_good" (defScope s_L_good) fa cdv A outer s H E).env (cxOf (L2N.CX P w) P w K mg base N_L_good "_law_good" (defScope s_L_good) fa cdv A outer s H E).xe) :
    JSs (cxOf (L2N.CX P w) P w K mg base N_L_good "_law_good" (defScope s_L_good) fa cdv A outer s H E) (fun c d _ H => E c d H) (defBody s_L_good) f_L_good := by
  have hc : (cxOf (L2N.CX P w) P w K mg base N_L_good "_law_good" (defScope s_L_good) fa cdv A outer s H E).calm = true := rfl
  have hN : (cxOf (L2N.CX P w) P w K mg base N_L_good "_law_good" (defScope s_L_good) fa cdv A outer s H E).N.Nodup := sc_L_good.nd
  have hu := hr.units
  exact (jss_cons (js_set 4 hN (j_tup (ja_cons (JL.toE (jl_t1 call_list_of c1_list (M.fr "list" (by decide +kernel)) (by decide +kernel) (JE.toO (j_var 1)))) (ja_cons (JL.toE (jl_t1 call_list_of c1_list (M.fr "list" (by decide +kernel)) (by decide +kernel) (JE.toO (j_var 2)))) (ja_cons (JL.toE (jl_t1 call_list_of c1_list (M.fr "list" (by decide +kernel)) (by decide +kernel) (JE.toO (j_var 3)))) ja_nil))))) (jss_cons (js_if (jt_not (jt_tru (JE.toO (j_call (h_L_lots.mono (by decide : 7 ≤ 7)) hr tk (jx_v (j_var 0) (jx_v (j_var 2) (jx_v (j_var 3) jx_nil))))))) (jss_one (js_ret j_bl)) jss_nil) (jss_cons (js_if (JW.t (jw_or (jt_not (jt_tru (JE.toO (j_call (h_L_lots.mono (by decide : 7 ≤ 7)) hr tk (jx_v (j_var 0) (jx_v (j_var 3) (jx_v (j_var 2) jx_nil))))))) (jw_or1 (jt_not (jt_tru (JE.toO (j_call (h_L_lots.mono (by decide : 7 ≤ 7)) hr tk (jx_v (j_var 0) (jx_v (j_var 2) (jx_v (j_var 2) jx_nil)))))))))) (jss_one (js_ret j_bl)) jss_nil) (jss_cons (js_if (jt_not (jt_tru (JE.toO (j_call (h_L_lots.mono (by decide : 7 ≤ 7)) hr tk (jx_v (j_var 0) (jx_v (j_t1 call_tuple_of c1_tuple (M.fr "tuple" (by decide +kernel)) (by decide +kernel) (JE.toO (j_var 2))) (jx_v (j_t1 call_tuple_of c1_tuple (M.fr "tuple" (by decide +kernel)) (by decide +kernel) (JE.toO (j_var 3))) jx_nil))))))) (jss_one (js_ret j_bl)) jss_nil) (jss_cons (js_if (jt_not (jt_tru (JE.toO (j_call (h_L_cost.mono (by decide : 7 ≤ 7)) hr tk (jx_v (j_var 0) (jx_v (j_var 1) (jx_v (j_var 2) jx_nil))))))) (jss_one (js_ret j_bl)) jss_nil) (jss_cons (js_if (jt_not (jt_tru (JE.toO (j_call (h_L_cost.mono (by decide : 7 ≤ 7)) hr tk (jx_v (j_var 0) (jx_v (j_t1 call_tuple_of c1_tuple (M.fr "tuple" (by decide +kernel)) (by decide +kernel) (JE.toO (j_var 1))) (jx_v (j_t1 call_tuple_of c1_tuple (M.fr "tuple" (by decide +kernel)) (by decide +kernel) (JE.toO (j_var 3))) jx_nil))))))) (jss_one (js_ret j_bl)) jss_nil) (jss_one (js_ret (j_cmp (op_eqD hu) opS_eq (j_tup (ja_cons (j_var 1) (ja_cons (j_var 2) (ja_cons (j_var 3) ja_nil)))) (JE.toO (j_var 4)) (nomark _))))))))))
theorem sc_L_all_refused : FnScope N_L_all_refused ps_L_all_refused (defScope s_L_all_refused) := ⟨rfl, rfl, rfl, by decide +kernel, rfl, by decide +kernel, by decide +kernel⟩
theorem b_L_all_refused {fa : Addr} {cdv : Value} {A : Around} {outer : List PySem.Env} {s : Shared} {H : Hp} {E : XK} (M : MF K mg) (h_L_told : FnJ P w K mg base 7 "_law_told" 4 F_L_told)   (hr : Room 7 (A.deeper (envOfC "_law_all_refused" (defScope s_L_all_refused) s.heap.objs.size fa cdv))) (tk : L2N.Takes (cxOf (L2N.CX P w) P w K mg base N_L_all_refused "_law_all_refused" (defScope s_L_all_refused) fa cdv A outer s H E) (fun c d _ H => E c d H)) (hp : PassesOwn (model P w) (cxOf (L2N.CX P w) P w K mg base N_L_all_refused "_law_all_refused" (defScope s_L_all_refused) fa cdv A outer s H E).A (cxOf (L2N.CX P w) P w K mg base N_L_all_refused "_law_all_refused" (defScope s_L_all_refused) fa cdv A outer s H E).env (cxOf (L2N.CX P w) P w K mg base N_L_all_refused "_law_all_refused" (defScope s_L_all_refused) fa cdv A outer s H E).xe) :
    JSs (cxOf (L2N.CX P w) P w K mg base N_L_all_refused "_law_all_refused" (defScope s_L_all_refused) fa cdv A outer s H E) (fun c d _ H => E c d H) (defBody s_L_all_refused) f_L_all_refused := by
  have hc : (cxOf (L2N.CX P w) P w K mg base N_L_all_refused "_law_all_refused" (defScope s_L_all_refused) fa cdv A outer s H E).calm = true := rfl
  have hN : (cxOf (L2N.CX P w) P w K mg base N_L_all_refused "_law_all_refused" (defScope s_L_all_refused) fa cdv A outer s H E).N.Nodup := sc_L_all_refused.nd
  have hu := hr.units
  exact (jss_cons (js_for hp hc (ji_seq (j_var 0)) (jg_tup hc (jgs_cons (jg_name 1 hN) (jgs_cons (jg_name 2 hN) (jgs_cons (jg_name 3 hN) (jgs_cons (jg_name 4 hN) (jgs_cons (jg_name 5 hN) jgs_nil))))) (gs_lenS (gs_lenS (gs_lenS (gs_lenS (gs_lenS gs_len0)))))) (jss_cons (js_set 6 hN (j_call (h_L_told.mono (by decide : 7 ≤ 7)) hr tk (jx_v (j_var 1) (jx_v (j_var 2) (jx_v (j_var 3) (jx_v (j_var 4) jx_nil)))))) (jss_one (js_if (jt_cmp (op_neD hu) opS_ne (j_var 6) (JE.toO (j_tup (ja_cons (j_ix (j_var 5) (JE.toO j_int)) (ja_cons (j_ix (j_var 5) (JE.toO j_int)) (ja_cons j_bl ja_nil))))) (nomark _)) (jss_one (js_ret j_bl)) jss_nil)))) (jss_one (js_ret j_bl)))
theorem sc_L_bad_lots : FnScope N_L_bad_lots ps_L_bad_lots (defScope s_L_bad_lots) := ⟨rfl, rfl, rfl, by decide +kernel, rfl, by decide +kernel, by decide +kernel⟩
theorem b_L_bad_lots {fa : Addr} {cdv : Value} {A : Around} {outer : List PySem.Env} {s : Shared} {H : Hp} {E : XK} (M : MF K mg) (h_L_all_refused : FnJ P w K mg base 8 "_law_all_refused" 1 F_L_all_refused) (h_L_no_thing : FnJ P w K mg base 2 "_law_no_thing" 3 F_L_no_thing) (h_L_take : FnJ P w K mg base 1 "_law_take" 3 F_L_take)   (hr : Room 8 (A.deeper (envOfC "_law_bad_lots" (defScope s_L_bad_lots) s.heap.objs.size fa cdv))) (tk : L2N.Takes (cxOf (L2N.CX P w) P w K mg base N_L_bad_lots "_law_bad_lots" (defScope s_L_bad_lots) fa cdv A outer s H E) (fun c d _ H => E c d H)) (hp : PassesOwn (model P w) (cxOf (L2N.CX P w) P w K mg base N_L_bad_lots "_law_bad_lots" (defScope s_L_bad_lots) fa cdv A outer s H E).A (cxOf (L2N.CX P w) P w K mg base N_L_bad_lots "_law_bad_lots" (defScope s_L_bad_lots) fa cdv A outer s H E).env (cxOf (L2N.CX P w) P w K mg base N_L_bad_lots "_law_bad_lots" (defScope s_L_bad_lots) fa cdv A outer s H E).xe) :
    JSs (cxOf (L2N.CX P w) P w K mg base N_L_bad_lots "_law_bad_lots" (defScope s_L_bad_lots) fa cdv A outer s H E) (fun c d _ H => E c d H) (defBody s_L_bad_lots) f_L_bad_lots := by
  have hc : (cxOf (L2N.CX P w) P w K mg base N_L_bad_lots "_law_bad_lots" (defScope s_L_bad_lots) fa cdv A outer s H E).calm = true := rfl
  have hN : (cxOf (L2N.CX P w) P w K mg base N_L_bad_lots "_law_bad_lots" (defScope s_L_bad_lots) fa cdv A outer s H E).N.Nodup := sc_L_bad_lots.nd
  have hu := hr.units
  exact (jss_cons (js_set 3 hN (j_call (h_L_no_thing.mono (by decide : 2 ≤ 8)) hr tk (jx_o 0 (jx_v (j_var 1) (jx_v j_int jx_nil))))) (jss_cons (js_set 4 hN (j_call (h_L_take.mono (by decide : 1 ≤ 8)) hr tk (jx_o 0 (jx_v j_int (jx_v j_int jx_nil))))) (jss_cons (js_setL 5 hN (jl_add (j_add (j_cut (JE.toO (j_cut (JE.toO (j_var 2)) jp_none (jp_some jq_int))) jp_none (jp_some (jq_var 4))) (JE.toO (JL.toE (jl_lst (ja_cons (j_var 3) ja_nil))))) (JE.toO (j_cut (JE.toO (j_cut (JE.toO (j_var 2)) jp_none (jp_some jq_int))) (jp_some (jq_var 4)) jp_none)))) (jss_cons (js_app 5 (j_call (h_L_no_thing.mono (by decide : 2 ≤ 8)) hr tk (jx_o 0 (jx_v (j_var 1) (jx_v j_int jx_nil))))) (jss_cons (js_set 6 hN (j_mul (JL.toE (jl_lst (ja_cons (j_var 3) ja_nil))) (JE.toO j_int))) (jss_cons (js_set 7 hN (j_call (h_L_take.mono (by decide : 1 ≤ 8)) hr tk (jx_o 0 (jx_v j_int (jx_v j_int jx_nil))))) (jss_cons (js_set 8 hN (j_ix (JL.toE (jl_lst (ja_cons (j_add j_int (JE.toO (j_var 7))) (ja_cons (j_sub (j_neg j_int) (JE.toO (j_var 7))) ja_nil)))) (JE.toO (j_call (h_L_take.mono (by decide : 1 ≤ 8)) hr tk (jx_o 0 (jx_v j_int (jx_v j_int jx_nil))))))) (jss_cons (js_setL 9 hN (jl_lst (ja_cons (j_tup (ja_cons j_str (ja_cons (j_var 8) (ja_cons (j_var 6) (ja_cons j_non (ja_cons (j_tup (ja_cons j_str (ja_cons (j_var 8) ja_nil))) ja_nil)))))) ja_nil))) (jss_cons (js_app 9 (j_tup (ja_cons j_str (ja_cons (j_var 8) (ja_cons j_non (ja_cons j_non (ja_cons (j_tup (ja_cons j_str (ja_cons (j_var 8) ja_nil))) ja_nil))))))) (jss_cons (js_app 9 (j_tup (ja_cons j_str (ja_cons (j_var 1) (ja_cons (j_var 6) (ja_cons j_non (ja_cons (j_tup (ja_cons j_str (ja_cons j_int ja_nil))) ja_nil))))))) (JSs.pub 5 (jss_cons (js_app 9 (j_tup (ja_cons j_str (ja_cons (j_var 1) (ja_cons (j_var 5) (ja_cons j_non (ja_cons (j_tup (ja_cons j_str (ja_cons (j_var 3) ja_nil))) ja_nil))))))) (jss_cons (js_for hp hc (ji_seq (JL.toE (jl_lst (ja_cons j_str (ja_cons j_str (ja_cons j_str ja_nil)))))) (jg_name 10 hN) (jss_cons (js_app 9 (j_tup (ja_cons (j_var 10) (ja_cons (j_var 8) (ja_cons (j_var 5) (ja_cons (j_var 6) (ja_cons (j_tup (ja_cons j_str (ja_cons (j_var 8) ja_nil))) ja_nil))))))) (jss_cons (js_app 9 (j_tup (ja_cons (j_var 10) (ja_cons (j_var 1) (ja_cons (j_var 5) (ja_cons (j_var 6) (ja_cons (j_tup (ja_cons j_str (ja_cons (j_var 3) ja_nil))) ja_nil))))))) (jss_cons (js_app 9 (j_tup (ja_cons (j_var 10) (ja_cons (j_var 1) (ja_cons (j_var 6) (ja_cons (j_var 5) (ja_cons (j_tup (ja_cons j_str (ja_cons j_int ja_nil))) ja_nil))))))) (jss_cons (js_app 9 (j_tup (ja_cons (j_var 10) (ja_cons (j_var 1) (ja_cons (j_var 2) (ja_cons (j_var 5) (ja_cons (j_tup (ja_cons j_str (ja_cons (j_var 3) ja_nil))) ja_nil))))))) (jss_one (js_app 9 (j_tup (ja_cons (j_var 10) (ja_cons (j_var 1) (ja_cons (j_var 2) (ja_cons (j_t1 call_tuple_of c1_tuple (M.fr "tuple" (by decide +kernel)) (by decide +kernel) (JE.toO (j_var 6))) (ja_cons (j_tup (ja_cons j_str (ja_cons j_int ja_nil))) ja_nil))))))))))))) (jss_cons (js_set 11 hN (JL.toE (jl_t1 call_list_of c1_list (M.fr "list" (by decide +kernel)) (by decide +kernel) (JE.toO (j_var 5))))) (JSs.pub 9 (jss_one (js_ret (j_and (j_call (h_L_all_refused.mono (by decide : 8 ≤ 8)) hr tk (jx_v (j_var 9) jx_nil)) (j_and (j_cmp (op_eqD hu) opS_eq (j_var 5) (JE.toO (j_var 11)) (nomark _)) (j_one (j_cmp (op_eqD hu) opS_eq (j_var 6) (JE.toO (j_mul (JL.toE (jl_lst (ja_cons (j_var 3) ja_nil))) (JE.toO j_int))) (nomark _))))))))))))))))))))))
theorem sc_L_bad_costs : FnScope N_L_bad_costs ps_L_bad_costs (defScope s_L_bad_costs) := ⟨rfl, rfl, rfl, by decide +kernel, rfl, by decide +kernel, by decide +kernel⟩
theorem b_L_bad_costs {fa : Addr} {cdv : Value} {A : Around} {outer : List PySem.Env} {s : Shared} {H : Hp} {E : XK} (M : MF K mg) (h_L_all_refused : FnJ P w K mg base 8 "_law_all_refused" 1 F_L_all_refused) (h_L_no_thing : FnJ P w K mg base 2 "_law_no_thing" 3 F_L_no_thing) (h_L_take : FnJ P w K mg base 1 "_law_take" 3 F_L_take)   (hr : Room 8 (A.deeper (envOfC "_law_bad_costs" (defScope s_L_bad_costs) s.heap.objs.size fa cdv))) (tk : L2N.Takes (cxOf (L2N.CX P w) P w K mg base N_L_bad_costs "_law_bad_costs" (defScope s_L_bad_costs) fa cdv A outer s H E) (fun c d _ H => E c d H)) (hp : PassesOwn (model P w) (cxOf (L2N.CX P w) P w K mg base N_L_bad_costs "_law_bad_costs" (defScope s_L_bad_costs) fa cdv A outer s H E).A (cxOf (L2N.CX P w) P w K mg base N_L_bad_costs "_law_bad_costs" (defScope s_L_bad_costs) fa cdv A outer s H E).env (cxOf (L2N.CX P w) P w K mg base N_L_bad_costs "_law_bad_costs" (defScope s_L_bad_costs) fa cdv A outer s H E).xe) :
    JSs (cxOf (L2N.CX P w) P w K mg base N_L_bad_costs "_law_bad_costs" (defScope s_L_bad_costs) fa cdv A outer s H E) (fun c d _ H => E c d H) (defBody s_L_bad_costs) f_L_bad_costs := by
  have hc : (cxOf (L2N.CX P w) P w K mg base N_L_bad_costs "_law_bad_costs" (defScope s_L_bad_costs) fa cdv A outer s H E).calm = true := rfl
  have hN : (cxOf (L2N.CX P w) P w K mg base N_L_bad_costs "_law_bad_costs" (defScope s_L_bad_costs) fa cdv A outer s H E).N.Nodup := sc_L_bad_costs.nd
  have hu := hr.units
  exact (jss_cons (js_set 4 hN (j_call (h_L_no_thing.mono (by decide : 2 ≤ 8)) hr tk (jx_o 0 (jx_v (j_var 1) (jx_v j_int jx_nil))))) (jss_cons (js_set 5 hN (j_call (h_L_take.mono (by decide : 1 ≤ 8)) hr tk (jx_o 0 (jx_v j_int (jx_v j_int jx_nil))))) (jss_cons (js_set 6 hN (j_ix (JL.toE (jl_lst (ja_cons (j_add (j_add (j_pow j_int (JE.toO j_int)) (JE.toO j_int)) (JE.toO (j_var 5))) (ja_cons (j_sub (j_sub (j_neg j_int) (JE.toO (j_pow j_int (JE.toO j_int)))) (JE.toO (j_var 5))) ja_nil)))) (JE.toO (j_call (h_L_take.mono (by decide : 1 ≤ 8)) hr tk (jx_o 0 (jx_v j_int (jx_v j_int jx_nil))))))) (jss_cons (js_set 7 hN (j_call (h_L_take.mono (by decide : 1 ≤ 8)) hr tk (jx_o 0 (jx_v (j_b2 (call_max2 hc) c2_I (M.fr "max" (by decide +kernel)) (by decide +kernel) j_int (JE.toO (j_var 1))) (jx_v j_int jx_nil))))) (jss_cons (js_set 8 hN (j_add (j_var 2) (JE.toO (JL.toE (jl_lst (ja_cons (j_var 6) ja_nil)))))) (jss_cons (js_setL 9 hN (jl_lst (ja_cons (j_tup (ja_cons j_str (ja_cons (j_add j_int (JE.toO (j_var 5))) (ja_cons (JL.toE (jl_lst (ja_cons (j_var 6) ja_nil))) (ja_cons (JL.toE (jl_lst (ja_cons (j_var 4) ja_nil))) (ja_cons (j_tup (ja_cons j_str (ja_cons (j_add j_int (JE.toO (j_var 5))) ja_nil))) ja_nil)))))) ja_nil))) (jss_cons (js_app 9 (j_tup (ja_cons j_str (ja_cons (j_sub (j_neg j_int) (JE.toO (j_var 5))) (ja_cons (JL.toE (jl_lst (ja_cons (j_var 6) ja_nil))) (ja_cons (JL.toE (jl_lst (ja_cons (j_var 4) ja_nil))) (ja_cons (j_tup (ja_cons j_str (ja_cons (j_sub (j_neg j_int) (JE.toO (j_var 5))) ja_nil))) ja_nil))))))) (jss_cons (js_app 9 (j_tup (ja_cons j_str (ja_cons (j_var 1) (ja_cons (j_var 8) (ja_cons (JL.toE (jl_lst (ja_cons (j_var 4) ja_nil))) (ja_cons (j_tup (ja_cons j_str (ja_cons (j_add (j_var 1) (JE.toO j_int)) ja_nil))) ja_nil))))))) (jss_cons (js_app 9 (j_tup (ja_cons j_str (ja_cons (j_var 1) (ja_cons (j_var 2) (ja_cons (j_add (j_cut (JE.toO (j_var 3)) jp_none (jp_some jq_int)) (JE.toO (JL.toE (jl_lst (ja_cons (j_var 4) ja_nil))))) (ja_cons (j_tup (ja_cons j_str (ja_cons (j_var 4) ja_nil))) ja_nil))))))) (jss_cons (js_app 9 (j_tup (ja_cons j_str (ja_cons (j_var 1) (ja_cons (j_var 2) (ja_cons (j_mul (JL.toE (jl_lst (ja_cons (j_var 4) ja_nil))) (JE.toO j_int)) (ja_cons (j_tup (ja_cons j_str (ja_cons j_int ja_nil))) ja_nil))))))) (jss_cons (js_if (jt_cmp op_gt opS_B0 (j_var 1) (JE.toO j_int) (nomark _)) (jss_cons (js_set 11 hN (j_cut (JE.toO (j_var 2)) (jp_some jq_int) jp_none)) (jss_cons (js_setLc 12 [("_law_cost_here", 13)] hc hN (ji_seq (j_var 2)) (blkOk_by (N := N_L_bad_costs) (sc := defScope s_L_bad_costs) (by decide +kernel)) (fun _ _ _ _ _ => (jg_name 13 hN)) (by decide) (fun _ _ _ _ _ => jts_nil) (fun _ _ _ _ _ => (j_mul (j_neg j_int) (JE.toO (j_var 6))))) (jss_cons (js_setIx 12 (j_var 6) (j_var 7)) (jss_cons (js_setCut 12 (j_cut (JE.toO (j_var 2)) jp_none (jp_some (jq_var 7))) jp_none (jp_some (jq_var 7))) (jss_cons (js_app 9 (j_tup (ja_cons j_str (ja_cons (j_var 1) (ja_cons (j_var 11) (ja_cons (JL.toE (jl_lst (ja_cons (j_var 4) ja_nil))) (ja_cons (j_tup (ja_cons j_str (ja_cons (j_sub (j_var 1) (JE.toO j_int)) ja_nil))) ja_nil))))))) (JSs.pub 12 (jss_cons (js_app 9 (j_tup (ja_cons j_str (ja_cons (j_var 1) (ja_cons (j_var 12) (ja_cons (JL.toE (jl_lst (ja_cons (j_var 4) ja_nil))) (ja_cons (j_tup (ja_cons j_str (ja_cons (j_var 6) ja_nil))) ja_nil))))))) (jss_one (js_app 9 (j_tup (ja_cons j_str (ja_cons (j_var 1) (ja_cons (j_t1 call_tuple_of c1_tuple (M.fr "tuple" (by decide +kernel)) (by decide +kernel) (JE.toO (j_var 12))) (ja_cons (JL.toE (jl_lst ja_nil)) (ja_cons (j_tup (ja_cons j_str (ja_cons (j_var 6) ja_nil))) ja_nil))))))))))))))) jss_nil) (jss_cons (js_set 10 hN (JL.toE (jl_t1 call_list_of c1_list (M.fr "list" (by decide +kernel)) (by decide +kernel) (JE.toO (j_var 2))))) (JSs.pub 9 (jss_one (js_ret (j_and (j_call (h_L_all_refused.mono (by decide : 8 ≤ 8)) hr tk (jx_v (j_var 9) jx_nil)) (j_one (j_cmp (op_eqD hu) opS_eq (j_var 2) (JE.toO (j_var 10)) (nomark _)))))))))))))))))))
theorem sc_law : FnScope N_law ps_law (defScope s_law) := ⟨rfl, rfl, rfl, by decide +kernel, rfl, by decide +kernel, by decide +kernel⟩
theorem b_law {fa : Addr} {cdv : Value} {A : Around} {outer : List PySem.Env} {s : Shared} {H : Hp} {E : XK} (M : MF K mg) (h_L_all_lots : FnJ P w K mg base 6 "_law_all_lots" 1 F_L_all_lots) (h_L_bad_costs : FnJ P w K mg base 9 "_law_bad_costs" 4 F_L_bad_costs) (h_L_bad_lots : FnJ P w K mg base 9 "_law_bad_lots" 3 F_L_bad_lots) (h_L_entries : FnJ P w K mg base 2 "_law_entries" 3 F_L_entries) (h_L_good : FnJ P w K mg base 8 "_law_good" 4 F_L_good) (h_L_take : FnJ P w K mg base 1 "_law_take" 3 F_L_take) (h_L_tape : FnJ P w K mg base 1 "_law_tape" 1 F_L_tape)   (hr : Room 9 (A.deeper (envOfC "law" (defScope s_law) s.heap.objs.size fa cdv))) (tk : L2N.Takes (cxOf (L2N.CX P w) P w K mg base N_law "law" (defScope s_law) fa cdv A outer s H E) (fun c d _ H => E c d H)) (hp : PassesOwn (model P w) (cxOf (L2N.CX P w) P w K mg base N_law "law" (defScope s_law) fa cdv A outer s H E).A (cxOf (L2N.CX P w) P w K mg base N_law "law" (defScope s_law) fa cdv A outer s H E).env (cxOf (L2N.CX P w) P w K mg base N_law "law" (defScope s_law) fa cdv A outer s H E).xe) :
    JSs (cxOf (L2N.CX P w) P w K mg base N_law "law" (defScope s_law) fa cdv A outer s H E) (fun c d _ H => E c d H) (defBody s_law) f_law := by
  have hc : (cxOf (L2N.CX P w) P w K mg base N_law "law" (defScope s_law) fa cdv A outer s H E).calm = true := rfl
  have hN : (cxOf (L2N.CX P w) P w K mg base N_law "law" (defScope s_law) fa cdv A outer s H E).N.Nodup := sc_law.nd
  have hu := hr.units
  exact (jss_cons (js_setL 1 hN (jl_call (h_L_tape.mono (by decide : 1 ≤ 9)) hr tk (jx_v (j_var 0) jx_nil))) (jss_cons (js_set 2 hN (j_ix (JL.toE (jl_lst (ja_cons j_int (ja_cons j_int (ja_cons j_int (ja_cons j_int (ja_cons j_int (ja_cons j_int (ja_cons j_int (ja_cons j_int (ja_cons j_int (ja_cons j_int (ja_cons j_int (ja_cons j_int ja_nil)))))))))))))) (JE.toO (j_call (h_L_take.mono (by decide : 1 ≤ 9)) hr tk (jx_o 1 (jx_v j_int (jx_v j_int jx_nil))))))) (jss_cons (js_set 3 hN (j_call (h_L_entries.mono (by decide : 2 ≤ 9)) hr tk (jx_o 1 (jx_v (j_var 2) (jx_v j_int jx_nil))))) (jss_cons (js_set 4 hN (j_call (h_L_entries.mono (by decide : 2 ≤ 9)) hr tk (jx_o 1 (jx_v (j_var 2) (jx_v j_int jx_nil))))) (jss_cons (js_setLc 5 [("_law_k", 7)] hc hN (ji_range1 (M.fr "range" (by decide +kernel)) (j_var 2)) (blkOk_by (N := N_law) (sc := defScope s_law) (by decide +kernel)) (fun _ _ _ _ _ => (jg_name 7 hN)) (by decide) (fun _ _ _ _ _ => jts_nil) (fun _ _ _ _ _ => (j_sub (j_call (h_L_take.mono (by decide : 1 ≤ 9)) hr takes_blk (jx_o 1 (jx_v j_int (jx_v (j_add (j_mul j_int (JE.toO (j_var 7))) (JE.toO j_int)) jx_nil)))) (JE.toO j_int)))) (jss_cons (js_set 6 hN (j_call (h_L_take.mono (by decide : 1 ≤ 9)) hr tk (jx_o 1 (jx_v j_int (jx_v j_int jx_nil))))) (jss_cons (js_if (jt_cmp op_lt opS_B0 (j_var 6) (JE.toO (j_var 2)) (nomark _)) (jss_one (js_setIx 5 (j_ix (JL.toE (jl_lst (ja_cons (j_neg (j_pow j_int (JE.toO j_int))) (ja_cons (j_pow j_int (JE.toO j_int)) ja_nil)))) (JE.toO (j_call (h_L_take.mono (by decide : 1 ≤ 9)) hr tk (jx_o 1 (jx_v j_int (jx_v j_int jx_nil)))))) (j_var 6))) jss_nil) (JSs.pub 5 (jss_cons (js_if (JW.t (jw_or (jt_not (jt_tru (JE.toO (j_call (h_L_all_lots.mono (by decide : 6 ≤ 9)) hr tk (jx_v (j_var 2) jx_nil))))) (jw_or1 (jt_not (jt_tru (JE.toO (j_call (h_L_good.mono (by decide : 8 ≤ 9)) hr tk (jx_v (j_var 2) (jx_v (j_var 5) (jx_v (j_var 3) (jx_v (j_var 4) jx_nil))))))))))) (jss_one (js_ret j_bl)) jss_nil) (jss_cons (js_if (jt_not (jt_tru (JE.toO (j_call (h_L_bad_lots.mono (by decide : 9 ≤ 9)) hr tk (jx_o 1 (jx_v (j_var 2) (jx_v (j_var 3) jx_nil))))))) (jss_one (js_ret j_bl)) jss_nil) (jss_cons (js_if (jt_not (jt_tru (JE.toO (j_call (h_L_bad_costs.mono (by decide : 9 ≤ 9)) hr tk (jx_o 1 (jx_v (j_var 2) (jx_v (j_var 5) (jx_v (j_var 4) jx_nil)))))))) (jss_one (js_ret j_bl)) jss_nil) (jss_one (js_ret (j_call (h_L_good.mono (by decide : 8 ≤ 9)) hr tk (jx_v (j_var 2) (jx_v (j_var 5) (jx_v (j_var 3) (jx_v (j_var 4) jx_nil))))))))))))))))))
theorem ok_mask_of {fa : Addr} {fd : FuncData} (F : FunD K "mask_of" "mask_of" (defArgs s_mask_of) (defBody s_mask_of) (defScope s_mask_of) [] [] fa fd) (gm : mg "mask_of" = some (.ref fa)) (M : MF K mg)    : FnJ P w K mg base 1 "mask_of" 1 F_mask_of := by
  have bn : Binds K fd ps_mask_of [] := F.bindsN fun _ _ _ _ _ _ us hl => match us, hl with | [_], _ => rfl
  have kp := F.kp
  obtain ⟨oc, od, dV, kV, doc, pm, an, cdv, ct, osl, rfl, lk, hcd, _, _⟩ := F.ex
  exact ⟨fa, _, ps_mask_of, gm, kp, rfl, bn, fn_J lk hcd sc_mask_of fun A outer s H E hr tk hp => b_mask_of M  hr tk hp⟩
theorem ok_lot_of_mask {fa : Addr} {fd : FuncData} (F : FunD K "lot_of_mask" "lot_of_mask" (defArgs s_lot_of_mask) (defBody s_lot_of_mask) (defScope s_lot_of_mask) [] [] fa fd) (gm : mg "lot_of_mask" = some (.ref fa)) (M : MF K mg)    : FnJ P w K mg base 1 "lot_of_mask" 1 F_lot_of_mask := by
  have bn : Binds K fd ps_lot_of_mask [] := F.bindsN fun _ _ _ _ _ _ us hl => match us, hl with | [_], _ => rfl
  have kp := F.kp
  obtain ⟨oc, od, dV, kV, doc, pm, an, cdv, ct, osl, rfl, lk, hcd, _, _⟩ := F.ex
  exact ⟨fa, _, ps_lot_of_mask, gm, kp, rfl, bn, fn_J lk hcd sc_lot_of_mask fun A outer s H E hr tk hp => b_lot_of_mask M  hr tk hp⟩
theorem ok_masks_in_order {fa : Addr} {fd : FuncData} (F : FunD K "masks_in_order" "masks_in_order" (defArgs s_masks_in_order) (defBody s_masks_in_order) (defScope s_masks_in_order) [] [] fa fd) (gm : mg "masks_in_order" = some (.ref fa)) (M : MF K mg)    : FnJ P w K mg base 1 "masks_in_order" 1 F_masks_in_order := by
  have bn : Binds K fd ps_masks_in_order [] := F.bindsN fun _ _ _ _ _ _ us hl => match us, hl with | [_], _ => rfl
  have kp := F.kp
  obtain ⟨oc, od, dV, kV, doc, pm, an, cdv, ct, osl, rfl, lk, hcd, _, _⟩ := F.ex
  exact ⟨fa, _, ps_masks_in_order, gm, kp, rfl, bn, fn_J lk hcd sc_masks_in_order fun A outer s H E hr tk hp => b_masks_in_order M  hr tk hp⟩
theorem ok_L_tape {fa : Addr} {fd : FuncData} (F : FunD K "_law_tape" "_law_tape" (defArgs s_L_tape) (defBody s_L_tape) (defScope s_L_tape) [] [] fa fd) (gm : mg "_law_tape" = some (.ref fa)) (M : MF K mg)    : FnJ P w K mg base 1 "_law_tape" 1 F_L_tape := by
  have bn : Binds K fd ps_L_tape [] := F.bindsN fun _ _ _ _ _ _ us hl => match us, hl with | [_], _ => rfl
  have kp := F.kp
  obtain ⟨oc, od, dV, kV, doc, pm, an, cdv, ct, osl, rfl, lk, hcd, _, _⟩ := F.ex
  exact ⟨fa, _, ps_L_tape, gm, kp, rfl, bn, fn_J lk hcd sc_L_tape fun A outer s H E hr tk hp => b_L_tape M  hr tk hp⟩
theorem ok_L_take {fa : Addr} {fd : FuncData} (F : FunD K "_law_take" "_law_take" (defArgs s_L_take) (defBody s_L_take) (defScope s_L_take) [] [] fa fd) (gm : mg "_law_take" = some (.ref fa)) (M : MF K mg)    : FnJ P w K mg base 1 "_law_take" 3 F_L_take := by
  have bn : Binds K fd ps_L_take [] := F.bindsN fun _ _ _ _ _ _ us hl => match us, hl with | [_, _, _], _ => rfl
  have kp := F.kp
  obtain ⟨oc, od, dV, kV, doc, pm, an, cdv, ct, osl, rfl, lk, hcd, _, _⟩ := F.ex
  exact ⟨fa, _, ps_L_take, gm, kp, rfl, bn, fn_J lk hcd sc_L_take fun A outer s H E hr tk hp => b_L_take M  hr tk hp⟩
theorem ok_L_int {fa : Addr} {fd : FuncData} (F : FunD K "_law_int" "_law_int" (defArgs s_L_int) (defBody s_L_int) (defScope s_L_int) [] [] fa fd) (gm : mg "_law_int" = some (.ref fa)) (M : MF K mg)    : FnJ P w K mg base 1 "_law_int" 1 F_L_int := by
  have bn : Binds K fd ps_L_int [] := F.bindsN fun _ _ _ _ _ _ us hl => match us, hl with | [_], _ => rfl
  have kp := F.kp
  obtain ⟨oc, od, dV, kV, doc, pm, an, cdv, ct, osl, rfl, lk, hcd, _, _⟩ := F.ex
  exact ⟨fa, _, ps_L_int, gm, kp, rfl, bn, fn_J lk hcd sc_L_int fun A outer s H E hr tk hp => b_L_int M  hr tk hp⟩
theorem bH_L_int {fa : Addr} {cdv : Value} {A : Around} {outer : List PySem.Env} {s : Shared} {H : Hp} {E : XK} {p : Addr × Obj} (M : MF K mg) : JSs (L2H.cxH (L2N.CX P w) P w K mg base N_L_int "_law_int" (defScope s_L_int) fa cdv A outer s H E p) (fun c d _ H => E c d H) (defBody s_L_int) f_L_int := by
  have hN : (L2H.cxH (L2N.CX P w) P w K mg base N_L_int "_law_int" (defScope s_L_int) fa cdv A outer s H E p).N.Nodup := sc_L_int.nd
  exact (jss_one (js_ret (j_and (j_isi (T := "int") (M.fr "isinstance" (by decide +kernel)) (M.fr "int" (by decide +kernel)) (by decide +kernel) (JE.toO (j_var 0))) (j_one (j_not (j_isi (T := "bool") (M.fr "isinstance" (by decide +kernel)) (M.fr "bool" (by decide +kernel)) (by decide +kernel) (JE.toO (j_var 0))))))))
theorem okH_L_int {fa : Addr} {fd : FuncData} (F : FunD K "_law_int" "_law_int" (defArgs s_L_int) (defBody s_L_int) (defScope s_L_int) [] [] fa fd) (gm : mg "_law_int" = some (.ref fa)) (M : MF K mg) : FnHJ P w K mg base 1 "_law_int" 1 F_L_int := by
  have bn : Binds K fd ps_L_int [] := F.bindsN fun _ _ _ _ _ _ us hl => match us, hl with | [_], _ => rfl
  have kp := F.kp
  obtain ⟨oc, od, dV, kV, doc, pm, an, cdv, ct, osl, rfl, lk, hcd, _, _⟩ := F.ex
  exact ⟨fa, _, ps_L_int, gm, kp, rfl, bn, fn_JH lk hcd sc_L_int fun A outer s H E p hr => bH_L_int M⟩
theorem ok_L_entries {fa : Addr} {fd : FuncData} (F : FunD K "_law_entries" "_law_entries" (defArgs s_L_entries) (defBody s_L_entries) (defScope s_L_entries) [] [] fa fd) (gm : mg "_law_entries" = some (.ref fa)) (M : MF K mg) (h_L_take : FnJ P w K mg base 1 "_law_take" 3 F_L_take)   : FnJ P w K mg base 2 "_law_entries" 3 F_L_entries := by
  have bn : Binds K fd ps_L_entries [] := F.bindsN fun _ _ _ _ _ _ us hl => match us, hl with | [_, _, _], _ => rfl
  have kp := F.kp
  obtain ⟨oc, od, dV, kV, doc, pm, an, cdv, ct, osl, rfl, lk, hcd, _, _⟩ := F.ex
  exact ⟨fa, _, ps_L_entries, gm, kp, rfl, bn, fn_J lk hcd sc_L_entries fun A outer s H E hr tk hp => b_L_entries M h_L_take hr tk hp⟩
theorem ok_L_no_thing {fa : Addr} {fd : FuncData} (F : FunD K "_law_no_thing" "_law_no_thing" (defArgs s_L_no_thing) (defBody s_L_no_thing) (defScope s_L_no_thing) [] [] fa fd) (gm : mg "_law_no_thing" = some (.ref fa)) (M : MF K mg) (h_L_take : FnJ P w K mg base 1 "_law_take" 3 F_L_take)   : FnJ P w K mg base 2 "_law_no_thing" 3 F_L_no_thing := by
  have bn : Binds K fd ps_L_no_thing [] := F.bindsN fun _ _ _ _ _ _ us hl => match us, hl with | [_, _, _], _ => rfl
  have kp := F.kp
  obtain ⟨oc, od, dV, kV, doc, pm, an, cdv, ct, osl, rfl, lk, hcd, _, _⟩ := F.ex
  exact ⟨fa, _, ps_L_no_thing, gm, kp, rfl, bn, fn_J lk hcd sc_L_no_thing fun A outer s H E hr tk hp => b_L_no_thing M h_L_take hr tk hp⟩
theorem ok_L_is_lot {fa : Addr} {fd : FuncData} (F : FunD K "_law_is_lot" "_law_is_lot" (defArgs s_L_is_lot) (defBody s_L_is_lot) (defScope s_L_is_lot) [] [] fa fd) (gm : mg "_law_is_lot" = some (.ref fa)) (M : MF K mg) (h_L_int : FnJ P w K mg base 1 "_law_int" 1 F_L_int) (hH_L_int : FnHJ P w K mg base 1 "_law_int" 1 F_L_int)  : FnJ P w K mg base 2 "_law_is_lot" 2 F_L_is_lot := by
  have bn : Binds K fd ps_L_is_lot [] := F.bindsN fun _ _ _ _ _ _ us hl => match us, hl with | [_, _], _ => rfl
  have kp := F.kp
  obtain ⟨oc, od, dV, kV, doc, pm, an, cdv, ct, osl, rfl, lk, hcd, _, _⟩ := F.ex
  exact ⟨fa, _, ps_L_is_lot, gm, kp, rfl, bn, fn_J lk hcd sc_L_is_lot fun A outer s H E hr tk hp => b_L_is_lot M h_L_int hH_L_int hr tk hp⟩
theorem ok_L_ascending {fa : Addr} {fd : FuncData} (F : FunD K "_law_ascending" "_law_ascending" (defArgs s_L_ascending) (defBody s_L_ascending) (defScope s_L_ascending) [] [] fa fd) (gm : mg "_law_ascending" = some (.ref fa)) (M : MF K mg) (h_L_int : FnJ P w K mg base 1 "_law_int" 1 F_L_int) (hH_L_int : FnHJ P w K mg base 1 "_law_int" 1 F_L_int)  : FnJ P w K mg base 2 "_law_ascending" 2 F_L_ascending := by
  have bn : Binds K fd ps_L_ascending [] := F.bindsN fun _ _ _ _ _ _ us hl => match us, hl with | [_, _], _ => rfl
  have kp := F.kp
  obtain ⟨oc, od, dV, kV, doc, pm, an, cdv, ct, osl, rfl, lk, hcd, _, _⟩ := F.ex
  exact ⟨fa, _, ps_L_ascending, gm, kp, rfl, bn, fn_J lk hcd sc_L_ascending fun A outer s H E hr tk hp => b_L_ascending M h_L_int hH_L_int hr tk hp⟩
theorem ok_look_number {fa : Addr} {fd : FuncData} (F : FunD K "look_number" "look_number" (defArgs s_look_number) (defBody s_look_number) (defScope s_look_number) [] [] fa fd) (gm : mg "look_number" = some (.ref fa)) (M : MF K mg)   (e_NumberError : ExcJ P w K mg base 1 "NumberError" 1 Fx_NumberError) : FnJ P w K mg base 3 "look_number" 3 F_look_number := by
  have bn : Binds K fd ps_look_number [] := F.bindsN fun _ _ _ _ _ _ us hl => match us, hl with | [_, _, _], _ => rfl
  have kp := F.kp
  obtain ⟨oc, od, dV, kV, doc, pm, an, cdv, ct, osl, rfl, lk, hcd, _, _⟩ := F.ex
  exact ⟨fa, _, ps_look_number, gm, kp, rfl, bn, fn_J lk hcd sc_look_number fun A outer s H E hr tk hp => b_look_number M e_NumberError hr tk hp⟩
theorem ok_look_size {fa : Addr} {fd : FuncData} (F : FunD K "look_size" "look_size" (defArgs s_look_size) (defBody s_look_size) (defScope s_look_size) [] [] fa fd) (gm : mg "look_size" = some (.ref fa)) (M : MF K mg)   (e_SizeError : ExcJ P w K mg base 1 "SizeError" 1 Fx_SizeError) : FnJ P w K mg base 3 "look_size" 3 F_look_size := by
  have bn : Binds K fd ps_look_size [] := F.bindsN fun _ _ _ _ _ _ us hl => match us, hl with | [_, _, _], _ => rfl
  have kp := F.kp
  obtain ⟨oc, od, dV, kV, doc, pm, an, cdv, ct, osl, rfl, lk, hcd, _, _⟩ := F.ex
  exact ⟨fa, _, ps_look_size, gm, kp, rfl, bn, fn_J lk hcd sc_look_size fun A outer s H E hr tk hp => b_look_size M e_SizeError hr tk hp⟩
theorem ok_look_thing {fa : Addr} {fd : FuncData} (F : FunD K "look_thing" "look_thing" (defArgs s_look_thing) (defBody s_look_thing) (defScope s_look_thing) [] [] fa fd) (gm : mg "look_thing" = some (.ref fa)) (M : MF K mg)   (e_ThingError : ExcJ P w K mg base 1 "ThingError" 1 Fx_ThingError) : FnJ P w K mg base 3 "look_thing" 2 F_look_thing := by
  have bn : Binds K fd ps_look_thing [] := F.bindsN fun _ _ _ _ _ _ us hl => match us, hl with | [_, _], _ => rfl
  have kp := F.kp
  obtain ⟨oc, od, dV, kV, doc, pm, an, cdv, ct, osl, rfl, lk, hcd, _, _⟩ := F.ex
  exact ⟨fa, _, ps_look_thing, gm, kp, rfl, bn, fn_J lk hcd sc_look_thing fun A outer s H E hr tk hp => b_look_thing M e_ThingError hr tk hp⟩
theorem ok_look_numbers {fa : Addr} {fd : FuncData} (F : FunD K "look_numbers" "look_numbers" (defArgs s_look_numbers) (defBody s_look_numbers) (defScope s_look_numbers) [] [] fa fd) (gm : mg "look_numbers" = some (.ref fa)) (M : MF K mg) (h_look_number : FnJ P w K mg base 3 "look_number" 3 F_look_number) (h_look_size : FnJ P w K mg base 3 "look_size" 3 F_look_size)   : FnJ P w K mg base 4 "look_numbers" 5 F_look_numbers := by
  have bn : Binds K fd ps_look_numbers [] := F.bindsN fun _ _ _ _ _ _ us hl => match us, hl with | [_, _, _, _, _], _ => rfl
  have kp := F.kp
  obtain ⟨oc, od, dV, kV, doc, pm, an, cdv, ct, osl, rfl, lk, hcd, _, _⟩ := F.ex
  exact ⟨fa, _, ps_look_numbers, gm, kp, rfl, bn, fn_J lk hcd sc_look_numbers fun A outer s H E hr tk hp => b_look_numbers M h_look_number h_look_size hr tk hp⟩
theorem ok_look_things {fa : Addr} {fd : FuncData} (F : FunD K "look_things" "look_things" (defArgs s_look_things) (defBody s_look_things) (defScope s_look_things) [] [] fa fd) (gm : mg "look_things" = some (.ref fa)) (M : MF K mg) (h_look_number : FnJ P w K mg base 3 "look_number" 3 F_look_number)   : FnJ P w K mg base 4 "look_things" 1 F_look_things := by
  have bn : Binds K fd ps_look_things [] := F.bindsN fun _ _ _ _ _ _ us hl => match us, hl with | [_], _ => rfl
  have kp := F.kp
  obtain ⟨oc, od, dV, kV, doc, pm, an, cdv, ct, osl, rfl, lk, hcd, _, _⟩ := F.ex
  exact ⟨fa, _, ps_look_things, gm, kp, rfl, bn, fn_J lk hcd sc_look_things fun A outer s H E hr tk hp => b_look_things M h_look_number hr tk hp⟩
theorem ok_look_lot {fa : Addr} {fd : FuncData} (F : FunD K "look_lot" "look_lot" (defArgs s_look_lot) (defBody s_look_lot) (defScope s_look_lot) [] [] fa fd) (gm : mg "look_lot" = some (.ref fa)) (M : MF K mg) (h_look_size : FnJ P w K mg base 3 "look_size" 3 F_look_size) (h_look_thing : FnJ P w K mg base 3 "look_thing" 2 F_look_thing)   : FnJ P w K mg base 4 "look_lot" 2 F_look_lot := by
  have bn : Binds K fd ps_look_lot [] := F.bindsN fun _ _ _ _ _ _ us hl => match us, hl with | [_, _], _ => rfl
  have kp := F.kp
  obtain ⟨oc, od, dV, kV, doc, pm, an, cdv, ct, osl, rfl, lk, hcd, _, _⟩ := F.ex
  exact ⟨fa, _, ps_look_lot, gm, kp, rfl, bn, fn_J lk hcd sc_look_lot fun A outer s H E hr tk hp => b_look_lot M h_look_size h_look_thing hr tk hp⟩
theorem ok_look_costs {fa : Addr} {fd : FuncData} (F : FunD K "look_costs" "look_costs" (defArgs s_look_costs) (defBody s_look_costs) (defScope s_look_costs) [] [] fa fd) (gm : mg "look_costs" = some (.ref fa)) (M : MF K mg) (h_look_numbers : FnJ P w K mg base 4 "look_numbers" 5 F_look_numbers)   : FnJ P w K mg base 5 "look_costs" 2 F_look_costs := by
  have bn : Binds K fd ps_look_costs [] := F.bindsN fun _ _ _ _ _ _ us hl => match us, hl with | [_, _], _ => rfl
  have kp := F.kp
  obtain ⟨oc, od, dV, kV, doc, pm, an, cdv, ct, osl, rfl, lk, hcd, _, _⟩ := F.ex
  exact ⟨fa, _, ps_look_costs, gm, kp, rfl, bn, fn_J lk hcd sc_look_costs fun A outer s H E hr tk hp => b_look_costs M h_look_numbers hr tk hp⟩
theorem ok_lot_of {fa : Addr} {fd : FuncData} (F : FunD K "lot_of" "lot_of" (defArgs s_lot_of) (defBody s_lot_of) (defScope s_lot_of) [] [] fa fd) (gm : mg "lot_of" = some (.ref fa)) (M : MF K mg) (h_look_lot : FnJ P w K mg base 4 "look_lot" 2 F_look_lot) (h_look_things : FnJ P w K mg base 4 "look_things" 1 F_look_things)   : FnJ P w K mg base 5 "lot_of" 2 F_lot_of := by
  have bn : Binds K fd ps_lot_of [] := F.bindsN fun _ _ _ _ _ _ us hl => match us, hl with | [_, _], _ => rfl
  have kp := F.kp
  obtain ⟨oc, od, dV, kV, doc, pm, an, cdv, ct, osl, rfl, lk, hcd, _, _⟩ := F.ex
  exact ⟨fa, _, ps_lot_of, gm, kp, rfl, bn, fn_J lk hcd sc_lot_of fun A outer s H E hr tk hp => b_lot_of M h_look_lot h_look_things hr tk hp⟩
theorem ok_all_lots {fa : Addr} {fd : FuncData} (F : FunD K "all_lots" "all_lots" (defArgs s_all_lots) (defBody s_all_lots) (defScope s_all_lots) [] [] fa fd) (gm : mg "all_lots" = some (.ref fa)) (M : MF K mg) (h_look_things : FnJ P w K mg base 4 "look_things" 1 F_look_things) (h_lot_of_mask : FnJ P w K mg base 1 "lot_of_mask" 1 F_lot_of_mask) (h_masks_in_order : FnJ P w K mg base 1 "masks_in_order" 1 F_masks_in_order)   : FnJ P w K mg base 5 "all_lots" 1 F_all_lots := by
  have bn : Binds K fd ps_all_lots [] := F.bindsN fun _ _ _ _ _ _ us hl => match us, hl with | [_], _ => rfl
  have kp := F.kp
  obtain ⟨oc, od, dV, kV, doc, pm, an, cdv, ct, osl, rfl, lk, hcd, _, _⟩ := F.ex
  exact ⟨fa, _, ps_all_lots, gm, kp, rfl, bn, fn_J lk hcd sc_all_lots fun A outer s H E hr tk hp => b_all_lots M h_look_things h_lot_of_mask h_masks_in_order hr tk hp⟩
theorem ok_P_two_masks {fa : Addr} {fd : FuncData} (F : FunD K "_two_masks" "_two_masks" (defArgs s_P_two_masks) (defBody s_P_two_masks) (defScope s_P_two_masks) [] [] fa fd) (gm : mg "_two_masks" = some (.ref fa)) (M : MF K mg) (h_look_lot : FnJ P w K mg base 4 "look_lot" 2 F_look_lot) (h_look_things : FnJ P w K mg base 4 "look_things" 1 F_look_things) (h_mask_of : FnJ P w K mg base 1 "mask_of" 1 F_mask_of)   : FnJ P w K mg base 5 "_two_masks" 3 F_P_two_masks := by
  have bn : Binds K fd ps_P_two_masks [] := F.bindsN fun _ _ _ _ _ _ us hl => match us, hl with | [_, _, _], _ => rfl
  have kp := F.kp
  obtain ⟨oc, od, dV, kV, doc, pm, an, cdv, ct, osl, rfl, lk, hcd, _, _⟩ := F.ex
  exact ⟨fa, _, ps_P_two_masks, gm, kp, rfl, bn, fn_J lk hcd sc_P_two_masks fun A outer s H E hr tk hp => b_P_two_masks M h_look_lot h_look_things h_mask_of hr tk hp⟩
theorem ok_joined {fa : Addr} {fd : FuncData} (F : FunD K "joined" "joined" (defArgs s_joined) (defBody s_joined) (defScope s_joined) [] [] fa fd) (gm : mg "joined" = some (.ref fa)) (M : MF K mg) (h_P_two_masks : FnJ P w K mg base 5 "_two_masks" 3 F_P_two_masks) (h_lot_of_mask : FnJ P w K mg base 1 "lot_of_mask" 1 F_lot_of_mask)   : FnJ P w K mg base 6 "joined" 3 F_joined := by
  have bn : Binds K fd ps_joined [] := F.bindsN fun _ _ _ _ _ _ us hl => match us, hl with | [_, _, _], _ => rfl
  have kp := F.kp
  obtain ⟨oc, od, dV, kV, doc, pm, an, cdv, ct, osl, rfl, lk, hcd, _, _⟩ := F.ex
  exact ⟨fa, _, ps_joined, gm, kp, rfl, bn, fn_J lk hcd sc_joined fun A outer s H E hr tk hp => b_joined M h_P_two_masks h_lot_of_mask hr tk hp⟩
theorem ok_common {fa : Addr} {fd : FuncData} (F : FunD K "common" "common" (defArgs s_common) (defBody s_common) (defScope s_common) [] [] fa fd) (gm : mg "common" = some (.ref fa)) (M : MF K mg) (h_P_two_masks : FnJ P w K mg base 5 "_two_masks" 3 F_P_two_masks) (h_lot_of_mask : FnJ P w K mg base 1 "lot_of_mask" 1 F_lot_of_mask)   : FnJ P w K mg base 6 "common" 3 F_common := by
  have bn : Binds K fd ps_common [] := F.bindsN fun _ _ _ _ _ _ us hl => match us, hl with | [_, _, _], _ => rfl
  have kp := F.kp
  obtain ⟨oc, od, dV, kV, doc, pm, an, cdv, ct, osl, rfl, lk, hcd, _, _⟩ := F.ex
  exact ⟨fa, _, ps_common, gm, kp, rfl, bn, fn_J lk hcd sc_common fun A outer s H E hr tk hp => b_common M h_P_two_masks h_lot_of_mask hr tk hp⟩
theorem ok_without {fa : Addr} {fd : FuncData} (F : FunD K "without" "without" (defArgs s_without) (defBody s_without) (defScope s_without) [] [] fa fd) (gm : mg "without" = some (.ref fa)) (M : MF K mg) (h_P_two_masks : FnJ P w K mg base 5 "_two_masks" 3 F_P_two_masks) (h_lot_of_mask : FnJ P w K mg base 1 "lot_of_mask" 1 F_lot_of_mask)   : FnJ P w K mg base 6 "without" 3 F_without := by
  have bn : Binds K fd ps_without [] := F.bindsN fun _ _ _ _ _ _ us hl => match us, hl with | [_, _, _], _ => rfl
  have kp := F.kp
  obtain ⟨oc, od, dV, kV, doc, pm, an, cdv, ct, osl, rfl, lk, hcd, _, _⟩ := F.ex
  exact ⟨fa, _, ps_without, gm, kp, rfl, bn, fn_J lk hcd sc_without fun A outer s H E hr tk hp => b_without M h_P_two_masks h_lot_of_mask hr tk hp⟩
theorem ok_cost_of {fa : Addr} {fd : FuncData} (F : FunD K "cost_of" "cost_of" (defArgs s_cost_of) (defBody s_cost_of) (defScope s_cost_of) [] [] fa fd) (gm : mg "cost_of" = some (.ref fa)) (M : MF K mg) (h_look_costs : FnJ P w K mg base 5 "look_costs" 2 F_look_costs) (h_look_lot : FnJ P w K mg base 4 "look_lot" 2 F_look_lot) (h_look_things : FnJ P w K mg base 4 "look_things" 1 F_look_things)   : FnJ P w K mg base 6 "cost_of" 3 F_cost_of := by
  have bn : Binds K fd ps_cost_of [] := F.bindsN fun _ _ _ _ _ _ us hl => match us, hl with | [_, _, _], _ => rfl
  have kp := F.kp
  obtain ⟨oc, od, dV, kV, doc, pm, an, cdv, ct, osl, rfl, lk, hcd, _, _⟩ := F.ex
  exact ⟨fa, _, ps_cost_of, gm, kp, rfl, bn, fn_J lk hcd sc_cost_of fun A outer s H E hr tk hp => b_cost_of M h_look_costs h_look_lot h_look_things hr tk hp⟩
theorem ok_L_all_lots {fa : Addr} {fd : FuncData} (F : FunD K "_law_all_lots" "_law_all_lots" (defArgs s_L_all_lots) (defBody s_L_all_lots) (defScope s_L_all_lots) [] [] fa fd) (gm : mg "_law_all_lots" = some (.ref fa)) (M : MF K mg) (h_L_ascending : FnJ P w K mg base 2 "_law_ascending" 2 F_L_ascending) (h_all_lots : FnJ P w K mg base 5 "all_lots" 1 F_all_lots)   : FnJ P w K mg base 6 "_law_all_lots" 1 F_L_all_lots := by
  have bn : Binds K fd ps_L_all_lots [] := F.bindsN fun _ _ _ _ _ _ us hl => match us, hl with | [_], _ => rfl
  have kp := F.kp
  obtain ⟨oc, od, dV, kV, doc, pm, an, cdv, ct, osl, rfl, lk, hcd, _, _⟩ := F.ex
  exact ⟨fa, _, ps_L_all_lots, gm, kp, rfl, bn, fn_J lk hcd sc_L_all_lots fun A outer s H E hr tk hp => b_L_all_lots M h_L_ascending h_all_lots hr tk hp⟩
theorem ok_L_told {fa : Addr} {fd : FuncData} (F : FunD K "_law_told" "_law_told" (defArgs s_L_told) (defBody s_L_told) (defScope s_L_told) [] [] fa fd) (gm : mg "_law_told" = some (.ref fa)) (M : MF K mg) (h_L_int : FnJ P w K mg base 1 "_law_int" 1 F_L_int) (h_all_lots : FnJ P w K mg base 5 "all_lots" 1 F_all_lots) (h_common : FnJ P w K mg base 6 "common" 3 F_common) (h_cost_of : FnJ P w K mg base 6 "cost_of" 3 F_cost_of) (h_joined : FnJ P w K mg base 6 "joined" 3 F_joined) (h_lot_of : FnJ P w K mg base 5 "lot_of" 2 F_lot_of) (h_without : FnJ P w K mg base 6 "without" 3 F_without) (hH_L_int : FnHJ P w K mg base 1 "_law_int" 1 F_L_int)  : FnJ P w K mg base 7 "_law_told" 4 F_L_told := by
  have bn : Binds K fd ps_L_told [] := F.bindsN fun _ _ _ _ _ _ us hl => match us, hl with | [_, _, _, _], _ => rfl
  have kp := F.kp
  obtain ⟨oc, od, dV, kV, doc, pm, an, cdv, ct, osl, rfl, lk, hcd, _, _⟩ := F.ex
  exact ⟨fa, _, ps_L_told, gm, kp, rfl, bn, fn_J lk hcd sc_L_told fun A outer s H E hr tk hp => b_L_told M h_L_int h_all_lots h_common h_cost_of h_joined h_lot_of h_without hH_L_int hr tk hp⟩
theorem ok_L_lots {fa : Addr} {fd : FuncData} (F : FunD K "_law_lots" "_law_lots" (defArgs s_L_lots) (defBody s_L_lots) (defScope s_L_lots) [] [] fa fd) (gm : mg "_law_lots" = some (.ref fa)) (M : MF K mg) (h_L_is_lot : FnJ P w K mg base 2 "_law_is_lot" 2 F_L_is_lot) (h_common : FnJ P w K mg base 6 "common" 3 F_common) (h_joined : FnJ P w K mg base 6 "joined" 3 F_joined) (h_lot_of : FnJ P w K mg base 5 "lot_of" 2 F_lot_of) (h_without : FnJ P w K mg base 6 "without" 3 F_without)   : FnJ P w K mg base 7 "_law_lots" 3 F_L_lots := by
  have bn : Binds K fd ps_L_lots [] := F.bindsN fun _ _ _ _ _ _ us hl => match us, hl with | [_, _, _], _ => rfl
  have kp := F.kp
  obtain ⟨oc, od, dV, kV, doc, pm, an, cdv, ct, osl, rfl, lk, hcd, _, _⟩ := F.ex
  exact ⟨fa, _, ps_L_lots, gm, kp, rfl, bn, fn_J lk hcd sc_L_lots fun A outer s H E hr tk hp => b_L_lots M h_L_is_lot h_common h_joined h_lot_of h_without hr tk hp⟩
theorem ok_L_cost {fa : Addr} {fd : FuncData} (F : FunD K "_law_cost" "_law_cost" (defArgs s_L_cost) (defBody s_L_cost) (defScope s_L_cost) [] [] fa fd) (gm : mg "_law_cost" = some (.ref fa)) (M : MF K mg) (h_L_int : FnJ P w K mg base 1 "_law_int" 1 F_L_int) (h_cost_of : FnJ P w K mg base 6 "cost_of" 3 F_cost_of) (hH_L_int : FnHJ P w K mg base 1 "_law_int" 1 F_L_int)  : FnJ P w K mg base 7 "_law_cost" 3 F_L_cost := by
  have bn : Binds K fd ps_L_cost [] := F.bindsN fun _ _ _ _ _ _ us hl => match us, hl with | [_, _, _], _ => rfl
  have kp := F.kp
  obtain ⟨oc, od, dV, kV, doc, pm, an, cdv, ct, osl, rfl, lk, hcd, _, _⟩ := F.ex
  exact ⟨fa, _, ps_L_cost, gm, kp, rfl, bn, fn_J lk hcd sc_L_cost fun A outer s H E hr tk hp => b_L_cost M h_L_int h_cost_of hH_L_int hr tk hp⟩
theorem ok_L_good {fa : Addr} {fd : FuncData} (F : FunD K "_law_good" "_law_good" (defArgs s_L_good) (defBody s_L_good) (defScope s_L_good) [] [] fa fd) (gm : mg "_law_good" = some (.ref fa)) (M : MF K mg) (h_L_cost : FnJ P w K mg base 7 "_law_cost" 3 F_L_cost) (h_L_lots : FnJ P w K mg base 7 "_law_lots" 3 F_L_lots)   : FnJ P w K mg base 8 "_law_good" 4 F_L_good := by
  have bn : Binds K fd ps_L_good [] := F.bindsN fun _ _ _ _ _ _ us hl => match us, hl with | [_, _, _, _], _ => rfl
  have kp := F.kp
  obtain ⟨oc, od, dV, kV, doc, pm, an, cdv, ct, osl, rfl, lk, hcd, _, _⟩ := F.ex
  exact ⟨fa, _, ps_L_good, gm, kp, rfl, bn, fn_J lk hcd sc_L_good fun A outer s H E hr tk hp => b_L_good M h_L_cost h_L_lots hr tk hp⟩
theorem ok_L_all_refused {fa : Addr} {fd : FuncData} (F : FunD K "_law_all_refused" "_law_all_refused" (defArgs s_L_all_refused) (defBody s_L_all_refused) (defScope s_L_all_refused) [] [] fa fd) (gm : mg "_law_all_refused" = some (.ref fa)) (M : MF K mg) (h_L_told : FnJ P w K mg base 7 "_law_told" 4 F_L_told)   : FnJ P w K mg base 8 "_law_all_refused" 1 F_L_all_refused := by
  have bn : Binds K fd ps_L_all_refused [] := F.bindsN fun _ _ _ _ _ _ us hl => match us, hl with | [_], _ => rfl
  have kp := F.kp
  obtain ⟨oc, od, dV, kV, doc, pm, an, cdv, ct, osl, rfl, lk, hcd, _, _⟩ := F.ex
  exact ⟨fa, _, ps_L_all_refused, gm, kp, rfl, bn, fn_J lk hcd sc_L_all_refused fun A outer s H E hr tk hp => b_L_all_refused M h_L_told hr tk hp⟩
theorem ok_L_bad_lots {fa : Addr} {fd : FuncData} (F : FunD K "_law_bad_lots" "_law_bad_lots" (defArgs s_L_bad_lots) (defBody s_L_bad_lots) (defScope s_L_bad_lots) [] [] fa fd) (gm : mg "_law_bad_lots" = some (.ref fa)) (M : MF K mg) (h_L_all_refused : FnJ P w K mg base 8 "_law_all_refused" 1 F_L_all_refused) (h_L_no_thing : FnJ P w K mg base 2 "_law_no_thing" 3 F_L_no_thing) (h_L_take : FnJ P w K mg base 1 "_law_take" 3 F_L_take)   : FnJ P w K mg base 9 "_law_bad_lots" 3 F_L_bad_lots := by
  have bn : Binds K fd ps_L_bad_lots [] := F.bindsN fun _ _ _ _ _ _ us hl => match us, hl with | [_, _, _], _ => rfl
  have kp := F.kp
  obtain ⟨oc, od, dV, kV, doc, pm, an, cdv, ct, osl, rfl, lk, hcd, _, _⟩ := F.ex
  exact ⟨fa, _, ps_L_bad_lots, gm, kp, rfl, bn, fn_J lk hcd sc_L_bad_lots fun A outer s H E hr tk hp => b_L_bad_lots M h_L_all_refused h_L_no_thing h_L_take hr tk hp⟩
theorem ok_L_bad_costs {fa : Addr} {fd : FuncData} (F : FunD K "_law_bad_costs" "_law_bad_costs" (defArgs s_L_bad_costs) (defBody s_L_bad_costs) (defScope s_L_bad_costs) [] [] fa fd) (gm : mg "_law_bad_costs" = some (.ref fa)) (M : MF K mg) (h_L_all_refused : FnJ P w K mg base 8 "_law_all_refused" 1 F_L_all_refused) (h_L_no_thing : FnJ P w K mg base 2 "_law_no_thing" 3 F_L_no_thing) (h_L_take : FnJ P w K mg base 1 "_law_take" 3 F_L_take)   : FnJ P w K mg base 9 "_law_bad_costs" 4 F_L_bad_costs := by
  have bn : Binds K fd ps_L_bad_costs [] := F.bindsN fun _ _ _ _ _ _ us hl => match us, hl with | [_, _, _, _], _ => rfl
  have kp := F.kp
  obtain ⟨oc, od, dV, kV, doc, pm, an, cdv, ct, osl, rfl, lk, hcd, _, _⟩ := F.ex
  exact ⟨fa, _, ps_L_bad_costs, gm, kp, rfl, bn, fn_J lk hcd sc_L_bad_costs fun A outer s H E hr tk hp => b_L_bad_costs M h_L_all_refused h_L_no_thing h_L_take hr tk hp⟩
theorem ok_law {fa : Addr} {fd : FuncData} (F : FunD K "law" "law" (defArgs s_law) (defBody s_law) (defScope s_law) [] [] fa fd) (gm : mg "law" = some (.ref fa)) (M : MF K mg) (h_L_all_lots : FnJ P w K mg base 6 "_law_all_lots" 1 F_L_all_lots) (h_L_bad_costs : FnJ P w K mg base 9 "_law_bad_costs" 4 F_L_bad_costs) (h_L_bad_lots : FnJ P w K mg base 9 "_law_bad_lots" 3 F_L_bad_lots) (h_L_entries : FnJ P w K mg base 2 "_law_entries" 3 F_L_entries) (h_L_good : FnJ P w K mg base 8 "_law_good" 4 F_L_good) (h_L_take : FnJ P w K mg base 1 "_law_take" 3 F_L_take) (h_L_tape : FnJ P w K mg base 1 "_law_tape" 1 F_L_tape)   : FnJ P w K mg base 10 "law" 1 F_law := by
  have bn : Binds K fd ps_law [] := F.bindsN fun _ _ _ _ _ _ us hl => match us, hl with | [_], _ => rfl
  have kp := F.kp
  obtain ⟨oc, od, dV, kV, doc, pm, an, cdv, ct, osl, rfl, lk, hcd, _, _⟩ := F.ex
  exact ⟨fa, _, ps_law, gm, kp, rfl, bn, fn_J lk hcd sc_law fun A outer s H E hr tk hp => b_law M h_L_all_lots h_L_bad_costs h_L_bad_lots h_L_entries h_L_good h_L_take h_L_tape hr tk hp⟩
theorem fo_law {fa : Addr} {fd : FuncData} (F : FunD K "law" "law" (defArgs s_law) (defBody s_law) (defScope s_law) [] [] fa fd) (M : MF K mg) (h_L_all_lots : FnJ P w K mg base 6 "_law_all_lots" 1 F_L_all_lots) (h_L_bad_costs : FnJ P w K mg base 9 "_law_bad_costs" 4 F_L_bad_costs) (h_L_bad_lots : FnJ P w K mg base 9 "_law_bad_lots" 3 F_L_bad_lots) (h_L_entries : FnJ P w K mg base 2 "_law_entries" 3 F_L_entries) (h_L_good : FnJ P w K mg base 8 "_law_good" 4 F_L_good) (h_L_take : FnJ P w K mg base 1 "_law_take" 3 F_L_take) (h_L_tape : FnJ P w K mg base 1 "_law_tape" 1 F_L_tape) : FnOk P w K mg base (L2N.CX P w) 10 fa fd ps_law (spJ K 1 F_law) := by
  obtain ⟨oc, od, dV, kV, doc, pm, an, cdv, ct, osl, rfl, lk, hcd, _, _⟩ := F.ex
  exact fn_J lk hcd sc_law fun A outer s H E hr tk hp => b_law M h_L_all_lots h_L_bad_costs h_L_bad_lots h_L_entries h_L_good h_L_take h_L_tape hr tk hp
def iniOf_NumberError : Stmt → Stmt
  | .ClassDef _ _ _ b _ _ _ _ _ _ _ => b.getD 0 (.Pass ⟨0, 0, 0, 0⟩)
  | s => s
abbrev si_NumberError : Stmt := iniOf_NumberError (top 3)
def ds_NumberError : DefS := ⟨"NumberError", "__init__", "NumberError.__init__", defArgs si_NumberError, defBody si_NumberError, defScope si_NumberError, PySem.Challenge.pw_nodearer_k03_lots.main.file⟩
def iniOf_SizeError : Stmt → Stmt
  | .ClassDef _ _ _ b _ _ _ _ _ _ _ => b.getD 0 (.Pass ⟨0, 0, 0, 0⟩)
  | s => s
abbrev si_SizeError : Stmt := iniOf_SizeError (top 2)
def ds_SizeError : DefS := ⟨"SizeError", "__init__", "SizeError.__init__", defArgs si_SizeError, defBody si_SizeError, defScope si_SizeError, PySem.Challenge.pw_nodearer_k03_lots.main.file⟩
def iniOf_ThingError : Stmt → Stmt
  | .ClassDef _ _ _ b _ _ _ _ _ _ _ => b.getD 0 (.Pass ⟨0, 0, 0, 0⟩)
  | s => s
abbrev si_ThingError : Stmt := iniOf_ThingError (top 4)
def ds_ThingError : DefS := ⟨"ThingError", "__init__", "ThingError.__init__", defArgs si_ThingError, defBody si_ThingError, defScope si_ThingError, PySem.Challenge.pw_nodearer_k03_lots.main.file⟩
def d_mask_of : He.DefD := ⟨("mask_of", none), "mask_of", "mask_of", defArgs s_mask_of, defBody s_mask_of, defScope s_mask_of, [], []⟩
def d_lot_of_mask : He.DefD := ⟨("lot_of_mask", none), "lot_of_mask", "lot_of_mask", defArgs s_lot_of_mask, defBody s_lot_of_mask, defScope s_lot_of_mask, [], []⟩
def d_masks_in_order : He.DefD := ⟨("masks_in_order", none), "masks_in_order", "masks_in_order", defArgs s_masks_in_order, defBody s_masks_in_order, defScope s_masks_in_order, [], []⟩
def d_L_tape : He.DefD := ⟨("_law_tape", none), "_law_tape", "_law_tape", defArgs s_L_tape, defBody s_L_tape, defScope s_L_tape, [], []⟩
def d_L_take : He.DefD := ⟨("_law_take", none), "_law_take", "_law_take", defArgs s_L_take, defBody s_L_take, defScope s_L_take, [], []⟩
def d_L_int : He.DefD := ⟨("_law_int", none), "_law_int", "_law_int", defArgs s_L_int, defBody s_L_int, defScope s_L_int, [], []⟩
def d_L_entries : He.DefD := ⟨("_law_entries", none), "_law_entries", "_law_entries", defArgs s_L_entries, defBody s_L_entries, defScope s_L_entries, [], []⟩
def d_L_no_thing : He.DefD := ⟨("_law_no_thing", none), "_law_no_thing", "_law_no_thing", defArgs s_L_no_thing, defBody s_L_no_thing, defScope s_L_no_thing, [], []⟩
def d_L_is_lot : He.DefD := ⟨("_law_is_lot", none), "_law_is_lot", "_law_is_lot", defArgs s_L_is_lot, defBody s_L_is_lot, defScope s_L_is_lot, [], []⟩
def d_L_ascending : He.DefD := ⟨("_law_ascending", none), "_law_ascending", "_law_ascending", defArgs s_L_ascending, defBody s_L_ascending, defScope s_L_ascending, [], []⟩
def d_look_number : He.DefD := ⟨("look_number", none), "look_number", "look_number", defArgs s_look_number, defBody s_look_number, defScope s_look_number, [], []⟩
def d_look_size : He.DefD := ⟨("look_size", none), "look_size", "look_size", defArgs s_look_size, defBody s_look_size, defScope s_look_size, [], []⟩
def d_look_thing : He.DefD := ⟨("look_thing", none), "look_thing", "look_thing", defArgs s_look_thing, defBody s_look_thing, defScope s_look_thing, [], []⟩
def d_look_numbers : He.DefD := ⟨("look_numbers", none), "look_numbers", "look_numbers", defArgs s_look_numbers, defBody s_look_numbers, defScope s_look_numbers, [], []⟩
def d_look_things : He.DefD := ⟨("look_things", none), "look_things", "look_things", defArgs s_look_things, defBody s_look_things, defScope s_look_things, [], []⟩
def d_look_lot : He.DefD := ⟨("look_lot", none), "look_lot", "look_lot", defArgs s_look_lot, defBody s_look_lot, defScope s_look_lot, [], []⟩
def d_look_costs : He.DefD := ⟨("look_costs", none), "look_costs", "look_costs", defArgs s_look_costs, defBody s_look_costs, defScope s_look_costs, [], []⟩
def d_lot_of : He.DefD := ⟨("lot_of", none), "lot_of", "lot_of", defArgs s_lot_of, defBody s_lot_of, defScope s_lot_of, [], []⟩
def d_all_lots : He.DefD := ⟨("all_lots", none), "all_lots", "all_lots", defArgs s_all_lots, defBody s_all_lots, defScope s_all_lots, [], []⟩
def d_P_two_masks : He.DefD := ⟨("_two_masks", none), "_two_masks", "_two_masks", defArgs s_P_two_masks, defBody s_P_two_masks, defScope s_P_two_masks, [], []⟩
def d_joined : He.DefD := ⟨("joined", none), "joined", "joined", defArgs s_joined, defBody s_joined, defScope s_joined, [], []⟩
def d_common : He.DefD := ⟨("common", none), "common", "common", defArgs s_common, defBody s_common, defScope s_common, [], []⟩
def d_without : He.DefD := ⟨("without", none), "without", "without", defArgs s_without, defBody s_without, defScope s_without, [], []⟩
def d_cost_of : He.DefD := ⟨("cost_of", none), "cost_of", "cost_of", defArgs s_cost_of, defBody s_cost_of, defScope s_cost_of, [], []⟩
def d_L_all_lots : He.DefD := ⟨("_law_all_lots", none), "_law_all_lots", "_law_all_lots", defArgs s_L_all_lots, defBody s_L_all_lots, defScope s_L_all_lots, [], []⟩
def d_L_told : He.DefD := ⟨("_law_told", none), "_law_told", "_law_told", defArgs s_L_told, defBody s_L_told, defScope s_L_told, [], []⟩
def d_L_lots : He.DefD := ⟨("_law_lots", none), "_law_lots", "_law_lots", defArgs s_L_lots, defBody s_L_lots, defScope s_L_lots, [], []⟩
def d_L_cost : He.DefD := ⟨("_law_cost", none), "_law_cost", "_law_cost", defArgs s_L_cost, defBody s_L_cost, defScope s_L_cost, [], []⟩
def d_L_good : He.DefD := ⟨("_law_good", none), "_law_good", "_law_good", defArgs s_L_good, defBody s_L_good, defScope s_L_good, [], []⟩
def d_L_all_refused : He.DefD := ⟨("_law_all_refused", none), "_law_all_refused", "_law_all_refused", defArgs s_L_all_refused, defBody s_L_all_refused, defScope s_L_all_refused, [], []⟩
def d_L_bad_lots : He.DefD := ⟨("_law_bad_lots", none), "_law_bad_lots", "_law_bad_lots", defArgs s_L_bad_lots, defBody s_L_bad_lots, defScope s_L_bad_lots, [], []⟩
def d_L_bad_costs : He.DefD := ⟨("_law_bad_costs", none), "_law_bad_costs", "_law_bad_costs", defArgs s_L_bad_costs, defBody s_L_bad_costs, defScope s_L_bad_costs, [], []⟩
def d_law : He.DefD := ⟨("law", none), "law", "law", defArgs s_law, defBody s_law, defScope s_law, [], []⟩
def fn : List He.DefD := [d_mask_of, d_lot_of_mask, d_masks_in_order, d_L_tape, d_L_take, d_L_int, d_L_entries, d_L_no_thing, d_L_is_lot, d_L_ascending, d_look_number, d_look_size, d_look_thing, d_look_numbers, d_look_things, d_look_lot, d_look_costs, d_lot_of, d_all_lots, d_P_two_masks, d_joined, d_common, d_without, d_cost_of, d_L_all_lots, d_L_told, d_L_lots, d_L_cost, d_L_good, d_L_all_refused, d_L_bad_lots, d_L_bad_costs, d_law]
def fs : List DefS := [ds_NumberError, ds_SizeError, ds_ThingError]
def glos : List Str := (["mask_of", "lot_of_mask", "masks_in_order", "_law_tape", "_law_take", "_law_int", "_law_entries", "_law_no_thing", "_law_is_lot", "_law_ascending", "look_number", "look_size", "look_thing", "look_numbers", "look_things"] : List PySem.Str) ++ (["look_lot", "look_costs", "lot_of", "all_lots", "_two_masks", "joined", "common", "without", "cost_of", "_law_all_lots", "_law_told", "_law_lots", "_law_cost", "_law_good", "_law_all_refused"] : List PySem.Str) ++ (["_law_bad_lots", "_law_bad_costs", "law", "NodearerError", "NumberError", "SizeError", "ThingError"] : List PySem.Str)
def fis : List He.Fa := [.int "MOST_THINGS_LOOK" (10), .int "MOST_LOT_ENTRIES" (60), .int "MOST_COST" (1000000)]
def fa : List He.Fa := glos.map .glo ++ (frs.map .free ++ fis)
def fx_SizeError : List Fb := tb_SizeError.map fun p => .exm p.1 "SizeError" p.2
def fx_ThingError : List Fb := tb_ThingError.map fun p => .exm p.1 "ThingError" p.2
def fx_NumberError : List Fb := tb_NumberError.map fun p => .exm p.1 "NumberError" p.2
def fb0 : List Fb := [.any] ++ [.exc "NumberError", .exc "SizeError", .exc "ThingError"] ++ [.sup "NumberError", .sup "SizeError", .sup "ThingError"] ++ [.noat "NumberError" "number", .noat "SizeError" "count", .noat "ThingError" "thing"] ++ [.kit1 "SizeError" (.own "NodearerError") true, .kitN "SizeError" [.own "NumberError", .own "ThingError"] false, .kit1 "ThingError" (.own "NodearerError") true, .kit1 "ThingError" (.own "NumberError") false, .kit1 "NumberError" (.own "NodearerError") true, .kit1 "NumberError" (.ty "ValueError") true]
def fb : List Fb := fb0 ++ fx_SizeError ++ fx_ThingError ++ fx_NumberError
def loose : List PySem.Str := (["NodearerError", "SizeError", "NumberError", "ThingError", "MOST_THINGS_LOOK", "MOST_LOT_ENTRIES", "MOST_COST", "look_number", "look_size", "look_numbers", "look_things", "look_thing", "look_lot", "look_costs", "mask_of"] : List PySem.Str) ++ (["lot_of_mask", "masks_in_order", "lot_of", "all_lots", "joined", "common", "without", "cost_of", "_two_masks", "_law_tape", "_law_take", "_law_int", "_law_entries", "_law_no_thing", "_law_told"] : List PySem.Str) ++ (["_law_is_lot", "_law_ascending", "_law_all_lots", "_law_lots", "_law_cost", "_law_good", "_law_all_refused", "_law_bad_lots", "_law_bad_costs"] : List PySem.Str)
abbrev R : PySem.W.OpenRow := PySem.W.OpenLaw.row PySem.Challenge.rw_nodearer_k03_lots
abbrev hk : PySem.W.Hook := hookJ 5 fa fb fn fs
def ob (s : PySem.W.SharedT) : AlJ := obsJG 5 fa fb fn fs (HandSHeadRun.getT s)
theorem ob_eq (s : PySem.W.SharedT) : ob s = hk.obs s.abs := obsJG_eq (HandSHeadRun.getT_eq s)
theorem run (w : World) : HandSHeadRun.RunEq R (PySem.W.view R.prog [44]) hk ob 4000 loose w := by
  intro os
  kernel_rfl
theorem gfact (c : SaysJ fa fb fn fs K) {x : Str} (h : x ∈ glos) : (He.Fa.glo x).ok K = true := c.alls.1 _ (List.mem_append_left _ (List.mem_map_of_mem h))
theorem ffact (c : SaysJ fa fb fn fs K) {x : Str} (h : x ∈ frs) : (He.Fa.free x).ok K = true := c.alls.1 _ (List.mem_append_right _ (List.mem_append_left _ (List.mem_map_of_mem h)))
theorem ifact (c : SaysJ fa fb fn fs K) {f : He.Fa} (h : f ∈ fis) : f.ok K = true := c.alls.1 _ (List.mem_append_right _ (List.mem_append_right _ h))
theorem bfact (c : SaysJ fa fb fn fs K) (i : Nat) {f : Fb} (h : fb0[i]? = some f := by rfl) : f.ok K = true := c.alls.2.1 f (List.mem_append_left _ (List.mem_append_left _ (List.mem_append_left _ (List.mem_of_getElem? h))))
theorem xfact_SizeError (c : SaysJ fa fb fn fs K) : ∀ p ∈ tb_SizeError, PySem.W.exmOne K (.ref (He.ga K p.1)) (.ref (He.ga K "SizeError")) = some p.2 := fun p hp => of_decide_eq_true (c.alls.2.1 (.exm p.1 "SizeError" p.2) (List.mem_append_left _ (List.mem_append_left _ (List.mem_append_right _ (List.mem_map_of_mem hp)))))
theorem xfact_ThingError (c : SaysJ fa fb fn fs K) : ∀ p ∈ tb_ThingError, PySem.W.exmOne K (.ref (He.ga K p.1)) (.ref (He.ga K "ThingError")) = some p.2 := fun p hp => of_decide_eq_true (c.alls.2.1 (.exm p.1 "ThingError" p.2) (List.mem_append_left _ (List.mem_append_right _ (List.mem_map_of_mem hp))))
theorem xfact_NumberError (c : SaysJ fa fb fn fs K) : ∀ p ∈ tb_NumberError, PySem.W.exmOne K (.ref (He.ga K p.1)) (.ref (He.ga K "NumberError")) = some p.2 := fun p hp => of_decide_eq_true (c.alls.2.1 (.exm p.1 "NumberError" p.2) (List.mem_append_right _ (List.mem_map_of_mem hp)))
theorem mf {h : Heap} (KX : K.In h) (G : h.Ns mainGlobals mg) (c : SaysJ fa fb fn fs K) : MF K mg where
  fr := fun x hx => He.free_ok KX G (ffact c hx)
  i_MOST_THINGS_LOOK := He.int_ok KX G (ifact c (f := .int "MOST_THINGS_LOOK" (10)) (by simp [fis]))
  i_MOST_LOT_ENTRIES := He.int_ok KX G (ifact c (f := .int "MOST_LOT_ENTRIES" (60)) (by simp [fis]))
  i_MOST_COST := He.int_ok KX G (ifact c (f := .int "MOST_COST" (1000000)) (by simp [fis]))
  cl_NodearerError := He.glo_ok KX G (gfact c (by decide +kernel))
  cl_NumberError := He.glo_ok KX G (gfact c (by decide +kernel))
  cl_SizeError := He.glo_ok KX G (gfact c (by decide +kernel))
  cl_ThingError := He.glo_ok KX G (gfact c (by decide +kernel))
  exm_SizeError := xfact_SizeError c
  exm_ThingError := xfact_ThingError c
  exm_NumberError := xfact_NumberError c
  fld_NumberError_number := ⟨excB_xf (bfact c 1 (f := .exc "NumberError")), He.eqO_ok (bfact c 7 (f := .noat "NumberError" "number"))⟩
  fld_SizeError_count := ⟨excB_xf (bfact c 2 (f := .exc "SizeError")), He.eqO_ok (bfact c 8 (f := .noat "SizeError" "count"))⟩
  fld_ThingError_thing := ⟨excB_xf (bfact c 3 (f := .exc "ThingError")), He.eqO_ok (bfact c 9 (f := .noat "ThingError" "thing"))⟩
  exc_NumberError := excB_exc (bfact c 1 (f := .exc "NumberError"))
  exc_SizeError := excB_exc (bfact c 2 (f := .exc "SizeError"))
  exc_ThingError := excB_exc (bfact c 3 (f := .exc "ThingError"))
  kit_0 := of_decide_eq_true (bfact c 10 (f := .kit1 "SizeError" (.own "NodearerError") true))
  kit_1 := of_decide_eq_true (bfact c 11 (f := .kitN "SizeError" [.own "NumberError", .own "ThingError"] false))
  kit_2 := of_decide_eq_true (bfact c 12 (f := .kit1 "ThingError" (.own "NodearerError") true))
  kit_3 := of_decide_eq_true (bfact c 13 (f := .kit1 "ThingError" (.own "NumberError") false))
  kit_4 := of_decide_eq_true (bfact c 14 (f := .kit1 "NumberError" (.own "NodearerError") true))
  kit_5 := of_decide_eq_true (bfact c 15 (f := .kit1 "NumberError" (.ty "ValueError") true))
theorem ei_NumberError {h : Heap} (KX : K.In h) (G : h.Ns mainGlobals mg) (c : SaysJ fa fb fn fs K) (hP : P.main.file = PySem.Challenge.pw_nodearer_k03_lots.main.file) (hT : (P.main.scope.names.lookup ("super" : Str)).isSome = false) : ExcJ P w K mg base 1 "NumberError" 1 Fx_NumberError := by
  have T : OexC K (He.ga K "NumberError") := excB_oex (bfact c 1 (f := .exc "NumberError"))
  have S0 := bfact c 4 (f := .sup "NumberError")
  have S1 : supB K (He.ga K "NumberError") = true := S0
  unfold supB at S1
  simp only [Bool.and_eq_true] at S1
  obtain ⟨u1, u2, u3, u4, u5⟩ := S1
  obtain ⟨fd, F⟩ := c.ini 0 (d := ds_NumberError) rfl
  have bn : Binds K fd ["self", "number"] [] := F.binds fun _ _ _ _ _ _ _ us hl => match us, hl with | [_, _], _ => rfl
  obtain ⟨oc, od, kV, doc, pm, ct, cl, an, cld, cda, cc, osl, csl, ccl, cdd, vs, ccs, file, tf, rfl, lk, hcd, hcell, hcode, hvs, hfile⟩ := F.ex
  have any : PySem.W.nsIn K PySem.cStatics "thirdparty.any" = some none := He.eqO_ok (bfact c 0 (f := .any))
  have SF : SupF P K mg (He.ga K "NumberError") cda := ⟨any, He.eqO_ok u1, of_decide_eq_true u2, of_decide_eq_true u3, ⟨ccl, cdd, vs, ccs, file, tf, hcode, hvs, by rw [hP]; exact hfile⟩, He.free_ok KX G (ffact c (by decide +kernel)), hT⟩
  refine ⟨_, _, ["self", "number"], He.glo_ok KX G (gfact c (by decide +kernel)), T, He.eqO_ok u4, of_decide_eq_true u5, rfl, bn, ?_⟩
  refine fn_initJ (N := ["self", "number"]) (ps := ["self", "number"]) (fl := fl_NumberError) lk (fun L => rfl) (fun L => rfl) (fun L => rfl) hcd ⟨rfl, rfl, rfl, by decide +kernel, rfl, by decide +kernel, by decide +kernel, by decide +kernel, rfl, rfl⟩ T SF hcell rfl rfl (by simp [fl_NumberError]) (by simp [fl_NumberError]) (fun p hp => ?_) (fun A outer s H E => (jput_cons (j_var 1) jput_nil rfl))
  simp only [fl_NumberError, List.mem_cons, List.not_mem_nil, or_false] at hp
  rcases hp with rfl
  · exact He.eqO_ok (bfact c 7 (f := .noat "NumberError" "number"))
theorem ei_SizeError {h : Heap} (KX : K.In h) (G : h.Ns mainGlobals mg) (c : SaysJ fa fb fn fs K) (hP : P.main.file = PySem.Challenge.pw_nodearer_k03_lots.main.file) (hT : (P.main.scope.names.lookup ("super" : Str)).isSome = false) : ExcJ P w K mg base 1 "SizeError" 1 Fx_SizeError := by
  have T : OexC K (He.ga K "SizeError") := excB_oex (bfact c 2 (f := .exc "SizeError"))
  have S0 := bfact c 5 (f := .sup "SizeError")
  have S1 : supB K (He.ga K "SizeError") = true := S0
  unfold supB at S1
  simp only [Bool.and_eq_true] at S1
  obtain ⟨u1, u2, u3, u4, u5⟩ := S1
  obtain ⟨fd, F⟩ := c.ini 1 (d := ds_SizeError) rfl
  have bn : Binds K fd ["self", "count"] [] := F.binds fun _ _ _ _ _ _ _ us hl => match us, hl with | [_, _], _ => rfl
  obtain ⟨oc, od, kV, doc, pm, ct, cl, an, cld, cda, cc, osl, csl, ccl, cdd, vs, ccs, file, tf, rfl, lk, hcd, hcell, hcode, hvs, hfile⟩ := F.ex
  have any : PySem.W.nsIn K PySem.cStatics "thirdparty.any" = some none := He.eqO_ok (bfact c 0 (f := .any))
  have SF : SupF P K mg (He.ga K "SizeError") cda := ⟨any, He.eqO_ok u1, of_decide_eq_true u2, of_decide_eq_true u3, ⟨ccl, cdd, vs, ccs, file, tf, hcode, hvs, by rw [hP]; exact hfile⟩, He.free_ok KX G (ffact c (by decide +kernel)), hT⟩
  refine ⟨_, _, ["self", "count"], He.glo_ok KX G (gfact c (by decide +kernel)), T, He.eqO_ok u4, of_decide_eq_true u5, rfl, bn, ?_⟩
  refine fn_initJ (N := ["self", "count"]) (ps := ["self", "count"]) (fl := fl_SizeError) lk (fun L => rfl) (fun L => rfl) (fun L => rfl) hcd ⟨rfl, rfl, rfl, by decide +kernel, rfl, by decide +kernel, by decide +kernel, by decide +kernel, rfl, rfl⟩ T SF hcell rfl rfl (by simp [fl_SizeError]) (by simp [fl_SizeError]) (fun p hp => ?_) (fun A outer s H E => (jput_cons (j_var 1) jput_nil rfl))
  simp only [fl_SizeError, List.mem_cons, List.not_mem_nil, or_false] at hp
  rcases hp with rfl
  · exact He.eqO_ok (bfact c 8 (f := .noat "SizeError" "count"))
theorem ei_ThingError {h : Heap} (KX : K.In h) (G : h.Ns mainGlobals mg) (c : SaysJ fa fb fn fs K) (hP : P.main.file = PySem.Challenge.pw_nodearer_k03_lots.main.file) (hT : (P.main.scope.names.lookup ("super" : Str)).isSome = false) : ExcJ P w K mg base 1 "ThingError" 1 Fx_ThingError := by
  have T : OexC K (He.ga K "ThingError") := excB_oex (bfact c 3 (f := .exc "ThingError"))
  have S0 := bfact c 6 (f := .sup "ThingError")
  have S1 : supB K (He.ga K "ThingError") = true := S0
  unfold supB at S1
  simp only [Bool.and_eq_true] at S1
  obtain ⟨u1, u2, u3, u4, u5⟩ := S1
  obtain ⟨fd, F⟩ := c.ini 2 (d := ds_ThingError) rfl
  have bn : Binds K fd ["self", "thing"] [] := F.binds fun _ _ _ _ _ _ _ us hl => match us, hl with | [_, _], _ => rfl
  obtain ⟨oc, od, kV, doc, pm, ct, cl, an, cld, cda, cc, osl, csl, ccl, cdd, vs, ccs, file, tf, rfl, lk, hcd, hcell, hcode, hvs, hfile⟩ := F.ex
  have any : PySem.W.nsIn K PySem.cStatics "thirdparty.any" = some none := He.eqO_ok (bfact c 0 (f := .any))
  have SF : SupF P K mg (He.ga K "ThingError") cda := ⟨any, He.eqO_ok u1, of_decide_eq_true u2, of_decide_eq_true u3, ⟨ccl, cdd, vs, ccs, file, tf, hcode, hvs, by rw [hP]; exact hfile⟩, He.free_ok KX G (ffact c (by decide +kernel)), hT⟩
  refine ⟨_, _, ["self", "thing"], He.glo_ok KX G (gfact c (by decide +kernel)), T, He.eqO_ok u4, of_decide_eq_true u5, rfl, bn, ?_⟩
  refine fn_initJ (N := ["self", "thing"]) (ps := ["self", "thing"]) (fl := fl_ThingError) lk (fun L => rfl) (fun L => rfl) (fun L => rfl) hcd ⟨rfl, rfl, rfl, by decide +kernel, rfl, by decide +kernel, by decide +kernel, by decide +kernel, rfl, rfl⟩ T SF hcell rfl rfl (by simp [fl_ThingError]) (by simp [fl_ThingError]) (fun p hp => ?_) (fun A outer s H E => (jput_cons (j_var 1) jput_nil rfl))
  simp only [fl_ThingError, List.mem_cons, List.not_mem_nil, or_false] at hp
  rcases hp with rfl
  · exact He.eqO_ok (bfact c 9 (f := .noat "ThingError" "thing"))
theorem facts {h : Heap} {fL : Addr} (KX : K.In h) (G : h.Ns mainGlobals mg) (hl : mg ("law" : Str) = some (.ref fL)) (c : SaysJ fa fb fn fs K) (hP : P.main.file = PySem.Challenge.pw_nodearer_k03_lots.main.file) (hT : (P.main.scope.names.lookup ("super" : Str)).isSome = false) :
    ∃ fd : FuncData, (∀ (s : Shared) (v : Value), BindsTo s fd ⟨[v], []⟩ [("_law_script", v)]) ∧ ∀ base : Heap, FnOk P w K mg base (L2N.CX P w) 10 fL fd ps_law (spJ K 1 F_law) := by
  have M := mf KX G c
  obtain ⟨fd_mask_of, D_mask_of⟩ := c.def_ 0 (d := d_mask_of) rfl
  have g_mask_of : mg "mask_of" = some (.ref (He.ga K "mask_of")) := He.glo_ok KX G (gfact c (by decide +kernel))
  obtain ⟨fd_lot_of_mask, D_lot_of_mask⟩ := c.def_ 1 (d := d_lot_of_mask) rfl
  have g_lot_of_mask : mg "lot_of_mask" = some (.ref (He.ga K "lot_of_mask")) := He.glo_ok KX G (gfact c (by decide +kernel))
  obtain ⟨fd_masks_in_order, D_masks_in_order⟩ := c.def_ 2 (d := d_masks_in_order) rfl
  have g_masks_in_order : mg "masks_in_order" = some (.ref (He.ga K "masks_in_order")) := He.glo_ok KX G (gfact c (by decide +kernel))
  obtain ⟨fd_L_tape, D_L_tape⟩ := c.def_ 3 (d := d_L_tape) rfl
  have g_L_tape : mg "_law_tape" = some (.ref (He.ga K "_law_tape")) := He.glo_ok KX G (gfact c (by decide +kernel))
  obtain ⟨fd_L_take, D_L_take⟩ := c.def_ 4 (d := d_L_take) rfl
  have g_L_take : mg "_law_take" = some (.ref (He.ga K "_law_take")) := He.glo_ok KX G (gfact c (by decide +kernel))
  obtain ⟨fd_L_int, D_L_int⟩ := c.def_ 5 (d := d_L_int) rfl
  have g_L_int : mg "_law_int" = some (.ref (He.ga K "_law_int")) := He.glo_ok KX G (gfact c (by decide +kernel))
  obtain ⟨fd_L_entries, D_L_entries⟩ := c.def_ 6 (d := d_L_entries) rfl
  have g_L_entries : mg "_law_entries" = some (.ref (He.ga K "_law_entries")) := He.glo_ok KX G (gfact c (by decide +kernel))
  obtain ⟨fd_L_no_thing, D_L_no_thing⟩ := c.def_ 7 (d := d_L_no_thing) rfl
  have g_L_no_thing : mg "_law_no_thing" = some (.ref (He.ga K "_law_no_thing")) := He.glo_ok KX G (gfact c (by decide +kernel))
  obtain ⟨fd_L_is_lot, D_L_is_lot⟩ := c.def_ 8 (d := d_L_is_lot) rfl
  have g_L_is_lot : mg "_law_is_lot" = some (.ref (He.ga K "_law_is_lot")) := He.glo_ok KX G (gfact c (by decide +kernel))
  obtain ⟨fd_L_ascending, D_L_ascending⟩ := c.def_ 9 (d := d_L_ascending) rfl
  have g_L_ascending : mg "_law_ascending" = some (.ref (He.ga K "_law_ascending")) := He.glo_ok KX G (gfact c (by decide +kernel))
  obtain ⟨fd_look_number, D_look_number⟩ := c.def_ 10 (d := d_look_number) rfl
  have g_look_number : mg "look_number" = some (.ref (He.ga K "look_number")) := He.glo_ok KX G (gfact c (by decide +kernel))
  obtain ⟨fd_look_size, D_look_size⟩ := c.def_ 11 (d := d_look_size) rfl
  have g_look_size : mg "look_size" = some (.ref (He.ga K "look_size")) := He.glo_ok KX G (gfact c (by decide +kernel))
  obtain ⟨fd_look_thing, D_look_thing⟩ := c.def_ 12 (d := d_look_thing) rfl
  have g_look_thing : mg "look_thing" = some (.ref (He.ga K "look_thing")) := He.glo_ok KX G (gfact c (by decide +kernel))
  obtain ⟨fd_look_numbers, D_look_numbers⟩ := c.def_ 13 (d := d_look_numbers) rfl
  have g_look_numbers : mg "look_numbers" = some (.ref (He.ga K "look_numbers")) := He.glo_ok KX G (gfact c (by decide +kernel))
  obtain ⟨fd_look_things, D_look_things⟩ := c.def_ 14 (d := d_look_things) rfl
  have g_look_things : mg "look_things" = some (.ref (He.ga K "look_things")) := He.glo_ok KX G (gfact c (by decide +kernel))
  obtain ⟨fd_look_lot, D_look_lot⟩ := c.def_ 15 (d := d_look_lot) rfl
  have g_look_lot : mg "look_lot" = some (.ref (He.ga K "look_lot")) := He.glo_ok KX G (gfact c (by decide +kernel))
  obtain ⟨fd_look_costs, D_look_costs⟩ := c.def_ 16 (d := d_look_costs) rfl
  have g_look_costs : mg "look_costs" = some (.ref (He.ga K "look_costs")) := He.glo_ok KX G (gfact c (by decide +kernel))
  obtain ⟨fd_lot_of, D_lot_of⟩ := c.def_ 17 (d := d_lot_of) rfl
  have g_lot_of : mg "lot_of" = some (.ref (He.ga K "lot_of")) := He.glo_ok KX G (gfact c (by decide +kernel))
  obtain ⟨fd_all_lots, D_all_lots⟩ := c.def_ 18 (d := d_all_lots) rfl
  have g_all_lots : mg "all_lots" = some (.ref (He.ga K "all_lots")) := He.glo_ok KX G (gfact c (by decide +kernel))
  obtain ⟨fd_P_two_masks, D_P_two_masks⟩ := c.def_ 19 (d := d_P_two_masks) rfl
  have g_P_two_masks : mg "_two_masks" = some (.ref (He.ga K "_two_masks")) := He.glo_ok KX G (gfact c (by decide +kernel))
  obtain ⟨fd_joined, D_joined⟩ := c.def_ 20 (d := d_joined) rfl
  have g_joined : mg "joined" = some (.ref (He.ga K "joined")) := He.glo_ok KX G (gfact c (by decide +kernel))
  obtain ⟨fd_common, D_common⟩ := c.def_ 21 (d := d_common) rfl
  have g_common : mg "common" = some (.ref (He.ga K "common")) := He.glo_ok KX G (gfact c (by decide +kernel))
  obtain ⟨fd_without, D_without⟩ := c.def_ 22 (d := d_without) rfl
  have g_without : mg "without" = some (.ref (He.ga K "without")) := He.glo_ok KX G (gfact c (by decide +kernel))
  obtain ⟨fd_cost_of, D_cost_of⟩ := c.def_ 23 (d := d_cost_of) rfl
  have g_cost_of : mg "cost_of" = some (.ref (He.ga K "cost_of")) := He.glo_ok KX G (gfact c (by decide +kernel))
  obtain ⟨fd_L_all_lots, D_L_all_lots⟩ := c.def_ 24 (d := d_L_all_lots) rfl
  have g_L_all_lots : mg "_law_all_lots" = some (.ref (He.ga K "_law_all_lots")) := He.glo_ok KX G (gfact c (by decide +kernel))
  obtain ⟨fd_L_told, D_L_told⟩ := c.def_ 25 (d := d_L_told) rfl
  have g_L_told : mg "_law_told" = some (.ref (He.ga K "_law_told")) := He.glo_ok KX G (gfact c (by decide +kernel))
  obtain ⟨fd_L_lots, D_L_lots⟩ := c.def_ 26 (d := d_L_lots) rfl
  have g_L_lots : mg "_law_lots" = some (.ref (He.ga K "_law_lots")) := He.glo_ok KX G (gfact c (by decide +kernel))
  obtain ⟨fd_L_cost, D_L_cost⟩ := c.def_ 27 (d := d_L_cost) rfl
  have g_L_cost : mg "_law_cost" = some (.ref (He.ga K "_law_cost")) := He.glo_ok KX G (gfact c (by decide +kernel))
  obtain ⟨fd_L_good, D_L_good⟩ := c.def_ 28 (d := d_L_good) rfl
  have g_L_good : mg "_law_good" = some (.ref (He.ga K "_law_good")) := He.glo_ok KX G (gfact c (by decide +kernel))
  obtain ⟨fd_L_all_refused, D_L_all_refused⟩ := c.def_ 29 (d := d_L_all_refused) rfl
  have g_L_all_refused : mg "_law_all_refused" = some (.ref (He.ga K "_law_all_refused")) := He.glo_ok KX G (gfact c (by decide +kernel))
  obtain ⟨fd_L_bad_lots, D_L_bad_lots⟩ := c.def_ 30 (d := d_L_bad_lots) rfl
  have g_L_bad_lots : mg "_law_bad_lots" = some (.ref (He.ga K "_law_bad_lots")) := He.glo_ok KX G (gfact c (by decide +kernel))
  obtain ⟨fd_L_bad_costs, D_L_bad_costs⟩ := c.def_ 31 (d := d_L_bad_costs) rfl
  have g_L_bad_costs : mg "_law_bad_costs" = some (.ref (He.ga K "_law_bad_costs")) := He.glo_ok KX G (gfact c (by decide +kernel))
  obtain ⟨fd_law, D_law⟩ := c.def_ 32 (d := d_law) rfl
  have e := hl.symm.trans (He.glo_ok KX G (gfact c (x := "law") (by decide +kernel)))
  cases e
  have b := FunD.bindsA (ps := ps_law) D_law fun _ _ _ _ _ _ us hl => match us, hl with | [_], _ => rfl
  refine ⟨fd_law, fun s v => b s [v] rfl, fun base => ?_⟩
  have e_NumberError : ExcJ P w K mg base 1 "NumberError" 1 Fx_NumberError := ei_NumberError KX G c hP hT
  have e_SizeError : ExcJ P w K mg base 1 "SizeError" 1 Fx_SizeError := ei_SizeError KX G c hP hT
  have e_ThingError : ExcJ P w K mg base 1 "ThingError" 1 Fx_ThingError := ei_ThingError KX G c hP hT
  have h_mask_of : FnJ P w K mg base 1 "mask_of" 1 F_mask_of := ok_mask_of D_mask_of g_mask_of M 
  have h_lot_of_mask : FnJ P w K mg base 1 "lot_of_mask" 1 F_lot_of_mask := ok_lot_of_mask D_lot_of_mask g_lot_of_mask M 
  have h_masks_in_order : FnJ P w K mg base 1 "masks_in_order" 1 F_masks_in_order := ok_masks_in_order D_masks_in_order g_masks_in_order M 
  have h_L_tape : FnJ P w K mg base 1 "_law_tape" 1 F_L_tape := ok_L_tape D_L_tape g_L_tape M 
  have h_L_take : FnJ P w K mg base 1 "_law_take" 3 F_L_take := ok_L_take D_L_take g_L_take M 
  have h_L_int : FnJ P w K mg base 1 "_law_int" 1 F_L_int := ok_L_int D_L_int g_L_int M 
  have hH_L_int : FnHJ P w K mg base 1 "_law_int" 1 F_L_int := okH_L_int D_L_int g_L_int M
  have h_L_entries : FnJ P w K mg base 2 "_law_entries" 3 F_L_entries := ok_L_entries D_L_entries g_L_entries M h_L_take
  have h_L_no_thing : FnJ P w K mg base 2 "_law_no_thing" 3 F_L_no_thing := ok_L_no_thing D_L_no_thing g_L_no_thing M h_L_take
  have h_L_is_lot : FnJ P w K mg base 2 "_law_is_lot" 2 F_L_is_lot := ok_L_is_lot D_L_is_lot g_L_is_lot M h_L_int hH_L_int
  have h_L_ascending : FnJ P w K mg base 2 "_law_ascending" 2 F_L_ascending := ok_L_ascending D_L_ascending g_L_ascending M h_L_int hH_L_int
  have h_look_number : FnJ P w K mg base 3 "look_number" 3 F_look_number := ok_look_number D_look_number g_look_number M e_NumberError
  have h_look_size : FnJ P w K mg base 3 "look_size" 3 F_look_size := ok_look_size D_look_size g_look_size M e_SizeError
  have h_look_thing : FnJ P w K mg base 3 "look_thing" 2 F_look_thing := ok_look_thing D_look_thing g_look_thing M e_ThingError
  have h_look_numbers : FnJ P w K mg base 4 "look_numbers" 5 F_look_numbers := ok_look_numbers D_look_numbers g_look_numbers M h_look_number h_look_size
  have h_look_things : FnJ P w K mg base 4 "look_things" 1 F_look_things := ok_look_things D_look_things g_look_things M h_look_number
  have h_look_lot : FnJ P w K mg base 4 "look_lot" 2 F_look_lot := ok_look_lot D_look_lot g_look_lot M h_look_size h_look_thing
  have h_look_costs : FnJ P w K mg base 5 "look_costs" 2 F_look_costs := ok_look_costs D_look_costs g_look_costs M h_look_numbers
  have h_lot_of : FnJ P w K mg base 5 "lot_of" 2 F_lot_of := ok_lot_of D_lot_of g_lot_of M h_look_lot h_look_things
  have h_all_lots : FnJ P w K mg base 5 "all_lots" 1 F_all_lots := ok_all_lots D_all_lots g_all_lots M h_look_things h_lot_of_mask h_masks_in_order
  have h_P_two_masks : FnJ P w K mg base 5 "_two_masks" 3 F_P_two_masks := ok_P_two_masks D_P_two_masks g_P_two_masks M h_look_lot h_look_things h_mask_of
  have h_joined : FnJ P w K mg base 6 "joined" 3 F_joined := ok_joined D_joined g_joined M h_P_two_masks h_lot_of_mask
  have h_common : FnJ P w K mg base 6 "common" 3 F_common := ok_common D_common g_common M h_P_two_masks h_lot_of_mask
  have h_without : FnJ P w K mg base 6 "without" 3 F_without := ok_without D_without g_without M h_P_two_masks h_lot_of_mask
  have h_cost_of : FnJ P w K mg base 6 "cost_of" 3 F_cost_of := ok_cost_of D_cost_of g_cost_of M h_look_costs h_look_lot h_look_things
  have h_L_all_lots : FnJ P w K mg base 6 "_law_all_lots" 1 F_L_all_lots := ok_L_all_lots D_L_all_lots g_L_all_lots M h_L_ascending h_all_lots
  have h_L_told : FnJ P w K mg base 7 "_law_told" 4 F_L_told := ok_L_told D_L_told g_L_told M h_L_int h_all_lots h_common h_cost_of h_joined h_lot_of h_without hH_L_int
  have h_L_lots : FnJ P w K mg base 7 "_law_lots" 3 F_L_lots := ok_L_lots D_L_lots g_L_lots M h_L_is_lot h_common h_joined h_lot_of h_without
  have h_L_cost : FnJ P w K mg base 7 "_law_cost" 3 F_L_cost := ok_L_cost D_L_cost g_L_cost M h_L_int h_cost_of hH_L_int
  have h_L_good : FnJ P w K mg base 8 "_law_good" 4 F_L_good := ok_L_good D_L_good g_L_good M h_L_cost h_L_lots
  have h_L_all_refused : FnJ P w K mg base 8 "_law_all_refused" 1 F_L_all_refused := ok_L_all_refused D_L_all_refused g_L_all_refused M h_L_told
  have h_L_bad_lots : FnJ P w K mg base 9 "_law_bad_lots" 3 F_L_bad_lots := ok_L_bad_lots D_L_bad_lots g_L_bad_lots M h_L_all_refused h_L_no_thing h_L_take
  have h_L_bad_costs : FnJ P w K mg base 9 "_law_bad_costs" 4 F_L_bad_costs := ok_L_bad_costs D_L_bad_costs g_L_bad_costs M h_L_all_refused h_L_no_thing h_L_take
  exact fo_law D_law M h_L_all_lots h_L_bad_costs h_L_bad_lots h_L_entries h_L_good h_L_take h_L_tape
end
end Lw

namespace J
open PySem PySem.Spec PyProof.Rows L2
section
variable {α : Type} (E : J.Env)
@[simp] theorem u_fVar (i : Nat) : fVar i E = (match E[i]? with | some (.val d) => .ok d E | _ => .stuck) := rfl
@[simp] theorem u_fBor (i : Nat) : fBor i E = (match E[i]? with | some (.own _ l) => .ok (.lst l) E | some (.val d) => .ok d E | _ => .stuck) := rfl
@[simp] theorem u_fC (d : D) : fC d E = .ok d E := rfl
@[simp] theorem u_getV (i : Nat) : getV i E = (match E[i]? with | some (.val d) => some d | _ => none) := rfl
@[simp] theorem u_fop (g : D → D → Option D) (a b : J.Env → R D) : fop g a b E = (a E).bind fun x E => (b E).bind fun y E => match g x y with | some d => .ok d E | none => .stuck := rfl
@[simp] theorem u_fopB (g : D → D → Option D) (a : J.Env → R D) (b : J.Env → Option D) : fopB g a b E = (a E).bind fun x E => match (b E).bind (g x) with | some d => .ok d E | none => .stuck := rfl
@[simp] theorem u_fopL (g : D → D → Option D) (a b : J.Env → R D) : fopL g a b E = (a E).bind fun a E => (b E).bind fun b E => match a, g a b with | .lst _, some (.lst l) => .ok l E | _, _ => .stuck := rfl
@[simp] theorem u_fun1 (g : D → Option D) (a : J.Env → R D) : fun1 g a E = (a E).bind fun x E => match g x with | some d => .ok d E | none => .stuck := rfl
@[simp] theorem u_fun1L (g : D → Option (List D)) (a : J.Env → R D) : fun1L g a E = (a E).bind fun x E => match g x with | some d => .ok d E | none => .stuck := rfl
@[simp] theorem u_fTest (a : J.Env → R D) : fTest a E = (a E).bind fun d E => match d with | .bl k => .ok k E | _ => .stuck := rfl
@[simp] theorem u_fTru (a : J.Env → R D) : fTru a E = (a E).bind fun d E => match truD d with | some k => .ok k E | none => .stuck := rfl
@[simp] theorem u_fAnd (f g : J.Env → R Bool) : fAnd f g E = (f E).bind fun a E => if a = true then g E else .ok false E := rfl
@[simp] theorem u_fOr (f g : J.Env → R Bool) : fOr f g E = (f E).bind fun a E => if a = true then .ok true E else g E := rfl
@[simp] theorem u_fNot (f : J.Env → R Bool) : fNot f E = (f E).bind fun a E => .ok (!a) E := rfl
@[simp] theorem u_fAndV (f g : J.Env → R D) : fAndV f g E = (f E).bind fun a E => match a with | .bl true => g E | .bl false => .ok (.bl false) E | _ => .stuck := rfl
@[simp] theorem u_fNil : fNil E = .ok [] E := rfl
@[simp] theorem u_fCons (a : J.Env → R D) (r : J.Env → R (List D)) : fCons a r E = (a E).bind fun a E => (r E).bind fun r E => .ok (a :: r) E := rfl
@[simp] theorem u_fTup (r : J.Env → R (List D)) : fTup r E = (r E).bind fun l E => if l.length ≤ 16777216 then .ok (.tup l) E else .stuck := rfl
@[simp] theorem u_fLst (r : J.Env → R (List D)) : fLst r E = (r E).bind fun l E => if l.length ≤ 16777216 then .ok l E else .stuck := rfl
@[simp] theorem u_fPub (r : J.Env → R (List D)) : fPub r E = (r E).bind fun l E => .ok (.lst l) E := rfl
@[simp] theorem u_fGive (i : Nat) : fGive i E = (match E[i]? with | some (.own false l) => .ok l (E.set i .no) | _ => .stuck) := rfl
@[simp] theorem u_fPop (i : Nat) : fPop i E = (match E[i]? with | some (.own b l) => (match l[l.length - 1]? with | some d => .ok d (E.set i (.own b l.dropLast)) | none => .stuck) | _ => .stuck) := rfl
@[simp] theorem u_fChain (g g' : D → D → Option D) (fa fb fc : J.Env → R D) : fChain g g' fa fb fc E = (fa E).bind fun a E => (fb E).bind fun b E => match g a b with | some (.bl true) => ((fc E).bind fun c E => match g' b c with | some d => .ok d E | none => .stuck) | some (.bl false) => .ok (.bl false) E | _ => .stuck := rfl
@[simp] theorem u_fCut (a : J.Env → R D) (lo hi : J.Env → Option (Option Int)) : fCut a lo hi E = (a E).bind fun a E => match (lo E).bind fun l => (hi E).bind fun h => gCut a l h with | some d => .ok d E | none => .stuck := rfl
@[simp] theorem u_fCutL (a : J.Env → R D) (lo hi : J.Env → Option (Option Int)) : fCutL a lo hi E = (a E).bind fun a E => match (lo E).bind fun l => (hi E).bind fun h => (listD a).map fun xs => cutD xs l h with | some d => .ok d E | none => .stuck := rfl
@[simp] theorem u_fRng1 (a : J.Env → R D) : fRng1 a E = (a E).bind fun a E => match a with | .int j => if smI j = true then .ok (upD 0 j.toNat) E else .stuck | _ => .stuck := rfl
@[simp] theorem u_fRng2 (a b : J.Env → R D) : fRng2 a b E = (a E).bind fun a E => (b E).bind fun b E => match a, b with | .int i, .int j => if (smI i && smI j) = true then .ok (upD i (j - i).toNat) E else .stuck | _, _ => .stuck := rfl
@[simp] theorem u_xNil : xNil E = .ok [] E := rfl
@[simp] theorem u_xV (a : J.Env → R D) (r : J.Env → R (List Ar)) : xV a r E = (a E).bind fun a E => (r E).bind fun r E => .ok (.v a :: r) E := rfl
@[simp] theorem u_xO (i : Nat) (r : J.Env → R (List Ar)) : xO i r E = (match E[i]? with | some (.own _ _) => (r E).bind fun r E => .ok (.o i :: r) E | _ => .stuck) := rfl
@[simp] theorem u_fCallR (n : Nat) (F : DF) (fa : J.Env → R (List Ar)) (k : RV → Option α) : fCallR n F fa k E = (fa E).bind fun as E1 => match (if (ndA (ownsA as) && as.length == n) = true then argS E1 as else none) with
  | none => .stuck
  | some ss => match F ss with
    | .ok rv Ec => (match k rv with | some d => .ok d (backE Ec 0 as E1) | none => .stuck)
    | .exc x Ec => .exc x (backE Ec 0 as E1)
    | .stuck => .stuck := rfl
@[simp] theorem u_rvDv (d : D) : rvD (.v d) = some d := rfl
@[simp] theorem u_rvDl (d : List D) : rvD (.l d) = some (.lst d) := rfl
@[simp] theorem u_rvLl (d : List D) : rvL (.l d) = some d := rfl
@[simp] theorem u_sNil : sNil E = .nx E := rfl
@[simp] theorem u_sSeq (f g : J.Env → RS) : sSeq f g E = (f E).seq g := rfl
@[simp] theorem u_sExpr (f : J.Env → R D) : sExpr f E = (f E).bindS fun _ E => .nx E := rfl
@[simp] theorem u_sRet (f : J.Env → R D) : sRet f E = (f E).bindS fun d E => .rt (.v d) E := rfl
@[simp] theorem u_sRetL (f : J.Env → R (List D)) : sRetL f E = (f E).bindS fun d E => .rt (.l d) E := rfl
@[simp] theorem u_sIf (t : J.Env → R Bool) (f g : J.Env → RS) : sIf t f g E = (t E).bindS fun k E => if k = true then f E else g E := rfl
@[simp] theorem u_sSet (i : Nat) (f : J.Env → R D) : sSet i f E = (f E).bindS fun d E => .nx (E.set i (.val d)) := rfl
@[simp] theorem u_sSetL (i : Nat) (f : J.Env → R (List D)) : sSetL i f E = (f E).bindS fun l E => .nx (E.set i (.own false l)) := rfl
@[simp] theorem u_sAsg (f : J.Env → R D) (g : D → J.Env → Option J.Env) : sAsg f g E = (f E).bindS fun d E => match g d E with | some E' => .nx E' | none => .stuck := rfl
@[simp] theorem u_sApp (i : Nat) (f : J.Env → R D) : sApp i f E = (match E[i]? with | some (.own _ _) => (f E).bindS fun d E => (match E[i]? with | some (.own b l) => if l.length < 16777216 then .nx (E.set i (.own b (l ++ [d]))) else .stuck | _ => .stuck) | _ => .stuck) := rfl
@[simp] theorem u_sSetIx (i : Nat) (fk fa : J.Env → R D) : sSetIx i fk fa E = (fa E).bindS fun d E => match E[i]? with
  | some (.own _ _) => (fk E).bindS fun k E => (match k, E[i]? with
    | .int k, some (.own b l) => (match ixN l.length k with | some j => .nx (E.set i (.own b (l.set j d))) | none => .stuck)
    | _, _ => .stuck)
  | _ => .stuck := rfl
@[simp] theorem u_sRev (i : Nat) : sRev i E = (match E[i]? with | some (.own b l) => .nx (E.set i (.own b l.reverse)) | _ => .stuck) := rfl
@[simp] theorem u_sFor (fi : J.Env → R (List D)) (g : D → J.Env → Option J.Env) (f : J.Env → RS) : sFor fi g f E = (fi E).bindS fun ds E => forD g f ds E := rfl
@[simp] theorem u_pubE (i : Nat) : pubE i E = (match E[i]? with | some (.own _ l) => E.set i (.val (.lst l)) | _ => E) := rfl
@[simp] theorem u_gNm (i : Nat) (d : D) : gNm i d E = some (E.set i (.val d)) := rfl
@[simp] theorem u_gTup2 (g : List D → J.Env → Option J.Env) (l : List D) : gTup2 g (.tup l) E = g l E := rfl
@[simp] theorem u_gsCons (g : D → J.Env → Option J.Env) (r : List D → J.Env → Option J.Env) (d : D) (ds : List D) : gsCons g r (d :: ds) E = (g d E).bind (r ds) := rfl
@[simp] theorem u_gsNil : gsNil [] E = some E := rfl
@[simp] theorem u_fLc (vs : List Nat) (fi : J.Env → R (List D)) (g : D → J.Env → Option J.Env) (t : J.Env → R Bool) (f : J.Env → R D) : fLc vs fi g t f E = (fi E).bind fun ds E => lcD vs g t f ds [] E := rfl
@[simp] theorem u_fLc2 (vs : List Nat) (fi : J.Env → R (List D)) (g : D → J.Env → Option J.Env) (t : J.Env → R Bool) (fi1 : J.Env → R (List D)) (vs1 : List Nat) (g1 : D → J.Env → Option J.Env) (t1 : J.Env → R Bool) (f : J.Env → R D) : fLc2 vs fi g t fi1 vs1 g1 t1 f E = (fi E).bind fun ds E => lcD2 vs g t fi1 vs1 g1 t1 f ds [] E := rfl
@[simp] theorem u_fYes : fYes E = .ok true E := rfl
@[simp] theorem u_forNil (g : D → J.Env → Option J.Env) (f : J.Env → RS) : forD g f [] E = .nx E := rfl
@[simp] theorem u_sRaise (c : Str) (n : Nat) (F : List D → Option (List Str × List D)) (fa : J.Env → R (List D)) : sRaise c n F fa E = (fa E).bindS fun ds E1 => if (ds.length == n && decide (n ≤ 1000)) = true then (match F ds with | some (ns, es) => .exc ⟨c, ns, es⟩ E1 | none => .stuck) else .stuck := rfl
end
@[simp] theorem g_add (i j : Int) : gAdd (.int i) (.int j) = some (.int (i + j)) := rfl
@[simp] theorem g_sub (i j : Int) : gSub (.int i) (.int j) = some (.int (i - j)) := rfl
@[simp] theorem g_lt (i j : Int) : gLt (.int i) (.int j) = some (.bl (decide (i < j))) := rfl
@[simp] theorem g_le (i j : Int) : gLe (.int i) (.int j) = some (.bl (decide (i ≤ j))) := rfl
@[simp] theorem g_gt (i j : Int) : gGt (.int i) (.int j) = some (.bl (decide (j < i))) := rfl
@[simp] theorem g_ge (i j : Int) : gGe (.int i) (.int j) = some (.bl (decide (j ≤ i))) := rfl
@[simp] theorem g_intF (i : Int) : gIntF (.int i) = some (.int i) := rfl
@[simp] theorem g_lenL (l : List D) : gLen (.lst l) = some (.int (l.length : Nat)) := rfl
@[simp] theorem g_lenR (l : List D) : gLen (.rol l) = some (.int (l.length : Nat)) := rfl
@[simp] theorem g_lenT (l : List D) : gLen (.tup l) = some (.int (l.length : Nat)) := rfl
@[simp] theorem g_isiI (i : Int) : gIsi "int" (.int i) = some (.bl true) := rfl
@[simp] theorem g_isiB (i : Int) : gIsi "bool" (.int i) = some (.bl false) := rfl
@[simp] theorem g_isiT (l : List D) : gIsi "tuple" (.tup l) = some (.bl true) := rfl
@[simp] theorem g_isiL (l : List D) : gIsi "list" (.lst l) = some (.bl true) := rfl
@[simp] theorem g_not (b : Bool) : gNot (.bl b) = some (.bl (!b)) := rfl
@[simp] theorem g_neg (i : Int) : gNeg (.int i) = some (.int (-i)) := rfl
@[simp] theorem g_itL (l : List D) : itemsD (.lst l) = some l := rfl
@[simp] theorem g_itT (l : List D) : itemsD (.tup l) = some l := rfl
@[simp] theorem g_itR (l : List D) : itemsD (.rol l) = some l := rfl
@[simp] theorem g_truB (b : Bool) : truD (.bl b) = some b := rfl
@[simp] theorem g_tupL (l : List D) : gTuple (.lst l) = some (.tup l) := rfl
@[simp] theorem g_tupT (l : List D) : gTuple (.tup l) = some (.tup l) := rfl
theorem g_mod (i j : Int) (h : 0 < j) : gMod (.int i) (.int j) = some (.int (i % j)) := by show (gModI i j).map D.int = _; unfold gModI; rw [if_pos h]; rfl
end J
namespace Lw
open PySem PySem.Spec PyProof.Rows L2 J
theorem p_int (i : Int) : F_L_int [.val (.int i)] = .ok (.v (.bl true)) [.val (.int i)] := by
  simp [F_L_int, runF, f_L_int]
/-- the tape's last digit, or 0 -/
def lastD (ds : List Int) : Int := (ds.getLast?).getD 0
theorem p_take (ds : List Int) (m s : Int) (hm : 0 < m) : ∃ E', F_L_take [.own true (ds.map D.int), .val (.int m), .val (.int s)] = .ok (.v (.int ((lastD ds + s) % m))) (.own true (ds.dropLast.map D.int) :: E') := by
  unfold lastD
  rcases List.eq_nil_or_concat ds with rfl | ⟨xs, x, rfl⟩
  · simp [F_L_take, runF, f_L_take, g_mod _ _ hm]
  · have hp : (0 : Int) < (xs.length : Int) + 1 := by omega
    simp [F_L_take, runF, f_L_take, g_mod _ _ hm, hp]
def stF (g : D → J.Env → Option J.Env) (f : J.Env → RS) (d : D) (E : J.Env) : RS := match g d E with
  | none => .stuck
  | some E1 => f E1
def stL (g : D → J.Env → Option J.Env) (t : J.Env → J.R Bool) (d : D) (E : J.Env) : J.R Bool := match g d E with
  | none => .stuck
  | some E1 => t E1
theorem stF_nx {g : D → J.Env → Option J.Env} {f : J.Env → RS} {d : D} {E E2 : J.Env} (h : stF g f d E = .nx E2) : ∃ E1, g d E = some E1 ∧ f E1 = .nx E2 := by
  unfold stF at h
  cases e : g d E with
  | none => rw [e] at h; cases h
  | some E1 => rw [e] at h; exact ⟨E1, rfl, h⟩
theorem stL_ok {g : D → J.Env → Option J.Env} {t : J.Env → J.R Bool} {d : D} {E E2 : J.Env} {b : Bool} (h : stL g t d E = .ok b E2) : ∃ E1, g d E = some E1 ∧ t E1 = .ok b E2 := by
  unfold stL at h
  cases e : g d E with
  | none => rw [e] at h; cases h
  | some E1 => rw [e] at h; exact ⟨E1, rfl, h⟩
theorem forD_ok {g : D → J.Env → Option J.Env} {f : J.Env → RS} (I : Nat → J.Env → Prop) (ds : List D) : ∀ (n : Nat) (xs : List D) (E : J.Env), n + xs.length = ds.length → xs = ds.drop n → I n E →
    (∀ i (h : i < ds.length) E, I i E → ∃ E2, stF g f ds[i] E = .nx E2 ∧ I (i + 1) E2) → ∃ E', forD g f xs E = .nx E' ∧ I ds.length E'
  | n, [], E, hl, _, h0, _ => ⟨E, rfl, by simp at hl; subst hl; exact h0⟩
  | n, x :: xs, E, hl, hx, h0, hs => by
    have hn : n < ds.length := by simp at hl; omega
    rw [List.drop_eq_getElem_cons hn] at hx
    obtain ⟨rfl, hx2⟩ := List.cons.inj hx
    obtain ⟨E2, h1, h3⟩ := hs n hn E h0
    obtain ⟨E1, h1, h2⟩ := stF_nx h1
    obtain ⟨E', h4, h5⟩ := forD_ok I ds (n + 1) xs E2 (by simp at hl; omega) hx2 h3 hs
    exact ⟨E', by simp only [forD, h1, h2]; exact h4, h5⟩
theorem for_ok {g : D → J.Env → Option J.Env} {f : J.Env → RS} {ds : List D} {E : J.Env} (I : Nat → J.Env → Prop) (h0 : I 0 E)
    (hs : ∀ i (h : i < ds.length) E, I i E → ∃ E2, stF g f ds[i] E = .nx E2 ∧ I (i + 1) E2) : ∃ E', forD g f ds E = .nx E' ∧ I ds.length E' := forD_ok I ds 0 ds E (by simp) (by simp) h0 hs
theorem lcD_ok {vs : List Nat} {g : D → J.Env → Option J.Env} {t : J.Env → J.R Bool} {f : J.Env → J.R D} (I : Nat → List D → J.Env → Prop) (ds : List D) : ∀ (n : Nat) (xs acc : List D) (E : J.Env), n + xs.length = ds.length → xs = ds.drop n → I n acc E →
    (∀ i (h : i < ds.length) acc E, I i acc E → ∃ b E2, stL g t ds[i] (wipeE vs E) = .ok b E2 ∧ (b = true → ∃ y E3, f E2 = .ok y E3 ∧ acc.length < 16777216 ∧ I (i + 1) (acc ++ [y]) (wipeE vs E3)) ∧ (b = false → I (i + 1) acc (wipeE vs E2))) →
    ∃ acc' E', lcD vs g t f xs acc E = .ok acc' E' ∧ I ds.length acc' E'
  | n, [], acc, E, hl, _, h0, _ => ⟨acc, E, rfl, by simp at hl; subst hl; exact h0⟩
  | n, x :: xs, acc, E, hl, hx, h0, hs => by
    have hn : n < ds.length := by simp at hl; omega
    rw [List.drop_eq_getElem_cons hn] at hx
    obtain ⟨rfl, hx2⟩ := List.cons.inj hx
    obtain ⟨b, E2, h1, h3, h4⟩ := hs n hn acc E h0
    obtain ⟨E1, hg, h2⟩ := stL_ok h1
    cases b with
    | true =>
      obtain ⟨y, E3, h5, h6, h7⟩ := h3 rfl
      obtain ⟨acc', E', h8, h9⟩ := lcD_ok I ds (n + 1) xs _ _ (by simp at hl; omega) hx2 h7 hs
      exact ⟨acc', E', by unfold lcD; rw [hg]; simp only [h2, h5, h6, if_true]; exact h8, h9⟩
    | false =>
      obtain ⟨acc', E', h8, h9⟩ := lcD_ok I ds (n + 1) xs _ _ (by simp at hl; omega) hx2 (h4 rfl) hs
      exact ⟨acc', E', by unfold lcD; rw [hg]; simp only [h2]; exact h8, h9⟩
theorem lc_ok {vs : List Nat} {g : D → J.Env → Option J.Env} {t : J.Env → J.R Bool} {f : J.Env → J.R D} {ds : List D} {E : J.Env} (I : Nat → List D → J.Env → Prop) (h0 : I 0 [] E)
    (hs : ∀ i (h : i < ds.length) acc E, I i acc E → ∃ b E2, stL g t ds[i] (wipeE vs E) = .ok b E2 ∧ (b = true → ∃ y E3, f E2 = .ok y E3 ∧ acc.length < 16777216 ∧ I (i + 1) (acc ++ [y]) (wipeE vs E3)) ∧ (b = false → I (i + 1) acc (wipeE vs E2))) :
    ∃ acc' E', lcD vs g t f ds [] E = .ok acc' E' ∧ I ds.length acc' E' := lcD_ok I ds 0 ds [] E (by simp) (by simp) h0 hs
theorem g_div12 (i : Int) : gDiv (.int i) (.int 12) = some (.int (i / 12)) := by show (gDivI i 12).map D.int = _; unfold gDivI; rw [if_pos (by decide)]; rfl
@[simp] theorem g_abs (i : Int) : gAbs (.int i) = some (.int (if i < 0 then -i else i)) := rfl
theorem cut63 (ns : List Int) : ∃ ms : List Int, J.cutD (ns.map D.int) none (some 63) = ms.map D.int ∧ ms.length ≤ 63 := by
  unfold J.cutD
  refine ⟨(ns.drop _).take _, by rw [← List.map_drop, ← List.map_take], ?_⟩
  rw [List.length_take]
  have : HT.sIx (ns.map D.int).length (ns.map D.int).length (some 63) ≤ 63 := by
    unfold HT.sIx; simp; omega
  omega
theorem use_for {g : D → J.Env → Option J.Env} {f : J.Env → RS} {ds : List D} {E : J.Env} {r : RS} (hF : forD g f ds E = r) (I : Nat → J.Env → Prop) (h0 : I 0 E)
    (hs : ∀ i (h : i < ds.length) E, I i E → ∃ E2, stF g f ds[i] E = .nx E2 ∧ I (i + 1) E2) : ∃ E', r = .nx E' ∧ I ds.length E' := by
  subst hF; exact for_ok I h0 hs
theorem use_lc {vs : List Nat} {g : D → J.Env → Option J.Env} {t : J.Env → J.R Bool} {f : J.Env → J.R D} {ds : List D} {E : J.Env} {r : J.R (List D)} (hF : lcD vs g t f ds [] E = r) (I : Nat → List D → J.Env → Prop) (h0 : I 0 [] E)
    (hs : ∀ i (h : i < ds.length) acc E, I i acc E → ∃ b E2, stL g t ds[i] (wipeE vs E) = .ok b E2 ∧ (b = true → ∃ y E3, f E2 = .ok y E3 ∧ acc.length < 16777216 ∧ I (i + 1) (acc ++ [y]) (wipeE vs E3)) ∧ (b = false → I (i + 1) acc (wipeE vs E2))) :
    ∃ acc' E', r = .ok acc' E' ∧ I ds.length acc' E' := by
  subst hF; exact lc_ok I h0 hs
@[simp] theorem len_upD (a : Int) (n : Nat) : (upD a n).length = n := by simp [upD]
@[simp] theorem get_upD (a : Int) (n i : Nat) (h : i < (upD a n).length) : (upD a n)[i] = .int (a + (i : Nat)) := by simp [upD]
theorem smI_small {j : Int} (h : -100000 ≤ j ∧ j ≤ 100000) : smI j = true := decide_eq_true (by omega)
theorem p_tape (ns : List Int) : ∃ (ds : List Int) (E' : J.Env), F_L_tape [.val (.rol (ns.map D.int))] = .ok (.l (ds.map D.int)) E' ∧ E'[0]? = some (.val (.rol (ns.map D.int))) ∧ ds.length ≤ 882 := by
  obtain ⟨ms, h1, h2⟩ := cut63 ns
  simp [F_L_tape, runF, f_L_tape, gCut, intP, h1]
  generalize hF : forD _ _ _ _ = r
  obtain ⟨E', rfl, ds, c, r, k, h3, rfl⟩ := use_for hF (fun i E => ∃ (ds : List Int) (c r k : Sl), ds.length ≤ 14 * i ∧ E = [.val (.rol (ns.map D.int)), .own false (ds.map D.int), c, r, k]) ⟨[], .no, .no, .no, by simp, rfl⟩ (by
    rintro i h E ⟨ds, c, r, k, h3, rfl⟩
    have hi : i < ms.length := by simpa using h
    simp [stF, show smI 14 = true from rfl]
    generalize hF : forD _ _ _ _ = r
    obtain ⟨E', rfl, ds', c', r', k', h4, rfl⟩ := use_for hF (fun j E => ∃ (ds : List Int) (c : Sl) (r : Int) (k : Sl), ds.length ≤ 14 * i + j ∧ E = [.val (.rol (ns.map D.int)), .own false (ds.map D.int), c, .val (.int r), k]) ⟨ds, _, _, _, by omega, rfl⟩ (by
      rintro j hj E ⟨ds, c, r, k, h4, rfl⟩
      have hj' : j < 14 := by simpa using hj
      by_cases hr : 0 < r
      · have : ds.length < 16777216 := by omega
        simp [stF, hr, g_mod, g_div12, this]
        refine ⟨ds ++ [r % 12], by simp; omega, by simp⟩
      · simp [stF, hr]
        exact ⟨ds, by omega, rfl⟩)
    simp at h4
    simp
    exact ⟨ds', by omega, rfl⟩)
  simp at h3
  simp [gRev, listD]
  exact ⟨ds.reverse, _, ⟨by simp, rfl⟩, by simp, by rw [List.length_reverse]; omega⟩
theorem okI (i : Int) : okD (.int i) = true := rfl
@[simp] theorem g_eqI (i j : Int) : gEq (.int i) (.int j) = some (.bl (decide (i = j))) := rfl
@[simp] theorem g_neI (i j : Int) : gNe (.int i) (.int j) = some (.bl (!decide (i = j))) := rfl
@[simp] theorem g_min2 (i j : Int) : gMin2 (.int i) (.int j) = some (.int (if j < i then j else i)) := rfl
theorem log2_le {n k : Nat} (h : n < 2 ^ k) (hk : 0 < k) : n.log2 < k := by
  by_cases h0 : n = 0
  · subst h0; simpa using hk
  · exact (Nat.log2_lt h0).mpr h
theorem g_mul (i j : Int) (hi : i.natAbs < 2 ^ 200) (hj : j.natAbs < 2 ^ 200) : gMul (.int i) (.int j) = some (.int (i * j)) := by
  show (gMulI i j).map D.int = _
  unfold gMulI
  rw [if_pos (by have := log2_le hi (by decide); have := log2_le hj (by decide); omega)]
  rfl
theorem g_mulL (l : List D) (k : Int) (h : 0 ≤ k ∧ k ≤ 1000000 ∧ l.length * k.toNat ≤ 16777216) : gMul (.lst l) (.int k) = some (.lst (List.replicate k.toNat l).flatten) := by
  show (if _ then _ else _) = _
  rw [if_pos h]
theorem g_addL (x y : List D) (h : x.length + y.length ≤ 16777216) : gAdd (.lst x) (.lst y) = some (.lst (x ++ y)) := by
  show (if _ then _ else _) = _
  rw [if_pos h]
theorem cut_pre (l : List D) (k : Nat) : J.cutD l none (some (k : Nat)) = l.take k := by
  unfold J.cutD
  have h : HT.sIx l.length 0 none = 0 := rfl
  have h2 : HT.sIx l.length l.length (some (k : Nat)) = min k l.length := by unfold HT.sIx; simp; omega
  rw [h, h2]
  simp
/-- the tape, as data -/
def iD (ds : List Int) : List D := ds.map D.int
def dig (ds : List Int) (m s : Int) : Int := (lastD ds + s) % m
theorem dig_nn (ds : List Int) {m : Int} (s : Int) (h : 0 < m) : 0 ≤ dig ds m s := Int.emod_nonneg _ (by omega)
theorem dig_lt (ds : List Int) {m : Int} (s : Int) (h : 0 < m) : dig ds m s < m := Int.emod_lt_of_pos _ h
theorem ex_take : ∃ T : List Int → Int → Int → J.Env, ∀ ds m s, 0 < m → F_L_take [.own true (iD ds), .val (.int m), .val (.int s)] = .ok (.v (.int (dig ds m s))) (.own true (iD ds.dropLast) :: T ds m s) := by
  have h : ∀ ds m s, ∃ E' : J.Env, 0 < m → F_L_take [.own true (iD ds), .val (.int m), .val (.int s)] = .ok (.v (.int (dig ds m s))) (.own true (iD ds.dropLast) :: E') := fun ds m s => by
    by_cases hm : 0 < m
    · obtain ⟨E', h⟩ := p_take ds m s hm
      exact ⟨E', fun _ => h⟩
    · exact ⟨[], fun h => absurd h hm⟩
  exact ⟨fun ds m s => (h ds m s).choose, fun ds m s => (h ds m s).choose_spec⟩
noncomputable def takeT : List Int → Int → Int → J.Env := ex_take.choose
@[simp] theorem e_take (ds : List Int) (m s : Int) (hm : 0 < m) : F_L_take [.own true (iD ds), .val (.int m), .val (.int s)] = .ok (.v (.int (dig ds m s))) (.own true (iD ds.dropLast) :: takeT ds m s) := ex_take.choose_spec ds m s hm
theorem ix3 (a b c : D) (i : Int) (h : 0 ≤ i) (h3 : i < 3) : ∃ x, gIx (.lst [a, b, c]) (.int i) = some x ∧ (x = a ∨ x = b ∨ x = c) := by
  have : i = 0 ∨ i = 1 ∨ i = 2 := by omega
  rcases this with rfl | rfl | rfl
  · exact ⟨a, rfl, by simp⟩
  · exact ⟨b, rfl, by simp⟩
  · exact ⟨c, rfl, by simp⟩
theorem g_pow (i j : Int) (h : 0 ≤ j ∧ j ≤ 1000000 ∧ i.natAbs < 2 ^ 64) : gPow (.int i) (.int j) = some (.int (i ^ j.toNat)) := by show (gPowI i j).map D.int = _; unfold gPowI; rw [if_pos h]; rfl
@[simp] theorem iD_nil : iD [] = [] := rfl
@[simp] theorem iD_len (l : List Int) : (iD l).length = l.length := by simp [iD]
theorem p_no_thing (ds : List Int) (m s : Int) (hm : 0 ≤ m ∧ m ≤ 10) : ∃ (x : Int) (ds' : List Int) (E' : J.Env), F_L_no_thing [.own true (iD ds), .val (.int m), .val (.int s)] = .ok (.v (.int x)) (.own true (iD ds') :: E') ∧ (x < 0 ∨ m ≤ x) := by
  have hd : 0 ≤ dig ds 3 s ∧ dig ds 3 s < 3 := ⟨dig_nn _ _ (by decide), dig_lt _ _ (by decide)⟩
  have h12 : 0 ≤ dig ds.dropLast 12 s := dig_nn _ _ (by decide)
  have hp : gPow (.int 10) (.int 20) = some (.int (10 ^ 20)) := g_pow 10 20 (by decide)
  obtain ⟨x, h1, h2⟩ := ix3 (.int (m + dig ds.dropLast 12 s)) (.int (-1 - dig ds.dropLast 12 s)) (.int (10 ^ 20 + dig ds.dropLast 12 s)) (dig ds 3 s) hd.1 hd.2
  have h3 : ∃ y, x = .int y ∧ (y < 0 ∨ m ≤ y) := by
    rcases h2 with rfl | rfl | rfl
    · exact ⟨_, rfl, .inr (by omega)⟩
    · exact ⟨_, rfl, .inl (by omega)⟩
    · exact ⟨_, rfl, .inr (by omega)⟩
  obtain ⟨y, rfl, h4⟩ := h3
  refine ⟨y, ds.dropLast.dropLast, ?_⟩
  simp [F_L_no_thing, runF, f_L_no_thing, ownsA, ndA, argS, backE, hp]
  simp at h1
  simp [h1, h4]
theorem p_entries (ds : List Int) (m s : Int) (hm : 0 ≤ m ∧ m ≤ 10) : ∃ (xs ds' : List Int) (E' : J.Env), F_L_entries [.own true (iD ds), .val (.int m), .val (.int s)] = .ok (.v (.lst (iD xs))) (.own true (iD ds') :: E') ∧ xs.length ≤ 60 ∧ ∀ x ∈ xs, 0 ≤ x ∧ x < m := by
  by_cases h0 : m = 0
  · subst h0
    refine ⟨[], ds.dropLast, ?_⟩
    simp [F_L_entries, runF, f_L_entries, ownsA, ndA, argS, backE]
  · have hm0 : 0 < m := by omega
    obtain ⟨k, hk⟩ : ∃ k, (if 8 < dig ds 10 s then 8 else dig ds 10 s) = k := ⟨_, rfl⟩
    have hq : 0 ≤ dig ds 10 s ∧ dig ds 10 s < 10 := ⟨dig_nn _ _ (by decide), dig_lt _ _ (by decide)⟩
    have hk2 : 0 ≤ k ∧ k ≤ 8 := by subst hk; split <;> omega
    have hk3 : smI k = true := smI_small (by omega)
    simp [F_L_entries, runF, f_L_entries, ownsA, ndA, argS, backE, h0, hk, hk3]
    generalize hF : forD _ _ _ _ = r
    obtain ⟨E', rfl, ds2, xs, c, h3, h4, rfl⟩ := use_for hF (fun i E => ∃ (ds' xs : List Int) (c : Sl), xs.length ≤ i ∧ (∀ x ∈ xs, 0 ≤ x ∧ x < m) ∧ E = [.own true (iD ds'), .val (.int m), .val (.int s), .val (.int (dig ds 10 s)), .own false (iD xs), c]) ⟨ds.dropLast, [], .no, by simp, by simp, rfl⟩ (by
      rintro i h E ⟨ds', xs, c, h1, h2, rfl⟩
      have hi : i < 8 := by simp at h; omega
      have hg : gMul (.int 5) (.int i) = some (.int (5 * i)) := g_mul _ _ (by decide) (by simp; omega)
      have hl : xs.length < 16777216 := by omega
      simp [stF, ownsA, ndA, argS, backE, hg, e_take _ _ _ hm0, hl]
      refine ⟨ds'.dropLast, xs ++ [dig ds' m (s + 5 * i)], by simp; omega, fun x hx => ?_, rfl, by simp [iD]⟩
      rcases List.mem_append.mp hx with h | h
      · exact h2 x h
      · obtain rfl := List.mem_singleton.mp h
        exact ⟨dig_nn _ _ hm0, dig_lt _ _ hm0⟩)
    simp at h3
    have hl : xs.length ≤ 8 := by omega
    have hcut : J.cutD (iD xs) none (some 1) = iD (xs.take 1) := by rw [show (1 : Int) = ((1 : Nat) : Int) from rfl, cut_pre]; simp [iD]
    have hadd : gAdd (.lst (iD xs)) (.lst (iD (xs.take 1))) = some (.lst (iD (xs ++ xs.take 1))) := by rw [g_addL _ _ (by simp; omega)]; simp [iD]
    obtain ⟨ys, hys, hyl, hym⟩ : ∃ ys : List Int, (if dig ds2 2 0 = 0 then xs ++ xs.take 1 else xs) = ys ∧ ys.length ≤ 9 ∧ ∀ x ∈ ys, 0 ≤ x ∧ x < m := by
      refine ⟨_, rfl, ?_, ?_⟩
      · split
        · simp; omega
        · omega
      · split
        · intro x hx
          rcases List.mem_append.mp hx with h | h
          · exact h4 x h
          · exact h4 x (List.mem_of_mem_take h)
        · exact h4
    have hmul : gMul (.lst (iD ys)) (.int 60) = some (.lst (iD (List.replicate 60 ys).flatten)) := by
      rw [g_mulL _ _ ⟨by decide, by decide, by simp; omega⟩]; simp [iD, List.map_flatten]
    have hcut2 : J.cutD (iD (List.replicate 60 ys).flatten) none (some 60) = iD ((List.replicate 60 ys).flatten.take 60) := by rw [show (60 : Int) = ((60 : Nat) : Int) from rfl, cut_pre]; simp [iD]
    have hz : ∀ x ∈ (List.replicate 60 ys).flatten.take 60, 0 ≤ x ∧ x < m := fun x hx => by
      have := List.mem_of_mem_take hx
      simp at this
      exact hym x this
    have h60 : ((List.replicate 60 ys).flatten.take 60).length ≤ 60 := by rw [List.length_take]; omega
    generalize (List.replicate 60 ys).flatten = zs at *
    by_cases h2 : dig ds2 2 0 = 0
    · rw [if_pos h2] at hys
      rw [hys] at hadd
      by_cases h9 : dig ds 10 s = 9
      · refine ⟨zs.take 60, ⟨ds2.dropLast, ?_⟩, h60, hz⟩
        simp [ownsA, ndA, argS, backE, intP, gCut, hcut, h2, hadd, h9, hmul, hcut2, listD]
      · refine ⟨ys, ⟨ds2.dropLast, ?_⟩, by omega, hym⟩
        simp [ownsA, ndA, argS, backE, intP, gCut, hcut, h2, hadd, h9]
    · rw [if_neg h2] at hys
      subst hys
      by_cases h9 : dig ds 10 s = 9
      · refine ⟨zs.take 60, ⟨ds2.dropLast, ?_⟩, h60, hz⟩
        simp [ownsA, ndA, argS, backE, intP, gCut, hcut, h2, hadd, h9, hmul, hcut2, listD]
      · refine ⟨xs, ⟨ds2.dropLast, ?_⟩, by omega, hym⟩
        simp [ownsA, ndA, argS, backE, intP, gCut, hcut, h2, hadd, h9]
end Lw

namespace Lw
open PySem PySem.Spec PyProof.Rows L2 J
def xN (n : Int) : Exn := ⟨"NumberError", ["number"], [.int n]⟩
def xS (n : Int) : Exn := ⟨"SizeError", ["count"], [.int n]⟩
def xT (n : Int) : Exn := ⟨"ThingError", ["thing"], [.int n]⟩
@[simp] theorem fx_N (n : Int) : Fx_NumberError [.int n] = some ((["number"] : List Str), [D.int n]) := rfl
@[simp] theorem fx_S (n : Int) : Fx_SizeError [.int n] = some ((["count"] : List Str), [D.int n]) := rfl
@[simp] theorem fx_T (n : Int) : Fx_ThingError [.int n] = some ((["thing"] : List Str), [D.int n]) := rfl
@[simp] theorem e_look_number (n lo hi : Int) : F_look_number [.val (.int n), .val (.int lo), .val (.int hi)] = if n < lo ∨ hi < n then .exc (xN n) [.val (.int n), .val (.int lo), .val (.int hi)] else .ok (.v (.int n)) [.val (.int n), .val (.int lo), .val (.int hi)] := by
  by_cases h1 : n < lo
  · simp [F_look_number, runF, f_look_number, h1, xN]
  · by_cases h2 : hi < n
    · simp [F_look_number, runF, f_look_number, h1, h2, xN]
    · simp [F_look_number, runF, f_look_number, h1, h2]
@[simp] theorem e_look_thing (n x : Int) : F_look_thing [.val (.int n), .val (.int x)] = if x < 0 ∨ n ≤ x then .exc (xT x) [.val (.int n), .val (.int x)] else .ok (.v (.int x)) [.val (.int n), .val (.int x)] := by
  by_cases h1 : x < 0
  · simp [F_look_thing, runF, f_look_thing, h1, xT]
  · by_cases h2 : n ≤ x
    · simp [F_look_thing, runF, f_look_thing, h1, h2, xT]
    · simp [F_look_thing, runF, f_look_thing, h1, h2]
/-- d is a list or tuple of the ints xs -/
structure Sq (d : D) (xs : List Int) : Prop where
  len : gLen d = some (.int (xs.length : Nat))
  it : itemsD d = some (iD xs)
  tup : gTuple d = some (.tup (iD xs))
theorem Sq.lst (xs : List Int) : Sq (.lst (iD xs)) xs := ⟨by simp, rfl, rfl⟩
theorem Sq.tu (xs : List Int) : Sq (.tup (iD xs)) xs := ⟨by simp, rfl, rfl⟩
theorem e_look_size {d : D} {xs : List Int} (h : Sq d xs) (lo hi : Int) : F_look_size [.val d, .val (.int lo), .val (.int hi)] = if (xs.length : Int) < lo ∨ hi < (xs.length : Int) then .exc (xS xs.length) [.val d, .val (.int lo), .val (.int hi), .val (.int xs.length)] else .ok (.v d) [.val d, .val (.int lo), .val (.int hi), .val (.int xs.length)] := by
  by_cases h1 : (xs.length : Int) < lo
  · simp [F_look_size, runF, f_look_size, h1, xS, h.len]
  · by_cases h2 : hi < (xs.length : Int)
    · simp [F_look_size, runF, f_look_size, h1, h2, xS, h.len]
    · simp [F_look_size, runF, f_look_size, h1, h2, h.len]
@[simp] theorem e_look_things (n : Int) : F_look_things [.val (.int n)] = if n < 0 ∨ 10 < n then .exc (xN n) [.val (.int n)] else .ok (.v (.int n)) [.val (.int n)] := by
  by_cases h : n < 0 ∨ 10 < n
  · simp [F_look_things, runF, f_look_things, ownsA, ndA, argS, backE, h]
  · simp [F_look_things, runF, f_look_things, ownsA, ndA, argS, backE, h]
def badT (n x : Int) : Bool := decide (x < 0) || decide (n ≤ x)
theorem loop_things (n : Int) (d : D) : ∀ (xs : List Int) (c : Sl), match xs.find? (badT n) with
    | some x => ∃ E', forD (gNm 2) (sExpr (fCallR 2 F_look_thing (xV (fVar 0) (xV (fVar 2) xNil)) rvD)) (iD xs) [.val (.int n), .val d, c] = .exc (xT x) E'
    | none => ∃ c', forD (gNm 2) (sExpr (fCallR 2 F_look_thing (xV (fVar 0) (xV (fVar 2) xNil)) rvD)) (iD xs) [.val (.int n), .val d, c] = .nx [.val (.int n), .val d, c']
  | [], c => ⟨c, rfl⟩
  | x :: xs, c => by
    have ih := loop_things n d xs (.val (.int x))
    by_cases h : x < 0 ∨ n ≤ x
    · have hb : badT n x = true := by simpa [badT] using h
      rw [List.find?_cons_of_pos hb]
      simp [iD, forD, ownsA, ndA, argS, backE, h]
    · have hb : ¬ badT n x = true := by simpa [badT] using h
      rw [List.find?_cons_of_neg hb]
      have e : forD (gNm 2) (sExpr (fCallR 2 F_look_thing (xV (fVar 0) (xV (fVar 2) xNil)) rvD)) (iD (x :: xs)) [.val (.int n), .val d, c] = forD (gNm 2) (sExpr (fCallR 2 F_look_thing (xV (fVar 0) (xV (fVar 2) xNil)) rvD)) (iD xs) [.val (.int n), .val d, .val (.int x)] := by
        simp [iD, forD, ownsA, ndA, argS, backE, h]
      rw [e]; exact ih
def lotR (n : Int) (xs : List Int) : Except Exn (List Int) := if 60 < xs.length then .error (xS xs.length) else match xs.find? (badT n) with
  | some x => .error (xT x)
  | none => .ok (sortU xs)
def toR : Except Exn D → J.Env → J.R RV
  | .ok d, E => .ok (.v d) E
  | .error x, E => .exc x E
def envO : J.R RV → J.Env
  | .ok _ E => E
  | .exc _ E => E
  | .stuck => []
def ev (F : DF) (as : List Sl) : J.Env := envO (F as)
theorem of_ex {F : DF} {as : List Sl} {r : Except Exn D} (h : ∃ E, F as = toR r E) : F as = toR r (ev F as) := by
  obtain ⟨E, h⟩ := h
  unfold ev
  rw [h]
  cases r <;> rfl
theorem gss_iD (xs : List Int) (h : xs.length ≤ 63) {d : D} (hd : itemsD d = some (iD xs)) : gSS d = some (iD (sortU xs)) := by
  unfold gSS
  rw [hd]
  show ((intsD (iD xs)).bind _) = _
  unfold iD
  rw [intsD_map]
  show (if _ then _ else _) = _
  rw [if_pos h]
theorem e_look_lot {d : D} {xs : List Int} (h : Sq d xs) (n : Int) : F_look_lot [.val (.int n), .val d] = toR ((lotR n xs).map fun l => .tup (iD l)) (ev F_look_lot [.val (.int n), .val d]) := by
  refine of_ex ?_
  unfold lotR
  by_cases h1 : 60 < xs.length
  · have h2 : (60 : Int) < (xs.length : Int) := by omega
    simp [F_look_lot, runF, f_look_lot, ownsA, ndA, argS, backE, e_look_size h, h1, h2, toR, Except.map]
  · have h2 : ¬ (60 : Int) < (xs.length : Int) := by omega
    have h3 : ¬ (xs.length : Int) < 0 := by omega
    have hl := loop_things n d xs .no
    rw [if_neg h1]
    cases e : xs.find? (badT n) with
    | some x =>
      rw [e] at hl
      obtain ⟨E', hl⟩ := hl
      simp [F_look_lot, runF, f_look_lot, ownsA, ndA, argS, backE, e_look_size h, h2, h3, h.it, hl, toR, Except.map]
    | none =>
      rw [e] at hl
      obtain ⟨c', hl⟩ := hl
      simp [F_look_lot, runF, f_look_lot, ownsA, ndA, argS, backE, e_look_size h, h2, h3, h.it, hl, toR, Except.map, gss_iD xs (by omega) h.it]
end Lw

namespace Lw
open PySem PySem.Spec PyProof.Rows L2 J
/-- bit number i -/
def bit (x : Int) (i : Nat) : Prop := x / 2 ^ i % 2 = 1
theorem bit_zero (x : Int) : bit x 0 ↔ x % 2 = 1 := by unfold bit; simp
theorem bit_succ (x : Int) (i : Nat) : bit x (i + 1) ↔ bit (x / 2) i := by
  unfold bit
  rw [Int.ediv_ediv_of_nonneg (by decide : (0 : Int) ≤ 2), show (2 : Int) * 2 ^ i = 2 ^ (i + 1) by rw [Int.pow_succ]; omega]
theorem bit_and : ∀ (i : Nat) (x y : Int), bit (Builtin.bitAnd x y) i ↔ bit x i ∧ bit y i
  | 0, x, y => by
    rw [bit_zero, bit_zero, bit_zero, PySem.W.kbt_halves x y]
    split <;> omega
  | i + 1, x, y => by
    rw [bit_succ, bit_succ, bit_succ, ← bit_and i, PySem.W.kbt_halves x y]
    have : (2 * Builtin.bitAnd (x / 2) (y / 2) + (if x % 2 = 1 ∧ y % 2 = 1 then 1 else 0)) / 2 = Builtin.bitAnd (x / 2) (y / 2) := by split <;> omega
    rw [this]
theorem bit_not : ∀ (i : Nat) (x : Int), bit (Builtin.bitNot x) i ↔ ¬ bit x i
  | 0, x => by rw [bit_zero, bit_zero]; unfold Builtin.bitNot; omega
  | i + 1, x => by
    rw [bit_succ, bit_succ, ← bit_not i]
    have : Builtin.bitNot x / 2 = Builtin.bitNot (x / 2) := by unfold Builtin.bitNot; omega
    rw [this]
theorem bit_or (i : Nat) (x y : Int) : bit (Builtin.bitOr x y) i ↔ bit x i ∨ bit y i := by
  unfold Builtin.bitOr
  rw [bit_not, bit_and, bit_not, bit_not]
  exact ⟨fun h => Classical.byContradiction fun k => h ⟨fun a => k (.inl a), fun a => k (.inr a)⟩, fun h k => h.elim k.1 k.2⟩
theorem bit_pow : ∀ (i k : Nat), bit (2 ^ k : Int) i ↔ i = k
  | 0, 0 => by rw [bit_zero]; simp
  | 0, k + 1 => by rw [bit_zero, Int.pow_succ]; omega
  | i + 1, 0 => by
    rw [bit_succ]
    have : bit ((2 ^ 0 : Int) / 2) i ↔ False := by unfold bit; simp
    rw [this]; simp
  | i + 1, k + 1 => by
    rw [bit_succ, Int.pow_succ, Int.mul_ediv_cancel _ (by decide), bit_pow i k]; omega
theorem bit_big {x : Int} {i k : Nat} (h0 : 0 ≤ x) (hx : x < 2 ^ k) (hb : bit x i) : i < k := by
  refine Classical.byContradiction fun h => ?_
  have hk : (2 : Int) ^ k ≤ 2 ^ i := by
    have := Nat.pow_le_pow_right (by decide : 0 < 2) (Nat.le_of_not_lt h)
    exact_mod_cast this
  have : x / 2 ^ i = 0 := Int.ediv_eq_zero_of_lt h0 (Int.lt_of_lt_of_le hx hk)
  unfold bit at hb
  rw [this] at hb
  exact absurd hb (by decide)
/-- a number of at most k bits -/
def low (x : Int) (k : Nat) : Prop := 0 ≤ x ∧ x < 2 ^ k
theorem low_or {x y : Int} {k : Nat} (hx : low x k) (hy : low y k) : low (Builtin.bitOr x y) k := by
  rw [low, bitOr_nn hx.1 hy.1]
  refine ⟨by omega, ?_⟩
  have h1 : x.toNat < 2 ^ k := by have := hx.2; have h := hx.1; have : ((x.toNat : Nat) : Int) < ((2 ^ k : Nat) : Int) := by rw [Int.toNat_of_nonneg h]; exact_mod_cast this
                                  exact_mod_cast this
  have h2 : y.toNat < 2 ^ k := by have := hy.2; have h := hy.1; have : ((y.toNat : Nat) : Int) < ((2 ^ k : Nat) : Int) := by rw [Int.toNat_of_nonneg h]; exact_mod_cast this
                                  exact_mod_cast this
  have := Nat.or_lt_two_pow h1 h2
  exact_mod_cast this
theorem low_and {x y : Int} {k : Nat} (hy : low y k) : low (Builtin.bitAnd x y) k := by
  have := bitAnd_range x hy.1
  exact ⟨this.1, Int.lt_of_le_of_lt this.2 hy.2⟩
theorem low_pow {i k : Nat} (h : i < k) : low (2 ^ i : Int) k := by
  have h1 : (0 : Int) < 2 ^ i := Int.pow_pos (by decide)
  have := Nat.pow_lt_pow_right (by decide : 1 < 2) h
  exact ⟨by omega, by exact_mod_cast this⟩
theorem low_bits {x : Int} {k : Nat} (h : low x k) : Builtin.Int.intBits x ≤ k := intBits_le_iff.mpr (by
  have h1 := h.1
  have h2 : ((x.natAbs : Nat) : Int) < ((2 ^ k : Nat) : Int) := by rw [show ((x.natAbs : Nat) : Int) = x by omega]; have := h.2; exact_mod_cast this
  exact_mod_cast h2)
theorem lt_bits (x : Int) (h : 0 ≤ x) : x < 2 ^ Builtin.Int.intBits x := by
  have := (intBits_le_iff (m := Builtin.Int.intBits x) (x := x)).mp (Nat.le_refl _)
  have h2 : ((x.natAbs : Nat) : Int) < ((2 ^ Builtin.Int.intBits x : Nat) : Int) := by exact_mod_cast this
  rw [show ((x.natAbs : Nat) : Int) = x by omega] at h2
  exact_mod_cast h2
end Lw

namespace Lw
open PySem PySem.Spec PyProof.Rows L2 J
/-! ### a lot as one number -/
def orT (m t : Int) : Int := Builtin.bitOr m (2 ^ t.toNat)
def maskL (xs : List Int) : Int := xs.foldl orT 0
theorem g_shl1 {t : Int} (h : 0 ≤ t ∧ t ≤ 1000000) : gShl (.int 1) (.int t) = some (.int (2 ^ t.toNat)) := by
  show (gShlI 1 t).map D.int = _
  unfold gShlI
  rw [if_pos ⟨h.1, h.2, by decide⟩, Int.one_mul]; rfl
@[simp] theorem g_or (i j : Int) : gOr (.int i) (.int j) = some (.int (Builtin.bitOr i j)) := rfl
@[simp] theorem g_and (i j : Int) : gAnd (.int i) (.int j) = some (.int (Builtin.bitAnd i j)) := rfl
@[simp] theorem g_inv (i : Int) : gInv (.int i) = some (.int (Builtin.bitNot i)) := rfl
theorem loop_mask (d : D) : ∀ (xs : List Int) (m : Int) (c : Sl), (∀ x ∈ xs, 0 ≤ x ∧ x ≤ 1000000) → ∃ c', forD (gNm 2) (sSet 1 (fop gOr (fVar 1) (fop gShl (fC (.int 1)) (fVar 2)))) (iD xs) [.val d, .val (.int m), c] = .nx [.val d, .val (.int (xs.foldl orT m)), c']
  | [], m, c, _ => ⟨c, rfl⟩
  | x :: xs, m, c, h => by
    obtain ⟨c', ih⟩ := loop_mask d xs (orT m x) (.val (.int x)) fun y hy => h y (List.mem_cons_of_mem _ hy)
    refine ⟨c', ?_⟩
    rw [List.foldl_cons, ← ih]
    simp [iD, forD, g_shl1 (h x (List.mem_cons_self ..)), orT]
theorem e_mask_of {xs : List Int} (h : ∀ x ∈ xs, 0 ≤ x ∧ x ≤ 1000000) : F_mask_of [.val (.tup (iD xs))] = .ok (.v (.int (maskL xs))) (ev F_mask_of [.val (.tup (iD xs))]) := by
  refine of_ex (r := .ok _) ?_
  obtain ⟨c', e⟩ := loop_mask (.tup (iD xs)) xs 0 .no h
  simp [F_mask_of, runF, f_mask_of, e, toR, maskL]
theorem low_mask {k : Nat} : ∀ (xs : List Int) (m : Int), low m k → (∀ x ∈ xs, 0 ≤ x ∧ x < k) → low (xs.foldl orT m) k
  | [], m, h, _ => h
  | x :: xs, m, h, hx => low_mask xs _ (low_or h (low_pow (by have := hx x (List.mem_cons_self ..); omega))) fun y hy => hx y (List.mem_cons_of_mem _ hy)
theorem bit_mask (i : Nat) : ∀ (xs : List Int) (m : Int), (∀ x ∈ xs, 0 ≤ x) → (bit (xs.foldl orT m) i ↔ bit m i ∨ (i : Int) ∈ xs)
  | [], m, _ => by simp
  | x :: xs, m, h => by
    rw [List.foldl_cons, bit_mask i xs _ fun y hy => h y (List.mem_cons_of_mem _ hy)]
    unfold orT
    rw [bit_or, bit_pow, List.mem_cons]
    have hx := h x (List.mem_cons_self ..)
    have : i = x.toNat ↔ (i : Int) = x := by omega
    rw [this, or_assoc]
theorem bit_maskL (i : Nat) (xs : List Int) (h : ∀ x ∈ xs, 0 ≤ x) : bit (maskL xs) i ↔ (i : Int) ∈ xs := by
  unfold maskL
  rw [bit_mask i xs 0 h]
  have : ¬ bit 0 i := by unfold bit; simp
  simp [this]
theorem low_zero (k : Nat) : low 0 k := ⟨by omega, Int.pow_pos (by decide)⟩
/-! ### comprehensions -/
theorem lc_fm {vs : List Nat} {g : D → J.Env → Option J.Env} {t : J.Env → J.R Bool} {f : J.Env → J.R D} {E : J.Env} (p : Int → Bool) (q : Int → D) (hE : wipeE vs E = E) : ∀ (xs : List Int) (acc : List D), (∀ x ∈ xs, ∃ E1, stL g t (.int x) E = .ok (p x) E1 ∧ (p x = false → wipeE vs E1 = E) ∧ (p x = true → ∃ E2, f E1 = .ok (q x) E2 ∧ wipeE vs E2 = E)) →
    acc.length + xs.length ≤ 16777216 → lcD vs g t f (iD xs) acc E = .ok (acc ++ (xs.filter p).map q) E
  | [], acc, _, _ => by simp [iD, lcD]
  | x :: xs, acc, hs, hl => by
    obtain ⟨E1, h1, h2, h3⟩ := hs x (List.mem_cons_self ..)
    obtain ⟨E0, hg, ht⟩ := stL_ok h1
    have hx := fun y hy => hs y (List.mem_cons_of_mem x hy)
    show lcD vs g t f (D.int x :: iD xs) acc E = _
    unfold lcD
    rw [hE, hg]
    simp only [ht]
    simp at hl
    cases hp : p x with
    | true =>
      obtain ⟨E2, h4, h5⟩ := h3 hp
      simp only [h4]
      rw [if_pos (by omega), h5, lc_fm p q hE xs _ hx (by simp; omega), List.filter_cons_of_pos hp]
      simp
    | false =>
      simp only [h2 hp]
      rw [lc_fm p q hE xs _ hx (by omega), List.filter_cons_of_neg (by simp [hp])]
theorem upD_iD (n : Nat) : upD 0 n = iD ((List.range n).map fun (k : Nat) => (k : Int)) := by
  unfold upD iD
  rw [List.map_map]
  refine List.map_congr_left fun k _ => ?_
  show D.int (0 + (k : Int)) = D.int (k : Int)
  rw [Int.zero_add]
def rng (n : Nat) : List Int := (List.range n).map fun (k : Nat) => (k : Int)
theorem mem_rng {n : Nat} {x : Int} : x ∈ rng n ↔ 0 ≤ x ∧ x < n := by
  unfold rng
  rw [List.mem_map]
  constructor
  · rintro ⟨k, h, rfl⟩; rw [List.mem_range] at h; omega
  · intro h; exact ⟨x.toNat, by rw [List.mem_range]; omega, by omega⟩
theorem pw_rng (n : Nat) : (rng n).Pairwise (· < ·) := by
  unfold rng
  rw [List.pairwise_map]
  exact List.pairwise_lt_range.imp fun h => by omega
@[simp] theorem len_rng (n : Nat) : (rng n).length = n := by simp [rng]
def bitB (m x : Int) : Bool := m / 2 ^ x.toNat % 2 != 0
def lotM (m : Int) : List Int := (rng (Builtin.Int.intBits m)).filter (bitB m)
@[simp] theorem g_bits (i : Int) : gBits (.int i) = some (.int (Builtin.Int.intBits i : Nat)) := rfl
theorem g_shr {m t : Int} (h : 0 ≤ t) : gShr (.int m) (.int t) = some (.int (m / 2 ^ t.toNat)) := by
  show (gShrI m t).map D.int = _
  unfold gShrI
  rw [if_pos h]; rfl
theorem smI_nat {n : Nat} (h : n ≤ 100000) : smI (n : Int) = true := smI_small (by omega)
theorem lc_lotM {m : Int} (h : Builtin.Int.intBits m ≤ 60) : lcD [1] (gNm 1) (fTru (fop gAnd (fop gShr (fVar 0) (fVar 1)) (fC (.int 1)))) (fVar 1) (iD (rng (Builtin.Int.intBits m))) [] [.val (.int m), .no] = .ok (iD (lotM m)) [.val (.int m), .no] := by
  have hx : ∀ x ∈ rng (Builtin.Int.intBits m), ∃ E1, stL (gNm 1) (fTru (fop gAnd (fop gShr (fVar 0) (fVar 1)) (fC (.int 1)))) (.int x) [.val (.int m), .no] = .ok (bitB m x) E1 ∧ (bitB m x = false → wipeE [1] E1 = [.val (.int m), .no]) ∧ (bitB m x = true → ∃ E2, fVar 1 E1 = .ok (.int x) E2 ∧ wipeE [1] E2 = [.val (.int m), .no]) := by
    intro x hx
    have hx := mem_rng.mp hx
    refine ⟨[.val (.int m), .val (.int x)], ?_, fun _ => rfl, fun _ => ⟨_, rfl, rfl⟩⟩
    simp [stL, g_shr hx.1, bitAnd_m1, truD, bitB]
  have hl : ([] : List D).length + (rng (Builtin.Int.intBits m)).length ≤ 16777216 := by rw [len_rng, List.length_nil]; omega
  exact lc_fm (bitB m) D.int rfl _ _ hx hl
theorem mem_lotM {m : Int} (h : 0 ≤ m) {x : Int} : x ∈ lotM m ↔ 0 ≤ x ∧ bit m x.toNat := by
  unfold lotM
  rw [List.mem_filter, mem_rng]
  have hb : bitB m x = true ↔ bit m x.toNat := by unfold bitB bit; simp; omega
  rw [hb]
  constructor
  · exact fun h => ⟨h.1.1, h.2⟩
  · exact fun k => ⟨⟨k.1, by have := bit_big h (lt_bits m h) k.2; omega⟩, k.2⟩
theorem pw_lotM (m : Int) : (lotM m).Pairwise (· < ·) := (pw_rng _).filter _
end Lw

namespace Lw
open PySem PySem.Spec PyProof.Rows L2 J
theorem lom_rng {m : Int} (h1 : smI ((Builtin.Int.intBits m : Nat) : Int) = true) (e2 : upD 0 (Builtin.Int.intBits m) = iD (rng (Builtin.Int.intBits m))) : fRng1 (fun1 gBits (fVar 0)) [.val (.int m), .no] = .ok (iD (rng (Builtin.Int.intBits m))) [.val (.int m), .no] := by
  have a : fun1 gBits (fVar 0) [.val (.int m), .no] = .ok (.int (Builtin.Int.intBits m : Nat)) [.val (.int m), .no] := rfl
  rw [u_fRng1, a, J.R.bind_ok]
  show (if _ then _ else _) = _
  rw [if_pos h1, Int.toNat_natCast, e2]
theorem lom_run {m : Int} (hb : Builtin.Int.intBits m ≤ 60) : f_lot_of_mask [.val (.int m), .no] = .rt (.v (.tup (iD (lotM m)))) [.val (.int m), .no] := by
  have a := lom_rng (m := m) (smI_nat (by omega)) (upD_iD _)
  have b : fLc [1] (fRng1 (fun1 gBits (fVar 0))) (gNm 1) (fTru (fop gAnd (fop gShr (fVar 0) (fVar 1)) (fC (.int 1)))) (fVar 1) [.val (.int m), .no] = .ok (iD (lotM m)) [.val (.int m), .no] := by
    rw [u_fLc, a, J.R.bind_ok, lc_lotM hb]
  unfold f_lot_of_mask
  rw [u_sRet, u_fun1, u_fPub, b]
  rfl
theorem runF_rt {n : Nat} {f : J.Env → RS} {as E0 : List Sl} {r : RV} {E : J.Env} (h : as ++ List.replicate (n - as.length) .no = E0) (e : f E0 = .rt r E) : runF n f as = .ok r E := by
  unfold runF
  rw [h, e]
theorem e_lot_of_mask {m : Int} (h : low m 60) : F_lot_of_mask [.val (.int m)] = .ok (.v (.tup (iD (lotM m)))) [.val (.int m), .no] := by
  have e := lom_run (m := m) (low_bits h)
  have hs : ([.val (.int m)] : List Sl) ++ List.replicate (2 - ([.val (.int m)] : List Sl).length) .no = [.val (.int m), .no] := rfl
  exact runF_rt hs e
/-! ### numbers, costs -/
def badC (x : Int) : Bool := decide (x < -1000000) || decide (1000000 < x)
def costsR (n : Int) (xs : List Int) : Except Exn (List Int) := if (xs.length : Int) ≠ n then .error (xS xs.length) else match xs.find? badC with
  | some x => .error (xN x)
  | none => .ok xs
theorem loop_numbers (d : D) (n : Int) : ∀ (xs : List Int) (c : Sl), match xs.find? badC with
    | some x => ∃ E', forD (gNm 5) (sExpr (fCallR 3 F_look_number (xV (fVar 5) (xV (fVar 3) (xV (fVar 4) xNil))) rvD)) (iD xs) [.val d, .val (.int n), .val (.int n), .val (.int (-1000000)), .val (.int 1000000), c] = .exc (xN x) E'
    | none => ∃ c', forD (gNm 5) (sExpr (fCallR 3 F_look_number (xV (fVar 5) (xV (fVar 3) (xV (fVar 4) xNil))) rvD)) (iD xs) [.val d, .val (.int n), .val (.int n), .val (.int (-1000000)), .val (.int 1000000), c] = .nx [.val d, .val (.int n), .val (.int n), .val (.int (-1000000)), .val (.int 1000000), c']
  | [], c => ⟨c, rfl⟩
  | x :: xs, c => by
    have ih := loop_numbers d n xs (.val (.int x))
    by_cases h : x < -1000000 ∨ 1000000 < x
    · have hb : badC x = true := by simpa [badC] using h
      rw [List.find?_cons_of_pos hb]
      simp [iD, forD, ownsA, ndA, argS, backE, h]
    · have hb : ¬ badC x = true := by simpa [badC] using h
      rw [List.find?_cons_of_neg hb]
      have e : forD (gNm 5) (sExpr (fCallR 3 F_look_number (xV (fVar 5) (xV (fVar 3) (xV (fVar 4) xNil))) rvD)) (iD (x :: xs)) [.val d, .val (.int n), .val (.int n), .val (.int (-1000000)), .val (.int 1000000), c] = forD (gNm 5) (sExpr (fCallR 3 F_look_number (xV (fVar 5) (xV (fVar 3) (xV (fVar 4) xNil))) rvD)) (iD xs) [.val d, .val (.int n), .val (.int n), .val (.int (-1000000)), .val (.int 1000000), .val (.int x)] := by
        simp [iD, forD, ownsA, ndA, argS, backE, h]
      rw [e]; exact ih
theorem e_look_numbers {d : D} {xs : List Int} (h : Sq d xs) (n : Int) : F_look_numbers [.val d, .val (.int n), .val (.int n), .val (.int (-1000000)), .val (.int 1000000)] = toR ((costsR n xs).map fun l => .tup (iD l)) (ev F_look_numbers [.val d, .val (.int n), .val (.int n), .val (.int (-1000000)), .val (.int 1000000)]) := by
  refine of_ex ?_
  unfold costsR
  by_cases h1 : (xs.length : Int) = n
  · have h2 : ¬ ((xs.length : Int) < n ∨ n < xs.length) := by omega
    have hl := loop_numbers d n xs .no
    rw [if_neg (by simp [h1])]
    cases e : xs.find? badC with
    | some x =>
      rw [e] at hl
      obtain ⟨E', hl⟩ := hl
      simp [F_look_numbers, runF, f_look_numbers, ownsA, ndA, argS, backE, e_look_size h, h2, h.it, hl, toR, Except.map]
    | none =>
      rw [e] at hl
      obtain ⟨c', hl⟩ := hl
      simp [F_look_numbers, runF, f_look_numbers, ownsA, ndA, argS, backE, e_look_size h, h2, h.it, hl, toR, Except.map, h.tup]
  · have h2 : (xs.length : Int) < n ∨ n < xs.length := by omega
    rw [if_pos h1]
    simp [F_look_numbers, runF, f_look_numbers, ownsA, ndA, argS, backE, e_look_size h, h2, toR, Except.map]
theorem e_look_costs {d : D} {xs : List Int} (h : Sq d xs) (n : Int) : F_look_costs [.val (.int n), .val d] = toR ((costsR n xs).map fun l => .tup (iD l)) (ev F_look_costs [.val (.int n), .val d]) := by
  refine of_ex ?_
  have e := e_look_numbers h n
  cases hr : costsR n xs with
  | error x => rw [hr] at e; simp [F_look_costs, runF, f_look_costs, ownsA, ndA, argS, backE, e, toR, Except.map]
  | ok l => rw [hr] at e; simp [F_look_costs, runF, f_look_costs, ownsA, ndA, argS, backE, e, toR, Except.map]
/-! ### the lots -/
def thR (n : Int) : Except Exn Unit := if n < 0 ∨ 10 < n then .error (xN n) else .ok ()
theorem th_ok {n : Int} (h : thR n = .ok ()) : ¬ (n < 0 ∨ 10 < n) := by
  unfold thR at h
  intro k
  rw [if_pos k] at h; cases h
theorem th_err {n : Int} {x : Exn} (h : thR n = .error x) : (n < 0 ∨ 10 < n) ∧ x = xN n := by
  unfold thR at h
  by_cases k : n < 0 ∨ 10 < n
  · rw [if_pos k] at h; cases h; exact ⟨k, rfl⟩
  · rw [if_neg k] at h; cases h
def lotOfR (n : Int) (xs : List Int) : Except Exn (List Int) := (thR n).bind fun _ => lotR n xs
theorem e_lot_of {d : D} {xs : List Int} (h : Sq d xs) (n : Int) : F_lot_of [.val (.int n), .val d] = toR ((lotOfR n xs).map fun l => .tup (iD l)) (ev F_lot_of [.val (.int n), .val d]) := by
  refine of_ex ?_
  have e := e_look_lot h n
  unfold lotOfR
  cases ht : thR n with
  | error x =>
    obtain ⟨h1, rfl⟩ := th_err ht
    simp [F_lot_of, runF, f_lot_of, ownsA, ndA, argS, backE, h1, toR, Except.map, Except.bind]
  | ok u =>
    have h1 := th_ok ht
    cases hr : lotR n xs with
    | error x => rw [hr] at e; simp [F_lot_of, runF, f_lot_of, ownsA, ndA, argS, backE, h1, e, toR, Except.map, Except.bind, hr]
    | ok l => rw [hr] at e; simp [F_lot_of, runF, f_lot_of, ownsA, ndA, argS, backE, h1, e, toR, Except.map, Except.bind, hr]
theorem lotR_mem {n : Int} {xs l : List Int} (h : lotR n xs = .ok l) : l = sortU xs ∧ ∀ x ∈ xs, 0 ≤ x ∧ x < n := by
  unfold lotR at h
  by_cases h1 : 60 < xs.length
  · rw [if_pos h1] at h; cases h
  · rw [if_neg h1] at h
    cases e : xs.find? (badT n) with
    | some x => rw [e] at h; cases h
    | none =>
      rw [e] at h
      cases h
      refine ⟨rfl, fun x hx => ?_⟩
      have := List.find?_eq_none.mp e x hx
      simp [badT] at this
      omega
def twoR (n : Int) (xs ys : List Int) : Except Exn (List Int × List Int) := (thR n).bind fun _ => (lotR n xs).bind fun a => (lotR n ys).bind fun b => .ok (a, b)
theorem e_two {d e : D} {xs ys : List Int} (h : Sq d xs) (k : Sq e ys) (n : Int) : F_P_two_masks [.val (.int n), .val d, .val e] = toR ((twoR n xs ys).map fun p => .tup [.int (maskL p.1), .int (maskL p.2)]) (ev F_P_two_masks [.val (.int n), .val d, .val e]) := by
  refine of_ex ?_
  have e1 := e_look_lot h n
  have e2 := e_look_lot k n
  unfold twoR
  cases ht : thR n with
  | error x =>
    obtain ⟨h1, rfl⟩ := th_err ht
    simp [F_P_two_masks, runF, f_P_two_masks, ownsA, ndA, argS, backE, h1, toR, Except.map, Except.bind]
  | ok u =>
    have h1 := th_ok ht
    cases hr : lotR n xs with
    | error x => rw [hr] at e1; simp [F_P_two_masks, runF, f_P_two_masks, ownsA, ndA, argS, backE, h1, e1, toR, Except.map, Except.bind, hr]
    | ok a =>
      rw [hr] at e1
      cases hs : lotR n ys with
      | error x => rw [hs] at e2; simp [F_P_two_masks, runF, f_P_two_masks, ownsA, ndA, argS, backE, h1, e1, e2, toR, Except.map, Except.bind, hr, hs]
      | ok b =>
        rw [hs] at e2
        obtain ⟨rfl, m1⟩ := lotR_mem hr
        obtain ⟨rfl, m2⟩ := lotR_mem hs
        have f1 := e_mask_of (xs := sortU xs) fun x hx => by have := m1 x (sortU_mem.mp hx); omega
        have f2 := e_mask_of (xs := sortU ys) fun x hx => by have := m2 x (sortU_mem.mp hx); omega
        simp [F_P_two_masks, runF, f_P_two_masks, ownsA, ndA, argS, backE, h1, e1, e2, f1, f2, toR, Except.map, Except.bind, hr, hs]
end Lw

namespace Lw
open PySem PySem.Spec PyProof.Rows L2 J
theorem low_le {x : Int} {a b : Nat} (h : low x a) (k : a ≤ b) : low x b := ⟨h.1, Int.lt_of_lt_of_le h.2 (by have := Nat.pow_le_pow_right (by decide : 0 < 2) k; exact_mod_cast this)⟩
theorem low_maskL {xs : List Int} (h : ∀ x ∈ xs, 0 ≤ x ∧ x < 10) : low (maskL xs) 10 := low_mask xs 0 (low_zero _) (by simpa using h)
theorem two_ok {n : Int} {xs ys : List Int} {p : List Int × List Int} (h : twoR n xs ys = .ok p) : p = (sortU xs, sortU ys) ∧ (∀ x ∈ xs, 0 ≤ x ∧ x < n) ∧ (∀ x ∈ ys, 0 ≤ x ∧ x < n) ∧ 0 ≤ n ∧ n ≤ 10 := by
  unfold twoR at h
  cases ht : thR n with
  | error x => rw [ht] at h; cases h
  | ok u =>
    rw [ht] at h
    have h1 := th_ok ht
    cases hr : lotR n xs with
    | error x => simp only [Except.bind, hr] at h; cases h
    | ok a =>
      cases hs : lotR n ys with
      | error x => simp only [Except.bind, hr, hs] at h; cases h
      | ok b =>
        simp only [Except.bind, hr, hs] at h
        cases h
        obtain ⟨rfl, m1⟩ := lotR_mem hr
        obtain ⟨rfl, m2⟩ := lotR_mem hs
        exact ⟨rfl, m1, m2, by omega, by omega⟩
theorem two_low {n : Int} {xs ys : List Int} {p : List Int × List Int} (h : twoR n xs ys = .ok p) : low (maskL p.1) 10 ∧ low (maskL p.2) 10 := by
  obtain ⟨rfl, m1, m2, h1, h2⟩ := two_ok h
  exact ⟨low_maskL fun x hx => by have := m1 x (sortU_mem.mp hx); omega, low_maskL fun x hx => by have := m2 x (sortU_mem.mp hx); omega⟩
/-! ### cost_of -/
def costOfR (n : Int) (cs xs : List Int) : Except Exn Int := (thR n).bind fun _ => (costsR n cs).bind fun c => (lotR n xs).bind fun l => .ok ((l.map fun t => c[t.toNat]?.getD 0).sum)
theorem costs_ok {n : Int} {xs l : List Int} (h : costsR n xs = .ok l) : l = xs ∧ (xs.length : Int) = n := by
  unfold costsR at h
  by_cases h1 : (xs.length : Int) = n
  · rw [if_neg (by simp [h1])] at h
    cases e : xs.find? badC with
    | some x => rw [e] at h; cases h
    | none => rw [e] at h; cases h; exact ⟨rfl, h1⟩
  · rw [if_pos h1] at h; cases h
theorem at_iD (cs : List Int) {t : Int} (h : 0 ≤ t ∧ t < cs.length) : L2.atI (iD cs) t = some (.int (cs[t.toNat]?.getD 0)) := by
  unfold L2.atI
  have hl : t.toNat < cs.length := by omega
  have : ixN (iD cs).length t = some t.toNat := by unfold ixN; rw [if_pos h.1, if_pos (by rw [iD_len]; exact h.2)]
  rw [this]
  simp [iD, List.getElem?_map, List.getElem?_eq_getElem hl]
theorem insU_len (k : Int) : ∀ (l : List Int), (insU k l).length ≤ l.length + 1
  | [] => by simp [insU]
  | y :: l => by
    have ih := insU_len k l
    unfold insU
    by_cases h1 : k < y
    · rw [if_pos h1]; simp
    · rw [if_neg h1]
      by_cases h2 : k = y
      · rw [if_pos h2]; simp
      · rw [if_neg h2]; simp; omega
theorem sortU_len : ∀ (xs : List Int), (sortU xs).length ≤ xs.length
  | [] => by simp [sortU]
  | x :: xs => by
    have h := sortU_len xs
    have h2 := insU_len x (sortU xs)
    have e : sortU (x :: xs) = insU x (sortU xs) := rfl
    rw [e, List.length_cons]; omega
theorem lotR_len {n : Int} {xs l : List Int} (h : lotR n xs = .ok l) : l.length ≤ 60 := by
  obtain ⟨rfl, _⟩ := lotR_mem h
  have := sortU_len xs
  unfold lotR at h
  by_cases h1 : 60 < xs.length
  · rw [if_pos h1] at h; cases h
  · omega
theorem e_cost_of {d e : D} {cs xs : List Int} (h : Sq d cs) (k : Sq e xs) (n : Int) : F_cost_of [.val (.int n), .val d, .val e] = toR ((costOfR n cs xs).map .int) (ev F_cost_of [.val (.int n), .val d, .val e]) := by
  refine of_ex ?_
  have e1 := e_look_costs h n
  have e2 := e_look_lot k n
  unfold costOfR
  cases ht : thR n with
  | error x =>
    obtain ⟨h1, rfl⟩ := th_err ht
    simp [F_cost_of, runF, f_cost_of, ownsA, ndA, argS, backE, h1, toR, Except.map, Except.bind]
  | ok u =>
    have h1 := th_ok ht
    cases hr : costsR n cs with
    | error x => rw [hr] at e1; simp [F_cost_of, runF, f_cost_of, ownsA, ndA, argS, backE, h1, e1, toR, Except.map, Except.bind, hr]
    | ok c =>
      rw [hr] at e1
      obtain ⟨rfl, hn⟩ := costs_ok hr
      cases hs : lotR n xs with
      | error x => rw [hs] at e2; simp [F_cost_of, runF, f_cost_of, ownsA, ndA, argS, backE, h1, e1, e2, toR, Except.map, Except.bind, hr, hs]
      | ok l =>
        rw [hs] at e2
        have hll := lotR_len hs
        obtain ⟨rfl, m⟩ := lotR_mem hs
        have el := lc_fm (vs := [4]) (g := gNm 4) (t := fYes) (f := fop gIx (fVar 3) (fVar 4)) (E := [.val (.int n), .val d, .val e, .val (.tup (iD c)), .no]) (fun _ => true) (fun t => .int (c[t.toNat]?.getD 0)) rfl (sortU xs) [] (fun x hx => by
          have hx := m x (sortU_mem.mp hx)
          refine ⟨[.val (.int n), .val d, .val e, .val (.tup (iD c)), .val (.int x)], rfl, fun h => (by cases h), fun _ => ⟨[.val (.int n), .val d, .val e, .val (.tup (iD c)), .val (.int x)], ?_, rfl⟩⟩
          have hi : gIx (.tup (iD c)) (.int x) = some (.int (c[x.toNat]?.getD 0)) := at_iD c (by omega)
          simp [hi]) (by rw [List.length_nil]; omega)
        rw [List.filter_eq_self.mpr (fun _ _ => rfl), List.nil_append] at el
        have hsum : gSum (.lst ((sortU xs).map fun t => D.int (c[t.toNat]?.getD 0))) = some (.int ((sortU xs).map fun t => c[t.toNat]?.getD 0).sum) := by
          have : ((sortU xs).map fun t => D.int (c[t.toNat]?.getD 0)) = ((sortU xs).map fun t => c[t.toNat]?.getD 0).map D.int := by rw [List.map_map]; rfl
          rw [this]
          show ((intsD _).map _) = _
          rw [intsD_map]; rfl
        simp [F_cost_of, runF, f_cost_of, ownsA, ndA, argS, backE, h1, e1, e2, toR, Except.map, Except.bind, hr, hs, el, hsum]
end Lw

namespace Lw
open PySem PySem.Spec PyProof.Rows L2 J
theorem c_1 {F : DF} {fa : J.Env → J.R D} {E Ec : J.Env} {d r : D} (ha : fa E = .ok d E) (h : F [.val d] = .ok (.v r) Ec) : fCallR 1 F (xV fa xNil) rvD E = .ok r E := by
  rw [u_fCallR, u_xV, ha, J.R.bind_ok, u_xNil, J.R.bind_ok, J.R.bind_ok]
  show (match F [.val d] with | .ok rv Ec => _ | .exc x Ec => _ | .stuck => _) = _
  rw [h]
  rfl
theorem tri {C : J.Env → J.R D} {F : DF} (hF : F = runF 5 (sSeq (sAsg (fCallR 3 F_P_two_masks (xV (fVar 0) (xV (fVar 1) (xV (fVar 2) xNil))) rvD) (gTup2 (gsCons (gNm 3) (gsCons (gNm 4) gsNil)))) (sRet C))) {d e : D} {xs ys : List Int} (h : Sq d xs) (k : Sq e ys) (n : Int) (q : Int → Int → List Int)
    (hC : ∀ p, twoR n xs ys = .ok p → C [.val (.int n), .val d, .val e, .val (.int (maskL p.1)), .val (.int (maskL p.2))] = .ok (.tup (iD (q (maskL p.1) (maskL p.2)))) [.val (.int n), .val d, .val e, .val (.int (maskL p.1)), .val (.int (maskL p.2))]) :
    F [.val (.int n), .val d, .val e] = toR ((twoR n xs ys).map fun p => .tup (iD (q (maskL p.1) (maskL p.2)))) (ev F [.val (.int n), .val d, .val e]) := by
  refine of_ex ?_
  rw [hF]
  have e1 := e_two h k n
  cases hr : twoR n xs ys with
  | error x => rw [hr] at e1; simp [runF, ownsA, ndA, argS, backE, e1, toR, Except.map]
  | ok p =>
    rw [hr] at e1
    have hc := hC p hr
    simp [runF, ownsA, ndA, argS, backE, e1, hc, toR, Except.map]
theorem e_joined {d e : D} {xs ys : List Int} (h : Sq d xs) (k : Sq e ys) (n : Int) : F_joined [.val (.int n), .val d, .val e] = toR ((twoR n xs ys).map fun p => .tup (iD (lotM (Builtin.bitOr (maskL p.1) (maskL p.2))))) (ev F_joined [.val (.int n), .val d, .val e]) := by
  have hF : F_joined = runF 5 (sSeq (sAsg (fCallR 3 F_P_two_masks (xV (fVar 0) (xV (fVar 1) (xV (fVar 2) xNil))) rvD) (gTup2 (gsCons (gNm 3) (gsCons (gNm 4) gsNil)))) (sRet (fCallR 1 F_lot_of_mask (xV (fop gOr (fVar 3) (fVar 4)) xNil) rvD))) := by unfold F_joined f_joined; rfl
  refine tri hF h k n (fun a b => lotM (Builtin.bitOr a b)) fun p hr => ?_
  have ha : (fop gOr (fVar 3) (fVar 4)) [.val (.int n), .val d, .val e, .val (.int (maskL p.1)), .val (.int (maskL p.2))] = .ok (.int (Builtin.bitOr (maskL p.1) (maskL p.2))) [.val (.int n), .val d, .val e, .val (.int (maskL p.1)), .val (.int (maskL p.2))] := rfl
  have hl : low (Builtin.bitOr (maskL p.1) (maskL p.2)) 10 := low_or (two_low hr).1 (two_low hr).2
  exact c_1 ha (e_lot_of_mask (low_le hl (by decide : 10 ≤ 60)))
theorem e_common {d e : D} {xs ys : List Int} (h : Sq d xs) (k : Sq e ys) (n : Int) : F_common [.val (.int n), .val d, .val e] = toR ((twoR n xs ys).map fun p => .tup (iD (lotM (Builtin.bitAnd (maskL p.1) (maskL p.2))))) (ev F_common [.val (.int n), .val d, .val e]) := by
  have hF : F_common = runF 5 (sSeq (sAsg (fCallR 3 F_P_two_masks (xV (fVar 0) (xV (fVar 1) (xV (fVar 2) xNil))) rvD) (gTup2 (gsCons (gNm 3) (gsCons (gNm 4) gsNil)))) (sRet (fCallR 1 F_lot_of_mask (xV (fop gAnd (fVar 3) (fVar 4)) xNil) rvD))) := by unfold F_common f_common; rfl
  refine tri hF h k n (fun a b => lotM (Builtin.bitAnd a b)) fun p hr => ?_
  have ha : (fop gAnd (fVar 3) (fVar 4)) [.val (.int n), .val d, .val e, .val (.int (maskL p.1)), .val (.int (maskL p.2))] = .ok (.int (Builtin.bitAnd (maskL p.1) (maskL p.2))) [.val (.int n), .val d, .val e, .val (.int (maskL p.1)), .val (.int (maskL p.2))] := rfl
  have hl : low (Builtin.bitAnd (maskL p.1) (maskL p.2)) 10 := low_and (two_low hr).2
  exact c_1 ha (e_lot_of_mask (low_le hl (by decide : 10 ≤ 60)))
theorem e_without {d e : D} {xs ys : List Int} (h : Sq d xs) (k : Sq e ys) (n : Int) : F_without [.val (.int n), .val d, .val e] = toR ((twoR n xs ys).map fun p => .tup (iD (lotM (Builtin.bitAnd (maskL p.1) (Builtin.bitNot (maskL p.2)))))) (ev F_without [.val (.int n), .val d, .val e]) := by
  have hF : F_without = runF 5 (sSeq (sAsg (fCallR 3 F_P_two_masks (xV (fVar 0) (xV (fVar 1) (xV (fVar 2) xNil))) rvD) (gTup2 (gsCons (gNm 3) (gsCons (gNm 4) gsNil)))) (sRet (fCallR 1 F_lot_of_mask (xV (fop gAnd (fVar 3) (fun1 gInv (fVar 4))) xNil) rvD))) := by unfold F_without f_without; rfl
  refine tri hF h k n (fun a b => lotM (Builtin.bitAnd a (Builtin.bitNot b))) fun p hr => ?_
  have ha : (fop gAnd (fVar 3) (fun1 gInv (fVar 4))) [.val (.int n), .val d, .val e, .val (.int (maskL p.1)), .val (.int (maskL p.2))] = .ok (.int (Builtin.bitAnd (maskL p.1) (Builtin.bitNot (maskL p.2)))) [.val (.int n), .val d, .val e, .val (.int (maskL p.1)), .val (.int (maskL p.2))] := rfl
  have hl : low (Builtin.bitAnd (maskL p.1) (Builtin.bitNot (maskL p.2))) 10 := (by rw [bitAnd_comm]; exact low_and (two_low hr).1)
  exact c_1 ha (e_lot_of_mask (low_le hl (by decide : 10 ≤ 60)))
end Lw

namespace Lw
open PySem PySem.Spec PyProof.Rows L2 J
/-! ### is it this lot -/
@[simp] theorem e_L_int (i : Int) : F_L_int [.val (.int i)] = .ok (.v (.bl true)) [.val (.int i)] := p_int i
theorem p_is_lot (xs : List Int) (hl : xs.length ≤ 1000) : ∃ E, F_L_is_lot [.val (.tup (iD xs)), .val (.lst (iD xs))] = .ok (.v (.bl true)) E := by
  have hs := smI_nat (n := xs.length) (by omega)
  simp [F_L_is_lot, runF, f_L_is_lot, hs]
  generalize hF : forD _ _ _ _ = r
  obtain ⟨E', rfl, c, rfl⟩ := use_for hF (fun i E => ∃ c : Sl, E = [.val (.tup (iD xs)), .val (.lst (iD xs)), c]) ⟨_, rfl⟩ (by
    rintro i h E ⟨c, rfl⟩
    have hi : i < xs.length := by simpa using h
    have h1 : gIx (.tup (iD xs)) (.int (i : Nat)) = some (.int (xs[i]?.getD 0)) := at_iD xs (t := (i : Nat)) (by omega)
    have h2 : gIx (.lst (iD xs)) (.int (i : Nat)) = some (.int (xs[i]?.getD 0)) := at_iD xs (t := (i : Nat)) (by omega)
    simp [stF, ownsA, ndA, argS, backE, h1, h2])
  simp
theorem inb {d : D} {xs : List Int} (h : itemsD d = some (iD xs)) (neg : Bool) (k : Int) : gInB neg (.int k) d = some (.bl (if neg then !decide (k ∈ xs) else decide (k ∈ xs))) := by
  unfold gInB
  rw [h]
  have h1 : (iD xs).all flatD = true := by
    rw [List.all_eq_true]
    intro x hx
    unfold iD at hx
    obtain ⟨y, _, rfl⟩ := List.mem_map.mp hx
    rfl
  have h2 : inV (vD (.int k)) ((iD xs).map vD) = decide (k ∈ xs) := by
    unfold iD inV
    rw [List.map_map, List.any_map]
    rw [Bool.eq_iff_iff, List.any_eq_true, decide_eq_true_eq]
    constructor
    · rintro ⟨y, hy, e⟩
      have e : (y == k) = true := e
      rw [← eq_of_beq e]; exact hy
    · intro hk
      exact ⟨k, hk, by show (k == k) = true; simp⟩
  show (if (true && (iD xs).all flatD) = true then _ else _) = _
  rw [h1, h2]
  rfl
end Lw

namespace Lw
open PySem PySem.Spec PyProof.Rows L2 J
theorem lotR_ok {n : Int} {xs : List Int} (hl : xs.length ≤ 60) (hm : ∀ x ∈ xs, 0 ≤ x ∧ x < n) : lotR n xs = .ok (sortU xs) := by
  unfold lotR
  rw [if_neg (by omega)]
  have : xs.find? (badT n) = none := List.find?_eq_none.mpr fun x hx => by have := hm x hx; simp [badT]; omega
  rw [this]
theorem thR_ok {n : Int} (h : 0 ≤ n ∧ n ≤ 10) : thR n = .ok () := if_neg (by omega)
theorem two_is {n : Int} {xs ys : List Int} (h : 0 ≤ n ∧ n ≤ 10) (hl : xs.length ≤ 60) (hm : ∀ x ∈ xs, 0 ≤ x ∧ x < n) (kl : ys.length ≤ 60) (km : ∀ x ∈ ys, 0 ≤ x ∧ x < n) : twoR n xs ys = .ok (sortU xs, sortU ys) := by
  unfold twoR
  rw [thR_ok h, lotR_ok hl hm, lotR_ok kl km]; rfl
/-- the things k below n with p k -/
def fl (n : Int) (p : Int → Bool) : List Int := (rng n.toNat).filter p
theorem mem_fl {n : Int} {p : Int → Bool} {x : Int} : x ∈ fl n p ↔ 0 ≤ x ∧ x < n ∧ p x = true := by
  unfold fl
  rw [List.mem_filter, mem_rng]
  constructor
  · rintro ⟨⟨a, b⟩, c⟩; exact ⟨a, by omega, c⟩
  · rintro ⟨a, b, c⟩; exact ⟨⟨a, by omega⟩, c⟩
theorem pw_fl (n : Int) (p : Int → Bool) : (fl n p).Pairwise (· < ·) := (pw_rng _).filter _
theorem bit_sort {xs : List Int} (h : ∀ x ∈ xs, 0 ≤ x) (x : Int) (hx : 0 ≤ x) : bit (maskL (sortU xs)) x.toNat ↔ x ∈ xs := by
  rw [bit_maskL _ _ fun y hy => h y (sortU_mem.mp hy), sortU_mem, Int.toNat_of_nonneg hx]
theorem fl_lot {n : Int} {xs : List Int} (hm : ∀ x ∈ xs, 0 ≤ x ∧ x < n) : sortU xs = fl n fun k => decide (k ∈ xs) :=
  pw_uniq sortU_pw (pw_fl _ _) fun k => by
    rw [sortU_mem, mem_fl, decide_eq_true_eq]
    exact ⟨fun h => ⟨(hm k h).1, (hm k h).2, h⟩, fun h => h.2.2⟩
theorem fl_or {n : Int} {xs ys : List Int} (hm : ∀ x ∈ xs, 0 ≤ x ∧ x < n) (km : ∀ x ∈ ys, 0 ≤ x ∧ x < n) (l : 0 ≤ Builtin.bitOr (maskL (sortU xs)) (maskL (sortU ys))) : lotM (Builtin.bitOr (maskL (sortU xs)) (maskL (sortU ys))) = fl n fun k => decide (k ∈ xs) || decide (k ∈ ys) :=
  pw_uniq (pw_lotM _) (pw_fl _ _) fun k => by
    rw [mem_lotM l, mem_fl, bit_or]
    constructor
    · rintro ⟨h0, h⟩
      rw [bit_sort (fun x hx => (hm x hx).1) k h0, bit_sort (fun x hx => (km x hx).1) k h0] at h
      refine ⟨h0, h.elim (fun h => (hm k h).2) (fun h => (km k h).2), by simpa using h⟩
    · rintro ⟨h0, _, h⟩
      rw [bit_sort (fun x hx => (hm x hx).1) k h0, bit_sort (fun x hx => (km x hx).1) k h0]
      exact ⟨h0, by simpa using h⟩
theorem fl_and {n : Int} {xs ys : List Int} (hm : ∀ x ∈ xs, 0 ≤ x ∧ x < n) (km : ∀ x ∈ ys, 0 ≤ x ∧ x < n) (l : 0 ≤ Builtin.bitAnd (maskL (sortU xs)) (maskL (sortU ys))) : lotM (Builtin.bitAnd (maskL (sortU xs)) (maskL (sortU ys))) = fl n fun k => decide (k ∈ xs) && decide (k ∈ ys) :=
  pw_uniq (pw_lotM _) (pw_fl _ _) fun k => by
    rw [mem_lotM l, mem_fl, bit_and]
    constructor
    · rintro ⟨h0, h⟩
      rw [bit_sort (fun x hx => (hm x hx).1) k h0, bit_sort (fun x hx => (km x hx).1) k h0] at h
      refine ⟨h0, (hm k h.1).2, by simpa using h⟩
    · rintro ⟨h0, _, h⟩
      rw [bit_sort (fun x hx => (hm x hx).1) k h0, bit_sort (fun x hx => (km x hx).1) k h0]
      exact ⟨h0, by simpa using h⟩
theorem fl_not {n : Int} {xs ys : List Int} (hm : ∀ x ∈ xs, 0 ≤ x ∧ x < n) (km : ∀ x ∈ ys, 0 ≤ x ∧ x < n) (l : 0 ≤ Builtin.bitAnd (maskL (sortU xs)) (Builtin.bitNot (maskL (sortU ys)))) : lotM (Builtin.bitAnd (maskL (sortU xs)) (Builtin.bitNot (maskL (sortU ys)))) = fl n fun k => decide (k ∈ xs) && !decide (k ∈ ys) :=
  pw_uniq (pw_lotM _) (pw_fl _ _) fun k => by
    rw [mem_lotM l, mem_fl, bit_and, bit_not]
    constructor
    · rintro ⟨h0, h⟩
      rw [bit_sort (fun x hx => (hm x hx).1) k h0, bit_sort (fun x hx => (km x hx).1) k h0] at h
      refine ⟨h0, (hm k h.1).2, by simpa using h⟩
    · rintro ⟨h0, _, h⟩
      rw [bit_sort (fun x hx => (hm x hx).1) k h0, bit_sort (fun x hx => (km x hx).1) k h0]
      exact ⟨h0, by simpa using h⟩
end Lw

namespace Lw
open PySem PySem.Spec PyProof.Rows L2 J
theorem e_is_lot {xs ys : List Int} (h : xs = ys) (hl : ys.length ≤ 1000) : F_L_is_lot [.val (.tup (iD xs)), .val (.lst (iD ys))] = .ok (.v (.bl true)) (ev F_L_is_lot [.val (.tup (iD xs)), .val (.lst (iD ys))]) := by
  subst h
  exact of_ex (r := .ok _) (p_is_lot xs hl)
theorem len_fl (n : Int) (p : Int → Bool) : (fl n p).length ≤ n.toNat := by
  unfold fl
  have := List.length_filter_le p (rng n.toNat)
  rwa [len_rng] at this
theorem rng_n {n : Int} (h : 0 ≤ n) : upD 0 n.toNat = iD (rng n.toNat) := upD_iD _
theorem nn_or {n : Int} {xs ys : List Int} (h : n ≤ 10) (hm : ∀ x ∈ xs, 0 ≤ x ∧ x < n) (km : ∀ x ∈ ys, 0 ≤ x ∧ x < n) : low (maskL (sortU xs)) 10 ∧ low (maskL (sortU ys)) 10 :=
  ⟨low_maskL fun x hx => by have := hm x (sortU_mem.mp hx); omega, low_maskL fun x hx => by have := km x (sortU_mem.mp hx); omega⟩
theorem p_lots {d e : D} {xs ys : List Int} {n : Int} (h : Sq d xs) (k : Sq e ys) (hn : 0 ≤ n ∧ n ≤ 10) (hl : xs.length ≤ 60) (hm : ∀ x ∈ xs, 0 ≤ x ∧ x < n) (kl : ys.length ≤ 60) (km : ∀ x ∈ ys, 0 ≤ x ∧ x < n) : ∃ E, F_L_lots [.val (.int n), .val d, .val e] = .ok (.v (.bl true)) E := by
  have hs : smI n = true := smI_small (by omega)
  obtain ⟨l1, l2⟩ := nn_or hn.2 hm km
  have t2 := two_is hn hl hm kl km
  have e0 := e_lot_of h n
  rw [show lotOfR n xs = .ok (sortU xs) by unfold lotOfR; rw [thR_ok hn, lotR_ok hl hm]; rfl] at e0
  have e1 := e_joined h k n
  have e2 := e_common h k n
  have e3 := e_without h k n
  rw [t2] at e1 e2 e3
  simp only [Except.map, toR] at e0 e1 e2 e3
  rw [fl_or hm km (low_or l1 l2).1] at e1
  rw [fl_and hm km (low_and (x := maskL (sortU xs)) l2).1] at e2
  rw [fl_not hm km (by rw [bitAnd_comm]; exact (low_and l1).1)] at e3
  rw [fl_lot hm] at e0
  have hb : ∀ p, (fl n p).length ≤ 1000 := fun p => by have := len_fl n p; omega
  have i0 := e_is_lot (rfl : fl n (fun k => decide (k ∈ xs)) = _) (hb _)
  have i1 := e_is_lot (rfl : fl n (fun k => decide (k ∈ xs) || decide (k ∈ ys)) = _) (hb _)
  have i2 := e_is_lot (rfl : fl n (fun k => decide (k ∈ xs) && decide (k ∈ ys)) = _) (hb _)
  have i3 := e_is_lot (rfl : fl n (fun k => decide (k ∈ xs) && !decide (k ∈ ys)) = _) (hb _)
  have b1 := inb h.it
  have b2 := inb k.it
  have c0 : ∀ s3 s4, lcD [5] (gNm 5) (fTest (fop (gInB false) (fVar 5) (fVar 1))) (fVar 5) (iD (rng n.toNat)) [] [.val (.int n), .val d, .val e, s3, s4, .no] = .ok (iD (fl n fun k => decide (k ∈ xs))) [.val (.int n), .val d, .val e, s3, s4, .no] := fun s3 s4 =>
    lc_fm (fun k => decide (k ∈ xs)) D.int rfl _ _ (fun x hx => ⟨[.val (.int n), .val d, .val e, s3, s4, .val (.int x)], by simp [stL, b1], fun _ => rfl, fun _ => ⟨_, rfl, rfl⟩⟩) (by rw [len_rng, List.length_nil]; omega)
  have c1 : ∀ s3 s4, lcD [5] (gNm 5) (fOr (fTest (fop (gInB false) (fVar 5) (fVar 1))) (fTest (fop (gInB false) (fVar 5) (fVar 2)))) (fVar 5) (iD (rng n.toNat)) [] [.val (.int n), .val d, .val e, s3, s4, .no] = .ok (iD (fl n fun k => decide (k ∈ xs) || decide (k ∈ ys))) [.val (.int n), .val d, .val e, s3, s4, .no] := fun s3 s4 =>
    lc_fm (fun k => decide (k ∈ xs) || decide (k ∈ ys)) D.int rfl _ _ (fun x hx => ⟨[.val (.int n), .val d, .val e, s3, s4, .val (.int x)], by by_cases q : x ∈ xs <;> simp [stL, b1, b2, q], fun _ => rfl, fun _ => ⟨_, rfl, rfl⟩⟩) (by rw [len_rng, List.length_nil]; omega)
  have hf : ∀ q : Int → Bool, (fl n fun k => decide (k ∈ xs)).filter q = fl n fun k => decide (k ∈ xs) && q k := fun q => by unfold fl; rw [List.filter_filter]; congr 1; funext k; rw [Bool.and_comm]
  have c2 : ∀ s3 s4, lcD [5] (gNm 5) (fTest (fop (gInB false) (fVar 5) (fVar 2))) (fVar 5) (iD (fl n fun k => decide (k ∈ xs))) [] [.val (.int n), .val d, .val e, s3, s4, .no] = .ok (iD (fl n fun k => decide (k ∈ xs) && decide (k ∈ ys))) [.val (.int n), .val d, .val e, s3, s4, .no] := fun s3 s4 => by
    rw [← hf]
    exact lc_fm (fun k => decide (k ∈ ys)) D.int rfl _ _ (fun x hx => ⟨[.val (.int n), .val d, .val e, s3, s4, .val (.int x)], by simp [stL, b2], fun _ => rfl, fun _ => ⟨_, rfl, rfl⟩⟩) (by have := hb fun k => decide (k ∈ xs); rw [List.length_nil]; omega)
  have c3 : ∀ s3 s4, lcD [5] (gNm 5) (fTest (fop (gInB true) (fVar 5) (fVar 2))) (fVar 5) (iD (fl n fun k => decide (k ∈ xs))) [] [.val (.int n), .val d, .val e, s3, s4, .no] = .ok (iD (fl n fun k => decide (k ∈ xs) && !decide (k ∈ ys))) [.val (.int n), .val d, .val e, s3, s4, .no] := fun s3 s4 => by
    rw [← hf fun k => !decide (k ∈ ys)]
    exact lc_fm (fun k => !decide (k ∈ ys)) D.int rfl _ _ (fun x hx => ⟨[.val (.int n), .val d, .val e, s3, s4, .val (.int x)], by simp [stL, b2], fun _ => rfl, fun _ => ⟨_, rfl, rfl⟩⟩) (by have := hb fun k => decide (k ∈ xs); rw [List.length_nil]; omega)
  generalize fl n (fun k => decide (k ∈ xs)) = A0 at *
  generalize fl n (fun k => decide (k ∈ xs) || decide (k ∈ ys)) = A1 at *
  generalize fl n (fun k => decide (k ∈ xs) && decide (k ∈ ys)) = A2 at *
  generalize fl n (fun k => decide (k ∈ xs) && !decide (k ∈ ys)) = A3 at *
  simp [F_L_lots, runF, f_L_lots, ownsA, ndA, argS, backE, hs, rng_n hn.1, c0, c1, c2, c3, e0, e1, e2, e3, i0, i1, i2, i3]
end Lw

namespace Lw
open PySem PySem.Spec PyProof.Rows L2 J
theorem costsR_ok {n : Int} {cs : List Int} (hl : (cs.length : Int) = n) (hc : ∀ x ∈ cs, -1000000 ≤ x ∧ x ≤ 1000000) : costsR n cs = .ok cs := by
  unfold costsR
  rw [if_neg (by simp [hl])]
  have : cs.find? badC = none := List.find?_eq_none.mpr fun x hx => by have := hc x hx; simp [badC]; omega
  rw [this]
theorem costOf_ok {n : Int} {cs xs : List Int} (hn : 0 ≤ n ∧ n ≤ 10) (hl : (cs.length : Int) = n) (hc : ∀ x ∈ cs, -1000000 ≤ x ∧ x ≤ 1000000) (xl : xs.length ≤ 60) (hm : ∀ x ∈ xs, 0 ≤ x ∧ x < n) :
    costOfR n cs xs = .ok (((fl n fun k => decide (k ∈ xs)).map fun t => cs[t.toNat]?.getD 0).sum) := by
  unfold costOfR
  rw [thR_ok hn, costsR_ok hl hc, lotR_ok xl hm, fl_lot hm]; rfl
theorem sum_step (c : Int → Int) (p : Int → Bool) (i : Nat) : (((rng (i + 1)).filter p).map c).sum = (((rng i).filter p).map c).sum + if p i = true then c i else 0 := by
  have : rng (i + 1) = rng i ++ [(i : Int)] := by unfold rng; rw [List.range_succ, List.map_append]; rfl
  rw [this, List.filter_append, List.map_append, List.sum_append]
  by_cases h : p i = true
  · rw [List.filter_cons_of_pos h]; simp [h]
  · rw [List.filter_cons_of_neg h]; simp [h]
/-- d is a list or tuple of the costs cs -/
structure SqC (d : D) (cs : List Int) : Prop extends Sq d cs where
  ix : ∀ t : Int, gIx d (.int t) = L2.atI (iD cs) t
theorem SqC.lst (cs : List Int) : SqC (.lst (iD cs)) cs := ⟨Sq.lst cs, fun _ => rfl⟩
theorem SqC.tu (cs : List Int) : SqC (.tup (iD cs)) cs := ⟨Sq.tu cs, fun _ => rfl⟩
theorem p_cost {d e : D} {cs xs : List Int} {n : Int} (h : SqC d cs) (k : Sq e xs) (hn : 0 ≤ n ∧ n ≤ 10) (hl : (cs.length : Int) = n) (hc : ∀ x ∈ cs, -1000000 ≤ x ∧ x ≤ 1000000) (xl : xs.length ≤ 60) (hm : ∀ x ∈ xs, 0 ≤ x ∧ x < n) : ∃ E, F_L_cost [.val (.int n), .val d, .val e] = .ok (.v (.bl true)) E := by
  have hs : smI n = true := smI_small (by omega)
  have e0 := e_cost_of h.toSq k n
  rw [costOf_ok hn hl hc xl hm] at e0
  simp only [Except.map, toR] at e0
  have b := inb k.it
  simp [F_L_cost, runF, f_L_cost, hs]
  generalize hF : forD _ _ _ _ = r
  obtain ⟨E', rfl, c, rfl⟩ := use_for hF (fun i E => ∃ c : Sl, E = [.val (.int n), .val d, .val e, .val (.int ((((rng i).filter fun k => decide (k ∈ xs)).map fun t => cs[t.toNat]?.getD 0).sum)), c, .no]) ⟨.no, rfl⟩ (by
    rintro i hi E ⟨c, rfl⟩
    have hi : i < n.toNat := by simpa using hi
    have h1 : gIx d (.int (i : Nat)) = some (.int (cs[i]?.getD 0)) := by rw [h.ix]; exact at_iD cs (t := (i : Nat)) (by omega)
    rw [sum_step]
    by_cases q : (i : Int) ∈ xs
    · simp [stF, b, q, h1]
    · simp [stF, b, q])
  have hz : (((rng n.toNat).filter fun k => decide (k ∈ xs)).map fun t => cs[t.toNat]?.getD 0).sum = ((fl n fun k => decide (k ∈ xs)).map fun t => cs[t.toNat]?.getD 0).sum := rfl
  simp only [len_upD]
  rw [hz]
  generalize ((fl n fun k => decide (k ∈ xs)).map fun t => cs[t.toNat]?.getD 0).sum = S at *
  simp [ownsA, ndA, argS, backE, e0]
end Lw

namespace Lw
open PySem PySem.Spec PyProof.Rows L2 J
/-- flat data in at most k levels, comparable -/
structure Fl (k : Nat) (d : D) : Prop where
  pl : plain d = true
  lay : (toPy d).canLay0 = true
  dep : (toPy d).depth ≤ k
structure Fls (k : Nat) (l : List D) : Prop where
  pl : plains l = true
  lay : PyData.canLayAll0 (toPys l) = true
  dep : PyData.depthAll (toPys l) ≤ k
theorem Fls.nil (k : Nat) : Fls k [] := ⟨rfl, rfl, Nat.zero_le _⟩
theorem Fls.cons {k : Nat} {d : D} {l : List D} (h : Fl k d) (hs : Fls k l) : Fls k (d :: l) := by
  refine ⟨?_, ?_, ?_⟩
  · simp [plains, h.pl, hs.pl]
  · simp [toPys, PyData.canLayAll0, h.lay, hs.lay]
  · have h1 := h.dep
    have h2 := hs.dep
    simp only [toPys, PyData.depthAll]
    omega
theorem Fl.int (k : Nat) (i : Int) : Fl k (.int i) := ⟨rfl, rfl, Nat.zero_le _⟩
theorem Fl.bl (k : Nat) (i : Bool) : Fl k (.bl i) := ⟨rfl, rfl, Nat.zero_le _⟩
theorem Fl.lst {k : Nat} {l : List D} (h : Fls k l) : Fl (k + 1) (.lst l) := ⟨by simpa [J.plain] using h.pl, by simpa [toPy, PyData.canLay0] using h.lay, by have := h.dep; simp [toPy, PyData.depth]; omega⟩
theorem Fl.tup {k : Nat} {l : List D} (h : Fls k l) : Fl (k + 1) (.tup l) := ⟨by simpa [J.plain] using h.pl, by simpa [toPy, PyData.canLay0] using h.lay, by have := h.dep; simp [toPy, PyData.depth]; omega⟩
theorem Fls.ints (k : Nat) : ∀ xs : List Int, Fls k (iD xs)
  | [] => Fls.nil k
  | x :: xs => Fls.cons (Fl.int k x) (Fls.ints k xs)
theorem Fl.ok {k : Nat} {d : D} (h : Fl k d) (hk : k ≤ 64) : okD d = true := by
  unfold okD SeqAt.shaped
  rw [h.pl, h.lay, decide_eq_true (by have := h.dep; omega)]; rfl
theorem eq_same {k : Nat} {d : D} (h : Fl k d) (hk : k ≤ 64) : gEq d d = some (.bl true) := by
  unfold gEq
  rw [h.ok hk, PySem.SeqAt.eqv_refl _ h.lay]; rfl
theorem ne_same {k : Nat} {d : D} (h : Fl k d) (hk : k ≤ 64) : gNe d d = some (.bl false) := by
  unfold gNe
  rw [h.ok hk, PySem.SeqAt.eqv_refl _ h.lay]; rfl
theorem p_good {cs xs ys : List Int} {n : Int} (hn : 0 ≤ n ∧ n ≤ 10) (hl : (cs.length : Int) = n) (hc : ∀ x ∈ cs, -1000000 ≤ x ∧ x ≤ 1000000) (xl : xs.length ≤ 60) (hm : ∀ x ∈ xs, 0 ≤ x ∧ x < n) (yl : ys.length ≤ 60) (km : ∀ x ∈ ys, 0 ≤ x ∧ x < n) :
    ∃ E, F_L_good [.val (.int n), .val (.lst (iD cs)), .val (.lst (iD xs)), .val (.lst (iD ys))] = .ok (.v (.bl true)) E := by
  have a1 := of_ex (r := .ok _) (p_lots (Sq.lst xs) (Sq.lst ys) hn xl hm yl km)
  have a2 := of_ex (r := .ok _) (p_lots (Sq.lst ys) (Sq.lst xs) hn yl km xl hm)
  have a3 := of_ex (r := .ok _) (p_lots (Sq.lst xs) (Sq.lst xs) hn xl hm xl hm)
  have a4 := of_ex (r := .ok _) (p_lots (Sq.tu xs) (Sq.tu ys) hn xl hm yl km)
  have a5 := of_ex (r := .ok _) (p_cost (SqC.lst cs) (Sq.lst xs) hn hl hc xl hm)
  have a6 := of_ex (r := .ok _) (p_cost (SqC.tu cs) (Sq.tu ys) hn hl hc yl km)
  simp only [toR] at a1 a2 a3 a4 a5 a6
  have q := eq_same (Fl.tup (Fls.cons (Fl.lst (Fls.ints 0 cs)) (Fls.cons (Fl.lst (Fls.ints 0 xs)) (Fls.cons (Fl.lst (Fls.ints 0 ys)) (Fls.nil _))))) (by decide)
  simp [F_L_good, runF, f_L_good, ownsA, ndA, argS, backE, a1, a2, a3, a4, a5, a6, q]
end Lw

namespace Lw
open PySem PySem.Spec PyProof.Rows L2 J
/-! ### which error is told -/
def clT : List Cl := [⟨exm_SizeError, some 4, fun y => (sSeq (sIf (fOr (fNot (fTru (fIsE isx_0 y))) (fTru (fIsE isx_1 y))) (sSeq (sRet (fTup (fCons (fC (.str "odd")) fNil))) sNil) sNil) (sSeq (sRet (fTup (fCons (fC (.str "size")) (fCons (fXf okf_SizeError_count y "count") (fCons (fCallR 1 F_L_int (xV (fXf okf_SizeError_count y "count") xNil) rvD) fNil))))) sNil))⟩, ⟨exm_ThingError, some 5, fun y => (sSeq (sIf (fOr (fNot (fTru (fIsE isx_2 y))) (fTru (fIsE isx_3 y))) (sSeq (sRet (fTup (fCons (fC (.str "odd")) fNil))) sNil) sNil) (sSeq (sRet (fTup (fCons (fC (.str "thing")) (fCons (fXf okf_ThingError_thing y "thing") (fCons (fCallR 1 F_L_int (xV (fXf okf_ThingError_thing y "thing") xNil) rvD) fNil))))) sNil))⟩, ⟨exm_NumberError, some 6, fun y => (sSeq (sIf (fOr (fNot (fTru (fIsE isx_4 y))) (fNot (fTru (fIsE isx_5 y)))) (sSeq (sRet (fTup (fCons (fC (.str "odd")) fNil))) sNil) sNil) (sSeq (sRet (fTup (fCons (fC (.str "number")) (fCons (fXf okf_NumberError_number y "number") (fCons (fCallR 1 F_L_int (xV (fXf okf_NumberError_number y "number") xNil) rvD) fNil))))) sNil))⟩]
def tryB : J.Env → RS := (sIf (fTest (fop gEq (fVar 0) (fC (.str "lot_of")))) (sSet 7 (fCallR 2 F_lot_of (xV (fVar 1) (xV (fVar 2) xNil)) rvD)) (sIf (fTest (fop gEq (fVar 0) (fC (.str "all_lots")))) (sSet 7 (fPub (fCallR 1 F_all_lots (xV (fVar 1) xNil) rvL))) (sIf (fTest (fop gEq (fVar 0) (fC (.str "joined")))) (sSet 7 (fCallR 3 F_joined (xV (fVar 1) (xV (fVar 2) (xV (fVar 3) xNil))) rvD)) (sIf (fTest (fop gEq (fVar 0) (fC (.str "common")))) (sSet 7 (fCallR 3 F_common (xV (fVar 1) (xV (fVar 2) (xV (fVar 3) xNil))) rvD)) (sIf (fTest (fop gEq (fVar 0) (fC (.str "without")))) (sSet 7 (fCallR 3 F_without (xV (fVar 1) (xV (fVar 2) (xV (fVar 3) xNil))) rvD)) (sSet 7 (fCallR 3 F_cost_of (xV (fVar 1) (xV (fVar 2) (xV (fVar 3) xNil))) rvD)))))))
theorem told_eq : f_L_told = sSeq (sTry tryB clT) (sRet (fTup (fCons (fC (.str "told")) (fCons (fVar 7) fNil)))) := rfl
theorem cl_N (i : Int) (a0 a1 a2 a3 c : Sl) : ∃ E', clD clT (xN i) [a0, a1, a2, a3, .no, .no, .no, c] = .rt (.v (.tup [.str "number", .int i, .bl true])) E' := ⟨_, rfl⟩
theorem cl_S (i : Int) (a0 a1 a2 a3 c : Sl) : ∃ E', clD clT (xS i) [a0, a1, a2, a3, .no, .no, .no, c] = .rt (.v (.tup [.str "size", .int i, .bl true])) E' := ⟨_, rfl⟩
theorem cl_T (i : Int) (a0 a1 a2 a3 c : Sl) : ∃ E', clD clT (xT i) [a0, a1, a2, a3, .no, .no, .no, c] = .rt (.v (.tup [.str "thing", .int i, .bl true])) E' := ⟨_, rfl⟩
theorem g_eqS {a b : Str} {k : Bool} (h : (okD (.str a) && okD (.str b) && (PyData.eqv (.str a) (.str b) == k)) = true) : gEq (.str a) (.str b) = some (.bl k) := by
  simp only [Bool.and_eq_true, beq_iff_eq] at h
  unfold gEq
  rw [h.1.1, h.1.2]
  show some (D.bl (PyData.eqv (.str a) (.str b))) = _
  rw [h.2]
theorem se_lot_of_lot_of : gEq (.str "lot_of") (.str "lot_of") = some (.bl true) := g_eqS (by decide +kernel)
theorem se_lot_of_all_lots : gEq (.str "lot_of") (.str "all_lots") = some (.bl false) := g_eqS (by decide +kernel)
theorem se_lot_of_joined : gEq (.str "lot_of") (.str "joined") = some (.bl false) := g_eqS (by decide +kernel)
theorem se_lot_of_common : gEq (.str "lot_of") (.str "common") = some (.bl false) := g_eqS (by decide +kernel)
theorem se_lot_of_without : gEq (.str "lot_of") (.str "without") = some (.bl false) := g_eqS (by decide +kernel)
theorem se_all_lots_lot_of : gEq (.str "all_lots") (.str "lot_of") = some (.bl false) := g_eqS (by decide +kernel)
theorem se_all_lots_all_lots : gEq (.str "all_lots") (.str "all_lots") = some (.bl true) := g_eqS (by decide +kernel)
theorem se_all_lots_joined : gEq (.str "all_lots") (.str "joined") = some (.bl false) := g_eqS (by decide +kernel)
theorem se_all_lots_common : gEq (.str "all_lots") (.str "common") = some (.bl false) := g_eqS (by decide +kernel)
theorem se_all_lots_without : gEq (.str "all_lots") (.str "without") = some (.bl false) := g_eqS (by decide +kernel)
theorem se_joined_lot_of : gEq (.str "joined") (.str "lot_of") = some (.bl false) := g_eqS (by decide +kernel)
theorem se_joined_all_lots : gEq (.str "joined") (.str "all_lots") = some (.bl false) := g_eqS (by decide +kernel)
theorem se_joined_joined : gEq (.str "joined") (.str "joined") = some (.bl true) := g_eqS (by decide +kernel)
theorem se_joined_common : gEq (.str "joined") (.str "common") = some (.bl false) := g_eqS (by decide +kernel)
theorem se_joined_without : gEq (.str "joined") (.str "without") = some (.bl false) := g_eqS (by decide +kernel)
theorem se_common_lot_of : gEq (.str "common") (.str "lot_of") = some (.bl false) := g_eqS (by decide +kernel)
theorem se_common_all_lots : gEq (.str "common") (.str "all_lots") = some (.bl false) := g_eqS (by decide +kernel)
theorem se_common_joined : gEq (.str "common") (.str "joined") = some (.bl false) := g_eqS (by decide +kernel)
theorem se_common_common : gEq (.str "common") (.str "common") = some (.bl true) := g_eqS (by decide +kernel)
theorem se_common_without : gEq (.str "common") (.str "without") = some (.bl false) := g_eqS (by decide +kernel)
theorem se_without_lot_of : gEq (.str "without") (.str "lot_of") = some (.bl false) := g_eqS (by decide +kernel)
theorem se_without_all_lots : gEq (.str "without") (.str "all_lots") = some (.bl false) := g_eqS (by decide +kernel)
theorem se_without_joined : gEq (.str "without") (.str "joined") = some (.bl false) := g_eqS (by decide +kernel)
theorem se_without_common : gEq (.str "without") (.str "common") = some (.bl false) := g_eqS (by decide +kernel)
theorem se_without_without : gEq (.str "without") (.str "without") = some (.bl true) := g_eqS (by decide +kernel)
theorem se_cost_of_lot_of : gEq (.str "cost_of") (.str "lot_of") = some (.bl false) := g_eqS (by decide +kernel)
theorem se_cost_of_all_lots : gEq (.str "cost_of") (.str "all_lots") = some (.bl false) := g_eqS (by decide +kernel)
theorem se_cost_of_joined : gEq (.str "cost_of") (.str "joined") = some (.bl false) := g_eqS (by decide +kernel)
theorem se_cost_of_common : gEq (.str "cost_of") (.str "common") = some (.bl false) := g_eqS (by decide +kernel)
theorem se_cost_of_without : gEq (.str "cost_of") (.str "without") = some (.bl false) := g_eqS (by decide +kernel)
end Lw

namespace Lw
open PySem PySem.Spec PyProof.Rows L2 J
/-- the error x is told as kind and v -/
inductive Kd : Exn → Str → Int → Prop
  | n (i : Int) : Kd (xN i) "number" i
  | s (i : Int) : Kd (xS i) "size" i
  | t (i : Int) : Kd (xT i) "thing" i
theorem sTry_exc {f : J.Env → RS} {hs : List Cl} {E E1 : J.Env} {x : Exn} (h : f E = .exc x E1) : sTry f hs E = clD hs x E1 := by
  unfold sTry; rw [h]
theorem told_of {a0 a1 a2 a3 : D} {x : Exn} {kind : Str} {v : Int} (hk : Kd x kind v) (h : ∃ c, tryB [.val a0, .val a1, .val a2, .val a3, .no, .no, .no, .no] = .exc x [.val a0, .val a1, .val a2, .val a3, .no, .no, .no, c]) :
    ∃ E, F_L_told [.val a0, .val a1, .val a2, .val a3] = .ok (.v (.tup [.str kind, .int v, .bl true])) E := by
  obtain ⟨c, h⟩ := h
  have hc : ∃ E', clD clT x [.val a0, .val a1, .val a2, .val a3, .no, .no, .no, c] = .rt (.v (.tup [.str kind, .int v, .bl true])) E' := by
    cases hk with
    | n => exact cl_N _ _ _ _ _ _
    | s => exact cl_S _ _ _ _ _ _
    | t => exact cl_T _ _ _ _ _ _
  obtain ⟨E', hc⟩ := hc
  refine ⟨E', ?_⟩
  refine runF_rt (n := 8) (f := f_L_told) (E0 := [.val a0, .val a1, .val a2, .val a3, .no, .no, .no, .no]) rfl ?_
  rw [told_eq, u_sSeq, sTry_exc h, hc]; rfl
theorem try_joined {n a b : D} {x : Exn} {Ec : J.Env} (h : F_joined [.val n, .val a, .val b] = .exc x Ec) : ∃ c, tryB [.val (.str "joined"), .val n, .val a, .val b, .no, .no, .no, .no] = .exc x [.val (.str "joined"), .val n, .val a, .val b, .no, .no, .no, c] := by
  refine ⟨.no, ?_⟩
  simp [tryB, ownsA, ndA, argS, backE, h, se_joined_lot_of, se_joined_all_lots, se_joined_joined, se_joined_common, se_joined_without]
theorem try_common {n a b : D} {x : Exn} {Ec : J.Env} (h : F_common [.val n, .val a, .val b] = .exc x Ec) : ∃ c, tryB [.val (.str "common"), .val n, .val a, .val b, .no, .no, .no, .no] = .exc x [.val (.str "common"), .val n, .val a, .val b, .no, .no, .no, c] := by
  refine ⟨.no, ?_⟩
  simp [tryB, ownsA, ndA, argS, backE, h, se_common_lot_of, se_common_all_lots, se_common_joined, se_common_common, se_common_without]
theorem try_without {n a b : D} {x : Exn} {Ec : J.Env} (h : F_without [.val n, .val a, .val b] = .exc x Ec) : ∃ c, tryB [.val (.str "without"), .val n, .val a, .val b, .no, .no, .no, .no] = .exc x [.val (.str "without"), .val n, .val a, .val b, .no, .no, .no, c] := by
  refine ⟨.no, ?_⟩
  simp [tryB, ownsA, ndA, argS, backE, h, se_without_lot_of, se_without_all_lots, se_without_joined, se_without_common, se_without_without]
theorem try_cost_of {n a b : D} {x : Exn} {Ec : J.Env} (h : F_cost_of [.val n, .val a, .val b] = .exc x Ec) : ∃ c, tryB [.val (.str "cost_of"), .val n, .val a, .val b, .no, .no, .no, .no] = .exc x [.val (.str "cost_of"), .val n, .val a, .val b, .no, .no, .no, c] := by
  refine ⟨.no, ?_⟩
  simp [tryB, ownsA, ndA, argS, backE, h, se_cost_of_lot_of, se_cost_of_all_lots, se_cost_of_joined, se_cost_of_common, se_cost_of_without]
theorem try_lot_of {n a b : D} {x : Exn} {Ec : J.Env} (h : F_lot_of [.val n, .val a] = .exc x Ec) : ∃ c, tryB [.val (.str "lot_of"), .val n, .val a, .val b, .no, .no, .no, .no] = .exc x [.val (.str "lot_of"), .val n, .val a, .val b, .no, .no, .no, c] := by
  refine ⟨.no, ?_⟩
  simp [tryB, ownsA, ndA, argS, backE, h, se_lot_of_lot_of]
theorem try_all_lots {n a b : D} {x : Exn} {Ec : J.Env} (h : F_all_lots [.val n] = .exc x Ec) : ∃ c, tryB [.val (.str "all_lots"), .val n, .val a, .val b, .no, .no, .no, .no] = .exc x [.val (.str "all_lots"), .val n, .val a, .val b, .no, .no, .no, c] := by
  refine ⟨.no, ?_⟩
  simp [tryB, ownsA, ndA, argS, backE, h, se_all_lots_lot_of, se_all_lots_all_lots]
theorem e_all_lots_bad {n : Int} (h : n < 0 ∨ 10 < n) : ∃ E, F_all_lots [.val (.int n)] = .exc (xN n) E := by
  simp [F_all_lots, runF, f_all_lots, ownsA, ndA, argS, backE, h]
/-- a row of the table of refusals that holds -/
def RowOk (r : D) : Prop := ∃ a0 a1 a2 a3 kind v, r = .tup [a0, a1, a2, a3, .tup [.str kind, .int v]] ∧ okD (.str kind) = true ∧ ∃ E, F_L_told [.val a0, .val a1, .val a2, .val a3] = .ok (.v (.tup [.str kind, .int v, .bl true])) E
theorem Fl.str {x : Str} (k : Nat) (h : okD (.str x) = true) : Fl k (.str x) := by
  have h2 := (Bool.and_eq_true_iff.mp h).2
  exact ⟨rfl, SeqAt.canLay_of_shaped h2, Nat.zero_le _⟩
theorem p_all_refused {rows : List D} (h : ∀ r ∈ rows, RowOk r) : ∃ E, F_L_all_refused [.val (.lst rows)] = .ok (.v (.bl true)) E := by
  simp [F_L_all_refused, runF, f_L_all_refused]
  generalize hF : forD _ _ _ _ = r
  obtain ⟨E', rfl, s1, s2, s3, s4, s5, s6, rfl⟩ := use_for hF (fun i E => ∃ s1 s2 s3 s4 s5 s6 : Sl, E = [.val (.lst rows), s1, s2, s3, s4, s5, s6]) ⟨.no, .no, .no, .no, .no, .no, rfl⟩ (by
    rintro i hi E ⟨s1, s2, s3, s4, s5, s6, rfl⟩
    obtain ⟨a0, a1, a2, a3, kind, v, e, hk, Ec, ht⟩ := h rows[i] (List.getElem_mem hi)
    rw [e]
    have q := ne_same (Fl.tup (Fls.cons (Fl.str 0 hk) (Fls.cons (Fl.int 0 v) (Fls.cons (Fl.bl 0 true) (Fls.nil 0))))) (by decide)
    have i0 : gIx (.tup [.str kind, .int v]) (.int 0) = some (.str kind) := rfl
    have i1 : gIx (.tup [.str kind, .int v]) (.int 1) = some (.int v) := rfl
    simp [stF, ownsA, ndA, argS, backE, ht, q, i0, i1])
  simp
end Lw

namespace Lw
open PySem PySem.Spec PyProof.Rows L2 J
/-! ### rows of refusals -/
theorem Kd.ok {x : Exn} {kind : Str} {v : Int} (h : Kd x kind v) : okD (.str kind) = true := by
  cases h <;> decide +kernel
theorem Sq.d {d : D} {xs : List Int} (h : Sq d xs) : Sq d xs := h
theorem rw_lot_of {n : Int} {d o : D} {xs : List Int} {x : Exn} {kind : Str} {v : Int} (h : Sq d xs) (hk : Kd x kind v) (e : lotOfR n xs = .error x) : RowOk (.tup [.str "lot_of", .int n, d, o, .tup [.str kind, .int v]]) := by
  have e1 := e_lot_of h n
  rw [e] at e1
  exact ⟨_, _, _, _, kind, v, rfl, hk.ok, told_of hk (try_lot_of e1)⟩
theorem rw_all_lots {n : Int} {d o : D} (h : n < 0 ∨ 10 < n) : RowOk (.tup [.str "all_lots", .int n, d, o, .tup [.str "number", .int n]]) := by
  obtain ⟨E, e⟩ := e_all_lots_bad h
  exact ⟨_, _, _, _, "number", n, rfl, (Kd.n n).ok, told_of (Kd.n n) (try_all_lots e)⟩
/-- the names of the three calls with two lots -/
inductive Nm3 : Str → Prop
  | j : Nm3 "joined"
  | c : Nm3 "common"
  | w : Nm3 "without"
theorem rw_two {nm : Str} (hn : Nm3 nm) {n : Int} {d e : D} {xs ys : List Int} {x : Exn} {kind : Str} {v : Int} (h : Sq d xs) (k : Sq e ys) (hk : Kd x kind v) (he : twoR n xs ys = .error x) : RowOk (.tup [.str nm, .int n, d, e, .tup [.str kind, .int v]]) := by
  cases hn with
  | j =>
    have e1 := e_joined h k n
    rw [he] at e1
    exact ⟨_, _, _, _, kind, v, rfl, hk.ok, told_of hk (try_joined e1)⟩
  | c =>
    have e1 := e_common h k n
    rw [he] at e1
    exact ⟨_, _, _, _, kind, v, rfl, hk.ok, told_of hk (try_common e1)⟩
  | w =>
    have e1 := e_without h k n
    rw [he] at e1
    exact ⟨_, _, _, _, kind, v, rfl, hk.ok, told_of hk (try_without e1)⟩
theorem rw_cost_of {n : Int} {d e : D} {cs xs : List Int} {x : Exn} {kind : Str} {v : Int} (h : Sq d cs) (k : Sq e xs) (hk : Kd x kind v) (he : costOfR n cs xs = .error x) : RowOk (.tup [.str "cost_of", .int n, d, e, .tup [.str kind, .int v]]) := by
  have e1 := e_cost_of h k n
  rw [he] at e1
  exact ⟨_, _, _, _, kind, v, rfl, hk.ok, told_of hk (try_cost_of e1)⟩
theorem thR_bad {n : Int} (h : n < 0 ∨ 10 < n) : thR n = .error (xN n) := if_pos h
theorem find_first {p : Int → Bool} {a b : List Int} {x : Int} (ha : ∀ y ∈ a, p y = false) (hx : p x = true) : (a ++ x :: b).find? p = some x := by
  rw [List.find?_append, List.find?_eq_none.mpr (fun y hy => by rw [ha y hy]; decide), List.find?_cons_of_pos hx]; rfl
theorem lotR_bad {n x : Int} {a b : List Int} (hl : (a ++ x :: b).length ≤ 60) (ha : ∀ y ∈ a, 0 ≤ y ∧ y < n) (hx : x < 0 ∨ n ≤ x) : lotR n (a ++ x :: b) = .error (xT x) := by
  unfold lotR
  rw [if_neg (by omega), find_first (fun y hy => by have := ha y hy; simp [badT]; omega) (by simpa [badT] using hx)]
theorem lotR_61 (n x : Int) : lotR n (List.replicate 61 x) = .error (xS 61) := by
  unfold lotR
  rw [if_pos (by rw [List.length_replicate]; decide), List.length_replicate]; rfl
theorem two_n {n : Int} (h : n < 0 ∨ 10 < n) (xs ys : List Int) : twoR n xs ys = .error (xN n) := by unfold twoR; rw [thR_bad h]; rfl
theorem two_1 {n : Int} (h : 0 ≤ n ∧ n ≤ 10) {xs ys : List Int} {x : Exn} (e : lotR n xs = .error x) : twoR n xs ys = .error x := by unfold twoR; rw [thR_ok h, e]; rfl
theorem two_2 {n : Int} (h : 0 ≤ n ∧ n ≤ 10) {xs ys l : List Int} {x : Exn} (e0 : lotR n xs = .ok l) (e : lotR n ys = .error x) : twoR n xs ys = .error x := by unfold twoR; rw [thR_ok h, e0, e]; rfl
theorem lot_n {n : Int} (h : n < 0 ∨ 10 < n) (xs : List Int) : lotOfR n xs = .error (xN n) := by unfold lotOfR; rw [thR_bad h]; rfl
theorem lot_1 {n : Int} (h : 0 ≤ n ∧ n ≤ 10) {xs : List Int} {x : Exn} (e : lotR n xs = .error x) : lotOfR n xs = .error x := by unfold lotOfR; rw [thR_ok h, e]; rfl
theorem ix2 (a b : D) (i : Int) (h : 0 ≤ i) (h3 : i < 2) : ∃ x, gIx (.lst [a, b]) (.int i) = some x ∧ (x = a ∨ x = b) := by
  have : i = 0 ∨ i = 1 := by omega
  rcases this with rfl | rfl
  · exact ⟨a, rfl, by simp⟩
  · exact ⟨b, rfl, by simp⟩
theorem cut_suf (l : List D) (k : Nat) : J.cutD l (some (k : Nat)) none = l.drop k := by
  unfold J.cutD
  have h2 : HT.sIx l.length 0 (some (k : Nat)) = min k l.length := by unfold HT.sIx; simp; omega
  have h : HT.sIx l.length l.length none = l.length := rfl
  rw [h, h2]
  by_cases hk : k ≤ l.length
  · rw [Nat.min_eq_left hk]; exact List.take_of_length_le (by simp)
  · rw [Nat.min_eq_right (by omega)]; simp; omega
theorem iD_app (a b : List Int) : iD (a ++ b) = iD a ++ iD b := by simp [iD]
theorem iD_take (a : List Int) (k : Nat) : iD (a.take k) = (iD a).take k := by simp [iD]
theorem iD_drop (a : List Int) (k : Nat) : iD (a.drop k) = (iD a).drop k := by simp [iD]
theorem mul61 (x : Int) : gMul (.lst [.int x]) (.int 61) = some (.lst (iD (List.replicate 61 x))) := by
  rw [g_mulL _ _ ⟨by decide, by decide, by simp⟩]; rfl
end Lw

namespace Lw
open PySem PySem.Spec PyProof.Rows L2 J
theorem cuts (xs : List Int) (k : Nat) : ∃ t a b : List Int, J.cutD (iD xs) none (some 5) = iD t ∧ J.cutD (iD t) none (some (k : Int)) = iD a ∧ J.cutD (iD t) (some (k : Int)) none = iD b ∧ a.length + b.length ≤ 5 ∧ (∀ x ∈ a, x ∈ xs) ∧ (∀ x ∈ b, x ∈ xs) := by
  refine ⟨xs.take 5, (xs.take 5).take k, (xs.take 5).drop k, ?_, ?_, ?_, ?_, ?_, ?_⟩
  · rw [show (5 : Int) = ((5 : Nat) : Int) from rfl, cut_pre, iD_take]
  · rw [cut_pre, iD_take (List.take 5 xs)]
  · rw [cut_suf, iD_drop]
  · rw [← List.length_append, List.take_append_drop, List.length_take]; omega
  · exact fun x hx => List.mem_of_mem_take (List.mem_of_mem_take hx)
  · exact fun x hx => List.mem_of_mem_take (List.mem_of_mem_drop hx)
theorem p_bad_lots (ds : List Int) {n : Int} {xs : List Int} (hn : 0 ≤ n ∧ n ≤ 10) (xl : xs.length ≤ 60) (hm : ∀ x ∈ xs, 0 ≤ x ∧ x < n) :
    ∃ (ds' : List Int) (E : J.Env), F_L_bad_lots [.own true (iD ds), .val (.int n), .val (.lst (iD xs))] = .ok (.v (.bl true)) (.own true (iD ds') :: E) := by
  obtain ⟨odd, d1, E1, h1, ho⟩ := p_no_thing ds n 1 hn
  obtain ⟨k, hk⟩ : ∃ k : Nat, dig d1 6 2 = (k : Int) := ⟨(dig d1 6 2).toNat, (Int.toNat_of_nonneg (dig_nn _ _ (by decide))).symm⟩
  obtain ⟨odd2, d2, E2, h2, _⟩ := p_no_thing d1.dropLast n 0 hn
  have hs : 0 ≤ dig d2 12 0 := dig_nn _ _ (by decide)
  have hd : 0 ≤ dig d2.dropLast 2 0 ∧ dig d2.dropLast 2 0 < 2 := ⟨dig_nn _ _ (by decide), dig_lt _ _ (by decide)⟩
  obtain ⟨fa, hf, hfo⟩ := ix2 (.int (11 + dig d2 12 0)) (.int (-1 - dig d2 12 0)) (dig d2.dropLast 2 0) hd.1 hd.2
  obtain ⟨far, rfl, hfar⟩ : ∃ y, fa = .int y ∧ (y < 0 ∨ 10 < y) := by
    rcases hfo with rfl | rfl
    · exact ⟨_, rfl, .inr (by omega)⟩
    · exact ⟨_, rfl, .inl (by omega)⟩
  obtain ⟨t, a, b, c1, c2, c3, cl, ca, cb⟩ := cuts xs k
  have ga : gAdd (.lst (iD a)) (.lst [.int odd]) = some (.lst (iD (a ++ [odd]))) := by rw [g_addL _ _ (by simp; omega)]; simp [iD]
  have gb : gAdd (.lst (iD (a ++ [odd]))) (.lst (iD b)) = some (.lst (iD (a ++ odd :: b))) := by rw [g_addL _ _ (by simp; omega)]; simp [iD]
  obtain ⟨w, hw⟩ : ∃ w, a ++ odd :: (b ++ [odd2]) = w := ⟨_, rfl⟩
  have gw : iD (a ++ odd :: b) ++ [D.int odd2] = iD w := by rw [← hw]; simp [iD]
  have hw16 : (a ++ odd :: b).length < 16777216 := by simp; omega
  have hw17 : a.length + (b.length + 1) < 16777216 := by omega
  have rw' : lotR n w = .error (xT odd) := by rw [← hw]; exact lotR_bad (by simp; omega) (fun y hy => hm y (ca y hy)) ho
  obtain ⟨m61, hm61⟩ : ∃ l, List.replicate 61 odd = l := ⟨_, rfl⟩
  have gm : gMul (.lst [.int odd]) (.int 61) = some (.lst (iD m61)) := hm61 ▸ mul61 odd
  have r61 : lotR n m61 = .error (xS 61) := hm61 ▸ lotR_61 n odd
  have r1 : lotR n xs = .ok (sortU xs) := lotR_ok xl hm
  have q1 := eq_same (Fl.lst (Fls.ints 0 w)) (by decide)
  have q2 := eq_same (Fl.lst (Fls.ints 0 m61)) (by decide)
  try simp at hf
  simp [F_L_bad_lots, runF, f_L_bad_lots, ownsA, ndA, argS, backE, h1, hk, h2, hf, gCut, intP, listD, c1, c2, c3, ga, gb, gw, hw16, hw17, gm]
  generalize hF : forD _ _ _ _ = r
  obtain ⟨E', rfl, rows, c, hr, hl, rfl⟩ := use_for hF (fun i E => ∃ (rows : List D) (c : Sl), (∀ r ∈ rows, RowOk r) ∧ rows.length ≤ 4 + 5 * i ∧ E = [.own true (iD d2.dropLast.dropLast), .val (.int n), .val (.lst (iD xs)), .val (.int odd), .val (.int k), .val (.lst (iD w)), .val (.lst (iD m61)), .val (.int (dig d2 12 0)), .val (.int far), .own false rows, c, .no]) ⟨_, _, (by
      intro r hr
      simp at hr
      rcases hr with rfl | rfl | rfl | rfl
      · exact rw_lot_of (Sq.lst m61) (Kd.n far) (lot_n hfar _)
      · exact rw_all_lots hfar
      · exact rw_lot_of (Sq.lst m61) (Kd.s 61) (lot_1 hn r61)
      · exact rw_lot_of (Sq.lst w) (Kd.t odd) (lot_1 hn rw')), by simp, rfl⟩ (by
    rintro i hi E ⟨rows, c, hr, hl, rfl⟩
    have hi : i < 3 := by simpa using hi
    have l0 : rows.length < 16777216 := by omega
    have l1 : rows.length < 16777215 := by omega
    have l2 : rows.length < 16777214 := by omega
    have l3 : rows.length < 16777213 := by omega
    have l4 : rows.length < 16777212 := by omega
    have l1' : rows.length + 1 < 16777216 := by omega
    have l2' : rows.length + 1 + 1 < 16777216 := by omega
    have l3' : rows.length + 1 + 1 + 1 < 16777216 := by omega
    have l4' : rows.length + 1 + 1 + 1 + 1 < 16777216 := by omega
    obtain ⟨nm, hnm, hn3⟩ : ∃ nm, ([D.str "joined", D.str "common", D.str "without"] : List D)[i]'hi = .str nm ∧ Nm3 nm := by
      match i, hi with
      | 0, _ => exact ⟨_, rfl, .j⟩
      | 1, _ => exact ⟨_, rfl, .c⟩
      | 2, _ => exact ⟨_, rfl, .w⟩
    simp only [hnm]
    simp [stF, l0, l1, l2, l3, l4, l1', l2', l3', l4']
    refine ⟨?_, ?_⟩
    · intro r hr2
      try simp at hr2
      rcases hr2 with h | rfl | rfl | rfl | rfl | rfl
      · exact hr r h
      · exact rw_two hn3 (Sq.lst w) (Sq.lst m61) (Kd.n far) (two_n hfar _ _)
      · exact rw_two hn3 (Sq.lst w) (Sq.lst m61) (Kd.t odd) (two_1 hn rw')
      · exact rw_two hn3 (Sq.lst m61) (Sq.lst w) (Kd.s 61) (two_1 hn r61)
      · exact rw_two hn3 (Sq.lst xs) (Sq.lst w) (Kd.t odd) (two_2 hn r1 rw')
      · exact rw_two hn3 (Sq.lst xs) (Sq.tu m61) (Kd.s 61) (two_2 hn r1 r61)
    · try simp
      omega)
  obtain ⟨E6, e6⟩ := p_all_refused hr
  simp [ownsA, ndA, argS, backE, e6, q1, q2, gm]
  exact ⟨_, rfl⟩
end Lw

namespace J
open PySem PySem.Spec PyProof.Rows L2
@[simp] theorem u_sSetCut (E : J.Env) (i : Nat) (fl fh : J.Env → Option (Option Int)) (fa : J.Env → R D) : sSetCut i fl fh fa E = (fa E).bindS fun d E => match d, E[i]? with
  | .lst ys, some (.own b l) => (match (fl E).bind fun x => (fh E).bind fun y => cutB x y l.length with
    | some (a, c) => if l.length + ys.length ≤ 16777216 then .nx (E.set i (.own b (l.take a ++ ys ++ l.drop c))) else .stuck
    | none => .stuck)
  | _, _ => .stuck := rfl
@[simp] theorem g_max2 (i j : Int) : gMax2 (.int i) (.int j) = some (.int (if j > i then j else i)) := rfl
end J
namespace Lw
open PySem PySem.Spec PyProof.Rows L2 J
theorem cost_n {n : Int} (h : n < 0 ∨ 10 < n) (cs xs : List Int) : costOfR n cs xs = .error (xN n) := by unfold costOfR; rw [thR_bad h]; rfl
theorem cost_1 {n : Int} (h : 0 ≤ n ∧ n ≤ 10) {cs xs : List Int} {x : Exn} (e : costsR n cs = .error x) : costOfR n cs xs = .error x := by unfold costOfR; rw [thR_ok h, e]; rfl
theorem cost_2 {n : Int} (h : 0 ≤ n ∧ n ≤ 10) {cs xs l : List Int} {x : Exn} (e0 : costsR n cs = .ok l) (e : lotR n xs = .error x) : costOfR n cs xs = .error x := by unfold costOfR; rw [thR_ok h, e0, e]; rfl
theorem costs_len {n m : Int} {cs : List Int} (h : (cs.length : Int) = m) (k : m ≠ n) : costsR n cs = .error (xS m) := by
  subst h
  unfold costsR
  rw [if_pos k]
theorem costs_bad {n x : Int} {a b : List Int} (hl : ((a ++ x :: b).length : Int) = n) (ha : ∀ y ∈ a, -1000000 ≤ y ∧ y ≤ 1000000) (hx : x < -1000000 ∨ 1000000 < x) : costsR n (a ++ x :: b) = .error (xN x) := by
  unfold costsR
  rw [if_neg (by omega), find_first (fun y hy => by have := ha y hy; simp [badC]; omega) (by simpa [badC] using hx)]
theorem lc_const (x : Int) {E : J.Env} {vs : List Nat} {g : D → J.Env → Option J.Env} {f : J.Env → J.R D} (hE : wipeE vs E = E) (cs : List Int) (hc : cs.length ≤ 1000) (h : ∀ c, ∃ E1 E2, g (.int c) E = some E1 ∧ f E1 = .ok (.int x) E2 ∧ wipeE vs E2 = E) : lcD vs g fYes f (iD cs) [] E = .ok (iD (List.replicate cs.length x)) E := by
  have e := lc_fm (vs := vs) (g := g) (t := fYes) (f := f) (E := E) (fun _ => true) (fun _ => .int x) hE cs [] (fun c _ => by
    obtain ⟨E1, E2, h1, h2, h3⟩ := h c
    refine ⟨E1, ?_, fun h => (by cases h), fun _ => ⟨E2, h2, h3⟩⟩
    unfold stL; rw [h1]; rfl) (by rw [List.length_nil]; omega)
  rw [e, List.filter_eq_self.mpr (fun _ _ => rfl), List.nil_append]
  have : cs.map (fun _ => D.int x) = iD (List.replicate cs.length x) := by
    unfold iD
    rw [List.map_replicate, List.eq_replicate_iff]
    simp
  rw [this]
theorem use_const {vs : List Nat} {g : D → J.Env → Option J.Env} {f : J.Env → J.R D} {E : J.Env} {cs : List Int} {r : J.R (List D)} (hF : lcD vs g fYes f (iD cs) [] E = r) (x : Int) (hE : wipeE vs E = E) (hc : cs.length ≤ 1000) (h : ∀ c, ∃ E1 E2, g (.int c) E = some E1 ∧ f E1 = .ok (.int x) E2 ∧ wipeE vs E2 = E) : r = .ok (iD (List.replicate cs.length x)) E := by
  rw [← hF]; exact lc_const x hE cs hc h
theorem cutB_pre (k m : Nat) (h : k ≤ m) : J.cutB none (some (k : Int)) m = some (0, k) := by
  have e : sliceBounds none (some (k : Int)) none m = ((0 : Int), (k : Int), 1) := by
    unfold sliceBounds
    simp
    omega
  unfold J.cutB
  rw [e]
  simp [h]
theorem set_rep (v x : D) (m k : Nat) (h : k < m) : (List.replicate m v).set k x = List.replicate k v ++ x :: List.replicate (m - (k + 1)) v := by
  rw [List.set_eq_take_append_cons_drop, if_pos (by simpa using h), List.take_replicate, List.drop_replicate, Nat.min_eq_left (by omega)]
theorem p_bad_costs (ds : List Int) {n : Int} {cs xs : List Int} (hn : 0 ≤ n ∧ n ≤ 10) (hl : (cs.length : Int) = n) (hc : ∀ x ∈ cs, -1000000 ≤ x ∧ x ≤ 1000000) (xl : xs.length ≤ 60) (hm : ∀ x ∈ xs, 0 ≤ x ∧ x < n) :
    ∃ (ds' : List Int) (E : J.Env), F_L_bad_costs [.own true (iD ds), .val (.int n), .val (.lst (iD cs)), .val (.lst (iD xs))] = .ok (.v (.bl true)) (.own true (iD ds') :: E) := by
  obtain ⟨odd, d1, E1, h1, ho⟩ := p_no_thing ds n 2 hn
  obtain ⟨st, hst⟩ : ∃ st, dig d1 12 0 = st := ⟨_, rfl⟩
  have hs : 0 ≤ st ∧ st < 12 := by subst hst; exact ⟨dig_nn _ _ (by decide), dig_lt _ _ (by decide)⟩
  have hd : 0 ≤ dig d1.dropLast 2 1 ∧ dig d1.dropLast 2 1 < 2 := ⟨dig_nn _ _ (by decide), dig_lt _ _ (by decide)⟩
  have hp : gPow (.int 10) (.int 6) = some (.int 1000000) := g_pow 10 6 (by decide)
  obtain ⟨fa, hf, hfo⟩ := ix2 (.int (1000000 + 1 + st)) (.int (-1 - 1000000 - st)) (dig d1.dropLast 2 1) hd.1 hd.2
  obtain ⟨far, rfl, hfar, hbig⟩ : ∃ y, fa = .int y ∧ (y < -1000000 ∨ 1000000 < y) ∧ y.natAbs < 1000100 := by
    rcases hfo with rfl | rfl
    · exact ⟨_, rfl, .inr (by omega), by omega⟩
    · exact ⟨_, rfl, .inl (by omega), by omega⟩
  obtain ⟨mx, hmx⟩ : ∃ mx, (if n > 1 then n else 1) = mx := ⟨_, rfl⟩
  have hmx0 : 0 < mx := by subst hmx; split <;> omega
  have hmx' : (if 1 < n then n else 1) = mx := hmx
  obtain ⟨k, hk⟩ : ∃ k : Nat, dig d1.dropLast.dropLast mx 1 = (k : Int) := ⟨(dig d1.dropLast.dropLast mx 1).toNat, (Int.toNat_of_nonneg (dig_nn _ _ hmx0)).symm⟩
  have hk2 : 0 < n → (k : Int) < n := fun h => by
    have h2 := dig_lt d1.dropLast.dropLast (m := mx) 1 hmx0
    rw [hk] at h2
    subst hmx; split at h2 <;> omega
  have r1 : lotR n xs = .ok (sortU xs) := lotR_ok xl hm
  have rc : costsR n cs = .ok cs := costsR_ok hl hc
  have gmore : gAdd (.lst (iD cs)) (.lst [.int far]) = some (.lst (iD (cs ++ [far]))) := by rw [g_addL _ _ (by simp; omega)]; simp [iD]
  have c3 : J.cutD (iD xs) none (some 3) = iD (xs.take 3) := by rw [show (3 : Int) = ((3 : Nat) : Int) from rfl, cut_pre, iD_take]
  have g3 : gAdd (.lst (iD (xs.take 3))) (.lst [.int odd]) = some (.lst (iD (xs.take 3 ++ [odd]))) := by rw [g_addL _ _ (by simp; omega)]; simp [iD]
  obtain ⟨x3, hx3⟩ : ∃ x3, xs.take 3 = x3 := ⟨_, rfl⟩
  have hx3l : x3.length ≤ 3 := by subst hx3; rw [List.length_take]; omega
  have hx3m : ∀ x ∈ x3, 0 ≤ x ∧ x < n := fun x hx => hm x (List.mem_of_mem_take (hx3 ▸ hx))
  rw [hx3] at c3 g3
  have r3 : lotR n (x3 ++ [odd]) = .error (xT odd) := lotR_bad (by simp; omega) hx3m ho
  obtain ⟨m61, hm61⟩ : ∃ l, List.replicate 61 odd = l := ⟨_, rfl⟩
  have gm : gMul (.lst [.int odd]) (.int 61) = some (.lst (iD m61)) := hm61 ▸ mul61 odd
  have r61 : lotR n m61 = .error (xS 61) := hm61 ▸ lotR_61 n odd
  have q1 := eq_same (Fl.lst (Fls.ints 0 cs)) (by decide)
  have g7 : gMul (.int (-7)) (.int far) = some (.int (-7 * far)) := g_mul _ _ (by decide) (by omega)
  have bad11 : 11 + st < 0 ∨ 10 < 11 + st := .inr (by omega)
  have badm : -1 - st < 0 ∨ 10 < -1 - st := .inl (by omega)
  have w1 : RowOk (.tup [.str "cost_of", .int (11 + st), .lst [.int far], .lst [.int odd], .tup [.str "number", .int (11 + st)]]) := rw_cost_of (Sq.lst [far]) (Sq.lst [odd]) (Kd.n _) (cost_n bad11 _ _)
  have w2 : RowOk (.tup [.str "cost_of", .int (-1 - st), .lst [.int far], .lst [.int odd], .tup [.str "number", .int (-1 - st)]]) := rw_cost_of (Sq.lst [far]) (Sq.lst [odd]) (Kd.n _) (cost_n badm _ _)
  have w3 : RowOk (.tup [.str "cost_of", .int n, .lst (iD (cs ++ [far])), .lst [.int odd], .tup [.str "size", .int (n + 1)]]) := rw_cost_of (Sq.lst _) (Sq.lst [odd]) (Kd.s _) (cost_1 hn (costs_len (by simp; omega) (by omega)))
  have w4 : RowOk (.tup [.str "cost_of", .int n, .lst (iD cs), .lst (iD (x3 ++ [odd])), .tup [.str "thing", .int odd]]) := rw_cost_of (Sq.lst _) (Sq.lst _) (Kd.t _) (cost_2 hn rc r3)
  have w5 : RowOk (.tup [.str "cost_of", .int n, .lst (iD cs), .lst (iD m61), .tup [.str "size", .int 61]]) := rw_cost_of (Sq.lst _) (Sq.lst _) (Kd.s _) (cost_2 hn rc r61)
  by_cases h0 : 0 < n
  · obtain ⟨less, hless⟩ : ∃ l, cs.drop 1 = l := ⟨_, rfl⟩
    have cless : J.cutD (iD cs) (some 1) none = iD less := by rw [← hless, show (1 : Int) = ((1 : Nat) : Int) from rfl, cut_suf, iD_drop]
    have w6 : RowOk (.tup [.str "cost_of", .int n, .lst (iD less), .lst [.int odd], .tup [.str "size", .int (n - 1)]]) := rw_cost_of (Sq.lst _) (Sq.lst [odd]) (Kd.s _) (cost_1 hn (costs_len (by rw [← hless, List.length_drop]; omega) (by omega)))
    have hkl : k < cs.length := by have := hk2 h0; omega
    have hix : ixN cs.length (k : Int) = some k := by unfold ixN; rw [if_pos (by omega), if_pos (by omega)]; rfl
    have ccut : J.cutD (iD cs) none (some (k : Int)) = iD (cs.take k) := by rw [cut_pre, iD_take]
    obtain ⟨w, hw⟩ : ∃ w, cs.take k ++ far :: List.replicate (cs.length - (k + 1)) (-7 * far) = w := ⟨_, rfl⟩
    have hcb : J.cutB none (some (k : Int)) cs.length = some (0, k) := cutB_pre k _ (by omega)
    have hset : iD (cs.take k) ++ ((iD (List.replicate cs.length (-7 * far))).set k (.int far)).drop k = iD w := by
      have : iD (List.replicate cs.length (-7 * far)) = List.replicate cs.length (.int (-7 * far)) := by simp [iD]
      rw [this, set_rep _ _ _ _ hkl, List.drop_left' (by simp), ← hw]
      simp [iD]
    have htk : (cs.take k).length = k := by rw [List.length_take]; omega
    have hsz : cs.length + k ≤ 16777216 := by omega
    have w7 : RowOk (.tup [.str "cost_of", .int n, .lst (iD w), .lst [.int odd], .tup [.str "number", .int far]]) := rw_cost_of (Sq.lst _) (Sq.lst [odd]) (Kd.n _) (cost_1 hn (by
      rw [← hw]; exact costs_bad (by simp; omega) (fun y hy => hc y (List.mem_of_mem_take hy)) hfar))
    have w8 : RowOk (.tup [.str "cost_of", .int n, .tup (iD w), .lst [], .tup [.str "number", .int far]]) := rw_cost_of (Sq.tu _) (Sq.lst []) (Kd.n _) (cost_1 hn (by
      rw [← hw]; exact costs_bad (by simp; omega) (fun y hy => hc y (List.mem_of_mem_take hy)) hfar))
    try simp at hf
    generalize hps : List.take k cs = ps at *
    simp [F_L_bad_costs, runF, f_L_bad_costs, ownsA, ndA, argS, backE, h1, hst, hf, hp, hmx', hmx0, hk, gCut, intP, listD, c3, gmore, g3, gm, h0, cless]
    generalize hF : lcD _ _ _ _ _ _ _ = r
    obtain rfl := use_const hF (-7 * far) rfl (by omega) (fun c => ⟨_, _, rfl, by simp [g7]; rfl, rfl⟩)
    simp [ownsA, ndA, argS, backE, gCut, intP, listD, hix, hcb, ccut, hsz, htk, hset]
    generalize hG : F_L_all_refused _ = r
    have h6 : ∃ E, r = .ok (.v (.bl true)) E := by
      rw [← hG]
      refine p_all_refused fun r hr => ?_
      simp at hr
      rcases hr with rfl | rfl | rfl | rfl | rfl | rfl | rfl | rfl
      · exact w1
      · exact w2
      · exact w3
      · exact w4
      · exact w5
      · exact w6
      · exact w7
      · exact w8
    obtain ⟨E6, rfl⟩ := h6
    simp [ownsA, ndA, argS, backE, q1]
    exact ⟨_, rfl⟩
  · try simp at hf
    simp [F_L_bad_costs, runF, f_L_bad_costs, ownsA, ndA, argS, backE, h1, hst, hf, hp, hmx', hmx0, hk, gCut, intP, listD, c3, gmore, g3, gm, h0]
    generalize hG : F_L_all_refused _ = r
    have h6 : ∃ E, r = .ok (.v (.bl true)) E := by
      rw [← hG]
      refine p_all_refused fun r hr => ?_
      simp at hr
      rcases hr with rfl | rfl | rfl | rfl | rfl
      · exact w1
      · exact w2
      · exact w3
      · exact w4
      · exact w5
    obtain ⟨E6, rfl⟩ := h6
    simp [ownsA, ndA, argS, backE, q1]
    exact ⟨_, rfl⟩
end Lw

namespace Lw
open PySem PySem.Spec PyProof.Rows L2 J
/-! ### all lots -/
theorem p_ascending {n : Int} {xs : List Int} (hp : xs.Pairwise (· < ·)) (hm : ∀ x ∈ xs, 0 ≤ x ∧ x < n) : ∃ E, F_L_ascending [.val (.tup (iD xs)), .val (.int n)] = .ok (.v (.bl true)) E := by
  simp [F_L_ascending, runF, f_L_ascending]
  generalize hF : forD _ _ _ _ = r
  obtain ⟨E', rfl, l, c, hl, rfl⟩ := use_for hF (fun i E => ∃ (l : Int) (c : Sl), (∀ j (h : j < xs.length), i ≤ j → l ≤ xs[j]) ∧ E = [.val (.tup (iD xs)), .val (.int n), .val (.int l), c]) ⟨0, .no, fun j h _ => (hm _ (List.getElem_mem h)).1, rfl⟩ (by
    rintro i hi E ⟨l, c, h1, rfl⟩
    have hi : i < xs.length := by simpa using hi
    have e : (iD xs)[i]'(by simpa using hi) = .int xs[i] := by simp [iD]
    have h2 := h1 i hi (Nat.le_refl _)
    have h3 := (hm _ (List.getElem_mem hi)).2
    rw [e]
    simp [stF, ownsA, ndA, argS, backE, h2, h3]
    intro j hj hij
    have := List.pairwise_iff_getElem.mp hp i j hi hj (by omega)
    omega)
  simp
/-- length and things of the lot that m stands for -/
def lt (m : Int) : D := .tup (iD (lotM m))
def cur (m : Int) : D := .tup [.int ((lotM m).length : Nat), lt m]
def b0 : D := .tup [.int (-1), .tup []]
def nle (a b : D) : Bool := match gLeP a b with
  | some (.bl false) => true
  | _ => false
def chk : List Int → D → Bool
  | [], _ => true
  | m :: ms, b => nle (cur m) b && chk ms (cur m)
theorem nle_is {a b : D} (h : nle a b = true) : gLeP a b = some (.bl false) := by
  unfold nle at h
  split at h
  · assumption
  · cases h
def bef (ord : List Int) : Nat → D
  | 0 => b0
  | i + 1 => cur (ord[i]?.getD 0)
theorem chk_get : ∀ (ord : List Int) (b : D), chk ord b = true → ∀ i, i < ord.length → gLeP (cur (ord[i]?.getD 0)) (match i with | 0 => b | i + 1 => cur (ord[i]?.getD 0)) = some (.bl false)
  | [], _, _, i, h => by simp at h
  | m :: ms, b, hc, i, hi => by
    unfold chk at hc
    have hc := Bool.and_eq_true_iff.mp hc
    cases i with
    | zero => exact nle_is hc.1
    | succ i =>
      have ih := chk_get ms (cur m) hc.2 i (by simpa using hi)
      cases i with
      | zero => simpa using ih
      | succ i => simpa using ih
theorem p_L_all {n : Int} {ord : List Int} {L : List D} {E0 : J.Env} (hn : 0 ≤ n ∧ n ≤ 10) (hF : F_all_lots [.val (.int n)] = .ok (.l L) E0) (hL : L = ord.map lt) (hlen : (ord.length : Int) = 2 ^ n.toNat) (hk : ord.length ≤ 1024) (h0 : 0 < ord.length) (hc : chk ord b0 = true) (hlow : ∀ m ∈ ord, low m n.toNat) :
    ∃ E, F_L_all_lots [.val (.int n)] = .ok (.v (.bl true)) E := by
  have hLl : L.length = ord.length := by rw [hL, List.length_map]
  have hlen2 : (L.length : Int) = 2 ^ n.toNat := by rw [hLl]; exact hlen
  have hlen3 : (((L.length : Nat) : Int) = 2 ^ n.toNat) = True := eq_true hlen2
  have hix : ∀ i : Nat, i < ord.length → gIx (.lst L) (.int (i : Nat)) = some (lt (ord[i]?.getD 0)) := fun i hi => by
    show L2.atI L _ = _
    unfold L2.atI
    have : ixN L.length (i : Int) = some i := by unfold ixN; rw [if_pos (by omega), if_pos (by omega)]; rfl
    rw [this]
    show L[i]? = _
    rw [hL, List.getElem?_map, List.getElem?_eq_getElem hi]; rfl
  have hasc : ∀ i : Nat, i < ord.length → ∃ E, F_L_ascending [.val (lt (ord[i]?.getD 0)), .val (.int n)] = .ok (.v (.bl true)) E := fun i hi => by
    have hm : ord[i]?.getD 0 ∈ ord := by rw [List.getElem?_eq_getElem hi]; exact List.getElem_mem hi
    have hlw := hlow _ hm
    exact p_ascending (pw_lotM _) fun x hx => by
      have h1 := (mem_lotM hlw.1).mp hx
      have h2 := bit_big hlw.1 hlw.2 h1.2
      omega
  have hle : ∀ i : Nat, i < ord.length → gLeP (cur (ord[i]?.getD 0)) (bef ord i) = some (.bl false) := fun i hi => by
    have := chk_get ord b0 hc i hi
    cases i <;> exact this
  have hs : smI (L.length : Int) = true := smI_nat (by omega)
  have hsh : gShl (.int 1) (.int n) = some (.int (2 ^ n.toNat)) := g_shl1 (by omega)
  have hpos : 0 < L.length := by omega
  have hrl : L.reverse[L.length - 1]? = some (L[0]'hpos) := by
    rw [List.getElem?_reverse (by omega)]
    have : L.length - 1 - (L.length - 1) = 0 := by omega
    rw [this, List.getElem?_eq_getElem hpos]
  simp [F_L_all_lots, runF, f_L_all_lots, show smI 2 = true from rfl]
  generalize hR : forD _ _ _ _ = r
  obtain ⟨E', rfl, c1, c2, c3, c4, c5, rfl⟩ := use_for hR (fun i E => ∃ c1 c2 c3 c4 c5 : Sl, E = [.val (.int n), c1, c2, c3, c4, c5]) ⟨.no, .no, .no, .no, .no, rfl⟩ (by
    rintro i hi E ⟨c1, c2, c3, c4, c5, rfl⟩
    simp [stF, ownsA, ndA, argS, backE, hF, hlen3, hsh, hs]
    generalize hI : forD _ _ _ _ = r
    obtain ⟨E', rfl, c4, c5, rfl⟩ := use_for hI (fun k E => ∃ c4 c5 : Sl, E = [.val (.int n), .val (.int (i : Nat)), .own false L, .val (bef ord k), c4, c5]) ⟨_, _, rfl⟩ (by
      rintro k hk E ⟨c4, c5, rfl⟩
      have hk : k < ord.length := by simpa [hLl] using hk
      obtain ⟨Ea, ea⟩ := hasc k hk
      have g1 := hix k hk
      have g2 := hle k hk
      have hb : bef ord (k + 1) = cur (ord[k]?.getD 0) := rfl
      obtain ⟨x, hx⟩ : ∃ x, ord[k]?.getD 0 = x := ⟨_, rfl⟩
      rw [hx] at ea g1 g2 hb
      have g2 : gLeP (.tup [.int ((lotM x).length : Nat), lt x]) (bef ord k) = some (.bl false) := g2
      have g3 : gLen (lt x) = some (.int ((lotM x).length : Nat)) := by unfold lt; simp
      rw [hb]
      simp [stF, ownsA, ndA, argS, backE, ea, g1, g2, g3]
      rfl)
    simp [hrl])
  simp
theorem e_all_lots {n : Int} {ord : List Int} {E : J.Env} (hn : 0 ≤ n ∧ n ≤ 10) (hM : F_masks_in_order [.val (.int n)] = .ok (.v (.lst (iD ord))) E) (hk : ord.length ≤ 1024) (hlow : ∀ m ∈ ord, low m 60) : ∃ E', F_all_lots [.val (.int n)] = .ok (.l (ord.map lt)) E' := by
  have hn2 : ¬ (n < 0 ∨ 10 < n) := by omega
  simp [F_all_lots, runF, f_all_lots, ownsA, ndA, argS, backE, hn2, hM]
  generalize hF : lcD _ _ _ _ _ _ _ = r
  rw [lc_fm (vs := [1]) (E := [.val (.int n), .no]) (fun _ => true) lt rfl ord [] (fun x hx => ⟨_, rfl, fun h => (by cases h), fun _ => ⟨_, by
    have e := e_lot_of_mask (hlow x hx)
    simp [ownsA, ndA, argS, backE, e]
    exact ⟨rfl, rfl⟩, rfl⟩⟩) (by simp; omega)] at hF
  subst hF
  simp [List.filter_eq_self.mpr]
def okM (n : Int) : Bool := match F_masks_in_order [.val (.int n)] with
  | .ok (.v (.lst l)) _ => (match intsD l with
    | some o => decide ((o.length : Int) = 2 ^ n.toNat) && decide (o.length ≤ 1024) && decide (0 < o.length) && chk o b0 && o.all fun m => decide (0 ≤ m) && decide (m < 2 ^ n.toNat)
    | none => false)
  | _ => false
theorem p_all_of {n : Int} (hn : 0 ≤ n ∧ n ≤ 10) (h : okM n = true) : ∃ E, F_L_all_lots [.val (.int n)] = .ok (.v (.bl true)) E := by
  unfold okM at h
  split at h
  · rename_i l E e
    split at h
    · rename_i o eo
      obtain rfl : l = iD o := intsD_eq eo
      simp only [Bool.and_eq_true, decide_eq_true_eq, List.all_eq_true] at h
      obtain ⟨⟨⟨⟨h1, h2⟩, h3⟩, h4⟩, h5⟩ := h
      have hl : ∀ m ∈ o, low m n.toNat := fun m hm => h5 m hm
      obtain ⟨E', e'⟩ := e_all_lots hn e h2 fun m hm => low_le (hl m hm) (by omega)
      exact p_L_all hn e' rfl h1 h2 h3 h4 hl
    · cases h
  · cases h
theorem okM_0 : okM 0 = true := by decide +kernel
theorem okM_1 : okM 1 = true := by decide +kernel
theorem okM_2 : okM 2 = true := by decide +kernel
theorem okM_3 : okM 3 = true := by decide +kernel
theorem okM_4 : okM 4 = true := by decide +kernel
theorem okM_5 : okM 5 = true := by decide +kernel
theorem okM_6 : okM 6 = true := by decide +kernel
theorem okM_10 : okM 10 = true := by decide +kernel
theorem p_all_n {n : Int} (h : n = 0 ∨ n = 1 ∨ n = 2 ∨ n = 3 ∨ n = 4 ∨ n = 5 ∨ n = 6 ∨ n = 10) : ∃ E, F_L_all_lots [.val (.int n)] = .ok (.v (.bl true)) E := by
  rcases h with rfl | rfl | rfl | rfl | rfl | rfl | rfl | rfl
  · exact p_all_of (by decide) okM_0
  · exact p_all_of (by decide) okM_1
  · exact p_all_of (by decide) okM_2
  · exact p_all_of (by decide) okM_3
  · exact p_all_of (by decide) okM_4
  · exact p_all_of (by decide) okM_5
  · exact p_all_of (by decide) okM_6
  · exact p_all_of (by decide) okM_10
end Lw

namespace Lw
open PySem PySem.Spec PyProof.Rows L2 J
theorem ix12 (i : Int) (h : 0 ≤ i) (h3 : i < 12) : ∃ n, gIx (.lst [.int 4, .int 0, .int 1, .int 2, .int 3, .int 5, .int 6, .int 6, .int 10, .int 3, .int 4, .int 5]) (.int i) = some (.int n) ∧ (n = 0 ∨ n = 1 ∨ n = 2 ∨ n = 3 ∨ n = 4 ∨ n = 5 ∨ n = 6 ∨ n = 10) := by
  have : i = 0 ∨ i = 1 ∨ i = 2 ∨ i = 3 ∨ i = 4 ∨ i = 5 ∨ i = 6 ∨ i = 7 ∨ i = 8 ∨ i = 9 ∨ i = 10 ∨ i = 11 := by omega
  rcases this with rfl | rfl | rfl | rfl | rfl | rfl | rfl | rfl | rfl | rfl | rfl | rfl
  all_goals exact ⟨_, rfl, by decide⟩
theorem pure_law : ∀ ns : List Int, ns.length ≤ 63 → ∃ E', F_law [.val (.rol (ns.map D.int))] = .ok (.v (.bl true)) E' := by
  intro ns hns
  obtain ⟨ds, E1, h1, _, _⟩ := p_tape ns
  have h1 : F_L_tape [.val (.rol (ns.map D.int))] = .ok (.l (iD ds)) E1 := h1
  obtain ⟨n, hn, hn8⟩ := ix12 (dig ds 12 0) (dig_nn _ _ (by decide)) (dig_lt _ _ (by decide))
  have hn10 : 0 ≤ n ∧ n ≤ 10 := by omega
  obtain ⟨xs, d1, E2, h2, xl, xm⟩ := p_entries ds.dropLast n 2 hn10
  obtain ⟨ys, d2, E3, h3, yl, ym⟩ := p_entries d1 n 3 hn10
  have hs : smI n = true := smI_small (by omega)
  obtain ⟨E4, h4⟩ := p_all_n hn8
  have gp : gPow (.int 10) (.int 6) = some (.int 1000000) := g_pow 10 6 (by decide)
  try simp at hn
  simp [F_law, runF, f_law, ownsA, ndA, argS, backE, h1, hn, h2, h3, hs]
  generalize hF : lcD _ _ _ _ _ _ _ = r
  obtain ⟨acc, E', rfl, d3, cs, rfl, cl, cm, rfl⟩ := use_lc hF (fun i acc E => ∃ (d3 cs : List Int), acc = iD cs ∧ cs.length = i ∧ (∀ c ∈ cs, -4 ≤ c ∧ c ≤ 7) ∧ E = [.val (.rol (ns.map D.int)), .own false (iD d3), .val (.int n), .val (.lst (iD xs)), .val (.lst (iD ys)), .no, .no, .no]) ⟨d2, [], rfl, rfl, by simp, rfl⟩ (by
    rintro i hi acc E ⟨d3, cs, rfl, cl, cm, rfl⟩
    have hi : i < n.toNat := by simpa using hi
    have g5 : gMul (.int 5) (.int (i : Nat)) = some (.int (5 * (i : Nat))) := g_mul _ _ (by decide) (by simp; omega)
    have hd : 0 ≤ dig d3 12 (5 * (i : Nat) + 2) ∧ dig d3 12 (5 * (i : Nat) + 2) < 12 := ⟨dig_nn _ _ (by decide), dig_lt _ _ (by decide)⟩
    have hl : cs.length < 16777216 := by omega
    refine ⟨true, [.val (.rol (ns.map D.int)), .own false (iD d3), .val (.int n), .val (.lst (iD xs)), .val (.lst (iD ys)), .no, .no, .val (.int (i : Nat))], ?_, fun _ => ⟨.int (dig d3 12 (5 * (i : Nat) + 2) - 4), [.val (.rol (ns.map D.int)), .own false (iD d3.dropLast), .val (.int n), .val (.lst (iD xs)), .val (.lst (iD ys)), .no, .no, .val (.int (i : Nat))], ?_, by rw [iD_len]; exact hl, d3.dropLast, cs ++ [dig d3 12 (5 * (i : Nat) + 2) - 4], by simp [iD], by simp; omega, ?_, rfl⟩, fun h => (by cases h)⟩
    · simp [stL, wipeE]
    · simp [ownsA, ndA, argS, backE, g5]
    intro c hc
    rcases List.mem_append.mp hc with h | h
    · exact cm c h
    · obtain rfl := List.mem_singleton.mp h
      omega)
  simp at cl
  have hx : 0 ≤ dig d3 12 1 := dig_nn _ _ (by decide)
  obtain ⟨x, hxe⟩ : ∃ x, dig d3 12 1 = x := ⟨_, rfl⟩
  rw [hxe] at hx
  have cl2 : (cs.length : Int) = n := by omega
  have rest : ∀ (d : List Int) (cs : List Int), (cs.length : Int) = n → (∀ c ∈ cs, -1000000 ≤ c ∧ c ≤ 1000000) → True := fun _ _ _ _ => trivial
  have cm2 : ∀ c ∈ cs, -1000000 ≤ c ∧ c ≤ 1000000 := fun c hc => by have := cm c hc; omega
  by_cases hlt : x < n
  · have hd : 0 ≤ dig d3.dropLast 2 0 ∧ dig d3.dropLast 2 0 < 2 := ⟨dig_nn _ _ (by decide), dig_lt _ _ (by decide)⟩
    obtain ⟨v, hv, hvo⟩ := ix2 (.int (-1000000)) (.int 1000000) (dig d3.dropLast 2 0) hd.1 hd.2
    obtain ⟨y, rfl, hy⟩ : ∃ y, v = .int y ∧ -1000000 ≤ y ∧ y ≤ 1000000 := by
      rcases hvo with rfl | rfl
      · exact ⟨_, rfl, by decide, by decide⟩
      · exact ⟨_, rfl, by decide, by decide⟩
    have hix : ixN cs.length x = some x.toNat := by unfold ixN; rw [if_pos hx, if_pos (by omega)]
    obtain ⟨c2, hc2⟩ : ∃ c2, cs.set x.toNat y = c2 := ⟨_, rfl⟩
    have hset : (iD cs).set x.toNat (.int y) = iD c2 := by rw [← hc2]; simp [iD]
    have cl3 : (c2.length : Int) = n := by rw [← hc2, List.length_set]; exact cl2
    have cm3 : ∀ c ∈ c2, -1000000 ≤ c ∧ c ≤ 1000000 := fun c hc => by
      rw [← hc2] at hc
      rcases List.mem_or_eq_of_mem_set hc with h | rfl
      · exact cm2 c h
      · exact hy
    obtain ⟨E5, h5⟩ := p_good hn10 cl3 cm3 xl xm yl ym
    obtain ⟨d4, E6, h6⟩ := p_bad_lots d3.dropLast.dropLast hn10 xl xm
    obtain ⟨d5, E7, h7⟩ := p_bad_costs d4 hn10 cl3 cm3 yl ym
    try simp at hv
    simp [ownsA, ndA, argS, backE, hxe, hlt, gp, hv, hix, hset, h4, h5, h6, h7]
  · obtain ⟨E5, h5⟩ := p_good hn10 cl2 cm2 xl xm yl ym
    obtain ⟨d4, E6, h6⟩ := p_bad_lots d3.dropLast hn10 xl xm
    obtain ⟨d5, E7, h7⟩ := p_bad_costs d4 hn10 cl2 cm2 yl ym
    simp [ownsA, ndA, argS, backE, hxe, hlt, h4, h5, h6, h7]
end Lw

namespace Lw
open PySem PySem.Spec PyProof.Rows L2 J
end Lw
namespace J
open PySem PySem.Spec PyProof.Rows L2
/-! ### the end -/
theorem law_sp {K : PySem.W.Frag} (hp : ∀ ns : List Int, ns.length ≤ 63 → ∃ E', Lw.F_law [.val (.rol (ns.map D.int))] = .ok (.v (.bl true)) E') (H : Hp) (a : Addr) (ns : List Int) (hl : ns.length ≤ 63) (hS : SqL K H a (ns.map V.int)) : spJ K 1 Lw.F_law [.ref a] H (fun v _ => v = .bl true) fun _ _ _ => False := by
  refine ⟨rfl, ⟨fun _ => none, fun _ => 0⟩, H, [.val (.rol (ns.map D.int))], ⟨rfl, fun i s h => ?_, Ex.refl H, (fun a o h => by cases h), (fun a h => absurd rfl h), fun i b l p h => ?_, fun i j b b' l l' p h => ?_⟩, ?_⟩
  · cases i with
    | zero => simp at h; subst h; exact ⟨_, rfl, _, rfl, .rol hS (RpA.ints ns)⟩
    | succ i => simp at h
  · cases i with
    | zero => simp at h
    | succ i => simp at h
  · cases i with
    | zero => simp at h
    | succ i => simp at h
  · obtain ⟨E', e⟩ := hp ns hl
    rw [e]
    exact fun G' H' v _ _ r => by cases r; rfl
theorem FnOk_cx {P : Program} {w : World} {K : PySem.W.Frag} {mg : Str → Option Value} {base : Heap} {C1 C2 : CXT} {k : Nat} {f : Addr} {fd : FuncData} {ps : List Str} {sp : Sp} (F : FnOk P w K mg base C1 k f fd ps sp) (h : ∀ o H s E u s', C1 o H s E u s' → C2 o H s E u s') : FnOk P w K mg base C2 k f fd ps sp :=
  ⟨F.len, fun A outer s H args us vs Q E hr e0 hb hv hs => codeAny_mono (F.run A outer s H args us vs Q E hr e0 hb hv hs) fun r s' hq => by
    cases r with
    | error e => exact h _ _ _ _ _ _ hq
    | ok fl => cases fl <;> exact hq⟩
def CxAny (P : Program) : CXT := fun o H s E u s' => ∃ w, L2N.CX P w o H s E u s'
theorem CxAny_none {P : Program} (H : Hp) (s : Shared) (e : Value) (s' : Shared) : CxAny P [] H s (fun _ _ _ => False) e s' → False := by
  rintro ⟨w, a, B, H', cls, d, _, _, _, _, _, _, _, h⟩
  exact h
end J
open PySem PySem.W PySem.Calls PyProof.Rows
theorem PySem.Challenge.cw_nodearer_k03_lots_holds : PySem.Challenge.rw_nodearer_k03_lots.Holds := by
  w_on; o_law
  refine HandSHeadRun.head_any (r := OpenLaw.row PySem.Challenge.rw_nodearer_k03_lots) (q := view (OpenLaw.row PySem.Challenge.rw_nodearer_k03_lots).prog [44]) (H := Lw.hk) (ob := Lw.ob) (M := 4000) (loose := Lw.loose) (d := HandSHeadRun.topDef (OpenLaw.row PySem.Challenge.rw_nodearer_k03_lots).prog 44) (kwd := []) Lw.ob_eq
    (by kernel_rfl) (fun s => by kernel_rfl) Lw.run (by kernel_rfl) (by kernel_rfl) (by kernel_rfl) (by rfl) (by first | assumption | decide +kernel) (by decide +kernel) ⟨rfl, rfl, rfl, rfl, rfl, by decide +kernel⟩ ?wit ?call
  case wit => w_witness2
  case call =>
    refine L2.walk_ofE (l := PySem.Challenge.rw_nodearer_k03_lots) (n := 63) (k := 10) (x := "_law_script") (CX := J.CxAny (PySem.Challenge.rw_nodearer_k03_lots).prog) rfl (by decide) (by kernel_rfl) ⟨rfl, by decide, by decide⟩ ?F J.CxAny_none
    intro w mg fa h Y G hmg0
    obtain ⟨K, KX, c⟩ := Y
    have hmg : mg ("law" : PySem.Str) = some (.ref fa) := by
      have e : (HandSHeadRun.topDef (OpenLaw.row PySem.Challenge.rw_nodearer_k03_lots).prog 44).name = ("law" : PySem.Str) := by kernel_rfl
      rw [← e]
      exact hmg0
    obtain ⟨fd, hb, hF⟩ := Lw.facts (P := (PySem.Challenge.rw_nodearer_k03_lots).prog) (w := w) KX G hmg c rfl (by kernel_rfl)
    exact ⟨K, fd, J.spJ K 1 Lw.F_law, KX, hb, fun H a ns hl _ hS => J.law_sp Lw.pure_law H a ns hl hS, fun base _ _ => J.FnOk_cx (hF base) fun o H s E u s' q => ⟨w, q⟩⟩
