import PyProof.Rows.All
import Wide.All
import OpenK.AllK
import Wide.FinOn
import KE.KStateDown
import HandS.ForExc
import HandS.Comp
import HandS.Iter
import HandS.Rev
import HandS.Zip
import HandS.Dict
import HandS.Text
import HandS.More
import HandS.Sort
import HandS.Strs
import HandS.SetFor
import HandS.Conv
import HandS.Wide
import HandS.WideBits
import HandS.IsInst
import HandS.ExcIs
import HandS.ExcInit
import HandS.TupLe
import HandS.TupAny
import HandS.Style
import HandS.CallSlots
import HandS.Defaults
import HandS.TryMany
import HandS.HotCalls
import HandS.ExcInitHot
import HandS.ExcField
import KE.KExcSuper
import HandS.SortInts
import HandS.Head0
import HandS.Head1
import HandS.Head2
import HandS.HeadEnd
import HandS.HeadHook1
import HandS.HeadHook2
import KE.LtData
import KE.KMathG
import KE.KOpsOwn
import HandS.Gcd
import HandS.ClsMeth
import HandS.OwnEq
import HandS.HeadNt
import HandS.Head3
import PySem.Challenge.RW_nodearer_k01_ratio_arithmetic
set_option Elab.async false
set_option linter.all false
set_option maxRecDepth 100000
set_option maxHeartbeats 0
namespace J
open PySem PySem.Spec PyProof.Rows L2

/-! ### plain data, slots, results -/
abbrev St := L2.St
inductive D where
  | non | bl (b : Bool) | int (i : Int) | str (x : Str) | tup (l : List D) | lst (l : List D) | rol (l : List D) | ins (c : Str) (ns : List Str) (ds : List D)
inductive Sl where
  | no | val (d : D) | own (b : Bool) (l : List D) | obj (b : Bool) (c : Str) (ns : List Str) (ds : List D)
/-- is it this frame's own; inout? -/
def Sl.ow : Sl → Option Bool
  | .own b _ => some b
  | .obj b _ _ _ => some b
  | _ => none
abbrev Env := List Sl
structure Exn where
  c : Str
  ns : List Str
  ds : List D
inductive R (α : Type) where
  | ok (a : α) (E : Env)
  | exc (x : Exn) (E : Env)
  | stuck
inductive RV where
  | v (d : D)
  | l (l : List D)
inductive RS where
  | nx (E : Env)
  | rt (r : RV) (E : Env)
  | bk (E : Env)
  | ct (E : Env)
  | exc (x : Exn) (E : Env)
  | stuck
def R.bind {α β : Type} (m : R α) (k : α → Env → R β) : R β := match m with
  | .ok a E => k a E
  | .exc x E => .exc x E
  | .stuck => .stuck
def R.bindS {α : Type} (m : R α) (k : α → Env → RS) : RS := match m with
  | .ok a E => k a E
  | .exc x E => .exc x E
  | .stuck => .stuck
def RS.seq (m : RS) (k : Env → RS) : RS := match m with
  | .nx E => k E
  | r => r
@[simp] theorem R.bind_ok {α β : Type} (a : α) (E : Env) (k : α → Env → R β) : (R.ok a E).bind k = k a E := rfl
@[simp] theorem R.bind_exc {α β : Type} (x : Exn) (E : Env) (k : α → Env → R β) : (R.exc x E : R α).bind k = .exc x E := rfl
@[simp] theorem R.bind_stuck {α β : Type} (k : α → Env → R β) : (R.stuck : R α).bind k = .stuck := rfl
@[simp] theorem R.bindS_ok {α : Type} (a : α) (E : Env) (k : α → Env → RS) : (R.ok a E).bindS k = k a E := rfl
@[simp] theorem R.bindS_exc {α : Type} (x : Exn) (E : Env) (k : α → Env → RS) : (R.exc x E : R α).bindS k = .exc x E := rfl
@[simp] theorem R.bindS_stuck {α : Type} (k : α → Env → RS) : (R.stuck : R α).bindS k = .stuck := rfl
@[simp] theorem RS.seq_nx (E : Env) (k : Env → RS) : (RS.nx E).seq k = k E := rfl
@[simp] theorem RS.seq_rt (r : RV) (E : Env) (k : Env → RS) : (RS.rt r E).seq k = .rt r E := rfl
@[simp] theorem RS.seq_bk (E : Env) (k : Env → RS) : (RS.bk E).seq k = .bk E := rfl
@[simp] theorem RS.seq_ct (E : Env) (k : Env → RS) : (RS.ct E).seq k = .ct E := rfl
@[simp] theorem RS.seq_exc (x : Exn) (E : Env) (k : Env → RS) : (RS.exc x E).seq k = .exc x E := rfl
@[simp] theorem RS.seq_stuck (k : Env → RS) : RS.stuck.seq k = .stuck := rfl
theorem R.bind_assoc {α β γ : Type} (m : R α) (k : α → Env → R β) (k' : β → Env → R γ) : (m.bind k).bind k' = m.bind fun a E => (k a E).bind k' := by cases m <;> rfl
theorem R.bind_bindS {α β : Type} (m : R α) (k : α → Env → R β) (k' : β → Env → RS) : (m.bind k).bindS k' = m.bindS fun a E => (k a E).bindS k' := by cases m <;> rfl

/-! ### heaps -/
def Ex (H H' : Hp) : Prop := ∀ a o, H a = some o → H' a = some o
theorem Ex.refl (H : Hp) : Ex H H := fun _ _ h => h
theorem Ex.trans {H H1 H2 : Hp} (a : Ex H H1) (b : Ex H1 H2) : Ex H H2 := fun x o h => b x o (a x o h)
theorem Ex.new {H : Hp} {p : Addr} {o : HO} (h : H p = none) : Ex H (upd H p o) := fun a u e => by
  rw [upd_ne (ne_of_none e h)]; exact e
theorem Ex.back {H H' : Hp} {p : Addr} (e : Ex H H') (h : H' p = none) : H p = none := by
  cases h1 : H p with
  | none => rfl
  | some o => rw [e p o h1] at h; cases h
/-- the small one grows where the great one has grown -/
theorem Ex.both {G H : Hp} {p : Addr} {o : HO} (e : Ex G H) : Ex (upd G p o) (upd H p o) := fun a u h => by
  by_cases ha : a = p
  · subst ha; rw [upd_same] at h ⊢; exact h
  · rw [upd_ne ha] at h ⊢; exact e a u h
theorem Ex.mut {G H : Hp} {p : Addr} {o : HO} (e : Ex G H) (h : G p = none) : Ex G (upd H p o) := fun a u ha => by
  rw [upd_ne (ne_of_none ha h)]; exact e a u ha
theorem Ex.rd {H H' : Hp} {a : Addr} {u : HO} (e : Ex H H') (h : Rd H a u) : Rd H' a u := by
  rcases h with h | ⟨o, h⟩
  · exact .inl (e a _ h)
  · exact .inr ⟨o, e a _ h⟩
theorem Ex.sl {K : PySem.W.Frag} {H H' : Hp} {a : Addr} {xs : List V} (e : Ex H H') (h : SqL K H a xs) : SqL K H' a xs := by
  rcases h with h | h
  · exact .inl (e.rd h)
  · exact .inr h
theorem Ex.st {K : PySem.W.Frag} {H H' : Hp} {a : Addr} {xs : List V} (e : Ex H H') (h : SqT K H a xs) : SqT K H' a xs := by
  rcases h with h | h
  · exact .inl (e.rd h)
  · exact .inr h

/-! ### what a value stands for -/
mutual
inductive Rp (K : PySem.W.Frag) (G : Hp) : V → D → Prop
  | non : Rp K G .non .non
  | bl (b : Bool) : Rp K G (.bl b) (.bl b)
  | int (i : Int) : Rp K G (.int i) (.int i)
  | str (x : Str) : Rp K G (.str x) (.str x)
  | tup {a : Addr} {vs : List V} {ds : List D} : SqT K G a vs → RpA K G vs ds → Rp K G (.ref a) (.tup ds)
  | lst {a : Addr} {vs : List V} {ds : List D} : G a = some (.lst vs) → RpA K G vs ds → Rp K G (.ref a) (.lst ds)
  | rol {a : Addr} {vs : List V} {ds : List D} : SqL K G a vs → RpA K G vs ds → Rp K G (.ref a) (.rol ds)
  | ins {a dx : Addr} {c : Str} {ns : List Str} {vs : List V} {ds : List D} : G a = some (.ins (He.ga K c) dx (ns.zip vs)) → vs.length = ns.length → RpA K G vs ds → Rp K G (.ref a) (.ins c ns ds)
inductive RpA (K : PySem.W.Frag) (G : Hp) : List V → List D → Prop
  | nil : RpA K G [] []
  | cons {v : V} {vs : List V} {d : D} {ds : List D} : Rp K G v d → RpA K G vs ds → RpA K G (v :: vs) (d :: ds)
end
section
variable {K : PySem.W.Frag} {G G' : Hp}
mutual
theorem Rp.mono (e : Ex G G') : ∀ (d : D) {v : V}, Rp K G v d → Rp K G' v d
  | .non, _, h => by cases h; exact .non
  | .bl b, _, h => by cases h; exact .bl b
  | .int b, _, h => by cases h; exact .int b
  | .str b, _, h => by cases h; exact .str b
  | .tup ds, _, h => by
    cases h with
    | tup h1 h2 => exact .tup (e.st h1) (RpA.mono e ds h2)
  | .lst ds, _, h => by
    cases h with
    | lst h1 h2 => exact .lst (e _ _ h1) (RpA.mono e ds h2)
  | .rol ds, _, h => by
    cases h with
    | rol h1 h2 => exact .rol (e.sl h1) (RpA.mono e ds h2)
  | .ins c ns ds, _, h => by
    cases h with
    | ins h1 h2 h3 => exact .ins (e _ _ h1) h2 (RpA.mono e ds h3)
theorem RpA.mono (e : Ex G G') : ∀ (ds : List D) {vs : List V}, RpA K G vs ds → RpA K G' vs ds
  | [], _, h => by cases h; exact .nil
  | d :: ds, _, h => by
    cases h with
    | cons h1 h2 => exact .cons (Rp.mono e d h1) (RpA.mono e ds h2)
end
theorem RpA.length {vs : List V} {ds : List D} (h : RpA K G vs ds) : vs.length = ds.length := by
  induction ds generalizing vs with
  | nil => cases h; rfl
  | cons d ds ih => cases h with | cons h1 h2 => simp [ih h2]
theorem RpA.get {vs : List V} {ds : List D} (h : RpA K G vs ds) : ∀ {i : Nat} {d : D}, ds[i]? = some d → ∃ v, vs[i]? = some v ∧ Rp K G v d := by
  induction ds generalizing vs with
  | nil => intro i d e; simp at e
  | cons d0 ds ih =>
    cases h with
    | cons h1 h2 =>
      intro i d e
      cases i with
      | zero => simp at e; subst e; exact ⟨_, rfl, h1⟩
      | succ i => simpa using ih h2 (by simpa using e)
theorem RpA.get' {vs : List V} {ds : List D} (h : RpA K G vs ds) {i : Nat} {v : V} (e : vs[i]? = some v) : ∃ d, ds[i]? = some d ∧ Rp K G v d := by
  have hl := h.length
  have hi : i < ds.length := by rw [← hl]; exact (List.getElem?_eq_some_iff.mp e).1
  obtain ⟨v', e', r⟩ := h.get (i := i) (d := ds[i]) (List.getElem?_eq_getElem hi)
  rw [e] at e'; cases e'
  exact ⟨_, List.getElem?_eq_getElem hi, r⟩
theorem RpA.append {vs ws : List V} {ds es : List D} (h : RpA K G vs ds) (h' : RpA K G ws es) : RpA K G (vs ++ ws) (ds ++ es) := by
  induction ds generalizing vs with
  | nil => cases h; exact h'
  | cons d ds ih => cases h with | cons h1 h2 => exact .cons h1 (ih h2)
theorem RpA.take {vs : List V} {ds : List D} (h : RpA K G vs ds) (n : Nat) : RpA K G (vs.take n) (ds.take n) := by
  induction ds generalizing vs n with
  | nil => cases h; simp; exact .nil
  | cons d ds ih =>
    cases h with
    | cons h1 h2 =>
      cases n with
      | zero => exact .nil
      | succ n => exact .cons h1 (ih h2 n)
theorem RpA.drop {vs : List V} {ds : List D} (h : RpA K G vs ds) (n : Nat) : RpA K G (vs.drop n) (ds.drop n) := by
  induction ds generalizing vs n with
  | nil => cases h; simp; exact .nil
  | cons d ds ih =>
    cases h with
    | cons h1 h2 =>
      cases n with
      | zero => exact .cons h1 h2
      | succ n => exact ih h2 n
theorem RpA.set {vs : List V} {ds : List D} (h : RpA K G vs ds) {v : V} {d : D} (r : Rp K G v d) (n : Nat) : RpA K G (vs.set n v) (ds.set n d) := by
  induction ds generalizing vs n with
  | nil => cases h; simp; exact .nil
  | cons d0 ds ih =>
    cases h with
    | cons h1 h2 =>
      cases n with
      | zero => exact .cons r h2
      | succ n => exact .cons h1 (ih h2 n)
theorem RpA.reverse {vs : List V} {ds : List D} (h : RpA K G vs ds) : RpA K G vs.reverse ds.reverse := by
  induction ds generalizing vs with
  | nil => cases h; exact .nil
  | cons d ds ih =>
    cases h with
    | cons h1 h2 => rw [List.reverse_cons, List.reverse_cons]; exact (ih h2).append (.cons h1 .nil)
theorem RpA.flat {vs : List V} {ds : List D} (h : RpA K G vs ds) (n : Nat) : RpA K G (List.replicate n vs).flatten (List.replicate n ds).flatten := by
  induction n with
  | zero => exact .nil
  | succ n ih => rw [List.replicate_succ, List.replicate_succ]; exact h.append ih
theorem RpA.ints (ns : List Int) : RpA K G (ns.map V.int) (ns.map D.int) := by
  induction ns with
  | nil => exact .nil
  | cons n ns ih => exact .cons (.int n) ih
theorem RpA.of_ints {vs : List V} {ns : List Int} (h : RpA K G vs (ns.map D.int)) : vs = ns.map V.int := by
  induction ns generalizing vs with
  | nil => cases h; rfl
  | cons n ns ih => cases h with | cons h1 h2 => cases h1; rw [List.map_cons, ih h2]
end

/-! ### the state -/
def SlOk (K : PySem.W.Frag) (G H : Hp) (x : Option V) : Sl → Prop
  | .no => True
  | .val d => ∃ v, x = some v ∧ Rp K G v d
  | .own _ l => ∃ p vs, x = some (.ref p) ∧ H p = some (.lst vs) ∧ RpA K G vs l
  | .obj _ c ns ds => ∃ p dx vs, x = some (.ref p) ∧ H p = some (.ins (He.ga K c) dx (ns.zip vs)) ∧ vs.length = ns.length ∧ RpA K G vs ds
/-- what a def leaves as it is; where its own things from outside stand -/
structure Fr where
  F : Hp
  io : Nat → Addr
structure Sat (K : PySem.W.Frag) (Φ : Fr) (G H : Hp) (σ : St) (E : Env) : Prop where
  len : σ.length = E.length
  sl : ∀ (i : Nat) (s : Sl), E[i]? = some s → ∃ x, σ[i]? = some x ∧ SlOk K G H x s
  gh : Ex G H
  fh : Ex Φ.F H
  fg : ∀ a, Φ.F a ≠ none → G a = none
  ow' : ∀ (i : Nat) (s : Sl) (b : Bool) (p : Addr), E[i]? = some s → s.ow = some b → σ[i]? = some (some (.ref p)) → G p = none ∧ Φ.F p = none ∧ (b = true → p = Φ.io i)
  di' : ∀ (i j : Nat) (s s' : Sl) (b b' : Bool) (p : Addr), E[i]? = some s → s.ow = some b → E[j]? = some s' → s'.ow = some b' → σ[i]? = some (some (.ref p)) → σ[j]? = some (some (.ref p)) → i = j
/-- p is no own thing's -/
def NotOwn (σ : St) (E : Env) (p : Addr) : Prop := ∀ (i : Nat) (s : Sl) (b : Bool), E[i]? = some s → s.ow = some b → σ[i]? ≠ some (some (.ref p))
section
variable {K : PySem.W.Frag} {Φ : Fr} {G G' H H' : Hp} {σ : St} {E : Env}
theorem Sat.ow (S : Sat K Φ G H σ E) (i : Nat) (b : Bool) (l : List D) (p : Addr) (h1 : E[i]? = some (.own b l)) (h2 : σ[i]? = some (some (.ref p))) : G p = none ∧ Φ.F p = none ∧ (b = true → p = Φ.io i) := S.ow' i _ b p h1 rfl h2
theorem Sat.di (S : Sat K Φ G H σ E) (i j : Nat) (b b' : Bool) (l l' : List D) (p : Addr) (h1 : E[i]? = some (.own b l)) (h2 : E[j]? = some (.own b' l')) (h3 : σ[i]? = some (some (.ref p))) (h4 : σ[j]? = some (some (.ref p))) : i = j := S.di' i j _ _ b b' p h1 rfl h2 rfl h3 h4
theorem SlOk.ad {x : Option V} {s : Sl} {b : Bool} (h : SlOk K G H x s) (hb : s.ow = some b) : ∃ p o, x = some (.ref p) ∧ H p = some o := by
  cases s with
  | no => cases hb
  | val d => cases hb
  | own b l => obtain ⟨p, vs, h1, h2, _⟩ := h; exact ⟨p, _, h1, h2⟩
  | obj b c ns ds => obtain ⟨p, dx, vs, h1, h2, _⟩ := h; exact ⟨p, _, h1, h2⟩
/-- where an own thing stands -/
theorem Sat.ad (S : Sat K Φ G H σ E) {i : Nat} {s : Sl} {b : Bool} (h : E[i]? = some s) (hb : s.ow = some b) : ∃ p o, σ[i]? = some (some (.ref p)) ∧ H p = some o := by
  obtain ⟨x, h1, h2⟩ := S.sl i s h
  obtain ⟨p, o, rfl, h3⟩ := h2.ad hb
  exact ⟨p, o, h1, h3⟩
theorem Sat.has (S : Sat K Φ G H σ E) {i : Nat} {s : Sl} {b : Bool} {p : Addr} (h : E[i]? = some s) (hb : s.ow = some b) (hp : σ[i]? = some (some (.ref p))) : ∃ o, H p = some o := by
  obtain ⟨q, o, h1, h2⟩ := S.ad h hb
  rw [hp] at h1; cases h1
  exact ⟨o, h2⟩
theorem SlOk.mono {x : Option V} {s : Sl} (e : Ex G G') (h : SlOk K G H x s) (k : ∀ p b, s.ow = some b → x = some (.ref p) → H' p = H p) : SlOk K G' H' x s := by
  cases s with
  | no => trivial
  | val d => obtain ⟨v, h1, h2⟩ := h; exact ⟨v, h1, h2.mono e⟩
  | own b l => obtain ⟨p, vs, h1, h2, h3⟩ := h; exact ⟨p, vs, h1, (k p b rfl h1).trans h2, h3.mono e⟩
  | obj b c ns ds => obtain ⟨p, dx, vs, h1, h2, h3, h4⟩ := h; exact ⟨p, dx, vs, h1, (k p b rfl h1).trans h2, h3, h4.mono e⟩
theorem set_get {E : Env} {i j : Nat} {s t : Sl} (h : (E.set i s)[j]? = some t) : (j = i ∧ t = s ∧ i < E.length) ∨ (j ≠ i ∧ E[j]? = some t) := by
  by_cases hj : i = j
  · subst hj
    by_cases hl : i < E.length
    · rw [List.getElem?_set_self hl] at h
      exact .inl ⟨rfl, (Option.some.inj h).symm, hl⟩
    · rw [List.getElem?_eq_none (by simpa using hl)] at h; cases h
  · rw [List.getElem?_set_ne hj] at h; exact .inr ⟨Ne.symm hj, h⟩
/-- a new object is known to all -/
theorem Sat.new (S : Sat K Φ G H σ E) {p : Addr} {o : HO} (h : H p = none) : Sat K Φ (upd G p o) (upd H p o) σ E := by
  have np : ∀ (i : Nat) (s : Sl) (b : Bool) (q : Addr), E[i]? = some s → s.ow = some b → σ[i]? = some (some (.ref q)) → q ≠ p := fun i s b q h1 hb h2 z => by
    obtain ⟨o, h3⟩ := S.has h1 hb h2
    subst z
    rw [h] at h3; cases h3
  refine ⟨S.len, fun i s hs => ?_, S.gh.both, S.fh.trans (Ex.new h), fun a ha => ?_, fun i s b q h1 hb h2 => ?_, S.di'⟩
  · obtain ⟨x, h1, h2⟩ := S.sl i s hs
    refine ⟨x, h1, h2.mono (Ex.new (S.gh.back h)) fun q b hb e2 => ?_⟩
    subst e2
    exact upd_ne (np i s b q hs hb h1)
  · have na : a ≠ p := fun z => by
      subst z
      cases hF : Φ.F a with
      | none => exact ha hF
      | some o => rw [S.fh a o hF] at h; cases h
    rw [upd_ne na]
    exact S.fg a ha
  · rw [upd_ne (np i s b q h1 hb h2)]
    exact S.ow' i s b q h1 hb h2
/-- a new object that G does not hear of -/
theorem Sat.newH (S : Sat K Φ G H σ E) {p : Addr} {o : HO} (h : H p = none) : Sat K Φ G (upd H p o) σ E := by
  refine ⟨S.len, fun i s hs => ?_, S.gh.trans (Ex.new h), S.fh.trans (Ex.new h), S.fg, S.ow', S.di'⟩
  obtain ⟨x, h1, h2⟩ := S.sl i s hs
  refine ⟨x, h1, h2.mono (Ex.refl G) fun q b hb e2 => ?_⟩
  subst e2
  obtain ⟨o, h3⟩ := S.has hs hb h1
  exact upd_ne fun z => by subst z; rw [h] at h3; cases h3
theorem Sat.notOwn (S : Sat K Φ G H σ E) {p : Addr} (h : H p = none) : NotOwn σ E p := fun i s b h1 hb h2 => by
  obtain ⟨o, h3⟩ := S.has h1 hb h2
  rw [h] at h3; cases h3
/-- a slot gets a value -/
theorem Sat.setV (S : Sat K Φ G H σ E) {i : Nat} {v : V} {d : D} (r : Rp K G v d) : Sat K Φ G H (σ.set i (some v)) (E.set i (.val d)) := by
  have key : ∀ (j : Nat) (s : Sl) (b : Bool), (E.set i (.val d))[j]? = some s → s.ow = some b → j ≠ i ∧ E[j]? = some s := fun j s b h hb => by
    rcases set_get h with ⟨_, rfl, _⟩ | h
    · cases hb
    · exact h
  refine ⟨by simp [S.len], fun j s hs => ?_, S.gh, S.fh, S.fg, fun j s b p h1 hb h2 => ?_, fun j k s s' b b' p h1 hb h2 hb' h3 h4 => ?_⟩
  · rcases set_get hs with ⟨rfl, rfl, hl⟩ | ⟨hj, hs⟩
    · exact ⟨some v, by rw [List.getElem?_set_self (by rw [S.len]; exact hl)], v, rfl, r⟩
    · rw [List.getElem?_set_ne (Ne.symm hj)]
      exact S.sl j s hs
  · obtain ⟨h0, h1⟩ := key j s b h1 hb
    rw [List.getElem?_set_ne (Ne.symm h0)] at h2
    exact S.ow' j s b p h1 hb h2
  · obtain ⟨n1, h1⟩ := key j s b h1 hb
    obtain ⟨n2, h2⟩ := key k s' b' h2 hb'
    rw [List.getElem?_set_ne (Ne.symm n1)] at h3
    rw [List.getElem?_set_ne (Ne.symm n2)] at h4
    exact S.di' j k s s' b b' p h1 hb h2 hb' h3 h4
/-- a slot gets an own thing -/
theorem Sat.setW (S : Sat K Φ G H σ E) {i : Nat} {p : Addr} {s0 : Sl} (hb0 : s0.ow = some false) (hk : SlOk K G H (some (.ref p)) s0) (g : G p = none) (f : Φ.F p = none) (n : NotOwn σ E p) : Sat K Φ G H (σ.set i (some (.ref p))) (E.set i s0) := by
  refine ⟨by simp [S.len], fun j s hs => ?_, S.gh, S.fh, S.fg, fun j s b q h1 hb h2 => ?_, fun j k s s' b b' q h1 hb h2 hb' h3 h4 => ?_⟩
  · rcases set_get hs with ⟨rfl, rfl, hl⟩ | ⟨hj, hs⟩
    · exact ⟨some (.ref p), by rw [List.getElem?_set_self (by rw [S.len]; exact hl)], hk⟩
    · rw [List.getElem?_set_ne (Ne.symm hj)]
      exact S.sl j s hs
  · rcases set_get h1 with ⟨rfl, rfl, hl⟩ | ⟨hj, h1⟩
    · rw [List.getElem?_set_self (by rw [S.len]; exact hl)] at h2
      cases h2
      rw [hb0] at hb; cases hb
      exact ⟨g, f, fun z => nomatch z⟩
    · rw [List.getElem?_set_ne (Ne.symm hj)] at h2
      exact S.ow' j s b q h1 hb h2
  · rcases set_get h1 with ⟨rfl, rfl, hl⟩ | ⟨hj, h1'⟩
    · rw [List.getElem?_set_self (by rw [S.len]; exact hl)] at h3
      cases h3
      rcases set_get h2 with ⟨rfl, _, _⟩ | ⟨hk2, h2'⟩
      · rfl
      · rw [List.getElem?_set_ne (Ne.symm hk2)] at h4
        exact absurd h4 (n k s' b' h2' hb')
    · rw [List.getElem?_set_ne (Ne.symm hj)] at h3
      rcases set_get h2 with ⟨rfl, _, hl⟩ | ⟨hk2, h2'⟩
      · rw [List.getElem?_set_self (by rw [S.len]; exact hl)] at h4
        cases h4
        exact absurd h3 (n j s b h1' hb)
      · rw [List.getElem?_set_ne (Ne.symm hk2)] at h4
        exact S.di' j k s s' b b' q h1' hb h2' hb' h3 h4
/-- a slot gets an own list -/
theorem Sat.setO (S : Sat K Φ G H σ E) {i : Nat} {p : Addr} {vs : List V} {l : List D} (hp : H p = some (.lst vs)) (r : RpA K G vs l) (g : G p = none) (f : Φ.F p = none) (n : NotOwn σ E p) : Sat K Φ G H (σ.set i (some (.ref p))) (E.set i (.own false l)) :=
  S.setW rfl ⟨p, vs, rfl, hp, r⟩ g f n
/-- a slot is forgotten -/
theorem Sat.setN (S : Sat K Φ G H σ E) {i : Nat} {x : Option V} : Sat K Φ G H (σ.set i x) (E.set i .no) := by
  have key : ∀ (j : Nat) (s : Sl) (b : Bool), (E.set i .no)[j]? = some s → s.ow = some b → j ≠ i ∧ E[j]? = some s := fun j s b h hb => by
    rcases set_get h with ⟨_, rfl, _⟩ | h
    · cases hb
    · exact h
  refine ⟨by simp [S.len], fun j s hs => ?_, S.gh, S.fh, S.fg, fun j s b p h1 hb h2 => ?_, fun j k s s' b b' p h1 hb h2 hb' h3 h4 => ?_⟩
  · rcases set_get hs with ⟨rfl, rfl, hl⟩ | ⟨hj, hs⟩
    · exact ⟨x, by rw [List.getElem?_set_self (by rw [S.len]; exact hl)], trivial⟩
    · rw [List.getElem?_set_ne (Ne.symm hj)]
      exact S.sl j s hs
  · obtain ⟨h0, h1⟩ := key j s b h1 hb
    rw [List.getElem?_set_ne (Ne.symm h0)] at h2
    exact S.ow' j s b p h1 hb h2
  · obtain ⟨n1, h1⟩ := key j s b h1 hb
    obtain ⟨n2, h2⟩ := key k s' b' h2 hb'
    rw [List.getElem?_set_ne (Ne.symm n1)] at h3
    rw [List.getElem?_set_ne (Ne.symm n2)] at h4
    exact S.di' j k s s' b b' p h1 hb h2 hb' h3 h4
/-- an own thing is written -/
theorem Sat.writeW (S : Sat K Φ G H σ E) {i : Nat} {s0 s1 : Sl} {b0 : Bool} {p : Addr} {o : HO} (hi : E[i]? = some s0) (h0 : s0.ow = some b0) (h1 : s1.ow = some b0) (hp : σ[i]? = some (some (.ref p))) (r : SlOk K G (upd H p o) (some (.ref p)) s1) : Sat K Φ G (upd H p o) σ (E.set i s1) := by
  obtain ⟨g, f, io⟩ := S.ow' i s0 b0 p hi h0 hp
  have hl : i < E.length := (List.getElem?_eq_some_iff.mp hi).1
  have key : ∀ (j : Nat) (s : Sl) (b : Bool), (E.set i s1)[j]? = some s → s.ow = some b → ∃ s', E[j]? = some s' ∧ s'.ow = some b := fun j s b h hb => by
    rcases set_get h with ⟨rfl, rfl, _⟩ | ⟨_, h⟩
    · exact ⟨s0, hi, by rw [h0, ← h1, hb]⟩
    · exact ⟨s, h, hb⟩
  refine ⟨by simp [S.len], fun j s hs => ?_, S.gh.mut g, S.fh.mut f, S.fg, fun j s b q h1 hb h2 => ?_, fun j k s s' b b' q h1 hb h2 hb' h3 h4 => ?_⟩
  · rcases set_get hs with ⟨rfl, rfl, _⟩ | ⟨hj, hs⟩
    · exact ⟨_, hp, r⟩
    · obtain ⟨x, k1, k2⟩ := S.sl j s hs
      refine ⟨x, k1, k2.mono (Ex.refl G) fun q b hb e2 => ?_⟩
      subst e2
      exact upd_ne fun z => by subst z; exact hj (S.di' j i s s0 b b0 q hs hb hi h0 k1 hp)
  · obtain ⟨m', h1, hb⟩ := key j s b h1 hb
    exact S.ow' j m' b q h1 hb h2
  · obtain ⟨m1, h1, hb⟩ := key j s b h1 hb
    obtain ⟨m2, h2, hb'⟩ := key k s' b' h2 hb'
    exact S.di' j k m1 m2 b b' q h1 hb h2 hb' h3 h4
/-- an own list is written -/
theorem Sat.write (S : Sat K Φ G H σ E) {i : Nat} {b0 : Bool} {p : Addr} {l l' : List D} {vs' : List V} (hi : E[i]? = some (.own b0 l)) (hp : σ[i]? = some (some (.ref p))) (r : RpA K G vs' l') : Sat K Φ G (upd H p (.lst vs')) σ (E.set i (.own b0 l')) :=
  S.writeW (b0 := b0) hi rfl rfl hp ⟨p, vs', rfl, upd_same, r⟩
/-- an own thing is given free -/
theorem Sat.pubW (S : Sat K Φ G H σ E) {i : Nat} {s0 : Sl} {b0 : Bool} {p : Addr} {o : HO} {d : D} (hi : E[i]? = some s0) (h0 : s0.ow = some b0) (hx : σ[i]? = some (some (.ref p))) (hp : H p = some o) (r : Rp K (upd G p o) (.ref p) d) : ∃ G', Ex G G' ∧ Sat K Φ G' H σ (E.set i (.val d)) := by
  obtain ⟨g, f, io⟩ := S.ow' i s0 b0 p hi h0 hx
  have eG : Ex G (upd G p o) := Ex.new g
  have key : ∀ (j : Nat) (s : Sl) (b : Bool), (E.set i (.val d))[j]? = some s → s.ow = some b → j ≠ i ∧ E[j]? = some s := fun j s b h hb => by
    rcases set_get h with ⟨_, rfl, _⟩ | h
    · cases hb
    · exact h
  refine ⟨upd G p o, eG, by simp [S.len], fun j s hs => ?_, fun a u h => ?_, S.fh, fun a ha => ?_, fun j s b q h1 hb h2 => ?_, fun j k s s' b b' q h1 hb h2 hb' h3 h4 => ?_⟩
  · rcases set_get hs with ⟨rfl, rfl, _⟩ | ⟨hj, hs⟩
    · exact ⟨_, hx, .ref p, rfl, r⟩
    · obtain ⟨x, h1, h2⟩ := S.sl j s hs
      exact ⟨x, h1, h2.mono eG fun _ _ _ _ => rfl⟩
  · by_cases ha : a = p
    · subst ha; rw [upd_same] at h; rw [← h]; exact hp
    · rw [upd_ne ha] at h; exact S.gh a u h
  · have na : a ≠ p := fun z => by subst z; exact ha f
    rw [upd_ne na]
    exact S.fg a ha
  · obtain ⟨n1, h1⟩ := key j s b h1 hb
    have nq : q ≠ p := fun z => by subst z; exact n1 (S.di' j i s s0 b b0 q h1 hb hi h0 h2 hx)
    rw [upd_ne nq]
    exact S.ow' j s b q h1 hb h2
  · obtain ⟨n1, h1⟩ := key j s b h1 hb
    obtain ⟨n2, h2⟩ := key k s' b' h2 hb'
    exact S.di' j k s s' b b' q h1 hb h2 hb' h3 h4
/-- an own list is given free -/
theorem Sat.pub (S : Sat K Φ G H σ E) {i : Nat} {b0 : Bool} {l : List D} (hi : E[i]? = some (.own b0 l)) : ∃ G', Ex G G' ∧ Sat K Φ G' H σ (E.set i (.val (.lst l))) := by
  obtain ⟨x, hx, p, vs, rfl, hp, r⟩ := S.sl i _ hi
  have g := (S.ow i b0 l p hi hx).1
  exact S.pubW (b0 := b0) hi rfl hx hp (.lst upd_same (r.mono (Ex.new g)))
end
end J

namespace J
open PySem PySem.Spec PyProof.Rows L2

/-! ### what is wanted; c: what is known besides, by the slots -/
structure WJ where
  w : WX
  c : Hp → St → Prop
  mono : ∀ G G' σ, Ex G G' → c G σ → c G' σ
def pw (w : WX) : WJ := ⟨w, fun _ _ => True, fun _ _ _ _ h => h⟩
instance : Coe WX WJ := ⟨pw⟩
structure SatC (K : PySem.W.Frag) (W : WJ) (Φ : Fr) (G H : Hp) (σ : St) (E : Env) : Prop extends Sat K Φ G H σ E where
  c : W.c G σ
instance {K : PySem.W.Frag} {W : WJ} {Φ : Fr} {G H : Hp} {σ : St} {E : Env} : CoeOut (SatC K W Φ G H σ E) (Sat K Φ G H σ E) := ⟨SatC.toSat⟩
theorem Sat.pw {K : PySem.W.Frag} {W : WX} {Φ : Fr} {G H : Hp} {σ : St} {E : Env} (S : Sat K Φ G H σ E) : SatC K (J.pw W) Φ G H σ E := ⟨S, trivial⟩

structure XRp (K : PySem.W.Frag) (G : Hp) (c : Value) (d : Option Addr) (x : Exn) : Prop where
  cls : c = .ref (He.ga K x.c)
  dd : ∃ a vs, d = some a ∧ G a = some (.xd (x.ns.zip vs)) ∧ vs.length = x.ns.length ∧ RpA K G vs x.ds
theorem XRp.mono {K : PySem.W.Frag} {G G' : Hp} {c : Value} {d : Option Addr} {x : Exn} (e : Ex G G') (h : XRp K G c d x) : XRp K G' c d x := by
  obtain ⟨h1, a, vs, h2, h3, h4, h5⟩ := h
  exact ⟨h1, a, vs, h2, e _ _ h3, h4, h5.mono e⟩
def PostX (K : PySem.W.Frag) (W : WX) (Φ : Fr) (G : Hp) (x : Exn) (E' : Env) : Prop := ∀ G' H' σ' c d, Ex G G' → Sat K Φ G' H' σ' E' → XRp K G' c d x → W c d σ' H'
/-- how what comes out lies: F, σ, behind: G', H', E' -/
abbrev Rel (α β : Type) := Fr → St → Hp → Hp → Env → α → β → Prop
def Post {α β : Type} (K : PySem.W.Frag) (W : WX) (rel : Rel α β) (Φ : Fr) (G : Hp) (σ : St) (r : R α) (Q : β → Hp → Prop) : Prop := match r with
  | .ok a E' => ∀ G' H' b, Ex G G' → Sat K Φ G' H' σ E' → rel Φ σ G' H' E' a b → Q b H'
  | .exc x E' => PostX K W Φ G x E'
  | .stuck => False
theorem PostX.mono {K : PySem.W.Frag} {W : WX} {Φ : Fr} {G G0 : Hp} {x : Exn} {E' : Env} (e : Ex G G0) (h : PostX K W Φ G x E') : PostX K W Φ G0 x E' := fun G' H' σ' c d e' S r => h G' H' σ' c d (e.trans e') S r
theorem Post.mono {α β : Type} {K : PySem.W.Frag} {W : WX} {rel : Rel α β} {Φ : Fr} {G G0 : Hp} {σ : St} {r : R α} {Q : β → Hp → Prop} (e : Ex G G0) (h : Post K W rel Φ G σ r Q) : Post K W rel Φ G0 σ r Q := by
  cases r with
  | ok a E' => exact fun G' H' b e' S q => h G' H' b (e.trans e') S q
  | exc x E' => exact PostX.mono e h
  | stuck => exact h
/-- soundness of a denotation -/
def Snd {α β : Type} (K : PySem.W.Frag) (W : WJ) (rel : Rel α β) (t : St → Hp → (β → Hp → Prop) → Prop) (f : Env → R α) : Prop :=
  ∀ Φ G H σ E Q, SatC K W Φ G H σ E → Post K W.w rel Φ G σ (f E) Q → t σ H Q
theorem Snd.go {α β γ δ : Type} {K : PySem.W.Frag} {W : WJ} {rel : Rel α β} {rel2 : Rel γ δ} {t : St → Hp → (β → Hp → Prop) → Prop} {f : Env → R α} (h : Snd K W rel t f) {Φ : Fr} {G H : Hp} {σ : St} {E : Env} {k : α → Env → R γ} {Q : δ → Hp → Prop} {Q1 : β → Hp → Prop}
    (S : SatC K W Φ G H σ E) (hp : Post K W.w rel2 Φ G σ ((f E).bind k) Q) (hk : ∀ a E' G' H' b, f E = .ok a E' → Ex G G' → SatC K W Φ G' H' σ E' → rel Φ σ G' H' E' a b → Post K W.w rel2 Φ G' σ (k a E') Q → Q1 b H') : t σ H Q1 := by
  refine h Φ G H σ E Q1 S ?_
  cases e : f E with
  | ok a E' =>
    rw [e] at hp
    exact fun G' H' b e' S' q => hk a E' G' H' b e e' ⟨S', W.mono _ _ _ e' S.c⟩ q (Post.mono e' hp)
  | exc x E' => rw [e] at hp; exact hp
  | stuck => rw [e] at hp; exact hp

def Sh (K : PySem.W.Frag) (G H : Hp) (v : V) : D → Prop
  | .lst l => ∃ p vs, v = .ref p ∧ H p = some (.lst vs) ∧ RpA K G vs l
  | d => Rp K G v d
theorem Rp.sh {K : PySem.W.Frag} {G H : Hp} {v : V} {d : D} (e : Ex G H) (h : Rp K G v d) : Sh K G H v d := by
  cases h with
  | lst h1 h2 => exact ⟨_, _, rfl, e _ _ h1, h2⟩
  | non => exact .non
  | bl b => exact .bl b
  | int b => exact .int b
  | str b => exact .str b
  | tup h1 h2 => exact .tup h1 h2
  | rol h1 h2 => exact .rol h1 h2
  | ins h1 h2 h3 => exact .ins h1 h2 h3
theorem Sh.mono {K : PySem.W.Frag} {G G' H H' : Hp} {v : V} {d : D} (e : Ex G G') (e2 : Ex H H') (h : Sh K G H v d) : Sh K G' H' v d := by
  cases d with
  | lst l => obtain ⟨p, vs, h1, h2, h3⟩ := h; exact ⟨p, vs, h1, e2 _ _ h2, h3.mono e⟩
  | _ => exact Rp.mono e _ h

def relE (K : PySem.W.Frag) : Rel D V := fun _ _ G' _ _ d v => Rp K G' v d
def relO (K : PySem.W.Frag) : Rel D V := fun _ _ G' H' _ d v => Sh K G' H' v d
def relT : Rel Bool Bool := fun _ _ _ _ _ a b => a = b
def relA (K : PySem.W.Frag) : Rel (List D) (List V) := fun _ _ G' _ _ ds vs => RpA K G' vs ds
def relI : Rel (Option Int) (Option Int) := fun _ _ _ _ _ a b => a = b
def relL (K : PySem.W.Frag) : Rel (List D) V := fun Φ σ G' H' E' l v => ∃ p vs, v = .ref p ∧ H' p = some (.lst vs) ∧ RpA K G' vs l ∧ G' p = none ∧ Φ.F p = none ∧ NotOwn σ E' p

/-! ### the judgements -/
def JE (X : Cx) (W : WJ) (e : Expr) (f : Env → R D) : Prop := ∃ te, PE X e te ∧ Snd X.K W (relE X.K) te f
def JO (X : Cx) (W : WJ) (e : Expr) (f : Env → R D) : Prop := ∃ te, PE X e te ∧ Snd X.K W (relO X.K) te f
def JL (X : Cx) (W : WJ) (e : Expr) (f : Env → R (List D)) : Prop := ∃ te, PE X e te ∧ Snd X.K W (relL X.K) te f
def JT (X : Cx) (W : WJ) (e : Expr) (f : Env → R Bool) : Prop := ∃ te, PT X e te ∧ Snd X.K W relT te f
def JW (X : Cx) (W : WJ) (e : Expr) (f : Env → R Bool) : Prop := ∃ te, PW X e te ∧ Snd X.K W relT te f
def JA (X : Cx) (W : WJ) (es : List Expr) (f : Env → R (List D)) : Prop := ∃ te, PA X es te ∧ Snd X.K W (relA X.K) te f
def JP (X : Cx) (W : WJ) (e : Option Expr) (f : Env → R (Option Int)) : Prop := ∃ te, PO X e te ∧ Snd X.K W relI te f
/-- a quiet one: nothing is changed -/
def JQ (X : Cx) (e : Expr) (f : Env → Option D) : Prop := ∃ te, PE X e te ∧ ∀ Φ G H σ E Q d, Sat X.K Φ G H σ E → f E = some d → (∀ G' H' v, Ex G G' → Ex H H' → Sat X.K Φ G' H' σ E → Rp X.K G' v d → Q v H') → te σ H Q

section
variable {X : Cx} {W : WJ} {a b c e o : Expr} {es : List Expr} {pos : Pos} {fa fb fc : Env → R D}
theorem JE.toO (h : JE X W e fa) : JO X W e fa := by
  obtain ⟨te, h1, h2⟩ := h
  refine ⟨te, h1, fun Φ G H σ E Q S hp => h2 Φ G H σ E Q S ?_⟩
  cases e : fa E with
  | ok d E' => rw [e] at hp; exact fun G' H' v e' S' r => hp G' H' v e' S' (Rp.sh S'.gh r)
  | exc x E' => rw [e] at hp; exact hp
  | stuck => rw [e] at hp; exact hp
def fQ (f : Env → Option D) : Env → R D := fun E => match f E with | some d => .ok d E | none => .stuck
theorem Post.opt {K : PySem.W.Frag} {Φ : Fr} {G : Hp} {σ : St} {E : Env} {o : Option D} {Q : VK} (h : Post K W.w (relE K) Φ G σ (match o with | some d => .ok d E | none => .stuck) Q) : ∃ d, o = some d ∧ ∀ G' H' v, Ex G G' → Sat K Φ G' H' σ E → Rp K G' v d → Q v H' := by
  cases o with
  | some d => exact ⟨d, rfl, h⟩
  | none => exact h.elim
theorem JQ.toE {f : Env → Option D} (h : JQ X e f) : JE X W e (fQ f) := by
  obtain ⟨te, h1, h2⟩ := h
  refine ⟨te, h1, fun Φ G H σ E Q S hp => ?_⟩
  obtain ⟨d, hd, hq⟩ := Post.opt (o := f E) hp
  exact h2 Φ G H σ E Q d S hd fun G' H' v e1 e2 S' r => hq G' H' v e1 S' r

/-! ### names, constants -/
def getV (i : Nat) (E : Env) : Option D := match E[i]? with
  | some (.val d) => some d
  | _ => none
def fVar (i : Nat) : Env → R D := fun E => match E[i]? with
  | some (.val d) => .ok d E
  | _ => .stuck
theorem jq_var (i : Nat) {x : Str} (hN : X.N[i]? = some x := by rfl) (hv : Vis X.env.scope x := by first | exact Or.inl rfl | exact Or.inr (Or.inl rfl) | exact Or.inr (Or.inr rfl)) (hd : (x == ("__debug__" : Str)) = false := by decide)
    (hcd : (x == ("__classdict__" : Str)) = false := by decide) : JQ X (.Name x pos) (getV i) := by
  refine ⟨tVar i, pe_var hN hv hd hcd, fun Φ G H σ E Q d S hf k => ?_⟩
  unfold getV at hf
  cases e : E[i]? with
  | none => rw [e] at hf; cases hf
  | some s =>
    rw [e] at hf
    cases s with
    | no => cases hf
    | obj _ _ _ _ => cases hf
    | own _ l => cases hf
    | val d' =>
      cases hf
      obtain ⟨x, hx, v, rfl, r⟩ := S.sl i _ e
      exact ⟨v, hx, k G H v (Ex.refl G) (Ex.refl H) S r⟩
theorem j_var (i : Nat) {x : Str} (hN : X.N[i]? = some x := by rfl) (hv : Vis X.env.scope x := by first | exact Or.inl rfl | exact Or.inr (Or.inl rfl) | exact Or.inr (Or.inr rfl)) (hd : (x == ("__debug__" : Str)) = false := by decide)
    (hcd : (x == ("__classdict__" : Str)) = false := by decide) : JE X W (.Name x pos) (fVar i) := by
  refine ⟨tVar i, pe_var hN hv hd hcd, fun Φ G H σ E Q S hp => ?_⟩
  unfold fVar at hp
  cases e : E[i]? with
  | none => rw [e] at hp; exact hp.elim
  | some s =>
    rw [e] at hp
    cases s with
    | no => exact hp.elim
    | obj _ _ _ _ => exact hp.elim
    | own _ l => exact hp.elim
    | val d' =>
      obtain ⟨x, hx, v, rfl, r⟩ := S.sl i _ e
      exact ⟨v, hx, hp G H v (Ex.refl G) S r⟩
/-- an own list, looked at -/
def fBor (i : Nat) : Env → R D := fun E => match E[i]? with
  | some (.own _ l) => .ok (.lst l) E
  | some (.val d) => .ok d E
  | _ => .stuck
theorem j_bor (i : Nat) {x : Str} (hN : X.N[i]? = some x := by rfl) (hv : Vis X.env.scope x := by first | exact Or.inl rfl | exact Or.inr (Or.inl rfl) | exact Or.inr (Or.inr rfl)) (hd : (x == ("__debug__" : Str)) = false := by decide)
    (hcd : (x == ("__classdict__" : Str)) = false := by decide) : JO X W (.Name x pos) (fBor i) := by
  refine ⟨tVar i, pe_var hN hv hd hcd, fun Φ G H σ E Q S hp => ?_⟩
  unfold fBor at hp
  cases e : E[i]? with
  | none => rw [e] at hp; exact hp.elim
  | some s =>
    rw [e] at hp
    cases s with
    | no => exact hp.elim
    | obj _ _ _ _ => exact hp.elim
    | own _ l =>
      obtain ⟨x, hx, p, vs, rfl, h1, h2⟩ := S.sl i _ e
      exact ⟨.ref p, hx, hp G H _ (Ex.refl G) S ⟨p, vs, rfl, h1, h2⟩⟩
    | val d' =>
      obtain ⟨x, hx, v, rfl, r⟩ := S.sl i _ e
      exact ⟨v, hx, hp G H v (Ex.refl G) S (Rp.sh S.gh r)⟩
def fC (d : D) : Env → R D := fun E => .ok d E
theorem j_c {v : V} {d : D} (h : PE X e (tC v)) (r : ∀ G, Rp X.K G v d) : JE X W e (fC d) :=
  ⟨tC v, h, fun Φ G H σ E Q S hp => hp G H v (Ex.refl G) S (r G)⟩
theorem jq_c {v : V} {d : D} (h : PE X e (tC v)) (r : ∀ G, Rp X.K G v d) : JQ X e (fun _ => some d) :=
  ⟨tC v, h, fun Φ G H σ E Q d' S hf k => by cases hf; exact k G H v (Ex.refl G) (Ex.refl H) S (r G)⟩
theorem j_int {i j} : JE X W (.Constant (.int i) j pos) (fC (.int i)) := j_c pe_int fun _ => .int _
theorem jq_int {i j} : JQ X (.Constant (.int i) j pos) (fun _ => some (.int i)) := jq_c pe_int fun _ => .int _
theorem j_bl {i j} : JE X W (.Constant (.bool i) j pos) (fC (.bl i)) := j_c pe_bl fun _ => .bl _
theorem j_non {j} : JE X W (.Constant .none j pos) (fC .non) := j_c pe_non fun _ => .non
theorem j_str {x j} : JE X W (.Constant (.str x) j pos) (fC (.str x)) := j_c pe_str fun _ => .str _
/-- a module's int -/
theorem j_gint {x : Str} {i : Int} (hm : ∃ t, X.mg x = some (.int i t)) (hg : Gl X x := by rfl) (hd : (x == ("__debug__" : Str)) = false := by decide) : JE X W (.Name x pos) (fC (.int i)) := by
  obtain ⟨t, hm⟩ := hm
  exact j_c (pe_glob (v := .int i) hg hm ⟨t, rfl⟩ hd) fun _ => .int _
theorem j_gstr {x y : Str} (hm : ∃ t, X.mg x = some (.str y t)) (hg : Gl X x := by rfl) (hd : (x == ("__debug__" : Str)) = false := by decide) : JE X W (.Name x pos) (fC (.str y)) := by
  obtain ⟨t, hm⟩ := hm
  exact j_c (pe_glob (v := .str y) hg hm ⟨t, rfl⟩ hd) fun _ => .str _

/-! ### operations by values -/
/-- r does g on what is told -/
def OpS (K : PySem.W.Frag) (r : R2) (g : D → D → Option D) : Prop :=
  ∀ Φ G H σ E x y a b d Q, Sat K Φ G H σ E → Sh K G H x a → Sh K G H y b → g a b = some d → (∀ G' H' v, Ex G G' → Ex H H' → Sat K Φ G' H' σ E → Rp K G' v d → Q v H') → r x y H Q
theorem OpS.or {K : PySem.W.Frag} {r r' : R2} {g g' : D → D → Option D} (h : OpS K r g) (h' : OpS K r' g') : OpS K (fun x y H Q => r x y H Q ∨ r' x y H Q) (fun a b => match g a b with | some d => some d | none => g' a b) := by
  intro Φ G H σ E x y a b d Q S ha hb hg k
  cases e : g a b with
  | some d' => simp only [e] at hg; cases hg; exact .inl (h Φ G H σ E x y a b d Q S ha hb e k)
  | none => simp only [e] at hg; exact .inr (h' Φ G H σ E x y a b d Q S ha hb hg k)
def fop (g : D → D → Option D) (fa fb : Env → R D) : Env → R D := fun E => (fa E).bind fun a E => (fb E).bind fun b E => match g a b with | some d => .ok d E | none => .stuck
theorem snd_op {r : R2} {g : D → D → Option D} {ta tb : TE} (hs : OpS X.K r g) (ha : Snd X.K W (relE X.K) ta fa) (hb : Snd X.K W (relO X.K) tb fb) : Snd X.K W (relE X.K) (tOp r ta tb) (fop g fa fb) := by
  intro Φ G H σ E Q S hp
  refine ha.go S hp fun a E1 G1 H1 x _ e1 S1 r1 hp => ?_
  refine hb.go S1 hp fun b E2 G2 H2 y _ e2 S2 r2 hp => ?_
  obtain ⟨d, hd, hq⟩ := hp.opt
  exact hs Φ G2 H2 σ E2 x y a b d Q S2 (Rp.sh S2.gh (Rp.mono e2 _ r1)) r2 hd fun G' H' v e _ S' r => hq G' H' v e S' r
theorem j_op {op : Operator} {r : R2} {g : D → D → Option D} (ho : OpR X (binaryOp op) r) (hs : OpS X.K r g) (ha : JE X W a fa) (hb : JO X W b fb) : JE X W (.BinOp a op b pos) (fop g fa fb) := by
  obtain ⟨ta, pa, sa⟩ := ha
  obtain ⟨tb, pb, sb⟩ := hb
  exact ⟨_, pe_op ho pa pb, snd_op hs sa sb⟩
/-- the left one looked at, the right one quiet -/
def fopB (g : D → D → Option D) (fa : Env → R D) (fb : Env → Option D) : Env → R D := fun E => (fa E).bind fun a E => match (fb E).bind (g a) with | some d => .ok d E | none => .stuck
theorem snd_opB {r : R2} {g : D → D → Option D} {fb : Env → Option D} {ta tb : TE} (hs : OpS X.K r g) (ha : Snd X.K W (relO X.K) ta fa)
    (hb : ∀ Φ G H σ E Q d, Sat X.K Φ G H σ E → fb E = some d → (∀ G' H' v, Ex G G' → Ex H H' → Sat X.K Φ G' H' σ E → Rp X.K G' v d → Q v H') → tb σ H Q) : Snd X.K W (relE X.K) (tOp r ta tb) (fopB g fa fb) := by
  intro Φ G H σ E Q S hp
  refine ha.go S hp fun a E1 G1 H1 x _ e1 S1 r1 hp => ?_
  obtain ⟨d, hd, hq⟩ := hp.opt
  obtain ⟨b, hb1, hb2⟩ := Option.bind_eq_some_iff.mp hd
  refine hb Φ G1 H1 σ E1 _ b S1 hb1 fun G2 H2 y e2 e3 S2 r2 => ?_
  exact hs Φ G2 H2 σ E1 x y a b d Q S2 (r1.mono e2 e3) (Rp.sh S2.gh r2) hb2 fun G' H' v e _ S' r => hq G' H' v (e2.trans e) S' r
theorem j_opB {op : Operator} {r : R2} {g : D → D → Option D} {fb : Env → Option D} (ho : OpR X (binaryOp op) r) (hs : OpS X.K r g) (ha : JO X W a fa) (hb : JQ X b fb) : JE X W (.BinOp a op b pos) (fopB g fa fb) := by
  obtain ⟨ta, pa, sa⟩ := ha
  obtain ⟨tb, pb, sb⟩ := hb
  exact ⟨_, pe_op ho pa pb, snd_opB hs sa sb⟩
theorem jq_op {op : Operator} {r : R2} {g : D → D → Option D} {qa qb : Env → Option D} (ho : OpR X (binaryOp op) r) (hs : OpS X.K r g) (ha : JQ X a qa) (hb : JQ X b qb) : JQ X (.BinOp a op b pos) (fun E => (qa E).bind fun x => (qb E).bind fun y => g x y) := by
  obtain ⟨ta, pa, sa⟩ := ha
  obtain ⟨tb, pb, sb⟩ := hb
  refine ⟨_, pe_op ho pa pb, fun Φ G H σ E Q d S hf k => ?_⟩
  obtain ⟨x, hx, hf⟩ := Option.bind_eq_some_iff.mp hf
  obtain ⟨y, hy, hf⟩ := Option.bind_eq_some_iff.mp hf
  refine sa Φ G H σ E _ x S hx fun G1 H1 u e1 f1 S1 r1 => ?_
  refine sb Φ G1 H1 σ E _ y S1 hy fun G2 H2 w e2 f2 S2 r2 => ?_
  exact hs Φ G2 H2 σ E u w x y d Q S2 (Rp.sh S2.gh (Rp.mono e2 _ r1)) (Rp.sh S2.gh r2) hf fun G' H' v e f S' r => k G' H' v ((e1.trans e2).trans e) ((f1.trans f2).trans f) S' r

/-! ### ints -/
def g2I (g : Int → Int → Option Int) : D → D → Option D
  | .int i, .int j => (g i j).map D.int
  | _, _ => none
def g2B (g : Int → Int → Bool) : D → D → Option D
  | .int i, .int j => some (.bl (g i j))
  | _, _ => none
theorem opS_I {K : PySem.W.Frag} {C : Int → Int → Prop} {h : Int → Int → Int} {g : Int → Int → Option Int} (hg : ∀ i j k, g i j = some k → C i j ∧ k = h i j) : OpS K (rI C fun i j => .int (h i j)) (g2I g) := by
  intro Φ G H σ E x y a b d Q S ha hb hd k
  cases a with
  | int i =>
    cases b with
    | int j =>
      cases ha; cases hb
      obtain ⟨z, hz, rfl⟩ := Option.map_eq_some_iff.mp (show (g i j).map D.int = some d from hd)
      obtain ⟨c, rfl⟩ := hg i j z hz
      exact ⟨i, j, rfl, rfl, c, k G H _ (Ex.refl G) (Ex.refl H) S (.int _)⟩
    | _ => cases hd
  | _ => cases hd
theorem opS_I0 {K : PySem.W.Frag} {h : Int → Int → Int} : OpS K (rI0 fun i j => .int (h i j)) (g2I fun i j => some (h i j)) := by
  intro Φ G H σ E x y a b d Q S ha hb hd k
  cases a with
  | int i =>
    cases b with
    | int j =>
      cases ha; cases hb
      cases hd
      exact ⟨i, j, rfl, rfl, k G H _ (Ex.refl G) (Ex.refl H) S (.int _)⟩
    | _ => cases hd
  | _ => cases hd
theorem opS_B0 {K : PySem.W.Frag} {h : Int → Int → Bool} : OpS K (rI0 fun i j => .bl (h i j)) (g2B h) := by
  intro Φ G H σ E x y a b d Q S ha hb hd k
  cases a with
  | int i =>
    cases b with
    | int j =>
      cases ha; cases hb
      cases hd
      exact ⟨i, j, rfl, rfl, k G H _ (Ex.refl G) (Ex.refl H) S (.bl _)⟩
    | _ => cases hd
  | _ => cases hd
end
end J

namespace J
open PySem PySem.Spec PyProof.Rows L2

/-! ### data that == reads -/
mutual
def toPy : D → PyData
  | .non => .none
  | .bl b => .bool b
  | .int i => .int i
  | .str x => .str x
  | .tup l => .tuple (toPys l)
  | .lst l => .list (toPys l)
  | .rol l => .list (toPys l)
  | .ins _ _ _ => .none
def toPys : List D → List PyData
  | [] => []
  | d :: ds => toPy d :: toPys ds
end
mutual
def plain : D → Bool
  | .tup l => plains l
  | .lst l => plains l
  | .rol l => plains l
  | .ins _ _ _ => false
  | _ => true
def plains : List D → Bool
  | [] => true
  | d :: ds => plain d && plains ds
end
def okD (d : D) : Bool := plain d && SeqAt.shaped (toPy d)
section
variable {K : PySem.W.Frag} {G H : Hp}
mutual
theorem Rp.dp : ∀ (d : D) {v : V}, plain d = true → Rp K G v d → Dp K G v (toPy d)
  | .non, _, _, h => by cases h; exact .non
  | .bl b, _, _, h => by cases h; exact .bl b
  | .int b, _, _, h => by cases h; exact .int b
  | .str b, _, _, h => by cases h; exact .str b
  | .tup l, _, p, h => by
    cases h with
    | tup h1 h2 => exact .tup h1 (RpA.dp l (by simpa [plain] using p) h2)
  | .lst l, _, p, h => by
    cases h with
    | lst h1 h2 => exact .lst (SqL.of h1) (RpA.dp l (by simpa [plain] using p) h2)
  | .rol l, _, p, h => by
    cases h with
    | rol h1 h2 => exact .lst h1 (RpA.dp l (by simpa [plain] using p) h2)
  | .ins _ _ _, _, p, h => by simp [plain] at p
theorem RpA.dp : ∀ (ds : List D) {vs : List V}, plains ds = true → RpA K G vs ds → DpAll K G vs (toPys ds)
  | [], _, _, h => by cases h; exact .nil
  | d :: ds, _, p, h => by
    have p' : plain d = true ∧ plains ds = true := by simpa [plains] using p
    cases h with
    | cons h1 h2 => exact .cons (Rp.dp d p'.1 h1) (RpA.dp ds p'.2 h2)
end
theorem Sh.dp {d : D} {v : V} (p : plain d = true) (e : Ex G H) (h : Sh K G H v d) : Dp K H v (toPy d) := by
  cases d with
  | lst l =>
    obtain ⟨a, vs, rfl, h1, h2⟩ := h
    exact .lst (SqL.of h1) (RpA.dp l (by simpa [plain] using p) (h2.mono e))
  | _ => exact Rp.dp _ p (Rp.mono e _ h)
end

/-! ### operators -/
def gSub : D → D → Option D := g2I fun i j => some (i - j)
def gMulI (i j : Int) : Option Int := if i.natAbs.log2 + j.natAbs.log2 < 1000000 then some (i * j) else none
def gDivI (i j : Int) : Option Int := if 0 < j ∧ j.natAbs.log2 < 9000 then some (i / j) else none
def gModI (i j : Int) : Option Int := if 0 < j then some (i % j) else none
def gPowI (i j : Int) : Option Int := if 0 ≤ j ∧ j ≤ 1000000 ∧ i.natAbs < 2 ^ 64 then some (i ^ j.toNat) else none
def gShlI (i j : Int) : Option Int := if 0 ≤ j ∧ j ≤ 1000000 ∧ i.natAbs < 2 ^ 64 then some (i * 2 ^ j.toNat) else none
def gShrI (i j : Int) : Option Int := if 0 ≤ j then some (i / 2 ^ j.toNat) else none
def gDiv : D → D → Option D := g2I gDivI
def gMod : D → D → Option D := g2I gModI
def gPow : D → D → Option D := g2I gPowI
def gShl : D → D → Option D := g2I gShlI
def gShr : D → D → Option D := g2I gShrI
def gAnd : D → D → Option D := g2I fun i j => some (Builtin.bitAnd i j)
def gOr : D → D → Option D := g2I fun i j => some (Builtin.bitOr i j)
def gXor : D → D → Option D := g2I fun i j => some (Builtin.bitXor i j)
def gAdd : D → D → Option D
  | .int i, .int j => some (.int (i + j))
  | .str x, .str y => if x.length + y.length ≤ 16777216 then some (.str (x ++ y)) else none
  | .lst x, .lst y => if x.length + y.length ≤ 16777216 then some (.lst (x ++ y)) else none
  | .tup x, .tup y => if x.length + y.length ≤ 16777216 then some (.tup (x ++ y)) else none
  | _, _ => none
def gMul : D → D → Option D
  | .int i, .int j => (gMulI i j).map D.int
  | .lst x, .int k => if 0 ≤ k ∧ k ≤ 1000000 ∧ x.length * k.toNat ≤ 16777216 then some (.lst (List.replicate k.toNat x).flatten) else none
  | _, _ => none
def gEq : D → D → Option D := fun a b => if (okD a && okD b) = true then some (.bl (PyData.eqv (toPy a) (toPy b))) else none
def gNe : D → D → Option D := fun a b => if (okD a && okD b) = true then some (.bl (!PyData.eqv (toPy a) (toPy b))) else none
def gLt : D → D → Option D := g2B fun i j => decide (i < j)
def gLe : D → D → Option D := g2B fun i j => decide (i ≤ j)
def gGt : D → D → Option D := g2B fun i j => decide (j < i)
def gGe : D → D → Option D := g2B fun i j => decide (j ≤ i)
theorem if_some {c : Prop} [Decidable c] {α : Type} {a k : α} (h : (if c then some a else none) = some k) : c ∧ k = a := by
  by_cases hc : c
  · rw [if_pos hc] at h; exact ⟨hc, (Option.some.inj h).symm⟩
  · rw [if_neg hc] at h; cases h
section
variable {K : PySem.W.Frag}
theorem opS_mulI : OpS K (rI CMulW fun i j => .int (i * j)) (g2I gMulI) := opS_I fun i j k h => if_some (c := i.natAbs.log2 + j.natAbs.log2 < 1000000) h
theorem opS_div : OpS K (rI CDivW fun i j => .int (i / j)) gDiv := opS_I fun i j k h => if_some (c := 0 < j ∧ j.natAbs.log2 < 9000) h
theorem opS_mod : OpS K (rI (fun _ j => 0 < j) fun i j => .int (i % j)) gMod := opS_I fun i j k h => if_some h
theorem opS_pow : OpS K (rI CPow fun i j => .int (i ^ j.toNat)) gPow := opS_I fun i j k h => if_some (c := 0 ≤ j ∧ j ≤ 1000000 ∧ i.natAbs < 2 ^ 64) h
theorem opS_shl : OpS K (rI CPow fun i j => .int (i * 2 ^ j.toNat)) gShl := opS_I fun i j k h => if_some (c := 0 ≤ j ∧ j ≤ 1000000 ∧ i.natAbs < 2 ^ 64) h
theorem opS_shr : OpS K (rI (fun _ j => 0 ≤ j) fun i j => .int (i / 2 ^ j.toNat)) gShr := opS_I fun i j k h => if_some h
theorem sz {n : Nat} (h : n ≤ 16777216) : n ≤ sizeLine := by rw [sizeLine_eq]; exact h
/-- a new object, given -/
theorem give_new {Φ : Fr} {G H : Hp} {σ : St} {E : Env} {Q : VK} {d : D} {o : HO} (S : Sat K Φ G H σ E) (k : ∀ G' H' v, Ex G G' → Ex H H' → Sat K Φ G' H' σ E → Rp K G' v d → Q v H')
    (r : ∀ p, G p = none → Rp K (upd G p o) (.ref p) d) : ∀ p, H p = none → Q (.ref p) (upd H p o) := fun p hp => by
  have g := S.gh.back hp
  exact k _ _ _ (Ex.new g) (Ex.new hp) (S.new hp) (r p g)
abbrev rAdd4 (K : PySem.W.Frag) : R2 := fun x y H Q => (rI0 fun i j => .int (i + j)) x y H Q ∨ ((fun x y H Q => ∃ i j, x = .str i ∧ y = .str j ∧ i.length + j.length ≤ sizeLine ∧ Q (.str (i ++ j)) H : R2) x y H Q ∨ (rCat x y H Q ∨ rCatA K x y H Q))
theorem op_add4 {X : Cx} : OpR X (binaryOp .Add) (rAdd4 X.K) := OpR.or op_add (OpR.or op_add_str (OpR.or op_cat op_catA))
theorem opS_add : OpS K (rAdd4 K) gAdd := by
  intro Φ G H σ E x y a b d Q S ha hb hd k
  cases a with
  | int i =>
    cases b with
    | int j => cases ha; cases hb; cases hd; exact .inl ⟨i, j, rfl, rfl, k G H _ (Ex.refl G) (Ex.refl H) S (.int _)⟩
    | _ => cases hd
  | str i =>
    cases b with
    | str j =>
      cases ha; cases hb
      obtain ⟨c, rfl⟩ := if_some hd
      exact .inr (.inl ⟨i, j, rfl, rfl, sz c, k G H _ (Ex.refl G) (Ex.refl H) S (.str _)⟩)
    | _ => cases hd
  | lst i =>
    cases b with
    | lst j =>
      obtain ⟨p, vs, rfl, h1, h2⟩ := ha
      obtain ⟨q, ws, rfl, h3, h4⟩ := hb
      obtain ⟨c, rfl⟩ := if_some hd
      refine .inr (.inr (.inl ⟨p, q, vs, ws, rfl, rfl, h1, h3, sz (by rw [h2.length, h4.length]; exact c), give_new S k fun r g => ?_⟩))
      exact .lst upd_same ((h2.append h4).mono (Ex.new g))
    | _ => cases hd
  | tup i =>
    cases b with
    | tup j =>
      cases ha with
      | tup h1 h2 =>
        cases hb with
        | tup h3 h4 =>
          obtain ⟨c, rfl⟩ := if_some hd
          refine .inr (.inr (.inr ⟨_, _, _, _, rfl, rfl, S.gh.st h1, S.gh.st h3, sz (by rw [h2.length, h4.length]; exact c), fun e => ?_, fun n e => ?_, fun n n2 => give_new S k fun r g => ?_⟩))
          · subst e
            cases i with
            | nil => exact k G H _ (Ex.refl G) (Ex.refl H) S (.tup h3 h4)
            | cons _ _ => cases h2
          · subst e
            cases j with
            | nil => rw [List.append_nil] at k; exact k G H _ (Ex.refl G) (Ex.refl H) S (.tup h1 h2)
            | cons _ _ => cases h4
          · exact .tup (SqT.of upd_same) ((h2.append h4).mono (Ex.new g))
    | _ => cases hd
  | _ => cases b <;> cases hd
abbrev rMul2 : R2 := fun x y H Q => (rI CMulW fun i j => .int (i * j)) x y H Q ∨ rRep x y H Q
theorem op_mul2 {X : Cx} : OpR X (binaryOp .Mult) rMul2 := OpR.or op_mulW op_rep
theorem opS_mul : OpS K rMul2 gMul := by
  intro Φ G H σ E x y a b d Q S ha hb hd k
  cases a with
  | int i =>
    cases b with
    | int j => exact .inl (opS_mulI Φ G H σ E x y (.int i) (.int j) d Q S ha hb hd k)
    | _ => cases hd
  | lst i =>
    cases b with
    | int j =>
      obtain ⟨p, vs, rfl, h1, h2⟩ := ha
      cases hb
      obtain ⟨⟨c1, c2, c3⟩, rfl⟩ := if_some hd
      refine .inr ⟨p, j, vs, rfl, rfl, h1, by omega, by omega, sz (by rw [h2.length]; exact c3), give_new S k fun r g => ?_⟩
      exact .lst upd_same ((h2.flat _).mono (Ex.new g))
    | _ => cases hd
  | _ => cases b <;> cases hd
theorem opS_eq : OpS K (rEqD K) gEq := by
  intro Φ G H σ E x y a b d Q S ha hb hd k
  obtain ⟨c, rfl⟩ := if_some hd
  obtain ⟨c1, c2⟩ := Bool.and_eq_true_iff.mp c
  obtain ⟨p1, s1⟩ := Bool.and_eq_true_iff.mp c1
  obtain ⟨p2, s2⟩ := Bool.and_eq_true_iff.mp c2
  exact ⟨_, _, ha.dp p1 S.gh, hb.dp p2 S.gh, s1, s2, k G H _ (Ex.refl G) (Ex.refl H) S (.bl _)⟩
theorem opS_ne : OpS K (rNeD K) gNe := by
  intro Φ G H σ E x y a b d Q S ha hb hd k
  obtain ⟨c, rfl⟩ := if_some hd
  obtain ⟨c1, c2⟩ := Bool.and_eq_true_iff.mp c
  obtain ⟨p1, s1⟩ := Bool.and_eq_true_iff.mp c1
  obtain ⟨p2, s2⟩ := Bool.and_eq_true_iff.mp c2
  exact ⟨_, _, ha.dp p1 S.gh, hb.dp p2 S.gh, s1, s2, k G H _ (Ex.refl G) (Ex.refl H) S (.bl _)⟩
/-- x in l, flat things -/
def flatD : D → Bool
  | .non => true
  | .bl _ => true
  | .int _ => true
  | .str _ => true
  | _ => false
def vD : D → V
  | .bl b => .bl b
  | .int i => .int i
  | .str x => .str x
  | _ => .non
theorem Rp.flat {G : Hp} {v : V} {d : D} (h : Rp K G v d) (f : flatD d = true) : v = vD d ∧ flatV v = true := by
  cases h with
  | non => exact ⟨rfl, rfl⟩
  | bl b => exact ⟨rfl, rfl⟩
  | int b => exact ⟨rfl, rfl⟩
  | str b => exact ⟨rfl, rfl⟩
  | _ => cases f
theorem RpA.flats {G : Hp} {vs : List V} {ds : List D} (h : RpA K G vs ds) (f : ds.all flatD = true) : vs = ds.map vD ∧ vs.all flatV = true := by
  induction ds generalizing vs with
  | nil => cases h; exact ⟨rfl, rfl⟩
  | cons d ds ih =>
    cases h with
    | cons h1 h2 =>
      rw [List.all_cons] at f
      obtain ⟨f1, f2⟩ := Bool.and_eq_true_iff.mp f
      obtain ⟨a1, a2⟩ := h1.flat f1
      obtain ⟨b1, b2⟩ := ih h2 f2
      subst b1
      exact ⟨by rw [a1]; rfl, by rw [List.all_cons, a2, b2]; rfl⟩
def itemsD : D → Option (List D)
  | .lst l => some l
  | .rol l => some l
  | .tup l => some l
  | _ => none
theorem Sh.items {G H : Hp} {v : V} {d : D} {l : List D} (h : Sh K G H v d) (e : Ex G H) (hl : itemsD d = some l) : ∃ p vs, v = .ref p ∧ (SqL K H p vs ∨ SqT K H p vs) ∧ RpA K G vs l := by
  cases d with
  | lst l' => cases hl; obtain ⟨p, vs, h1, h2, h3⟩ := h; exact ⟨p, vs, h1, .inl (SqL.of h2), h3⟩
  | rol l' => cases hl; cases h with | rol h1 h2 => exact ⟨_, _, rfl, .inl (e.sl h1), h2⟩
  | tup l' => cases hl; cases h with | tup h1 h2 => exact ⟨_, _, rfl, .inr (e.st h1), h2⟩
  | _ => cases hl
def gInB (neg : Bool) : D → D → Option D := fun a b => match itemsD b with
  | some l => if (flatD a && l.all flatD) = true then some (.bl (if neg then !inV (vD a) (l.map vD) else inV (vD a) (l.map vD))) else none
  | none => none
theorem opS_in (neg : Bool) : OpS K (rIn K neg) (gInB neg) := by
  intro Φ G H σ E x y a b d Q S ha hb hd k
  unfold gInB at hd
  cases e : itemsD b with
  | none => rw [e] at hd; cases hd
  | some l =>
    rw [e] at hd
    obtain ⟨c, rfl⟩ := if_some hd
    obtain ⟨c1, c2⟩ := Bool.and_eq_true_iff.mp c
    obtain ⟨p, vs, rfl, hs, hr⟩ := hb.items S.gh e
    have ha' : Rp K G x a := by
      cases a with
      | lst _ => cases c1
      | _ => exact ha
    obtain ⟨a1, a2⟩ := ha'.flat c1
    obtain ⟨b1, b2⟩ := hr.flats c2
    subst a1 b1
    exact ⟨p, _, rfl, hs, a2, b2, k G H _ (Ex.refl G) (Ex.refl H) S (.bl _)⟩
end

section
variable {X : Cx} {W : WJ} {a b c e o : Expr} {es : List Expr} {pos : Pos} {fa fb fc : Env → R D}
theorem j_add (ha : JE X W a fa) (hb : JO X W b fb) : JE X W (.BinOp a .Add b pos) (fop gAdd fa fb) := j_op op_add4 opS_add ha hb
theorem j_sub (ha : JE X W a fa) (hb : JO X W b fb) : JE X W (.BinOp a .Sub b pos) (fop gSub fa fb) := j_op op_sub opS_I0 ha hb
theorem j_mul (ha : JE X W a fa) (hb : JO X W b fb) : JE X W (.BinOp a .Mult b pos) (fop gMul fa fb) := j_op op_mul2 opS_mul ha hb
theorem j_fdiv (ha : JE X W a fa) (hb : JO X W b fb) : JE X W (.BinOp a .FloorDiv b pos) (fop gDiv fa fb) := j_op op_fdivW opS_div ha hb
theorem j_mod (ha : JE X W a fa) (hb : JO X W b fb) : JE X W (.BinOp a .Mod b pos) (fop gMod fa fb) := j_op op_mod opS_mod ha hb
theorem j_pow (ha : JE X W a fa) (hb : JO X W b fb) : JE X W (.BinOp a .Pow b pos) (fop gPow fa fb) := j_op op_pow opS_pow ha hb
theorem j_shl (ha : JE X W a fa) (hb : JO X W b fb) : JE X W (.BinOp a .LShift b pos) (fop gShl fa fb) := j_op op_shl opS_shl ha hb
theorem j_shr (ha : JE X W a fa) (hb : JO X W b fb) : JE X W (.BinOp a .RShift b pos) (fop gShr fa fb) := j_op op_shr opS_shr ha hb
theorem j_and_ (ha : JE X W a fa) (hb : JO X W b fb) : JE X W (.BinOp a .BitAnd b pos) (fop gAnd fa fb) := j_op op_and opS_I0 ha hb
theorem j_or_ (ha : JE X W a fa) (hb : JO X W b fb) : JE X W (.BinOp a .BitOr b pos) (fop gOr fa fb) := j_op op_or opS_I0 ha hb
theorem j_xor_ (ha : JE X W a fa) (hb : JO X W b fb) : JE X W (.BinOp a .BitXor b pos) (fop gXor fa fb) := j_op op_xor opS_I0 ha hb
theorem jq_add {qa qb : Env → Option D} (ha : JQ X a qa) (hb : JQ X b qb) : JQ X (.BinOp a .Add b pos) (fun E => (qa E).bind fun x => (qb E).bind fun y => gAdd x y) := jq_op op_add4 opS_add ha hb
theorem jq_sub {qa qb : Env → Option D} (ha : JQ X a qa) (hb : JQ X b qb) : JQ X (.BinOp a .Sub b pos) (fun E => (qa E).bind fun x => (qb E).bind fun y => gSub x y) := jq_op op_sub opS_I0 ha hb
/-- one-place -/
def fun1 (g : D → Option D) (fa : Env → R D) : Env → R D := fun E => (fa E).bind fun a E => match g a with | some d => .ok d E | none => .stuck
def gNeg : D → Option D
  | .int i => some (.int (-i))
  | _ => none
def gInv : D → Option D
  | .int i => some (.int (Builtin.bitNot i))
  | _ => none
theorem j_neg (ha : JE X W a fa) : JE X W (.UnaryOp .USub a pos) (fun1 gNeg fa) := by
  obtain ⟨ta, pa, sa⟩ := ha
  refine ⟨_, pe_un un_neg pa, fun Φ G H σ E Q S hp => ?_⟩
  refine sa.go S hp fun a E1 G1 H1 x _ e1 S1 r1 hp => ?_
  obtain ⟨d, hd, hq⟩ := hp.opt
  cases a with
  | int i => cases hd; cases r1; exact ⟨i, rfl, hq G1 H1 _ (Ex.refl G1) S1 (.int _)⟩
  | _ => cases hd
theorem jq_neg {qa : Env → Option D} (ha : JQ X a qa) : JQ X (.UnaryOp .USub a pos) (fun E => (qa E).bind gNeg) := by
  obtain ⟨ta, pa, sa⟩ := ha
  refine ⟨_, pe_un un_neg pa, fun Φ G H σ E Q d S hf k => ?_⟩
  obtain ⟨x, hx, hf⟩ := Option.bind_eq_some_iff.mp hf
  refine sa Φ G H σ E _ x S hx fun G1 H1 u e1 f1 S1 r1 => ?_
  cases x with
  | int i => cases hf; cases r1; exact ⟨i, rfl, k G1 H1 _ e1 f1 S1 (.int _)⟩
  | _ => cases hf
theorem j_inv (ha : JE X W a fa) : JE X W (.UnaryOp .Invert a pos) (fun1 gInv fa) := by
  obtain ⟨ta, pa, sa⟩ := ha
  refine ⟨_, pe_un un_inv pa, fun Φ G H σ E Q S hp => ?_⟩
  refine sa.go S hp fun a E1 G1 H1 x _ e1 S1 r1 hp => ?_
  obtain ⟨d, hd, hq⟩ := hp.opt
  cases a with
  | int i => cases hd; cases r1; exact ⟨i, rfl, hq G1 H1 _ (Ex.refl G1) S1 (.int _)⟩
  | _ => cases hd

/-! ### comparisons -/
theorem j_cmp {op : CmpOp} {r : R2} {g : D → D → Option D} (ho : OpR X (compareOp op) r) (hs : OpS X.K r g) (ha : JE X W a fa) (hb : JO X W b fb) (hm : behindInMarks op b = false) : JE X W (.Compare a [op] [b] pos) (fop g fa fb) := by
  obtain ⟨ta, pa, sa⟩ := ha
  obtain ⟨tb, pb, sb⟩ := hb
  exact ⟨_, pe_cmpR ho pa pb hm, snd_op hs sa sb⟩
theorem j_cmpB {op : CmpOp} {r : R2} {g : D → D → Option D} {fb : Env → Option D} (ho : OpR X (compareOp op) r) (hs : OpS X.K r g) (ha : JO X W a fa) (hb : JQ X b fb) (hm : behindInMarks op b = false) : JE X W (.Compare a [op] [b] pos) (fopB g fa fb) := by
  obtain ⟨ta, pa, sa⟩ := ha
  obtain ⟨tb, pb, sb⟩ := hb
  exact ⟨_, pe_cmpR ho pa pb hm, snd_opB hs sa sb⟩
/-- a value as a test: a bool -/
def fTest (f : Env → R D) : Env → R Bool := fun E => (f E).bind fun d E => match d with | .bl k => .ok k E | _ => .stuck
theorem snd_test {te : TE} {f : Env → R D} (h : Snd X.K W (relE X.K) te f) : Snd X.K W relT (tTest te) (fTest f) := by
  intro Φ G H σ E Q S hp
  refine h.go S hp fun a E1 G1 H1 x _ e1 S1 r1 hp => ?_
  cases a with
  | bl k => cases r1; exact ⟨k, rfl, hp G1 H1 k (Ex.refl G1) S1 rfl⟩
  | _ => exact hp.elim
theorem jt_cmp {op : CmpOp} {r : R2} {g : D → D → Option D} (ho : OpR X (compareOp op) r) (hs : OpS X.K r g) (ha : JE X W a fa) (hb : JO X W b fb) (hm : behindInMarks op b = false) : JT X W (.Compare a [op] [b] pos) (fTest (fop g fa fb)) := by
  obtain ⟨ta, pa, sa⟩ := ha
  obtain ⟨tb, pb, sb⟩ := hb
  exact ⟨_, pt_cmpR ho pa pb hm, snd_test (snd_op hs sa sb)⟩
theorem jt_cmpB {op : CmpOp} {r : R2} {g : D → D → Option D} {fb : Env → Option D} (ho : OpR X (compareOp op) r) (hs : OpS X.K r g) (ha : JO X W a fa) (hb : JQ X b fb) (hm : behindInMarks op b = false) : JT X W (.Compare a [op] [b] pos) (fTest (fopB g fa fb)) := by
  obtain ⟨ta, pa, sa⟩ := ha
  obtain ⟨tb, pb, sb⟩ := hb
  exact ⟨_, pt_cmpR ho pa pb hm, snd_test (snd_opB hs sa sb)⟩
/-- a op b op' c -/
def fChain (g g' : D → D → Option D) (fa fb fc : Env → R D) : Env → R D := fun E => (fa E).bind fun a E => (fb E).bind fun b E => match g a b with
  | some (.bl true) => (fc E).bind fun c E => match g' b c with | some d => .ok d E | none => .stuck
  | some (.bl false) => .ok (.bl false) E
  | _ => .stuck
theorem snd_chain {r r' : R2} {g g' : D → D → Option D} {ta tb tc : TE} (hs : OpS X.K r g) (hs' : OpS X.K r' g') (ha : Snd X.K W (relE X.K) ta fa) (hb : Snd X.K W (relE X.K) tb fb) (hc : Snd X.K W (relO X.K) tc fc) : Snd X.K W (relE X.K) (tChain r r' ta tb tc) (fChain g g' fa fb fc) := by
  intro Φ G H σ E Q S hp
  refine ha.go S hp fun a E1 G1 H1 x _ e1 S1 r1 hp => ?_
  refine hb.go S1 hp fun b E2 G2 H2 y _ e2 S2 r2 hp => ?_
  cases e : g a b with
  | none => rw [e] at hp; exact hp.elim
  | some d =>
    rw [e] at hp
    refine hs Φ G2 H2 σ E2 x y a b d _ S2 (Rp.sh S2.gh (Rp.mono e2 _ r1)) (Rp.sh S2.gh r2) e fun G3 H3 v e3 _ S3 r3 => ?_
    cases d with
    | bl k =>
      cases r3
      refine ⟨k, rfl, ?_⟩
      cases k with
      | true =>
        refine iteT ?_
        refine hc.go (⟨S3, W.mono _ _ _ e3 S2.c⟩ : SatC X.K W _ _ _ _ _) (Post.mono e3 hp) fun c E4 G4 H4 z _ e4 S4 r4 hp => ?_
        obtain ⟨d, hd, hq⟩ := hp.opt
        exact hs' Φ G4 H4 σ E4 y z b c d Q S4 (Rp.sh S4.gh (Rp.mono (e3.trans e4) _ r2)) r4 hd fun G' H' v e _ S' r => hq G' H' v e S' r
      | false => exact iteF (Post.mono e3 hp G3 H3 _ (Ex.refl G3) S3 (.bl _))
    | _ => exact hp.elim
theorem j_chain {op op' : CmpOp} {r r' : R2} {g g' : D → D → Option D} (ho : OpR X (compareOp op) r) (ho' : OpR X (compareOp op') r') (hs : OpS X.K r g) (hs' : OpS X.K r' g') (ha : JE X W a fa) (hb : JE X W b fb) (hc : JO X W c fc)
    (hm : lastMarks [op, op'] [b, c] = false := by with_unfolding_all rfl) : JE X W (.Compare a [op, op'] [b, c] pos) (fChain g g' fa fb fc) := by
  obtain ⟨ta, pa, sa⟩ := ha
  obtain ⟨tb, pb, sb⟩ := hb
  obtain ⟨tc, pc, sc⟩ := hc
  exact ⟨_, pe_chain ho ho' pa pb pc hm, snd_chain hs hs' sa sb sc⟩
theorem jt_chain {op op' : CmpOp} {r r' : R2} {g g' : D → D → Option D} (ho : OpR X (compareOp op) r) (ho' : OpR X (compareOp op') r') (hs : OpS X.K r g) (hs' : OpS X.K r' g') (ha : JE X W a fa) (hb : JE X W b fb) (hc : JO X W c fc)
    (hm : lastMarks [op, op'] [b, c] = false := by with_unfolding_all rfl) : JT X W (.Compare a [op, op'] [b, c] pos) (fTest (fChain g g' fa fb fc)) := by
  obtain ⟨ta, pa, sa⟩ := ha
  obtain ⟨tb, pb, sb⟩ := hb
  obtain ⟨tc, pc, sc⟩ := hc
  exact ⟨_, pt_chain ho ho' pa pb pc hm, snd_test (snd_chain hs hs' sa sb sc)⟩
/-- is None -/
def isNonD : D → Bool
  | .non => true
  | _ => false
def fIsN (neg : Bool) (fa : Env → R D) : Env → R D := fun E => (fa E).bind fun a E => .ok (.bl (if neg then !isNonD a else isNonD a)) E
theorem Sh.non {K : PySem.W.Frag} {G H : Hp} {v : V} {d : D} (h : Sh K G H v d) : decide (v = .non) = isNonD d := by
  cases d with
  | lst l => obtain ⟨p, vs, rfl, _⟩ := h; rfl
  | non => cases h; rfl
  | _ => cases h <;> rfl
theorem j_isN {j pos'} (ha : JO X W a fa) : JE X W (.Compare a [.Is] [.Constant .none j pos'] pos) (fIsN false fa) := by
  obtain ⟨ta, pa, sa⟩ := ha
  refine ⟨_, pe_cmp (pc_isN pa), fun Φ G H σ E Q S hp => ?_⟩
  refine sa.go S hp fun a E1 G1 H1 x _ e1 S1 r1 hp => ?_
  show Q (.bl (decide (x = .non))) H1
  rw [r1.non]
  exact hp G1 H1 _ (Ex.refl G1) S1 (.bl _)
theorem j_notN {j pos'} (ha : JO X W a fa) : JE X W (.Compare a [.IsNot] [.Constant .none j pos'] pos) (fIsN true fa) := by
  obtain ⟨ta, pa, sa⟩ := ha
  refine ⟨_, pe_cmp (pc_notN pa), fun Φ G H σ E Q S hp => ?_⟩
  refine sa.go S hp fun a E1 G1 H1 x _ e1 S1 r1 hp => ?_
  show Q (.bl (!decide (x = .non))) H1
  rw [r1.non]
  exact hp G1 H1 _ (Ex.refl G1) S1 (.bl _)
theorem jt_isN {j pos'} (ha : JO X W a fa) : JT X W (.Compare a [.Is] [.Constant .none j pos'] pos) (fTest (fIsN false fa)) := by
  obtain ⟨ta, pa, sa⟩ := ha
  refine ⟨_, pt_cmp (pc_isN pa), fun Φ G H σ E Q S hp => ?_⟩
  refine snd_test (te := tIsN ta) (f := fIsN false fa) (fun Φ G H σ E Q S hp => ?_) Φ G H σ E Q S hp
  refine sa.go S hp fun a E1 G1 H1 x _ e1 S1 r1 hp => ?_
  show Q (.bl (decide (x = .non))) H1
  rw [r1.non]
  exact hp G1 H1 _ (Ex.refl G1) S1 (.bl _)
theorem jt_notN {j pos'} (ha : JO X W a fa) : JT X W (.Compare a [.IsNot] [.Constant .none j pos'] pos) (fTest (fIsN true fa)) := by
  obtain ⟨ta, pa, sa⟩ := ha
  refine ⟨_, pt_cmp (pc_notN pa), fun Φ G H σ E Q S hp => ?_⟩
  refine snd_test (te := tNotN ta) (f := fIsN true fa) (fun Φ G H σ E Q S hp => ?_) Φ G H σ E Q S hp
  refine sa.go S hp fun a E1 G1 H1 x _ e1 S1 r1 hp => ?_
  show Q (.bl (!decide (x = .non))) H1
  rw [r1.non]
  exact hp G1 H1 _ (Ex.refl G1) S1 (.bl _)

/-! ### truth, and, or, not, if -/
def truD : D → Option Bool
  | .non => some false
  | .bl b => some b
  | .int i => some (i != 0)
  | .str x => if x.length ≤ 16777216 then some ((x.length : Int) != 0) else none
  | .lst l => some (!l.isEmpty)
  | .rol l => some (!l.isEmpty)
  | .tup l => some (!l.isEmpty)
  | .ins _ _ _ => none
theorem RpA.emp {K : PySem.W.Frag} {G : Hp} {vs : List V} {ds : List D} (h : RpA K G vs ds) : vs.isEmpty = ds.isEmpty := by cases h <;> rfl
theorem Sh.tru {K : PySem.W.Frag} {G H : Hp} {v : V} {d : D} {k : Bool} (h : Sh K G H v d) (e : Ex G H) (hk : truD d = some k) : TruV K v H k := by
  cases d with
  | lst l => obtain ⟨p, vs, rfl, h1, h2⟩ := h; cases hk; exact .inl ⟨vs, SqL.of h1, by rw [h2.emp]⟩
  | non => cases h; cases hk; rfl
  | bl b => cases h; cases hk; rfl
  | int b => cases h; cases hk; rfl
  | str x => cases h; obtain ⟨c, rfl⟩ := if_some hk; exact ⟨sz c, rfl⟩
  | rol l => cases h with | rol h1 h2 => cases hk; exact .inl ⟨_, e.sl h1, by rw [h2.emp]⟩
  | tup l => cases h with | tup h1 h2 => cases hk; exact .inr (.inl ⟨_, e.st h1, by rw [h2.emp]⟩)
  | ins _ _ _ => cases hk
def fTru (f : Env → R D) : Env → R Bool := fun E => (f E).bind fun d E => match truD d with | some k => .ok k E | none => .stuck
theorem jt_tru (ha : JO X W a fa) (he : ∀ whole, isTrue a X.env whole = (do let v ← whole; standAt a.pos; holding [v] (truthy v)) := by intro _; rfl) : JT X W a (fTru fa) := by
  obtain ⟨ta, pa, sa⟩ := ha
  refine ⟨_, pt_truth pa he, fun Φ G H σ E Q S hp => ?_⟩
  refine sa.go S hp fun a E1 G1 H1 x _ e1 S1 r1 hp => ?_
  cases e : truD a with
  | none => rw [e] at hp; exact hp.elim
  | some k => rw [e] at hp; exact ⟨k, r1.tru S1.gh e, hp G1 H1 k (Ex.refl G1) S1 rfl⟩
def fAnd (f g : Env → R Bool) : Env → R Bool := fun E => (f E).bind fun a E => if a = true then g E else .ok false E
def fOr (f g : Env → R Bool) : Env → R Bool := fun E => (f E).bind fun a E => if a = true then .ok true E else g E
def fNot (f : Env → R Bool) : Env → R Bool := fun E => (f E).bind fun a E => .ok (!a) E
variable {f g : Env → R Bool}
theorem JW.t (h : JW X W e f) : JT X W e f := by obtain ⟨te, h1, h2⟩ := h; exact ⟨te, h1.pt, h2⟩
theorem jw_and1 (h : JT X W a f) : JW X W (.BoolOp .And [a] pos) f := by obtain ⟨te, h1, h2⟩ := h; exact ⟨te, pw_and1 h1, h2⟩
theorem jw_or1 (h : JT X W a f) : JW X W (.BoolOp .Or [a] pos) f := by obtain ⟨te, h1, h2⟩ := h; exact ⟨te, pw_or1 h1, h2⟩
theorem jw_and {rest : List Expr} (h : JT X W a f) (h' : JW X W (.BoolOp .And (b :: rest) pos) g) : JW X W (.BoolOp .And (a :: b :: rest) pos) (fAnd f g) := by
  obtain ⟨te, h1, h2⟩ := h
  obtain ⟨tu, h3, h4⟩ := h'
  refine ⟨_, pw_and h1 h3, fun Φ G H σ E Q S hp => ?_⟩
  refine h2.go S hp fun a E1 G1 H1 x _ e1 S1 r1 hp => ?_
  subst r1
  cases a with
  | true => exact iteT (h4 Φ G1 H1 σ E1 Q S1 hp)
  | false => exact iteF (hp G1 H1 _ (Ex.refl G1) S1 rfl)
theorem jw_or {rest : List Expr} (h : JT X W a f) (h' : JW X W (.BoolOp .Or (b :: rest) pos) g) : JW X W (.BoolOp .Or (a :: b :: rest) pos) (fOr f g) := by
  obtain ⟨te, h1, h2⟩ := h
  obtain ⟨tu, h3, h4⟩ := h'
  refine ⟨_, pw_or h1 h3, fun Φ G H σ E Q S hp => ?_⟩
  refine h2.go S hp fun a E1 G1 H1 x _ e1 S1 r1 hp => ?_
  subst r1
  cases a with
  | false => exact iteF (h4 Φ G1 H1 σ E1 Q S1 hp)
  | true => exact iteT (hp G1 H1 _ (Ex.refl G1) S1 rfl)
theorem jt_not (h : JT X W a f) : JT X W (.UnaryOp .Not a pos) (fNot f) := by
  obtain ⟨te, h1, h2⟩ := h
  refine ⟨_, pt_not h1, fun Φ G H σ E Q S hp => ?_⟩
  refine h2.go S hp fun a E1 G1 H1 x _ e1 S1 r1 hp => ?_
  subst r1
  exact hp G1 H1 _ (Ex.refl G1) S1 rfl
/-- .. as values -/
def fAndV (f g : Env → R D) : Env → R D := fun E => (f E).bind fun a E => match a with | .bl true => g E | .bl false => .ok (.bl false) E | _ => .stuck
def fOrV (f g : Env → R D) : Env → R D := fun E => (f E).bind fun a E => match a with | .bl false => g E | .bl true => .ok (.bl true) E | _ => .stuck
def gNot : D → Option D
  | .bl b => some (.bl (!b))
  | _ => none
theorem j_one {op} (h : JE X W a fa) : JE X W (.BoolOp op [a] pos) fa := by obtain ⟨te, h1, h2⟩ := h; exact ⟨te, pe_one h1, h2⟩
theorem j_and {rest : List Expr} (h : JE X W a fa) (h' : JE X W (.BoolOp .And (b :: rest) pos) fb) : JE X W (.BoolOp .And (a :: b :: rest) pos) (fAndV fa fb) := by
  obtain ⟨te, h1, h2⟩ := h
  obtain ⟨tu, h3, h4⟩ := h'
  refine ⟨_, pe_and h1 h3, fun Φ G H σ E Q S hp => ?_⟩
  refine h2.go S hp fun a E1 G1 H1 x _ e1 S1 r1 hp => ?_
  cases a with
  | bl k =>
    cases r1
    refine ⟨k, rfl, ?_⟩
    cases k with
    | true => exact iteT (h4 Φ G1 H1 σ E1 Q S1 hp)
    | false => exact iteF (hp G1 H1 _ (Ex.refl G1) S1 (.bl _))
  | _ => exact hp.elim
theorem j_or {rest : List Expr} (h : JE X W a fa) (h' : JE X W (.BoolOp .Or (b :: rest) pos) fb) : JE X W (.BoolOp .Or (a :: b :: rest) pos) (fOrV fa fb) := by
  obtain ⟨te, h1, h2⟩ := h
  obtain ⟨tu, h3, h4⟩ := h'
  refine ⟨_, pe_or h1 h3, fun Φ G H σ E Q S hp => ?_⟩
  refine h2.go S hp fun a E1 G1 H1 x _ e1 S1 r1 hp => ?_
  cases a with
  | bl k =>
    cases r1
    refine ⟨k, rfl, ?_⟩
    cases k with
    | false => exact iteF (h4 Φ G1 H1 σ E1 Q S1 hp)
    | true => exact iteT (hp G1 H1 _ (Ex.refl G1) S1 (.bl _))
  | _ => exact hp.elim
theorem j_not (ha : JE X W a fa) : JE X W (.UnaryOp .Not a pos) (fun1 gNot fa) := by
  obtain ⟨ta, pa, sa⟩ := ha
  refine ⟨_, pe_not pa, fun Φ G H σ E Q S hp => ?_⟩
  refine sa.go S hp fun a E1 G1 H1 x _ e1 S1 r1 hp => ?_
  obtain ⟨d, hd, hq⟩ := hp.opt
  cases a with
  | bl i => cases hd; cases r1; exact ⟨i, rfl, hq G1 H1 _ (Ex.refl G1) S1 (.bl _)⟩
  | _ => cases hd
def fIf (t : Env → R Bool) (fa fb : Env → R D) : Env → R D := fun E => (t E).bind fun k E => if k = true then fa E else fb E
theorem j_if (ht : JT X W c f) (ha : JE X W a fa) (hb : JE X W b fb) : JE X W (.IfExp c a b pos) (fIf f fa fb) := by
  obtain ⟨tc, pc, sc⟩ := ht
  obtain ⟨ta, pa, sa⟩ := ha
  obtain ⟨tb, pb, sb⟩ := hb
  refine ⟨_, pe_ifExp pc pa pb, fun Φ G H σ E Q S hp => ?_⟩
  refine sc.go S hp fun k E1 G1 H1 x _ e1 S1 r1 hp => ?_
  subst r1
  cases k with
  | true => exact iteT (sa Φ G1 H1 σ E1 Q S1 hp)
  | false => exact iteF (sb Φ G1 H1 σ E1 Q S1 hp)

/-! ### arguments, displays -/
def fNil : Env → R (List D) := fun E => .ok [] E
def fCons (fa : Env → R D) (fr : Env → R (List D)) : Env → R (List D) := fun E => (fa E).bind fun a E => (fr E).bind fun r E => .ok (a :: r) E
variable {fr : Env → R (List D)}
theorem ja_nil : JA X W [] fNil := ⟨_, pa_nil, fun Φ G H σ E Q S hp => hp G H [] (Ex.refl G) S .nil⟩
theorem ja_cons (ha : JE X W e fa) (hr : JA X W es fr) (hs : starEach (e :: es) X.env = (false, eval e X.env) :: starEach es X.env := by rfl) : JA X W (e :: es) (fCons fa fr) := by
  obtain ⟨ta, pa, sa⟩ := ha
  obtain ⟨tr, pr, sr⟩ := hr
  refine ⟨_, pa_cons pa pr hs, fun Φ G H σ E Q S hp => ?_⟩
  refine sa.go S hp fun a E1 G1 H1 x _ e1 S1 r1 hp => ?_
  refine sr.go S1 hp fun r E2 G2 H2 xs _ e2 S2 r2 hp => ?_
  exact hp G2 H2 _ (Ex.refl G2) S2 (.cons (Rp.mono e2 _ r1) r2)
def fTup (fr : Env → R (List D)) : Env → R D := fun E => (fr E).bind fun l E => if l.length ≤ 16777216 then .ok (.tup l) E else .stuck
def fLst (fr : Env → R (List D)) : Env → R (List D) := fun E => (fr E).bind fun l E => if l.length ≤ 16777216 then .ok l E else .stuck
theorem j_tup {x1} (h : JA X W es fr) : JE X W (.Tuple es x1 pos) (fTup fr) := by
  obtain ⟨tr, pr, sr⟩ := h
  refine ⟨_, pe_tup pr, fun Φ G H σ E Q S hp => ?_⟩
  refine sr.go S hp fun l E1 G1 H1 xs _ e1 S1 r1 hp => ?_
  by_cases c : l.length ≤ 16777216
  · rw [if_pos c] at hp
    refine ⟨sz (by rw [r1.length]; exact c), fun p hn => ?_⟩
    have g := S1.gh.back hn
    exact hp _ _ _ (Ex.new g) (S1.new hn) (.tup (SqT.of upd_same) (r1.mono (Ex.new g)))
  · rw [if_neg c] at hp; exact hp.elim
/-- a new list, handed out as one's own -/
theorem relL.new {K : PySem.W.Frag} {Φ : Fr} {G H : Hp} {σ : St} {E : Env} {p : Addr} {vs : List V} {l : List D} (S : Sat K Φ G H σ E) (h : H p = none) (r : RpA K G vs l) : relL K Φ σ G (upd H p (.lst vs)) E l (.ref p) :=
  ⟨p, vs, rfl, upd_same, r, S.gh.back h, S.fh.back h, S.notOwn h⟩
theorem jl_lst (h : JA X W es fr) : JL X W (.List es pos) (fLst fr) := by
  obtain ⟨tr, pr, sr⟩ := h
  refine ⟨_, pe_lst pr, fun Φ G H σ E Q S hp => ?_⟩
  refine sr.go S hp fun l E1 G1 H1 xs _ e1 S1 r1 hp => ?_
  by_cases c : l.length ≤ 16777216
  · rw [if_pos c] at hp
    refine ⟨sz (by rw [r1.length]; exact c), fun p hn => ?_⟩
    exact hp _ _ _ (Ex.refl G1) (S1.newH hn) (relL.new S1 hn r1)
  · rw [if_neg c] at hp; exact hp.elim
/-- one's own thing is given free -/
theorem Sat.free {K : PySem.W.Frag} {Φ : Fr} {G H : Hp} {σ : St} {E : Env} (S : Sat K Φ G H σ E) {p : Addr} {o : HO} (hp : H p = some o) (g : G p = none) (f : Φ.F p = none) (n : NotOwn σ E p) : Sat K Φ (upd G p o) H σ E := by
  refine ⟨S.len, fun i s hs => ?_, fun a u h => ?_, S.fh, fun a ha => ?_, fun i s b q h1 hb h2 => ?_, S.di'⟩
  · obtain ⟨x, h1, h2⟩ := S.sl i s hs
    exact ⟨x, h1, h2.mono (Ex.new g) fun _ _ _ _ => rfl⟩
  · by_cases ha : a = p
    · subst ha; rw [upd_same] at h; rw [← h]; exact hp
    · rw [upd_ne ha] at h; exact S.gh a u h
  · have na : a ≠ p := fun z => by subst z; exact ha f
    rw [upd_ne na]
    exact S.fg a ha
  · have nq : q ≠ p := fun z => by subst z; exact n i s b h1 hb h2
    rw [upd_ne nq]
    exact S.ow' i s b q h1 hb h2
def fPub (f : Env → R (List D)) : Env → R D := fun E => (f E).bind fun l E => .ok (.lst l) E
theorem JL.toE (h : JL X W e fr) : JE X W e (fPub fr) := by
  obtain ⟨tr, pr, sr⟩ := h
  refine ⟨_, pr, fun Φ G H σ E Q S hp => ?_⟩
  refine sr.go S hp fun l E1 G1 H1 v _ e1 S1 r1 hp => ?_
  obtain ⟨p, vs, rfl, h1, h2, h3, h4, h5⟩ := r1
  exact hp _ _ _ (Ex.new h3) (S1.free h1 h3 h4 h5) (.lst upd_same (h2.mono (Ex.new h3)))
end
end J

namespace J
open PySem PySem.Spec PyProof.Rows L2

/-! ### calls of built-ins -/
def C1S (K : PySem.W.Frag) (r : List V → Hp → VK → Prop) (g : D → Option D) : Prop :=
  ∀ Φ G H σ E x a d Q, Sat K Φ G H σ E → Sh K G H x a → g a = some d → (∀ G' H' v, Ex G G' → Ex H H' → Sat K Φ G' H' σ E → Rp K G' v d → Q v H') → r [x] H Q
/-- .. a new list, one's own -/
def C1L (K : PySem.W.Frag) (r : List V → Hp → VK → Prop) (g : D → Option (List D)) : Prop :=
  ∀ Φ G H σ E x a d Q, Sat K Φ G H σ E → Sh K G H x a → g a = some d → (∀ G' H' v, Ex G G' → Ex H H' → Sat K Φ G' H' σ E → relL K Φ σ G' H' E d v → Q v H') → r [x] H Q
def C2S (K : PySem.W.Frag) (r : List V → Hp → VK → Prop) (g : D → D → Option D) : Prop :=
  ∀ Φ G H σ E x y a b d Q, Sat K Φ G H σ E → Rp K G x a → Sh K G H y b → g a b = some d → (∀ G' H' v, Ex G G' → Ex H H' → Sat K Φ G' H' σ E → Rp K G' v d → Q v H') → r [x, y] H Q
section
variable {X : Cx} {W : WJ} {a b c e o : Expr} {es : List Expr} {p pos : Pos} {fa fb fc : Env → R D} {x : Str} {id T : String} {r : List V → Hp → VK → Prop}
theorem snd_c1 {g : D → Option D} {ta : TE} (hs : C1S X.K r g) (sa : Snd X.K W (relO X.K) ta fa) : Snd X.K W (relE X.K) (tCB r (tCons ta tNil)) (fun1 g fa) := by
  intro Φ G H σ E Q S hp
  refine sa.go S hp fun a E1 G1 H1 x _ e1 S1 r1 hp => ?_
  obtain ⟨d, hd, hq⟩ := hp.opt
  exact hs Φ G1 H1 σ E1 x a d Q S1 r1 hd fun G' H' v e _ S' r => hq G' H' v e S' r
theorem snd_c2 {g : D → D → Option D} {ta tb : TE} (hs : C2S X.K r g) (sa : Snd X.K W (relE X.K) ta fa) (sb : Snd X.K W (relO X.K) tb fb) : Snd X.K W (relE X.K) (tCB r (tCons ta (tCons tb tNil))) (fop g fa fb) := by
  intro Φ G H σ E Q S hp
  refine sa.go S hp fun a E1 G1 H1 x _ e1 S1 r1 hp => ?_
  refine sb.go S1 hp fun b E2 G2 H2 y _ e2 S2 r2 hp => ?_
  obtain ⟨d, hd, hq⟩ := hp.opt
  exact hs Φ G2 H2 σ E2 x y a b d Q S2 (Rp.mono e2 _ r1) r2 hd fun G' H' v e _ S' r => hq G' H' v e S' r
def fun1L (g : D → Option (List D)) (fa : Env → R D) : Env → R (List D) := fun E => (fa E).bind fun a E => match g a with | some d => .ok d E | none => .stuck
theorem snd_c1L {g : D → Option (List D)} {ta : TE} (hs : C1L X.K r g) (sa : Snd X.K W (relO X.K) ta fa) : Snd X.K W (relL X.K) (tCB r (tCons ta tNil)) (fun1L g fa) := by
  intro Φ G H σ E Q S hp
  refine sa.go S hp fun a E1 G1 H1 x _ e1 S1 r1 hp => ?_
  cases e : g a with
  | none => rw [e] at hp; exact hp.elim
  | some d =>
    rw [e] at hp
    exact hs Φ G1 H1 σ E1 x a d Q S1 r1 e fun G' H' v e' _ S' r => hp G' H' v e' S' r
theorem j_b1 {g : D → Option D} (hc : CallR X (.builtin id) r) (hs : C1S X.K r g) (hm : X.mg x = none) (hv : bootBuiltins x = some (.builtin id)) (ha : JO X W a fa) (hg : Gl X x := by rfl) (hn : x ≠ "__name__" := by decide) (hdb : (x == ("__debug__" : Str)) = false := by decide)
    (he : starEach [a] X.env = (false, eval a X.env) :: starEach [] X.env := by rfl) (hpl : (backTo pos (starEach [] X.env)).any (·.1) = false := by rfl) : JE X W (.Call (.Name x p) [a] [] pos) (fun1 g fa) := by
  obtain ⟨ta, pa, sa⟩ := ha
  exact ⟨_, pe_callB hc hg hm hv (pa_cons pa pa_nil he) hn hdb he hpl, snd_c1 hs sa⟩
theorem j_t1 {g : D → Option D} (hc : CallR X (.type T) r) (hs : C1S X.K r g) (hm : X.mg x = none) (hv : bootBuiltins x = some (.type T)) (ha : JO X W a fa) (hg : Gl X x := by rfl) (hn : x ≠ "__name__" := by decide) (hdb : (x == ("__debug__" : Str)) = false := by decide)
    (he : starEach [a] X.env = (false, eval a X.env) :: starEach [] X.env := by rfl) (hpl : (backTo pos (starEach [] X.env)).any (·.1) = false := by rfl) : JE X W (.Call (.Name x p) [a] [] pos) (fun1 g fa) := by
  obtain ⟨ta, pa, sa⟩ := ha
  exact ⟨_, pe_callTy hc hg hm hv (pa_cons pa pa_nil he) hn hdb he hpl, snd_c1 hs sa⟩
theorem jl_t1 {g : D → Option (List D)} (hc : CallR X (.type T) r) (hs : C1L X.K r g) (hm : X.mg x = none) (hv : bootBuiltins x = some (.type T)) (ha : JO X W a fa) (hg : Gl X x := by rfl) (hn : x ≠ "__name__" := by decide) (hdb : (x == ("__debug__" : Str)) = false := by decide)
    (he : starEach [a] X.env = (false, eval a X.env) :: starEach [] X.env := by rfl) (hpl : (backTo pos (starEach [] X.env)).any (·.1) = false := by rfl) : JL X W (.Call (.Name x p) [a] [] pos) (fun1L g fa) := by
  obtain ⟨ta, pa, sa⟩ := ha
  exact ⟨_, pe_callTy hc hg hm hv (pa_cons pa pa_nil he) hn hdb he hpl, snd_c1L hs sa⟩
theorem jl_b1 {g : D → Option (List D)} (hc : CallR X (.builtin id) r) (hs : C1L X.K r g) (hm : X.mg x = none) (hv : bootBuiltins x = some (.builtin id)) (ha : JO X W a fa) (hg : Gl X x := by rfl) (hn : x ≠ "__name__" := by decide) (hdb : (x == ("__debug__" : Str)) = false := by decide)
    (he : starEach [a] X.env = (false, eval a X.env) :: starEach [] X.env := by rfl) (hpl : (backTo pos (starEach [] X.env)).any (·.1) = false := by rfl) : JL X W (.Call (.Name x p) [a] [] pos) (fun1L g fa) := by
  obtain ⟨ta, pa, sa⟩ := ha
  exact ⟨_, pe_callB hc hg hm hv (pa_cons pa pa_nil he) hn hdb he hpl, snd_c1L hs sa⟩
theorem j_b2 {g : D → D → Option D} (hc : CallR X (.builtin id) r) (hs : C2S X.K r g) (hm : X.mg x = none) (hv : bootBuiltins x = some (.builtin id)) (ha : JE X W a fa) (hb : JO X W b fb) (hg : Gl X x := by rfl) (hn : x ≠ "__name__" := by decide) (hdb : (x == ("__debug__" : Str)) = false := by decide)
    (he : starEach [a, b] X.env = (false, eval a X.env) :: starEach [b] X.env := by rfl) (he2 : starEach [b] X.env = (false, eval b X.env) :: starEach [] X.env := by rfl) (hpl : (backTo pos (starEach [b] X.env)).any (·.1) = false := by rfl) : JE X W (.Call (.Name x p) [a, b] [] pos) (fop g fa fb) := by
  obtain ⟨ta, pa, sa⟩ := ha
  obtain ⟨tb, pb, sb⟩ := hb
  exact ⟨_, pe_callB hc hg hm hv (pa_cons pa (pa_cons pb pa_nil he2) he) hn hdb he hpl, snd_c2 hs sa sb⟩
end
section
variable {K : PySem.W.Frag}
abbrev rLen_ (K : PySem.W.Frag) : List V → Hp → VK → Prop := fun xs H Q => ∃ x n, xs = [x] ∧ LenV K x H n ∧ Q (.int n) H
def gLen : D → Option D
  | .str x => if x.length ≤ 16777216 then some (.int (x.length : Nat)) else none
  | .lst l => some (.int (l.length : Nat))
  | .rol l => some (.int (l.length : Nat))
  | .tup l => some (.int (l.length : Nat))
  | _ => none
theorem c1_len : C1S K (rLen_ K) gLen := by
  intro Φ G H σ E x a d Q S ha hd k
  cases a with
  | str z => cases ha; obtain ⟨c, rfl⟩ := if_some hd; exact ⟨_, _, rfl, ⟨sz c, rfl⟩, k G H _ (Ex.refl G) (Ex.refl H) S (.int _)⟩
  | lst l => obtain ⟨p, vs, rfl, h1, h2⟩ := ha; cases hd; exact ⟨_, l.length, rfl, .inl ⟨vs, SqL.of h1, h2.length.symm⟩, k G H _ (Ex.refl G) (Ex.refl H) S (.int _)⟩
  | rol l => cases ha with | rol h1 h2 => cases hd; exact ⟨_, l.length, rfl, .inl ⟨_, S.gh.sl h1, h2.length.symm⟩, k G H _ (Ex.refl G) (Ex.refl H) S (.int _)⟩
  | tup l => cases ha with | tup h1 h2 => cases hd; exact ⟨_, l.length, rfl, .inr ⟨_, S.gh.st h1, h2.length.symm⟩, k G H _ (Ex.refl G) (Ex.refl H) S (.int _)⟩
  | _ => cases hd
def gAbs : D → Option D
  | .int i => some (.int (if i < 0 then -i else i))
  | _ => none
theorem c1_abs : C1S K (fun xs H Q => ∃ i, xs = [.int i] ∧ Q (.int (if i < 0 then -i else i)) H) gAbs := by
  intro Φ G H σ E x a d Q S ha hd k
  cases a with
  | int i => cases ha; cases hd; exact ⟨i, rfl, k G H _ (Ex.refl G) (Ex.refl H) S (.int _)⟩
  | _ => cases hd
def gIntF : D → Option D
  | .int i => some (.int i)
  | .bl b => some (.int (if b then 1 else 0))
  | _ => none
theorem c1_int : C1S K (fun xs H Q => (∃ i, xs = [.int i] ∧ Q (.int i) H) ∨ ∃ k, xs = [.bl k] ∧ Q (.int (if k then 1 else 0)) H) gIntF := by
  intro Φ G H σ E x a d Q S ha hd k
  cases a with
  | int i => cases ha; cases hd; exact .inl ⟨i, rfl, k G H _ (Ex.refl G) (Ex.refl H) S (.int _)⟩
  | bl i => cases ha; cases hd; exact .inr ⟨i, rfl, k G H _ (Ex.refl G) (Ex.refl H) S (.int _)⟩
  | _ => cases hd
def gBoolF : D → Option D
  | .int i => some (.bl (i != 0))
  | .bl b => some (.bl b)
  | _ => none
theorem c1_bool : C1S K (fun xs H Q => (∃ i, xs = [.int i] ∧ Q (.bl (i != 0)) H) ∨ ∃ k, xs = [.bl k] ∧ Q (.bl k) H) gBoolF := by
  intro Φ G H σ E x a d Q S ha hd k
  cases a with
  | int i => cases ha; cases hd; exact .inl ⟨i, rfl, k G H _ (Ex.refl G) (Ex.refl H) S (.bl _)⟩
  | bl i => cases ha; cases hd; exact .inr ⟨i, rfl, k G H _ (Ex.refl G) (Ex.refl H) S (.bl _)⟩
  | _ => cases hd
def gStrF : D → Option D
  | .int i => if i.natAbs.log2 < 1920 then some (.str (toString i)) else none
  | _ => none
theorem c1_str : C1S K (fun xs H Q => ∃ i, xs = [.int i] ∧ i.natAbs.log2 < 1920 ∧ Q (.str (toString i)) H) gStrF := by
  intro Φ G H σ E x a d Q S ha hd k
  cases a with
  | int i => cases ha; obtain ⟨c, rfl⟩ := if_some hd; exact ⟨i, rfl, c, k G H _ (Ex.refl G) (Ex.refl H) S (.str _)⟩
  | _ => cases hd
/-- a list of ints, told as such -/
def intsD : List D → Option (List Int)
  | [] => some []
  | .int i :: l => (intsD l).map (i :: ·)
  | _ :: _ => none
theorem intsD_map (ns : List Int) : intsD (ns.map D.int) = some ns := by
  induction ns with
  | nil => rfl
  | cons n ns ih => simp [intsD, ih]
theorem intsD_eq : ∀ {l : List D} {ns : List Int}, intsD l = some ns → l = ns.map D.int
  | [], ns, h => by cases h; rfl
  | .int i :: l, ns, h => by
    obtain ⟨ms, h1, rfl⟩ := Option.map_eq_some_iff.mp (show (intsD l).map (i :: ·) = some ns from h)
    rw [intsD_eq h1]; rfl
  | .non :: l, ns, h => by cases h
  | .bl _ :: l, ns, h => by cases h
  | .str _ :: l, ns, h => by cases h
  | .tup _ :: l, ns, h => by cases h
  | .lst _ :: l, ns, h => by cases h
  | .rol _ :: l, ns, h => by cases h
  | .ins _ _ _ :: l, ns, h => by cases h
def listD : D → Option (List D)
  | .lst l => some l
  | .rol l => some l
  | _ => none
theorem Sh.listV {G H : Hp} {v : V} {d : D} {l : List D} (h : Sh K G H v d) (e : Ex G H) (hl : listD d = some l) : ∃ p vs, v = .ref p ∧ SqL K H p vs ∧ RpA K G vs l := by
  cases d with
  | lst l' => cases hl; obtain ⟨p, vs, h1, h2, h3⟩ := h; exact ⟨p, vs, h1, SqL.of h2, h3⟩
  | rol l' => cases hl; cases h with | rol h1 h2 => exact ⟨_, _, rfl, e.sl h1, h2⟩
  | _ => cases hl
def gSum : D → Option D := fun d => (listD d).bind fun l => (intsD l).map fun ns => .int ns.sum
theorem c1_sum : C1S K (rSum K) gSum := by
  intro Φ G H σ E x a d Q S ha hd k
  obtain ⟨l, h1, h2⟩ := Option.bind_eq_some_iff.mp hd
  obtain ⟨ns, h3, rfl⟩ := Option.map_eq_some_iff.mp h2
  obtain ⟨p, vs, rfl, h4, h5⟩ := ha.listV S.gh h1
  rw [intsD_eq h3] at h5
  have := h5.of_ints
  subst this
  exact ⟨p, ns, rfl, h4, k G H _ (Ex.refl G) (Ex.refl H) S (.int _)⟩
def maxI : List Int → Int
  | [] => 0
  | x :: xs => xs.foldl (fun a b => if a < b then b else a) x
def minI : List Int → Int
  | [] => 0
  | x :: xs => xs.foldl (fun a b => if b < a then b else a) x
theorem foldmax (x : Int) (xs : List Int) : xs.foldl (fun a b => if a < b then b else a) x ∈ x :: xs ∧ ∀ y ∈ x :: xs, y ≤ xs.foldl (fun a b => if a < b then b else a) x := by
  induction xs generalizing x with
  | nil => simp
  | cons z zs ih =>
    rw [List.foldl_cons]
    by_cases c : x < z
    · rw [if_pos c]
      obtain ⟨h1, h2⟩ := ih z
      refine ⟨List.mem_cons_of_mem _ h1, fun y hy => ?_⟩
      rcases List.mem_cons.mp hy with rfl | hy
      · have := h2 z (List.mem_cons_self ..); omega
      · exact h2 y hy
    · rw [if_neg c]
      obtain ⟨h1, h2⟩ := ih x
      refine ⟨?_, fun y hy => ?_⟩
      · rcases List.mem_cons.mp h1 with h | h
        · rw [h]; exact List.mem_cons_self ..
        · exact List.mem_cons_of_mem _ (List.mem_cons_of_mem _ h)
      · rcases List.mem_cons.mp hy with rfl | hy
        · exact h2 y (List.mem_cons_self ..)
        · rcases List.mem_cons.mp hy with rfl | hy
          · have := h2 x (List.mem_cons_self ..); omega
          · exact h2 y (List.mem_cons_of_mem _ hy)
theorem foldmin (x : Int) (xs : List Int) : xs.foldl (fun a b => if b < a then b else a) x ∈ x :: xs ∧ ∀ y ∈ x :: xs, xs.foldl (fun a b => if b < a then b else a) x ≤ y := by
  induction xs generalizing x with
  | nil => simp
  | cons z zs ih =>
    rw [List.foldl_cons]
    by_cases c : z < x
    · rw [if_pos c]
      obtain ⟨h1, h2⟩ := ih z
      refine ⟨List.mem_cons_of_mem _ h1, fun y hy => ?_⟩
      rcases List.mem_cons.mp hy with rfl | hy
      · have := h2 z (List.mem_cons_self ..); omega
      · exact h2 y hy
    · rw [if_neg c]
      obtain ⟨h1, h2⟩ := ih x
      refine ⟨?_, fun y hy => ?_⟩
      · rcases List.mem_cons.mp h1 with h | h
        · rw [h]; exact List.mem_cons_self ..
        · exact List.mem_cons_of_mem _ (List.mem_cons_of_mem _ h)
      · rcases List.mem_cons.mp hy with rfl | hy
        · exact h2 y (List.mem_cons_self ..)
        · rcases List.mem_cons.mp hy with rfl | hy
          · have := h2 x (List.mem_cons_self ..); omega
          · exact h2 y (List.mem_cons_of_mem _ hy)
theorem maxI_spec (x : Int) (xs : List Int) : maxI (x :: xs) ∈ x :: xs ∧ ∀ y ∈ x :: xs, y ≤ maxI (x :: xs) := foldmax x xs
theorem minI_spec (x : Int) (xs : List Int) : minI (x :: xs) ∈ x :: xs ∧ ∀ y ∈ x :: xs, minI (x :: xs) ≤ y := foldmin x xs
def gMax1 : D → Option D := fun d => (listD d).bind fun l => (intsD l).bind fun ns => if ns.isEmpty then none else some (.int (maxI ns))
def gMin1 : D → Option D := fun d => (listD d).bind fun l => (intsD l).bind fun ns => if ns.isEmpty then none else some (.int (minI ns))
theorem c1_max : C1S K (rMax K) gMax1 := by
  intro Φ G H σ E x a d Q S ha hd k
  obtain ⟨l, h1, h2⟩ := Option.bind_eq_some_iff.mp hd
  obtain ⟨ns, h3, h6⟩ := Option.bind_eq_some_iff.mp h2
  obtain ⟨p, vs, rfl, h4, h5⟩ := ha.listV S.gh h1
  rw [intsD_eq h3] at h5
  have := h5.of_ints
  subst this
  cases ns with
  | nil => cases h6
  | cons n ns =>
    cases h6
    refine ⟨p, n :: ns, rfl, h4, Nat.succ_pos _, fun m hm hle => ?_⟩
    obtain ⟨s1, s2⟩ := maxI_spec n ns
    have em : m = maxI (n :: ns) := Int.le_antisymm (s2 m hm) (hle _ s1)
    rw [em]
    exact k G H _ (Ex.refl G) (Ex.refl H) S (.int _)
theorem c1_min : C1S K (rMin K) gMin1 := by
  intro Φ G H σ E x a d Q S ha hd k
  obtain ⟨l, h1, h2⟩ := Option.bind_eq_some_iff.mp hd
  obtain ⟨ns, h3, h6⟩ := Option.bind_eq_some_iff.mp h2
  obtain ⟨p, vs, rfl, h4, h5⟩ := ha.listV S.gh h1
  rw [intsD_eq h3] at h5
  have := h5.of_ints
  subst this
  cases ns with
  | nil => cases h6
  | cons n ns =>
    cases h6
    refine ⟨p, n :: ns, rfl, h4, Nat.succ_pos _, fun m hm hle => ?_⟩
    obtain ⟨s1, s2⟩ := minI_spec n ns
    have em : m = minI (n :: ns) := Int.le_antisymm (hle _ s1) (s2 m hm)
    rw [em]
    exact k G H _ (Ex.refl G) (Ex.refl H) S (.int _)
def gMax2 : D → D → Option D := g2I fun i j => some (if j > i then j else i)
def gMin2 : D → D → Option D := g2I fun i j => some (if j < i then j else i)
theorem c2_I {h : Int → Int → Int} : C2S K (fun xs H Q => ∃ i j, xs = [.int i, .int j] ∧ Q (.int (h i j)) H) (g2I fun i j => some (h i j)) := by
  intro Φ G H σ E x y a b d Q S ha hb hd k
  cases a with
  | int i =>
    cases b with
    | int j => cases ha; cases hb; cases hd; exact ⟨i, j, rfl, k G H _ (Ex.refl G) (Ex.refl H) S (.int _)⟩
    | _ => cases hd
  | _ => cases hd
theorem c1_list : C1L K (fun xs H Q => ∃ p ys, xs = [.ref p] ∧ (SqL K H p ys ∨ SqT K H p ys) ∧ ∀ l, H l = none → Q (.ref l) (upd H l (.lst ys))) itemsD := by
  intro Φ G H σ E x a d Q S ha hd k
  obtain ⟨p, vs, rfl, h4, h5⟩ := ha.items S.gh hd
  exact ⟨p, vs, rfl, h4, fun l hl => k G _ _ (Ex.refl G) (Ex.new hl) (S.newH hl) (relL.new S hl h5)⟩
def gTuple : D → Option D
  | .lst l => some (.tup l)
  | .rol l => some (.tup l)
  | .tup l => some (.tup l)
  | _ => none
theorem c1_tuple : C1S K (fun xs H Q => ∃ p ys, xs = [.ref p] ∧ ((SqL K H p ys ∧ ∀ l, H l = none → Q (.ref l) (upd H l (.tup ys))) ∨ (SqT K H p ys ∧ Q (.ref p) H))) gTuple := by
  intro Φ G H σ E x a d Q S ha hd k
  cases a with
  | lst l =>
    obtain ⟨p, vs, rfl, h1, h2⟩ := ha; cases hd
    exact ⟨p, vs, rfl, .inl ⟨SqL.of h1, give_new S k fun q g => .tup (SqT.of upd_same) (h2.mono (Ex.new g))⟩⟩
  | rol l =>
    cases ha with
    | rol h1 h2 => cases hd; exact ⟨_, _, rfl, .inl ⟨S.gh.sl h1, give_new S k fun q g => .tup (SqT.of upd_same) (h2.mono (Ex.new g))⟩⟩
  | tup l =>
    cases ha with
    | tup h1 h2 => cases hd; exact ⟨_, _, rfl, .inr ⟨S.gh.st h1, k G H _ (Ex.refl G) (Ex.refl H) S (.tup h1 h2)⟩⟩
  | _ => cases hd
def tyName : D → Option String
  | .non => some "NoneType"
  | .bl _ => some "bool"
  | .int _ => some "int"
  | .str _ => some "str"
  | .lst _ => some "list"
  | .tup _ => some "tuple"
  | _ => none
/-- a tracked tuple -/
inductive TyS : String → Prop
/-- isinstance(x, T), T a built-in class -/
def gIsi (T : String) : D → Option D := fun d => (tyName d).bind fun n => (kitB n T).map D.bl
theorem Sh.tyx {G H : Hp} {v : V} {d : D} {n : String} (h : Sh K G H v d) (e : Ex G H) (hn : tyName d = some n) : TyX K H v (.type n) := by
  cases d with
  | non => cases h; cases hn; exact .base .non
  | bl b => cases h; cases hn; exact .base (.bl b)
  | int b => cases h; cases hn; exact .base (.int b)
  | str b => cases h; cases hn; exact .base (.str b)
  | lst l => obtain ⟨p, vs, rfl, h1, h2⟩ := h; cases hn; exact .base (.lst h1)
  | tup l =>
    cases hn
    cases h with
    | tup h1 h2 =>
      rcases e.st h1 with (h | ⟨o, h⟩) | ⟨o, its, m, hk, hc, _⟩
      · exact .base (.tup h)
      · exact .fTuple h
      · exact .kTuple hk hc
  | _ => cases hn
end
section
variable {X : Cx} {W : WJ} {a b c e o : Expr} {es : List Expr} {p pos : Pos} {fa fb fc : Env → R D} {x : Str} {id T : String} {r : List V → Hp → VK → Prop}
theorem j_isi {y : Str} {p2 : Pos} {T : String} (hm : X.mg "isinstance" = none) (hm2 : X.mg y = none) (hv2 : bootBuiltins y = some (.type T)) (ha : JO X W a fa) (hg : Gl X "isinstance" := by rfl) (hg2 : Gl X y := by rfl) (hn2 : y ≠ "__name__" := by decide) (hd2 : (y == ("__debug__" : Str)) = false := by decide)
    (he : starEach [a, .Name y p2] X.env = (false, eval a X.env) :: starEach [.Name y p2] X.env := by rfl) (he2 : starEach [.Name y p2] X.env = (false, eval (.Name y p2) X.env) :: starEach [] X.env := by rfl) (hpl : (backTo pos (starEach [.Name y p2] X.env)).any (·.1) = false := by rfl) :
    JE X W (.Call (.Name "isinstance" p) [a, .Name y p2] [] pos) (fun1 (gIsi T) fa) := by
  obtain ⟨ta, pa, sa⟩ := ha
  refine ⟨_, pe_callB call_isi hg hm (by decide +kernel) (pa_cons pa (pa_cons (pe_bltn (v := .ty T) hg2 hm2 hv2 rfl hn2 hd2) pa_nil he2) he) (by decide) (by decide) he hpl, fun Φ G H σ E Q S hp => ?_⟩
  refine sa.go S hp fun a E1 G1 H1 x _ e1 S1 r1 hp => ?_
  obtain ⟨d, hd, hq⟩ := hp.opt
  obtain ⟨n, h1, h2⟩ := Option.bind_eq_some_iff.mp hd
  obtain ⟨k, h3, rfl⟩ := Option.map_eq_some_iff.mp h2
  exact ⟨x, .ty T, .type n, .type T, k, rfl, .ty T, r1.tyx S1.gh h1, kit_ty h3, hq G1 H1 _ (Ex.refl G1) S1 (.bl _)⟩

/-! ### subscripts -/
def gIx : D → D → Option D := fun a b => match b with
  | .int i => (match a with
    | .lst l => atI l i
    | .rol l => atI l i
    | .tup l => atI l i
    | .str z => if z.length ≤ 16777216 then (atI z.cps.toList i).map fun c => .str ⟨#[c]⟩ else none
    | _ => none)
  | _ => none
theorem RpA.atI {K : PySem.W.Frag} {G : Hp} {vs : List V} {ds : List D} (h : RpA K G vs ds) {i : Int} {d : D} (e : L2.atI ds i = some d) : ∃ v, L2.atI vs i = some v ∧ Rp K G v d := by
  unfold L2.atI at e ⊢
  rw [h.length]
  obtain ⟨j, h1, h2⟩ := Option.bind_eq_some_iff.mp e
  obtain ⟨v, h3, h4⟩ := h.get h2
  exact ⟨v, by rw [h1]; exact h3, h4⟩
theorem opS_ix {K : PySem.W.Frag} : OpS K (rIx K) gIx := by
  intro Φ G H σ E x y a b d Q S ha hb hd k
  cases b with
  | int i =>
    cases hb
    cases a with
    | lst l =>
      obtain ⟨p, vs, rfl, h1, h2⟩ := ha
      obtain ⟨v, h3, h4⟩ := h2.atI hd
      exact .inl ⟨p, vs, i, v, rfl, rfl, SqL.of h1, h3, k G H _ (Ex.refl G) (Ex.refl H) S h4⟩
    | rol l =>
      cases ha with
      | rol h1 h2 =>
        obtain ⟨v, h3, h4⟩ := h2.atI hd
        exact .inl ⟨_, _, i, v, rfl, rfl, S.gh.sl h1, h3, k G H _ (Ex.refl G) (Ex.refl H) S h4⟩
    | tup l =>
      cases ha with
      | tup h1 h2 =>
        obtain ⟨v, h3, h4⟩ := h2.atI hd
        exact .inr (.inl ⟨_, _, i, v, rfl, rfl, S.gh.st h1, h3, k G H _ (Ex.refl G) (Ex.refl H) S h4⟩)
    | str z =>
      cases ha
      have hd' : (if z.length ≤ 16777216 then (L2.atI z.cps.toList i).map fun c => D.str ⟨#[c]⟩ else none) = some d := hd
      by_cases c : z.length ≤ 16777216
      · rw [if_pos c] at hd'
        obtain ⟨q, h1, rfl⟩ := Option.map_eq_some_iff.mp hd'
        exact .inr (.inr ⟨z, i, q, rfl, rfl, sz c, h1, k G H _ (Ex.refl G) (Ex.refl H) S (.str _)⟩)
      · rw [if_neg c] at hd'; cases hd'
    | _ => cases hd
  | _ => cases hd
theorem j_ix (ha : JE X W a fa) (hb : JO X W b fb) (hs : PlainIx b := by exact fun _ _ => rfl) : JE X W (.Subscript a b pos) (fop gIx fa fb) := by
  obtain ⟨ta, pa, sa⟩ := ha
  obtain ⟨tb, pb, sb⟩ := hb
  exact ⟨_, pe_ix ix_seq pa pb hs, snd_op opS_ix sa sb⟩
theorem j_ixB {qb : Env → Option D} (ha : JO X W a fa) (hb : JQ X b qb) (hs : PlainIx b := by exact fun _ _ => rfl) : JE X W (.Subscript a b pos) (fopB gIx fa qb) := by
  obtain ⟨ta, pa, sa⟩ := ha
  obtain ⟨tb, pb, sb⟩ := hb
  exact ⟨_, pe_ix ix_seq pa pb hs, snd_opB opS_ix sa sb⟩

/-! ### slices, the bounds quiet -/
def JPq (X : Cx) (e : Option Expr) (f : Env → Option (Option Int)) : Prop := ∃ te, PO X e te ∧ ∀ Φ G H σ E Q d, Sat X.K Φ G H σ E → f E = some d → (∀ G' H', Ex G G' → Ex H H' → Sat X.K Φ G' H' σ E → Q d H') → te σ H Q
def intP : Option D → Option (Option Int)
  | some (.int i) => some (some i)
  | _ => none
theorem jp_none : JPq X none (fun _ => some none) := ⟨_, po_none, fun Φ G H σ E Q d S hf k => by cases hf; exact k G H (Ex.refl G) (Ex.refl H) S⟩
theorem jp_some {q : Env → Option D} (h : JQ X e q) : JPq X (some e) (fun E => intP (q E)) := by
  obtain ⟨te, h1, h2⟩ := h
  refine ⟨_, po_some h1, fun Φ G H σ E Q d S hf k => ?_⟩
  have hf : intP (q E) = some d := hf
  cases e : q E with
  | none => rw [e] at hf; cases hf
  | some x =>
    rw [e] at hf
    cases x with
    | int i =>
      cases hf
      refine h2 Φ G H σ E _ _ S e fun G' H' v e1 e2 S' r => ?_
      cases r
      exact ⟨i, rfl, k G' H' e1 e2 S'⟩
    | _ => cases hf
def cutD (l : List D) (lo hi : Option Int) : List D := (l.drop (HT.sIx l.length 0 lo)).take (HT.sIx l.length l.length hi - HT.sIx l.length 0 lo)
theorem RpA.cut {K : PySem.W.Frag} {G : Hp} {vs : List V} {ds : List D} (h : RpA K G vs ds) (lo hi : Option Int) : RpA K G (cutV vs lo hi) (cutD ds lo hi) := by
  unfold cutV cutD
  rw [h.length]
  exact (h.drop _).take _
def gCut : D → Option Int → Option Int → Option D := fun d lo hi => match d with
  | .lst l => some (.lst (cutD l lo hi))
  | .rol l => some (.lst (cutD l lo hi))
  | .tup l => some (.tup (cutD l lo hi))
  | .str z => if z.length ≤ 16777216 then some (.str (cutS z lo hi)) else none
  | _ => none
def fCut (fa : Env → R D) (lo hi : Env → Option (Option Int)) : Env → R D := fun E => (fa E).bind fun a E => match (lo E).bind fun l => (hi E).bind fun h => gCut a l h with | some d => .ok d E | none => .stuck
def fCutL (fa : Env → R D) (lo hi : Env → Option (Option Int)) : Env → R (List D) := fun E => (fa E).bind fun a E => match (lo E).bind fun l => (hi E).bind fun h => (listD a).map fun xs => cutD xs l h with | some d => .ok d E | none => .stuck
abbrev rSl3 (K : PySem.W.Frag) : V → Option Int → Option Int → Hp → VK → Prop := fun x lo hi H Q => rSlL K x lo hi H Q ∨ (rSlA K x lo hi H Q ∨ rSlS x lo hi H Q)
theorem j_cut {lo hi : Option Expr} {p2 : Pos} {fl fh : Env → Option (Option Int)} (ha : JO X W e fa) (hl : JPq X lo fl) (hh : JPq X hi fh) : JE X W (.Subscript e (.Slice lo hi none p2) pos) (fCut fa fl fh) := by
  obtain ⟨ta, pa, sa⟩ := ha
  obtain ⟨tl, pl, sl⟩ := hl
  obtain ⟨th, ph, sh⟩ := hh
  refine ⟨_, pe_slice (r := rSl3 X.K) (SlR.or sl_list (SlR.or sl_tupA sl_str)) pa pl ph, fun Φ G H σ E Q S hp => ?_⟩
  refine sa.go S hp fun a E1 G1 H1 x _ e1 S1 r1 hp => ?_
  obtain ⟨d, hd, hq⟩ := hp.opt
  obtain ⟨l, h1, hd⟩ := Option.bind_eq_some_iff.mp hd
  obtain ⟨u, h2, hd⟩ := Option.bind_eq_some_iff.mp hd
  refine sl Φ G1 H1 σ E1 _ l S1 h1 fun G2 H2 e2 f2 S2 => ?_
  refine sh Φ G2 H2 σ E1 _ u S2 h2 fun G3 H3 e3 f3 S3 => ?_
  have r3 := r1.mono (e2.trans e3) (f2.trans f3)
  have k : ∀ G' H' v, Ex G3 G' → Ex H3 H' → Sat X.K Φ G' H' σ E1 → Rp X.K G' v d → Q v H' := fun G' H' v e _ S' r => hq G' H' v ((e2.trans e3).trans e) S' r
  cases a with
  | lst z =>
    obtain ⟨p, vs, rfl, h1, h2⟩ := r3
    cases hd
    exact .inl ⟨p, vs, rfl, SqL.of h1, give_new S3 k fun q g => .lst upd_same ((h2.cut l u).mono (Ex.new g))⟩
  | rol z =>
    cases r3 with
    | rol h1 h2 => cases hd; exact .inl ⟨_, _, rfl, S3.gh.sl h1, give_new S3 k fun q g => .lst upd_same ((h2.cut l u).mono (Ex.new g))⟩
  | tup z =>
    cases r3 with
    | tup h1 h2 =>
      cases hd
      refine .inr (.inl ⟨_, _, rfl, S3.gh.st h1, fun w => ?_, fun _ => give_new S3 k fun q g => .tup (SqT.of upd_same) ((h2.cut l u).mono (Ex.new g))⟩)
      refine k G3 H3 _ (Ex.refl G3) (Ex.refl H3) S3 (.tup h1 ?_)
      have e : cutD z l u = z := by
        unfold cutD
        rw [h2.length] at w
        rw [w.1, w.2, List.drop_zero, Nat.sub_zero, List.take_length]
      rw [e]; exact h2
  | str z =>
    cases r3
    obtain ⟨c, rfl⟩ := if_some (show (if z.length ≤ 16777216 then some (D.str (cutS z l u)) else none) = some d from hd)
    exact .inr (.inr ⟨z, rfl, sz c, k G3 H3 _ (Ex.refl G3) (Ex.refl H3) S3 (.str _)⟩)
  | _ => cases hd
theorem jl_cut {lo hi : Option Expr} {p2 : Pos} {fl fh : Env → Option (Option Int)} (ha : JO X W e fa) (hl : JPq X lo fl) (hh : JPq X hi fh) : JL X W (.Subscript e (.Slice lo hi none p2) pos) (fCutL fa fl fh) := by
  obtain ⟨ta, pa, sa⟩ := ha
  obtain ⟨tl, pl, sl⟩ := hl
  obtain ⟨th, ph, sh⟩ := hh
  refine ⟨_, pe_slice (r := rSlL X.K) sl_list pa pl ph, fun Φ G H σ E Q S hp => ?_⟩
  refine sa.go S hp fun a E1 G1 H1 x _ e1 S1 r1 hp => ?_
  cases hd : (fl E1).bind fun l => (fh E1).bind fun h => (listD a).map fun xs => cutD xs l h with
  | none => rw [hd] at hp; exact hp.elim
  | some d =>
    rw [hd] at hp
    obtain ⟨l, h1, hd⟩ := Option.bind_eq_some_iff.mp hd
    obtain ⟨u, h2, hd⟩ := Option.bind_eq_some_iff.mp hd
    obtain ⟨z, h3, rfl⟩ := Option.map_eq_some_iff.mp hd
    refine sl Φ G1 H1 σ E1 _ l S1 h1 fun G2 H2 e2 f2 S2 => ?_
    refine sh Φ G2 H2 σ E1 _ u S2 h2 fun G3 H3 e3 f3 S3 => ?_
    obtain ⟨p, vs, rfl, h4, h5⟩ := (r1.mono (e2.trans e3) (f2.trans f3)).listV S3.gh h3
    exact ⟨p, vs, rfl, h4, fun q hn => hp _ _ _ (e2.trans e3) (S3.newH hn) (relL.new S3 hn (h5.cut l u))⟩
/-- xs[::-1] of a list -/
def gRev : D → Option (List D) := fun d => (listD d).map List.reverse
theorem jl_rev {k : Nat} {p1 p2 p3 : Pos} (ha : JO X W e fa) : JL X W (.Subscript e (.Slice none none (some (.UnaryOp .USub (.Constant (.int 1) k p1) p2)) p3) pos) (fun1L gRev fa) := by
  obtain ⟨ta, pa, sa⟩ := ha
  refine ⟨_, pe_revL pa, fun Φ G H σ E Q S hp => ?_⟩
  refine sa.go S hp fun a E1 G1 H1 x _ e1 S1 r1 hp => ?_
  cases hd : gRev a with
  | none => rw [hd] at hp; exact hp.elim
  | some d =>
    rw [hd] at hp
    obtain ⟨z, h3, rfl⟩ := Option.map_eq_some_iff.mp hd
    obtain ⟨p, vs, rfl, h4, h5⟩ := r1.listV S1.gh h3
    exact ⟨p, vs, rfl, h4, fun q hn => hp _ _ _ (Ex.refl G1) (S1.newH hn) (relL.new S1 hn h5.reverse)⟩
/-- x.bit_length() -/
def gBits : D → Option D
  | .int i => some (.int (Builtin.Int.intBits i : Nat))
  | _ => none
theorem j_bits {apos : Pos} (ha : JE X W o fa) (hbase : attributeBase o "bit_length" X.env (eval o X.env) = eval o X.env := by rfl) (hline : (apos.endLine == pos.line) = true := by rfl) : JE X W (.Call (.Attribute o "bit_length" apos) [] [] pos) (fun1 gBits fa) := by
  obtain ⟨ta, pa, sa⟩ := ha
  refine ⟨_, pe_bits pa hbase hline, fun Φ G H σ E Q S hp => ?_⟩
  refine sa.go S hp fun a E1 G1 H1 x _ e1 S1 r1 hp => ?_
  obtain ⟨d, hd, hq⟩ := hp.opt
  cases a with
  | int i => cases hd; cases r1; exact ⟨i, rfl, hq G1 H1 _ (Ex.refl G1) S1 (.int _)⟩
  | _ => cases hd
/-- x.pop() of one's own list in slot i -/
def fPop (i : Nat) : Env → R D := fun E => match E[i]? with
  | some (.own b l) => (match l[l.length - 1]? with
    | some d => .ok d (E.set i (.own b l.dropLast))
    | none => .stuck)
  | _ => .stuck
theorem RpA.dropLast {K : PySem.W.Frag} {G : Hp} {vs : List V} {ds : List D} (h : RpA K G vs ds) : RpA K G vs.dropLast ds.dropLast := by
  rw [List.dropLast_eq_take, List.dropLast_eq_take, h.length]
  exact h.take _
theorem j_pop (i : Nat) {x : Str} {p2 apos : Pos} (hN : X.N[i]? = some x := by rfl) (hv : Vis X.env.scope x := by first | exact Or.inl rfl | exact Or.inr (Or.inl rfl) | exact Or.inr (Or.inr rfl)) (hd : (x == ("__debug__" : Str)) = false := by decide)
    (hcd : (x == ("__classdict__" : Str)) = false := by decide) (hbase : attributeBase (.Name x p2) "pop" X.env (eval (.Name x p2) X.env) = eval (.Name x p2) X.env := by rfl) (hline : (apos.endLine == pos.line) = true := by rfl) :
    JE X W (.Call (.Attribute (.Name x p2) "pop" apos) [] [] pos) (fPop i) := by
  refine ⟨_, pe_bm0 PySem.F.plainAttrs_list PySem.F.slot_list_pop PySem.F.type_list_pop mt_pop (pe_var hN hv hd hcd) hbase hline, fun Φ G H σ E Q S hp => ?_⟩
  unfold fPop at hp
  cases e : E[i]? with
  | none => rw [e] at hp; exact hp.elim
  | some s =>
    rw [e] at hp
    cases s with
    | no => exact hp.elim
    | obj _ _ _ _ => exact hp.elim
    | val d => exact hp.elim
    | own b l =>
      simp only at hp
      cases e2 : l[l.length - 1]? with
      | none => rw [e2] at hp; exact hp.elim
      | some d =>
        rw [e2] at hp
        obtain ⟨x, hx, q, vs, rfl, h1, h2⟩ := S.sl i _ e
        obtain ⟨v, h3, h4⟩ := h2.get e2
        refine ⟨.ref q, hx, .inl ⟨rfl, vs, SqL.of h1⟩, q, vs, v, rfl, rfl, h1, by rw [h2.length]; exact h3, ?_⟩
        exact hp G _ v (Ex.refl G) (S.write e hx h2.dropLast) h4
end

/-! ### statements -/
def PostS (K : PySem.W.Frag) (W : WX) (Φ : Fr) (G : Hp) (σ : St) (r : RS) (D : Ends) : Prop := match r with
  | .nx E' => ∀ G' H' σ', Ex G G' → Sat K Φ G' H' σ' E' → D.nx σ' H'
  | .rt (.v d) E' => ∀ G' H' σ' v, Ex G G' → Sat K Φ G' H' σ' E' → Rp K G' v d → D.rt v H'
  | .rt (.l l) E' => ∀ G' H' σ' v, Ex G G' → Sat K Φ G' H' σ' E' → relL K Φ σ' G' H' E' l v → D.rt v H'
  | .bk E' => ∀ G' H' σ', Ex G G' → Sat K Φ G' H' σ' E' → D.bk σ' H'
  | .ct E' => ∀ G' H' σ', Ex G G' → Sat K Φ G' H' σ' E' → D.ct σ' H'
  | .exc x E' => PostX K W Φ G x E'
  | .stuck => False
theorem PostS.mono {K : PySem.W.Frag} {W : WX} {Φ : Fr} {G G0 : Hp} {σ σ0 : St} {r : RS} {D : Ends} (e : Ex G G0) (h : PostS K W Φ G σ r D) : PostS K W Φ G0 σ0 r D := by
  cases r with
  | nx E' => exact fun G' H' σ' e' S => h G' H' σ' (e.trans e') S
  | rt rv E' =>
    cases rv with
    | v d => exact fun G' H' σ' v e' S r => h G' H' σ' v (e.trans e') S r
    | l d => exact fun G' H' σ' v e' S r => h G' H' σ' v (e.trans e') S r
  | bk E' => exact fun G' H' σ' e' S => h G' H' σ' (e.trans e') S
  | ct E' => exact fun G' H' σ' e' S => h G' H' σ' (e.trans e') S
  | exc x E' => exact PostX.mono e h
  | stuck => exact h
def SndS (K : PySem.W.Frag) (W : WX) (t : TS) (f : Env → RS) : Prop := ∀ Φ G H σ E D, Sat K Φ G H σ E → PostS K W Φ G σ (f E) D → t D σ H
def JS (X : Cx) (W : WX) (s : Stmt) (f : Env → RS) : Prop := ∃ t, PS X s t ∧ SndS X.K W t f
def JSs (X : Cx) (W : WX) (s : List Stmt) (f : Env → RS) : Prop := ∃ t, PSs X s t ∧ SndS X.K W t f
/-- an expression, then what stands behind -/
theorem Snd.goS {α β : Type} {K : PySem.W.Frag} {W : WX} {rel : Rel α β} {t : St → Hp → (β → Hp → Prop) → Prop} {f : Env → R α} (h : Snd K (pw W) rel t f) {Φ : Fr} {G H : Hp} {σ : St} {E : Env} {k : α → Env → RS} {D : Ends} {Q1 : β → Hp → Prop}
    (S : Sat K Φ G H σ E) (hp : PostS K W Φ G σ ((f E).bindS k) D) (hk : ∀ a E' G' H' b, f E = .ok a E' → Ex G G' → Sat K Φ G' H' σ E' → rel Φ σ G' H' E' a b → PostS K W Φ G' σ (k a E') D → Q1 b H') : t σ H Q1 := by
  refine h Φ G H σ E Q1 S.pw ?_
  cases e : f E with
  | ok a E' =>
    rw [e] at hp
    exact fun G' H' b e' S' q => hk a E' G' H' b e e' S' q (PostS.mono e' hp)
  | exc x E' => rw [e] at hp; exact hp
  | stuck => rw [e] at hp; exact hp
def sNil : Env → RS := fun E => .nx E
def sSeq (f g : Env → RS) : Env → RS := fun E => (f E).seq g
section
variable {X : Cx} {W : WX} {a b c e o : Expr} {es : List Expr} {p pos : Pos} {fa fb fc : Env → R D} {st : Stmt} {sts : List Stmt} {f g : Env → RS}
theorem jss_nil : JSs X W [] sNil := ⟨_, pss_nil, fun Φ G H σ E D S hp => hp G H σ (Ex.refl G) S⟩
theorem jss_one (h : JS X W st f) : JSs X W [st] f := by obtain ⟨t, h1, h2⟩ := h; exact ⟨t, pss_one h1, h2⟩
theorem jss_cons (h : JS X W st f) (h' : JSs X W sts g) : JSs X W (st :: sts) (sSeq f g) := by
  obtain ⟨t, h1, h2⟩ := h
  obtain ⟨u, h3, h4⟩ := h'
  refine ⟨_, pss_cons h1 h3, fun Φ G H σ E D S hp => ?_⟩
  refine h2 Φ G H σ E { D with nx := u D } S ?_
  have hp' : PostS X.K W Φ G σ ((f E).seq g) D := hp
  cases e : f E with
  | nx E' => rw [e] at hp'; exact fun G' H' σ' e' S' => h4 Φ G' H' σ' E' D S' (PostS.mono e' hp')
  | rt rv E' => rw [e] at hp'; cases rv with | v d => exact hp' | l d => exact hp'
  | bk E' => rw [e] at hp'; exact hp'
  | ct E' => rw [e] at hp'; exact hp'
  | exc x E' => rw [e] at hp'; exact hp'
  | stuck => rw [e] at hp'; exact hp'
/-- an own list is given free, ahead of what follows -/
def pubE (i : Nat) (E : Env) : Env := match E[i]? with
  | some (.own _ l) => E.set i (.val (.lst l))
  | some (.obj _ c ns ds) => E.set i (.val (.ins c ns ds))
  | _ => E
theorem JSs.pub (i : Nat) (h : JSs X W sts f) : JSs X W sts (fun E => f (pubE i E)) := by
  obtain ⟨t, h1, h2⟩ := h
  refine ⟨t, h1, fun Φ G H σ E D S hp => ?_⟩
  cases e : E[i]? with
  | none =>
    have ee : pubE i E = E := by unfold pubE; rw [e]
    simp only [ee] at hp
    exact h2 Φ G H σ E D S hp
  | some s =>
    cases s with
    | own b l =>
      have ee : pubE i E = E.set i (.val (.lst l)) := by unfold pubE; rw [e]
      simp only [ee] at hp
      obtain ⟨G', e', S'⟩ := S.pub e
      exact h2 Φ G' H σ _ D S' (PostS.mono e' hp)
    | obj b c ns ds =>
      have ee : pubE i E = E.set i (.val (.ins c ns ds)) := by unfold pubE; rw [e]
      simp only [ee] at hp
      obtain ⟨x, hx, q, dx, vs, rfl, k1, k2, k3⟩ := S.sl i _ e
      obtain ⟨G', e', S'⟩ := S.pubW (b0 := b) e rfl hx k1 (.ins upd_same k2 (k3.mono (Ex.new (S.ow' i _ b q e rfl hx).1)))
      exact h2 Φ G' H σ _ D S' (PostS.mono e' hp)
    | no =>
      have ee : pubE i E = E := by unfold pubE; rw [e]
      simp only [ee] at hp
      exact h2 Φ G H σ E D S hp
    | val d =>
      have ee : pubE i E = E := by unfold pubE; rw [e]
      simp only [ee] at hp
      exact h2 Φ G H σ E D S hp
theorem js_pass : JS X W (.Pass pos) sNil := ⟨_, ps_pass, fun Φ G H σ E D S hp => hp G H σ (Ex.refl G) S⟩
theorem js_break : JS X W (.Break pos) (fun E => .bk E) := ⟨_, ps_break, fun Φ G H σ E D S hp => hp G H σ (Ex.refl G) S⟩
theorem js_continue : JS X W (.Continue pos) (fun E => .ct E) := ⟨_, ps_continue, fun Φ G H σ E D S hp => hp G H σ (Ex.refl G) S⟩
def sExpr (fa : Env → R D) : Env → RS := fun E => (fa E).bindS fun _ E => .nx E
theorem js_expr (h : JE X W e fa) (hs : swapsWith e none pos.line X.env = pure false := by rfl) : JS X W (.Expr e pos) (sExpr fa) := by
  obtain ⟨te, h1, h2⟩ := h
  refine ⟨_, ps_expr h1 hs, fun Φ G H σ E D S hp => ?_⟩
  exact h2.goS S hp fun a E' G' H' v _ e' S' r hp => hp G' H' σ (Ex.refl G') S'
def sRet (fa : Env → R D) : Env → RS := fun E => (fa E).bindS fun d E => .rt (.v d) E
theorem js_ret (h : JE X W e fa) : JS X W (.Return (some e) pos) (sRet fa) := by
  obtain ⟨te, h1, h2⟩ := h
  refine ⟨_, ps_ret h1, fun Φ G H σ E D S hp => ?_⟩
  exact h2.goS S hp fun a E' G' H' v _ e' S' r hp => hp G' H' σ v (Ex.refl G') S' r
def sRetL (fa : Env → R (List D)) : Env → RS := fun E => (fa E).bindS fun d E => .rt (.l d) E
theorem js_retL {fl : Env → R (List D)} (h : JL X W e fl) : JS X W (.Return (some e) pos) (sRetL fl) := by
  obtain ⟨te, h1, h2⟩ := h
  refine ⟨_, ps_ret h1, fun Φ G H σ E D S hp => ?_⟩
  exact h2.goS S hp fun a E' G' H' v _ e' S' r hp => hp G' H' σ v (Ex.refl G') S' r
def sRetN : Env → RS := fun E => .rt (.v .non) E
theorem js_retN : JS X W (.Return none pos) sRetN := ⟨_, ps_retN, fun Φ G H σ E D S hp => hp G H σ .non (Ex.refl G) S .non⟩
def sIf (t : Env → R Bool) (f g : Env → RS) : Env → RS := fun E => (t E).bindS fun k E => if k = true then f E else g E
theorem js_if {t : Env → R Bool} {sa sb : List Stmt} (ht : JT X W c t) (ha : JSs X W sa f) (hb : JSs X W sb g) : JS X W (.If c sa sb pos) (sIf t f g) := by
  obtain ⟨tt, h1, h2⟩ := ht
  obtain ⟨ta, h3, h4⟩ := ha
  obtain ⟨tb, h5, h6⟩ := hb
  refine ⟨_, ps_if h1 h3 h5, fun Φ G H σ E D S hp => ?_⟩
  refine h2.goS S hp fun k E' G' H' v _ e' S' r hp => ?_
  subst r
  cases k with
  | true => exact iteT (h4 Φ G' H' σ E' D S' hp)
  | false => exact iteF (h6 Φ G' H' σ E' D S' hp)

/-! ### targets -/
def Chg (is : List Nat) (σ σ' : St) : Prop := σ'.length = σ.length ∧ ∀ i, i ∉ is → σ'[i]? = σ[i]?
def GGo (K : PySem.W.Frag) (is : List Nat) (g : D → Env → Option Env) (t : TG) : Prop := ∀ Φ G H σ E v d E' (Q : St → Hp → Prop), Sat K Φ G H σ E → Rp K G v d → g d E = some E' → (∀ G' H' σ', Ex G G' → Sat K Φ G' H' σ' E' → Chg is σ σ' → Q σ' H') → t v σ H Q
def GsGo (K : PySem.W.Frag) (is : List Nat) (g : List D → Env → Option Env) (t : TGs) : Prop := ∀ Φ G H σ E vs ds E' (Q : St → Hp → Prop), Sat K Φ G H σ E → RpA K G vs ds → g ds E = some E' → (∀ G' H' σ', Ex G G' → Sat K Φ G' H' σ' E' → Chg is σ σ' → Q σ' H') → t vs σ H Q
def JG (X : Cx) (tg : Expr) (is : List Nat) (g : D → Env → Option Env) : Prop := ∃ t, PG X tg t ∧ GGo X.K is g t
def JGs (X : Cx) (tg : List Expr) (is : List Nat) (g : List D → Env → Option Env) : Prop := ∃ t, PGs X tg t ∧ GsGo X.K is g t
def gNm (i : Nat) : D → Env → Option Env := fun d E => some (E.set i (.val d))
theorem jg_name (i : Nat) {x : Str} (hN : X.N.Nodup) (hi : X.N[i]? = some x := by rfl) (hx : Loc X.env.scope x := by first | exact Or.inl rfl | exact Or.inr rfl) (hf : X.fn x = true ∨ X.env.scope.names.lookup x = some .local := by first | exact .inl rfl | exact .inr rfl | assumption) : JG X (.Name x pos) [i] (gNm i) :=
  ⟨_, pg_name hN hi hx hf, fun Φ G H σ E v d E' Q S r hg k => by cases hg; exact k G H _ (Ex.refl G) (S.setV r) ⟨List.length_set, fun j hj => List.getElem?_set_ne fun z => hj (by simp [z])⟩⟩
def gsNil : List D → Env → Option Env := fun l E => match l with | [] => some E | _ => none
def gsCons (g : D → Env → Option Env) (r : List D → Env → Option Env) : List D → Env → Option Env := fun l E => match l with | d :: ds => (g d E).bind (r ds) | [] => none
theorem jgs_nil : JGs X [] [] gsNil := ⟨_, pgs_nil, fun Φ G H σ E vs ds E' Q S r hg k => by
  cases ds with
  | nil => cases hg; cases r; exact ⟨rfl, k G H _ (Ex.refl G) S ⟨rfl, fun _ _ => rfl⟩⟩
  | cons _ _ => cases hg⟩
theorem jgs_cons {is1 is2 : List Nat} {g1 : D → Env → Option Env} {g2 : List D → Env → Option Env} (h : JG X e is1 g1) (h' : JGs X es is2 g2) (hs : (assignEach (e :: es) X.env).map (·.2) = assign e X.env :: (assignEach es X.env).map (·.2) := by rfl) : JGs X (e :: es) (is1 ++ is2) (gsCons g1 g2) := by
  obtain ⟨t, h1, h2⟩ := h
  obtain ⟨u, h3, h4⟩ := h'
  refine ⟨_, pgs_cons h1 h3 hs, fun Φ G H σ E vs ds E' Q S r hg k => ?_⟩
  cases ds with
  | nil => cases hg
  | cons d ds =>
    cases r with
    | cons r1 r2 =>
      obtain ⟨E1, e1, e2⟩ := Option.bind_eq_some_iff.mp (show (g1 d E).bind (g2 ds) = some E' from hg)
      refine ⟨_, _, rfl, h2 Φ G H σ E _ d E1 _ S r1 e1 fun G1 H1 σ1 x1 S1 c1 => ?_⟩
      exact h4 Φ G1 H1 σ1 E1 _ ds E' Q S1 (r2.mono x1) e2 fun G2 H2 σ2 x2 S2 c2 => k G2 H2 σ2 (x1.trans x2) S2 ⟨c2.1.trans c1.1, fun j hj => (c2.2 j fun z => hj (List.mem_append_right _ z)).trans (c1.2 j fun z => hj (List.mem_append_left _ z))⟩
def gTup2 (g : List D → Env → Option Env) : D → Env → Option Env := fun d E => match d with | .tup l => g l E | _ => none
theorem jg_tup {k n : Nat} {is : List Nat} {g2 : List D → Env → Option Env} (hc : X.calm = true) (h : JGs X es is g2) (hlen : ∀ l E E', g2 l E = some E' → l.length = n) (hn : (assignEach es X.env).length = n := by rfl) (hst : (assignEach es X.env).findIdx? (·.1) = none := by rfl) : JG X (.Tuple es k pos) is (gTup2 g2) := by
  obtain ⟨t, h1, h2⟩ := h
  refine ⟨_, pg_tup hc h1 hn hst, fun Φ G H σ E v d E' Q S r hg k => ?_⟩
  cases d with
  | tup l =>
    cases r with
    | tup r1 r2 =>
      exact ⟨_, _, rfl, S.gh.st r1, by rw [r2.length]; exact hlen l E E' hg, h2 Φ G H σ E _ l E' Q S r2 hg k⟩
  | _ => cases hg
theorem gs_len0 : ∀ l E E', gsNil l E = some E' → l.length = 0 := fun l E E' h => by cases l with | nil => rfl | cons _ _ => cases h
theorem gs_lenS {g1 : D → Env → Option Env} {g2 : List D → Env → Option Env} {n : Nat} (h : ∀ l E E', g2 l E = some E' → l.length = n) : ∀ l E E', gsCons g1 g2 l E = some E' → l.length = n + 1 := fun l E E' hg => by
  cases l with
  | nil => cases hg
  | cons d ds =>
    obtain ⟨E1, e1, e2⟩ := Option.bind_eq_some_iff.mp (show (g1 d E).bind (g2 ds) = some E' from hg)
    rw [List.length_cons, h ds E1 E' e2]
def sAsg (fa : Env → R D) (g : D → Env → Option Env) : Env → RS := fun E => (fa E).bindS fun d E => match g d E with | some E' => .nx E' | none => .stuck
theorem js_asg {tg : Expr} {is : List Nat} {g : D → Env → Option Env} (h : JE X W e fa) (hg : JG X tg is g) (hs : swapsWithSole [tg] e pos.line X.env = pure false := by rfl) (hw : swappedStores [tg] e X.env = pure none := by rfl)
    (h1 : (assignEach [tg] X.env).map (·.2) = [assign tg X.env] := by rfl) : JS X W (.Assign [tg] e pos) (sAsg fa g) := by
  obtain ⟨te, p1, s1⟩ := h
  obtain ⟨t, p2, s2⟩ := hg
  refine ⟨_, ps_asg p1 p2 hs hw h1, fun Φ G H σ E D S hp => ?_⟩
  refine s1.goS S hp fun d E' G' H' v _ e' S' r hp => ?_
  cases eg : g d E' with
  | none => rw [eg] at hp; exact hp.elim
  | some E2 => rw [eg] at hp; exact s2 Φ G' H' σ E' v d E2 _ S' r eg fun G2 H2 σ2 e2 S2 _ => hp G2 H2 σ2 e2 S2
def sSet (i : Nat) (fa : Env → R D) : Env → RS := fun E => (fa E).bindS fun d E => .nx (E.set i (.val d))
theorem js_set (i : Nat) {x : Str} {pos' : Pos} (hN : X.N.Nodup) (h : JE X W e fa) (hi : X.N[i]? = some x := by rfl) (hx : Loc X.env.scope x := by first | exact Or.inl rfl | exact Or.inr rfl) (hs : swapsWith e (some (.Name x pos')) pos.line X.env = pure false := by rfl) (hf : X.fn x = true ∨ X.env.scope.names.lookup x = some .local := by first | exact .inl rfl | exact .inr rfl | assumption) :
    JS X W (.Assign [.Name x pos'] e pos) (sSet i fa) := by
  obtain ⟨te, p1, s1⟩ := h
  refine ⟨_, ps_set hN hi hx p1 hs hf, fun Φ G H σ E D S hp => ?_⟩
  exact s1.goS S hp fun d E' G' H' v _ e' S' r hp => hp G' H' _ (Ex.refl G') (S'.setV r)
def sSetL (i : Nat) (fa : Env → R (List D)) : Env → RS := fun E => (fa E).bindS fun l E => .nx (E.set i (.own false l))
theorem js_setL (i : Nat) {x : Str} {pos' : Pos} {fl : Env → R (List D)} (hN : X.N.Nodup) (h : JL X W e fl) (hi : X.N[i]? = some x := by rfl) (hx : Loc X.env.scope x := by first | exact Or.inl rfl | exact Or.inr rfl) (hs : swapsWith e (some (.Name x pos')) pos.line X.env = pure false := by rfl) (hf : X.fn x = true ∨ X.env.scope.names.lookup x = some .local := by first | exact .inl rfl | exact .inr rfl | assumption) :
    JS X W (.Assign [.Name x pos'] e pos) (sSetL i fl) := by
  obtain ⟨te, p1, s1⟩ := h
  refine ⟨_, ps_set hN hi hx p1 hs hf, fun Φ G H σ E D S hp => ?_⟩
  refine s1.goS S hp fun l E' G' H' v _ e' S' r hp => ?_
  obtain ⟨q, vs, rfl, h1, h2, h3, h4, h5⟩ := r
  exact hp G' H' _ (Ex.refl G') (S'.setO h1 h2 h3 h4 h5)
/-- x += e, x a value -/
def sAug (i : Nat) (g : D → D → Option D) (fa : Env → R D) : Env → RS := fun E => match E[i]? with
  | some (.val x) => (fa E).bindS fun d E => match g x d with | some y => .nx (E.set i (.val y)) | none => .stuck
  | _ => .stuck
theorem js_augI (i : Nat) {x : Str} {pos' : Pos} {op : Operator} {h : Int → Int → Int} (ho : PIp X op (ipI h)) (hN : X.N.Nodup) (he : JE X W e fa) (hi : X.N[i]? = some x := by rfl) (hx : Loc X.env.scope x := by first | exact Or.inl rfl | exact Or.inr rfl) (hf : X.fn x = true ∨ X.env.scope.names.lookup x = some .local := by first | exact .inl rfl | exact .inr rfl | assumption) :
    JS X W (.AugAssign (.Name x pos') op e pos) (sAug i (g2I fun i j => some (h i j)) fa) := by
  obtain ⟨te, p1, s1⟩ := he
  refine ⟨_, ps_aug hN hi hx p1 ho hf, fun Φ G H σ E D S hp => ?_⟩
  unfold sAug at hp
  cases ee : E[i]? with
  | none => rw [ee] at hp; exact hp.elim
  | some s =>
    rw [ee] at hp
    cases s with
    | no => exact hp.elim
    | obj _ _ _ _ => exact hp.elim
    | own _ _ => exact hp.elim
    | val d0 =>
      obtain ⟨w, hw, v, rfl, r⟩ := S.sl i _ ee
      refine ⟨v, hw, ?_⟩
      refine s1.goS S hp fun d E' G' H' u _ e' S' r' hp => ?_
      cases d0 with
      | int m =>
        cases d with
        | int n => cases r; cases r'; exact ⟨m, n, rfl, rfl, hp G' H' _ (Ex.refl G') (S'.setV (.int _))⟩
        | _ => exact hp.elim
      | _ => exact hp.elim
/-- x.append(e), x one's own list -/
def sApp (i : Nat) (fa : Env → R D) : Env → RS := fun E => match E[i]? with
  | some (.own _ _) => (fa E).bindS fun d E => (match E[i]? with
    | some (.own b l) => if l.length < 16777216 then .nx (E.set i (.own b (l ++ [d]))) else .stuck
    | _ => .stuck)
  | _ => .stuck
theorem js_app (i : Nat) {x : Str} {p2 apos cpos : Pos} (h : JE X W e fa) (hN : X.N[i]? = some x := by rfl) (hv : Vis X.env.scope x := by first | exact Or.inl rfl | exact Or.inr (Or.inl rfl) | exact Or.inr (Or.inr rfl)) (hd : (x == ("__debug__" : Str)) = false := by decide)
    (hcd : (x == ("__classdict__" : Str)) = false := by decide) (hbase : attributeBase (.Name x p2) "append" X.env (eval (.Name x p2) X.env) = eval (.Name x p2) X.env := by rfl)
    (hfew : ((backTo cpos (starEach [e] X.env)).all (fun x => !x.1) && (backToKw cpos (keywordEach [] X.env)).all (fun x => x.1.isSome)
      && decide ([e].length + ([] : List Keyword).length + (if ([] : List Keyword).isEmpty then 0 else 1) < 30)) = true := by rfl)
    (hline : (apos.endLine == cpos.line) = true := by rfl) (hs : starEach [e] X.env = (false, eval e X.env) :: starEach [] X.env := by rfl) (hplain : (backTo cpos (starEach [] X.env)).any (·.1) = false := by rfl)
    (hsw : swapsWith (.Call (.Attribute (.Name x p2) "append" apos) [e] [] cpos) none pos.line X.env = pure false := by rfl) :
    JS X W (.Expr (.Call (.Attribute (.Name x p2) "append" apos) [e] [] cpos) pos) (sApp i fa) := by
  obtain ⟨te, p1, s1⟩ := h
  refine ⟨_, ps_expr (pe_bm PySem.F.plainAttrs_list PySem.F.slot_list_append PySem.F.type_list_append mt_append (pe_var hN hv hd hcd) (pa_cons p1 pa_nil hs) hbase hfew hline hs hplain) hsw, fun Φ G H σ E D S hp => ?_⟩
  unfold sApp at hp
  cases ee : E[i]? with
  | none => rw [ee] at hp; exact hp.elim
  | some s =>
    rw [ee] at hp
    cases s with
    | no => exact hp.elim
    | obj _ _ _ _ => exact hp.elim
    | val _ => exact hp.elim
    | own b0 l0 =>
      obtain ⟨w, hw, q, vs, rfl, h1, h2⟩ := S.sl i _ ee
      refine ⟨.ref q, hw, .inl ⟨rfl, vs, SqL.of h1⟩, ?_⟩
      refine s1.goS S hp fun d E' G' H' u _ e' S' r' hp => ?_
      cases e2 : E'[i]? with
      | none => rw [e2] at hp; exact hp.elim
      | some s =>
        rw [e2] at hp
        cases s with
        | no => exact hp.elim
        | obj _ _ _ _ => exact hp.elim
        | val _ => exact hp.elim
        | own b l =>
          simp only at hp
          by_cases c : l.length < 16777216
          · rw [if_pos c] at hp
            obtain ⟨w', hw', q', ws, rfl, h3, h4⟩ := S'.sl i _ e2
            rw [hw] at hw'
            cases hw'
            refine ⟨q, ws, u, rfl, rfl, h3, by rw [sizeLine_eq, h4.length]; exact c, ?_⟩
            exact hp G' _ σ (Ex.refl G') (S'.write e2 hw (h4.append (.cons r' .nil)))
          · rw [if_neg c] at hp; exact hp.elim
/-- x[k] = e, x one's own list -/
def sSetIx (i : Nat) (fk fa : Env → R D) : Env → RS := fun E => (fa E).bindS fun d E => match E[i]? with
  | some (.own _ _) => (fk E).bindS fun k E => (match k, E[i]? with
    | .int k, some (.own b l) => (match ixN l.length k with
      | some j => .nx (E.set i (.own b (l.set j d)))
      | none => .stuck)
    | _, _ => .stuck)
  | _ => .stuck
theorem js_setIx (i : Nat) {x : Str} {p2 tp : Pos} {fk : Env → R D} (h : JE X W e fa) (hk : JE X W c fk) (hN : X.N[i]? = some x := by rfl) (hv : Vis X.env.scope x := by first | exact Or.inl rfl | exact Or.inr (Or.inl rfl) | exact Or.inr (Or.inr rfl)) (hd : (x == ("__debug__" : Str)) = false := by decide)
    (hcd : (x == ("__classdict__" : Str)) = false := by decide)
    (ha : ∀ v, assign (.Subscript (.Name x p2) c tp) X.env v = (do
      let ov ← holding [v] (eval (.Name x p2) X.env)
      let iv ← holding [v, ov] (eval c X.env)
      standAt tp
      holding [v, ov, iv] (setItem ov iv v)
      release [v, ov, iv] []) := by intro _; rfl)
    (hs : swapsWithSole [.Subscript (.Name x p2) c tp] e pos.line X.env = pure false := by rfl) (hw : swappedStores [.Subscript (.Name x p2) c tp] e X.env = pure none := by rfl)
    (h1 : (assignEach [.Subscript (.Name x p2) c tp] X.env).map (·.2) = [assign (.Subscript (.Name x p2) c tp) X.env] := by rfl) :
    JS X W (.Assign [.Subscript (.Name x p2) c tp] e pos) (sSetIx i fk fa) := by
  obtain ⟨te, p1, s1⟩ := h
  obtain ⟨tk, p3, s3⟩ := hk
  refine ⟨_, ps_asg p1 (pg_sub (pe_var hN hv hd hcd) p3 set_list ha) hs hw h1, fun Φ G H σ E D S hp => ?_⟩
  refine s1.goS S hp fun d E1 G1 H1 v _ x1 S1 r1 hp => ?_
  cases ee : E1[i]? with
  | none => rw [ee] at hp; exact hp.elim
  | some s =>
    rw [ee] at hp
    cases s with
    | no => exact hp.elim
    | obj _ _ _ _ => exact hp.elim
    | val _ => exact hp.elim
    | own b0 l0 =>
      obtain ⟨w, hw, q, vs, rfl, h1, h2⟩ := S1.sl i _ ee
      refine ⟨.ref q, hw, ?_⟩
      refine s3.goS S1 hp fun k E2 G2 H2 u _ x2 S2 r2 hp => ?_
      cases k with
      | int k =>
        cases e2 : E2[i]? with
        | none => rw [e2] at hp; exact hp.elim
        | some s =>
          rw [e2] at hp
          cases s with
          | no => exact hp.elim
          | obj _ _ _ _ => exact hp.elim
          | val _ => exact hp.elim
          | own b l =>
            simp only at hp
            cases e3 : ixN l.length k with
            | none => rw [e3] at hp; exact hp.elim
            | some j =>
              rw [e3] at hp
              obtain ⟨w', hw', q', ws, rfl, h3, h4⟩ := S2.sl i _ e2
              rw [hw] at hw'
              cases hw'
              cases r2
              refine ⟨q, ws, k, j, rfl, rfl, h3, by rw [h4.length]; exact e3, ?_⟩
              exact hp G2 _ σ (Ex.refl G2) (S2.write e2 hw (h4.set (Rp.mono x2 _ r1) j))
      | _ => exact hp.elim

/-! ### what is walked -/
def WalkOk (K : PySem.W.Frag) (J : It) (G : Hp) (ds : List D) : Prop := ∀ Φ G' H' σ E, Ex G G' → Sat K Φ G' H' σ E → ∀ i, i ≤ ds.length →
  (i = ds.length → J.stop i H') ∧ (∀ d, ds[i]? = some d → J.go i H' ∧ ∀ x H'', J.yld i H' x H'' → ∃ G'', Ex G' G'' ∧ Sat K Φ G'' H'' σ E ∧ Rp K G'' x d)
theorem WalkOk.mono {K : PySem.W.Frag} {J : It} {G G' : Hp} {ds : List D} (e : Ex G G') (h : WalkOk K J G ds) : WalkOk K J G' ds := fun Φ G2 H' σ E e2 S => h Φ G2 H' σ E (e.trans e2) S
def JI (X : Cx) (W : WJ) (tg iter : Expr) (f : Env → R (List D)) : Prop := ∃ wi, PI X tg iter wi ∧ Snd X.K W (fun _ _ G' _ _ ds J => WalkOk X.K J G' ds) wi f
theorem pi_or {tg iter : Expr} {w1 w2 : TI} (h1 : PI X tg iter w1) (h2 : PI X tg iter w2) : PI X tg iter (fun σ H R => w1 σ H R ∨ w2 σ H R) := by
  refine ⟨fun pins s σ H R I h => ?_⟩
  rcases h with h | h
  · exact h1.run pins s σ H R I h
  · exact h2.run pins s σ H R I h
theorem walk_list {K : PySem.W.Frag} {G : Hp} {a : Addr} {vs : List V} {ds : List D} (h : SqL K G a vs) (r : RpA K G vs ds) : WalkOk K (Itl K a) G ds := by
  intro Φ G' H' σ E e S i hi
  have hq := (e.trans S.gh).sl h
  refine ⟨fun z => ⟨vs, hq, by rw [r.length, z]; exact Nat.le_refl _⟩, fun d hd => ?_⟩
  obtain ⟨v, hv, rv⟩ := r.get hd
  refine ⟨⟨vs, v, hq, hv⟩, fun x H'' hy => ?_⟩
  obtain ⟨rfl, hx⟩ := hy
  have := hx vs hq
  rw [hv] at this
  cases this
  exact ⟨G', Ex.refl G', S, Rp.mono e _ rv⟩
end
end J

namespace J
open PySem PySem.Spec PyProof.Rows L2

/-! ### one form for a whole family of contexts -/
def canE {α β : Type} (K : PySem.W.Frag) (W : WJ) (rel : Rel α β) (f : Env → R α) : St → Hp → (β → Hp → Prop) → Prop := fun σ H Q => ∃ Φ G E, SatC K W Φ G H σ E ∧ Post K W.w rel Φ G σ (f E) Q
theorem canE.snd {α β : Type} {K : PySem.W.Frag} {W : WJ} {rel : Rel α β} {f : Env → R α} : Snd K W rel (canE K W rel f) f := fun Φ G H σ E Q S hp => ⟨Φ, G, E, S, hp⟩
def canG (K : PySem.W.Frag) (is : List Nat) (g : D → Env → Option Env) : TG := fun v σ H Q => ∃ Φ G E d E', Sat K Φ G H σ E ∧ Rp K G v d ∧ g d E = some E' ∧ ∀ G' H' σ', Ex G G' → Sat K Φ G' H' σ' E' → Chg is σ σ' → Q σ' H'
theorem canG.go {K : PySem.W.Frag} {is : List Nat} {g : D → Env → Option Env} : GGo K is g (canG K is g) := fun Φ G H σ E v d E' Q S r hg k => ⟨Φ, G, E, d, E', S, r, hg, k⟩
section
variable {X : Cx} {W : WJ} {e tg : Expr} {es : List Expr} {pos : Pos} {is : List Nat} {f : Env → R D} {t : Env → R Bool} {g : D → Env → Option Env} {fl : Env → R (List D)}
theorem JE.can (h : JE X W e f) : PE X e (canE X.K W (relE X.K) f) := by
  obtain ⟨te, h1, h2⟩ := h
  exact ⟨fun pins s σ H Q I ⟨Φ, G, E, S, hp⟩ => h1.run pins s σ H Q I (h2 Φ G H σ E Q S hp)⟩
theorem JT.can (h : JT X W e t) : PT X e (canE X.K W relT t) := by
  obtain ⟨te, h1, h2⟩ := h
  exact ⟨fun pins s σ H Q I ⟨Φ, G, E, S, hp⟩ => h1.run pins s σ H Q I (h2 Φ G H σ E Q S hp)⟩
theorem JG.can (h : JG X tg is g) : PG X tg (canG X.K is g) := by
  obtain ⟨te, h1, h2⟩ := h
  exact ⟨fun pins s σ H v u Q I r ⟨Φ, G, E, d, E', S, rv, hg, k⟩ => h1.run pins s σ H v u Q I r (h2 Φ G H σ E v d E' Q S rv hg k)⟩
abbrev relW (K : PySem.W.Frag) : Rel (List D) It := fun _ _ G' _ _ ds J => WalkOk K J G' ds
theorem JI.can (h : JI X W tg e fl) : PI X tg e (canE X.K W (relW X.K) fl) := by
  obtain ⟨te, h1, h2⟩ := h
  exact ⟨fun pins s σ H Q I ⟨Φ, G, E, S, hp⟩ => h1.run pins s σ H Q I (h2 Φ G H σ E Q S hp)⟩
/-- the tests of a comprehension -/
def JTs (X : Cx) (W : WJ) (es : List Expr) (t : Env → R Bool) : Prop := ∃ te, PTs X es te ∧ Snd X.K W relT te t
theorem JTs.can (h : JTs X W es t) : PTs X es (canE X.K W relT t) := by
  obtain ⟨te, h1, h2⟩ := h
  exact ⟨fun pins s σ H Q I ⟨Φ, G, E, S, hp⟩ => h1.run pins s σ H Q I (h2 Φ G H σ E Q S hp)⟩
def fYes : Env → R Bool := fun E => .ok true E
theorem jts_nil : JTs X W [] fYes := ⟨_, pts_nil, fun Φ G H σ E Q S hp => hp G H true (Ex.refl G) S rfl⟩
theorem jts_one (h : JT X W e t) : JTs X W [e] t := by obtain ⟨te, h1, h2⟩ := h; exact ⟨te, pts_one h1, h2⟩
end

/-! ### what is walked -/
section
variable {K : PySem.W.Frag} {G : Hp}
theorem walk_tup {a : Addr} {vs : List V} {ds : List D} (h : SqT K G a vs) (r : RpA K G vs ds) : WalkOk K (Itt K a) G ds := by
  intro Φ G' H' σ E e S i hi
  have hq := (e.trans S.gh).st h
  refine ⟨fun z => ⟨vs, hq, by rw [r.length, z]; exact Nat.le_refl _⟩, fun d hd => ?_⟩
  obtain ⟨v, hv, rv⟩ := r.get hd
  refine ⟨⟨vs, v, hq, hv⟩, fun x H'' hy => ?_⟩
  obtain ⟨rfl, hx⟩ := hy
  have h2 := hx vs hq
  rw [hv] at h2
  cases h2
  exact ⟨G', Ex.refl G', S, Rp.mono e _ rv⟩
def upD (lo : Int) (n : Nat) : List D := (List.range n).map fun k => .int (lo + (k : Nat))
theorem upD_get {lo : Int} {n i : Nat} {d : D} (h : (upD lo n)[i]? = some d) : i < n ∧ d = .int (lo + (i : Nat)) := by
  unfold upD at h
  rw [List.getElem?_map] at h
  obtain ⟨k, h1, h2⟩ := Option.map_eq_some_iff.mp h
  obtain ⟨h3, h4⟩ := List.getElem?_eq_some_iff.mp h1
  rw [List.getElem_range] at h4
  subst h4
  exact ⟨by simpa using h3, h2.symm⟩
theorem walk_range {lo : Int} {n : Nat} : WalkOk K (Itr lo n) G (upD lo n) := by
  intro Φ G' H' σ E e S i hi
  have hl : (upD lo n).length = n := by unfold upD; simp
  refine ⟨fun z => by show n ≤ i; omega, fun d hd => ?_⟩
  obtain ⟨h1, rfl⟩ := upD_get hd
  refine ⟨h1, fun x H'' hy => ?_⟩
  obtain ⟨rfl, rfl⟩ := hy
  exact ⟨G', Ex.refl G', S, .int _⟩
def enumD (ds : List D) : List D := ds.zipIdx.map fun p => .tup [.int (p.2 : Nat), p.1]
theorem walk_enum {a : Addr} {vs : List V} {ds : List D} (h : SqL K G a vs) (r : RpA K G vs ds) : WalkOk K (Ite K a) G (enumD ds) := by
  intro Φ G' H' σ E e S i hi
  have hq := (e.trans S.gh).sl h
  have hl : (enumD ds).length = ds.length := by unfold enumD; simp
  refine ⟨fun z => ⟨vs, hq, by rw [r.length]; omega⟩, fun d hd => ?_⟩
  unfold enumD at hd
  rw [List.getElem?_map, List.getElem?_zipIdx] at hd
  obtain ⟨p, h1, rfl⟩ := Option.map_eq_some_iff.mp hd
  obtain ⟨d0, h2, rfl⟩ := Option.map_eq_some_iff.mp h1
  obtain ⟨v, hv, rv⟩ := r.get h2
  refine ⟨⟨vs, v, hq, hv⟩, fun x H'' hy => ?_⟩
  obtain ⟨T, y, rfl, hT, rfl, hy⟩ := hy
  have h3 := hy vs hq
  rw [hv] at h3
  cases h3
  have g := S.gh.back hT
  have e0 : ((0 + i : Nat) : Int) = (i : Nat) := by rw [Nat.zero_add]
  refine ⟨_, Ex.new g, S.new hT, .tup (SqT.of upd_same) (.cons ?_ (.cons (Rp.mono (e.trans (Ex.new g)) _ rv) .nil))⟩
  show Rp K _ (.int (i : Nat)) (.int ((0 + i : Nat) : Int))
  rw [e0]
  exact .int _
def zipD (ds es : List D) : List D := (ds.zip es).map fun p => .tup [p.1, p.2]
theorem zipD_get {ds es : List D} {i : Nat} {d : D} (h : (zipD ds es)[i]? = some d) : ∃ x y, ds[i]? = some x ∧ es[i]? = some y ∧ d = .tup [x, y] := by
  unfold zipD at h
  rw [List.getElem?_map] at h
  obtain ⟨p, h1, rfl⟩ := Option.map_eq_some_iff.mp h
  rw [List.getElem?_zip_eq_some] at h1
  exact ⟨_, _, h1.1, h1.2, rfl⟩
theorem walk_zip {a b : Addr} {vs us : List V} {ds es : List D} (h : SqL K G a vs) (r : RpA K G vs ds) (h' : SqL K G b us) (r' : RpA K G us es) : WalkOk K (Itz K a b) G (zipD ds es) := by
  intro Φ G' H' σ E e S i hi
  have hq := (e.trans S.gh).sl h
  have hq' := (e.trans S.gh).sl h'
  have hl : (zipD ds es).length = min ds.length es.length := by unfold zipD; simp
  refine ⟨fun z => ⟨vs, us, hq, hq', by rw [r.length, r'.length]; omega⟩, fun d hd => ?_⟩
  obtain ⟨x, y, h1, h2, rfl⟩ := zipD_get hd
  obtain ⟨v, hv, rv⟩ := r.get h1
  obtain ⟨u, hu, ru⟩ := r'.get h2
  refine ⟨⟨vs, us, v, u, hq, hq', hv, hu⟩, fun x H'' hy => ?_⟩
  obtain ⟨T, v', u', rfl, hT, rfl, y1, y2⟩ := hy
  have h3 := y1 vs hq
  have h4 := y2 us hq'
  rw [hv] at h3; rw [hu] at h4
  cases h3; cases h4
  have g := S.gh.back hT
  exact ⟨_, Ex.new g, S.new hT, .tup (SqT.of upd_same) (.cons (Rp.mono (e.trans (Ex.new g)) _ rv) (.cons (Rp.mono (e.trans (Ex.new g)) _ ru) .nil))⟩
theorem walk_revL {a : Addr} {vs : List V} {ds : List D} (h : SqL K G a vs) (r : RpA K G vs ds) : WalkOk K (Itv K a vs.length) G ds.reverse := by
  intro Φ G' H' σ E e S i hi
  have hq := (e.trans S.gh).sl h
  have hl := r.length
  rw [List.length_reverse] at hi
  refine ⟨fun z => ?_, fun d hd => ?_⟩
  · rw [List.length_reverse] at z
    show vs.length ≤ i
    omega
  · have hi2 : i < ds.length := by have := (List.getElem?_eq_some_iff.mp hd).1; simpa using this
    rw [List.getElem?_reverse hi2] at hd
    obtain ⟨v, hv, rv⟩ := r.get hd
    have e1 : vs.length - 1 - i = ds.length - 1 - i := by omega
    refine ⟨⟨by omega, vs, v, hq, by rw [e1]; exact hv⟩, fun x H'' hy => ?_⟩
    obtain ⟨rfl, hx⟩ := hy
    have h3 := hx vs hq
    rw [e1, hv] at h3
    cases h3
    exact ⟨G', Ex.refl G', S, Rp.mono e _ rv⟩
theorem walk_revT {a : Addr} {vs : List V} {ds : List D} (h : SqT K G a vs) (r : RpA K G vs ds) : WalkOk K (RT.ItvT K a vs.length) G ds.reverse := by
  intro Φ G' H' σ E e S i hi
  have hq := (e.trans S.gh).st h
  have hl := r.length
  rw [List.length_reverse] at hi
  refine ⟨fun z => ?_, fun d hd => ?_⟩
  · rw [List.length_reverse] at z
    show vs.length ≤ i
    omega
  · have hi2 : i < ds.length := by have := (List.getElem?_eq_some_iff.mp hd).1; simpa using this
    rw [List.getElem?_reverse hi2] at hd
    obtain ⟨v, hv, rv⟩ := r.get hd
    have e1 : vs.length - 1 - i = ds.length - 1 - i := by omega
    refine ⟨⟨by omega, vs, v, hq, by rw [e1]; exact hv⟩, fun x H'' hy => ?_⟩
    obtain ⟨rfl, hx⟩ := hy
    have h3 := hx vs hq
    rw [e1, hv] at h3
    cases h3
    exact ⟨G', Ex.refl G', S, Rp.mono e _ rv⟩
end
section
variable {X : Cx} {W : WJ} {a b e tg : Expr} {p pos tpos : Pos} {fa fb : Env → R D} {elts : List Expr} {kk : Nat}
theorem ji_seq (ha : JE X W e fa) : JI X W tg e (fun1L itemsD fa) := by
  obtain ⟨ta, pa, sa⟩ := ha
  refine ⟨_, pi_or (pi_list pa) (pi_tup pa), fun Φ G H σ E Q S hp => ?_⟩
  have key : ∀ (Q' : V → Hp → Prop), (∀ d ds E1 G1 H1 v, itemsD d = some ds → Ex G G1 → Sat X.K Φ G1 H1 σ E1 → Rp X.K G1 v d → Post X.K W.w (relW X.K) Φ G1 σ (.ok ds E1) Q → Q' v H1) → ta σ H Q' := fun Q' k => by
    refine sa.go S hp fun d E1 G1 H1 v _ e1 S1 r1 hp => ?_
    cases hd : itemsD d with
    | none => rw [hd] at hp; exact hp.elim
    | some ds => rw [hd] at hp; exact k d ds E1 G1 H1 v hd e1 S1 r1 hp
  cases hf : fa E with
  | exc x E' => exact .inl (sa Φ G H σ E _ S (by rw [hf]; have hp' := hp; unfold fun1L at hp'; rw [hf] at hp'; exact hp'))
  | stuck => have hp' := hp; unfold fun1L at hp'; rw [hf] at hp'; exact hp'.elim
  | ok d E' =>
    have hp' := hp; unfold fun1L at hp'; rw [hf] at hp'
    have hp2 : Post X.K W.w (relW X.K) Φ G σ (match itemsD d with | some d => .ok d E' | none => .stuck) Q := hp'
    cases hd : itemsD d with
    | none => rw [hd] at hp2; exact hp2.elim
    | some ds =>
      rw [hd] at hp2
      cases d with
      | tup l =>
        cases hd
        refine .inr (sa Φ G H σ E _ S ?_)
        rw [hf]
        intro G1 H1 v e1 S1 r1
        cases r1 with
        | tup h1 h2 => exact ⟨_, rfl, ⟨_, S1.gh.st h1⟩, hp2 G1 H1 _ e1 S1 (walk_tup h1 h2)⟩
      | lst l =>
        cases hd
        refine .inl (sa Φ G H σ E _ S ?_)
        rw [hf]
        intro G1 H1 v e1 S1 r1
        cases r1 with
        | lst h1 h2 => exact ⟨_, rfl, ⟨_, SqL.of (S1.gh _ _ h1)⟩, hp2 G1 H1 _ e1 S1 (walk_list (SqL.of h1) h2)⟩
      | rol l =>
        cases hd
        refine .inl (sa Φ G H σ E _ S ?_)
        rw [hf]
        intro G1 H1 v e1 S1 r1
        cases r1 with
        | rol h1 h2 => exact ⟨_, rfl, ⟨_, S1.gh.sl h1⟩, hp2 G1 H1 _ e1 S1 (walk_list h1 h2)⟩
      | _ => cases hd
def smI (j : Int) : Bool := decide (j.natAbs < 2 ^ 62)
theorem smI_iff {j : Int} (h : smI j = true) : -(2 ^ 62) ≤ j ∧ j < 2 ^ 62 := by
  have h := of_decide_eq_true h
  omega
def fRng1 (fa : Env → R D) : Env → R (List D) := fun E => (fa E).bind fun a E => match a with
  | .int j => if smI j = true then .ok (upD 0 j.toNat) E else .stuck
  | _ => .stuck
theorem ji_range1 (hm : X.mg "range" = none) (ha : JE X W a fa) (hg : Gl X "range" := by rfl) (hs : starEach [a] X.env = [(false, eval a X.env)] := by rfl) (he : starEach [a] X.env = (false, eval a X.env) :: starEach [] X.env := by rfl) : JI X W tg (.Call (.Name "range" p) [a] [] pos) (fRng1 fa) := by
  obtain ⟨ta, pa, sa⟩ := ha
  refine ⟨_, pi_range1 hg hm (pa_cons pa pa_nil he) hs, fun Φ G H σ E Q S hp => ?_⟩
  refine sa.go S hp fun d E1 G1 H1 v _ e1 S1 r1 hp => ?_
  cases d with
  | int j =>
    simp only at hp
    by_cases c : smI j = true
    · rw [if_pos c] at hp
      cases r1
      exact ⟨j, rfl, (smI_iff c).1, (smI_iff c).2, hp G1 H1 _ (Ex.refl G1) S1 walk_range⟩
    · rw [if_neg c] at hp; exact hp.elim
  | _ => exact hp.elim
def fRng2 (fa fb : Env → R D) : Env → R (List D) := fun E => (fa E).bind fun a E => (fb E).bind fun b E => match a, b with
  | .int i, .int j => if (smI i && smI j) = true then .ok (upD i (j - i).toNat) E else .stuck
  | _, _ => .stuck
theorem ji_range2 (hm : X.mg "range" = none) (ha : JE X W a fa) (hb : JE X W b fb) (hg : Gl X "range" := by rfl) (hs : starEach [a, b] X.env = [(false, eval a X.env), (false, eval b X.env)] := by rfl) (hs2 : starEach [b] X.env = [(false, eval b X.env)] := by rfl)
    (he : starEach [a, b] X.env = (false, eval a X.env) :: starEach [b] X.env := by rfl) (he2 : starEach [b] X.env = (false, eval b X.env) :: starEach [] X.env := by rfl) : JI X W tg (.Call (.Name "range" p) [a, b] [] pos) (fRng2 fa fb) := by
  obtain ⟨ta, pa, sa⟩ := ha
  obtain ⟨tb, pb, sb⟩ := hb
  refine ⟨_, pi_range2 hg hm (pa_cons pa (pa_cons pb pa_nil he2) he) hs hs2, fun Φ G H σ E Q S hp => ?_⟩
  refine sa.go S hp fun d E1 G1 H1 v _ e1 S1 r1 hp => ?_
  refine sb.go S1 hp fun d' E2 G2 H2 u _ e2 S2 r2 hp => ?_
  cases d with
  | int i =>
    cases d' with
    | int j =>
      simp only at hp
      by_cases c : (smI i && smI j) = true
      · rw [if_pos c] at hp
        cases r1
        cases r2
        rw [Bool.and_eq_true] at c
        exact ⟨i, j, rfl, ⟨(smI_iff c.1).1, (smI_iff c.1).2, (smI_iff c.2).1, (smI_iff c.2).2⟩, hp G2 H2 _ (Ex.refl G2) S2 walk_range⟩
      · rw [if_neg c] at hp; exact hp.elim
    | _ => exact hp.elim
  | _ => exact hp.elim
theorem ji_enum (hm : X.mg "enumerate" = none) (ha : JE X W e fa) (hg : Gl X "enumerate" := by rfl) (hs : starEach [e] X.env = [(false, eval e X.env)] := by rfl) (he : starEach [e] X.env = (false, eval e X.env) :: starEach [] X.env := by rfl) :
    JI X W (.Tuple elts kk tpos) (.Call (.Name "enumerate" p) [e] [] pos) (fun1L (fun d => (listD d).map enumD) fa) := by
  obtain ⟨ta, pa, sa⟩ := ha
  refine ⟨_, pi_enum hg hm (pa_cons pa pa_nil he) hs, fun Φ G H σ E Q S hp => ?_⟩
  refine sa.go S hp fun d E1 G1 H1 v _ e1 S1 r1 hp => ?_
  cases d with
  | lst l => cases r1 with | lst h1 h2 => exact ⟨_, _, rfl, SqL.of (S1.gh _ _ h1), hp G1 H1 _ (Ex.refl G1) S1 (walk_enum (SqL.of h1) h2)⟩
  | rol l => cases r1 with | rol h1 h2 => exact ⟨_, _, rfl, S1.gh.sl h1, hp G1 H1 _ (Ex.refl G1) S1 (walk_enum h1 h2)⟩
  | _ => exact hp.elim
def gZip : D → D → Option (List D) := fun a b => (listD a).bind fun x => (listD b).map fun y => zipD x y
def fZip (fa fb : Env → R D) : Env → R (List D) := fun E => (fa E).bind fun a E => (fb E).bind fun b E => match gZip a b with | some d => .ok d E | none => .stuck
theorem Rp.listG {K : PySem.W.Frag} {G : Hp} {v : V} {d : D} {l : List D} (h : Rp K G v d) (hl : listD d = some l) : ∃ p vs, v = .ref p ∧ SqL K G p vs ∧ RpA K G vs l := by
  cases d with
  | lst l' => cases hl; cases h with | lst h1 h2 => exact ⟨_, _, rfl, SqL.of h1, h2⟩
  | rol l' => cases hl; cases h with | rol h1 h2 => exact ⟨_, _, rfl, h1, h2⟩
  | _ => cases hl
theorem ji_zip (hm : X.mg "zip" = none) (ha : JE X W a fa) (hb : JE X W b fb) (hg : Gl X "zip" := by rfl)
    (he : starEach [a, b] X.env = (false, eval a X.env) :: starEach [b] X.env := by rfl) (he2 : starEach [b] X.env = (false, eval b X.env) :: starEach [] X.env := by rfl) (hpl : (backTo pos (starEach [b] X.env)).any (·.1) = false := by rfl) :
    JI X W (.Tuple elts kk tpos) (.Call (.Name "zip" p) [a, b] [] pos) (fZip fa fb) := by
  obtain ⟨ta, pa, sa⟩ := ha
  obtain ⟨tb, pb, sb⟩ := hb
  refine ⟨_, pi_zip hg hm (pa_cons pa (pa_cons pb pa_nil he2) he) he hpl, fun Φ G H σ E Q S hp => ?_⟩
  refine sa.go S hp fun d E1 G1 H1 v _ e1 S1 r1 hp => ?_
  refine sb.go S1 hp fun d' E2 G2 H2 u _ e2 S2 r2 hp => ?_
  cases hd : gZip d d' with
  | none => rw [hd] at hp; exact hp.elim
  | some ds =>
    rw [hd] at hp
    obtain ⟨x, h1, hd⟩ := Option.bind_eq_some_iff.mp hd
    obtain ⟨y, h2, rfl⟩ := Option.map_eq_some_iff.mp hd
    obtain ⟨p, vs, rfl, h3, h4⟩ := (Rp.mono e2 _ r1).listG h1
    obtain ⟨q, us, rfl, h5, h6⟩ := r2.listG h2
    exact ⟨p, q, vs, us, rfl, S2.gh.sl h3, S2.gh.sl h5, hp G2 H2 _ (Ex.refl G2) S2 (walk_zip h3 h4 h5 h6)⟩
def gRevA : D → Option (List D) := fun d => (itemsD d).map List.reverse
theorem ji_rev (hm : X.mg "reversed" = none) (ha : JE X W e fa) (hg : Gl X "reversed" := by rfl) (he : starEach [e] X.env = (false, eval e X.env) :: starEach [] X.env := by rfl) : JI X W tg (.Call (.Name "reversed" p) [e] [] pos) (fun1L gRevA fa) := by
  obtain ⟨ta, pa, sa⟩ := ha
  refine ⟨_, RT.pi_revA hg hm pa he, fun Φ G H σ E Q S hp => ?_⟩
  refine sa.go S hp fun d E1 G1 H1 v _ e1 S1 r1 hp => ?_
  cases d with
  | lst l => cases r1 with | lst h1 h2 => exact ⟨_, _, rfl, .inl ⟨SqL.of (S1.gh _ _ h1), hp G1 H1 _ (Ex.refl G1) S1 (walk_revL (SqL.of h1) h2)⟩⟩
  | rol l => cases r1 with | rol h1 h2 => exact ⟨_, _, rfl, .inl ⟨S1.gh.sl h1, hp G1 H1 _ (Ex.refl G1) S1 (walk_revL h1 h2)⟩⟩
  | tup l => cases r1 with | tup h1 h2 => exact ⟨_, _, rfl, .inr ⟨S1.gh.st h1, hp G1 H1 _ (Ex.refl G1) S1 (walk_revT h1 h2)⟩⟩
  | _ => exact hp.elim
end

/-! ### for -/
def forD (g : D → Env → Option Env) (f : Env → RS) : List D → Env → RS
  | [], E => .nx E
  | d :: ds, E => match g d E with
    | none => .stuck
    | some E1 => match f E1 with
      | .nx E2 => forD g f ds E2
      | .ct E2 => forD g f ds E2
      | .bk E2 => .nx E2
      | r => r
def sFor (fi : Env → R (List D)) (g : D → Env → Option Env) (f : Env → RS) : Env → RS := fun E => (fi E).bindS fun ds E => forD g f ds E
/-- what a loop's turn needs -/
structure ForW (K : PySem.W.Frag) (W : WX) (Φ : Fr) (G1 : Hp) (D : Ends) (g : J.D → Env → Option Env) (f : Env → RS) (ds : List J.D) (i m : Nat) (σ : St) (H : Hp) : Prop where
  le : i ≤ ds.length
  m : m = ds.length - i
  at' : ∃ G E, Ex G1 G ∧ Sat K Φ G H σ E ∧ PostS K W Φ G σ (forD g f (ds.drop i) E) D
theorem js_for {iter tg : Expr} {body : List Stmt} {is : List Nat} {X : Cx} {W : WX} {pos : Pos} {fi : Env → R (List D)} {g : D → Env → Option Env} {f : Env → RS} (hp : PassesOwn (model X.prog X.w) X.A X.env X.xe) (hc : X.calm = true) (hi : JI X (pw W) tg iter fi) (hg : JG X tg is g) (hb : JSs X W body f)
    (hs : ∀ x, foldedSetIterable iter X.env x = pure x := by intro _; rfl) : JS X W (.For tg iter body [] pos) (sFor fi g f) := by
  obtain ⟨wi, p1, s1⟩ := hi
  obtain ⟨tgt, p2, s2⟩ := hg
  obtain ⟨tb, p3, s3⟩ := hb
  refine ⟨_, ps_for hp hc p1 p2 p3 hs, fun Φ G H σ E D S hP => ?_⟩
  refine s1.goS S hP fun ds E1 G1 H1 J _ e1 S1 wk hP => ?_
  refine ⟨ForW X.K W Φ G1 D g f ds, ⟨_, Nat.zero_le _, rfl, G1, E1, Ex.refl G1, S1, hP⟩, fun i m σ2 H2 w => ?_⟩
  obtain ⟨hle, rfl, G2, E2, x2, S2, hP2⟩ := w
  obtain ⟨ws, wg⟩ := wk Φ G2 H2 σ2 E2 x2 S2 i hle
  by_cases hi : i = ds.length
  · refine .inl ⟨ws hi, ?_⟩
    rw [hi, List.drop_length] at hP2
    exact hP2 G2 H2 σ2 (Ex.refl G2) S2
  · have hlt : i < ds.length := by omega
    have hd : ds[i]? = some ds[i] := List.getElem?_eq_getElem hlt
    rw [List.drop_eq_getElem_cons hlt] at hP2
    obtain ⟨go, step⟩ := wg _ hd
    refine .inr ⟨go, fun σ' H' => ∃ m', m' < ds.length - i ∧ ForW X.K W Φ G1 D g f ds (i + 1) m' σ' H', fun σ' H' h => h, fun x H' hy => ?_⟩
    obtain ⟨G3, x3, S3, r3⟩ := step x H' hy
    simp only [forD] at hP2
    cases hgd : g ds[i] E2 with
    | none => rw [hgd] at hP2; exact hP2.elim
    | some E3 =>
      rw [hgd] at hP2
      refine s2 Φ G3 H' σ2 E2 x _ E3 _ S3 r3 hgd fun G4 H4 σ4 x4 S4 _ => ?_
      refine s3 Φ G4 H4 σ4 E3 _ S4 ?_
      have again : ∀ {E5 : Env}, PostS X.K W Φ G2 σ2 (forD g f (ds.drop (i + 1)) E5) D → ∀ G5 H5 σ5, Ex G4 G5 → Sat X.K Φ G5 H5 σ5 E5 → ∃ m', m' < ds.length - i ∧ ForW X.K W Φ G1 D g f ds (i + 1) m' σ5 H5 := fun {E5} h5 G5 H5 σ5 x5 S5 =>
        ⟨ds.length - (i + 1), by omega, by omega, rfl, G5, E5, x2.trans (x3.trans (x4.trans x5)), S5, PostS.mono (x3.trans (x4.trans x5)) h5⟩
      cases hf : f E3 with
      | nx E5 => simp only [hf] at hP2; exact again hP2
      | ct E5 => simp only [hf] at hP2; exact again hP2
      | bk E5 => simp only [hf] at hP2; exact fun G5 H5 σ5 x5 S5 => hP2 G5 H5 σ5 (x3.trans (x4.trans x5)) S5
      | rt rv E5 =>
        simp only [hf] at hP2
        cases rv with
        | v d => exact fun G5 H5 σ5 v x5 S5 => hP2 G5 H5 σ5 v (x3.trans (x4.trans x5)) S5
        | l d => exact fun G5 H5 σ5 v x5 S5 => hP2 G5 H5 σ5 v (x3.trans (x4.trans x5)) S5
      | exc x E5 => simp only [hf] at hP2; exact PostX.mono (x3.trans x4) hP2
      | stuck => simp only [hf] at hP2; exact hP2.elim

/-! ### while -/
def whileD (t : Env → R Bool) (f : Env → RS) : Nat → Env → RS
  | 0, _ => .stuck
  | n + 1, E => (t E).bindS fun b E1 => if b = true then (match f E1 with
      | .nx E2 => whileD t f n E2
      | .ct E2 => whileD t f n E2
      | .bk E2 => .nx E2
      | r => r) else .nx E1
theorem js_while {c : Expr} {body : List Stmt} {X : Cx} {W : WX} {pos : Pos} {t : Env → R Bool} {f : Env → RS} (fuel : Env → Nat) (hp : PassesOwn (model X.prog X.w) X.A X.env X.xe) (hc : JT X W c t) (hb : JSs X W body f) : JS X W (.While c body [] pos) (fun E => whileD t f (fuel E) E) := by
  obtain ⟨tt, p1, s1⟩ := hc
  obtain ⟨tb, p3, s3⟩ := hb
  refine ⟨_, ps_while hp p1 p3, fun Φ G H σ E D S hP => ?_⟩
  refine ⟨fun m σ' H' => ∃ G' E', Ex G G' ∧ Sat X.K Φ G' H' σ' E' ∧ PostS X.K W Φ G' σ' (whileD t f m E') D, ⟨fuel E, G, E, Ex.refl G, S, hP⟩, fun m σ2 H2 w => ?_⟩
  obtain ⟨G2, E2, x2, S2, hP2⟩ := w
  cases m with
  | zero => exact hP2.elim
  | succ m =>
    refine s1.goS S2 hP2 fun b E3 G3 H3 b' _ x3 S3 r hP3 => ?_
    have r : b = b' := r
    subst r
    cases b with
    | false => exact iteF (hP3 G3 H3 σ2 (Ex.refl G3) S3)
    | true =>
      simp only [if_true] at hP3 ⊢
      refine ⟨fun σ' H' => ∃ m', m' < m + 1 ∧ ∃ G' E', Ex G G' ∧ Sat X.K Φ G' H' σ' E' ∧ PostS X.K W Φ G' σ' (whileD t f m' E') D, fun σ' H' h => h, ?_⟩
      refine s3 Φ G3 H3 σ2 E3 _ S3 ?_
      have again : ∀ {E5 : Env}, PostS X.K W Φ G3 σ2 (whileD t f m E5) D → ∀ G5 H5 σ5, Ex G3 G5 → Sat X.K Φ G5 H5 σ5 E5 → ∃ m', m' < m + 1 ∧ ∃ G' E', Ex G G' ∧ Sat X.K Φ G' H5 σ5 E' ∧ PostS X.K W Φ G' σ5 (whileD t f m' E') D := fun {E5} h5 G5 H5 σ5 x5 S5 =>
        ⟨m, by omega, G5, E5, x2.trans (x3.trans x5), S5, PostS.mono x5 h5⟩
      cases hf : f E3 with
      | nx E5 => simp only [hf] at hP3; exact again hP3
      | ct E5 => simp only [hf] at hP3; exact again hP3
      | bk E5 => simp only [hf] at hP3; exact fun G5 H5 σ5 x5 S5 => hP3 G5 H5 σ5 x5 S5
      | rt rv E5 =>
        simp only [hf] at hP3
        cases rv with
        | v d => exact hP3
        | l d => exact hP3
      | exc x E5 => simp only [hf] at hP3; exact hP3
      | stuck => simp only [hf] at hP3; exact hP3.elim
end J

namespace J
open PySem PySem.Spec PyProof.Rows L2

/-! ### slots forgotten -/
def wipeE : List Nat → Env → Env
  | [], E => E
  | v :: vs, E => (wipeE vs E).set v .no
section
variable {K : PySem.W.Frag} {Φ : Fr} {G H : Hp} {σ σ' : St} {E : Env}
theorem Sat.wipe (S : Sat K Φ G H σ E) : ∀ vs : List Nat, Sat K Φ G H (L2.wipe σ vs) (wipeE vs E)
  | [] => S
  | v :: vs => (Sat.wipe S vs).setN
theorem wipeE_len (E : Env) : ∀ vs : List Nat, (wipeE vs E).length = E.length
  | [] => rfl
  | v :: vs => by unfold wipeE; rw [List.length_set, wipeE_len E vs]
theorem wipeE_in {i : Nat} : ∀ {vs : List Nat}, i ∈ vs → (wipeE vs E)[i]? = some .no ∨ (wipeE vs E)[i]? = none
  | [], h => by cases h
  | v :: vs, h => by
    unfold wipeE
    by_cases hv : v = i
    · subst hv
      by_cases hl : v < (wipeE vs E).length
      · rw [List.getElem?_set_self hl]; exact .inl rfl
      · rw [List.getElem?_eq_none (by simpa using hl)]; exact .inr rfl
    · rw [List.getElem?_set_ne hv]
      rcases List.mem_cons.mp h with z | z
      · exact absurd z.symm hv
      · exact wipeE_in z
theorem wipe_in {i : Nat} : ∀ {vs : List Nat}, i ∈ vs → (L2.wipe σ vs)[i]? = some none ∨ (L2.wipe σ vs)[i]? = none
  | [], h => by cases h
  | v :: vs, h => by
    unfold L2.wipe
    by_cases hv : v = i
    · subst hv
      by_cases hl : v < (L2.wipe σ vs).length
      · rw [List.getElem?_set_self hl]; exact .inl rfl
      · rw [List.getElem?_eq_none (by simpa using hl)]; exact .inr rfl
    · rw [List.getElem?_set_ne hv]
      rcases List.mem_cons.mp h with z | z
      · exact absurd z.symm hv
      · exact wipe_in z
/-- the slots that count are the same -/
theorem Sat.agree (S : Sat K Φ G H σ E) (hl : σ'.length = σ.length) (h : ∀ (i : Nat) (s : Sl), E[i]? = some s → s ≠ Sl.no → σ'[i]? = σ[i]?) : Sat K Φ G H σ' E := by
  refine ⟨hl.trans S.len, fun i s hs => ?_, S.gh, S.fh, S.fg, fun i s b p h1 hb h2 => ?_, fun i j s s' b b' p h1 hb h2 hb' h3 h4 => ?_⟩
  · by_cases hn : s = .no
    · subst hn
      have hi : i < σ'.length := by rw [hl, S.len]; exact (List.getElem?_eq_some_iff.mp hs).1
      exact ⟨_, List.getElem?_eq_getElem hi, trivial⟩
    · rw [h i s hs hn]; exact S.sl i s hs
  · rw [h i _ h1 (fun z => by subst z; cases hb)] at h2; exact S.ow' i s b p h1 hb h2
  · rw [h i _ h1 (fun z => by subst z; cases hb)] at h3
    rw [h j _ h2 (fun z => by subst z; cases hb')] at h4
    exact S.di' i j s s' b b' p h1 hb h2 hb' h3 h4
/-- back to the slots as they were -/
theorem Sat.unwipe {vs : List Nat} (S : Sat K Φ G H σ' E) (h : L2.wipe σ' vs = L2.wipe σ vs) : Sat K Φ G H σ (wipeE vs E) := by
  have S1 := S.wipe vs
  rw [h] at S1
  refine S1.agree (wipe_length σ vs).symm fun i s hs hn => ?_
  by_cases hi : i ∈ vs
  · rcases wipeE_in (E := E) hi with z | z
    · rw [z] at hs; cases hs; exact absurd rfl hn
    · rw [z] at hs; cases hs
  · exact (wipe_out hi).symm
theorem wipe_of {vs is : List Nat} (hc : Chg is (L2.wipe σ vs) σ') (hs : ∀ i ∈ is, i ∈ vs) : L2.wipe σ' vs = L2.wipe σ vs := by
  have hl : σ'.length = σ.length := hc.1.trans (wipe_length σ vs)
  apply List.ext_getElem?
  intro i
  by_cases hi : i ∈ vs
  · by_cases hb : i < σ.length
    · have a1 : i < (L2.wipe σ' vs).length := by rw [wipe_length, hl]; exact hb
      have a2 : i < (L2.wipe σ vs).length := by rw [wipe_length]; exact hb
      have b1 : (L2.wipe σ' vs)[i]? = some none := by
        rcases wipe_in (σ := σ') hi with z | z
        · exact z
        · rw [List.getElem?_eq_getElem a1] at z; cases z
      have b2 : (L2.wipe σ vs)[i]? = some none := by
        rcases wipe_in (σ := σ) hi with z | z
        · exact z
        · rw [List.getElem?_eq_getElem a2] at z; cases z
      rw [b1, b2]
    · rw [List.getElem?_eq_none (by rw [wipe_length, hl]; omega), List.getElem?_eq_none (by rw [wipe_length]; omega)]
  · rw [wipe_out hi, hc.2 i (fun z => hi (hs i z))]
/-- a list that nobody else sees is locked -/
def Fr.lk (Φ : Fr) (D : Addr) (vs : List V) : Fr := ⟨upd Φ.F D (.lst vs), Φ.io⟩
theorem Sat.lk (S : Sat K Φ G H σ E) {p : Addr} {vs : List V} (hp : H p = some (.lst vs)) (g : G p = none) (n : NotOwn σ E p) : Sat K (Φ.lk p vs) G H σ E := by
  refine ⟨S.len, S.sl, S.gh, fun a o h => ?_, fun a h => ?_, fun i s b q h1 hb h2 => ?_, S.di'⟩
  · by_cases ha : a = p
    · subst ha
      have h' : upd Φ.F a (.lst vs) a = some o := h
      rw [upd_same] at h'; rw [← h']; exact hp
    · have h' : upd Φ.F p (.lst vs) a = some o := h
      rw [upd_ne ha] at h'; exact S.fh a o h'
  · by_cases ha : a = p
    · subst ha; exact g
    · refine S.fg a fun z => h ?_
      show upd Φ.F p (.lst vs) a = none
      rw [upd_ne ha]; exact z
  · obtain ⟨h3, h4, h5⟩ := S.ow' i s b q h1 hb h2
    refine ⟨h3, ?_, h5⟩
    show upd Φ.F p (.lst vs) q = none
    rw [upd_ne (fun z => n i s b h1 hb (by rw [← z]; exact h2))]
    exact h4
theorem Sat.unlk {p : Addr} {vs : List V} (S : Sat K (Φ.lk p vs) G H σ E) (hF : Φ.F p = none) : Sat K Φ G H σ E ∧ H p = some (.lst vs) ∧ G p = none ∧ NotOwn σ E p := by
  have hs : (Φ.lk p vs).F p = some (.lst vs) := upd_same
  refine ⟨⟨S.len, S.sl, S.gh, fun a o h => ?_, fun a h => ?_, fun i s b q h1 hb h2 => ?_, S.di'⟩, S.fh p _ hs, S.fg p (by rw [hs]; simp), fun i s b h1 hb h2 => ?_⟩
  · by_cases ha : a = p
    · subst ha; rw [hF] at h; cases h
    · exact S.fh a o (by show upd Φ.F p (.lst vs) a = some o; rw [upd_ne ha]; exact h)
  · by_cases ha : a = p
    · subst ha; exact absurd hF h
    · exact S.fg a (by show upd Φ.F p (.lst vs) a ≠ none; rw [upd_ne ha]; exact h)
  · obtain ⟨h3, h4, h5⟩ := S.ow' i s b q h1 hb h2
    refine ⟨h3, ?_, h5⟩
    by_cases ha : q = p
    · subst ha; exact hF
    · have h4' : upd Φ.F p (.lst vs) q = none := h4
      rw [upd_ne ha] at h4'; exact h4'
  · obtain ⟨h3, h4, h5⟩ := S.ow' i s b p h1 hb h2
    rw [hs] at h4; cases h4
end

/-! ### [f for g in ds if t] -/
def R.nx {α : Type} (m : R α) : R α := match m with
  | .ok a E => .ok a E
  | _ => .stuck
def lcD (vs : List Nat) (g : D → Env → Option Env) (t : Env → R Bool) (f : Env → R D) : List D → List D → Env → R (List D)
  | [], acc, E => .ok acc E
  | d :: ds, acc, E => match g d (wipeE vs E) with
    | none => .stuck
    | some E1 => match t E1 with
      | .ok true E2 => (match f E2 with
        | .ok y E3 => if acc.length < 16777216 then lcD vs g t f ds (acc ++ [y]) (wipeE vs E3) else .stuck
        | _ => .stuck)
      | .ok false E2 => lcD vs g t f ds acc (wipeE vs E2)
      | _ => .stuck
def fLc (vs : List Nat) (fi : Env → R (List D)) (g : D → Env → Option Env) (t : Env → R Bool) (f : Env → R D) : Env → R (List D) := fun E => (fi E).bind fun ds E => lcD vs g t f ds [] E
def W0 : WX := fun _ _ _ _ => False
def V0 : WJ := pw W0
structure LcW (K : PySem.W.Frag) (W : WX) (Φ : Fr) (G1 : Hp) (σ : St) (P : Addr) (Q : V → Hp → Prop) (vs : List Nat) (g : D → Env → Option Env) (t : Env → R Bool) (f : Env → R D) (ds : List D) (i m : Nat) (H : Hp) : Prop where
  le : i ≤ ds.length
  m : m = ds.length - i
  at' : ∃ G E xs acc, Ex G1 G ∧ Sat K Φ G H σ E ∧ H P = some (.lst xs) ∧ RpA K G xs acc ∧ G P = none ∧ Φ.F P = none ∧ NotOwn σ E P ∧ Post K W (relL K) Φ G σ (lcD vs g t f (ds.drop i) acc E) Q
theorem NotOwn.wipe {σ : St} {E : Env} {p : Addr} (n : NotOwn σ E p) : ∀ vs : List Nat, NotOwn (L2.wipe σ vs) (wipeE vs E) p := fun vs i s b h1 hb h2 => by
  have hi : i ∉ vs := fun z => by
    rcases wipeE_in (E := E) z with q | q
    · rw [q] at h1; cases h1; cases hb
    · rw [q] at h1; cases h1
  have key : ∀ ws : List Nat, i ∉ ws → (wipeE ws E)[i]? = E[i]? := fun ws => by
    induction ws with
    | nil => intro _; rfl
    | cons w ws ih =>
      intro hw
      unfold wipeE
      rw [List.getElem?_set_ne (fun z => hw (by simp [z]))]
      exact ih fun z => hw (List.mem_cons_of_mem _ z)
  rw [key vs hi] at h1
  rw [wipe_out hi] at h2
  exact n i s b h1 hb h2
theorem Post.imp {α β : Type} {K : PySem.W.Frag} {W : WX} {rel : Rel α β} {Φ : Fr} {G : Hp} {σ : St} {r : R α} {Q Q' : β → Hp → Prop} (h : Post K W rel Φ G σ r Q) (k : ∀ b H, Q b H → Q' b H) : Post K W rel Φ G σ r Q' := by
  cases r with
  | ok a E' => exact fun G' H' b e S q => k b H' (h G' H' b e S q)
  | exc x E' => exact h
  | stuck => exact h
theorem lc_loop {K : PySem.W.Frag} {W : WX} {Φ : Fr} {G1 : Hp} {σ : St} {P : Addr} {vs is : List Nat} {g : D → Env → Option Env} {t : Env → R Bool} {f : Env → R D} {tg : TG} {tt : TT} {te : TE} {J : It} {ds : List D} {Fin : Hp → Prop} (wk : WalkOk K J G1 ds) (hg : GGo K is g tg) (hvs : ∀ i ∈ is, i ∈ vs) (ht : Snd K V0 relT tt t) (he : Snd K V0 (relE K) te f) :
    ∀ (i m : Nat) (H2 : Hp), LcW K W Φ G1 σ P (fun v H => v = .ref P → Fin H) vs g t f ds i m H2 → (J.stop i H2 ∧ Fin H2) ∨ (J.go i H2 ∧ ∃ Nx : Hp → Prop, (∀ H', Nx H' → ∃ m', m' < m ∧ LcW K W Φ G1 σ P (fun v H => v = .ref P → Fin H) vs g t f ds (i + 1) m' H') ∧ ∀ x H', J.yld i H2 x H' → tg x (L2.wipe σ vs) H' fun σ2 H2 => L2.wipe σ2 vs = L2.wipe σ vs ∧ tt σ2 H2 fun b H3 =>
      if b = true then te σ2 H3 fun y H4 => ∃ acc, H4 P = some (.lst acc) ∧ acc.length < sizeLine ∧ Nx (upd H4 P (.lst (acc ++ [y]))) else Nx H3) := by
  intro i m H2 w
  obtain ⟨hle, rfl, G2, E2, xs, acc, x2, S2, hD, ra, gD, fD, nD, hP2⟩ := w
  obtain ⟨ws, wg⟩ := wk Φ G2 H2 σ E2 x2 S2 i hle
  by_cases hi' : i = ds.length
  · refine .inl ⟨ws hi', ?_⟩
    rw [hi', List.drop_length] at hP2
    exact hP2 G2 H2 (.ref P) (Ex.refl G2) S2 ⟨P, xs, rfl, hD, ra, gD, fD, nD⟩ rfl
  · have hlt : i < ds.length := by omega
    have hd : ds[i]? = some ds[i] := List.getElem?_eq_getElem hlt
    rw [List.drop_eq_getElem_cons hlt] at hP2
    obtain ⟨go, _⟩ := wg _ hd
    refine .inr ⟨go, fun H' => ∃ m', m' < ds.length - i ∧ LcW K W Φ G1 σ P (fun v H => v = .ref P → Fin H) vs g t f ds (i + 1) m' H', fun H' h => h, fun x H' hy => ?_⟩
    have S2l := S2.lk hD gD nD
    obtain ⟨_, wg2⟩ := wk (Φ.lk P xs) G2 H2 σ E2 x2 S2l i hle
    obtain ⟨G3, x3, S3, r3⟩ := (wg2 _ hd).2 x H' hy
    simp only [lcD] at hP2
    cases hgd : g ds[i] (wipeE vs E2) with
    | none => rw [hgd] at hP2; exact hP2.elim
    | some E3 =>
      rw [hgd] at hP2
      refine hg (Φ.lk P xs) G3 H' _ (wipeE vs E2) x _ E3 _ (S3.wipe vs) r3 hgd fun G4 H4 σ4 x4 S4 c4 => ?_
      have hw := wipe_of c4 hvs
      refine ⟨hw, ?_⟩
      refine ht (Φ.lk P xs) G4 H4 σ4 E3 _ S4.pw ?_
      cases hte : t E3 with
      | exc x E5 => simp only [hte] at hP2; exact hP2.elim
      | stuck => simp only [hte] at hP2; exact hP2.elim
      | ok b E5 =>
        simp only [hte] at hP2
        intro G5 H5 b' x5 S5 hb
        have hb' : b = b' := hb
        subst hb'
        have again : ∀ {ys : List V} {ac : List D} {G6 : Hp} {H6 : Hp} {E6 : Env}, Ex G2 G6 → Sat K Φ G6 H6 σ (wipeE vs E6) → H6 P = some (.lst ys) → RpA K G6 ys ac → G6 P = none → NotOwn σ (wipeE vs E6) P → Post K W (relL K) Φ G2 σ (lcD vs g t f (ds.drop (i + 1)) ac (wipeE vs E6)) (fun v H => v = .ref P → Fin H) →
            ∃ m', m' < ds.length - i ∧ LcW K W Φ G1 σ P (fun v H => v = .ref P → Fin H) vs g t f ds (i + 1) m' H6 := fun x6 S6 h6 r6 g6 n6 p6 => ⟨ds.length - (i + 1), by omega, by omega, rfl, _, _, _, _, x2.trans x6, S6, h6, r6, g6, fD, n6, Post.mono x6 p6⟩
        cases b with
        | false =>
          refine iteF ?_
          obtain ⟨U1, U2, U3, U4⟩ := S5.unlk fD
          have U := U1.unwipe hw
          refine again (x3.trans (x4.trans x5)) U U2 (ra.mono (x3.trans (x4.trans x5))) U3 (fun j s b h1 hb h2 => ?_) hP2
          obtain ⟨k1, k2⟩ := (S5.unwipe hw).ow' j s b P h1 hb h2 |>.2
          rw [show (Φ.lk P xs).F P = some (.lst xs) from upd_same] at k1
          cases k1
        | true =>
          refine iteT ?_
          refine he (Φ.lk P xs) G5 H5 σ4 E5 _ S5.pw ?_
          cases hfe : f E5 with
          | exc x E6 => simp only [hfe] at hP2; exact hP2.elim
          | stuck => simp only [hfe] at hP2; exact hP2.elim
          | ok y E6 =>
            simp only [hfe] at hP2
            intro G6 H6 v x6 S6 r6
            obtain ⟨U1, U2, U3, U4⟩ := S6.unlk fD
            have U := U1.unwipe hw
            have xx := x3.trans (x4.trans (x5.trans x6))
            have nn : NotOwn σ (wipeE vs E6) P := fun j s b h1 hb h2 => by
              obtain ⟨k1, k2⟩ := (S6.unwipe hw).ow' j s b P h1 hb h2 |>.2
              rw [show (Φ.lk P xs).F P = some (.lst xs) from upd_same] at k1
              cases k1
            by_cases c : acc.length < 16777216
            · simp only [if_pos c] at hP2
              have ra6 := ra.mono xx
              refine ⟨xs, U2, by rw [sizeLine_eq, ra.length]; exact c, ?_⟩
              refine again xx ?_ upd_same (ra6.append (.cons r6 .nil)) U3 nn hP2
              refine ⟨U.len, fun j s hs => ?_, U.gh.mut U3, U.fh.mut fD, U.fg, U.ow', U.di'⟩
              obtain ⟨x, h1, h2⟩ := U.sl j s hs
              refine ⟨x, h1, h2.mono (Ex.refl _) fun q b hbo e2 => ?_⟩
              subst e2
              exact upd_ne fun z => by subst z; exact nn j s b hs hbo h1
            · simp only [if_neg c] at hP2; exact hP2.elim
theorem lc_snd {K : PySem.W.Frag} {W : WJ} {vs is : List Nat} {fi : Env → R (List D)} {g : D → Env → Option Env} {t : Env → R Bool} {f : Env → R D} {wi : TI} {tg : TG} {tt : TT} {te : TE} (hi : Snd K W (relW K) wi fi) (hg : GGo K is g tg) (hvs : ∀ i ∈ is, i ∈ vs) (ht : Snd K V0 relT tt t) (he : Snd K V0 (relE K) te f) :
    Snd K W (relL K) (tLc wi tg tt te vs) (fLc vs fi g t f) := by
  intro Φ G H σ E Q S hP
  refine hi.go S hP fun ds E1 G1 H1 J _ e1 S1 wk hP => ?_
  intro P hPn
  exact ⟨_, ⟨_, Nat.zero_le _, rfl, G1, E1, [], [], Ex.refl G1, S1.newH hPn, upd_same, .nil, S1.gh.back hPn, S1.fh.back hPn, S1.notOwn hPn, hP.imp fun b H q z => by rw [← z]; exact q⟩, lc_loop (W := W.w) (Fin := fun H => Q (.ref P) H) wk hg hvs ht he⟩
section
variable {X : Cx} {W : WJ} {elt tg iter : Expr} {ifs : List Expr} {scope : Scope} {pos : Pos} {is : List Nat} {fi : Env → R (List D)} {g : D → Env → Option Env} {t : Env → R Bool} {f : Env → R D}
theorem jl_lc (own : List (Str × Nat)) (hc : X.calm = true) (hN : X.N.Nodup) (hi : JI X W tg iter fi) (ok : BlkOk X.N X.env.scope scope own)
    (hg : ∀ (s : Shared) (H : Hp) (C : Addr) (cl : List (Str × Addr)) (fp : List Addr), JG (X.blk s H scope (compEnvC scope cl C X.env) fp) tg is g) (hvs : ∀ i ∈ is, i ∈ own.map (·.2))
    (ht : ∀ (s : Shared) (H : Hp) (C : Addr) (cl : List (Str × Addr)) (fp : List Addr), JTs (X.blk s H scope (compEnvC scope cl C X.env) fp) V0 ifs t)
    (he : ∀ (s : Shared) (H : Hp) (C : Addr) (cl : List (Str × Addr)) (fp : List Addr), JE (X.blk s H scope (compEnvC scope cl C X.env) fp) V0 elt f) (hs : ∀ x, foldedSetIterable iter X.env x = pure x := by intro _; rfl) :
    JL X W (.ListComp elt [⟨tg, iter, ifs, 0⟩] scope pos) (fLc (own.map (·.2)) fi g t f) := by
  obtain ⟨wi, p1, s1⟩ := hi
  exact ⟨_, pe_lc hc hN p1 ok (fun s H C cl fp => (hg s H C cl fp).can) (fun s H C cl fp => (ht s H C cl fp).can) (fun s H C cl fp => (he s H C cl fp).can) hs, lc_snd s1 canG.go hvs canE.snd canE.snd⟩
theorem js_setLc {W : WX} (i : Nat) {y : Str} {py spos : Pos} (own : List (Str × Nat)) (hc : X.calm = true) (hN : X.N.Nodup) (hi : JI X (pw W) tg iter fi) (ok : BlkOk X.N X.env.scope scope own)
    (hg : ∀ (s : Shared) (H : Hp) (C : Addr) (cl : List (Str × Addr)) (fp : List Addr), JG (X.blk s H scope (compEnvC scope cl C X.env) fp) tg is g) (hvs : ∀ i ∈ is, i ∈ own.map (·.2))
    (ht : ∀ (s : Shared) (H : Hp) (C : Addr) (cl : List (Str × Addr)) (fp : List Addr), JTs (X.blk s H scope (compEnvC scope cl C X.env) fp) V0 ifs t)
    (he : ∀ (s : Shared) (H : Hp) (C : Addr) (cl : List (Str × Addr)) (fp : List Addr), JE (X.blk s H scope (compEnvC scope cl C X.env) fp) V0 elt f)
    (hy : X.N[i]? = some y := by rfl) (hyl : X.env.scope.names.lookup y = some .local := by rfl) (hk : X.env.scope.kind = .function := by rfl) (hl : (py.line == pos.line) = true := by rfl) (hl3 : (py.line == pos.line) = true := by rfl)
    (ha : (scope.names.any fun (n, k) => n == y && (k == .local || k == .cell)) = false := by decide +kernel) (hs : ∀ x, foldedSetIterable iter X.env x = pure x := by intro _; rfl) :
    JS X W (.Assign [.Name y py] (.ListComp elt [⟨tg, iter, ifs, 0⟩] scope pos) spos) (sSetL i (fLc (own.map (·.2)) fi g t f)) := by
  obtain ⟨wi, p1, s1⟩ := hi
  refine ⟨_, ps_setLc (g := canG X.K is g) (tt := canE X.K V0 relT t) (te := canE X.K V0 (relE X.K) f) hc hN hy hyl (sw_true hk hyl hl3 ha) p1 ok (fun s H C cl fp => (hg s H C cl fp).can) (fun s H C cl fp => (ht s H C cl fp).can) (fun s H C cl fp => (he s H C cl fp).can) hs, fun Φ G H σ E D S hp => ?_⟩
  have sn : Snd X.K (pw W) (relL X.K) _ (fLc (own.map (·.2)) fi g t f) := lc_snd s1 (canG.go (K := X.K) (is := is) (g := g)) hvs (canE.snd (K := X.K) (W := V0) (rel := relT) (f := t)) (canE.snd (K := X.K) (W := V0) (rel := relE X.K) (f := f))
  refine sn.goS S hp fun l E' G' H' v _ e' S' r hp => ?_
  obtain ⟨q, vs, rfl, h1, h2, h3, h4, h5⟩ := r
  exact hp G' H' _ (Ex.refl G') (S'.setO h1 h2 h3 h4 h5)
end

/-! ### one's own list, given away -/
def fGive (i : Nat) : Env → R (List D) := fun E => match E[i]? with
  | some (.own false l) => .ok l (E.set i .no)
  | _ => .stuck
theorem jl_give {X : Cx} {W : WJ} {pos : Pos} (i : Nat) {x : Str} (hN : X.N[i]? = some x := by rfl) (hv : Vis X.env.scope x := by first | exact Or.inl rfl | exact Or.inr (Or.inl rfl) | exact Or.inr (Or.inr rfl)) (hd : (x == ("__debug__" : Str)) = false := by decide)
    (hcd : (x == ("__classdict__" : Str)) = false := by decide) : JL X W (.Name x pos) (fGive i) := by
  refine ⟨tVar i, pe_var hN hv hd hcd, fun Φ G H σ E Q S hp => ?_⟩
  unfold fGive at hp
  cases e : E[i]? with
  | none => rw [e] at hp; exact hp.elim
  | some s =>
    rw [e] at hp
    cases s with
    | no => exact hp.elim
    | obj _ _ _ _ => exact hp.elim
    | val _ => exact hp.elim
    | own b l =>
      cases b with
      | true => exact hp.elim
      | false =>
        obtain ⟨x, hx, p, vs, rfl, h1, h2⟩ := S.sl i _ e
        obtain ⟨g, f, _⟩ := S.ow i false l p e hx
        have S' : Sat X.K Φ G H σ (E.set i .no) := by
          have S1 := S.setN (i := i) (x := σ[i]?.join)
          have e1 : σ.set i σ[i]?.join = σ := by
            rw [hx]
            apply List.ext_getElem?
            intro j
            by_cases hj : i = j
            · subst hj
              rw [List.getElem?_set_self (List.getElem?_eq_some_iff.mp hx).1, hx]; rfl
            · rw [List.getElem?_set_ne hj]
          rw [e1] at S1; exact S1
        refine ⟨.ref p, hx, hp G H _ (Ex.refl G) S' ⟨p, vs, rfl, h1, h2, g, f, fun j s b h3 hb h4 => ?_⟩⟩
        by_cases hj : i = j
        · subst hj
          rw [List.getElem?_set_self (List.getElem?_eq_some_iff.mp e).1] at h3; cases h3; cases hb
        · rw [List.getElem?_set_ne hj] at h3
          exact hj (S.di' i j _ s false b p e rfl h3 hb hx h4)
end J

namespace J
open PySem PySem.Spec PyProof.Rows L2

/-! ### what a def promises -/
/-- an argument: a value, or one's own list in slot i -/
inductive Ar where
  | v (d : D) | o (i : Nat)
structure IO (K : PySem.W.Frag) (Φ : Fr) (G H : Hp) (E : Env) : Prop where
  gh : Ex G H
  fh : Ex Φ.F H
  fg : ∀ a, Φ.F a ≠ none → G a = none
  io : ∀ (i : Nat) (s : Sl), E[i]? = some s → s.ow = some true → SlOk K G H (some (.ref (Φ.io i))) s ∧ G (Φ.io i) = none ∧ Φ.F (Φ.io i) = none
theorem Sat.toIO {K : PySem.W.Frag} {Φ : Fr} {G H : Hp} {σ : St} {E : Env} (S : Sat K Φ G H σ E) : IO K Φ G H E :=
  ⟨S.gh, S.fh, S.fg, fun i s h hb => by
    obtain ⟨x, h1, hk⟩ := S.sl i _ h
    obtain ⟨p, o, rfl, _⟩ := hk.ad hb
    obtain ⟨h4, h5, h6⟩ := S.ow' i s true p h hb h1
    have := h6 rfl
    subst this
    exact ⟨hk, h4, h5⟩⟩
def PostF (K : PySem.W.Frag) (Φ : Fr) (G : Hp) (r : R RV) (Q : VK) (Ec : XK) : Prop := match r with
  | .ok (.v d) E' => ∀ G' H' v, Ex G G' → IO K Φ G' H' E' → Rp K G' v d → Q v H'
  | .ok (.l l) E' => ∀ G' H' p vs, Ex G G' → IO K Φ G' H' E' → H' p = some (.lst vs) → RpA K G' vs l → G' p = none → Φ.F p = none → (∀ (i : Nat) (s : Sl), E'[i]? = some s → s.ow = some true → p ≠ Φ.io i) → Q (.ref p) H'
  | .exc x E' => ∀ G' H' c d, Ex G G' → IO K Φ G' H' E' → XRp K G' c d x → Ec c d H'
  | .stuck => False
abbrev DF := List Sl → R RV
def spJ (K : PySem.W.Frag) (n : Nat) (F : DF) : Sp := fun vs H Q Ec => vs.length = n ∧ ∃ Φ G as, Sat K Φ G H (vs.map some) as ∧ PostF K Φ G (F as) Q Ec
/-- the body, from the arguments -/
def runF (n : Nat) (f : Env → RS) : DF := fun as => match f (as ++ List.replicate (n - as.length) .no) with
  | .nx E => .ok (.v .non) E
  | .rt r E => .ok r E
  | .exc x E => .exc x E
  | _ => .stuck
theorem Sat.begin {K : PySem.W.Frag} {Φ : Fr} {G H : Hp} {vs : List V} {as : List Sl} (N : List Str) (S : Sat K Φ G H (vs.map some) as) : Sat K Φ G H (L2.start N vs) (as ++ List.replicate (N.length - as.length) .no) := by
  have hl : vs.length = as.length := by have := S.len; simpa using this
  have key : ∀ (i : Nat) (s : Sl), (as ++ List.replicate (N.length - as.length) Sl.no)[i]? = some s → (i < as.length ∧ as[i]? = some s ∧ (L2.start N vs)[i]? = (vs.map some)[i]?) ∨ (as.length ≤ i ∧ s = .no ∧ i < (L2.start N vs).length) := fun i s h => by
    by_cases hi : i < as.length
    · rw [List.getElem?_append_left hi] at h
      refine .inl ⟨hi, h, ?_⟩
      unfold L2.start
      rw [List.getElem?_append_left (by simpa [hl] using hi)]
    · have hi' : as.length ≤ i := by omega
      rw [List.getElem?_append_right hi', List.getElem?_replicate] at h
      split at h
      · rename_i hlt
        refine .inr ⟨hi', (Option.some.inj h).symm, ?_⟩
        unfold L2.start
        rw [List.length_append, List.length_map, List.length_replicate, hl]; omega
      · cases h
  refine ⟨?_, fun i s h => ?_, S.gh, S.fh, S.fg, fun i s b p h1 hb h2 => ?_, fun i j s s' b b' p h1 hb h2 hb' h3 h4 => ?_⟩
  · unfold L2.start
    rw [List.length_append, List.length_map, List.length_replicate, List.length_append, List.length_replicate, hl]
  · rcases key i s h with ⟨_, h1, h2⟩ | ⟨_, rfl, h2⟩
    · rw [h2]; exact S.sl i s h1
    · exact ⟨_, List.getElem?_eq_getElem h2, trivial⟩
  · rcases key i _ h1 with ⟨_, h3, h4⟩ | ⟨_, rfl, _⟩
    · rw [h4] at h2; exact S.ow' i s b p h3 hb h2
    · cases hb
  · rcases key i _ h1 with ⟨_, h5, h6⟩ | ⟨_, rfl, _⟩
    · rcases key j _ h2 with ⟨_, h7, h8⟩ | ⟨_, rfl, _⟩
      · rw [h6] at h3; rw [h8] at h4; exact S.di' i j s s' b b' p h5 hb h7 hb' h3 h4
      · cases hb'
    · cases hb
/-- a def by its body -/
theorem fn_J {P : Program} {w : World} {K : PySem.W.Frag} {mg : Str → Option Value} {base : Heap} {k : Nat} {f : Addr} {name qual : Str} {params : Arguments} {body : List Stmt} {scope : Scope} {dV kV doc pm cdv ct oc : Value} {an od : Option Addr}
    {osl : Array (Option Value)} {N ps : List Str} {fb : Env → RS} (lk : K.lookup f = some ⟨oc, od, .func (PySem.W.fnOf name qual params body scope dV kV doc pm an cdv ct), osl⟩) (hcd : PySem.W.codeIn K cdv qual = true) (S : FnScope N ps scope)
    (hbody : ∀ (A : Around) (outer : List PySem.Env) (s : Shared) (H : Hp) (E : XK), Room k (A.deeper (envOfC qual scope s.heap.objs.size f cdv)) →
      L2N.Takes (cxOf (L2N.CX P w) P w K mg base N qual scope f cdv A outer s H E) (fun c d _ H => E c d H) → PassesOwn (model P w) (cxOf (L2N.CX P w) P w K mg base N qual scope f cdv A outer s H E).A (cxOf (L2N.CX P w) P w K mg base N qual scope f cdv A outer s H E).env (cxOf (L2N.CX P w) P w K mg base N qual scope f cdv A outer s H E).xe →
      JSs (cxOf (L2N.CX P w) P w K mg base N qual scope f cdv A outer s H E) (fun c d _ H => E c d H) body fb) :
    FnOk P w K mg base (L2N.CX P w) (k + 1) f (PySem.W.fnOf name qual params body scope dV kV doc pm an cdv ct) ps (spJ K ps.length (runF N.length fb)) := by
  refine fn_of lk hcd S (fun vs H Q E h => h.1) fun A outer s H vs Q E hr hsp => ?_
  have hX := hbody A outer s H E hr (L2N.takes_of rfl rfl rfl rfl) (passes_of rfl)
  obtain ⟨t, h1, h2⟩ := hX
  refine ⟨t, h1, ?_⟩
  obtain ⟨hl, Φ, G, as, S0, hP⟩ := hsp
  refine h2 Φ G H _ _ _ (S0.begin N) ?_
  unfold runF at hP
  cases hf : fb (as ++ List.replicate (N.length - as.length) .no) with
  | nx E' => rw [hf] at hP; exact fun G' H' σ' e' S' => hP G' H' .non e' S'.toIO .non
  | rt rv E' =>
    rw [hf] at hP
    cases rv with
    | v d => exact fun G' H' σ' v e' S' r => hP G' H' v e' S'.toIO r
    | l d =>
      refine fun G' H' σ' v e' S' r => ?_
      obtain ⟨p, vs, rfl, k1, k2, k3, k4, k5⟩ := r
      refine hP G' H' p vs e' S'.toIO k1 k2 k3 k4 fun i s hi hb z => ?_
      obtain ⟨p', o, q1, _⟩ := S'.ad hi hb
      obtain ⟨q4, q5, q6⟩ := S'.ow' i s true p' hi hb q1
      have := q6 rfl
      subst this
      rw [← z] at q1
      exact k5 i s true hi hb q1
  | bk E' => rw [hf] at hP; exact hP.elim
  | ct E' => rw [hf] at hP; exact hP.elim
  | exc x E' => rw [hf] at hP; exact fun G' H' σ' c d e' S' r => hP G' H' c d e' S'.toIO r
  | stuck => rw [hf] at hP; exact hP.elim

/-! ### a def that a name calls -/
structure FnJ (P : Program) (w : World) (K : PySem.W.Frag) (mg : Str → Option Value) (base : Heap) (k : Nat) (x : Str) (n : Nat) (F : DF) : Prop where
  ok : ∃ f fd ps, mg x = some (.ref f) ∧ PySem.W.keepIn K (.ref f) = true ∧ ps.length = n ∧ Binds K fd ps [] ∧ FnOk P w K mg base (L2N.CX P w) k f fd ps (spJ K n F)
theorem FnJ.mono {P : Program} {w : World} {K : PySem.W.Frag} {mg : Str → Option Value} {base : Heap} {j k : Nat} {x : Str} {n : Nat} {F : DF} (h : FnJ P w K mg base j x n F) (hk : j ≤ k) : FnJ P w K mg base k x n F := by
  obtain ⟨f, fd, ps, h1, h2, h3, h4, h5⟩ := h
  exact ⟨f, fd, ps, h1, h2, h3, h4, h5.mono hk⟩

/-! ### arguments -/
inductive ArOk (K : PySem.W.Frag) (σ : St) (G : Hp) : List Ar → List V → Prop
  | nil : ArOk K σ G [] []
  | v {d : D} {v : V} {as : List Ar} {vs : List V} : Rp K G v d → ArOk K σ G as vs → ArOk K σ G (.v d :: as) (v :: vs)
  | o {i : Nat} {v : V} {as : List Ar} {vs : List V} : σ[i]? = some (some v) → ArOk K σ G as vs → ArOk K σ G (.o i :: as) (v :: vs)
theorem ArOk.len {K : PySem.W.Frag} {σ : St} {G : Hp} {as : List Ar} {vs : List V} (h : ArOk K σ G as vs) : as.length = vs.length := by induction h <;> simp_all
def ArV (K : PySem.W.Frag) (σ : St) (G : Hp) (v : V) : Ar → Prop
  | .v d => Rp K G v d
  | .o i => σ[i]? = some (some v)
theorem ArOk.get {K : PySem.W.Frag} {σ : St} {G : Hp} {as : List Ar} {vs : List V} (h : ArOk K σ G as vs) : ∀ {j : Nat} {a : Ar}, as[j]? = some a → ∃ v, vs[j]? = some v ∧ ArV K σ G v a := by
  induction h with
  | nil => intro j a e; simp at e
  | v h1 h2 ih =>
    intro j a e
    cases j with
    | zero => simp at e; subst e; exact ⟨_, rfl, h1⟩
    | succ j => simpa using ih (by simpa using e)
  | o h1 h2 ih =>
    intro j a e
    cases j with
    | zero => simp at e; subst e; exact ⟨_, rfl, h1⟩
    | succ j => simpa using ih (by simpa using e)
abbrev relAr (K : PySem.W.Frag) : Rel (List Ar) (List V) := fun _ σ G' _ _ as vs => ArOk K σ G' as vs
def JX (X : Cx) (W : WJ) (es : List Expr) (f : Env → R (List Ar)) : Prop := ∃ te, PA X es te ∧ Snd X.K W (relAr X.K) te f
section
variable {X : Cx} {W : WJ} {e : Expr} {es : List Expr} {fa : Env → R D} {fr : Env → R (List Ar)} {pos : Pos}
def xNil : Env → R (List Ar) := fun E => .ok [] E
def xV (fa : Env → R D) (fr : Env → R (List Ar)) : Env → R (List Ar) := fun E => (fa E).bind fun a E => (fr E).bind fun r E => .ok (.v a :: r) E
def xO (i : Nat) (fr : Env → R (List Ar)) : Env → R (List Ar) := fun E => match E[i]? with
  | some (.own _ _) => (fr E).bind fun r E => .ok (.o i :: r) E
  | some (.obj _ _ _ _) => (fr E).bind fun r E => .ok (.o i :: r) E
  | _ => .stuck
theorem jx_nil : JX X W [] xNil := ⟨_, pa_nil, fun Φ G H σ E Q S hp => hp G H [] (Ex.refl G) S .nil⟩
theorem ArOk.mono {K : PySem.W.Frag} {σ : St} {G G' : Hp} {as : List Ar} {vs : List V} (e : Ex G G') (h : ArOk K σ G as vs) : ArOk K σ G' as vs := by
  induction h with
  | nil => exact .nil
  | v h1 h2 ih => exact .v (Rp.mono e _ h1) ih
  | o h1 h2 ih => exact .o h1 ih
theorem jx_v (ha : JE X W e fa) (hr : JX X W es fr) (hs : starEach (e :: es) X.env = (false, eval e X.env) :: starEach es X.env := by rfl) : JX X W (e :: es) (xV fa fr) := by
  obtain ⟨ta, pa, sa⟩ := ha
  obtain ⟨tr, pr, sr⟩ := hr
  refine ⟨_, pa_cons pa pr hs, fun Φ G H σ E Q S hp => ?_⟩
  refine sa.go S hp fun a E1 G1 H1 v _ e1 S1 r1 hp => ?_
  refine sr.go S1 hp fun as E2 G2 H2 vs _ e2 S2 r2 hp => ?_
  exact hp G2 H2 _ (Ex.refl G2) S2 (.v (Rp.mono e2 _ r1) r2)
theorem jx_o (i : Nat) {x : Str} (hr : JX X W es fr) (hN : X.N[i]? = some x := by rfl) (hv : Vis X.env.scope x := by first | exact Or.inl rfl | exact Or.inr (Or.inl rfl) | exact Or.inr (Or.inr rfl)) (hd : (x == ("__debug__" : Str)) = false := by decide)
    (hcd : (x == ("__classdict__" : Str)) = false := by decide) (hs : starEach (.Name x pos :: es) X.env = (false, eval (.Name x pos) X.env) :: starEach es X.env := by rfl) : JX X W (.Name x pos :: es) (xO i fr) := by
  obtain ⟨tr, pr, sr⟩ := hr
  refine ⟨_, pa_cons (pe_var hN hv hd hcd) pr hs, fun Φ G H σ E Q S hp => ?_⟩
  unfold xO at hp
  cases ee : E[i]? with
  | none => rw [ee] at hp; exact hp.elim
  | some s =>
    rw [ee] at hp
    cases s with
    | no => exact hp.elim
    | val _ => exact hp.elim
    | own b l =>
      obtain ⟨p, o, hw, _⟩ := S.ad ee rfl
      refine ⟨.ref p, hw, ?_⟩
      refine sr.go S hp fun as E2 G2 H2 us _ e2 S2 r2 hp => ?_
      exact hp G2 H2 _ (Ex.refl G2) S2 (.o hw r2)
    | obj b c ns ds =>
      obtain ⟨p, o, hw, _⟩ := S.ad ee rfl
      refine ⟨.ref p, hw, ?_⟩
      refine sr.go S hp fun as E2 G2 H2 us _ e2 S2 r2 hp => ?_
      exact hp G2 H2 _ (Ex.refl G2) S2 (.o hw r2)
end

/-! ### a call -/
def ownsA : List Ar → List Nat
  | [] => []
  | .v _ :: as => ownsA as
  | .o i :: as => i :: ownsA as
def ndA : List Nat → Bool
  | [] => true
  | i :: is => !is.contains i && ndA is
/-- as the callee has it -/
def Sl.io : Sl → Option Sl
  | .own _ l => some (.own true l)
  | .obj _ c ns ds => some (.obj true c ns ds)
  | _ => none
/-- as the caller has it behind the call -/
def Sl.bk : Sl → Sl → Sl
  | .own b _, .own true l => .own b l
  | .obj b _ _ _, .obj true c ns ds => .obj b c ns ds
  | _, _ => .no
@[simp] theorem io_own (b : Bool) (l : List D) : Sl.io (.own b l) = some (.own true l) := rfl
@[simp] theorem io_obj (b : Bool) (c : Str) (ns : List Str) (l : List D) : Sl.io (.obj b c ns l) = some (.obj true c ns l) := rfl
@[simp] theorem bk_own (b : Bool) (l l' : List D) : Sl.bk (.own b l) (.own true l') = .own b l' := rfl
@[simp] theorem bk_obj (b : Bool) (c c' : Str) (ns ns' : List Str) (l l' : List D) : Sl.bk (.obj b c ns l) (.obj true c' ns' l') = .obj b c' ns' l' := rfl
theorem Sl.io_ow {s0 s : Sl} (h : s0.io = some s) : (∃ b, s0.ow = some b) ∧ s.ow = some true := by
  cases s0 with
  | no => cases h
  | val d => cases h
  | own b l => cases h; exact ⟨⟨b, rfl⟩, rfl⟩
  | obj b c ns ds => cases h; exact ⟨⟨b, rfl⟩, rfl⟩
theorem Sl.io_ok {K : PySem.W.Frag} {G H : Hp} {x : Option V} {s0 s : Sl} (h : s0.io = some s) (k : SlOk K G H x s0) : SlOk K G H x s := by
  cases s0 with
  | no => cases h
  | val d => cases h
  | own b l => cases h; exact k
  | obj b c ns ds => cases h; exact k
theorem Sl.bk_ow {s0 s : Sl} {b : Bool} (h : (s0.bk s).ow = some b) : s0.ow = some b ∧ s.ow = some true := by
  unfold Sl.bk at h
  split at h
  · exact ⟨h, rfl⟩
  · exact ⟨h, rfl⟩
  · cases h
theorem Sl.bk_ok {K : PySem.W.Frag} {G H : Hp} {x : Option V} {s0 s : Sl} (k : SlOk K G H x s) : SlOk K G H x (s0.bk s) := by
  unfold Sl.bk
  split
  · exact k
  · exact k
  · trivial
def argS (E : Env) : List Ar → Option (List Sl)
  | [] => some []
  | .v d :: as => (argS E as).map (.val d :: ·)
  | .o i :: as => match (E[i]?).bind Sl.io with
    | some s => (argS E as).map (s :: ·)
    | none => none
def backE (Ec : Env) : Nat → List Ar → Env → Env
  | _, [], E => E
  | j, .v _ :: as, E => backE Ec (j + 1) as E
  | j, .o i :: as, E => backE Ec (j + 1) as (match E[i]?, Ec[j]? with
    | some s, some s' => E.set i (s.bk s')
    | _, _ => E.set i .no)
theorem mem_ownsA {i : Nat} {as : List Ar} : i ∈ ownsA as ↔ ∃ j : Nat, as[j]? = some (Ar.o i) := by
  induction as with
  | nil => simp [ownsA]
  | cons a as ih =>
    cases a with
    | v d =>
      show i ∈ ownsA as ↔ _
      rw [ih]
      constructor
      · rintro ⟨j, h⟩; exact ⟨j + 1, h⟩
      · rintro ⟨j, h⟩
        cases j with
        | zero => simp at h
        | succ j => exact ⟨j, h⟩
    | o k =>
      show i ∈ k :: ownsA as ↔ _
      rw [List.mem_cons, ih]
      constructor
      · rintro (rfl | ⟨j, h⟩)
        · exact ⟨0, rfl⟩
        · exact ⟨j + 1, h⟩
      · rintro ⟨j, h⟩
        cases j with
        | zero => simp at h; exact .inl h.symm
        | succ j => exact .inr ⟨j, h⟩
theorem ndA_inj {as : List Ar} (h : ndA (ownsA as) = true) {i j k : Nat} (h1 : as[i]? = some (.o k)) (h2 : as[j]? = some (.o k)) : i = j := by
  induction as generalizing i j with
  | nil => simp at h1
  | cons a as ih =>
    cases a with
    | v d =>
      cases i with
      | zero => simp at h1
      | succ i =>
        cases j with
        | zero => simp at h2
        | succ j => rw [ih h h1 h2]
    | o m =>
      have h' : (!(ownsA as).contains m && ndA (ownsA as)) = true := h
      rw [Bool.and_eq_true] at h'
      have nm : m ∉ ownsA as := by simpa using h'.1
      cases i with
      | zero =>
        cases j with
        | zero => rfl
        | succ j => simp at h1; subst h1; exact absurd (mem_ownsA.mpr ⟨j, h2⟩) nm
      | succ i =>
        cases j with
        | zero => simp at h2; subst h2; exact absurd (mem_ownsA.mpr ⟨i, h1⟩) nm
        | succ j => rw [ih h'.2 h1 h2]
theorem argS_get {E : Env} : ∀ {as : List Ar} {ss : List Sl}, argS E as = some ss → as.length = ss.length ∧ ∀ (j : Nat) (s : Sl), ss[j]? = some s → (∃ d, as[j]? = some (.v d) ∧ s = .val d) ∨ ∃ i s0, as[j]? = some (.o i) ∧ E[i]? = some s0 ∧ s0.io = some s
  | [], ss, h => by cases h; exact ⟨rfl, fun j s e => by simp at e⟩
  | .v d :: as, ss, h => by
    obtain ⟨r, h1, rfl⟩ := Option.map_eq_some_iff.mp (show (argS E as).map (.val d :: ·) = some ss from h)
    obtain ⟨k1, k2⟩ := argS_get h1
    refine ⟨by simp [k1], fun j s e => ?_⟩
    cases j with
    | zero => simp at e; exact .inl ⟨d, rfl, e.symm⟩
    | succ j => simpa using k2 j s (by simpa using e)
  | .o i :: as, ss, h => by
    unfold argS at h
    cases e : (E[i]?).bind Sl.io with
    | none => rw [e] at h; cases h
    | some s1 =>
      rw [e] at h
      obtain ⟨s0, e0, e1⟩ := Option.bind_eq_some_iff.mp e
      obtain ⟨r, h1, rfl⟩ := Option.map_eq_some_iff.mp (show (argS E as).map (s1 :: ·) = some ss from h)
      obtain ⟨k1, k2⟩ := argS_get h1
      refine ⟨by simp [k1], fun j s e' => ?_⟩
      cases j with
      | zero => simp at e'; subst e'; exact .inr ⟨i, s0, rfl, e0, e1⟩
      | succ j => simpa using k2 j s (by simpa using e')
theorem backE_len (Ec : Env) : ∀ (as : List Ar) (j : Nat) (E : Env), (backE Ec j as E).length = E.length
  | [], j, E => rfl
  | .v _ :: as, j, E => backE_len Ec as (j + 1) E
  | .o i :: as, j, E => by
    unfold backE
    rw [backE_len Ec as (j + 1) _]
    split <;> simp
theorem backE_out {Ec : Env} {i : Nat} : ∀ (as : List Ar) (j : Nat) (E : Env), i ∉ ownsA as → (backE Ec j as E)[i]? = E[i]?
  | [], j, E, _ => rfl
  | .v _ :: as, j, E, h => backE_out as (j + 1) E h
  | .o k :: as, j, E, h => by
    have h' : i ∉ k :: ownsA as := h
    have hk : k ≠ i := fun z => h' (by simp [z])
    unfold backE
    rw [backE_out as (j + 1) _ fun z => h' (List.mem_cons_of_mem _ z)]
    split <;> rw [List.getElem?_set_ne hk]
theorem backE_in {Ec : Env} {i : Nat} : ∀ (as : List Ar) (j : Nat) (E : Env) (m : Nat) (s : Sl), ndA (ownsA as) = true → as[m]? = some (.o i) → (backE Ec j as E)[i]? = some s →
    s = .no ∨ ∃ s0 s', E[i]? = some s0 ∧ Ec[j + m]? = some s' ∧ s = s0.bk s'
  | [], j, E, m, s, _, h, _ => by simp at h
  | .v _ :: as, j, E, m, s, nd, h, hs => by
    cases m with
    | zero => simp at h
    | succ m =>
      have := backE_in as (j + 1) E m s nd h hs
      rwa [show j + 1 + m = j + (m + 1) by omega] at this
  | .o k :: as, j, E, m, s, nd, h, hs => by
    have nd' : (!(ownsA as).contains k && ndA (ownsA as)) = true := nd
    rw [Bool.and_eq_true] at nd'
    have nm : k ∉ ownsA as := by simpa using nd'.1
    cases m with
    | zero =>
      simp at h
      subst h
      unfold backE at hs
      rw [backE_out as (j + 1) _ nm] at hs
      split at hs
      · rename_i s0 s' e1 e2
        rw [List.getElem?_set_self (List.getElem?_eq_some_iff.mp e1).1] at hs
        exact .inr ⟨s0, s', e1, by simpa using e2, (Option.some.inj hs).symm⟩
      · left
        by_cases hl : k < E.length
        · rw [List.getElem?_set_self hl] at hs; exact (Option.some.inj hs).symm
        · rw [List.getElem?_eq_none (by simpa using hl)] at hs; cases hs
    | succ m =>
      have hik : k ≠ i := fun z => nm (mem_ownsA.mpr ⟨m, by rw [z]; exact h⟩)
      unfold backE at hs
      rcases backE_in as (j + 1) _ m s nd'.2 h hs with z | ⟨s0, s', h1, h2, h3⟩
      · exact .inl z
      · refine .inr ⟨s0, s', ?_, ?_, h3⟩
        · split at h1 <;> rwa [List.getElem?_set_ne hik] at h1
        · rwa [show j + 1 + m = j + (m + 1) by omega] at h2
def adV : Option V → Addr
  | some (.ref p) => p
  | _ => 0
open Classical in
/-- what a callee sees as locked -/
noncomputable def FcOf (Φ : Fr) (H : Hp) (σ : St) (E : Env) (is : List Nat) : Hp := fun a => if ∃ j s b, E[j]? = some s ∧ s.ow = some b ∧ σ[j]? = some (some (.ref a)) ∧ j ∉ is then H a else Φ.F a
section
variable {K : PySem.W.Frag} {Φ : Fr} {G H G' H' : Hp} {σ : St} {E : Env} {as : List Ar} {vs : List V} {ss : List Sl}
theorem Fc_own {is : List Nat} {j : Nat} {s : Sl} {b : Bool} {a : Addr} (h1 : E[j]? = some s) (hb : s.ow = some b) (h2 : σ[j]? = some (some (.ref a))) (h3 : j ∉ is) : FcOf Φ H σ E is a = H a := by
  unfold FcOf
  rw [if_pos ⟨j, s, b, h1, hb, h2, h3⟩]
theorem Fc_old (S : Sat K Φ G H σ E) {is : List Nat} {a : Addr} {o : HO} (h : Φ.F a = some o) : FcOf Φ H σ E is a = some o := by
  unfold FcOf
  rw [if_neg]
  · exact h
  · rintro ⟨j, s, b, h1, hb, h2, _⟩
    rw [(S.ow' j s b a h1 hb h2).2.1] at h; cases h
theorem Sat.toCall (S : Sat K Φ G H σ E) (r : ArOk K σ G as vs) (h : argS E as = some ss) (nd : ndA (ownsA as) = true) : Sat K ⟨FcOf Φ H σ E (ownsA as), fun j => adV vs[j]?⟩ G H (vs.map some) ss := by
  obtain ⟨hl, hg⟩ := argS_get h
  have own : ∀ {j : Nat} {s : Sl} {b : Bool} {p : Addr}, ss[j]? = some s → s.ow = some b → (vs.map some)[j]? = some (some (.ref p)) → ∃ i s0 b', as[j]? = some (.o i) ∧ E[i]? = some s0 ∧ s0.ow = some b' ∧ σ[i]? = some (some (.ref p)) := fun {j s b p} h1 hb h2 => by
    rcases hg j _ h1 with ⟨d, _, z⟩ | ⟨i, s0, h3, h4, h5⟩
    · subst z; cases hb
    · obtain ⟨⟨b', hb'⟩, _⟩ := Sl.io_ow h5
      obtain ⟨v, h6, h7⟩ := r.get h3
      rw [List.getElem?_map, h6] at h2
      cases h2
      exact ⟨i, s0, b', h3, h4, hb', h7⟩
  refine ⟨by rw [List.length_map, ← r.len, hl], fun j s hs => ?_, S.gh, fun a o ha => ?_, fun a ha => ?_, fun j s b p h1 hb h2 => ?_, fun i j s s' b b' p h1 hb h2 hb' h3 h4 => ?_⟩
  · rcases hg j s hs with ⟨d, h1, rfl⟩ | ⟨i, s0, h1, h2, h5⟩
    · obtain ⟨v, h6, h7⟩ := r.get h1
      exact ⟨some v, by rw [List.getElem?_map, h6]; rfl, v, rfl, h7⟩
    · obtain ⟨v, h6, h7⟩ := r.get h1
      obtain ⟨x, k1, k2⟩ := S.sl i _ h2
      have h7 : σ[i]? = some (some v) := h7
      rw [k1] at h7
      cases h7
      exact ⟨some v, by rw [List.getElem?_map, h6]; rfl, Sl.io_ok h5 k2⟩
  · have ha' : FcOf Φ H σ E (ownsA as) a = some o := ha
    unfold FcOf at ha'
    split at ha'
    · exact ha'
    · exact S.fh a o ha'
  · have ha' : FcOf Φ H σ E (ownsA as) a ≠ none := ha
    unfold FcOf at ha'
    split at ha'
    · rename_i c
      obtain ⟨j, s, b, h1, hb, h2, _⟩ := c
      exact (S.ow' j s b a h1 hb h2).1
    · exact S.fg a ha'
  · obtain ⟨i, s0, b', k1, k2, kb, k3⟩ := own h1 hb h2
    obtain ⟨q1, q2, _⟩ := S.ow' i s0 b' p k2 kb k3
    refine ⟨q1, ?_, fun _ => ?_⟩
    · show FcOf Φ H σ E (ownsA as) p = none
      unfold FcOf
      rw [if_neg]
      · exact q2
      · rintro ⟨m, s2, b2, m1, mb, m2, m3⟩
        exact m3 (mem_ownsA.mpr ⟨j, by rw [← S.di' i m s0 s2 b' b2 p k2 kb m1 mb k3 m2]; exact k1⟩)
    · show p = adV vs[j]?
      rw [List.getElem?_map] at h2
      cases e : vs[j]? with
      | none => rw [e] at h2; cases h2
      | some v => rw [e] at h2; cases h2; rfl
  · obtain ⟨m, s2, b2, k1, k2, kb, k3⟩ := own h1 hb h3
    obtain ⟨n, s3, b3, k4, k5, kb', k6⟩ := own h2 hb' h4
    have := S.di' m n s2 s3 b2 b3 p k2 kb k5 kb' k3 k6
    subst this
    exact ndA_inj nd k1 k4
theorem Sat.fromCall {Ec : Env} (S : Sat K Φ G H σ E) (r : ArOk K σ G as vs) (h : argS E as = some ss) (nd : ndA (ownsA as) = true) (e : Ex G G') (I : IO K ⟨FcOf Φ H σ E (ownsA as), fun j => adV vs[j]?⟩ G' H' Ec) : Sat K Φ G' H' σ (backE Ec 0 as E) := by
  obtain ⟨hl, hg⟩ := argS_get h
  have own : ∀ {i : Nat} {s : Sl} {b : Bool}, (backE Ec 0 as E)[i]? = some s → s.ow = some b → (i ∉ ownsA as ∧ E[i]? = some s) ∨ ∃ (j : Nat) (s0 s' : Sl), as[j]? = some (Ar.o i) ∧ E[i]? = some s0 ∧ s0.ow = some b ∧ Ec[j]? = some s' ∧ s'.ow = some true ∧ s = s0.bk s' := fun {i s b} hi hb => by
    by_cases hm : i ∈ ownsA as
    · obtain ⟨j, hj⟩ := mem_ownsA.mp hm
      rcases backE_in as 0 E j _ nd hj hi with z | ⟨s0, s', h1, h2, h3⟩
      · subst z; cases hb
      · subst h3
        obtain ⟨k1, k2⟩ := Sl.bk_ow hb
        exact .inr ⟨j, s0, s', hj, h1, k1, by simpa using h2, k2, rfl⟩
    · rw [backE_out as 0 E hm] at hi
      exact .inl ⟨hm, hi⟩
  have own0 : ∀ {i : Nat} {s : Sl} {b : Bool}, (backE Ec 0 as E)[i]? = some s → s.ow = some b → ∃ s0, E[i]? = some s0 ∧ s0.ow = some b := fun hi hb => by
    rcases own hi hb with ⟨_, h1⟩ | ⟨_, s0, _, _, h1, h2, _⟩
    · exact ⟨_, h1, hb⟩
    · exact ⟨_, h1, h2⟩
  have ioA : ∀ {i j : Nat} {p : Addr}, as[j]? = some (.o i) → σ[i]? = some (some (.ref p)) → adV vs[j]? = p := fun {i j p} h1 h2 => by
    obtain ⟨v, h3, h4⟩ := r.get h1
    have h4 : σ[i]? = some (some v) := h4
    rw [h2] at h4; cases h4
    rw [h3]; rfl
  refine ⟨by rw [backE_len]; exact S.len, fun i s hs => ?_, I.gh, fun a o ha => I.fh a o (Fc_old S ha), fun a ha => ?_, fun i s b p h1 hb h2 => ?_, fun i j s s' b b' p h1 hb h2 hb' h3 h4 => ?_⟩
  · by_cases hm : i ∈ ownsA as
    · have hi : i < σ.length := by
        have := (List.getElem?_eq_some_iff.mp hs).1
        rw [backE_len] at this; rw [S.len]; exact this
      cases hb : s.ow with
      | none =>
        cases s with
        | no => exact ⟨_, List.getElem?_eq_getElem hi, trivial⟩
        | val d =>
          obtain ⟨j, hj⟩ := mem_ownsA.mp hm
          rcases backE_in as 0 E j _ nd hj hs with z | ⟨s0, s', h1, h2, h3⟩
          · cases z
          · unfold Sl.bk at h3
            split at h3 <;> cases h3
        | own _ _ => cases hb
        | obj _ _ _ _ => cases hb
      | some b =>
        rcases own hs hb with ⟨n, _⟩ | ⟨j, s0, s', hj, h1, hb0, h2, hb2, rfl⟩
        · exact absurd hm n
        · obtain ⟨p, o, k1, _⟩ := S.ad h1 hb0
          obtain ⟨q1, _, _⟩ := I.io j s' h2 hb2
          have ea : adV vs[j]? = p := ioA hj k1
          rw [show (⟨FcOf Φ H σ E (ownsA as), fun j => adV vs[j]?⟩ : Fr).io j = p from ea] at q1
          exact ⟨_, k1, Sl.bk_ok q1⟩
    · rw [backE_out as 0 E hm] at hs
      obtain ⟨x, k1, k2⟩ := S.sl i s hs
      refine ⟨x, k1, k2.mono e fun p b hb e2 => ?_⟩
      subst e2
      obtain ⟨o, q3⟩ := S.has hs hb k1
      rw [q3]
      exact I.fh p _ ((Fc_own hs hb k1 hm).trans q3)
  · cases e0 : Φ.F a with
    | none => exact absurd e0 ha
    | some o =>
      refine I.fg a ?_
      show FcOf Φ H σ E (ownsA as) a ≠ none
      rw [Fc_old S e0]; simp
  · rcases own h1 hb with ⟨hm, k1⟩ | ⟨j, s0, s', k0, k1, kb, k2, kb2, _⟩
    · obtain ⟨q1, q2, q3⟩ := S.ow' i s b p k1 hb h2
      refine ⟨I.fg p ?_, q2, q3⟩
      show FcOf Φ H σ E (ownsA as) p ≠ none
      rw [Fc_own k1 hb h2 hm]
      obtain ⟨o, m3⟩ := S.has k1 hb h2
      rw [m3]; simp
    · obtain ⟨q1, q2, q3⟩ := S.ow' i s0 b p k1 kb h2
      obtain ⟨_, m3, m4⟩ := I.io j s' k2 kb2
      rw [show (⟨FcOf Φ H σ E (ownsA as), fun j => adV vs[j]?⟩ : Fr).io j = p from ioA k0 h2] at m3
      exact ⟨m3, q2, q3⟩
  · obtain ⟨s1, h1, k1⟩ := own0 h1 hb
    obtain ⟨s2, h2, k2⟩ := own0 h2 hb'
    exact S.di' i j s1 s2 b b' p h1 k1 h2 k2 h3 h4
theorem NotOwn.fromCall {Ec : Env} (S : Sat K Φ G H σ E) (r : ArOk K σ G as vs) (nd : ndA (ownsA as) = true) {p : Addr} (h1 : FcOf Φ H σ E (ownsA as) p = none) (h2 : ∀ (i : Nat) (s : Sl), Ec[i]? = some s → s.ow = some true → p ≠ adV vs[i]?) : NotOwn σ (backE Ec 0 as E) p := fun i s b k1 kb k2 => by
  by_cases hm : i ∈ ownsA as
  · obtain ⟨j, hj⟩ := mem_ownsA.mp hm
    rcases backE_in as 0 E j _ nd hj k1 with z | ⟨s0, s', q1, q2, q3⟩
    · subst z; cases kb
    · subst q3
      obtain ⟨_, kb2⟩ := Sl.bk_ow kb
      obtain ⟨v, m3, m4⟩ := r.get hj
      have m4 : σ[i]? = some (some v) := m4
      rw [k2] at m4; cases m4
      exact h2 j s' (by simpa using q2) kb2 (by rw [m3]; rfl)
  · rw [backE_out as 0 E hm] at k1
    rw [Fc_own k1 kb k2 hm] at h1
    obtain ⟨o, m3⟩ := S.has k1 kb k2
    rw [m3] at h1; cases h1
theorem Fc_none (S : Sat K Φ G H σ E) {is : List Nat} {p : Addr} (h : FcOf Φ H σ E is p = none) : Φ.F p = none := by
  cases e : Φ.F p with
  | none => rfl
  | some o => rw [Fc_old S e] at h; cases h
end
def fCallR {α : Type} (n : Nat) (F : DF) (fa : Env → R (List Ar)) (k : RV → Option α) : Env → R α := fun E => (fa E).bind fun as E1 => match (if (ndA (ownsA as) && as.length == n) = true then argS E1 as else none) with
  | none => .stuck
  | some ss => match F ss with
    | .ok rv Ec => (match k rv with | some d => .ok d (backE Ec 0 as E1) | none => .stuck)
    | .exc x Ec => .exc x (backE Ec 0 as E1)
    | .stuck => .stuck
def rvD : RV → Option D
  | .v d => some d
  | .l l => some (.lst l)
def rvL : RV → Option (List D)
  | .v _ => none
  | .l l => some l
section
variable {X : Cx} {W : WJ} {k : Nat} {F : DF} {x : Str} {p pos : Pos} {e : Expr} {es : List Expr} {fa : Env → R (List Ar)}
theorem snd_call {α : Type} {ta : TA} {rel : Rel α V} {kv : RV → Option α} {n : Nat} (sa : Snd X.K W (relAr X.K) ta fa)
    (hv : ∀ d a, kv (.v d) = some a → ∀ Φ σ G' H' E' v, Rp X.K G' v d → Sat X.K Φ G' H' σ E' → rel Φ σ G' H' E' a v)
    (hl : ∀ l a, kv (.l l) = some a → ∀ (Φ : Fr) (σ : St) (G' H' : Hp) (E' : Env) (p : Addr) (vs : List V), Sat X.K Φ G' H' σ E' → H' p = some (.lst vs) → RpA X.K G' vs l → G' p = none → Φ.F p = none → NotOwn σ E' p → ∃ G2, Ex G' G2 ∧ Sat X.K Φ G2 H' σ E' ∧ rel Φ σ G2 H' E' a (.ref p)) :
    Snd X.K W rel (tCallSD (spJ X.K n F) [] (fun σ => WE W.w σ) ta) (fCallR n F fa kv) := by
  intro Φ G H σ E Q S hp
  unfold fCallR at hp
  refine sa.go S hp fun as E1 G1 H1 vs _ e1 S1 r1 hp => ?_
  by_cases c : (ndA (ownsA as) && as.length == n) = true
  · rw [if_pos c] at hp
    rw [Bool.and_eq_true] at c
    have nd := c.1
    have hn : as.length = n := by simpa using c.2
    cases hs : argS E1 as with
    | none => rw [hs] at hp; exact hp.elim
    | some ss =>
      simp only [hs] at hp
      have SC := S1.toCall r1 hs nd
      show spJ X.K n F (vs ++ []) H1 Q (WE W.w σ)
      rw [List.append_nil]
      refine ⟨r1.len.symm.trans hn, _, G1, ss, SC, ?_⟩
      cases hF : F ss with
      | stuck => rw [hF] at hp; exact hp.elim
      | exc x Ec =>
        simp only [hF] at hp
        exact fun G' H' c d e I r => hp G' H' σ c d e (S1.fromCall r1 hs nd e I) r
      | ok rv Ec =>
        simp only [hF] at hp
        cases hk : kv rv with
        | none => rw [hk] at hp; exact hp.elim
        | some a =>
          simp only [hk] at hp
          cases rv with
          | v d =>
            intro G' H' v e I r
            have S2 := S1.fromCall r1 hs nd e I
            exact hp G' H' v e S2 (hv d a hk Φ σ G' H' _ v r S2)
          | l l =>
            intro G' H' p vs' e I h1 h2 h3 h4 h5
            have S2 := S1.fromCall r1 hs nd e I
            have n2 := NotOwn.fromCall (Ec := Ec) S1 r1 nd h4 h5
            obtain ⟨G2, e2, S3, q⟩ := hl l a hk Φ σ G' H' _ p vs' S2 h1 h2 h3 (Fc_none S1.toSat h4) n2
            exact hp G2 H' (.ref p) (e.trans e2) S3 q
  · rw [if_neg c] at hp; exact hp.elim
theorem j_call (hF : FnJ X.prog X.w X.K X.mg X.base k x (e :: es).length F) (hr : Room k X.A) (tk : L2N.Takes X W.w) (ha : JX X W (e :: es) fa) (hg : Gl X x := by rfl) (hdb : (x == ("__debug__" : Str)) = false := by decide)
    (he : starEach (e :: es) X.env = (false, eval e X.env) :: starEach es X.env := by rfl) (hpl : (backTo pos (starEach es X.env)).any (·.1) = false := by rfl) : JE X W (.Call (.Name x p) (e :: es) [] pos) (fCallR (e :: es).length F fa rvD) := by
  obtain ⟨f, fd, ps, h1, h2, h3, h4, h5⟩ := hF
  obtain ⟨ta, pa, sa⟩ := ha
  refine ⟨_, pe_callSD (dvs := []) (E := fun σ => WE W.w σ) h5 hr hg h1 h2 h4 .nil (fun σ => L2N.passAt tk σ) pa hdb he hpl, snd_call sa (fun d a hk Φ σ G' H' E' v r _ => ?_) fun l a hk Φ σ G' H' E' p vs S h1 h2 h3 h4 h5 => ?_⟩
  · cases hk; exact r
  · cases hk; exact ⟨_, Ex.new h3, S.free h1 h3 h4 h5, .lst upd_same (h2.mono (Ex.new h3))⟩
theorem jl_call (hF : FnJ X.prog X.w X.K X.mg X.base k x (e :: es).length F) (hr : Room k X.A) (tk : L2N.Takes X W.w) (ha : JX X W (e :: es) fa) (hg : Gl X x := by rfl) (hdb : (x == ("__debug__" : Str)) = false := by decide)
    (he : starEach (e :: es) X.env = (false, eval e X.env) :: starEach es X.env := by rfl) (hpl : (backTo pos (starEach es X.env)).any (·.1) = false := by rfl) : JL X W (.Call (.Name x p) (e :: es) [] pos) (fCallR (e :: es).length F fa rvL) := by
  obtain ⟨f, fd, ps, h1, h2, h3, h4, h5⟩ := hF
  obtain ⟨ta, pa, sa⟩ := ha
  refine ⟨_, pe_callSD (dvs := []) (E := fun σ => WE W.w σ) h5 hr hg h1 h2 h4 .nil (fun σ => L2N.passAt tk σ) pa hdb he hpl, snd_call sa (fun d a hk => by cases hk) fun l a hk Φ σ G' H' E' p vs S h1 h2 h3 h4 h5 => ?_⟩
  cases hk; exact ⟨G', Ex.refl G', S, p, vs, rfl, h1, h2, h3, h4, h5⟩
end
end J

namespace J
open PySem PySem.Spec PyProof.Rows L2

/-! ### a method that closes over __class__ -/
abbrev envS (qual : Str) (scope : Scope) (L f : Addr) (cda cc : Addr) : PySem.Env := PySem.W.ksEnv qual scope L f (.ref cda) cc
/-- the context of such a body -/
def cxS (CX : CXT) (P : Program) (w : World) (K : PySem.W.Frag) (mg : Str → Option Value) (base : Heap) (N : List Str) (qual : Str) (scope : Scope) (f cda cc : Addr) (A : Around) (outer : List PySem.Env) (s : Shared) (H : Hp) (E : XK) : Cx :=
  { cxOf CX P w K mg base N qual scope f (.ref cda) A outer s H E with
    A := A.deeper (envS qual scope s.heap.objs.size f cda cc), env := envS qual scope s.heap.objs.size f cda cc, stack := envS qual scope s.heap.objs.size f cda cc :: outer, fn := fun _ => false,
    xe := fun e s' => wpAny (model P w) (A.deeper (envS qual scope s.heap.objs.size f cda cc)) (leaving (envS qual scope s.heap.objs.size f cda cc) e) (fun _ s'' => CX outer H s E e s'') (fun e' s'' => CX outer H s E e' s'') s' }
structure SupScope (N P : List Str) (sc : Scope) : Prop where
  kind : sc.kind = .function
  co : sc.isCoroutine = false
  gen : sc.isGenerator = false
  nd : N.Nodup
  pre : N.take P.length = P
  par : ∀ x ∈ P, sc.names.lookup x = some .local
  nocell : ∀ y ∈ sc.names, y.2 ≠ .cell
  free : ∀ y ∈ sc.names, y.2 = .free → y.1 = "__class__"
  sup : sc.names.lookup ("super" : Str) = some .globalImplicit
  cls : sc.names.lookup ("__class__" : Str) = some .free
theorem lookup_only {α β : Type} [BEq α] [LawfulBEq α] {y : α} {u : β} : ∀ {l : List (α × β)}, (y, u) ∈ l → (∀ v, (y, v) ∈ l → v = u) → l.lookup y = some u
  | [], h, _ => by cases h
  | (a, b) :: l, h, k => by
    unfold List.lookup
    by_cases e : y = a
    · subst e
      rw [show (y == y) = true from beq_self_eq_true y]
      rw [k b (List.mem_cons_self ..)]
    · rw [show (y == a) = false from by simpa using e]
      refine lookup_only ?_ fun v hv => k v (List.mem_cons_of_mem _ hv)
      rcases List.mem_cons.mp h with z | z
      · cases z; exact absurd rfl e
      · exact z
theorem zip_only {ps : List Str} {us : List Value} (nd : ps.Nodup) {i : Nat} {y : Str} {u : Value} (h1 : ps[i]? = some y) (h2 : us[i]? = some u) : (ps.zip us).reverse.lookup y = some u := by
  refine lookup_only (List.mem_reverse.mpr ?_) fun v hv => ?_
  · refine List.mem_of_getElem? (i := i) ?_
    rw [List.getElem?_zip_eq_some]; exact ⟨h1, h2⟩
  · obtain ⟨j, hj⟩ := List.getElem?_of_mem (List.mem_reverse.mp hv)
    rw [List.getElem?_zip_eq_some] at hj
    have : i = j := nodup_ix nd h1 hj.1
    subst this
    rw [h2] at hj
    exact (Option.some.inj hj.2).symm
theorem inv_sup {CX : CXT} {P : Program} {w : World} {K : PySem.W.Frag} {mg : Str → Option Value} {base : Heap} {N ps : List Str} {qual : Str} {scope : Scope} {f cda cc D : Addr} {A : Around} {outer : List PySem.Env} {s : Shared} {h1 : Heap} {t1 : Nat} {H : Hp} {E : XK} {us : List Value} {vs : List V} {cl : Value} {cld : Option Addr} {csl : Array (Option Value)}
    (S : SupScope N ps scope) (hd : A.handled = none) (e0 : Env0 P w K mg base A outer s H) (hl : vs.length = ps.length) (r : Vals vs us) (hcell : K.lookup cc = some ⟨cl, cld, .cell (some (.ref D)), csl⟩)
    (hns : h1.Ns s.heap.objs.size fun x => (ps.zip us).reverse.lookup x) (hk : ∀ b o, s.heap.get? b = some o → h1.get? b = some o) :
    Inv (cxS CX P w K mg base N qual scope f cda cc A outer s H E) [] (L2.start N vs) H { s with heap := h1, toks := t1 } := by
  have hpl : ps.length ≤ N.length := by have := congrArg List.length S.pre; rw [List.length_take] at this; omega
  have ndP : ps.Nodup := by rw [← S.pre]; exact S.nd.sublist (List.take_sublist _ _)
  have one : ∀ x c, (envS qual scope s.heap.objs.size f cda cc).cells.lookup x = some c → x = "__class__" ∧ c = cc := fun x c h => by
    have h' : List.lookup x [(("__class__" : Str), cc)] = some c := h
    rw [List.lookup_cons] at h'
    split at h'
    · rename_i e
      exact ⟨by simpa using e, (Option.some.inj h').symm⟩
    · cases h'
  have bcc : base.get? cc = some ⟨cl, cld, .cell (some (.ref D)), csl⟩ := e0.mod.kin _ _ hcell
  have scc := e0.bs _ _ bcc
  refine ⟨⟨e0.mod, S.kind, rfl, rfl, Nat.le_refl _, fun x y c a b => ?_, fun x hx => ?_, fun x c z _ => absurd (show false = true from z) (by decide), fun _ => hd, Around.frames_deeper e0.frames, .inr ⟨rfl, rfl⟩, fun b z => absurd (show b ∈ ([] : List Addr) from z) (by simp), e0.bs, e0.bsz, fun b _ _ z => absurd (show b ∈ ([] : List Addr) from z) (by simp), fun b z => absurd (show b ∈ ([] : List Addr) from z) (by simp), e0.funs, e0.frf⟩,
    rfl, e0.bare, Un.kept hk, ⟨_, hns, fun i y v a b c => ?_⟩, fun x c a => ?_, e0.hok.fresh (Nat.le_refl _), fun x c a => ?_, fun p hp => absurd (show p ∈ ([] : List (Addr × Obj)) from hp) (by simp), e0.hok.kept hk, ?_⟩
  · rw [(one x c a).1, (one y c b).1]
  · have hx : scope.names.lookup x = some .cell ∨ scope.names.lookup x = some .free := hx
    rcases hx with hx | hx
    · exact absurd rfl (S.nocell _ (PySem.mem_of_lookup hx))
    · have e := S.free _ (PySem.mem_of_lookup hx) rfl
      have e : x = "__class__" := e
      subst e
      exact ⟨cc, rfl⟩
  · have hi : i < vs.length := by
      unfold L2.start at b
      by_cases hi : i < vs.length
      · exact hi
      · rw [List.getElem?_append_right (by simpa using hi), List.getElem?_replicate] at b
        split at b <;> cases b
    have hv : vs[i]? = some v := by
      unfold L2.start at b
      rw [List.getElem?_append_left (by simpa using hi), List.getElem?_map] at b
      cases e : vs[i]? with
      | none => rw [e] at b; cases b
      | some a => rw [e] at b; cases b; rfl
    obtain ⟨u, hu, rv⟩ := r.get hv
    have hp : ps[i]? = some y := by rw [← S.pre, List.getElem?_take_of_lt (by omega)]; exact a
    exact ⟨u, rv, .inl ⟨S.par y (List.mem_of_getElem? hp), zip_only ndP hp hu⟩⟩
  · obtain ⟨_, rfl⟩ := one x c a
    exact ⟨_, _, hk _ _ scc.1, rfl⟩
  · obtain ⟨_, rfl⟩ := one x c a
    exact scc.2
  · unfold L2.start
    show _ = N.length
    rw [List.length_append, List.length_map, List.length_replicate]
    omega
/-! ### ValueError.__init__ bound to an exception, called -/
theorem bound_ve {prog : Program} {w : World} {A : Around} {E : Value → Shared → Prop} {hp : Heap} {g : Array GenState} {d : Drawn} {t : Nat} {os : OsState} {nm q : Str} {C N u a t0 : Addr} {bs bm : List Value} {hdct : Bool} {sn : List Str} {sub : List Value} {ab : Bool} {col : Option Bool} {dd : Option Addr} {k0 k1 k2 k3 k5 : Option Value}
    {xs : List Value} {Q : Value → Shared → Prop} (cC : hp.get? C = some (excClassObj nm q C N bs bm hdct sn sub ab col dd k0 k1 k2 k3 k5 "ValueError.__new__")) (ea : hp.get? a = some (HandSPX.excO C t0)) (eu : hp.get? u = some (PySem.W.kxs_mw "ValueError.__init__" a)) (hz : xs.length ≤ sizeLine)
    (fin : ∀ h' t1, (∀ b o, b ≠ a → hp.get? b = some o → h'.get? b = some o) → h'.get? a = some (HandSPX.excO C t1) → Q .none ⟨h', g, d, t, os⟩) : wpAny (model prog w) A (call (.ref u) xs) Q E ⟨hp, g, d, t, os⟩ := by
  refine wpAny_call (codeAny_of_tree ?_)
  show wpAny _ A.in1 (callAny (.ref u) ⟨xs, []⟩) _ _ _
  simp only [callAny]
  refine wpAny_bind (wpAny_load eu ?_)
  simp only [PySem.W.kxs_mw, show (Value.type "method-wrapper" == Value.type "method" || Value.type "method-wrapper" == Value.type "builtin_function_or_method" || Value.type "method-wrapper" == Value.type "method-wrapper") = true by decide, if_true]
  refine W.KFB.if_so (by decide) ?_
  refine wpAny_bind (PySem.W.check_bound_init F.excBase_ValueError.toExcCallFacts cC ea rfl ?_)
  refine wpAny_bind (wpAny_pure (wpAny_pure ?_))
  refine ⟨Code.quiet_builtin _ (by decide +kernel), codeAny_builtin F.excBase_ValueError.initEntry ?_⟩
  rw [Around.under_plainId F.excBase_ValueError.init.plain _]
  wp_walk
  refine fin _ hp.objs.size (fun b o nb e => ?_) ?_
  · rw [Heap.get?_update_other _ _ (Ne.symm nb)]; exact Heap.get?_push_of_some _ e
  · rw [Heap.get?_update_self _ (Heap.get?_push_of_some _ ea) rfl]; rfl
/-- what is to be known of an own exception class that calls super().__init__ -/
structure SupF (P : Program) (K : PySem.W.Frag) (mg : Str → Option Value) (C cda : Addr) : Prop where
  any : PySem.W.nsIn K PySem.cStatics "thirdparty.any" = some none
  sup : PySem.W.ks_superIn K C C "__init__" = some (some (.builtin "ValueError.__init__"))
  ve : PySem.W.subIn K (.ref C) (.type "ValueError") = some true
  slf : PySem.W.mroIn K C (.ref C) = some true
  code : ∃ ccl cdd vs ccs file tf, K.lookup cda = some ⟨ccl, cdd, .fields vs, ccs⟩ ∧ vs[2]? = some (.str file tf) ∧ ((P.main.file : Str) == file) = true
  mgs : mg "super" = none
  top : (P.main.scope.names.lookup ("super" : Str)).isSome = false
theorem fn_sup {CX : CXT} {P : Program} {w : World} {K : PySem.W.Frag} {mg : Str → Option Value} {base : Heap} {k : Nat} {f cda cc C : Addr} {name qual msg : Str} {params : Arguments} {rest : List Stmt} {scope : Scope} {dV kV doc pm ct oc cl : Value} {an od cld : Option Addr}
    {osl csl : Array (Option Value)} {N ps : List Str} {sp : Sp} {p0 p1 p2 p3 p4 pc : Pos} {j : Nat} {ar : Arg}
    (lk : K.lookup f = some ⟨oc, od, .func (PySem.W.ksFn name qual params (.Expr (.Call (.Attribute (.Call (.Name "super" p0) [] [] p1) "__init__" p2) [.Constant (.str msg) j pc] [] p3) p4 :: rest) scope dV kV doc pm an (.ref cda) ct cc), osl⟩)
    {pl : Sem Bool} (hev : ∀ L : Addr, eval (.Call (.Attribute (.Call (.Name "super" p0) [] [] p1) "__init__" p2) [.Constant (.str msg) j pc] [] p3) (envS qual scope L f cda cc) = (do
      let ov ← attributeBase (.Call (.Name "super" p0) [] [] p1) "__init__" (envS qual scope L f cda cc) (eval (.Call (.Name "super" p0) [] [] p1) (envS qual scope L f cda cc))
      standAt p2.atName
      let (f', first) ← holding [ov] (getMethod ov "__init__" pl)
      callWith p3 f' first (backTo p3 (starEach [.Constant (.str msg) j pc] (envS qual scope L f cda cc))) []))
    (hsw : ∀ L : Addr, swapsWith (.Call (.Attribute (.Call (.Name "super" p0) [] [] p1) "__init__" p2) [.Constant (.str msg) j pc] [] p3) none p4.line (envS qual scope L f cda cc) = pure false)
    (hin : ∀ L : Addr, interactive (envS qual scope L f cda cc) = false)
    (hcd : PySem.W.codeIn K (.ref cda) qual = true) (S : SupScope N ps scope) (T : OexC K C) (SF : SupF P K mg C cda) (hcell : K.lookup cc = some ⟨cl, cld, .cell (some (.ref C)), csl⟩) (har : (params.posonlyargs ++ params.args).head? = some ar) (har2 : ps[0]? = some ar.arg)
    (len : ∀ vs H Q E, sp vs H Q E → vs.length = ps.length) (hself : ∀ vs H Q E, sp vs H Q E → ∃ a ws, vs = .ref a :: ws ∧ H a = some (exo a C none))
    (hbody : ∀ (A : Around) (outer : List PySem.Env) (s : Shared) (H : Hp) (vs : List V) (Q : VK) (E : XK), Room k (A.deeper (envS qual scope s.heap.objs.size f cda cc)) → sp vs H Q E →
      ∃ t, PSs (cxS CX P w K mg base N qual scope f cda cc A outer s H E) rest t ∧ t { nx := fun _ H' => Q .non H', rt := Q } (L2.start N vs) H) :
    FnOk P w K mg base CX (k + 1) f (PySem.W.ksFn name qual params (.Expr (.Call (.Attribute (.Call (.Name "super" p0) [] [] p1) "__init__" p2) [.Constant (.str msg) j pc] [] p3) p4 :: rest) scope dV kV doc pm an (.ref cda) ct cc) ps sp := by
  refine ⟨len, fun A outer s H args us vs Q E hr e0 hb r hsp => ?_⟩
  have hl := len _ _ _ _ hsp
  have KX : K.In s.heap := e0.mod.kin.keeps fun b o e => (e0.bs b o e).1
  have lim : s.heap.NoLimit := e0.mod.nolimit.keeps fun b o e => (e0.bs b o e).1
  have hloc : ∀ y ∈ ps.zip us, scope.names.lookup y.1 = some .local := fun ⟨n, v⟩ hy => S.par n (List.of_mem_zip hy).1
  refine ks_codeAny_call_defAt (fd := PySem.W.ksFn name qual params (.Expr (.Call (.Attribute (.Call (.Name "super" p0) [] [] p1) "__init__" p2) [.Constant (.str msg) j pc] [] p3) p4 :: rest) scope dV kV doc pm an (.ref cda) ct cc) hr.depth (KX _ _ lk) rfl lim (PySem.W.codeRec_of KX hcd) rfl hb S.nocell hloc (fun h1 hns hk => ?_) S.co S.gen S.kind
  have I0 : Inv (cxS CX P w K mg base N qual scope f cda cc A outer s H E) [] (L2.start N vs) H { s with heap := h1, toks := s.toks + (ps.zip us).length } := inv_sup S hr.hd e0 hl r hcell hns hk
  obtain ⟨t, ht, hq⟩ := hbody A outer s H vs Q E (hr.deeper _) hsp
  obtain ⟨a, ws, rfl, ea⟩ := hself _ _ _ _ hsp
  obtain ⟨nm, q, N', bs, bm, sn, sub, ab, col, dd, k0, k1, k2, k3, k5, hC, hbm⟩ := T.cls
  obtain ⟨ccl, cdd, vs', ccs, file, tf, hcode, hvs, hfile⟩ := SF.code
  have K1 : K.In h1 := KX.keeps hk
  have hcl : PySem.W.clsIn K C = some { name := nm, bases := bs, mro := .ref C :: bm, ns := N', qualname := q, hasDict := true, slotNames := sn, subclasses := sub, abstract := ab, collection := col, hasDel := false } := by unfold PySem.W.clsIn; rw [hC] <;> rfl
  obtain ⟨t0, ha1⟩ := exo_at I0.hok ea
  have G0 : h1.Ns mainGlobals mg := e0.mod.glob.keeps fun b o e => hk b o (e0.bs b o e).1
  obtain ⟨mb, B0, B1⟩ := e0.mod.blt
  have B0 : h1.Ns builtinsNs mb := B0.keeps fun b o e => hk b o (e0.bs b o e).1
  have hself : (ps.zip us).reverse.lookup ar.arg = some (.ref a) := by
    have ndP : ps.Nodup := by rw [← S.pre]; exact S.nd.sublist (List.take_sublist _ _)
    obtain ⟨u, hu, ru⟩ := r.get (i := 0) (x := .ref a) rfl
    have ru : u = .ref a := ru
    subst ru
    exact zip_only ndP har2 hu
  have hwC : PySem.W.InstAt h1 a (HandSPX.excO C t0) C none := ⟨ha1, rfl, rfl, trivial⟩
  refine ks_wpAt_execs_cons (ks_wpAt_Expr_any (ks_wpAt_MethodCall (pl := pl) ?_ (hev _)) (hin _) (hsw _))
  refine ks_wpAt_super_base (env := envS qual scope s.heap.objs.size f cda cc) S.sup S.cls (by decide) rfl (K1 _ _ lk) rfl har rfl (K1 _ _ hcode) rfl hvs hfile SF.top ?_
  refine PySem.W.ks_loadName_global S.kind S.sup (Calls.loadGlobal_builtin (env := envS qual scope s.heap.objs.size f cda cc) G0 SF.mgs B0 ((B1 "super" (by decide)).trans (by first | rfl | decide +kernel | kernel_rfl)) ⟨rfl, ?_⟩)
  refine wpAny_loadName_free S.kind S.cls rfl ⟨_, K1 _ _ hcell, rfl⟩ ?_
  refine wpAny_loadName_local S.kind (S.par _ (List.mem_of_getElem? har2)) hns hself ?_
  refine ks_wpAny_isType_cls (K1 _ _ hC) rfl ⟨rfl, ?_⟩
  refine ks_wpAny_call_super (K1 _ _ hC) rfl ha1 rfl (fun c e => by cases e) (PySem.W.looks_mroIn K1 SF.slf) (fun h2 e2 k2 => ?_)
  have K2 : K.In h2 := K1.keeps k2
  have I2 := I0.kept (h' := h2) (t' := s.toks + (ps.zip us).length) k2
  have hw2 : PySem.W.InstAt h2 a (HandSPX.excO C t0) C none := ⟨k2 _ _ ha1, rfl, rfl, trivial⟩
  have hal : PySem.W.alongIn K "__init__" (((Value.ref C :: bm).dropWhile (· != .ref C)).drop 1) = some (some (.builtin "ValueError.__init__")) := by
    have q := SF.sup
    unfold PySem.W.ks_superIn at q
    rw [hcl] at q
    exact q
  refine PySem.W.kxs_getMethod PySem.W.kxs_ValueError e2 (PySem.W.looks_opaque K2 SF.any) (l₀ := .ref C :: bm) (fun A Q E s k q => wpAny_bind ((PySem.W.looks_clsIn K2 hcl) A _ E s k (wpAny_pure q))) rfl K2 hal (hw2.type.andThen (PySem.W.looks_subIn K2 SF.ve)) (PySem.W.ks_ne K2 hw2 hcl) (by decide) ?_
  have he : starEach [.Constant (.str msg) j pc] (envS qual scope s.heap.objs.size f cda cc) = (false, eval (.Constant (.str msg) j pc) (envS qual scope s.heap.objs.size f cda cc)) :: starEach [] (envS qual scope s.heap.objs.size f cda cc) := rfl
  have hu : (h2.push (PySem.W.kxs_mw "ValueError.__init__" a)).get? h2.objs.size = some (PySem.W.kxs_mw "ValueError.__init__" a) := Heap.get?_push_size _ rfl
  have k3 : ∀ b o, h2.get? b = some o → (h2.push (PySem.W.kxs_mw "ValueError.__init__" a)).get? b = some o := fun b o e => Heap.get?_push_of_some _ e
  have I3 := I2.kept (h' := h2.push (PySem.W.kxs_mw "ValueError.__init__" a)) (t' := s.toks + (ps.zip us).length + 1) k3
  have I3 := I3.pins_of (pins' := [(h2.objs.size, PySem.W.kxs_mw "ValueError.__init__" a)]) fun p hp => by
    have e : p = (h2.objs.size, PySem.W.kxs_mw "ValueError.__init__" a) := by simpa using hp
    subst e
    exact ⟨hu, I2.hok.fresh (Nat.le_refl _), Nat.ne_of_gt I2.lt, I2.nofs (Nat.le_refl _), fun v z => by cases z⟩
  show wpAny _ _ (callWith p3 (.ref h2.objs.size) [] (backTo p3 (starEach [.Constant (.str msg) j pc] (envS qual scope s.heap.objs.size f cda cc))) []) _ _ _
  rw [he]
  refine PySem.W.kxs_callWith (i := "ValueError.__init__") (x := a) rfl ?_
  refine Calls.evalArgs_plain ?_
  have pa : PA (cxS CX P w K mg base N qual scope f cda cc A outer s H E) [.Constant (.str msg) j pc] _ := pa_cons pe_str pa_nil he
  have ra := pa.run p3 _ _ _ H (fun vs H1 => vs = [.str msg] ∧ H1 = H) I3 ⟨rfl, rfl⟩
  refine wpAny_mono ra (fun us3 s3 h3 => ?_) fun _ _ z => z
  obtain ⟨vs3, H3, I4, r3, rfl, rfl⟩ := h3
  have hlen : us3.length ≤ sizeLine := by rw [← Paired.length r3, sizeLine_eq]; show (1 : Nat) ≤ _; decide
  have hu4 : s3.heap.get? h2.objs.size = some (PySem.W.kxs_mw "ValueError.__init__" a) := (I4.pin _ (List.mem_append_right _ (List.mem_singleton.mpr rfl))).1
  obtain ⟨t4, ha4⟩ := exo_at I4.hok ea
  have K4 : K.In s3.heap := I4.kIn
  refine ⟨hu4, ?_⟩
  obtain ⟨hp4, g4, d4, tk4, os4⟩ := s3
  refine bound_ve (K4 _ _ hC) ha4 hu4 hlen fun h5 t5 k5' ha5 => ?_
  have I5 := I4.write (t' := tk4) (h' := h5) (x := a) (e := a) (o := exo a C none) (by rw [ea]; exact True.intro) (.inl rfl) k5' ⟨_, ha5⟩ (exo_ok ha5)
  have eu : upd H3 a (exo a C none) = H3 := by
    funext b
    by_cases hb : b = a
    · rw [hb, upd_same, ea]
    · rw [upd_ne hb]
  rw [eu] at I5
  have I6 := I5.pins_of (pins' := []) fun p hp => absurd hp (by simp)
  refine wpAt_of_wpAny (wpAny_mono (ht.run [] _ _ _ _ I6 hq) (fun fl s' hs => ?_) fun e s' hs => hs)
  cases fl with
  | ret u =>
    obtain ⟨v, σ', H', J', rv, q⟩ := hs
    exact ⟨v, H', J'.os, J'.bare, J'.base, J'.hok, rv, q⟩
  | next =>
    obtain ⟨σ', H', J', q⟩ := hs
    exact ⟨.non, H', J'.os, J'.bare, J'.base, J'.hok, rfl, q⟩
  | brk => exact hs.elim fun _ h => h.elim fun _ h => h.2.elim
  | cont => exact hs.elim fun _ h => h.elim fun _ h => h.2.elim
end J

namespace J
open PySem PySem.Spec PyProof.Rows L2

section
variable {K : PySem.W.Frag} {Φ : Fr} {G H : Hp} {σ : St} {E : Env} {p : Addr} {o : HO}
/-- an object of nobody's is written -/
theorem Sat.upd (S : Sat K Φ G H σ E) (g : G p = none) (f : Φ.F p = none) (n : NotOwn σ E p) : Sat K Φ G (L2.upd H p o) σ E := by
  refine ⟨S.len, fun i s hs => ?_, S.gh.mut g, S.fh.mut f, S.fg, S.ow', S.di'⟩
  obtain ⟨x, h1, h2⟩ := S.sl i s hs
  refine ⟨x, h1, h2.mono (Ex.refl G) fun q b hb e2 => ?_⟩
  subst e2
  exact upd_ne fun z => by subst z; exact n i s b hs hb h1
def Fr.lo (Φ : Fr) (p : Addr) (o : HO) : Fr := ⟨L2.upd Φ.F p o, Φ.io⟩
theorem Sat.lo (S : Sat K Φ G H σ E) (hp : H p = some o) (g : G p = none) (n : NotOwn σ E p) : Sat K (Φ.lo p o) G H σ E := by
  refine ⟨S.len, S.sl, S.gh, fun a u h => ?_, fun a h => ?_, fun i s b q h1 hb h2 => ?_, S.di'⟩
  · by_cases ha : a = p
    · subst ha
      have h' : L2.upd Φ.F a o a = some u := h
      rw [upd_same] at h'; rw [← h']; exact hp
    · have h' : L2.upd Φ.F p o a = some u := h
      rw [upd_ne ha] at h'; exact S.fh a u h'
  · by_cases ha : a = p
    · subst ha; exact g
    · refine S.fg a fun z => h ?_
      show L2.upd Φ.F p o a = none
      rw [upd_ne ha]; exact z
  · obtain ⟨h3, h4, h5⟩ := S.ow' i s b q h1 hb h2
    refine ⟨h3, ?_, h5⟩
    show L2.upd Φ.F p o q = none
    rw [upd_ne (fun z => n i s b h1 hb (by rw [← z]; exact h2))]
    exact h4
theorem Sat.unlo (S : Sat K (Φ.lo p o) G H σ E) (hF : Φ.F p = none) : Sat K Φ G H σ E ∧ H p = some o ∧ G p = none ∧ NotOwn σ E p := by
  have hs : (Φ.lo p o).F p = some o := upd_same
  refine ⟨⟨S.len, S.sl, S.gh, fun a u h => ?_, fun a h => ?_, fun i s b q h1 hb h2 => ?_, S.di'⟩, S.fh p _ hs, S.fg p (by rw [hs]; simp), fun i s b h1 hb h2 => ?_⟩
  · by_cases ha : a = p
    · subst ha; rw [hF] at h; cases h
    · exact S.fh a u (by show L2.upd Φ.F p o a = some u; rw [upd_ne ha]; exact h)
  · by_cases ha : a = p
    · subst ha; exact absurd hF h
    · exact S.fg a (by show L2.upd Φ.F p o a ≠ none; rw [upd_ne ha]; exact h)
  · obtain ⟨h3, h4, h5⟩ := S.ow' i s b q h1 hb h2
    refine ⟨h3, ?_, h5⟩
    by_cases ha : q = p
    · subst ha; exact hF
    · have h4' : L2.upd Φ.F p o q = none := h4
      rw [upd_ne ha] at h4'; exact h4'
  · obtain ⟨h3, h4, h5⟩ := S.ow' i s b p h1 hb h2
    rw [hs] at h4; cases h4
end

/-! ### self.f = e, one after the other -/
/-- the exception at a as far as it is made -/
def Xst (H : Hp) (a C : Addr) (ns : List Str) (us : List V) : Option Addr → Prop
  | none => H a = some (exo a C none) ∧ ns = [] ∧ us = []
  | some d => H a = some (exo a C (some d)) ∧ H d = some (exd d (ns.zip us)) ∧ d ≠ a
def putF : List (Str × (Env → R D)) → List Str → List D → Env → Option (List Str × List D)
  | [], ns, ds, _ => some (ns, ds)
  | (f, fe) :: r, ns, ds, E => match fe E with
    | .ok d E1 => putF r (f :: ns) (d :: ds) E1
    | _ => none
/-- what is wished behind the fields -/
def PutW (K : PySem.W.Frag) (Φ : Fr) (G H0 : Hp) (a C : Addr) (σ : St) (r : Option (List Str × List D)) (Q : St → Hp → Prop) : Prop := match r with
  | none => False
  | some (ns, ds) => ∀ G' H' d us E', Ex G G' → Sat K Φ G' H' σ E' → H' a = some (exo a C (some d)) → H' d = some (exd d (ns.zip us)) → H0 d = none → d ≠ a → RpA K G' us ds → us.length = ns.length → G' d = none → Φ.F d = none → G' a = none → Q σ H'
def PutS (K : PySem.W.Frag) (t : TS) (fl : List (Str × (Env → R D))) : Prop := ∀ Φ G H σ E D H0 a C ns us ds o, OexC K C → (∀ p ∈ fl, PySem.W.findIn K (.ref C) p.1 = some none) → σ[0]? = some (some (.ref a)) → Sat K Φ G H σ E → NotOwn σ E a → G a = none → Φ.F a = none → Xst H a C ns us o → RpA K G us ds → us.length = ns.length → ns.length + fl.length ≤ 900 →
  (∀ d, o = some d → G d = none ∧ Φ.F d = none ∧ H0 d = none ∧ NotOwn σ E d) → (∀ b, b ≠ a → G b = none → Φ.F b = none → (∀ d, o = some d → b ≠ d) → H0 b ≠ none → False) → (fl = [] → o ≠ none) → PutW K Φ G H0 a C σ (putF fl ns ds E) D.nx → t D σ H
def JPut (X : Cx) (s : List Stmt) (fl : List (Str × (Env → R D))) : Prop := ∃ t, PSs X s t ∧ PutS X.K t fl
/-- neither a list nor an instance -/
def notOI : HO → Prop
  | .lst _ => False
  | .ins _ _ _ => False
  | _ => True
theorem NotOwn.ne {K : PySem.W.Frag} {Φ : Fr} {G H : Hp} {σ : St} {E : Env} (S : Sat K Φ G H σ E) {p : Addr} {o : HO} (h : H p = some o) (hn : notOI o) : NotOwn σ E p := fun i s b h1 hb h2 => by
  obtain ⟨x, h3, hk⟩ := S.sl i _ h1
  rw [h2] at h3; cases h3
  cases s with
  | no => cases hb
  | val d => cases hb
  | own b l => obtain ⟨q, vs, h5, h6, _⟩ := hk; cases h5; rw [h] at h6; cases h6; exact hn
  | obj b c ns ds => obtain ⟨q, dx, vs, h5, h6, _⟩ := hk; cases h5; rw [h] at h6; cases h6; exact hn
theorem exo_lst {e C : Addr} {d : Option Addr} : notOI (exo e C d) := trivial
theorem exd_lst {e : Addr} {fs : List (Str × V)} : notOI (exd e fs) := trivial
theorem jput_nil {X : Cx} : JPut X [] [] := by
  refine ⟨_, pss_nil, fun Φ G H σ E D H0 a C ns us ds o T hf hs S nA gA fA hx r hl hz ho hc hne hp => ?_⟩
  cases o with
  | none => exact absurd rfl (hne rfl)
  | some d =>
    obtain ⟨x1, x2, x3⟩ := hx
    obtain ⟨o1, o2, o3, o4⟩ := ho d rfl
    exact hp G H d us E (Ex.refl G) S x1 x2 o3 x3 r hl o1 o2 gA
theorem jput_cons {X : Cx} {s : Str} {f : Str} {e : Expr} {rest : List Stmt} {fe : Env → R D} {fl : List (Str × (Env → R D))} {p p' pos : Pos} (he : JE X V0 e fe) (hr : JPut X rest fl) (hN : X.N[0]? = some s) (hv : Vis X.env.scope s := by first | exact Or.inl rfl | exact Or.inr (Or.inl rfl) | exact Or.inr (Or.inr rfl)) (hd : (s == ("__debug__" : Str)) = false := by decide)
    (hcd : (s == ("__classdict__" : Str)) = false := by decide) (hs : swapsWith e (some (.Attribute (.Name s p) f p')) pos.line X.env = pure false := by rfl) : JPut X (.Assign [.Attribute (.Name s p) f p'] e pos :: rest) ((f, fe) :: fl) := by
  obtain ⟨te, h1, h2⟩ := he
  obtain ⟨t, h3, h4⟩ := hr
  refine ⟨_, pss_cons (ps_ost (pe_var hN hv hd hcd) h1 hs) h3, fun Φ G H σ E D H0 a C ns us ds o T hf hself S nA gA fA hx r hl hz ho hc hne hp => ?_⟩
  have hp0 := hp
  unfold putF at hp
  have mono : ∀ {G1 : Hp} {r : Option (List Str × List J.D)}, Ex G G1 → PutW X.K Φ G H0 a C σ r D.nx → PutW X.K Φ G1 H0 a C σ r D.nx := fun {G1 r} e1 h => by
    cases r with
    | none => exact h
    | some r => exact fun G' H' d us E' e2 => h G' H' d us E' (e1.trans e2)
  cases hfe : fe E with
  | exc x E' => rw [hfe] at hp; exact hp.elim
  | stuck => rw [hfe] at hp; exact hp.elim
  | ok y0 E1 =>
    rw [hfe] at hp
    have hp : PutW X.K Φ G H0 a C σ (putF fl (f :: ns) (y0 :: ds) E1) D.nx := hp
    have hfp := hf (f, fe) (List.mem_cons_self ..)
    have hfl : ∀ p ∈ fl, PySem.W.findIn X.K (.ref C) p.1 = some none := fun p hp => hf p (List.mem_cons_of_mem _ hp)
    have hz2 : (f :: ns).length + fl.length ≤ 900 := by simp only [List.length_cons] at hz ⊢; omega
    show te σ H fun y H1 => tVar 0 σ H1 fun x H2 => ∃ a C : Addr, x = .ref a ∧ OexC X.K C ∧ PySem.W.findIn X.K (.ref C) f = some none ∧ _
    cases o with
    | none =>
      obtain ⟨x1, rfl, rfl⟩ := hx
      cases r
      refine h2 (Φ.lo a (exo a C none)) G H σ E _ (S.lo x1 gA nA).pw ?_
      rw [hfe]
      intro G1 H1 y e1 S1 r1
      obtain ⟨S2, y1, y2, y3⟩ := S1.unlo fA
      refine ⟨.ref a, hself, a, C, rfl, T, hfp, .inl ⟨y1, fun dx hdx hne1 => ?_⟩⟩
      have g1 := S2.gh.back hdx
      have f1 := S2.fh.back hdx
      have hda : a ≠ dx := fun z => hne1 z.symm
      refine h4 Φ G1 _ σ E1 D H0 a C [f] [y] [y0] (some dx) T hfl hself ((S2.upd g1 f1 (S2.notOwn hdx)).upd y2 fA y3) y3 y2 fA ⟨upd_same, ?_, hne1⟩ (.cons r1 .nil) rfl hz2 (fun d e => ?_) (fun b b1 b2 b3 b4 b5 => hc b b1 (e1.back b2) b3 (fun _ z => by cases z) b5) (fun _ z => by cases z) (mono e1 hp)
      · rw [upd_ne (Ne.symm hda), upd_same]; rfl
      · cases e
        refine ⟨g1, f1, ?_, S2.notOwn hdx⟩
        cases h0 : H0 dx with
        | none => rfl
        | some w => exact (hc dx hne1 (e1.back g1) f1 (fun _ z => by cases z) (by rw [h0]; simp)).elim
    | some d0 =>
      obtain ⟨x1, x2, x3⟩ := hx
      obtain ⟨o1, o2, o3, o4⟩ := ho d0 rfl
      have fd0 : (Φ.lo a (exo a C (some d0))).F d0 = none := by show L2.upd Φ.F a _ d0 = none; rw [upd_ne x3]; exact o2
      refine h2 ((Φ.lo a (exo a C (some d0))).lo d0 (exd d0 (ns.zip us))) G H σ E _ ((S.lo x1 gA nA).lo x2 o1 o4).pw ?_
      rw [hfe]
      intro G1 H1 y e1 S1 r1
      obtain ⟨S2, z1, z2, z3⟩ := S1.unlo fd0
      obtain ⟨S3, y1, y2, y3⟩ := S2.unlo fA
      refine ⟨.ref a, hself, a, C, rfl, T, hfp, .inr ⟨d0, ns.zip us, y1, z1, ?_, ?_⟩⟩
      · rw [List.length_zip]; simp only [List.length_cons] at hz; omega
      · refine h4 Φ G1 _ σ E1 D H0 a C (f :: ns) (y :: us) (y0 :: ds) (some d0) T hfl hself (S3.upd z2 o2 z3) y3 y2 fA ⟨?_, upd_same, x3⟩ (.cons r1 (r.mono e1)) (by simp [hl]) hz2 (fun d e => ?_) (fun b b1 b2 b3 b4 b5 => hc b b1 (e1.back b2) b3 b4 b5) (fun _ z => by cases z) (mono e1 hp)
        · rw [upd_ne (Ne.symm x3)]; exact y1
        · cases e; exact ⟨z2, o2, o3, z3⟩
end J

namespace J
open PySem PySem.Spec PyProof.Rows L2

section
variable {K : PySem.W.Frag} {Φ : Fr} {G H : Hp} {σ : St} {E : Env}
theorem Sat.bare (S : Sat K Φ G H σ E) : Sat K Φ G H [] [] := ⟨rfl, fun i s h => by simp at h, S.gh, S.fh, S.fg, fun i s b p h => by simp at h, fun i j s s' b b' p h => by simp at h⟩
theorem Sat.vals (S : Sat K Φ G H [] []) {a : Addr} {ws : List V} {ds : List D} (r : RpA K G ws ds) : Sat K Φ G H ((V.ref a :: ws).map some) (.no :: ds.map .val) := by
  have nown : ∀ (i : Nat) (s : Sl) (b : Bool), (Sl.no :: ds.map Sl.val)[i]? = some s → s.ow = some b → False := fun i s b h hb => by
    cases i with
    | zero => simp at h; subst h; cases hb
    | succ i =>
      rw [List.getElem?_cons_succ, List.getElem?_map] at h
      obtain ⟨d, _, rfl⟩ := Option.map_eq_some_iff.mp h
      cases hb
  refine ⟨by simp [r.length], fun i s h => ?_, S.gh, S.fh, S.fg, fun i s b p h hb => (nown i s b h hb).elim, fun i j s s' b b' p h hb => (nown i s b h hb).elim⟩
  cases i with
  | zero => simp at h; subst h; exact ⟨_, rfl, trivial⟩
  | succ i =>
    rw [List.getElem?_cons_succ, List.getElem?_map] at h
    obtain ⟨d, h1, rfl⟩ := Option.map_eq_some_iff.mp h
    obtain ⟨v, h2, h3⟩ := r.get h1
    exact ⟨some v, by rw [List.map_cons, List.getElem?_cons_succ, List.getElem?_map, h2]; rfl, v, rfl, h3⟩
end

/-! ### what an own exception's __init__ promises -/
def PostN (K : PySem.W.Frag) (Φ : Fr) (G H : Hp) (a C : Addr) (r : Option (List Str × List D)) (Q : VK) : Prop := match r with
  | none => False
  | some (ns, ds) => ∀ G' H' d us, Ex G G' → Sat K Φ G' H' [] [] → H' a = some (exo a C (some d)) → H' d = some (exd d (ns.zip us)) → H d = none → d ≠ a → RpA K G' us ds → us.length = ns.length → G' d = none → Φ.F d = none → G' a = none → Q .non H'
def spI (K : PySem.W.Frag) (n : Nat) (C : Addr) (F : List D → Option (List Str × List D)) : Sp := fun vs H Q _ => vs.length = n ∧ ∃ a ws Φ G ds, vs = .ref a :: ws ∧ H a = some (exo a C none) ∧ G a = none ∧ Φ.F a = none ∧ Sat K Φ G H [] [] ∧ RpA K G ws ds ∧ (∀ b, b ≠ a → G b = none → Φ.F b = none → H b ≠ none → False) ∧ PostN K Φ G H a C (F ds) Q
def initF (n : Nat) (fl : List (Str × (Env → R D))) : List D → Option (List Str × List D) := fun ds => putF fl [] [] ((.no :: ds.map .val) ++ List.replicate (n - (.no :: ds.map Sl.val).length) .no)
theorem fn_initJ {P : Program} {w : World} {K : PySem.W.Frag} {mg : Str → Option Value} {base : Heap} {k : Nat} {f cda cc C : Addr} {name qual msg : Str} {params : Arguments} {rest : List Stmt} {scope : Scope} {dV kV doc pm ct oc cl : Value} {an od cld : Option Addr}
    {osl csl : Array (Option Value)} {N ps : List Str} {p0 p1 p2 p3 p4 pc : Pos} {j : Nat} {ar : Arg} {fl : List (Str × (Env → R D))}
    (lk : K.lookup f = some ⟨oc, od, .func (PySem.W.ksFn name qual params (.Expr (.Call (.Attribute (.Call (.Name "super" p0) [] [] p1) "__init__" p2) [.Constant (.str msg) j pc] [] p3) p4 :: rest) scope dV kV doc pm an (.ref cda) ct cc), osl⟩)
    {pl : Sem Bool} (hev : ∀ L : Addr, eval (.Call (.Attribute (.Call (.Name "super" p0) [] [] p1) "__init__" p2) [.Constant (.str msg) j pc] [] p3) (envS qual scope L f cda cc) = (do
      let ov ← attributeBase (.Call (.Name "super" p0) [] [] p1) "__init__" (envS qual scope L f cda cc) (eval (.Call (.Name "super" p0) [] [] p1) (envS qual scope L f cda cc))
      standAt p2.atName
      let (f', first) ← holding [ov] (getMethod ov "__init__" pl)
      callWith p3 f' first (backTo p3 (starEach [.Constant (.str msg) j pc] (envS qual scope L f cda cc))) []))
    (hsw : ∀ L : Addr, swapsWith (.Call (.Attribute (.Call (.Name "super" p0) [] [] p1) "__init__" p2) [.Constant (.str msg) j pc] [] p3) none p4.line (envS qual scope L f cda cc) = pure false)
    (hin : ∀ L : Addr, interactive (envS qual scope L f cda cc) = false)
    (hcd : PySem.W.codeIn K (.ref cda) qual = true) (S : SupScope N ps scope) (T : OexC K C) (SF : SupF P K mg C cda) (hcell : K.lookup cc = some ⟨cl, cld, .cell (some (.ref C)), csl⟩) (har : (params.posonlyargs ++ params.args).head? = some ar) (har2 : ps[0]? = some ar.arg)
    (hfl : fl ≠ []) (hlen : fl.length ≤ 900) (hno : ∀ p ∈ fl, PySem.W.findIn K (.ref C) p.1 = some none)
    (hput : ∀ (A : Around) (outer : List PySem.Env) (s : Shared) (H : Hp) (E : XK), JPut (cxS (L2N.CX P w) P w K mg base N qual scope f cda cc A outer s H E) rest fl) :
    FnOk P w K mg base (L2N.CX P w) (k + 1) f (PySem.W.ksFn name qual params (.Expr (.Call (.Attribute (.Call (.Name "super" p0) [] [] p1) "__init__" p2) [.Constant (.str msg) j pc] [] p3) p4 :: rest) scope dV kV doc pm an (.ref cda) ct cc) ps (spI K ps.length C (initF N.length fl)) := by
  refine fn_sup lk hev hsw hin hcd S T SF hcell har har2 (fun vs H Q E h => h.1) (fun vs H Q E h => ?_) fun A outer s H vs Q E hr hsp => ?_
  · obtain ⟨_, a, ws, Φ, G, ds, h1, h2, _⟩ := h
    exact ⟨a, ws, h1, h2⟩
  · obtain ⟨t, h1, h2⟩ := hput A outer s H E
    refine ⟨t, h1, ?_⟩
    obtain ⟨hl, a, ws, Φ, G, ds, rfl, ea, gA, fA, S0, r, cov, hP⟩ := hsp
    have S1 := (S0.vals (a := a) r).begin N
    refine h2 Φ G H _ _ _ H a C [] [] [] none T hno ?_ S1 (NotOwn.ne S1 ea exo_lst) gA fA ⟨ea, rfl, rfl⟩ .nil rfl (by simpa using hlen) (fun d e => by cases e) (fun b h1 h2 h3 _ h4 => cov b h1 h2 h3 h4) (fun z => absurd z hfl) ?_
    · unfold L2.start; rfl
    · unfold initF at hP
      cases hF : putF fl [] [] ((.no :: ds.map .val) ++ List.replicate (N.length - (.no :: ds.map Sl.val).length) .no) with
      | none => rw [hF] at hP; exact hP.elim
      | some r =>
        rw [hF] at hP
        exact fun G' H' d us E' e1 S2 x1 x2 x3 x4 x5 x6 x7 x8 x9 => hP G' H' d us e1 S2.bare x1 x2 x3 x4 x5 x6 x7 x8 x9
/-- an own exception class, as a raise sees it -/
structure ExcJ (P : Program) (w : World) (K : PySem.W.Frag) (mg : Str → Option Value) (base : Heap) (k : Nat) (x : Str) (n : Nat) (F : List D → Option (List Str × List D)) : Prop where
  ok : ∃ fI fd ps, mg x = some (.ref (He.ga K x)) ∧ OexC K (He.ga K x) ∧ PySem.W.findIn K (.ref (He.ga K x)) "__init__" = some (some (.ref fI)) ∧ PySem.W.typeIn K (.ref fI) = some (.type "function") ∧ ps.length = n + 1 ∧ Binds K fd ps [] ∧ FnOk P w K mg base (L2N.CX P w) k fI fd ps (spI K (n + 1) (He.ga K x) F)
/-- C(e, ..) -/
theorem pmkN {X : Cx} {CX : CXT} {x : Str} {C fI : Addr} {k : Nat} {fd : FuncData} {ps : List Str} {sp : Sp} {e : Expr} {es : List Expr} {p pos : Pos} {ta : TA} (T : OexC X.K C) (iC : PySem.W.findIn X.K (.ref C) "__init__" = some (some (.ref fI))) (tI : PySem.W.typeIn X.K (.ref fI) = some (.type "function"))
    (F1 : FnOk X.prog X.w X.K X.mg X.base CX k fI fd ps sp) (hr : Room (k + 1) X.A) (hb : Binds X.K fd ps []) (hx : Passes CX X fun _ _ _ => False) (hg : Gl X x) (hm : X.mg x = some (.ref C)) (ha : PA X (e :: es) ta)
    (hdb : (x == ("__debug__" : Str)) = false := by decide) (he : starEach (e :: es) X.env = (false, eval e X.env) :: starEach es X.env := by rfl) (hpl : (backTo pos (starEach es X.env)).any (·.1) = false := by rfl) :
    L2N.PMk X (.Call (.Name x p) (e :: es) [] pos) (tMkO C sp [] ta) := by
  intro pins s σ H Q I hw
  obtain ⟨nm, qn, nsA, bs, bm, sn, sub, ab, col, dd, k0, k1, k2, k3, k5, hC, hbm⟩ := T.cls
  refine wpAny_Call_Name_kw (ld_glob I hg hm ?_ hdb)
  refine PySem.W.callWith_K (h₀ := X.base) I.ok.mod.kin T.kC (thn (ha.run pos pins s σ H _ I hw) fun us s1 ⟨vs, H1, J1, rr, hz, wish⟩ => ⟨J1.kIn, ?_⟩) he hpl
  show wpAny _ _ (call (.ref C) us) _ _ _
  obtain ⟨hp, gs, dr, tk, os⟩ := s1
  have up1 : hp.objs.size ≤ hp.objs.size + 1 := Nat.le_succ _
  have q1 := wish (hp.objs.size + 1) (J1.hok.fresh up1)
  rw [List.append_nil] at q1
  have kp : ∀ b o, hp.get? b = some o → ((hp.push (PySem.W.kdv_tup us)).push (HandSPX.excO C hp.objs.size)).get? b = some o := fun b o z => Heap.get?_push_of_some _ (Heap.get?_push_of_some _ z)
  have at1 : ((hp.push (PySem.W.kdv_tup us)).push (HandSPX.excO C hp.objs.size)).get? (hp.objs.size + 1) = some (HandSPX.excO C hp.objs.size) := by heap_get
  have J2 := J1.laid (t' := tk) (o := exo (hp.objs.size + 1) C none) kp up1 (exo_ok at1)
  have r2 : Vals (V.ref (hp.objs.size + 1) :: vs) (Value.ref (hp.objs.size + 1) :: us) := .cons rfl rr
  have ln : (Value.ref (hp.objs.size + 1) :: us).length = ps.length := r2.length.symm.trans (F1.len _ _ _ _ q1)
  have ul : us.length ≤ sizeLine := by rw [← Paired.length rr, sizeLine_eq]; omega
  have b2 := hb _ (Value.ref (hp.objs.size + 1) :: us) J2.kIn (by rw [List.append_nil]; exact ln)
  rw [List.append_nil] at b2
  have run := F1.run _ X.stack _ _ ⟨Value.ref (hp.objs.size + 1) :: us, []⟩ _ _ _ (fun _ _ _ => False) (hr.make C us []) (J2.env0.make C us []) b2 r2 q1
  refine wpAny_call (HandSPX.call_own F.excBase_ValueError (fun Y => HandSPX.refsVE_contains Y bm hbm) (J1.kIn _ _ hC) (PySem.W.looks_findIn J1.kIn iC) (fun self => PySem.W.bind_fn J1.kIn self tI) ul (codeAny_mono run fun rs s' back => ?_))
  cases rs with
  | error er => exact hx pins σ _ _ er s' J2 back
  | ok fl =>
    cases fl with
    | next => exact False.elim back
    | brk => exact False.elim back
    | cont => exact False.elim back
    | ret u =>
      obtain ⟨v, H2, os2, bare2, un2, hok2, rv, ev, d, fs, ea, ed, hd1, q2⟩ := back
      subst ev
      obtain ⟨h2, g2, d2, t2, os'⟩ := s'
      obtain ⟨t0, G, J, kG, ge, hoe, na⟩ := mk_end0 (d2 := d2) (t2 := t2) J1 up1 kp un2 hok2 os2 bare2 ea ed hd1
      exact ⟨rv, hp.objs.size + 1, _, _, ⟨G, g2, d2, t2, os'⟩, _, .ref C, some d, rfl, J, kG, ge, hoe, ⟨rfl, rfl, fun vs hv => by cases hv; rfl⟩, rfl, rfl, na, rfl, bare2, raises_own T.exC T.tyC, q2⟩
def sRaise (c : Str) (n : Nat) (F : List D → Option (List Str × List D)) (fa : Env → R (List D)) : Env → RS := fun E => (fa E).bindS fun ds E1 => if (ds.length == n && decide (n ≤ 1000)) = true then (match F ds with | some (ns, es) => .exc ⟨c, ns, es⟩ E1 | none => .stuck) else .stuck
/-- all that is not tracked -/
def lockF (G H : Hp) : Hp := fun b => match G b with | none => H b | some _ => none
theorem lockF_none {G H : Hp} {b : Addr} (h : G b = none) : lockF G H b = H b := by unfold lockF; rw [h]
theorem js_raise {X : Cx} {W : WX} {k : Nat} {x : Str} {e : Expr} {es : List Expr} {p pos pos2 : Pos} {F : List D → Option (List Str × List D)} {fa : Env → R (List D)} (hc : X.calm = true) (tk : L2N.Takes X W) (hX : ExcJ X.prog X.w X.K X.mg X.base k x (e :: es).length F) (hr : Room (k + 1) X.A) (ha : JA X (pw W) (e :: es) fa)
    (hg : Gl X x := by rfl) (hdb : (x == ("__debug__" : Str)) = false := by decide) (he : starEach (e :: es) X.env = (false, eval e X.env) :: starEach es X.env := by rfl) (hpl : (backTo pos (starEach es X.env)).any (·.1) = false := by rfl) :
    JS X W (.Raise (some (.Call (.Name x p) (e :: es) [] pos)) none pos2) (sRaise x (e :: es).length F fa) := by
  obtain ⟨fI, fd, ps, hm, T, iC, tI, hps, hb, F1⟩ := hX
  obtain ⟨ta, pa, sa⟩ := ha
  refine ⟨_, L2N.ps_raise hc tk (pmkN T iC tI F1 hr hb (L2N.passes_call (E := fun _ _ _ => False) tk fun _ _ _ _ h => h.elim) hg hm pa hdb he hpl), fun Φ G H σ E D S hp => ?_⟩
  refine sa.goS S hp fun ds E1 G1 H1 vs _ e1 S1 r1 hp => ?_
  by_cases c : (ds.length == (e :: es).length && decide ((e :: es).length ≤ 1000)) = true
  · rw [if_pos c] at hp
    rw [Bool.and_eq_true] at c
    have c1 : ds.length = (e :: es).length := by simpa using c.1
    have c2 : (e :: es).length ≤ 1000 := of_decide_eq_true c.2
    have hlv : vs.length = (e :: es).length := r1.length.trans c1
    cases hF : F ds with
    | none => rw [hF] at hp; exact hp.elim
    | some r =>
      obtain ⟨ns, fs⟩ := r
      rw [hF] at hp
      have hp : PostX X.K W Φ G1 ⟨x, ns, fs⟩ E1 := hp
      refine ⟨by rw [hlv]; exact c2, fun a ha => ?_⟩
      have ga := S1.gh.back ha
      rw [List.append_nil]
      have fla : ∀ b o, lockF G1 H1 b = some o → H1 b = some o ∧ G1 b = none := fun b o h => by
        unfold lockF at h
        cases hg1 : G1 b with
        | none => rw [hg1] at h; exact ⟨h, rfl⟩
        | some u => rw [hg1] at h; cases h
      refine ⟨by rw [List.length_cons, hlv], a, vs, ⟨lockF G1 H1, Φ.io⟩, G1, ds, rfl, upd_same, ga, (lockF_none ga).trans ha, ?_, r1, fun b h1 h2 h3 h4 => ?_, ?_⟩
      · refine ⟨rfl, fun i s h => by simp at h, S1.gh.trans (Ex.new ha), fun b o h => Ex.new ha b o (fla b o h).1, fun b h => ?_, fun i b l p h => by simp at h, fun i j b b' l l' p h => by simp at h⟩
        cases h5 : lockF G1 H1 b with
        | none => exact absurd h5 h
        | some o => exact (fla b o h5).2
      · have h3' : lockF G1 H1 b = none := h3
        rw [lockF_none h2] at h3'
        rw [upd_ne h1] at h4
        exact h4 h3'
      · show PostN X.K _ G1 _ a _ (F ds) _
        rw [hF]
        intro G' H' d us x1 S2 h1 h2 h3 h4 h5 h6 h7 h8 h9
        have hd1 : H1 d = none := by rw [upd_ne h4] at h3; exact h3
        have kp : ∀ b o, H1 b = some o → G1 b = none → H' b = some o ∧ b ≠ a ∧ b ≠ d ∧ G' b = none := fun b o hb hgb => by
          have hl : lockF G1 H1 b = some o := (lockF_none hgb).trans hb
          exact ⟨S2.fh b o hl, (fun z => by rw [z, ha] at hb; cases hb), (fun z => by rw [z, hd1] at hb; cases hb), S2.fg b (by show lockF G1 H1 b ≠ none; rw [hl]; simp)⟩
        have kk : ∀ b o, H' b = some o → b ≠ a → b ≠ d → L2.upd (del H' a) d (.xd (ns.zip us)) b = some o := fun b o hb n1 n2 => by rw [upd_ne n2, del_ne n1]; exact hb
        refine ⟨rfl, d, ns.zip us, h1, h2, hd1, ?_⟩
        have eg : Ex G1 (L2.upd G' d (.xd (ns.zip us))) := x1.trans (Ex.new h7)
        refine hp (L2.upd G' d (.xd (ns.zip us))) _ σ (.ref (He.ga X.K x)) (some d) eg ⟨S1.len, fun i s hs => ?_, fun b o hb => ?_, fun b o hb => ?_, fun b hb => ?_, fun i s b q q1 qb q2 => ?_, S1.di'⟩ ⟨rfl, d, us, rfl, upd_same, h6, h5.mono (Ex.new h7)⟩
        · obtain ⟨y, y1, y2⟩ := S1.sl i s hs
          refine ⟨y, y1, y2.mono eg fun q b qb e3 => ?_⟩
          subst e3
          obtain ⟨o, z3⟩ := S1.has hs qb y1
          obtain ⟨k1, k2, k3, _⟩ := kp q _ z3 (S1.ow' i s b q hs qb y1).1
          rw [z3]; exact kk q _ k1 k2 k3
        · by_cases hbd : b = d
          · subst hbd; rw [upd_same] at hb ⊢; exact hb
          · rw [upd_ne hbd] at hb
            exact kk b o (S2.gh b o hb) (fun z => by rw [z, h9] at hb; cases hb) hbd
        · have gb := S1.fg b (by rw [hb]; simp)
          obtain ⟨k1, k2, k3, _⟩ := kp b o (S1.fh b o hb) gb
          exact kk b o k1 k2 k3
        · cases h0 : Φ.F b with
          | none => exact absurd h0 hb
          | some o =>
            obtain ⟨k1, k2, k3, k4⟩ := kp b o (S1.fh b o h0) (S1.fg b hb)
            rw [upd_ne k3]; exact k4
        · obtain ⟨w1, w2, w3⟩ := S1.ow' i s b q q1 qb q2
          obtain ⟨o, z3⟩ := S1.has q1 qb q2
          obtain ⟨k1, k2, k3, k4⟩ := kp q _ z3 w1
          exact ⟨by rw [upd_ne k3]; exact k4, w2, w3⟩
  · rw [if_neg c] at hp; exact hp.elim
end J

namespace J
open PySem PySem.Spec PyProof.Rows L2

/-! ### try with clauses, named or not -/
abbrev TSx := Addr → Value → Option Addr → TS
/-- the ends behind a named clause -/
def offE (i : Nat) (D : Ends) : Ends := { nx := fun σ H => D.nx (σ.set i none) H, rt := D.rt, bk := fun σ H => D.bk (σ.set i none) H, ct := fun σ H => D.ct (σ.set i none) H }
def wAll (K : PySem.W.Frag) (Wout : WX) (D : Ends) : List (Value × Option Nat × TSx) → WX
  | [] => Wout
  | (c, none, ts) :: r => fun cls d σ H => ∃ b, PySem.W.exmOne K cls c = some b ∧ (b = true → ∀ a, H a = none → ts a cls d D σ H) ∧ (b = false → wAll K Wout D r cls d σ H)
  | (c, some i, ts) :: r => fun cls d σ H => ∃ b, PySem.W.exmOne K cls c = some b ∧ (b = true → ∀ a, H a = none → ts a cls d (offE i D) (σ.set i (some (.ref a))) H) ∧ (b = false → wAll K Wout D r cls d σ H)
def SuOk (X : Cx) (body : List Stmt) (ts : TSx) : Prop := ∀ (a : Addr) (oe : Obj) (cls : Value) (d : Option Addr) (pn : List (Addr × Obj)), L2N.Zn cls d oe → (∃ vs, oe.data = .fields vs) → PSs (X.suite a ((a, oe) :: pn)) body (ts a cls d)
inductive HdsA (X : Cx) : List ExceptHandler → List (Value × Option Nat × TSx) → Prop
  | nil : HdsA X [] []
  | bare {x : Str} {c : Value} {ts : TSx} {b₀ : Stmt} {su : List Stmt} {q1 q2 : Pos} {hds : List ExceptHandler} {l : List (Value × Option Nat × TSx)} (hc : Names X x c) (hsu : SuOk X (b₀ :: su) ts) (r : HdsA X hds l) : HdsA X (.ExceptHandler (some (.Name x q1)) none (b₀ :: su) q2 :: hds) ((c, none, ts) :: l)
  | named {x n : Str} {i : Nat} {c : Value} {ts : TSx} {b₀ : Stmt} {su : List Stmt} {q1 q2 : Pos} {hds : List ExceptHandler} {l : List (Value × Option Nat × TSx)} (hi : X.N[i]? = some n) (hn : X.env.kindOf n = some .local) (hc : Names X x c) (hsu : SuOk X (b₀ :: su) ts) (r : HdsA X hds l) :
      HdsA X (.ExceptHandler (some (.Name x q1)) (some n) (b₀ :: su) q2 :: hds) ((c, some i, ts) :: l)
section
variable {X : Cx} {body : List Stmt} {hd : ExceptHandler} {hds : List ExceptHandler} {l : List (Value × Option Nat × TSx)} {pos : Pos} {tb : WX → TS} {Wo : WX}
theorem ps_try_all (hs : X.stack = X.env :: X.outer) (hf : X.env.frame = some X.env.locals) (hN : X.N.Nodup) (tk : L2N.Takes X Wo)
    (hb : ∀ (W : WX) (pn : List (Addr × Obj)) (xe : Value → Shared → Prop), L2N.Takes (X.tr pn xe) W → PassesOwn (model X.prog X.w) X.A X.env xe → PSs (X.tr pn xe) body (tb W)) (hh : HdsA X (hd :: hds) l) :
    PS X (.Try body (hd :: hds) [] [] pos) (fun D σ H => tb (wAll X.K Wo D l) D σ H) := by
  refine ⟨fun pins s σ H D I wish => ?_⟩
  have ok := I.ok
  have fr : X.A.frames = some (X.env :: X.outer) := by rw [ok.frames, hs]
  refine wpAny_Try_except ?_
  have taken := hb (wAll X.K Wo D l) (X.pn ++ pins) (fun e s₁ => wpAny (model X.prog X.w) X.A (noteFrame e X.env) (fun _ s₂ => wpAny (model X.prog X.w) X.A (setFlight e none) (fun _ s₃ => wpAny (model X.prog X.w) X.A (handleBy e X.env (hd :: hds)) (SP X pins D) X.xe s₃) X.xe s₂) X.xe s₁)
  refine wpAny_mono ((taken (fun u s' caught => ?_) PassesOwn.looking).run [] s σ H D (I.toTry _) wish) (fun f s1 went => ?_) fun _ _ z => z
  · obtain ⟨a, B, sI, pins', σ1, H1, cls, d, rfl, J0, nb, up, sky, na, os, ag, w⟩ := caught
    have J1 : Inv X pins σ1 H1 sI := J0.ofTry ok
    have sky1 : Sky B (X.env :: X.outer) a (L2N.Zn cls d) X.env.locals s'.heap := by rw [← hs]; exact sky
    show wpAny (model X.prog X.w) X.A (noteFrame (.ref a) X.env) _ _ _
    refine L2N.Sky.land L2N.Zn.steady fr hf sky1 fun g3 fly up3 => ?_
    have J3 : Inv X pins σ1 H1 { s' with heap := g3 } := J1.landed nb fly.1 (up.trans up3) os ag
    obtain ⟨oe, vs, e3, z3, d3⟩ := fly.there
    have ground : a ∉ frs (X.env :: X.outer) := fun hm => by
      obtain ⟨_, o', e', hnf⟩ := fly.2.2.1.mem hm
      rw [e3] at e'; cases e'
      exact hnf _ d3
    have offL : a ≠ X.env.locals := fun z => ground (List.mem_filterMap.mpr ⟨X.env, List.mem_cons_self, by rw [hf, z]⟩)
    have offF : a ∉ X.fs := fun hm => by
      obtain ⟨e, he, q⟩ := List.mem_filterMap.mp hm
      exact ground (List.mem_filterMap.mpr ⟨e, List.mem_cons_of_mem _ he, q⟩)
    have S3 := J3.suite e3 d3 na offL offF
    have run : ∀ {hs' : List ExceptHandler} {l' : List (Value × Option Nat × TSx)}, HdsA X hs' l' → wAll X.K Wo D l' cls d σ1 H1 → wpAny (model X.prog X.w) X.A (handleBy (.ref a) X.env hs') (SP X pins D) X.xe { s' with heap := g3 } := by
      intro hs' l' hk
      induction hk with
      | nil =>
        intro w
        refine wpAny_handleBy_nil ?_
        obtain ⟨m1, m2, m3, oe', vs', T, oT, ts', he', hz', hd', h1', hr'⟩ := id fly
        unfold PySem.passOn
        refine wpAny_bind (wpAny_field he' hd' h1' ?_)
        rw [if_neg (show ¬ ((Value.ref T == Value.none) = true) from by simp)]
        have on : wpAny (model X.prog X.w) X.A (setFlight (.ref a) X.env.frame) (fun _ s4 => wpAny (model X.prog X.w) X.A (throw (.ref a) : Sem Flow) (SP X pins D) X.xe s4) X.xe { s' with heap := g3 } := by
          rw [hf]
          exact HandSPX.setFlight_upZ fly fun g4 held up4 => wpAny_throw (tk _ _ ⟨a, B, sI, pins, σ1, H1, cls, d, rfl, J1, nb, (up.trans up3).trans up4, .inr (.inr (by rw [hs]; exact held)), na, os, ag, w⟩)
        first
          | exact wpAny_bind (wpAny_pure (wpAny_bind on))
          | exact wpAny_bind on
      | @bare x c ts b₀ su q1 q2 hds2 l2 hc hsu r ih =>
        intro w
        obtain ⟨b, hb1, yes, no⟩ := w
        refine wpAny_handleBy_cons (codeAny_handlers_test ?_) (by intro q; cases q)
        have LT : PySem.W.Looks (model X.prog X.w) g3 (typeOf (.ref a)) cls := fun A Q E s k q => wpAny_typeOf_ref (k _ _ e3) (by rw [z3.1]; exact q)
        have LM := PySem.W.exm_one (M := model X.prog X.w) (J3.kIn) LT hb1
        have ask : ∀ {Q : Value → Shared → Prop} {E : Value → Shared → Prop}, Q c { s' with heap := g3 } → wpAny (model X.prog X.w) (X.A.mark (some (.ref a))) (eval (.Name x q1) X.env) Q E { s' with heap := g3 } := fun {Q E} q => by
          obtain ⟨hg, hdb, hm | ⟨hm, hv, hnn⟩⟩ := hc
          · exact ld_glob (X := X.suite a ((a, oe) :: (X.pn ++ pins))) S3 hg hm q hdb
          · exact ld_blt (X := X.suite a ((a, oe) :: (X.pn ++ pins))) S3 hg hm hv q hnn hdb
        refine ask (LM.here ?_)
        cases b with
        | false =>
          show wpAny _ X.A (handleBy (.ref a) X.env hds2) _ _ _
          exact ih (no rfl)
        | true =>
          refine codeAny_handlers_suite ?_
          refine HandSPX.lands_againZ fly fun g4 fly4 up4 => ?_
          have J4 : Inv X pins σ1 H1 { s' with heap := g4 } := J1.landed nb fly4.1 ((up.trans up3).trans up4) os ag
          obtain ⟨oe4, vs4, e4, z4, d4⟩ := fly4.there
          have S4 := J4.suite e4 d4 na offL offF
          refine wpAny_mono ((hsu a oe4 cls d (X.pn ++ pins) z4 ⟨_, d4⟩).run [] _ _ H1 _ S4 (yes rfl a na)) (fun f s6 hsp => ?_) (fun _ _ z => False.elim z)
          cases f with
          | next => obtain ⟨σ6, H6, S6, q6⟩ := hsp; exact ⟨_, _, S6.unsuite ok, q6⟩
          | brk => obtain ⟨σ6, H6, S6, q6⟩ := hsp; exact ⟨_, _, S6.unsuite ok, q6⟩
          | cont => obtain ⟨σ6, H6, S6, q6⟩ := hsp; exact ⟨_, _, S6.unsuite ok, q6⟩
          | ret u => obtain ⟨v6, σ6, H6, S6, r6, q6⟩ := hsp; exact ⟨_, _, _, S6.unsuite ok, r6, q6⟩
      | @named x n i c ts b₀ su q1 q2 hds2 l2 hi hn hc hsu r ih =>
        intro w
        obtain ⟨b, hb1, yes, no⟩ := w
        refine wpAny_handleBy_cons (codeAny_handlers_test ?_) (by intro q; cases q)
        have LT : PySem.W.Looks (model X.prog X.w) g3 (typeOf (.ref a)) cls := fun A Q E s k q => wpAny_typeOf_ref (k _ _ e3) (by rw [z3.1]; exact q)
        have LM := PySem.W.exm_one (M := model X.prog X.w) (J3.kIn) LT hb1
        have ask : ∀ {Q : Value → Shared → Prop} {E : Value → Shared → Prop}, Q c { s' with heap := g3 } → wpAny (model X.prog X.w) (X.A.mark (some (.ref a))) (eval (.Name x q1) X.env) Q E { s' with heap := g3 } := fun {Q E} q => by
          obtain ⟨hg, hdb, hm | ⟨hm, hv, hnn⟩⟩ := hc
          · exact ld_glob (X := X.suite a ((a, oe) :: (X.pn ++ pins))) S3 hg hm q hdb
          · exact ld_blt (X := X.suite a ((a, oe) :: (X.pn ++ pins))) S3 hg hm hv q hnn hdb
        refine ask (LM.here ?_)
        cases b with
        | false =>
          show wpAny _ X.A (handleBy (.ref a) X.env hds2) _ _ _
          exact ih (no rfl)
        | true =>
          refine codeAny_handlers_suite_as ?_
          refine HandSPX.lands_againZ fly fun g4 fly4 up4 => ?_
          have J4 : Inv X pins σ1 H1 { s' with heap := g4 } := J1.landed nb fly4.1 ((up.trans up3).trans up4) os ag
          obtain ⟨oe4, vs4, e4, z4, d4⟩ := fly4.there
          have S4 := J4.suite e4 d4 na offL offF
          refine store_ok (X := X.suite a ((a, oe4) :: (X.pn ++ pins))) (v := .ref a) S4 hN hi (.inl hn) rfl (fun s5 S5 => ?_) (.inr hn)
          refine wpAny_mono ((hsu a oe4 cls d (X.pn ++ pins) z4 ⟨_, d4⟩).run [] s5 _ H1 _ S5 (yes rfl a na)) (fun f s6 hsp => ?_) (fun _ _ z => False.elim z)
          have off : ∀ {σ6 : St} {H6 : Hp} {Q : Shared → Prop}, Inv (X.suite a ((a, oe4) :: (X.pn ++ pins))) [] σ6 H6 s6 → (∀ s7, Inv X pins (σ6.set i none) H6 s7 → Q s7) → wpAny (model X.prog X.w) X.A (do bindName X.env n .none; unbindBehindTheSuite X.env n q2) (fun _ s7 => Q s7) X.xe s6 :=
            fun {σ6 H6 Q} S6 hq => gone_ok (S6.unsuite ok) hN hi hn hq
          cases f with
          | next => obtain ⟨σ6, H6, S6, q6⟩ := hsp; exact off S6 fun s7 J7 => ⟨_, _, J7, q6⟩
          | brk => obtain ⟨σ6, H6, S6, q6⟩ := hsp; exact off S6 fun s7 J7 => ⟨_, _, J7, q6⟩
          | cont => obtain ⟨σ6, H6, S6, q6⟩ := hsp; exact off S6 fun s7 J7 => ⟨_, _, J7, q6⟩
          | ret u => obtain ⟨v6, σ6, H6, S6, r6, q6⟩ := hsp; exact off S6 fun s7 J7 => ⟨_, _, _, J7, r6, q6⟩
    exact run hh w
  · cases f with
    | next => obtain ⟨σ', H', J', q⟩ := went; exact wpAny_execs_nil ⟨σ', H', J'.ofTry ok, q⟩
    | brk => obtain ⟨σ', H', J', q⟩ := went; exact ⟨σ', H', J'.ofTry ok, q⟩
    | cont => obtain ⟨σ', H', J', q⟩ := went; exact ⟨σ', H', J'.ofTry ok, q⟩
    | ret u => obtain ⟨v, σ', H', J', r, q⟩ := went; exact ⟨v, σ', H', J'.ofTry ok, r, q⟩
end
end J

namespace J
open PySem PySem.Spec PyProof.Rows L2

def canS (K : PySem.W.Frag) (W : WX) (f : Env → RS) : TS := fun D σ H => ∃ Φ G E, Sat K Φ G H σ E ∧ PostS K W Φ G σ (f E) D
theorem JSs.can {X : Cx} {W : WX} {s : List Stmt} {f : Env → RS} (h : JSs X W s f) : PSs X s (canS X.K W f) := by
  obtain ⟨t, h1, h2⟩ := h
  exact ⟨fun pins s σ H D I ⟨Φ, G, E, S, hp⟩ => h1.run pins s σ H D I (h2 Φ G H σ E D S hp)⟩

/-! ### what is known in an except suite -/
def WS (K : PySem.W.Frag) (oi : Option Nat) (a : Addr) (cls : Value) (d : Option Addr) (x : Exn) : WJ := ⟨fun _ _ _ _ => False, fun G σ => (∀ i, oi = some i → σ[i]? = some (some (.ref a))) ∧ XRp K G cls d x, fun G G' σ e h => ⟨h.1, h.2.mono e⟩⟩
def PostU (K : PySem.W.Frag) (Φ : Fr) (G : Hp) (σ : St) (r : RS) (D : Ends) : Prop := match r with
  | .nx E' => ∀ G' H', Ex G G' → Sat K Φ G' H' σ E' → D.nx σ H'
  | .rt (.v d) E' => ∀ G' H' v, Ex G G' → Sat K Φ G' H' σ E' → Rp K G' v d → D.rt v H'
  | .rt (.l l) E' => ∀ G' H' v, Ex G G' → Sat K Φ G' H' σ E' → relL K Φ σ G' H' E' l v → D.rt v H'
  | .bk E' => ∀ G' H', Ex G G' → Sat K Φ G' H' σ E' → D.bk σ H'
  | .ct E' => ∀ G' H', Ex G G' → Sat K Φ G' H' σ E' → D.ct σ H'
  | .exc _ _ => False
  | .stuck => False
theorem PostU.mono {K : PySem.W.Frag} {Φ : Fr} {G G0 : Hp} {σ : St} {r : RS} {D : Ends} (e : Ex G G0) (h : PostU K Φ G σ r D) : PostU K Φ G0 σ r D := by
  cases r with
  | nx E' => exact fun G' H' e' S => h G' H' (e.trans e') S
  | rt rv E' =>
    cases rv with
    | v d => exact fun G' H' v e' S r => h G' H' v (e.trans e') S r
    | l d => exact fun G' H' v e' S r => h G' H' v (e.trans e') S r
  | bk E' => exact fun G' H' e' S => h G' H' (e.trans e') S
  | ct E' => exact fun G' H' e' S => h G' H' (e.trans e') S
  | exc x E' => exact h
  | stuck => exact h
def SndU (K : PySem.W.Frag) (W : WJ) (t : TS) (f : Env → RS) : Prop := (∀ c d σ H, ¬ W.w c d σ H) → ∀ Φ G H σ E D, SatC K W Φ G H σ E → PostU K Φ G σ (f E) D → t D σ H
def JU (X : Cx) (W : WJ) (s : List Stmt) (f : Env → RS) : Prop := ∃ t, PSs X s t ∧ SndU X.K W t f
def JU1 (X : Cx) (W : WJ) (s : Stmt) (f : Env → RS) : Prop := ∃ t, PS X s t ∧ SndU X.K W t f
def dropX (r : RS) : RS := match r with | .exc _ _ => .stuck | r => r
section
variable {X : Cx} {W : WJ} {e c : Expr} {pos : Pos} {fa : Env → R D} {f g : Env → RS} {st : Stmt} {sts sa sb : List Stmt}
theorem Snd.goU {α β : Type} {K : PySem.W.Frag} {rel : Rel α β} {t : St → Hp → (β → Hp → Prop) → Prop} {f : Env → R α} (h : Snd K W rel t f) {Φ : Fr} {G H : Hp} {σ : St} {E : Env} {k : α → Env → RS} {D : Ends} {Q1 : β → Hp → Prop}
    (S : SatC K W Φ G H σ E) (hp : PostU K Φ G σ ((f E).bindS k) D) (hk : ∀ a E' G' H' b, f E = .ok a E' → Ex G G' → SatC K W Φ G' H' σ E' → rel Φ σ G' H' E' a b → PostU K Φ G' σ (k a E') D → Q1 b H') : t σ H Q1 := by
  refine h Φ G H σ E Q1 S ?_
  cases e : f E with
  | ok a E' =>
    rw [e] at hp
    exact fun G' H' b e' S' q => hk a E' G' H' b e e' ⟨S', W.mono _ _ _ e' S.c⟩ q (PostU.mono e' hp)
  | exc x E' => rw [e] at hp; exact hp.elim
  | stuck => rw [e] at hp; exact hp
theorem ju_nil : JU X W [] sNil := ⟨_, pss_nil, fun _ Φ G H σ E D S hp => hp G H (Ex.refl G) S⟩
theorem ju_cons (h : JU1 X W st f) (h' : JU X W sts g) : JU X W (st :: sts) (sSeq f g) := by
  obtain ⟨t, h1, h2⟩ := h
  obtain ⟨u, h3, h4⟩ := h'
  refine ⟨_, pss_cons h1 h3, fun hw Φ G H σ E D S hp => ?_⟩
  refine h2 hw Φ G H σ E { D with nx := u D } S ?_
  have hp' : PostU X.K Φ G σ ((f E).seq g) D := hp
  cases e : f E with
  | nx E' => rw [e] at hp'; exact fun G' H' e' S' => h4 hw Φ G' H' σ E' D ⟨S', W.mono _ _ _ e' S.c⟩ (PostU.mono e' hp')
  | rt rv E' => rw [e] at hp'; cases rv with | v d => exact hp' | l d => exact hp'
  | bk E' => rw [e] at hp'; exact hp'
  | ct E' => rw [e] at hp'; exact hp'
  | exc x E' => rw [e] at hp'; exact hp'
  | stuck => rw [e] at hp'; exact hp'
theorem ju_ret (h : JE X W e fa) : JU1 X W (.Return (some e) pos) (sRet fa) := by
  obtain ⟨te, h1, h2⟩ := h
  refine ⟨_, ps_ret h1, fun hw Φ G H σ E D S hp => ?_⟩
  exact h2.goU S hp fun a E' G' H' v _ e' S' r hp => hp G' H' v (Ex.refl G') S' r
theorem ju_retN : JU1 X W (.Return none pos) sRetN := ⟨_, ps_retN, fun hw Φ G H σ E D S hp => hp G H .non (Ex.refl G) S .non⟩
theorem ju_pass : JU1 X W (.Pass pos) sNil := ⟨_, ps_pass, fun hw Φ G H σ E D S hp => hp G H (Ex.refl G) S⟩
theorem ju_break : JU1 X W (.Break pos) (fun E => .bk E) := ⟨_, ps_break, fun hw Φ G H σ E D S hp => hp G H (Ex.refl G) S⟩
theorem ju_continue : JU1 X W (.Continue pos) (fun E => .ct E) := ⟨_, ps_continue, fun hw Φ G H σ E D S hp => hp G H (Ex.refl G) S⟩
theorem ju_if {t : Env → R Bool} (ht : JT X W c t) (ha : JU X W sa f) (hb : JU X W sb g) : JU1 X W (.If c sa sb pos) (sIf t f g) := by
  obtain ⟨tt, h1, h2⟩ := ht
  obtain ⟨ta, h3, h4⟩ := ha
  obtain ⟨tb, h5, h6⟩ := hb
  refine ⟨_, ps_if h1 h3 h5, fun hw Φ G H σ E D S hp => ?_⟩
  refine h2.goU S hp fun k E' G' H' v _ e' S' r hp => ?_
  subst r
  cases k with
  | true => exact iteT (h4 hw Φ G' H' σ E' D S' hp)
  | false => exact iteF (h6 hw Φ G' H' σ E' D S' hp)
end

/-! ### the statement -/
structure Cl where
  m : Exn → Option Bool
  i : Option Nat
  s : Exn → Env → RS
def inE : Option Nat → Env → Option Env
  | none, E => some E
  | some i, E => if i < E.length then some (E.set i .no) else none
def outE : Option Nat → RS → RS
  | none, r => r
  | some i, .nx E => .nx (E.set i .no)
  | some i, .bk E => .bk (E.set i .no)
  | some i, .ct E => .ct (E.set i .no)
  | some _, r => r
def clD : List Cl → Exn → Env → RS
  | [], x, E => .exc x E
  | h :: r, x, E => match h.m x with
    | none => .stuck
    | some false => clD r x E
    | some true => (match inE h.i E with
      | none => .stuck
      | some E' => outE h.i (dropX (h.s x E')))
def sTry (fb : Env → RS) (hs : List Cl) : Env → RS := fun E => match fb E with
  | .exc x E' => clD hs x E'
  | r => r
def tsU (K : PySem.W.Frag) (h : Cl) : TSx := fun a cls d D σ H => ∃ x Φ G E, SatC K (WS K h.i a cls d x) Φ G H σ E ∧ PostU K Φ G σ (h.s x E) D
/-- a suite, whatever exception it holds -/
def JSu (X : Cx) (h : Cl) (body : List Stmt) : Prop := ∀ (a : Addr) (oe : Obj) (cls : Value) (d : Option Addr) (pn : List (Addr × Obj)) (x : Exn), L2N.Zn cls d oe → (∃ vs, oe.data = .fields vs) → JU (X.suite a ((a, oe) :: pn)) (WS X.K h.i a cls d x) body (h.s x)
theorem JSu.ok {X : Cx} {h : Cl} {body : List Stmt} (hj : JSu X h body) : SuOk X body (tsU X.K h) := fun a oe cls d pn hz hd => by
  refine ⟨fun pins s σ H D I w => ?_⟩
  obtain ⟨x, Φ, G, E, S, hp⟩ := w
  obtain ⟨t, h1, h2⟩ := hj a oe cls d pn x hz hd
  exact h1.run pins s σ H D I (h2 (fun _ _ _ _ h => h) Φ G H σ E D S hp)
/-- the clauses, as the text has them -/
inductive JHs (X : Cx) : List ExceptHandler → List Cl → Prop
  | nil : JHs X [] []
  | bare {x : Str} {c : Value} {h : Cl} {b₀ : Stmt} {su : List Stmt} {q1 q2 : Pos} {hds : List ExceptHandler} {l : List Cl} (hc : Names X x c) (hm : ∀ y b, h.m y = some b → PySem.W.exmOne X.K (.ref (He.ga X.K y.c)) c = some b) (hi : h.i = none) (hsu : JSu X h (b₀ :: su)) (r : JHs X hds l) : JHs X (.ExceptHandler (some (.Name x q1)) none (b₀ :: su) q2 :: hds) (h :: l)
  | named {x n : Str} {i : Nat} {c : Value} {h : Cl} {b₀ : Stmt} {su : List Stmt} {q1 q2 : Pos} {hds : List ExceptHandler} {l : List Cl} (hx : X.N[i]? = some n) (hn : X.env.kindOf n = some .local) (hc : Names X x c) (hm : ∀ y b, h.m y = some b → PySem.W.exmOne X.K (.ref (He.ga X.K y.c)) c = some b) (hi : h.i = some i) (hsu : JSu X h (b₀ :: su)) (r : JHs X hds l) :
      JHs X (.ExceptHandler (some (.Name x q1)) (some n) (b₀ :: su) q2 :: hds) (h :: l)
theorem JHs.ok {X : Cx} {hds : List ExceptHandler} {l : List Cl} (h : JHs X hds l) : ∃ L, HdsA X hds L ∧ ∀ (Wo : WX) (D : Ends) Φ G σ x E, PostS X.K Wo Φ G σ (clD l x E) D → PostX X.K (wAll X.K Wo D L) Φ G x E := by
  induction h with
  | nil => exact ⟨[], .nil, fun Wo D Φ G σ x E hp => hp⟩
  | @bare x c h b₀ su q1 q2 hds l hc hm hi hsu r ih =>
    obtain ⟨L, h1, h2⟩ := ih
    refine ⟨(c, none, tsU X.K h) :: L, .bare hc hsu.ok h1, fun Wo D Φ G σ y E hp G' H' σ' cl d e S rx => ?_⟩
    simp only [clD] at hp
    cases hmx : h.m y with
    | none => rw [hmx] at hp; exact hp.elim
    | some b =>
      have hcl := rx.cls
      refine ⟨b, by rw [hcl]; exact hm y b hmx, fun hb a ha => ?_, fun hb => ?_⟩
      · subst hb
        rw [hmx, hi] at hp
        have hp : PostS X.K Wo Φ G σ (dropX (h.s y E)) D := hp
        refine ⟨y, Φ, G', E, ⟨S, fun i z => (by rw [hi] at z; cases z), rx⟩, ?_⟩
        cases hs : h.s y E with
        | nx E' => rw [hs] at hp; exact fun G2 H2 e2 S2 => hp G2 H2 σ' (e.trans e2) S2
        | rt rv E' =>
          rw [hs] at hp
          cases rv with
          | v d => exact fun G2 H2 v e2 S2 r => hp G2 H2 σ' v (e.trans e2) S2 r
          | l d => exact fun G2 H2 v e2 S2 r => hp G2 H2 σ' v (e.trans e2) S2 r
        | bk E' => rw [hs] at hp; exact fun G2 H2 e2 S2 => hp G2 H2 σ' (e.trans e2) S2
        | ct E' => rw [hs] at hp; exact fun G2 H2 e2 S2 => hp G2 H2 σ' (e.trans e2) S2
        | exc x E' => rw [hs] at hp; exact hp
        | stuck => rw [hs] at hp; exact hp
      · subst hb
        rw [hmx] at hp
        exact h2 Wo D Φ G σ y E hp G' H' σ' cl d e S rx
  | @named x n i c h b₀ su q1 q2 hds l hx hn hc hm hi hsu r ih =>
    obtain ⟨L, h1, h2⟩ := ih
    refine ⟨(c, some i, tsU X.K h) :: L, .named hx hn hc hsu.ok h1, fun Wo D Φ G σ y E hp G' H' σ' cl d e S rx => ?_⟩
    simp only [clD] at hp
    cases hmx : h.m y with
    | none => rw [hmx] at hp; exact hp.elim
    | some b =>
      have hcl := rx.cls
      refine ⟨b, by rw [hcl]; exact hm y b hmx, fun hb a ha => ?_, fun hb => ?_⟩
      · subst hb
        rw [hmx, hi] at hp
        simp only [inE] at hp
        by_cases hlt : i < E.length
        · rw [if_pos hlt] at hp
          have hp : PostS X.K Wo Φ G σ (outE (some i) (dropX (h.s y (E.set i .no)))) D := hp
          have S3 : Sat X.K Φ G' H' (σ'.set i (some (.ref a))) (E.set i .no) := S.setN
          refine ⟨y, Φ, G', E.set i .no, ⟨S3, fun j z => ?_, rx⟩, ?_⟩
          · rw [hi] at z; cases z
            exact List.getElem?_set_self (by rw [S.len]; exact hlt)
          · cases hs : h.s y (E.set i .no) with
            | nx E' => rw [hs] at hp; exact fun G2 H2 e2 S2 => hp G2 H2 _ (e.trans e2) S2.setN
            | rt rv E' =>
              rw [hs] at hp
              cases rv with
              | v d => exact fun G2 H2 v e2 S2 r => hp G2 H2 _ v (e.trans e2) S2 r
              | l d => exact fun G2 H2 v e2 S2 r => hp G2 H2 _ v (e.trans e2) S2 r
            | bk E' => rw [hs] at hp; exact fun G2 H2 e2 S2 => hp G2 H2 _ (e.trans e2) S2.setN
            | ct E' => rw [hs] at hp; exact fun G2 H2 e2 S2 => hp G2 H2 _ (e.trans e2) S2.setN
            | exc x E' => rw [hs] at hp; exact hp
            | stuck => rw [hs] at hp; exact hp
        · rw [if_neg hlt] at hp; exact hp.elim
      · subst hb
        rw [hmx] at hp
        exact h2 Wo D Φ G σ y E hp G' H' σ' cl d e S rx
theorem js_try {X : Cx} {W : WX} {body : List Stmt} {hd : ExceptHandler} {hds : List ExceptHandler} {l : List Cl} {pos : Pos} {fb : Env → RS} (hs : X.stack = X.env :: X.outer) (hf : X.env.frame = some X.env.locals) (hN : X.N.Nodup) (tk : L2N.Takes X W)
    (hb : ∀ (W : WX) (pn : List (Addr × Obj)) (xe : Value → Shared → Prop), L2N.Takes (X.tr pn xe) W → PassesOwn (model X.prog X.w) X.A X.env xe → JSs (X.tr pn xe) W body fb) (hh : JHs X (hd :: hds) l) : JS X W (.Try body (hd :: hds) [] [] pos) (sTry fb l) := by
  obtain ⟨L, h1, h2⟩ := hh.ok
  refine ⟨_, ps_try_all hs hf hN tk (tb := fun W => canS X.K W fb) (fun W pn xe tk hp => (hb W pn xe tk hp).can) h1, fun Φ G H σ E D S hp => ?_⟩
  refine ⟨Φ, G, E, S, ?_⟩
  unfold sTry at hp
  cases hfe : fb E with
  | nx E' => rw [hfe] at hp; exact hp
  | rt rv E' => rw [hfe] at hp; cases rv with | v d => exact hp | l d => exact hp
  | bk E' => rw [hfe] at hp; exact hp
  | ct E' => rw [hfe] at hp; exact hp
  | exc x E' => rw [hfe] at hp; exact h2 W D Φ G σ x E' hp
  | stuck => rw [hfe] at hp; exact hp

/-! ### in a suite: fields, isinstance -/
section
variable {X : Cx} {a : Addr} {oe : Obj} {cls : Value} {d : Option Addr} {pn : List (Addr × Obj)} {x : Exn} {pos : Pos}
def fXf (okc : Str → Bool) (x : Exn) (f : Str) : Env → R D := fun E => if okc x.c = true then (match (x.ns.zip x.ds).lookup f with
  | some v => .ok v E
  | none => .stuck) else .stuck
theorem RpA.look {K : PySem.W.Frag} {G : Hp} {f : Str} : ∀ {ns : List Str} {vs : List V} {ds : List D} {v : D}, RpA K G vs ds → (ns.zip ds).lookup f = some v → ∃ u, (ns.zip vs).lookup f = some u ∧ Rp K G u v
  | [], _, _, _, _, h => by simp at h
  | n :: ns, _, [], _, r, h => by simp at h
  | n :: ns, _, y :: ds, v, r, h => by
    cases r with
    | @cons w ws _ _ r1 r2 =>
      rw [List.zip_cons_cons, List.lookup_cons] at h ⊢
      split at h
      · cases h; exact ⟨w, rfl, r1⟩
      · exact r2.look h
theorem j_stuck {X : Cx} {W : WJ} {e : Expr} : JE X W e (fun _ => .stuck) := ⟨fun _ _ _ => False, ⟨fun pins s σ H Q I h => h.elim⟩, fun Φ G H σ E Q S hp => hp⟩
theorem j_xf (okc : Str → Bool) {n f : Str} {i : Nat} {p2 : Pos} (hz : L2N.Zn cls d oe) (hd : ∃ vs, oe.data = .fields vs) (hk : ∀ c, okc c = true → XfC X.K (He.ga X.K c) ∧ PySem.W.findIn X.K (.ref (He.ga X.K c)) f = some none) (hN : X.N[i]? = some n := by rfl) (hv : Vis X.env.scope n := by first | exact Or.inl rfl | exact Or.inr (Or.inl rfl) | exact Or.inr (Or.inr rfl)) (hdb : (n == ("__debug__" : Str)) = false := by decide)
    (hcd : (n == ("__classdict__" : Str)) = false := by decide) (hb : attributeBase (.Name n p2) f X.env (eval (.Name n p2) X.env) = eval (.Name n p2) X.env := by rfl) :
    JE (X.suite a ((a, oe) :: pn)) (WS X.K (some i) a cls d x) (.Attribute (.Name n p2) f pos) (fXf okc x f) := by
  by_cases c : okc x.c = true
  · obtain ⟨T, hno⟩ := hk x.c c
    refine ⟨_, pe_xf T hno hz.zc hd (pe_var (X := X.suite a ((a, oe) :: pn)) hN hv hdb hcd) hb, fun Φ G H σ E Q S hp => ?_⟩
    unfold fXf at hp
    rw [if_pos c] at hp
    obtain ⟨s1, s2⟩ := S.c
    obtain ⟨dd, vs, rfl, h1, h2, h3⟩ := s2.dd
    cases hl : (x.ns.zip x.ds).lookup f with
    | none => rw [hl] at hp; exact hp.elim
    | some v =>
      rw [hl] at hp
      obtain ⟨u, hu, ru⟩ := h3.look hl
      exact ⟨.ref a, s1 i rfl, rfl, s2.cls, dd, _, u, rfl, S.gh _ _ h1, hu, hp G H u (Ex.refl G) S ru⟩
  · have e : fXf okc x f = fun _ => R.stuck := by funext E; unfold fXf; rw [if_neg c]
    rw [e]; exact j_stuck
end
end J

namespace J
open PySem PySem.Spec PyProof.Rows L2

/-! ### isinstance of a caught exception that has a dict -/
section
open PySem.W PySem.Calls
variable {prog : Program} {w : World} {A : Around} {E : Value → Shared → Prop} {s : Shared} {K : Frag} {x C : Addr} {ox od : Obj}
theorem cls_of_exc {Q : Option Value → Shared → Prop} (T : ExcC K C) (X : K.In s.heap) (I : InstAt s.heap x ox C (some od)) (fin : Q (some (.ref C)) { s with toks := s.toks + 1 }) : wpAny (model prog w) A (getAttr? (.ref x) "__class__") Q E s := by
  have own : findObj K C (some od) "__class__" = some (.bind (.builtin "getset_descriptor.__get__") (.builtin "object.__class__")) := findObj_data (by obtain ⟨cd, hc, _⟩ := any_some T.hd; rw [hc]; rfl) T.ha T.hn T.ht
  obtain ⟨hp, g, d, t, os⟩ := s
  have M0 := I.type (M := model prog w)
  have M1 := looks_findIn (M := model prog w) X T.hg
  have M2 := looks_findIn (M := model prog w) X T.hk
  have M3 := looks_find (M := model prog w) X I own
  have below : Looks (model prog w) hp (isInstance (.ref x) (.type "BaseException")) true := M0.andThen (looks_subIn X T.hs)
  have b1 : (false && onTheHeap (Value.builtin "BaseException.__getattribute__")) = false := rfl
  have b2 : (onTheHeap (Value.ref C) && Value.builtin "BaseException.__getattribute__" == Value.builtin "object.__getattribute__") = false := by
    rw [show (Value.builtin "BaseException.__getattribute__" == Value.builtin "object.__getattribute__") = false by decide +kernel]; rfl
  unfold getAttr? getAttrBy? getAttrBy
  refine wpAny_bind (wpAny_mkText (wpAny_bind (wpAny_attempt (wpAny_holding (wpAny_bind (M0.at (wpAny_bind (M1.at ?_))))))))
  show wpAny _ _ (if (onTheHeap (Value.ref C) && Value.builtin "BaseException.__getattribute__" == Value.builtin "object.__getattribute__") = true then _ else _) _ _ _
  rw [b2, if_neg Bool.false_ne_true]
  unfold getAttrByItsOwn hookBefore
  refine wpAny_bind ?_
  rw [if_pos (show onTheHeap (Value.ref C) = true from rfl)]
  refine M2.at ?_
  refine wpAny_bind (wpAny_attempt (wpAny_holding ?_))
  unfold callGetattribute
  rw [b1, if_neg Bool.false_ne_true]
  unfold boundAndCalled
  rw [PySem.F.excAttr_ValueError.ga.bind (.ref x)]
  refine wpAny_bind (wpAny_pure ?_)
  show wpAny _ _ (call (.builtin "BaseException.__getattribute__") [.ref x, .str "__class__" t]) _ _ _
  refine wpAny_call (codeAny_call_builtin PySem.F.excAttr_ValueError.ga.plain PySem.F.entry_bexc_ga ?_)
  refine @check_slot (model prog w) _ _ ⟨hp, g, d, t + 1, os⟩ "BaseException.__getattribute__" "BaseException" "__getattribute__" (.ref x) [.str "__class__" t] [] _ (by decide +kernel) (by decide +kernel) below (PySem.F.args_bexc_ga (.ref x) (.str "__class__" t)) ?_
  unfold Builtin.«object.__getattribute__»
  refine wpAny_bind (wpAny_of_eq (a := ((Value.ref x : Value), [Value.str "__class__" t])) (by first | rfl | (simp only [slotArgs]; rfl)) ?_)
  refine wpAny_bind (wpAny_pure (wpAny_bind (M0.at (wpAny_bind (M3.at ?_)))))
  show wpAny _ _ (holding [Value.builtin "object.__class__"] (call (.builtin "getset_descriptor.__get__") [.builtin "object.__class__", .ref x, .ref C]) >>= ret) _ _ _
  refine wpAny_bind (wpAny_holding (wpAny_call (class_get (s := ⟨hp, g, d, t + 1, os⟩) (ox := ox) (od := some od) X I T.hm ?_)))
  refine wpAny_pure ?_
  show wpAny _ _ (handedOut (.ref C)) _ _ _
  rw [handedOut_of (v := .ref C) rfl]
  first
    | exact wpAny_pure (wpAny_pure fin)
    | exact wpAny_pure fin
    | exact wpAny_pure (wpAny_bind (wpAny_pure (wpAny_pure fin)))
theorem kitx_excD (T : ExcC K C) : KitX K (.ref x) (.ref C) (fun h => InstAt h x ox C (some od)) := by
  have N := handS_kitx_exc (x := x) (ox := ox) T.hg T.hk T.hs T.hd T.ha T.hn T.ht T.hm
  refine ⟨fun M h X I => I.type, fun M h X I A' Q' E' s' k q => ?_, N.ne, fun X I k => cls_of_exc T X I k⟩
  · obtain ⟨cdD, hcD, _⟩ := any_some T.hd
    unfold clsIn at hcD
    split at hcD
    · rename_i c' d' cd' sl' ho
      unfold isType loadHead
      exact wpAny_bind (wpAny_loadPart (k _ _ (X _ _ ho)) (wpAny_pure q))
    · cases hcD
end
/-- isinstance(e, c) of the caught exception -/
def rIsD (K : PySem.W.Frag) (C a : Addr) (d : Option Addr) : List V → Hp → VK → Prop := fun xs H Q => ∃ (c : V) (cv : Value) (b : Bool) (dd : Addr) (fs : List (Str × V)), xs = [.ref a, c] ∧ ClsV c cv ∧ PySem.W.kitOne K (.ref C) cv = some b ∧ d = some dd ∧ H dd = some (.xd fs) ∧ Q (.bl b) H
theorem call_isD {X : Cx} {a C : Addr} {oe : Obj} {d : Option Addr} {pn : List (Addr × Obj)} (T : ExcC X.K C) (hz : Zc (.ref C) d oe) (hf : ∃ vs, oe.data = .fields vs) : CallR (X.suite a ((a, oe) :: pn)) (.builtin "isinstance") (rIsD X.K C a d) := by
  intro pins s σ H xs us Q I r h
  obtain ⟨c, cv, b, dd, fs, rfl, hcv, e, rfl, ed, q⟩ := h
  obtain ⟨u1, u2, rfl, r1, r2⟩ := vals2 r
  cases (show u1 = Value.ref a from r1)
  have e2 := hcv.eq r2
  subst e2
  obtain ⟨hget, _⟩ := I.pin (a, oe) (List.mem_append_left _ List.mem_cons_self)
  obtain ⟨mA, hns, hr⟩ := (show ObjOk X.prog X.w H s.heap dd (.xd fs) from I.hok dd _ ed)
  obtain ⟨od, ho, hl⟩ := lookIn_ns hns
  have J : PySem.W.InstAt s.heap a oe C (some od) := ⟨hget, hz.1, by obtain ⟨vs, hv⟩ := hf; unfold PySem.W.notCls; rw [hv] <;> rfl, by rw [hz.2]; exact ho⟩
  exact PySem.W.kia_one (kitx_excD T) I.kIn J e (fun z => nomatch z) fun tk => ⟨.bl b, H, I.tok tk, rfl, q⟩
def rIsDT (K : PySem.W.Frag) (C a : Addr) (d : Option Addr) : List V → Hp → VK → Prop := fun xs H Q => ∃ (tp : Addr) (cs : List V) (cvs : List Value) (b : Bool) (dd : Addr) (fs : List (Str × V)), xs = [.ref a, .ref tp] ∧ H tp = some (.tup cs) ∧ Paired ClsV cs cvs ∧ PySem.W.kitAny K (.ref C) cvs = some b ∧ d = some dd ∧ H dd = some (.xd fs) ∧ Q (.bl b) H
theorem call_isDT {X : Cx} {a C : Addr} {oe : Obj} {d : Option Addr} {pn : List (Addr × Obj)} (T : ExcC X.K C) (hz : Zc (.ref C) d oe) (hf : ∃ vs, oe.data = .fields vs) : CallR (X.suite a ((a, oe) :: pn)) (.builtin "isinstance") (rIsDT X.K C a d) := by
  intro pins s σ H xs us Q I r h
  obtain ⟨tp, cs, cvs, b, dd, fs, rfl, hT, hcv, e, rfl, ed, q⟩ := h
  obtain ⟨u1, u2, rfl, r1, r2⟩ := vals2 r
  cases (show u1 = Value.ref a from r1)
  cases (show u2 = Value.ref tp from r2)
  obtain ⟨hget, _⟩ := I.pin (a, oe) (List.mem_append_left _ List.mem_cons_self)
  obtain ⟨mA, hns, hr⟩ := (show ObjOk X.prog X.w H s.heap dd (.xd fs) from I.hok dd _ ed)
  obtain ⟨od, ho, hl⟩ := lookIn_ns hns
  have J : PySem.W.InstAt s.heap a oe C (some od) := ⟨hget, hz.1, by obtain ⟨vs, hv⟩ := hf; unfold PySem.W.notCls; rw [hv] <;> rfl, by rw [hz.2]; exact ho⟩
  obtain ⟨_, its, rv, o, h1, h2, n, h3⟩ := (show ObjOk X.prog X.w H s.heap tp (.tup cs) from I.hok tp _ hT)
  have e3 := ClsV.all hcv rv
  subst e3
  obtain ⟨oc, od', dt, sl⟩ := o
  simp only at h2 h3
  subst h2 h3
  exact PySem.W.kia_tup (kitx_excD T) I.kIn J h1 e (fun z => nomatch z) fun tk => ⟨.bl b, H, I.tok tk, rfl, q⟩
end J

namespace J
open PySem PySem.Spec PyProof.Rows L2

/-! ### classes named one after the other -/
def JCs (X : Cx) (es : List Expr) (cs : List V) (cvs : List Value) : Prop := Paired ClsV cs cvs ∧ PA X es (fun σ H Q => Q cs H)
section
variable {X : Cx} {es : List Expr} {cs : List V} {cvs : List Value} {p : Pos} {y : Str}
theorem jcs_nil : JCs X [] [] [] := ⟨.nil, ⟨fun pos pins s σ H Q I h => (pa_nil (X := X)).run pos pins s σ H Q I h⟩⟩
theorem jcs_own {C : Addr} (h : JCs X es cs cvs) (hm : X.mg y = some (.ref C)) (hg : Gl X y := by rfl) (hd : (y == ("__debug__" : Str)) = false := by decide) (hs : starEach (.Name y p :: es) X.env = (false, eval (.Name y p) X.env) :: starEach es X.env := by rfl) : JCs X (.Name y p :: es) (.ref C :: cs) (.ref C :: cvs) :=
  ⟨.cons (.own C) h.1, ⟨fun pos pins s σ H Q I hq => (pa_cons (pe_glob (v := .ref C) hg hm rfl hd) h.2 hs).run pos pins s σ H Q I hq⟩⟩
theorem jcs_ty {T : String} (h : JCs X es cs cvs) (hm : X.mg y = none) (hv : bootBuiltins y = some (.type T)) (hg : Gl X y := by rfl) (hn : y ≠ "__name__" := by decide) (hd : (y == ("__debug__" : Str)) = false := by decide) (hs : starEach (.Name y p :: es) X.env = (false, eval (.Name y p) X.env) :: starEach es X.env := by rfl) : JCs X (.Name y p :: es) (.ty T :: cs) (.type T :: cvs) :=
  ⟨.cons (.ty T) h.1, ⟨fun pos pins s σ H Q I hq => (pa_cons (pe_bltn (v := .ty T) hg hm hv rfl hn hd) h.2 hs).run pos pins s σ H Q I hq⟩⟩
end
def fIsE (m : Str → Option Bool) (x : Exn) : Env → R D := fun E => match m x.c with
  | some b => .ok (.bl b) E
  | none => .stuck
section
variable {X : Cx} {a : Addr} {oe : Obj} {cls : Value} {d : Option Addr} {pn : List (Addr × Obj)} {x : Exn} {p p2 pos : Pos}
theorem j_isE (m : Str → Option Bool) {n : Str} {ec : Expr} {cs : List V} {cvs : List Value} {i : Nat} (hz : L2N.Zn cls d oe) (hd : ∃ vs, oe.data = .fields vs) (hC : JCs (X.suite a ((a, oe) :: pn)) [ec] cs cvs) (hk : ∀ c b, m c = some b → ExcC X.K (He.ga X.K c) ∧ ∃ cv, cvs = [cv] ∧ PySem.W.kitOne X.K (.ref (He.ga X.K c)) cv = some b) (hm : X.mg "isinstance" = none)
    (hg : Gl X "isinstance" := by rfl) (hN : X.N[i]? = some n := by rfl) (hv : Vis X.env.scope n := by first | exact Or.inl rfl | exact Or.inr (Or.inl rfl) | exact Or.inr (Or.inr rfl)) (hdb : (n == ("__debug__" : Str)) = false := by decide) (hcd : (n == ("__classdict__" : Str)) = false := by decide)
    (he : starEach [.Name n p2, ec] X.env = (false, eval (.Name n p2) X.env) :: starEach [ec] X.env := by rfl) (hpl : (backTo pos (starEach [ec] X.env)).any (·.1) = false := by rfl) :
    JE (X.suite a ((a, oe) :: pn)) (WS X.K (some i) a cls d x) (.Call (.Name "isinstance" p) [.Name n p2, ec] [] pos) (fIsE m x) := by
  cases c : m x.c with
  | none =>
    have e : fIsE m x = fun _ => R.stuck := by funext E; unfold fIsE; rw [c]
    rw [e]; exact j_stuck
  | some b =>
    obtain ⟨T, cv, rfl, hkit⟩ := hk x.c b c
    by_cases hcls : cls = .ref (He.ga X.K x.c)
    · subst hcls
      refine ⟨_, pe_callB (call_isD T hz.zc hd) hg hm (by decide +kernel) (pa_cons (pe_var (X := X.suite a ((a, oe) :: pn)) hN hv hdb hcd) hC.2 he) (by decide) (by decide) he hpl, fun Φ G H σ E Q S hp => ?_⟩
      unfold fIsE at hp
      rw [c] at hp
      obtain ⟨s1, s2⟩ := S.c
      obtain ⟨dd, vs, rfl, h1, h2, h3⟩ := s2.dd
      have hcs := hC.1
      cases hcs with
      | cons k1 k2 =>
        cases k2
        exact ⟨.ref a, s1 i rfl, _, cv, b, dd, _, rfl, k1, hkit, rfl, S.gh _ _ h1, hp G H _ (Ex.refl G) S (.bl b)⟩
    · refine ⟨fun _ _ _ => False, ⟨fun pins s σ H Q I h => h.elim⟩, fun Φ G H σ E Q S hp => hcls S.c.2.cls⟩
theorem j_isET (m : Str → Option Bool) {n : Str} {ets : List Expr} {kx : Nat} {pt : Pos} {cs : List V} {cvs : List Value} {i : Nat} (hz : L2N.Zn cls d oe) (hd : ∃ vs, oe.data = .fields vs) (hC : JCs (X.suite a ((a, oe) :: pn)) ets cs cvs) (hlen : cs.length ≤ 1000) (hk : ∀ c b, m c = some b → ExcC X.K (He.ga X.K c) ∧ PySem.W.kitAny X.K (.ref (He.ga X.K c)) cvs = some b) (hm : X.mg "isinstance" = none)
    (hg : Gl X "isinstance" := by rfl) (hN : X.N[i]? = some n := by rfl) (hv : Vis X.env.scope n := by first | exact Or.inl rfl | exact Or.inr (Or.inl rfl) | exact Or.inr (Or.inr rfl)) (hdb : (n == ("__debug__" : Str)) = false := by decide) (hcd : (n == ("__classdict__" : Str)) = false := by decide)
    (he : starEach [.Name n p2, .Tuple ets kx pt] X.env = (false, eval (.Name n p2) X.env) :: starEach [.Tuple ets kx pt] X.env := by rfl) (he2 : starEach [.Tuple ets kx pt] X.env = (false, eval (.Tuple ets kx pt) X.env) :: starEach [] X.env := by rfl) (hpl : (backTo pos (starEach [.Tuple ets kx pt] X.env)).any (·.1) = false := by rfl) :
    JE (X.suite a ((a, oe) :: pn)) (WS X.K (some i) a cls d x) (.Call (.Name "isinstance" p) [.Name n p2, .Tuple ets kx pt] [] pos) (fIsE m x) := by
  cases c : m x.c with
  | none =>
    have e : fIsE m x = fun _ => R.stuck := by funext E; unfold fIsE; rw [c]
    rw [e]; exact j_stuck
  | some b =>
    obtain ⟨T, hkit⟩ := hk x.c b c
    by_cases hcls : cls = .ref (He.ga X.K x.c)
    · subst hcls
      refine ⟨_, pe_callB (call_isDT T hz.zc hd) hg hm (by decide +kernel) (pa_cons (pe_var (X := X.suite a ((a, oe) :: pn)) hN hv hdb hcd) (pa_cons (pe_tup hC.2) pa_nil he2) he) (by decide) (by decide) he hpl, fun Φ G H σ E Q S hp => ?_⟩
      unfold fIsE at hp
      rw [c] at hp
      obtain ⟨s1, s2⟩ := S.c
      obtain ⟨dd, vs, rfl, h1, h2, h3⟩ := s2.dd
      refine ⟨.ref a, s1 i rfl, by rw [sizeLine_eq]; omega, fun tp htp => ?_⟩
      have nd : dd ≠ tp := fun z => by have q := S.gh _ _ h1; rw [z, htp] at q; cases q
      exact ⟨tp, cs, cvs, b, dd, _, rfl, upd_same, hC.1, hkit, rfl, by rw [upd_ne nd]; exact S.gh _ _ h1, hp G _ _ (Ex.refl G) (S.toSat.newH htp) (.bl b)⟩
    · refine ⟨fun _ _ _ => False, ⟨fun pins s σ H Q I h => h.elim⟩, fun Φ G H σ E Q S hp => hcls S.c.2.cls⟩
end

/-! ### defs called in a suite -/
theorem fn_JH {P : Program} {w : World} {K : PySem.W.Frag} {mg : Str → Option Value} {base : Heap} {k : Nat} {f : Addr} {name qual : Str} {params : Arguments} {body : List Stmt} {scope : Scope} {dV kV doc pm cdv ct oc : Value} {an od : Option Addr}
    {osl : Array (Option Value)} {N ps : List Str} {fb : Env → RS} (lk : K.lookup f = some ⟨oc, od, .func (PySem.W.fnOf name qual params body scope dV kV doc pm an cdv ct), osl⟩) (hcd : PySem.W.codeIn K cdv qual = true) (S : FnScope N ps scope)
    (hbody : ∀ (A : Around) (outer : List PySem.Env) (s : Shared) (H : Hp) (E : XK) (p : Addr × Obj), L2H.RoomH k (A.deeper (envOfC qual scope s.heap.objs.size f cdv)) → JSs (L2H.cxH (L2N.CX P w) P w K mg base N qual scope f cdv A outer s H E p) (fun c d _ H => E c d H) body fb) :
    L2H.FnH P w K mg base (L2N.CX P w) (k + 1) f (PySem.W.fnOf name qual params body scope dV kV doc pm an cdv ct) ps (spJ K ps.length (runF N.length fb)) := by
  refine L2H.fn_ofH lk hcd S (fun vs H Q E h => h.1) fun A outer s H vs Q E p hot hr hsp => ?_
  obtain ⟨t, h1, h2⟩ := hbody A outer s H E p hr
  refine ⟨t, h1, ?_⟩
  obtain ⟨hl, Φ, G, as, S0, hP⟩ := hsp
  refine h2 Φ G H _ _ _ (S0.begin N) ?_
  unfold runF at hP
  cases hf : fb (as ++ List.replicate (N.length - as.length) .no) with
  | nx E' => rw [hf] at hP; exact fun G' H' σ' e' S' => hP G' H' .non e' S'.toIO .non
  | rt rv E' =>
    rw [hf] at hP
    cases rv with
    | v d => exact fun G' H' σ' v e' S' r => hP G' H' v e' S'.toIO r
    | l d =>
      refine fun G' H' σ' v e' S' r => ?_
      obtain ⟨p, vs, rfl, k1, k2, k3, k4, k5⟩ := r
      refine hP G' H' p vs e' S'.toIO k1 k2 k3 k4 fun i s hi hb z => ?_
      obtain ⟨p', o, q1, _⟩ := S'.ad hi hb
      obtain ⟨q4, q5, q6⟩ := S'.ow' i s true p' hi hb q1
      have := q6 rfl
      subst this
      rw [← z] at q1
      exact k5 i s true hi hb q1
  | bk E' => rw [hf] at hP; exact hP.elim
  | ct E' => rw [hf] at hP; exact hP.elim
  | exc x E' => rw [hf] at hP; exact fun G' H' σ' c d e' S' r => hP G' H' c d e' S'.toIO r
  | stuck => rw [hf] at hP; exact hP.elim
structure FnHJ (P : Program) (w : World) (K : PySem.W.Frag) (mg : Str → Option Value) (base : Heap) (k : Nat) (x : Str) (n : Nat) (F : DF) : Prop where
  ok : ∃ f fd ps, mg x = some (.ref f) ∧ PySem.W.keepIn K (.ref f) = true ∧ ps.length = n ∧ Binds K fd ps [] ∧ L2H.FnH P w K mg base (L2N.CX P w) k f fd ps (spJ K n F)
theorem hot_of {X : Cx} {a : Addr} {oe : Obj} {cls : Value} {d : Option Addr} {pn : List (Addr × Obj)} (hz : L2N.Zn cls d oe) (hd : ∃ vs, oe.data = .fields vs) : L2H.HotC (X.suite a ((a, oe) :: pn)) := by
  obtain ⟨vs, hv⟩ := hd
  exact ⟨(a, oe), ⟨rfl, vs, hv, hz.2.2 vs hv⟩, List.mem_cons_self⟩
section
variable {X : Cx} {W : WJ} {k : Nat} {F : DF} {x : Str} {p pos : Pos} {e : Expr} {es : List Expr} {fa : Env → R (List Ar)}
theorem j_callH (hF : FnHJ X.prog X.w X.K X.mg X.base k x (e :: es).length F) (hr : L2H.RoomH k X.A) (hc : L2H.HotC X) (tk : L2N.Takes X W.w) (ha : JX X W (e :: es) fa) (hg : Gl X x := by rfl) (hdb : (x == ("__debug__" : Str)) = false := by decide)
    (he : starEach (e :: es) X.env = (false, eval e X.env) :: starEach es X.env := by rfl) (hpl : (backTo pos (starEach es X.env)).any (·.1) = false := by rfl) : JE X W (.Call (.Name x p) (e :: es) [] pos) (fCallR (e :: es).length F fa rvD) := by
  obtain ⟨f, fd, ps, h1, h2, h3, h4, h5⟩ := hF
  obtain ⟨ta, pa, sa⟩ := ha
  have sn := snd_call (F := F) (n := (e :: es).length) (rel := relE X.K) (kv := rvD) sa (fun d a hk Φ σ G' H' E' v r _ => by cases hk; exact r) fun l a hk Φ σ G' H' E' p vs S h1 h2 h3 h4 h5 => by cases hk; exact ⟨_, Ex.new h3, S.free h1 h3 h4 h5, .lst upd_same (h2.mono (Ex.new h3))⟩
  refine ⟨_, L2H.pe_callH (E := fun σ => WE W.w σ) h5 hr hc hg h1 h2 h4 (fun σ => L2N.passAt tk σ) pa hdb he hpl, fun Φ G H σ E Q S hp => ?_⟩
  have q := sn Φ G H σ E Q S hp
  unfold tCallSD at q
  unfold tCallS
  simp only [List.append_nil] at q
  exact q
end
theorem takes_su {X : Cx} {a : Addr} {pn : List (Addr × Obj)} {K : PySem.W.Frag} {oi : Option Nat} {b : Addr} {cls : Value} {d : Option Addr} {x : Exn} : L2N.Takes (X.suite a pn) (WS K oi b cls d x).w := fun _ _ ⟨_, _, _, _, _, _, _, _, _, _, _, _, _, _, _, _, w⟩ => w.elim
theorem takes_blk {X : Cx} {s : Shared} {H : Hp} {scope : Scope} {cenv : PySem.Env} {fp : List Addr} : L2N.Takes (X.blk s H scope cenv fp) V0.w := fun _ _ ⟨_, _, _, _, _, _, _, _, _, _, _, _, _, _, _, _, w⟩ => w.elim
end J

namespace J
open PySem PySem.Spec PyProof.Rows L2

/-! ### set(xs), xs a list of ints -/
abbrev mtS (w : World) : Obj := { cls := .type "set", dict := none, data := .set #[] 0 (.fresh 0 0 (!w.params.followText "set-order")) }
section
variable {P : Program} {w : World} {A : Around} {E : Value → Shared → Prop} {s : Shared}
theorem set_of_list {l : Addr} {xs : Array Value} (ns : List Int) {Q : Value → Shared → Prop} (calm : A.handled = none) (isl : s.heap.IsList l xs) (inz : IntsAre xs.toList ns) (few : ns.length + 1 < scanBound)
    (fin : ∀ (h' : Heap) (tk c : Nat), SetR w h' s.heap.objs.size (fun j => decide (j ∈ ns)) c → c ≤ ns.length → (∀ b o, s.heap.get? b = some o → h'.get? b = some o) → Q (.ref s.heap.objs.size) { s with heap := h', toks := tk }) :
    wpAny (model P w) A (call (.type "set") [.ref l]) Q E s := by
  have lenx : xs.size = ns.length := by
    have z := IntsAre.length inz
    rwa [Array.length_toList] at z
  obtain ⟨c0, tl0, mro0⟩ := F.called_set.mro
  have made0 := F.called_set.made
  have sub0 := F.called_set.sub
  refine wpAny_call (codeAny_of_tree ?_)
  show wpAny _ _ (callAny (.type "set") _) _ _ _
  refine wpAny_pure ⟨Code.quiet_builtin _ (by decide +kernel), ?_⟩
  refine codeAny_builtin F.entry_type_call ?_
  rw [Around.under_plain (weight_type_call_type "set" [.ref l] []) rfl]
  have nt0 := F.called_set.notType
  have cc0 := F.called_set.canCreate
  have tc0 := F.typeCall_set_1 (.ref l)
  repeat (any_goals (first | assumption | wp_step))
  refine codeAny_mono (code_set_led1 (.ref l) (E := E) (Q₁ := fun u s1 => u = .ref s.heap.objs.size ∧ s1 = { s with heap := s.heap.push (mtS w) }) ⟨rfl, rfl⟩) fun res s1 got => ?_
  cases res with
  | error e => exact got
  | ok fl =>
    cases fl with
    | next => exact got.elim
    | brk => exact got.elim
    | cont => exact got.elim
    | ret u =>
      obtain ⟨rfl, rfl⟩ := got
      have S0 : (s.heap.push (mtS w)).get? s.heap.objs.size = some (mtS w) := Heap.get?_push_size _ rfl
      have T0 : Shared.TypeIs { s with heap := s.heap.push (mtS w) } (.ref s.heap.objs.size) "set" := ⟨_, S0, rfl⟩
      have li0 := F.called_set.init.lookup
      have bi0 := F.called_set.init.bind (.ref s.heap.objs.size)
      repeat (any_goals (first | assumption | wp_step))
      refine codeAny_mono (codeAny_call_builtin (R := wants (fun r s2 => r = .none ∧ ∃ h' tk c, s2 = { s with heap := h', toks := tk } ∧ SetR w h' s.heap.objs.size (fun j => decide (j ∈ ns)) c ∧ c ≤ ns.length ∧ (∀ b o, s.heap.get? b = some o → h'.get? b = some o)) E)
        F.called_set.init.plain F.entry_set_init (check_set_init_1 T0 ?_)) fun res2 s2 got2 => ?_
      · obtain ⟨ol, hol, hcl, nl, hdl⟩ := isl
        obtain ⟨oc, od, oda, osl⟩ := ol
        simp only at hcl hdl
        subst hcl; subst hdl
        have ol1 : (s.heap.push (mtS w)).get? l = some { cls := .type "list", dict := od, data := .seq xs nl, slots := osl } := Heap.get?_push_of_some _ hol
        have n1 := F.sub_list_set
        have n2 := F.sub_list_frozenset
        have n3 : (Value.type "list" == Value.type "dict") = false := by decide
        have isl1 : (s.heap.push (mtS w)).IsList l xs := ⟨_, ol1, rfl, nl, rfl⟩
        unfold Builtin.«set.__init__» noKeywords Builtin.Frozenset.updateFrom
        generalize hIt : pyIter = IT
        wp_walk
        subst hIt
        refine wpAny_pyIter_list isl1 ?_
        refine wpAny_bind (wpAny_runValue ?_)
        have lt0 : l < s.heap.objs.size := Heap.lt_size hol
        have calm3 : A.in1.in1.in1.handled = none := by simp [calm]
        have ne1 : l ≠ (s.heap.push (mtS w)).objs.size := by rw [Heap.size_push]; exact Nat.ne_of_lt (Nat.lt_succ_of_lt lt0)
        have off : s.heap.objs.size ∉ [(s.heap.push (mtS w)).objs.size, l] := by
          rw [Heap.size_push]
          intro z
          rcases List.mem_cons.mp z with z | z
          · exact absurd z (Nat.ne_of_lt (Nat.lt_succ_self _))
          · have z : s.heap.objs.size = l := by simpa using z
            exact absurd z (Nat.ne_of_gt lt0)
        have each : ∀ (i : Nat) (v : Value), xs[i]? = some v → ∃ k t, ns[i]? = some k ∧ v = .int k t := fun i v hv => by
          have hi : i < ns.length := by rw [← lenx]; exact (Array.getElem?_eq_some_iff.mp hv).1
          obtain ⟨t, e⟩ := PyProof.Rows.IntsAre.int_at inz i v (by rw [Array.getElem?_toList]; exact hv)
          exact ⟨ns[i], t, List.getElem?_eq_getElem hi, by rw [e, List.getD_eq_getElem?_getD, List.getElem?_eq_getElem hi] <;> rfl⟩
        refine set_update_ints ((Walks.list calm3 _ l ne1 xs).toS) s.heap.objs.size off ns lenx few each (xs.size - 0) 0 _ (by omega) (Nat.zero_le _) ⟨⟨_, Heap.get?_push_size _ rfl, rfl, rfl⟩, (isl1.push _)⟩ ?start ?stop
        case start =>
          exact ⟨0, Nat.le_refl 0, setR_new_at (Heap.get?_push_of_some _ S0)⟩
        case stop =>
          intro s3 c3 mv le3 R3
          obtain ⟨h3, g3, d3, t3, o3⟩ := s3
          have eg : g3 = s.gens := mv.gens
          have ed : d3 = s.drawn := mv.drawn
          have eo : o3 = s.os := mv.os
          subst eg ed eo
          show wpAny _ _ _ _ _ _
          refine wpAny_pure ?_
          show wpAny _ _ (ret Value.none) _ _ _
          rw [lenx] at le3
          refine wpAny_pure ⟨rfl, h3, t3, c3, rfl, R3, le3, fun b o e => ?_⟩
          have lb := Heap.lt_size e
          refine mv.heap b o (fun z => ?_) (Heap.get?_push_of_some _ (Heap.get?_push_of_some _ e))
          rcases List.mem_cons.mp z with z | z
          · exact absurd z (Nat.ne_of_lt lb)
          · have z : b = (s.heap.push (mtS w)).objs.size := by simpa using z
            rw [Heap.size_push] at z
            exact absurd z (Nat.ne_of_lt (Nat.lt_succ_of_lt lb))
      · cases res2 with
        | error e => exact got2
        | ok fl2 =>
          cases fl2 with
          | next => exact got2.elim
          | brk => exact got2.elim
          | cont => exact got2.elim
          | ret r =>
            obtain ⟨rfl, h', tk, c', rfl, R4, le4, k4⟩ := got2
            repeat (any_goals (first | assumption | wp_step))
            exact fin _ _ _ R4 le4 k4
end
/-- set(xs), xs a list or a tuple of ints -/
def rSetI (X : Cx) : List V → Hp → VK → Prop := fun vs H Q => ∃ (p : Addr) (ns : List Int), vs = [.ref p] ∧ (SqL X.K H p (ns.map V.int) ∨ SqT X.K H p (ns.map V.int)) ∧ ns.length ≤ 1000 ∧ ∀ (a : Addr) (c : Nat), c ≤ ns.length → H a = none → Q (.ref a) (upd H a (SetO X.w a (fun j => decide (j ∈ ns)) c))
theorem cr_setI {X : Cx} (hc : X.calm = true) : CallR X (.type "set") (rSetI X) := by
  intro pins s σ H vs us Q I r h
  obtain ⟨p, ns, rfl, hq, hl, q⟩ := h
  have e1 := Vals.ref1 r
  subst e1
  have fin : ∀ (h' : Heap) (tk c : Nat), SetR X.w h' s.heap.objs.size (fun j => decide (j ∈ ns)) c → c ≤ ns.length → (∀ b o, s.heap.get? b = some o → h'.get? b = some o) → EP X pins σ Q (.ref s.heap.objs.size) { s with heap := h', toks := tk } := fun h' tk c R le k =>
    ⟨.ref _, _, I.laid (t' := tk) k (Nat.le_refl _) (setO_new R), rfl, q _ c le (I.hok.fresh (Nat.le_refl _))⟩
  rcases hq with hq | hq
  · obtain ⟨its, rv, pt, hz⟩ := I.list hq
    exact set_of_list ns (I.ok.hd hc) pt.isList (ints_of_vals rv) (by unfold scanBound; omega) fin
  · obtain ⟨its, rv, pt, hz⟩ := I.tuple hq
    exact call_set_tupI ns (I.ok.hd hc) (show s.heap.IsTuple p its.toArray from pt) (ints_of_vals rv) (by unfold scanBound; omega) fin
end J

namespace J
open PySem PySem.Spec PyProof.Rows L2

/-! ### sorted(set(xs)) -/
def insU (k : Int) : List Int → List Int
  | [] => [k]
  | x :: xs => if k < x then k :: x :: xs else if k = x then x :: xs else x :: insU k xs
def sortU : List Int → List Int
  | [] => []
  | x :: xs => insU x (sortU xs)
theorem insU_mem {k j : Int} : ∀ {l : List Int}, j ∈ insU k l ↔ j = k ∨ j ∈ l
  | [] => by simp [insU]
  | x :: xs => by
    unfold insU
    split
    · simp
    · split
      · rename_i h1 h2
        subst h2
        simp only [List.mem_cons]
        constructor
        · intro h; exact .inr h
        · rintro (h | h)
          · exact .inl h
          · exact h
      · simp only [List.mem_cons, insU_mem (l := xs)]
        constructor
        · rintro (h | h | h)
          · exact .inr (.inl h)
          · exact .inl h
          · exact .inr (.inr h)
        · rintro (h | h | h)
          · exact .inr (.inl h)
          · exact .inl h
          · exact .inr (.inr h)
theorem insU_pw {k : Int} : ∀ {l : List Int}, l.Pairwise (· < ·) → (insU k l).Pairwise (· < ·)
  | [], _ => by simp [insU]
  | x :: xs, h => by
    obtain ⟨h1, h2⟩ := List.pairwise_cons.mp h
    unfold insU
    split
    · rename_i hk
      refine List.pairwise_cons.mpr ⟨fun y hy => ?_, h⟩
      rcases List.mem_cons.mp hy with rfl | hy
      · exact hk
      · exact Int.lt_trans hk (h1 y hy)
    · split
      · exact h
      · refine List.pairwise_cons.mpr ⟨fun y hy => ?_, insU_pw h2⟩
        rcases insU_mem.mp hy with rfl | hy
        · omega
        · exact h1 y hy
theorem sortU_mem {j : Int} : ∀ {l : List Int}, j ∈ sortU l ↔ j ∈ l
  | [] => by simp [sortU]
  | x :: xs => by unfold sortU; rw [insU_mem, sortU_mem (l := xs), List.mem_cons]
theorem sortU_pw : ∀ {l : List Int}, (sortU l).Pairwise (· < ·)
  | [] => .nil
  | x :: xs => insU_pw sortU_pw
theorem pw_uniq : ∀ {l m : List Int}, l.Pairwise (· < ·) → m.Pairwise (· < ·) → (∀ k, k ∈ l ↔ k ∈ m) → l = m
  | [], [], _, _, _ => rfl
  | [], y :: ys, _, _, h => by have := (h y).mpr (List.mem_cons_self ..); cases this
  | x :: xs, [], _, _, h => by have := (h x).mp (List.mem_cons_self ..); cases this
  | x :: xs, y :: ys, hl, hm, h => by
    obtain ⟨l1, l2⟩ := List.pairwise_cons.mp hl
    obtain ⟨m1, m2⟩ := List.pairwise_cons.mp hm
    have exy : x = y := by
      rcases List.mem_cons.mp ((h x).mp (List.mem_cons_self ..)) with e | e
      · exact e
      · rcases List.mem_cons.mp ((h y).mpr (List.mem_cons_self ..)) with e2 | e2
        · exact e2.symm
        · have a := m1 x e; have b := l1 y e2; omega
    subst exy
    rw [pw_uniq l2 m2 fun k => ?_]
    constructor
    · intro hk
      rcases List.mem_cons.mp ((h k).mp (List.mem_cons_of_mem _ hk)) with e | e
      · subst e; have := l1 k hk; omega
      · exact e
    · intro hk
      rcases List.mem_cons.mp ((h k).mpr (List.mem_cons_of_mem _ hk)) with e | e
      · subst e; have := m1 k hk; omega
      · exact e
def gSS : D → Option (List D) := fun d => (itemsD d).bind fun l => (intsD l).bind fun ns => if ns.length ≤ 63 then some ((sortU ns).map D.int) else none
section
variable {X : Cx} {W : WJ} {a b e : Expr} {p p2 pos pos2 : Pos} {fa fb : Env → R D}
theorem jl_ss (hc : X.calm = true) (hm : X.mg "sorted" = none) (hm2 : X.mg "set" = none) (ha : JO X W a fa) (hg : Gl X "sorted" := by rfl) (hg2 : Gl X "set" := by rfl)
    (he : starEach [a] X.env = (false, eval a X.env) :: starEach [] X.env := by rfl) (hpl : (backTo pos2 (starEach [] X.env)).any (·.1) = false := by rfl)
    (he2 : starEach [.Call (.Name "set" p2) [a] [] pos2] X.env = (false, eval (.Call (.Name "set" p2) [a] [] pos2) X.env) :: starEach [] X.env := by rfl) (hpl2 : (backTo pos (starEach [] X.env)).any (·.1) = false := by rfl) :
    JL X W (.Call (.Name "sorted" p) [.Call (.Name "set" p2) [a] [] pos2] [] pos) (fun1L gSS fa) := by
  obtain ⟨ta, pa, sa⟩ := ha
  refine ⟨_, pe_callB (cr_sortedSet hc) hg hm (by decide +kernel) (pa_cons (pe_callTy (cr_setI hc) hg2 hm2 (by decide +kernel) (pa_cons pa pa_nil he) (by decide) (by decide) he hpl) pa_nil he2) (by decide) (by decide) he2 hpl2, fun Φ G H σ E Q S hp => ?_⟩
  refine sa.go S hp fun d E1 G1 H1 x _ e1 S1 r1 hp => ?_
  cases hd : gSS d with
  | none => rw [hd] at hp; exact hp.elim
  | some l =>
    rw [hd] at hp
    obtain ⟨l0, h1, hd⟩ := Option.bind_eq_some_iff.mp hd
    obtain ⟨ns, h2, hd⟩ := Option.bind_eq_some_iff.mp hd
    obtain ⟨c63, rfl⟩ := if_some hd
    obtain ⟨q, vs, rfl, h4, h5⟩ := r1.items S1.gh h1
    rw [intsD_eq h2] at h5
    have := h5.of_ints
    subst this
    refine ⟨q, ns, rfl, h4, by omega, fun s c hcl hs => ?_⟩
    refine ⟨s, _, c, rfl, upd_same, by omega, fun ms r m1 m2 m3 hr => ?_⟩
    have em : ms = sortU ns := pw_uniq m1 sortU_pw fun k => by rw [m2 k, sortU_mem, decide_eq_true_eq]
    subst em
    have S2 := S1.toSat.newH (o := SetO X.w s (fun j => decide (j ∈ ns)) c) hs
    exact hp _ _ _ (Ex.refl G1) (S2.newH hr) (relL.new S2 hr (RpA.ints _))

/-! ### xs + ys, xs * n: a list of one's own -/
def fopL (g : D → D → Option D) (fa fb : Env → R D) : Env → R (List D) := fun E => (fa E).bind fun a E => (fb E).bind fun b E => match a, g a b with
  | .lst _, some (.lst l) => .ok l E
  | _, _ => .stuck
theorem jl_add (ha : JE X W a fa) (hb : JO X W b fb) : JL X W (.BinOp a .Add b pos) (fopL gAdd fa fb) := by
  obtain ⟨ta, pa, sa⟩ := ha
  obtain ⟨tb, pb, sb⟩ := hb
  refine ⟨_, pe_op op_cat pa pb, fun Φ G H σ E Q S hp => ?_⟩
  refine sa.go S hp fun d E1 G1 H1 x _ e1 S1 r1 hp => ?_
  refine sb.go S1 hp fun d' E2 G2 H2 y _ e2 S2 r2 hp => ?_
  cases d with
  | lst l =>
    cases d' with
    | lst m =>
      have r1 := Rp.mono e2 _ r1
      cases r1 with
      | lst h1 h2 =>
        obtain ⟨q, ws, rfl, h3, h4⟩ := r2
        by_cases c : l.length + m.length ≤ 16777216
        · have hg : gAdd (.lst l) (.lst m) = some (.lst (l ++ m)) := if_pos c
          simp only [hg] at hp
          exact ⟨_, _, _, _, rfl, rfl, S2.gh _ _ h1, h3, sz (by rw [h2.length, h4.length]; exact c), fun r hr => hp _ _ _ (Ex.refl G2) (S2.toSat.newH hr) (relL.new S2.toSat hr (h2.append h4))⟩
        · have hg : gAdd (.lst l) (.lst m) = none := if_neg c
          simp only [hg] at hp
          exact hp.elim
    | _ => exact hp.elim
  | _ => exact hp.elim
theorem jl_mul (ha : JE X W a fa) (hb : JO X W b fb) : JL X W (.BinOp a .Mult b pos) (fopL gMul fa fb) := by
  obtain ⟨ta, pa, sa⟩ := ha
  obtain ⟨tb, pb, sb⟩ := hb
  refine ⟨_, pe_op op_rep pa pb, fun Φ G H σ E Q S hp => ?_⟩
  refine sa.go S hp fun d E1 G1 H1 x _ e1 S1 r1 hp => ?_
  refine sb.go S1 hp fun d' E2 G2 H2 y _ e2 S2 r2 hp => ?_
  cases d with
  | lst l =>
    cases d' with
    | int k =>
      have r1 := Rp.mono e2 _ r1
      cases r2
      cases r1 with
      | lst h1 h2 =>
        by_cases c : 0 ≤ k ∧ k ≤ 1000000 ∧ l.length * k.toNat ≤ 16777216
        · have hg : gMul (.lst l) (.int k) = some (.lst (List.replicate k.toNat l).flatten) := if_pos c
          simp only [hg] at hp
          exact ⟨_, k, _, rfl, rfl, S2.gh _ _ h1, by omega, by omega, sz (by rw [h2.length]; exact c.2.2), fun r hr => hp _ _ _ (Ex.refl G2) (S2.toSat.newH hr) (relL.new S2.toSat hr (h2.flat _))⟩
        · have hg : gMul (.lst l) (.int k) = none := if_neg c
          simp only [hg] at hp
          exact hp.elim
    | _ => exact hp.elim
  | _ => exact hp.elim
end
end J

namespace J
open PySem PySem.Spec PyProof.Rows L2

/-! ### xs[lo:hi] = ys -/
section
variable {prog : Program} {w : World} {A : Around} {E : Value → Shared → Prop} {s : Shared}
theorem put_run {l b sl : Addr} {xs ys : Array Value} {n n2 : Nat} {vl vu : Value} {lo hi : Option Int} {a c : Nat} {Q : Unit → Shared → Prop} (e : s.heap.get? l = some { cls := .type "list", data := .seq xs n }) (e2 : s.heap.get? b = some { cls := .type "list", data := .seq ys n2 }) (apart : l ≠ b)
    (isl : s.heap.IsSliceOf sl vl vu .none) (pl : IsPart vl lo) (pu : IsPart vu hi) (bnd : sliceBounds lo hi none xs.size = ((a : Int), (c : Int), 1)) (hac : a ≤ c) (room : xs.size + ys.size ≤ sizeLine)
    (fin : Q () { s with heap := s.heap.update l (Obj.mapSeq fun zs => zs.extract 0 a ++ ys ++ zs.extract c zs.size) }) : wpAny (model prog w) A (setItem (.ref l) (.ref sl) (.ref b)) Q E s := by
  have Ll : s.heap.IsList l xs := PySem.IsL.isList e
  have Lb : s.heap.IsList b ys := PySem.IsL.isList e2
  obtain ⟨os, o1, o2, o3⟩ := id isl
  have Ts : s.TypeIs (.ref sl) "slice" := ⟨os, o1, o2⟩
  have noStep : ¬ ((rawPart none == rawInt 0) = true) := Bool.false_ne_true
  have other : Builtin.List.listSameRef (.ref l) (.ref b) = false := by unfold Builtin.List.listSameRef; exact beq_eq_false_iff_ne.mpr apart
  have mx : (max (a : Int) (c : Int)).toNat = c := by omega
  have room1 : ((fun zs : Array Value => zs.extract 0 a ++ ys ++ zs.extract c zs.size) xs).size ≤ sizeLine + 1 := by simp only [Array.size_append, Array.size_extract]; omega
  unfold setItem
  try with_reducible refine wpAny_holding ?_
  first | refine wpAny_bind (wpAny_pure ?_) | skip
  refine wpAny_bind (wpAny_sequenceKey Ll.typeIs (by decide) ?_)
  refine wpAny_bind (wpAny_callSpecial?_slot (name := Str.ofString "__setitem__") Ll.typeIs slot_list_setitem (wpAny_call_entry slot_list_setitem Ll.typeIs entry_list_setitem ?_ (args_list_setitem _ _ _)))
  show wpAny _ _ (Builtin.List.listSubscript? (.ref sl) >>= _) _ _ s
  refine wpAny_bind ?_
  unfold Builtin.List.listSubscript?
  refine wpAny_bind (wpAny_specialOf Ts slice_no_index ?_)
  simp only [Option.isNone_none, if_true]
  refine wpAny_pure ?_
  show wpAny _ _ (typeOf (.ref sl) >>= _) _ _ s
  refine wpAny_bind (wpAny_typeOf Ts ?_)
  first
    | rw [if_neg (by decide)]
    | refine PySem.W.KFB.if_not (by decide) ?_
  rw [listSliceParts_eq]
  refine wpAny_bind (wpAny_bind (wpAny_field o1 o3 (x := .none) rfl (wpAny_bind (wpAny_listPart .none ?_))))
  rw [if_neg noStep]
  refine wpAny_bind (wpAny_field o1 o3 (x := vl) rfl (wpAny_bind (wpAny_listPart pl ?_)))
  refine wpAny_bind (wpAny_field o1 o3 (x := vu) rfl (wpAny_bind (wpAny_listPart pu (wpAny_pure ?_))))
  first
    | simp only [other, Bool.false_eq_true, if_false]
    | refine PySem.W.KFB.if_not other ?_
    | (dsimp only
       rw [if_neg (by rw [other]; exact Bool.false_ne_true)])
  refine wpAny_bind (m := Builtin.List.listAllItems (.ref b) "must assign iterable to extended slice") ?_
  unfold Builtin.List.listAllItems
  refine wpAny_bind (wpAny_typeOf Lb.typeIs ?_)
  first
    | refine PySem.W.KFB.if_so (by decide) ?_
    | rw [if_pos (by decide)]
    | simp only [beq_self_eq_true, Bool.true_or, if_true]
  unfold Builtin.List.listItems
  refine wpAny_bind (wpAny_seqItems e2 rfl (wpAny_pure ?_))
  refine wpAny_bind (wpAny_bind (wpAny_seqItems e rfl (wpAny_pure ?_)))
  have raw := (sliceIndices_raw lo hi none xs.size (by simp)).trans (congrArg (pure : Int × Int × Int → Sem (Int × Int × Int)) bnd)
  refine wpAny_bind (wpAny_of_eq raw ?_)
  show wpAny _ _ (if ((1 : Int) == 1) = true then _ else _) _ _ s
  rw [if_pos (by decide)]
  refine wpAny_bind (wpAny_rule ?_)
  first
    | simp only [notLongL room, Bool.false_eq_true, if_false]
    | refine PySem.W.KFB.if_not (notLongL room) ?_
  first | refine wpAny_bind (wpAny_pure ?_) | skip
  show wpAny _ _ (updateSeq l (fun zs => zs.extract 0 ((a : Int)).toNat ++ ys ++ zs.extract (max (a : Int) (c : Int)).toNat zs.size) >>= _) _ _ s
  rw [mx, Int.toNat_natCast]
  refine wpAny_bind (wpAny_updateSeq (hz := Nat.le_trans (Nat.le_add_right _ _) room) (_hz' := room1) e rfl ?_)
  refine wpAny_bind (wpAny_letGo ?_)
  first
    | exact wpAny_bind (wpAny_pure (wpAny_pure ⟨.none, rfl, wpAny_pure fin⟩))
    | exact wpAny_pure ⟨.none, rfl, wpAny_pure fin⟩
end
/-- where the bounds lie -/
def cutB (lo hi : Option Int) (n : Nat) : Option (Nat × Nat) :=
  if 0 ≤ (sliceBounds lo hi none n).1 ∧ (sliceBounds lo hi none n).1 ≤ (sliceBounds lo hi none n).2.1 ∧ (sliceBounds lo hi none n).2.1 ≤ n ∧ (sliceBounds lo hi none n).2.2 = 1 then some ((sliceBounds lo hi none n).1.toNat, (sliceBounds lo hi none n).2.1.toNat) else none
theorem cutB_is {lo hi : Option Int} {n a c : Nat} (h : cutB lo hi n = some (a, c)) : sliceBounds lo hi none n = ((a : Int), (c : Int), 1) ∧ a ≤ c ∧ c ≤ n := by
  unfold cutB at h
  obtain ⟨⟨h1, h2, h3, h4⟩, e⟩ := if_some h
  generalize sliceBounds lo hi none n = t at h1 h2 h3 h4 e
  obtain ⟨x, y, z⟩ := t
  simp only at h1 h2 h3 h4 e
  obtain ⟨rfl, rfl⟩ := Prod.mk.inj e
  subst h4
  exact ⟨by rw [Int.toNat_of_nonneg h1, Int.toNat_of_nonneg (Int.le_trans h1 h2)], by omega, by omega⟩
/-- x[lo:hi] = e, x one's own list -/
def sSetCut (i : Nat) (fl fh : Env → Option (Option Int)) (fa : Env → R D) : Env → RS := fun E => (fa E).bindS fun d E => match d, E[i]? with
  | .lst ys, some (.own b l) => (match (fl E).bind fun x => (fh E).bind fun y => cutB x y l.length with
    | some (a, c) => if l.length + ys.length ≤ 16777216 then .nx (E.set i (.own b (l.take a ++ ys ++ l.drop c))) else .stuck
    | none => .stuck)
  | _, _ => .stuck
def gSubCut (to : TE) (tl th : TO) (r : V → V → Option Int → Option Int → Hp → (Hp → Prop) → Prop) : TG := fun v σ H Q => to σ H fun x H1 => tl σ H1 fun l H2 => th σ H2 fun u H3 => r x v l u H3 fun H4 => Q σ H4
def rPut : V → V → Option Int → Option Int → Hp → (Hp → Prop) → Prop := fun x v lo hi H Q => ∃ (l b : Addr) (xs ys : List V) (a c : Nat), x = .ref l ∧ v = .ref b ∧ l ≠ b ∧ H l = some (.lst xs) ∧ H b = some (.lst ys) ∧ cutB lo hi xs.length = some (a, c) ∧ xs.length + ys.length ≤ sizeLine ∧ Q (upd H l (.lst (xs.take a ++ ys ++ xs.drop c)))
theorem pg_cut {X : Cx} {o : Expr} {lo hi : Option Expr} {to : TE} {tl th : TO} {p2 pos : Pos} (ho : PE X o to) (hl : PO X lo tl) (hh : PO X hi th)
    (ha : ∀ v, assign (.Subscript o (.Slice lo hi none p2) pos) X.env v = (do
      let ov ← holding [v] (eval o X.env)
      let iv ← holding [v, ov] (eval (.Slice lo hi none p2) X.env)
      standAt pos
      holding [v, ov, iv] (setItem ov iv v)
      release [iv, v, ov] []) := by intro _; rfl) : PG X (.Subscript o (.Slice lo hi none p2) pos) (gSubCut to tl th rPut) := by
  refine ⟨fun pins s σ H v u Q I r h => ?_⟩
  rw [ha]
  refine wpAny_bind (wpAny_holding (thn (ho.run pins s σ H _ I h) fun ov s1 ⟨x, H1, I1, r1, q1⟩ => ?_))
  refine wpAny_bind (wpAny_holding ?_)
  refine wpAny_Slice (thn (hl.run pins s1 σ H1 _ I1 q1) fun vl s2 ⟨y, H2, I2, pl, q2⟩ => thn (hh.run pins s2 σ H2 _ I2 q2) fun vu s3 ⟨z, H3, I3, pu, q3⟩ => ?_)
  rw [evalPart_none]
  refine wpAny_pure ?_
  have I4 : Inv X pins σ H3 { s3 with heap := s3.heap.push { cls := .type "slice", data := .fields #[vl, vu, .none] } } := I3.kept (t' := s3.toks) fun b ob q => Heap.get?_push_of_some _ q
  obtain ⟨l, b, xs, ys, a, c, rfl, rfl, hne, hl1, hb1, hcut, hz, q⟩ := q3
  cases (show ov = Value.ref l from r1)
  cases (show u = Value.ref b from r)
  obtain ⟨z1, its, n, rv, hlen, e⟩ := I4.lstM hl1
  obtain ⟨z2, its2, n2, rv2, hlen2, e2⟩ := I4.lstM hb1
  have hsz : its.toArray.size = xs.length := by rw [List.size_toArray]; exact hlen.symm
  have hsz2 : its2.toArray.size = ys.length := by rw [List.size_toArray]; exact hlen2.symm
  obtain ⟨bb, hac, hcn⟩ := cutB_is hcut
  refine wpAny_bind (wpAny_standAt (wpAny_bind (wpAny_holding ?_)))
  refine put_run (a := a) (c := c) e e2 hne (Heap.IsSliceOf.new ..) pl pu (by rw [hsz]; exact bb) hac (by rw [hsz, hsz2]; exact hz) (wpAny_release ⟨σ, _, ?_, q⟩)
  refine I4.lset (its' := its.take a ++ its2 ++ its.drop c) (t' := s3.toks) hl1 e ?_ (Vals.append (Vals.append (rv.take _) rv2) (rv.drop _)) ?_
  · exact splice_eq its its2 a c
  · rw [List.length_append, List.length_append, List.length_take, List.length_drop]; omega
theorem js_setCut {X : Cx} {W : WX} (i : Nat) {x : Str} {e : Expr} {lo hi : Option Expr} {p1 p2 tp pos : Pos} {fa : Env → R D} {fl fh : Env → Option (Option Int)} (h : JE X (pw W) e fa) (hl : JPq X lo fl) (hh : JPq X hi fh) (hN : X.N[i]? = some x := by rfl) (hv : Vis X.env.scope x := by first | exact Or.inl rfl | exact Or.inr (Or.inl rfl) | exact Or.inr (Or.inr rfl)) (hd : (x == ("__debug__" : Str)) = false := by decide)
    (hcd : (x == ("__classdict__" : Str)) = false := by decide)
    (ha : ∀ v, assign (.Subscript (.Name x p1) (.Slice lo hi none p2) tp) X.env v = (do
      let ov ← holding [v] (eval (.Name x p1) X.env)
      let iv ← holding [v, ov] (eval (.Slice lo hi none p2) X.env)
      standAt tp
      holding [v, ov, iv] (setItem ov iv v)
      release [iv, v, ov] []) := by intro _; rfl)
    (hs : swapsWithSole [.Subscript (.Name x p1) (.Slice lo hi none p2) tp] e pos.line X.env = pure false := by rfl) (hw : swappedStores [.Subscript (.Name x p1) (.Slice lo hi none p2) tp] e X.env = pure none := by rfl)
    (h1 : (assignEach [.Subscript (.Name x p1) (.Slice lo hi none p2) tp] X.env).map (·.2) = [assign (.Subscript (.Name x p1) (.Slice lo hi none p2) tp) X.env] := by rfl) :
    JS X W (.Assign [.Subscript (.Name x p1) (.Slice lo hi none p2) tp] e pos) (sSetCut i fl fh fa) := by
  obtain ⟨te, q1, s1⟩ := h
  obtain ⟨tl, q2, s2⟩ := hl
  obtain ⟨th, q3, s3⟩ := hh
  refine ⟨_, ps_asg q1 (pg_cut (pe_var hN hv hd hcd) q2 q3 ha) hs hw h1, fun Φ G H σ E D S hp => ?_⟩
  refine s1.goS S hp fun d E1 G1 H1 v _ x1 S1 r1 hp => ?_
  cases d with
  | lst ys =>
    cases ee : E1[i]? with
    | none => simp only [ee] at hp; exact hp.elim
    | some sl =>
      cases sl with
      | no => simp only [ee] at hp; exact hp.elim
      | obj _ _ _ _ => simp only [ee] at hp; exact hp.elim
      | val _ => simp only [ee] at hp; exact hp.elim
      | own b l =>
        simp only [ee] at hp
        cases hc : (fl E1).bind fun x => (fh E1).bind fun y => cutB x y l.length with
        | none => rw [hc] at hp; exact hp.elim
        | some ac =>
          obtain ⟨a, c⟩ := ac
          rw [hc] at hp
          simp only at hp
          by_cases cz : l.length + ys.length ≤ 16777216
          · rw [if_pos cz] at hp
            obtain ⟨lo', k1, hc⟩ := Option.bind_eq_some_iff.mp hc
            obtain ⟨hi', k2, hc⟩ := Option.bind_eq_some_iff.mp hc
            obtain ⟨w, hw', q, vs, rfl, h3, h4⟩ := S1.sl i _ ee
            refine ⟨.ref q, hw', ?_⟩
            refine s2 Φ G1 H1 σ E1 _ lo' S1 k1 fun G2 H2 e2 f2 S2 => ?_
            refine s3 Φ G2 H2 σ E1 _ hi' S2 k2 fun G3 H3 e3 f3 S3 => ?_
            obtain ⟨w2, hw2, q2', vs2, e5, h5, h6⟩ := S3.sl i _ ee
            rw [hw'] at hw2
            cases hw2
            cases e5
            cases r1 with
            | lst g1 g2 =>
              have g3 := S3.gh _ _ ((e2.trans e3) _ _ g1)
              obtain ⟨o1, o2, o3⟩ := S3.ow i b l q ee hw'
              refine ⟨q, _, vs2, _, a, c, rfl, rfl, fun z => ?_, h5, g3, by rw [h6.length]; exact hc, sz (by rw [h6.length, g2.length]; exact cz), ?_⟩
              · rw [z, (e2.trans e3) _ _ g1] at o1; cases o1
              · exact hp G3 _ σ (e2.trans e3) (S3.write ee hw' (((h6.take a).append (g2.mono (e2.trans e3))).append (h6.drop c)))
          · rw [if_neg cz] at hp; exact hp.elim
  | _ => exact hp.elim
/-- x.reverse(), x one's own list -/
def sRev (i : Nat) : Env → RS := fun E => match E[i]? with
  | some (.own b l) => .nx (E.set i (.own b l.reverse))
  | _ => .stuck
theorem js_rev {X : Cx} {W : WX} (i : Nat) {x : Str} {p2 apos cpos pos : Pos} (hN : X.N[i]? = some x := by rfl) (hv : Vis X.env.scope x := by first | exact Or.inl rfl | exact Or.inr (Or.inl rfl) | exact Or.inr (Or.inr rfl)) (hd : (x == ("__debug__" : Str)) = false := by decide)
    (hcd : (x == ("__classdict__" : Str)) = false := by decide) (hbase : attributeBase (.Name x p2) "reverse" X.env (eval (.Name x p2) X.env) = eval (.Name x p2) X.env := by rfl) (hline : (apos.endLine == cpos.line) = true := by rfl)
    (hsw : swapsWith (.Call (.Attribute (.Name x p2) "reverse" apos) [] [] cpos) none pos.line X.env = pure false := by rfl) :
    JS X W (.Expr (.Call (.Attribute (.Name x p2) "reverse" apos) [] [] cpos) pos) (sRev i) := by
  refine ⟨_, ps_expr (pe_bm0 PySem.F.plainAttrs_list PySem.F.slot_list_reverse PySem.F.type_list_reverse mt_reverse (pe_var hN hv hd hcd) hbase hline) hsw, fun Φ G H σ E D S hp => ?_⟩
  unfold sRev at hp
  cases e : E[i]? with
  | none => rw [e] at hp; exact hp.elim
  | some s =>
    rw [e] at hp
    cases s with
    | no => exact hp.elim
    | obj _ _ _ _ => exact hp.elim
    | val d => exact hp.elim
    | own b l =>
      obtain ⟨x, hx, q, vs, rfl, h1, h2⟩ := S.sl i _ e
      exact ⟨.ref q, hx, .inl ⟨rfl, vs, SqL.of h1⟩, q, vs, rfl, rfl, h1, hp G _ σ (Ex.refl G) (S.write e hx h2.reverse)⟩
end J

namespace J
open PySem PySem.Spec PyProof.Rows L2

/-! ### [f for g in ds if t for g1 in es if t1] -/
def lcD2 (vs : List Nat) (g : D → Env → Option Env) (t : Env → R Bool) (fi1 : Env → R (List D)) (vs1 : List Nat) (g1 : D → Env → Option Env) (t1 : Env → R Bool) (f : Env → R D) : List D → List D → Env → R (List D)
  | [], acc, E => .ok acc E
  | d :: ds, acc, E => match g d (wipeE vs E) with
    | none => .stuck
    | some E1 => match t E1 with
      | .ok true E2 => (match fi1 E2 with
        | .ok es E3 => (match lcD vs1 g1 t1 f es acc E3 with
          | .ok acc' E4 => lcD2 vs g t fi1 vs1 g1 t1 f ds acc' (wipeE vs E4)
          | _ => .stuck)
        | _ => .stuck)
      | .ok false E2 => lcD2 vs g t fi1 vs1 g1 t1 f ds acc (wipeE vs E2)
      | _ => .stuck
def fLc2 (vs : List Nat) (fi : Env → R (List D)) (g : D → Env → Option Env) (t : Env → R Bool) (fi1 : Env → R (List D)) (vs1 : List Nat) (g1 : D → Env → Option Env) (t1 : Env → R Bool) (f : Env → R D) : Env → R (List D) := fun E => (fi E).bind fun ds E => lcD2 vs g t fi1 vs1 g1 t1 f ds [] E
structure Lc2W (K : PySem.W.Frag) (W : WX) (Φ : Fr) (G1 : Hp) (σ : St) (P : Addr) (Q : V → Hp → Prop) (L : List D → List D → Env → R (List D)) (ds : List D) (i m : Nat) (H : Hp) : Prop where
  le : i ≤ ds.length
  m : m = ds.length - i
  at' : ∃ G E xs acc, Ex G1 G ∧ Sat K Φ G H σ E ∧ H P = some (.lst xs) ∧ RpA K G xs acc ∧ G P = none ∧ Φ.F P = none ∧ NotOwn σ E P ∧ Post K W (relL K) Φ G σ (L (ds.drop i) acc E) Q
theorem NotOwn.unwipe {σ σ' : St} {E : Env} {p : Addr} {vs : List Nat} (n : NotOwn σ' E p) (h : L2.wipe σ' vs = L2.wipe σ vs) : NotOwn σ (wipeE vs E) p := fun i s b h1 hb h2 => by
  have n1 := n.wipe vs
  rw [h] at n1
  have hi : i ∉ vs := fun z => by
    rcases wipeE_in (E := E) z with q | q
    · rw [q] at h1; cases h1; cases hb
    · rw [q] at h1; cases h1
  exact n1 i s b h1 hb (by rw [wipe_out hi]; exact h2)
theorem lc2_snd {K : PySem.W.Frag} {W : WJ} {vs is vs1 is1 : List Nat} {fi fi1 : Env → R (List D)} {g g1 : D → Env → Option Env} {t t1 : Env → R Bool} {f : Env → R D} {wi wi1 : TI} {tg tg1 : TG} {tt tt1 : TT} {te : TE} (hi : Snd K W (relW K) wi fi) (hg : GGo K is g tg) (hvs : ∀ i ∈ is, i ∈ vs) (ht : Snd K V0 relT tt t)
    (hi1 : Snd K V0 (relW K) wi1 fi1) (hg1 : GGo K is1 g1 tg1) (hvs1 : ∀ i ∈ is1, i ∈ vs1) (ht1 : Snd K V0 relT tt1 t1) (he : Snd K V0 (relE K) te f) : Snd K W (relL K) (tLc2 wi tg tt wi1 tg1 tt1 te vs vs1) (fLc2 vs fi g t fi1 vs1 g1 t1 f) := by
  intro Φ G H σ E Q S hP
  refine hi.go S hP fun ds E1 G1 H1 J _ e1 S1 wk hP => ?_
  intro P hPn
  refine ⟨Lc2W K W.w Φ G1 σ P Q (lcD2 vs g t fi1 vs1 g1 t1 f) ds, ⟨_, Nat.zero_le _, rfl, G1, E1, [], [], Ex.refl G1, S1.newH hPn, upd_same, .nil, S1.gh.back hPn, S1.fh.back hPn, S1.notOwn hPn, hP⟩, fun i m H2 w => ?_⟩
  obtain ⟨hle, rfl, G2, E2, xs, acc, x2, S2, hD, ra, gD, fD, nD, hP2⟩ := w
  obtain ⟨ws, wg⟩ := wk Φ G2 H2 σ E2 x2 S2 i hle
  by_cases hi' : i = ds.length
  · refine .inl ⟨ws hi', ?_⟩
    rw [hi', List.drop_length] at hP2
    exact hP2 G2 H2 (.ref P) (Ex.refl G2) S2 ⟨P, xs, rfl, hD, ra, gD, fD, nD⟩
  · have hlt : i < ds.length := by omega
    have hd : ds[i]? = some ds[i] := List.getElem?_eq_getElem hlt
    rw [List.drop_eq_getElem_cons hlt] at hP2
    obtain ⟨go, _⟩ := wg _ hd
    refine .inr ⟨go, fun H' => ∃ m', m' < ds.length - i ∧ Lc2W K W.w Φ G1 σ P Q (lcD2 vs g t fi1 vs1 g1 t1 f) ds (i + 1) m' H', fun H' h => h, fun x H' hy => ?_⟩
    have S2l := S2.lk hD gD nD
    obtain ⟨_, wg2⟩ := wk (Φ.lk P xs) G2 H2 σ E2 x2 S2l i hle
    obtain ⟨G3, x3, S3, r3⟩ := (wg2 _ hd).2 x H' hy
    simp only [lcD2] at hP2
    cases hgd : g ds[i] (wipeE vs E2) with
    | none => rw [hgd] at hP2; exact hP2.elim
    | some E3 =>
      rw [hgd] at hP2
      refine hg (Φ.lk P xs) G3 H' _ (wipeE vs E2) x _ E3 _ (S3.wipe vs) r3 hgd fun G4 H4 σ4 x4 S4 c4 => ?_
      have hw := wipe_of c4 hvs
      refine ⟨hw, ?_⟩
      refine ht (Φ.lk P xs) G4 H4 σ4 E3 _ S4.pw ?_
      cases hte : t E3 with
      | exc x E5 => simp only [hte] at hP2; exact hP2.elim
      | stuck => simp only [hte] at hP2; exact hP2.elim
      | ok b E5 =>
        simp only [hte] at hP2
        intro G5 H5 b' x5 S5 hb
        have hb' : b = b' := hb
        subst hb'
        have again : ∀ {ys : List V} {ac : List D} {G6 : Hp} {H6 : Hp} {E6 : Env}, Ex G2 G6 → Sat K Φ G6 H6 σ (wipeE vs E6) → H6 P = some (.lst ys) → RpA K G6 ys ac → G6 P = none → NotOwn σ (wipeE vs E6) P → Post K W.w (relL K) Φ G2 σ (lcD2 vs g t fi1 vs1 g1 t1 f (ds.drop (i + 1)) ac (wipeE vs E6)) Q →
            ∃ m', m' < ds.length - i ∧ Lc2W K W.w Φ G1 σ P Q (lcD2 vs g t fi1 vs1 g1 t1 f) ds (i + 1) m' H6 := fun x6 S6 h6 r6 g6 n6 p6 => ⟨ds.length - (i + 1), by omega, by omega, rfl, _, _, _, _, x2.trans x6, S6, h6, r6, g6, fD, n6, Post.mono x6 p6⟩
        cases b with
        | false =>
          refine iteF ?_
          obtain ⟨U1, U2, U3, U4⟩ := S5.unlk fD
          exact again (x3.trans (x4.trans x5)) (U1.unwipe hw) U2 (ra.mono (x3.trans (x4.trans x5))) U3 (U4.unwipe hw) hP2
        | true =>
          refine iteT ?_
          refine hi1 (Φ.lk P xs) G5 H5 σ4 E5 _ S5.pw ?_
          cases hfi : fi1 E5 with
          | exc x E6 => simp only [hfi] at hP2; exact hP2.elim
          | stuck => simp only [hfi] at hP2; exact hP2.elim
          | ok es E6 =>
            simp only [hfi] at hP2
            intro G6 H6 J1 x6 S6 wk1
            obtain ⟨U1, U2, U3, U4⟩ := S6.unlk fD
            have xx := x3.trans (x4.trans (x5.trans x6))
            refine ⟨_, ⟨_, Nat.zero_le _, rfl, G6, E6, xs, acc, Ex.refl G6, U1, U2, ra.mono xx, U3, fD, U4, ?_⟩, lc_loop (W := W0) (P := P) (vs := vs1) (t := t1) (f := f) (Fin := fun H' => ∃ m', m' < ds.length - i ∧ Lc2W K W.w Φ G1 σ P Q (lcD2 vs g t fi1 vs1 g1 t1 f) ds (i + 1) m' H') wk1 hg1 hvs1 ht1 he⟩
            show Post K W0 (relL K) Φ G6 σ4 (lcD vs1 g1 t1 f es acc E6) _
            cases hl : lcD vs1 g1 t1 f es acc E6 with
            | exc x E7 => simp only [hl] at hP2; exact hP2.elim
            | stuck => simp only [hl] at hP2; exact hP2.elim
            | ok ac E7 =>
              simp only [hl] at hP2
              intro G7 H7 v x7 S7 rl hv
              obtain ⟨p, ys, rfl, l1, l2, l3, l4, l5⟩ := rl
              cases hv
              exact again (xx.trans x7) (S7.unwipe hw) l1 l2 l3 (l5.unwipe hw) hP2
section
variable {X : Cx} {elt tg iter tg1 iter1 : Expr} {ifs ifs1 : List Expr} {scope : Scope} {pos : Pos} {is is1 : List Nat} {fi fi1 : Env → R (List D)} {g g1 : D → Env → Option Env} {t t1 : Env → R Bool} {f : Env → R D}
theorem jl_lc2 {W : WJ} (own : List (Str × Nat)) (vs1 : List Nat) (hc : X.calm = true) (hN : X.N.Nodup) (hi : JI X W tg iter fi) (ok : BlkOk X.N X.env.scope scope own) (hv : ∀ i ∈ vs1, i ∈ own.map (·.2))
    (hg : ∀ (s : Shared) (H : Hp) (C : Addr) (cl : List (Str × Addr)) (fp : List Addr), JG (X.blk s H scope (compEnvC scope cl C X.env) fp) tg is g) (hvs : ∀ i ∈ is, i ∈ own.map (·.2)) (ht : ∀ (s : Shared) (H : Hp) (C : Addr) (cl : List (Str × Addr)) (fp : List Addr), JTs (X.blk s H scope (compEnvC scope cl C X.env) fp) V0 ifs t)
    (hi1 : ∀ (s : Shared) (H : Hp) (C : Addr) (cl : List (Str × Addr)) (fp : List Addr), JI (X.blk s H scope (compEnvC scope cl C X.env) fp) V0 tg1 iter1 fi1)
    (hg1 : ∀ (s : Shared) (H : Hp) (C : Addr) (cl : List (Str × Addr)) (fp : List Addr), JG (X.blk s H scope (compEnvC scope cl C X.env) fp) tg1 is1 g1) (hvs1 : ∀ i ∈ is1, i ∈ vs1) (ht1 : ∀ (s : Shared) (H : Hp) (C : Addr) (cl : List (Str × Addr)) (fp : List Addr), JTs (X.blk s H scope (compEnvC scope cl C X.env) fp) V0 ifs1 t1)
    (he : ∀ (s : Shared) (H : Hp) (C : Addr) (cl : List (Str × Addr)) (fp : List Addr), JE (X.blk s H scope (compEnvC scope cl C X.env) fp) V0 elt f) (hs : ∀ x, foldedSetIterable iter X.env x = pure x := by intro _; rfl) (hs1 : ∀ env x, foldedSetIterable iter1 env x = pure x := by intro _ _; rfl) :
    JL X W (.ListComp elt [⟨tg, iter, ifs, 0⟩, ⟨tg1, iter1, ifs1, 0⟩] scope pos) (fLc2 (own.map (·.2)) fi g t fi1 vs1 g1 t1 f) := by
  obtain ⟨wi, p1, s1⟩ := hi
  exact ⟨_, pe_lc2 hc hN p1 ok hv (fun s H C cl fp => (hg s H C cl fp).can) (fun s H C cl fp => (ht s H C cl fp).can) (fun s H C cl fp => (hi1 s H C cl fp).can) (fun s H C cl fp => (hg1 s H C cl fp).can) (fun s H C cl fp => (ht1 s H C cl fp).can) (fun s H C cl fp => (he s H C cl fp).can) hs hs1,
    lc2_snd s1 canG.go hvs canE.snd canE.snd canG.go hvs1 canE.snd canE.snd⟩
theorem js_setLc2 {W : WX} (i : Nat) {y : Str} {py spos : Pos} (own : List (Str × Nat)) (vs1 : List Nat) (hc : X.calm = true) (hN : X.N.Nodup) (hi : JI X (pw W) tg iter fi) (ok : BlkOk X.N X.env.scope scope own) (hv : ∀ i ∈ vs1, i ∈ own.map (·.2))
    (hg : ∀ (s : Shared) (H : Hp) (C : Addr) (cl : List (Str × Addr)) (fp : List Addr), JG (X.blk s H scope (compEnvC scope cl C X.env) fp) tg is g) (hvs : ∀ i ∈ is, i ∈ own.map (·.2)) (ht : ∀ (s : Shared) (H : Hp) (C : Addr) (cl : List (Str × Addr)) (fp : List Addr), JTs (X.blk s H scope (compEnvC scope cl C X.env) fp) V0 ifs t)
    (hi1 : ∀ (s : Shared) (H : Hp) (C : Addr) (cl : List (Str × Addr)) (fp : List Addr), JI (X.blk s H scope (compEnvC scope cl C X.env) fp) V0 tg1 iter1 fi1)
    (hg1 : ∀ (s : Shared) (H : Hp) (C : Addr) (cl : List (Str × Addr)) (fp : List Addr), JG (X.blk s H scope (compEnvC scope cl C X.env) fp) tg1 is1 g1) (hvs1 : ∀ i ∈ is1, i ∈ vs1) (ht1 : ∀ (s : Shared) (H : Hp) (C : Addr) (cl : List (Str × Addr)) (fp : List Addr), JTs (X.blk s H scope (compEnvC scope cl C X.env) fp) V0 ifs1 t1)
    (he : ∀ (s : Shared) (H : Hp) (C : Addr) (cl : List (Str × Addr)) (fp : List Addr), JE (X.blk s H scope (compEnvC scope cl C X.env) fp) V0 elt f)
    (hy : X.N[i]? = some y := by rfl) (hyl : X.env.scope.names.lookup y = some .local := by rfl) (hk : X.env.scope.kind = .function := by rfl) (hl3 : (py.line == pos.line) = true := by rfl)
    (ha : (scope.names.any fun (n, k) => n == y && (k == .local || k == .cell)) = false := by decide +kernel) (hs : ∀ x, foldedSetIterable iter X.env x = pure x := by intro _; rfl) (hs1 : ∀ env x, foldedSetIterable iter1 env x = pure x := by intro _ _; rfl) :
    JS X W (.Assign [.Name y py] (.ListComp elt [⟨tg, iter, ifs, 0⟩, ⟨tg1, iter1, ifs1, 0⟩] scope pos) spos) (sSetL i (fLc2 (own.map (·.2)) fi g t fi1 vs1 g1 t1 f)) := by
  obtain ⟨wi, p1, s1⟩ := hi
  refine ⟨_, ps_setLc2 (g := canG X.K is g) (tt := canE X.K V0 relT t) (wi1 := canE X.K V0 (relW X.K) fi1) (g1 := canG X.K is1 g1) (tt1 := canE X.K V0 relT t1) (te := canE X.K V0 (relE X.K) f) hc hN hy hyl (sw_true hk hyl hl3 ha) p1 ok hv (fun s H C cl fp => (hg s H C cl fp).can) (fun s H C cl fp => (ht s H C cl fp).can) (fun s H C cl fp => (hi1 s H C cl fp).can)
    (fun s H C cl fp => (hg1 s H C cl fp).can) (fun s H C cl fp => (ht1 s H C cl fp).can) (fun s H C cl fp => (he s H C cl fp).can) hs hs1, fun Φ G H σ E D S hp => ?_⟩
  have sn : Snd X.K (pw W) (relL X.K) _ (fLc2 (own.map (·.2)) fi g t fi1 vs1 g1 t1 f) := lc2_snd s1 (canG.go (K := X.K) (is := is) (g := g)) hvs (canE.snd (K := X.K) (W := V0) (rel := relT) (f := t)) (canE.snd (K := X.K) (W := V0) (rel := relW X.K) (f := fi1)) (canG.go (K := X.K) (is := is1) (g := g1)) hvs1 (canE.snd (K := X.K) (W := V0) (rel := relT) (f := t1)) (canE.snd (K := X.K) (W := V0) (rel := relE X.K) (f := f))
  refine sn.goS S hp fun l E' G' H' v _ e' S' r hp => ?_
  obtain ⟨q, vs, rfl, h1, h2, h3, h4, h5⟩ := r
  exact hp G' H' _ (Ex.refl G') (S'.setO h1 h2 h3 h4 h5)
end
end J

namespace J
open PySem PySem.Spec PyProof.Rows L2

/-! ### x <= y of ints and tuples of such -/
mutual
def numP : PyData → Bool
  | .int _ => true
  | .tuple xs => numPs xs
  | _ => false
def numPs : List PyData → Bool
  | [] => true
  | x :: xs => numP x && numPs xs
end
mutual
def leP : PyData → PyData → Bool
  | .int i, y => match y with | .int j => decide (i ≤ j) | _ => false
  | .tuple xs, y => match y with | .tuple ys => lePs xs ys | _ => false
  | _, _ => false
def lePs : List PyData → List PyData → Bool
  | [], _ => true
  | x :: xs, ys => match ys with
    | [] => false
    | y :: ys => if PyData.eqv x y = true then lePs xs ys else leP x y
end
theorem lexAt_up {e r : Nat → Bool} {z : Bool} : ∀ (k i : Nat), Ob.lexAt (fun j => e (j + 1)) (fun j => r (j + 1)) z i k = Ob.lexAt e r z (i + 1) k
  | 0, i => rfl
  | k + 1, i => by rw [Ob.lexAt_succ, Ob.lexAt_succ, lexAt_up k (i + 1)]
theorem lePs_lex : ∀ (xs ys : List PyData), lePs xs ys = Ob.lexAt (fun j => PyData.eqv (xs.getD j .none) (ys.getD j .none)) (fun j => leP (xs.getD j .none) (ys.getD j .none)) (decide (xs.length ≤ ys.length)) 0 (min xs.length ys.length)
  | [], ys => by simp [lePs, Ob.lexAt]
  | x :: xs, [] => by simp [lePs, Ob.lexAt]
  | x :: xs, y :: ys => by
    have h := lePs_lex xs ys
    have hm : min (x :: xs).length (y :: ys).length = min xs.length ys.length + 1 := by simp only [List.length_cons]; omega
    have hd : decide ((x :: xs).length ≤ (y :: ys).length) = decide (xs.length ≤ ys.length) := by simp
    rw [hm, hd, Ob.lexAt_succ, lePs, ← lexAt_up, h]
    rfl
open PySem.W in
mutual
theorem rc_le : ∀ (x y : PyData) (A : Around) (s : Shared) (a b : Value) (as bs : List Addr), Reads s.heap a x as → Reads s.heap b y bs → alike x y = true → numP x = true → A.units + min x.depth y.depth < cLine → Ob.RcOp .LtE A s a b (leP x y)
  | .int i, y, A, s, a, b, as, bs, ra, rb, h, hn, hu => by
    cases y with
    | int j => cases ra; cases rb; exact Ob.RcOp.le_int _ _ _ _
    | _ => simp [alike] at h
  | .tuple xs, y, A, s, a, b, as, bs, ra, rb, h, hn, hu => by
    cases y with
    | tuple ys =>
      have hal : alikeAll xs ys = true := by simpa [alike] using h
      have hns : numPs xs = true := by simpa [numP] using hn
      cases ra with
      | @tuple l o vs n _ as₁ h1 h2 h3 h4 =>
        cases rb with
        | @tuple l' o' vs' n' _ bs₁ k1 k2 k3 k4 =>
          have n1 : vs.size = xs.length := by simpa using SeqAt.ReadsAll.length _ _ _ h4
          have n2 : vs'.size = ys.length := by simpa using SeqAt.ReadsAll.length _ _ _ k4
          have e : leP (.tuple xs) (.tuple ys) = Ob.lexAt (fun j => PyData.eqv (xs.getD j .none) (ys.getD j .none)) (fun j => leP (xs.getD j .none) (ys.getD j .none)) (decide (vs.size ≤ vs'.size)) 0 (min vs.size vs'.size) := by rw [n1, n2, ← lePs_lex]; rfl
          rw [e]
          refine Ob.RcOp.tuples_le ⟨_, h1, h2, _, h3⟩ ⟨_, k1, k2, _, k3⟩ (SeqAt.room_here hu) (fun j j1 j2 => ?_) fun j j1 j2 hj => ?_
          · have q := eqAt_alikeAll xs ys A.in1 s vs.toList vs'.toList _ _ h4 k4 hal (SeqAt.room_in hu) j (by simpa using j1) (by simpa using j2)
            have e3 : SeqAt.pairEq xs ys j = PyData.eqv (xs.getD j .none) (ys.getD j .none) := rfl
            rw [← e3]
            simpa using q
          · have q := rc_les xs ys A.in1 s vs.toList vs'.toList _ _ h4 k4 hal hns (SeqAt.room_in hu) j (by simpa using j1) (by simpa using j2)
            simpa using q
    | _ => simp [alike] at h
  | .none, y, A, s, a, b, as, bs, ra, rb, h, hn, hu => by simp [numP] at hn
  | .bool _, y, A, s, a, b, as, bs, ra, rb, h, hn, hu => by simp [numP] at hn
  | .str _, y, A, s, a, b, as, bs, ra, rb, h, hn, hu => by simp [numP] at hn
  | .list _, y, A, s, a, b, as, bs, ra, rb, h, hn, hu => by simp [numP] at hn
  | .dict _, y, A, s, a, b, as, bs, ra, rb, h, hn, hu => by simp [numP] at hn
theorem rc_les : ∀ (xs ys : List PyData) (A : Around) (s : Shared) (vs ws : List Value) (as bs : List Addr), ReadsAll s.heap vs xs as → ReadsAll s.heap ws ys bs → alikeAll xs ys = true → numPs xs = true → A.units + min (PyData.depthAll xs) (PyData.depthAll ys) < cLine →
    ∀ j (h1 : j < vs.length) (h2 : j < ws.length), Ob.RcOp .LtE A s vs[j] ws[j] (leP (xs.getD j .none) (ys.getD j .none))
  | [], _, _, _, _, _, _, _, ra, _, _, _, _, j, h1, _ => by cases ra; exact absurd h1 (Nat.not_lt_zero _)
  | _ :: _, [], _, _, _, _, _, _, _, rb, _, _, _, j, _, h2 => by cases rb; exact absurd h2 (Nat.not_lt_zero _)
  | x :: xs, y :: ys, A, s, _, _, _, _, ra, rb, h, hn, hu, j, h1, h2 => by
    have hn' : numP x = true ∧ numPs xs = true := by simpa [numPs] using hn
    cases ra with
    | cons r rs =>
      cases rb with
      | cons r' rs' =>
        cases j with
        | zero => exact rc_le x y A s _ _ _ _ r r' (alike_all_cons h).1 hn'.1 (SeqAt.room_head hu)
        | succ j => exact rc_les xs ys A s _ _ _ _ rs rs' (alike_all_cons h).2 hn'.2 (SeqAt.room_tail hu) j (Nat.lt_of_succ_lt_succ h1) (Nat.lt_of_succ_lt_succ h2)
end
abbrev rLeP (K : PySem.W.Frag) : R2 := fun x y H Q => ∃ d e, Dp K H x d ∧ Dp K H y e ∧ PySem.W.alike d e = true ∧ numP d = true ∧ d.depth ≤ 60 ∧ Q (.bl (leP d e)) H
theorem op_leP {X : Cx} (hu : X.A.units + 64 < cLine) : OpR X (compareOp .LtE) (rLeP X.K) := by
  intro pins s σ H x y v u Q I rx ry h
  obtain ⟨d, e, hd, he, ha, hn, hz, q⟩ := h
  obtain ⟨as, r1⟩ := Dp.reads I d x v hd rx
  obtain ⟨bs, r2⟩ := Dp.reads I e y u he ry
  have R := rc_le d e X.A s v u as bs r1 r2 ha hn (by omega)
  exact R X.prog X.w X.xe (EP X pins σ Q) ⟨.bl _, H, I, rfl, q⟩
def gLeP : D → D → Option D := fun a b => if (plain a && plain b && PySem.W.alike (toPy a) (toPy b) && numP (toPy a) && decide ((toPy a).depth ≤ 60)) = true then some (.bl (leP (toPy a) (toPy b))) else none
theorem opS_leP {K : PySem.W.Frag} : OpS K (rLeP K) gLeP := by
  intro Φ G H σ E x y a b d Q S ha hb hd k
  obtain ⟨c, rfl⟩ := if_some hd
  simp only [Bool.and_eq_true, decide_eq_true_eq] at c
  obtain ⟨⟨⟨⟨c1, c2⟩, c3⟩, c4⟩, c5⟩ := c
  exact ⟨_, _, ha.dp c1 S.gh, hb.dp c2 S.gh, c3, c4, c5, k G H _ (Ex.refl G) (Ex.refl H) S (.bl _)⟩
end J

namespace J
open PySem PySem.Spec PyProof.Rows L2

/-! ### the head's facts: own exception classes too -/
def oexB (K : PySem.W.Frag) (C : Addr) : Bool := match K.lookup C with
  | some ⟨.type "type", _, .cls cd, sl⟩ => (match cd.mro, sl.toList with
    | .ref C' :: bm, [_, _, _, _, some (.builtin n), _] => C' == C && (n == "ValueError.__new__" && (!cd.hasDel && (cd.hasDict && PySem.HandSPX.refsVE bm)))
    | _, _ => false)
  | _ => false
theorem oexB_ok {K : PySem.W.Frag} {C : Addr} (h : oexB K C = true) : ∃ nm q N bs bm sn sub ab col dd k0 k1 k2 k3 k5, K.lookup C = some (excClassObj nm q C N bs bm true sn sub ab col dd k0 k1 k2 k3 k5 "ValueError.__new__") ∧ PySem.HandSPX.refsVE bm = true := by
  unfold oexB at h
  split at h
  · rename_i dd cd sl ho
    split at h
    · rename_i C' bm k0 k1 k2 k3 n k5 hm hs
      simp only [Bool.and_eq_true, beq_iff_eq, Bool.not_eq_true'] at h
      obtain ⟨rfl, rfl, hdel, hdct, hbm⟩ := h
      obtain ⟨nm, bs, mro, ns, qn, hd, sn, sub, ab, col, del⟩ := cd
      dsimp only at hm hdel hdct
      subst hm hdel hdct
      obtain ⟨l⟩ := sl
      simp only at hs
      subst hs
      exact ⟨nm, qn, ns, bs, bm, sn, sub, ab, col, dd, k0, k1, k2, k3, k5, ho, hbm⟩
    · cases h
  · cases h
inductive Cn where
  | own (c : Str)
  | ty (t : String)
def Cn.v (K : PySem.W.Frag) : Cn → Value
  | .own c => .ref (He.ga K c)
  | .ty t => .type t
inductive Fb where
  | any
  | exc (c : Str)
  | sup (c : Str)
  | noat (c f : Str)
  | exm (a b : Str) (r : Bool)
  | kit1 (a : Str) (c : Cn) (r : Bool)
  | kitN (a : Str) (cs : List Cn) (r : Bool)
def excB (K : PySem.W.Frag) (C : Addr) : Bool := oexB K C && (He.eqO (PySem.W.findIn K (.ref C) "__setattr__") (some (some (.builtin "object.__setattr__"))) && (decide (PySem.W.subIn K (.ref C) (.type "BaseException") = some true) && (decide (PySem.W.typeIn K (.ref C) = some (.type "type")) && (PySem.W.keepIn K (.ref C) &&
  (He.eqO (PySem.W.findIn K (.ref C) "__getattribute__") (some (some (.builtin "BaseException.__getattribute__"))) && (He.eqO (PySem.W.findIn K (.ref C) "__getattr__") (some none) && (PySem.W.hasDictIn K C && (He.eqO (PySem.W.findIn K (.ref C) "__class__") (some (some (.builtin "object.__class__"))) &&
  (He.eqO (PySem.W.specialIn K (.builtin "object.__class__") "__get__") (some (some (.builtin "getset_descriptor.__get__"))) && (decide (PySem.W.takesIn K (.builtin "object.__class__") = some true) && decide (PySem.W.mroIn K C (.type "object") = some true)))))))))))
def supB (K : PySem.W.Frag) (C : Addr) : Bool := He.eqO (PySem.W.ks_superIn K C C "__init__") (some (some (.builtin "ValueError.__init__"))) && (decide (PySem.W.subIn K (.ref C) (.type "ValueError") = some true) && (decide (PySem.W.mroIn K C (.ref C) = some true) &&
  (He.eqO (PySem.W.findIn K (.ref C) "__init__") (some (some (.ref (He.ma K C "__init__")))) && decide (PySem.W.typeIn K (.ref (He.ma K C "__init__")) = some (.type "function")))))
def Fb.ok (K : PySem.W.Frag) : Fb → Bool
  | .any => He.eqO (PySem.W.nsIn K PySem.cStatics "thirdparty.any") (some none)
  | .exc c => excB K (He.ga K c)
  | .sup c => supB K (He.ga K c)
  | .noat c f => He.eqO (PySem.W.findIn K (.ref (He.ga K c)) f) (some none)
  | .exm a b r => decide (PySem.W.exmOne K (.ref (He.ga K a)) (.ref (He.ga K b)) = some r)
  | .kit1 a c r => decide (PySem.W.kitOne K (.ref (He.ga K a)) (c.v K) = some r)
  | .kitN a cs r => decide (PySem.W.kitAny K (.ref (He.ga K a)) (cs.map (Cn.v K)) = some r)
section
variable {K : PySem.W.Frag} {C : Addr}
theorem excB_oex (h : excB K C = true) : OexC K C := by
  unfold excB at h
  simp only [Bool.and_eq_true] at h
  obtain ⟨h1, h2, h3, h4, h5, _⟩ := h
  exact ⟨oexB_ok h1, He.eqO_ok h2, of_decide_eq_true h3, of_decide_eq_true h4, h5⟩
theorem excB_exc (h : excB K C = true) : ExcC K C := by
  unfold excB at h
  simp only [Bool.and_eq_true] at h
  obtain ⟨h1, h2, h3, h4, h5, h6, h7, h8, h9, h10, h11, h12⟩ := h
  exact ⟨He.eqO_ok h6, He.eqO_ok h7, of_decide_eq_true h3, h8, He.eqO_ok h9, He.eqO_ok h10, of_decide_eq_true h11, of_decide_eq_true h12⟩
theorem excB_xf (h : excB K C = true) : XfC K C := by
  have T := excB_exc h
  exact ⟨T.hg, T.hk, T.hs, T.hd⟩
end

/-! ### an __init__ that closes over __class__ -/
structure DefS where
  c : Str
  name : Str
  qual : Str
  params : Arguments
  body : List Stmt
  scope : Scope
  file : Str
abbrev FnS : Type := Option (Str × Str × Arguments × FuncBody × Scope × Addr × List Str × Addr)
def fnS (K : PySem.W.Frag) (c : Str) : FnS := match K.lookup (He.ma K (He.ga K c) "__init__") with
  | some ⟨_, _, .func fd, _⟩ => some (fd.name, fd.qualname, fd.params, fd.body, fd.scope, fd.globals, fd.closure.map (·.1), fd.builtins)
  | _ => none
def DefS.val (d : DefS) : FnS := some (d.name, d.qual, d.params, .stmts d.body, d.scope, mainGlobals, ["__class__"], builtinsNs)
def cellB (K : PySem.W.Frag) (C : Addr) (cl : List (Str × Addr)) : Bool := match cl with
  | [(_, cc)] => (match K.lookup cc with
    | some ⟨_, _, .cell (some (.ref D)), _⟩ => decide (D = C)
    | _ => false)
  | _ => false
def fileB (K : PySem.W.Frag) (file : Str) (cd : Value) : Bool := match cd with
  | .ref a => (match K.lookup a with
    | some ⟨_, _, Data.fields vs, _⟩ => (match vs[2]? with
      | some (Value.str f _) => (file : Str) == f
      | _ => false)
    | _ => false)
  | _ => false
def noneB : Value → Bool
  | .none => true
  | _ => false
def DefS.ok (K : PySem.W.Frag) (d : DefS) : Bool := match K.lookup (He.ma K (He.ga K d.c) "__init__") with
  | some ⟨_, _, .func fd, _⟩ => PySem.W.codeIn K fd.code d.qual && (cellB K (He.ga K d.c) fd.closure && (fileB K d.file fd.code && noneB fd.defaults))
  | _ => false
structure FunS (K : PySem.W.Frag) (d : DefS) (f : Addr) (fd : FuncData) : Prop where
  ex : ∃ (oc : Value) (od : Option Addr) (kV doc pm ct cl : Value) (an cld : Option Addr) (cda cc : Addr) (osl csl : Array (Option Value)) (ccl : Value) (cdd : Option Addr) (vs : Array Value) (ccs : Array (Option Value)) (file : Str) (tf : Tok),
    fd = PySem.W.ksFn d.name d.qual d.params d.body d.scope .none kV doc pm an (.ref cda) ct cc ∧ K.lookup f = some ⟨oc, od, .func fd, osl⟩ ∧ PySem.W.codeIn K (.ref cda) d.qual = true ∧ K.lookup cc = some ⟨cl, cld, .cell (some (.ref (He.ga K d.c))), csl⟩ ∧
      K.lookup cda = some ⟨ccl, cdd, .fields vs, ccs⟩ ∧ vs[2]? = some (.str file tf) ∧ ((d.file : Str) == file) = true
theorem DefS.funS {K : PySem.W.Frag} {d : DefS} (e : fnS K d.c = d.val) (c : d.ok K = true) : ∃ fd, FunS K d (He.ma K (He.ga K d.c) "__init__") fd := by
  unfold DefS.ok at c
  unfold fnS at e
  cases q : K.lookup (He.ma K (He.ga K d.c) "__init__") with
  | none => rw [q] at c; cases c
  | some o =>
    obtain ⟨oc, od, dt, osl⟩ := o
    rw [q] at c e
    cases dt with
    | func fd =>
      obtain ⟨n1, n2, n3, n4, n5, n6, n7, n8, n9, n10, n11, n12, n13, n14, n15⟩ := fd
      have e2 : (some (n1, n2, n3, n4, n5, n6, n7.map (·.1), n15) : FnS) = (some (d.name, d.qual, d.params, .stmts d.body, d.scope, mainGlobals, ["__class__"], builtinsNs) : FnS) := e
      simp only [Option.some.injEq, Prod.mk.injEq] at e2
      obtain ⟨h1, h2, h3, h4, h5, h6, h7, h8⟩ := e2
      subst h1 h2 h3 h4 h5 h6 h8
      have c3 : (PySem.W.codeIn K n13 d.qual && (cellB K (He.ga K d.c) n7 && (fileB K d.file n13 && noneB n8))) = true := c
      simp only [Bool.and_eq_true] at c3
      obtain ⟨k1, k2, k3, k4⟩ := c3
      cases n7 with
      | nil => simp at h7
      | cons p r =>
        cases r with
        | cons _ _ => simp at h7
        | nil =>
          obtain ⟨x, cc⟩ := p
          have hx : x = "__class__" := by simpa using h7
          subst hx
          have k2' : (match K.lookup cc with
            | some ⟨_, _, .cell (some (.ref D)), _⟩ => decide (D = He.ga K d.c)
            | _ => false) = true := k2
          split at k2'
          · rename_i cl cld D csl hc
            have hD : D = He.ga K d.c := of_decide_eq_true k2'
            subst hD
            cases n13 with
            | ref cda =>
              have k3' : (match K.lookup cda with
                | some ⟨_, _, Data.fields vs, _⟩ => (match vs[2]? with
                  | some (Value.str f _) => (d.file : Str) == f
                  | _ => false)
                | _ => false) = true := k3
              split at k3'
              · rename_i ccl cdd vs ccs hcd
                split at k3'
                · rename_i file tf hv
                  cases n8 with
                  | none => exact ⟨_, oc, od, n9, n10, n11, n14, cl, n12, cld, cda, cc, osl, csl, ccl, cdd, vs, ccs, file, tf, rfl, q, k1, hc, hcd, hv, k3'⟩
                  | _ => cases k4
                · cases k3'
              · cases k3'
            | _ => cases k3
          · cases k2'
    | _ => cases c
theorem FunS.binds {K : PySem.W.Frag} {d : DefS} {f : Addr} {fd : FuncData} {ps : List Str} (F : FunS K d f fd)
    (h : ∀ (kV doc pm ct : Value) (an : Option Addr) (cda cc : Addr) (us : List Value), us.length = ps.length → bindArgs (PySem.W.ksFn d.name d.qual d.params d.body d.scope .none kV doc pm an (.ref cda) ct cc) ⟨us, []⟩ = pure (ps.zip us)) : Binds K fd ps [] := by
  obtain ⟨oc, od, kV, doc, pm, ct, cl, an, cld, cda, cc, osl, csl, ccl, cdd, vs, ccs, file, tf, rfl, _⟩ := F.ex
  exact .all (h kV doc pm ct an cda cc)

/-! ### the Hook -/
abbrev AlJ : Type := Bool × List He.FnW × List FnS
def obsJ (fa : List He.Fa) (fb : List Fb) (fn : List He.DefD) (fs : List DefS) (K : PySem.W.Frag) : AlJ := ((fa.all fun f => f.ok K) && ((fb.all fun f => f.ok K) && ((fn.all fun d => d.ok K) && fs.all fun d => d.ok K)), fn.map fun d => He.fnW K d.at_, fs.map fun d => fnS K d.c)
def valJ (fn : List He.DefD) (fs : List DefS) : AlJ := (true, fn.map He.DefD.val, fs.map DefS.val)
def SaysJ (fa : List He.Fa) (fb : List Fb) (fn : List He.DefD) (fs : List DefS) (K : PySem.W.Frag) : Prop := obsJ fa fb fn fs K = valJ fn fs
def asJ (g : Addr → Option Obj) (n : Nat) : List Addr := He.growD g (PySem.cStatics :: He.asD g n)
def obsJG (n : Nat) (fa : List He.Fa) (fb : List Fb) (fn : List He.DefD) (fs : List DefS) (g : Addr → Option Obj) : AlJ := obsJ fa fb fn fs (He.frG g (asJ g n))
def hookJ (n : Nat) (fa : List He.Fa) (fb : List Fb) (fn : List He.DefD) (fs : List DefS) : PySem.W.Hook where
  α := AlJ
  obs := fun s => obsJG n fa fb fn fs s.heap.get?
  val := fun _ => valJ fn fs
  says := fun _ h => ∃ K : PySem.W.Frag, K.In h ∧ SaysJ fa fb fn fs K
  of := fun _ _ e => ⟨_, He.frG_in, e⟩
  keeps := fun _ _ _ ⟨K, hK, c⟩ k => ⟨K, PySem.W.Frag.In.keeps hK k, c⟩
theorem obsJG_eq {n : Nat} {fa : List He.Fa} {fb : List Fb} {fn : List He.DefD} {fs : List DefS} {g : Addr → Option Obj} {s : Shared} (h : ∀ a, g a = s.heap.get? a) : obsJG n fa fb fn fs g = (hookJ n fa fb fn fs).obs s := by
  have e : g = s.heap.get? := funext h
  rw [e] <;> rfl
section
variable {fa : List He.Fa} {fb : List Fb} {fn : List He.DefD} {fs : List DefS} {K : PySem.W.Frag}
theorem SaysJ.alls (c : SaysJ fa fb fn fs K) : (∀ f ∈ fa, f.ok K = true) ∧ (∀ f ∈ fb, f.ok K = true) ∧ (∀ d ∈ fn, d.ok K = true) ∧ ∀ d ∈ fs, d.ok K = true := by
  have c1 : ((fa.all fun f => f.ok K) && ((fb.all fun f => f.ok K) && ((fn.all fun d => d.ok K) && fs.all fun d => d.ok K))) = true := congrArg (fun z : AlJ => z.1) c
  simp only [Bool.and_eq_true, List.all_eq_true] at c1
  exact c1
theorem SaysJ.fact (c : SaysJ fa fb fn fs K) (i : Nat) {f : He.Fa} (h : fa[i]? = some f := by rfl) : f.ok K = true := c.alls.1 f (List.mem_of_getElem? h)
theorem SaysJ.factB (c : SaysJ fa fb fn fs K) (i : Nat) {f : Fb} (h : fb[i]? = some f := by rfl) : f.ok K = true := c.alls.2.1 f (List.mem_of_getElem? h)
theorem SaysJ.def_ (c : SaysJ fa fb fn fs K) (i : Nat) {d : He.DefD} (h : fn[i]? = some d := by rfl) : ∃ fd, FunD K d.name d.qual d.params d.body d.scope (d.dvs K) (d.kws K) (He.fAd K d.at_) fd := by
  have e : fn.map (fun d => He.fnW K d.at_) = fn.map He.DefD.val := congrArg (fun z : AlJ => z.2.1) c
  have e2 : (fn.map fun d => He.fnW K d.at_)[i]? = (fn.map He.DefD.val)[i]? := by rw [e]
  rw [List.getElem?_map, List.getElem?_map, h] at e2
  exact He.DefD.funD (Option.some.inj e2) (c.alls.2.2.1 d (List.mem_of_getElem? h))
theorem SaysJ.ini (c : SaysJ fa fb fn fs K) (i : Nat) {d : DefS} (h : fs[i]? = some d := by rfl) : ∃ fd, FunS K d (He.ma K (He.ga K d.c) "__init__") fd := by
  have e : fs.map (fun d => fnS K d.c) = fs.map DefS.val := congrArg (fun z : AlJ => z.2.2) c
  have e2 : (fs.map fun d => fnS K d.c)[i]? = (fs.map DefS.val)[i]? := by rw [e]
  rw [List.getElem?_map, List.getElem?_map, h] at e2
  exact DefS.funS (Option.some.inj e2) (c.alls.2.2.2 d (List.mem_of_getElem? h))
end
end J

namespace J
open PySem PySem.Spec PyProof.Rows L2

/-! ### fields by name -/
def fldD (f : Str) : List Str → List D → Option D
  | n :: ns, d :: ds => if f == n then some d else fldD f ns ds
  | _, _ => none
def putN (f : Str) : List Str → List Str
  | [] => [f]
  | n :: ns => if n = f then n :: ns else n :: putN f ns
def putL {α : Type} (f : Str) (x : α) : List Str → List α → List α
  | [], _ => [x]
  | n :: ns, d :: ds => if n = f then x :: ds else d :: putL f x ns ds
  | _ :: _, [] => []
section
variable {K : PySem.W.Frag} {G : Hp}
theorem fld_zip {f : Str} : ∀ {ns : List Str} {vs : List V} {ds : List D} {d : D}, RpA K G vs ds → vs.length = ns.length → fldD f ns ds = some d → ∃ v, (ns.zip vs).lookup f = some v ∧ Rp K G v d
  | [], _, _, _, _, _, e => by cases e
  | n :: ns, [], _, _, _, hl, _ => by simp at hl
  | n :: ns, v :: vs, _, _, .cons r rs, hl, e => by
    unfold fldD at e
    by_cases h : (f == n) = true
    · rw [if_pos h] at e; cases e
      exact ⟨v, by simp only [List.zip_cons_cons, List.lookup, h], r⟩
    · rw [if_neg h] at e
      obtain ⟨w, h1, h2⟩ := fld_zip rs (by simpa using hl) e
      exact ⟨w, by simp only [List.zip_cons_cons, List.lookup, Bool.eq_false_iff.mpr h]; exact h1, h2⟩
theorem fld_no {f : Str} : ∀ {ns : List Str} {vs : List V}, ns.contains f = false → (ns.zip vs).lookup f = none
  | [], vs, _ => by cases vs <;> rfl
  | n :: ns, [], _ => rfl
  | n :: ns, v :: vs, h => by
    rw [List.contains_cons, Bool.or_eq_false_iff] at h
    simp only [List.zip_cons_cons, List.lookup, h.1]
    exact fld_no h.2
theorem put_zip {f : Str} {v : V} : ∀ {ns : List Str} {vs : List V}, vs.length = ns.length → L2.putF f v (ns.zip vs) = (putN f ns).zip (putL f v ns vs)
  | [], [], _ => rfl
  | [], _ :: _, h => by simp at h
  | _ :: _, [], h => by simp at h
  | n :: ns, x :: vs, h => by
    simp only [List.zip_cons_cons, L2.putF, putN, putL]
    by_cases e : n = f
    · simp only [if_pos e, List.zip_cons_cons]
    · simp only [if_neg e, List.zip_cons_cons]
      rw [put_zip (by simpa using h)]
theorem put_len {α : Type} {f : Str} {x : α} : ∀ {ns : List Str} {vs : List α}, vs.length = ns.length → (putL f x ns vs).length = (putN f ns).length
  | [], [], _ => rfl
  | [], _ :: _, h => by simp at h
  | _ :: _, [], h => by simp at h
  | n :: ns, y :: vs, h => by
    simp only [putN, putL]
    by_cases e : n = f
    · simp only [if_pos e, List.length_cons]; simpa using h
    · simp only [if_neg e, List.length_cons]; rw [put_len (by simpa using h)]
theorem put_rp {f : Str} {v : V} {d : D} (r : Rp K G v d) : ∀ {ns : List Str} {vs : List V} {ds : List D}, RpA K G vs ds → vs.length = ns.length → RpA K G (putL f v ns vs) (putL f d ns ds)
  | [], [], _, .nil, _ => .cons r .nil
  | [], _ :: _, _, _, h => by simp at h
  | _ :: _, [], _, _, h => by simp at h
  | n :: ns, y :: vs, _, .cons q qs, h => by
    simp only [putL]
    by_cases e : n = f
    · simp only [if_pos e]; exact .cons r qs
    · simp only [if_neg e]; exact .cons q (put_rp r qs (by simpa using h))
end
/-- the classes named by ok have instances with a plain attribute f -/
def FldOk (K : PySem.W.Frag) (ok : Str → Bool) (f : Str) : Prop := ∀ c, ok c = true → Cls K (He.ga K c) ∧ NoAttr K (He.ga K c) f

/-! ### o.f -/
section
variable {X : Cx} {W : WJ} {e o : Expr} {fa : Env → R D} {f : Str} {pos p2 p3 : Pos} {ok : Str → Bool}
def insF (ok : Str → Bool) (f : Str) : D → Option D
  | .ins c ns ds => if ok c = true then fldD f ns ds else none
  | _ => none
def fFld (ok : Str → Bool) (f : Str) (fa : Env → R D) : Env → R D := fun1 (insF ok f) fa
theorem j_fld (hf : FldOk X.K ok f) (h : JE X W e fa) (hb : attributeBase e f X.env (eval e X.env) = eval e X.env := by rfl) : JE X W (.Attribute e f pos) (fFld ok f fa) := by
  obtain ⟨ta, pa, sa⟩ := h
  refine ⟨_, pe_fld pa hb, fun Φ G H σ E Q S hp => ?_⟩
  have hp' : Post X.K W.w (relE X.K) Φ G σ ((fa E).bind fun x E => match insF ok f x with | some d => .ok d E | none => .stuck) Q := hp
  refine sa.go S hp' fun d E1 G1 H1 v _ e1 S1 r1 hp => ?_
  cases hi : insF ok f d with
  | none => rw [hi] at hp; exact hp.elim
  | some x =>
    rw [hi] at hp
    cases d with
    | ins c ns ds =>
      have hi' : (if ok c = true then fldD f ns ds else none) = some x := hi
      cases r1 with
      | ins h1 h2 h3 =>
        by_cases hc : ok c = true
        · rw [if_pos hc] at hi'
          obtain ⟨w, k1, k2⟩ := fld_zip h3 h2 hi'
          exact ⟨_, _, _, _, w, rfl, S1.gh _ _ h1, (hf c hc).1, (hf c hc).2, k1, hp G1 H1 w (Ex.refl G1) S1 k2⟩
        · rw [if_neg hc] at hi'; cases hi'
    | _ => cases hi
/-- self.f in a def that has self for its own -/
def fFldO (ok : Str → Bool) (i : Nat) (f : Str) : Env → R D := fun E => match E[i]? with
  | some (.obj _ c ns ds) => (match insF ok f (.ins c ns ds) with | some x => .ok x E | none => .stuck)
  | _ => .stuck
theorem j_fldO (i : Nat) {x : Str} (hf : FldOk X.K ok f) (hN : X.N[i]? = some x := by rfl) (hv : Vis X.env.scope x := by first | exact Or.inl rfl | exact Or.inr (Or.inl rfl) | exact Or.inr (Or.inr rfl)) (hd : (x == ("__debug__" : Str)) = false := by decide)
    (hcd : (x == ("__classdict__" : Str)) = false := by decide) (hb : attributeBase (.Name x p2) f X.env (eval (.Name x p2) X.env) = eval (.Name x p2) X.env := by rfl) : JE X W (.Attribute (.Name x p2) f pos) (fFldO ok i f) := by
  refine ⟨_, pe_fld (pe_var hN hv hd hcd) hb, fun Φ G H σ E Q S hp => ?_⟩
  unfold fFldO at hp
  cases ee : E[i]? with
  | none => rw [ee] at hp; exact hp.elim
  | some s =>
    rw [ee] at hp
    cases s with
    | no => exact hp.elim
    | val _ => exact hp.elim
    | own _ _ => exact hp.elim
    | obj b c ns ds =>
      obtain ⟨x, hx, p, dx, vs, rfl, k1, k2, k3⟩ := S.sl i _ ee
      cases hi : insF ok f (.ins c ns ds) with
      | none => simp only [hi] at hp; exact hp.elim
      | some x =>
        simp only [hi] at hp
        have hi' : (if ok c = true then fldD f ns ds else none) = some x := hi
        by_cases hc : ok c = true
        · rw [if_pos hc] at hi'
          obtain ⟨w, q1, q2⟩ := fld_zip k3 k2 hi'
          exact ⟨_, hx, _, _, _, _, w, rfl, k1, (hf c hc).1, (hf c hc).2, q1, hp G H w (Ex.refl G) S q2⟩
        · rw [if_neg hc] at hi'; cases hi'
/-- self.f = e in a def that has self for its own -/
def sPut (ok : Str → Bool) (i : Nat) (f : Str) (fa : Env → R D) : Env → RS := fun E => (fa E).bindS fun d E => match E[i]? with
  | some (.obj b c ns ds) => if (ok c && decide (ns.length < 900)) = true then .nx (E.set i (.obj b c (putN f ns) (putL f d ns ds))) else .stuck
  | _ => .stuck
theorem js_put {W : WX} (i : Nat) {x : Str} (hf : FldOk X.K ok f) (h : JE X (pw W) e fa) (hN : X.N[i]? = some x := by rfl) (hv : Vis X.env.scope x := by first | exact Or.inl rfl | exact Or.inr (Or.inl rfl) | exact Or.inr (Or.inr rfl)) (hd : (x == ("__debug__" : Str)) = false := by decide)
    (hcd : (x == ("__classdict__" : Str)) = false := by decide) (hs : swapsWith e (some (.Attribute (.Name x p2) f p3)) pos.line X.env = pure false := by rfl) : JS X W (.Assign [.Attribute (.Name x p2) f p3] e pos) (sPut ok i f fa) := by
  obtain ⟨ta, pa, sa⟩ := h
  refine ⟨_, ps_fld (pe_var hN hv hd hcd) pa hs, fun Φ G H σ E D S hp => ?_⟩
  refine sa.goS S hp fun d E1 G1 H1 v _ e1 S1 r1 hp => ?_
  cases ee : E1[i]? with
  | none => simp only [ee] at hp; exact hp.elim
  | some s =>
    cases s with
    | no => simp only [ee] at hp; exact hp.elim
    | val _ => simp only [ee] at hp; exact hp.elim
    | own _ _ => simp only [ee] at hp; exact hp.elim
    | obj b c ns ds =>
      simp only [ee] at hp
      obtain ⟨x, hx, p, dx, vs, rfl, k1, k2, k3⟩ := S1.sl i _ ee
      by_cases hc : (ok c && decide (ns.length < 900)) = true
      · rw [if_pos hc] at hp
        rw [Bool.and_eq_true, decide_eq_true_eq] at hc
        have hl : (ns.zip vs).length < 1000 := by rw [List.length_zip]; omega
        refine ⟨_, hx, p, _, dx, ns.zip vs, rfl, k1, (hf c hc.1).1, (hf c hc.1).2, hl, ?_⟩
        have hok : SlOk X.K G1 (L2.upd H1 p (.ins (He.ga X.K c) dx (L2.putF f v (ns.zip vs)))) (some (.ref p)) (.obj b c (putN f ns) (putL f d ns ds)) := ⟨p, dx, putL f v ns vs, rfl, by rw [upd_same, put_zip k2], put_len k2, put_rp r1 k3 k2⟩
        exact hp G1 _ σ (Ex.refl G1) (S1.writeW (b0 := b) ee rfl rfl hx hok)
      · rw [if_neg hc] at hp; exact hp.elim
end

/-! ### a call with data -/
def callD {α : Type} (n : Nat) (F : DF) (as : List Ar) (k : RV → Option α) (E1 : Env) : R α := match (if (ndA (ownsA as) && as.length == n) = true then argS E1 as else none) with
  | none => .stuck
  | some ss => match F ss with
    | .ok rv Ec => (match k rv with | some d => .ok d (backE Ec 0 as E1) | none => .stuck)
    | .exc x Ec => .exc x (backE Ec 0 as E1)
    | .stuck => .stuck
section
variable {K : PySem.W.Frag} {Φ : Fr} {G G1 H H1 : Hp} {σ : St} {E E1 : Env}
theorem ArOk.append {as bs : List Ar} {vs ws : List V} (h : ArOk K σ G as vs) (k : ArOk K σ G bs ws) : ArOk K σ G (as ++ bs) (vs ++ ws) := by
  induction h with
  | nil => exact k
  | v h1 _ ih => exact .v h1 ih
  | o h1 _ ih => exact .o h1 ih
theorem ArOk.vals {ds : List D} {vs : List V} (h : RpA K G vs ds) : ArOk K σ G (ds.map .v) vs := by
  induction ds generalizing vs with
  | nil => cases h; exact .nil
  | cons d ds ih => cases h with | cons h1 h2 => exact .v h1 (ih h2)
theorem callD_ok {α : Type} {W : WX} {rel : Rel α V} {kv : RV → Option α} {n : Nat} {F : DF} {as : List Ar} {vs : List V} {Q : VK} (S1 : Sat K Φ G1 H1 σ E1) (r1 : ArOk K σ G1 as vs) (hp : Post K W rel Φ G1 σ (callD n F as kv E1) Q)
    (hv : ∀ d a, kv (.v d) = some a → ∀ Φ σ G' H' E' v, Rp K G' v d → Sat K Φ G' H' σ E' → rel Φ σ G' H' E' a v)
    (hl : ∀ l a, kv (.l l) = some a → ∀ (Φ : Fr) (σ : St) (G' H' : Hp) (E' : Env) (p : Addr) (vs : List V), Sat K Φ G' H' σ E' → H' p = some (.lst vs) → RpA K G' vs l → G' p = none → Φ.F p = none → NotOwn σ E' p → ∃ G2, Ex G' G2 ∧ Sat K Φ G2 H' σ E' ∧ rel Φ σ G2 H' E' a (.ref p)) :
    spJ K n F vs H1 Q (WE W σ) := by
  unfold callD at hp
  by_cases c : (ndA (ownsA as) && as.length == n) = true
  · rw [if_pos c] at hp
    rw [Bool.and_eq_true] at c
    have nd := c.1
    have hn : as.length = n := by simpa using c.2
    cases hs : argS E1 as with
    | none => rw [hs] at hp; exact hp.elim
    | some ss =>
      simp only [hs] at hp
      refine ⟨r1.len.symm.trans hn, _, G1, ss, S1.toCall r1 hs nd, ?_⟩
      cases hF : F ss with
      | stuck => rw [hF] at hp; exact hp.elim
      | exc x Ec =>
        simp only [hF] at hp
        exact fun G' H' c d e I r => hp G' H' σ c d e (S1.fromCall r1 hs nd e I) r
      | ok rv Ec =>
        simp only [hF] at hp
        cases hk : kv rv with
        | none => rw [hk] at hp; exact hp.elim
        | some a =>
          simp only [hk] at hp
          cases rv with
          | v d =>
            intro G' H' v e I r
            have S2 := S1.fromCall r1 hs nd e I
            exact hp G' H' v e S2 (hv d a hk Φ σ G' H' _ v r S2)
          | l l =>
            intro G' H' p vs' e I h1 h2 h3 h4 h5
            have S2 := S1.fromCall r1 hs nd e I
            have n2 := NotOwn.fromCall (Ec := Ec) S1 r1 nd h4 h5
            obtain ⟨G2, e2, S3, q⟩ := hl l a hk Φ σ G' H' _ p vs' S2 h1 h2 h3 (Fc_none S1 h4) n2
            exact hp G2 H' (.ref p) (e.trans e2) S3 q
  · rw [if_neg c] at hp; exact hp.elim
/-- the value form -/
theorem callE_ok {W : WX} {n : Nat} {F : DF} {as : List Ar} {vs : List V} {Q : VK} (S1 : Sat K Φ G1 H1 σ E1) (r1 : ArOk K σ G1 as vs) (hp : Post K W (relE K) Φ G1 σ (callD n F as rvD E1) Q) : spJ K n F vs H1 Q (WE W σ) :=
  callD_ok S1 r1 hp (fun d a hk Φ σ G' H' E' v r _ => by cases hk; exact r) fun l a hk Φ σ G' H' E' p vs S h1 h2 h3 h4 h5 => by
    cases hk; exact ⟨_, Ex.new h3, S.free h1 h3 h4 h5, .lst upd_same (h2.mono (Ex.new h3))⟩
theorem callL_ok {W : WX} {n : Nat} {F : DF} {as : List Ar} {vs : List V} {Q : VK} (S1 : Sat K Φ G1 H1 σ E1) (r1 : ArOk K σ G1 as vs) (hp : Post K W (relL K) Φ G1 σ (callD n F as rvL E1) Q) : spJ K n F vs H1 Q (WE W σ) :=
  callD_ok S1 r1 hp (fun d a hk => by cases hk) fun l a hk Φ σ G' H' E' p vs S h1 h2 h3 h4 h5 => by
    cases hk; exact ⟨G', Ex.refl G', S, p, vs, rfl, h1, h2, h3, h4, h5⟩
end

/-! ### o.m(..) -/
section
variable {X : Cx} {CX : CXT} {k : Nat} {f C : Addr} {fd : FuncData} {ps : List Str} {sp : Sp} {dvs : List V} {ds : List Value} {Es : St → XK} {x m : Str} {p pos apos : Pos} {e o : Expr} {es : List Expr} {ta : TE} {t : TA}
def tMethD (C : Addr) (m : Str) (sp : Sp) (dvs : List V) (Es : St → XK) (ta : TE) (t : TA) : TE := fun σ H Q => ta σ H fun x H1 => ∃ a dx fs, x = .ref a ∧ H1 a = some (.ins C dx fs) ∧ fs.lookup m = none ∧ t σ H1 fun vs H2 => sp (x :: (vs ++ dvs)) H2 Q (Es σ)
theorem pe_methD {pl : Sem Bool} (he : PE X o ta) (c : Cls X.K C) (hm : Meth X.K C m f) (F : FnOk X.prog X.w X.K X.mg X.base CX k f fd ps sp) (hr : Room k X.A) (hb : Binds X.K fd ps ds) (hd : Vals dvs ds) (hx : ∀ σ, PassesAt CX X σ (Es σ)) (ha : PA X (e :: es) t)
    (hst : starEach (e :: es) X.env = (false, eval e X.env) :: starEach es X.env := by rfl) (hpl : (backTo pos (starEach es X.env)).any (·.1) = false := by rfl)
    (ht : eval (.Call (.Attribute o m apos) (e :: es) [] pos) X.env = (do
      let ov ← eval o X.env
      standAt apos.atName
      let (f, first) ← holding [ov] (getMethod ov m pl)
      callWith pos f first (backTo pos (starEach (e :: es) X.env)) (backToKw pos (keywordEach [] X.env))) := by rfl) :
    PE X (.Call (.Attribute o m apos) (e :: es) [] pos) (tMethD C m sp dvs Es ta t) := by
  refine ⟨fun pins s σ H Q I h => ?_⟩
  refine PySem.W.methodCall_KW (pl := pl) (thn (he.run pins s σ H _ I h) fun u s1 ⟨x, H1, I1, rx, a, dx, fs, ex, ea, l, q⟩ => ?_) ht
  subst ex
  obtain rfl : u = Value.ref a := rx
  refine getmeth_ok I1 ea c hm l ?_
  refine PySem.W.callWith_K (first := [.ref a]) (h₀ := X.base) I.ok.mod.kin hm.kp (thn (ha.run pos pins s1 σ H1 _ I1 q) fun us s2 ⟨vs, H2, I2, r, q2⟩ => ⟨I2.kIn, ?_⟩) hst hpl
  exact run_fnSD (us := .ref a :: us) (vs := .ref a :: vs) F hr hb hd (hx σ) I2 (.cons rfl r) q2
theorem pe_methD0 {pl : Sem Bool} (he : PE X o ta) (c : Cls X.K C) (hm : Meth X.K C m f) (F : FnOk X.prog X.w X.K X.mg X.base CX k f fd ps sp) (hr : Room k X.A) (hb : Binds X.K fd ps ds) (hd : Vals dvs ds) (hx : ∀ σ, PassesAt CX X σ (Es σ))
    (ht : eval (.Call (.Attribute o m apos) [] [] pos) X.env = (do
      let ov ← eval o X.env
      standAt apos.atName
      let (f, first) ← holding [ov] (getMethod ov m pl)
      callWith pos f first (backTo pos (starEach [] X.env)) (backToKw pos (keywordEach [] X.env))) := by rfl) :
    PE X (.Call (.Attribute o m apos) [] [] pos) (tMethD C m sp dvs Es ta tNil) := by
  refine ⟨fun pins s σ H Q I h => ?_⟩
  refine PySem.W.methodCall_KW (pl := pl) (thn (he.run pins s σ H _ I h) fun u s1 ⟨x, H1, I1, rx, a, dx, fs, ex, ea, l, q⟩ => ?_) ht
  subst ex
  obtain rfl : u = Value.ref a := rx
  refine getmeth_ok I1 ea c hm l ?_
  exact PySem.W.callWith_K0 (first := [.ref a]) I1.kIn hm.kp (run_fnSD (us := [.ref a]) (vs := [.ref a]) F hr hb hd (hx σ) I1 (.cons rfl .nil) q)
theorem pe_any {ι : Type} {e : Expr} {t : ι → TE} (h : ∀ i, PE X e (t i)) : PE X e (fun σ H Q => ∃ i, t i σ H Q) := ⟨fun pins s σ H Q I ⟨i, q⟩ => (h i).run pins s σ H Q I q⟩
end
/-- a method of the class named c (with the defaults dd) -/
structure MtJ (P : Program) (w : World) (K : PySem.W.Frag) (mg : Str → Option Value) (base : Heap) (k : Nat) (m : Str) (n : Nat) (dd : List D) (c : Str) (F : DF) : Prop where
  ok : ∃ f fd ps ds dvs, Cls K (He.ga K c) ∧ Meth K (He.ga K c) m f ∧ Binds K fd ps ds ∧ Vals dvs ds ∧ (∀ G, RpA K G dvs dd) ∧ FnOk P w K mg base (L2N.CX P w) k f fd ps (spJ K n F)
theorem MtJ.mono {P : Program} {w : World} {K : PySem.W.Frag} {mg : Str → Option Value} {base : Heap} {j k : Nat} {m : Str} {n : Nat} {dd : List D} {c : Str} {F : DF} (h : MtJ P w K mg base j m n dd c F) (hk : j ≤ k) : MtJ P w K mg base k m n dd c F := by
  obtain ⟨f, fd, ps, ds, dvs, h1, h2, h3, h4, h5, h6⟩ := h
  exact ⟨f, fd, ps, ds, dvs, h1, h2, h3, h4, h5, h6.mono hk⟩
section
variable {X : Cx} {W : WJ} {k n : Nat} {m : Str} {pos apos : Pos} {e o : Expr} {es : List Expr} {fo : Env → R D} {fa : Env → R (List Ar)} {tbl : Str → Option DF} {dd : List D}
def fMeth (m : Str) (n : Nat) (tbl : Str → Option DF) (dd : List D) (fo : Env → R D) (fa : Env → R (List Ar)) : Env → R D := fun E => (fo E).bind fun d E => match d with
  | .ins c ns es => (match tbl c with
    | some F => if ns.contains m = true then .stuck else (fa E).bind fun as E => callD n F (.v (.ins c ns es) :: (as ++ dd.map .v)) rvD E
    | none => .stuck)
  | _ => .stuck
theorem meth_snd {ts : {p : Str × DF // tbl p.1 = some p.2} → TE} {to : TE} {ta : TA} {dv : {p : Str × DF // tbl p.1 = some p.2} → List V} (hts : ∀ i, ts i = tMethD (He.ga X.K i.1.1) m (spJ X.K n i.1.2) (dv i) (fun σ => WE W.w σ) to ta) (hdv : ∀ i G, RpA X.K G (dv i) dd)
    (i0 : {p : Str × DF // tbl p.1 = some p.2}) (so : Snd X.K W (relE X.K) to fo) (sa : Snd X.K W (relAr X.K) ta fa) : Snd X.K W (relE X.K) (fun σ H Q => ∃ i, ts i σ H Q) (fMeth m n tbl dd fo fa) := by
  intro Φ G H σ E Q S hp
  have hp' : Post X.K W.w (relE X.K) Φ G σ ((fo E).bind fun d E => match d with
    | .ins c ns es => (match tbl c with
      | some F => if ns.contains m = true then .stuck else (fa E).bind fun as E => callD n F (.v (.ins c ns es) :: (as ++ dd.map .v)) rvD E
      | none => .stuck)
    | _ => .stuck) Q := hp
  cases ef : fo E with
  | stuck => rw [ef] at hp'; exact hp'.elim
  | exc x E' =>
    refine ⟨i0, ?_⟩
    rw [hts i0]
    refine so Φ G H σ E _ S ?_
    rw [ef] at hp' ⊢
    exact hp'
  | ok d E' =>
    cases d with
    | ins c ns es =>
      cases ht : tbl c with
      | none => rw [ef] at hp'; simp only [R.bind_ok, ht] at hp'; exact hp'.elim
      | some F =>
        refine ⟨⟨(c, F), ht⟩, ?_⟩
        rw [hts]
        refine so.go S hp' fun d E1 G1 H1 v e0 e1 S1 r1 hp => ?_
        rw [ef] at e0
        cases e0
        simp only [ht] at hp
        by_cases hc : ns.contains m = true
        · rw [if_pos hc] at hp; exact hp.elim
        · rw [if_neg hc] at hp
          have r0 := r1
          cases r1 with
          | ins h1 h2 h3 =>
            refine ⟨_, _, _, rfl, S1.gh _ _ h1, fld_no (Bool.eq_false_iff.mpr hc), ?_⟩
            refine sa.go S1 hp fun as E2 G2 H2 us _ e2 S2 r2 hp => ?_
            exact callE_ok S2.toSat (.v (Rp.mono e2 _ r0) (r2.append (.vals (hdv _ G2)))) hp
    | _ => rw [ef] at hp'; exact hp'.elim
theorem j_meth (hF : ∀ c F, tbl c = some F → MtJ X.prog X.w X.K X.mg X.base k m n dd c F) {c0 : Str} {F0 : DF} (h0 : tbl c0 = some F0) (hr : Room k X.A) (tk : L2N.Takes X W.w) (ho : JE X W o fo) (ha : JX X W (e :: es) fa) {pl : Sem Bool}
    (hst : starEach (e :: es) X.env = (false, eval e X.env) :: starEach es X.env := by rfl) (hpl : (backTo pos (starEach es X.env)).any (·.1) = false := by rfl)
    (ht : eval (.Call (.Attribute o m apos) (e :: es) [] pos) X.env = (do
      let ov ← eval o X.env
      standAt apos.atName
      let (f, first) ← holding [ov] (getMethod ov m pl)
      callWith pos f first (backTo pos (starEach (e :: es) X.env)) (backToKw pos (keywordEach [] X.env))) := by rfl) : JE X W (.Call (.Attribute o m apos) (e :: es) [] pos) (fMeth m n tbl dd fo fa) := by
  obtain ⟨to, po, so⟩ := ho
  obtain ⟨ta, pa, sa⟩ := ha
  have key : ∀ i : {p : Str × DF // tbl p.1 = some p.2}, ∃ dv : List V, (∀ G, RpA X.K G dv dd) ∧ PE X (.Call (.Attribute o m apos) (e :: es) [] pos) (tMethD (He.ga X.K i.1.1) m (spJ X.K n i.1.2) dv (fun σ => WE W.w σ) to ta) := fun i => by
    obtain ⟨f, fd, ps, ds, dvs, h1, h2, h3, h4, h5, h6⟩ := hF _ _ i.2
    exact ⟨dvs, h5, pe_methD (pl := pl) po h1 h2 h6 hr h3 h4 (fun σ => L2N.passAt tk σ) pa hst hpl ht⟩
  exact ⟨_, pe_any fun i => (key i).choose_spec.2, meth_snd (dv := fun i => (key i).choose) (fun i => rfl) (fun i => (key i).choose_spec.1) ⟨(c0, F0), h0⟩ so sa⟩
theorem j_meth0 (hF : ∀ c F, tbl c = some F → MtJ X.prog X.w X.K X.mg X.base k m n dd c F) {c0 : Str} {F0 : DF} (h0 : tbl c0 = some F0) (hr : Room k X.A) (tk : L2N.Takes X W.w) (ho : JE X W o fo) {pl : Sem Bool}
    (ht : eval (.Call (.Attribute o m apos) [] [] pos) X.env = (do
      let ov ← eval o X.env
      standAt apos.atName
      let (f, first) ← holding [ov] (getMethod ov m pl)
      callWith pos f first (backTo pos (starEach [] X.env)) (backToKw pos (keywordEach [] X.env))) := by rfl) : JE X W (.Call (.Attribute o m apos) [] [] pos) (fMeth m n tbl dd fo xNil) := by
  obtain ⟨to, po, so⟩ := ho
  have key : ∀ i : {p : Str × DF // tbl p.1 = some p.2}, ∃ dv : List V, (∀ G, RpA X.K G dv dd) ∧ PE X (.Call (.Attribute o m apos) [] [] pos) (tMethD (He.ga X.K i.1.1) m (spJ X.K n i.1.2) dv (fun σ => WE W.w σ) to tNil) := fun i => by
    obtain ⟨f, fd, ps, ds, dvs, h1, h2, h3, h4, h5, h6⟩ := hF _ _ i.2
    exact ⟨dvs, h5, pe_methD0 (pl := pl) po h1 h2 h6 hr h3 h4 (fun σ => L2N.passAt tk σ) ht⟩
  exact ⟨_, pe_any fun i => (key i).choose_spec.2, meth_snd (dv := fun i => (key i).choose) (fun i => rfl) (fun i => (key i).choose_spec.1) ⟨(c0, F0), h0⟩ so (fun Φ G H σ E Q S hp => hp G H [] (Ex.refl G) S.toSat .nil)⟩
end
end J

namespace J
open PySem PySem.Spec PyProof.Rows L2

/-! ### C(..) : a new instance, its __init__ with self for its own -/
def consI (x : Addr) (io : Nat → Addr) : Nat → Addr
  | 0 => x
  | j + 1 => io j
section
variable {K : PySem.W.Frag} {Φ : Fr} {F G H G' H' : Hp} {io : Nat → Addr} {us σ : St} {ss E Ec : Env} {x : Addr} {s0 : Sl}
theorem Sat.consO (S : Sat K ⟨F, io⟩ G H us ss) (hk : SlOk K G H (some (.ref x)) s0) (h0 : s0.ow = some true) (g : G x = none) (f : F x = none) (n : NotOwn us ss x) : Sat K ⟨F, consI x io⟩ G H (some (.ref x) :: us) (s0 :: ss) := by
  refine ⟨by simp [S.len], fun i s hs => ?_, S.gh, S.fh, S.fg, fun i s b p h1 hb h2 => ?_, fun i j s s' b b' p h1 hb h2 hb' h3 h4 => ?_⟩
  · cases i with
    | zero => simp at hs; subst hs; exact ⟨_, rfl, hk⟩
    | succ i => simpa using S.sl i s (by simpa using hs)
  · cases i with
    | zero =>
      simp at h2; subst h2
      exact ⟨g, f, fun _ => rfl⟩
    | succ i => exact S.ow' i s b p (by simpa using h1) hb (by simpa using h2)
  · cases i with
    | zero =>
      simp at h3; subst h3
      cases j with
      | zero => rfl
      | succ j => exact absurd (by simpa using h4) (n j s' b' (by simpa using h2) hb')
    | succ i =>
      cases j with
      | zero => simp at h4; subst h4; exact absurd (by simpa using h3) (n i s b (by simpa using h1) hb)
      | succ j => rw [S.di' i j s s' b b' p (by simpa using h1) hb (by simpa using h2) hb' (by simpa using h3) (by simpa using h4)]
theorem Sat.appV (S : Sat K Φ G H us ss) {ws : List V} {ds : List D} (r : RpA K G ws ds) : Sat K Φ G H (us ++ ws.map some) (ss ++ ds.map .val) := by
  have key : ∀ (i : Nat) (s : Sl), (ss ++ ds.map Sl.val)[i]? = some s → (i < ss.length ∧ ss[i]? = some s ∧ (us ++ ws.map some)[i]? = us[i]?) ∨ ∃ d v, s = .val d ∧ (us ++ ws.map some)[i]? = some (some v) ∧ Rp K G v d := fun i s h => by
    by_cases hi : i < ss.length
    · rw [List.getElem?_append_left hi] at h
      exact .inl ⟨hi, h, by rw [List.getElem?_append_left (by rw [S.len]; exact hi)]⟩
    · rw [List.getElem?_append_right (by omega), List.getElem?_map] at h
      obtain ⟨d, h1, rfl⟩ := Option.map_eq_some_iff.mp h
      obtain ⟨v, h2, h3⟩ := r.get h1
      refine .inr ⟨d, v, rfl, ?_, h3⟩
      rw [List.getElem?_append_right (by rw [S.len]; omega), List.getElem?_map, S.len, h2]; rfl
  refine ⟨by simp [S.len, r.length], fun i s hs => ?_, S.gh, S.fh, S.fg, fun i s b p h1 hb h2 => ?_, fun i j s s' b b' p h1 hb h2 hb' h3 h4 => ?_⟩
  · rcases key i s hs with ⟨_, h1, h2⟩ | ⟨d, v, rfl, h1, h2⟩
    · rw [h2]; exact S.sl i s h1
    · exact ⟨_, h1, v, rfl, h2⟩
  · rcases key i s h1 with ⟨_, h3, h4⟩ | ⟨d, v, rfl, _⟩
    · rw [h4] at h2; exact S.ow' i s b p h3 hb h2
    · cases hb
  · rcases key i s h1 with ⟨_, k1, k2⟩ | ⟨d, v, rfl, _⟩
    · rcases key j s' h2 with ⟨_, k3, k4⟩ | ⟨d, v, rfl, _⟩
      · rw [k2] at h3; rw [k4] at h4; exact S.di' i j s s' b b' p k1 hb k3 hb' h3 h4
      · cases hb'
    · cases hb
theorem IO.tail (I : IO K ⟨F, consI x io⟩ G H Ec) : IO K ⟨F, io⟩ G H (Ec.drop 1) :=
  ⟨I.gh, I.fh, I.fg, fun i s h hb => by
    rw [List.getElem?_drop, Nat.add_comm] at h
    exact I.io (i + 1) s h hb⟩
theorem NotOwn.back (n : NotOwn σ E x) {as : List Ar} (nd : ndA (ownsA as) = true) : NotOwn σ (backE Ec 0 as E) x := fun i s b h1 hb h2 => by
  by_cases hm : i ∈ ownsA as
  · obtain ⟨j, hj⟩ := mem_ownsA.mp hm
    rcases backE_in as 0 E j _ nd hj h1 with z | ⟨s1, s', k1, k2, k3⟩
    · subst z; cases hb
    · subst k3
      exact n i s1 b k1 (Sl.bk_ow hb).1 h2
  · rw [backE_out as 0 E hm] at h1
    exact n i s b h1 hb h2
theorem Fc_free (S : Sat K Φ G H σ E) {is : List Nat} (h : H x = none) : FcOf Φ H σ E is x = none := by
  unfold FcOf
  split
  · exact h
  · exact S.fh.back h
end
def fMake (c : Str) (n : Nat) (F : DF) (dd : List D) (fa : Env → R (List Ar)) : Env → R D := fun E => (fa E).bind fun as E1 => match (if (ndA (ownsA as) && as.length + dd.length + 1 == n) = true then argS E1 as else none) with
  | none => .stuck
  | some ss => match F (.obj true c [] [] :: (ss ++ dd.map .val)) with
    | .ok (.v .non) Ec => (match (Ec[0]? : Option Sl) with
      | some (.obj true c' ns ds) => if c' = c then .ok (.ins c ns ds) (backE (Ec.drop 1) 0 as E1) else .stuck
      | _ => .stuck)
    | .exc x Ec => .exc x (backE (Ec.drop 1) 0 as E1)
    | _ => .stuck
section
variable {X : Cx} {CX : CXT} {k : Nat} {f C : Addr} {fd : FuncData} {ps : List Str} {sp : Sp} {dvs : List V} {ds : List Value} {Es : St → XK} {x : Str} {p pos : Pos} {e : Expr} {es : List Expr} {t : TA}
def tMakeJ (C : Addr) (sp : Sp) (dvs : List V) (Es : St → XK) (t : TA) : TE := fun σ H Q => t σ H fun vs H1 => ∀ x dx, H1 x = none → H1 dx = none → dx ≠ x →
  sp (.ref x :: (vs ++ dvs)) (upd (upd H1 dx (.own x)) x (.ins C dx [])) (fun v H2 => v = .non ∧ Q (.ref x) H2) (Es σ)
theorem run_makeJ {pins : List (Addr × Obj)} {σ : St} {H : Hp} {s : Shared} {Q : VK} {us : List Value} {vs : List V} {E : XK} (M : Mk X.K C f) (F : FnOk X.prog X.w X.K X.mg X.base CX k f fd ps sp) (hr : Room (k + 1) X.A) (hb : Binds X.K fd ps ds) (hd : Vals dvs ds)
    (hx : PassesAt CX X σ E) (I : Inv X pins σ H s) (r : Vals vs us)
    (h : ∀ x dx, H x = none → H dx = none → dx ≠ x → sp (.ref x :: (vs ++ dvs)) (upd (upd H dx (.own x)) x (.ins C dx [])) (fun v H2 => v = .non ∧ Q (.ref x) H2) E) :
    wpAny (model X.prog X.w) X.A (call (.ref C) us) (EP X pins σ Q) X.xe s := by
  have hq := h (s.heap.objs.size + 1) s.heap.objs.size (I.hok.fresh (Nat.le_succ _)) (I.hok.fresh (Nat.le_refl _)) (Nat.ne_of_lt (Nat.lt_succ_self _))
  have I2 := Inv.made (C := C) I
  have r2 : Vals (V.ref (s.heap.objs.size + 1) :: (vs ++ dvs)) (Value.ref (s.heap.objs.size + 1) :: (us ++ ds)) := .cons rfl (r.append hd)
  have hl : (Value.ref (s.heap.objs.size + 1) :: us ++ ds).length = ps.length := by
    have e := r2.length
    rw [F.len _ _ _ _ hq] at e
    exact e.symm
  refine wpAny_call (make_map (f := f) I.kIn M.makes M.init (beq_iff_eq.mp M.fn) (codeAny_mono (F.run _ X.stack _ _ ⟨Value.ref (s.heap.objs.size + 1) :: us, []⟩ (Value.ref (s.heap.objs.size + 1) :: (us ++ ds)) _ _ E (hr.make C us [])
    (I2.env0.make C us []) (hb _ (Value.ref (s.heap.objs.size + 1) :: us) I2.kIn hl) r2 hq) fun r s' hq' => ?_))
  cases r with
  | error e => exact hx pins _ _ e s' I2 hq'
  | ok fl =>
    cases fl with
    | ret u =>
      obtain ⟨v, H', I3, rv, ev, q3⟩ := I2.after hq'
      subst ev
      exact ⟨rv, ⟨V.ref (s.heap.objs.size + 1), H', I3, rfl, q3⟩⟩
    | next => exact False.elim hq'
    | brk => exact False.elim hq'
    | cont => exact False.elim hq'
theorem pe_makeJ (M : Mk X.K C f) (F : FnOk X.prog X.w X.K X.mg X.base CX k f fd ps sp) (hr : Room (k + 1) X.A) (hg : Gl X x) (hm : X.mg x = some (.ref C)) (hb : Binds X.K fd ps ds) (hd : Vals dvs ds) (hx : ∀ σ, PassesAt CX X σ (Es σ))
    (ha : PA X (e :: es) t) (hdb : (x == ("__debug__" : Str)) = false := by decide) (he : starEach (e :: es) X.env = (false, eval e X.env) :: starEach es X.env := by rfl) (hpl : (backTo pos (starEach es X.env)).any (·.1) = false := by rfl) :
    PE X (.Call (.Name x p) (e :: es) [] pos) (tMakeJ C sp dvs Es t) := by
  refine ⟨fun pins s σ H Q I h => ?_⟩
  refine wpAny_Call_Name_kw (ld_glob I hg hm ?_ hdb)
  refine PySem.W.callWith_K (h₀ := X.base) I.ok.mod.kin M.kp (thn (ha.run pos pins s σ H _ I h) fun us s1 ⟨vs, H1, I1, r, q⟩ => ⟨I1.kIn, ?_⟩) he hpl
  exact run_makeJ M F hr hb hd (hx σ) I1 r q
end
/-- the class named c as it is made (with the defaults dd) -/
structure MkJ (P : Program) (w : World) (K : PySem.W.Frag) (mg : Str → Option Value) (base : Heap) (k : Nat) (c : Str) (n : Nat) (dd : List D) (F : DF) : Prop where
  ok : ∃ f fd ps ds dvs, Mk K (He.ga K c) f ∧ mg c = some (.ref (He.ga K c)) ∧ Binds K fd ps ds ∧ Vals dvs ds ∧ (∀ G, RpA K G dvs dd) ∧ FnOk P w K mg base (L2N.CX P w) k f fd ps (spJ K n F)
theorem MkJ.mono {P : Program} {w : World} {K : PySem.W.Frag} {mg : Str → Option Value} {base : Heap} {j k : Nat} {n : Nat} {dd : List D} {c : Str} {F : DF} (h : MkJ P w K mg base j c n dd F) (hk : j ≤ k) : MkJ P w K mg base k c n dd F := by
  obtain ⟨f, fd, ps, ds, dvs, h1, h2, h3, h4, h5, h6⟩ := h
  exact ⟨f, fd, ps, ds, dvs, h1, h2, h3, h4, h5, h6.mono hk⟩
theorem j_make {X : Cx} {W : WJ} {k n : Nat} {c : Str} {p pos : Pos} {e : Expr} {es : List Expr} {fa : Env → R (List Ar)} {dd : List D} {F : DF} (hF : MkJ X.prog X.w X.K X.mg X.base k c n dd F) (hr : Room (k + 1) X.A) (tk : L2N.Takes X W.w) (ha : JX X W (e :: es) fa) (hg : Gl X c := by rfl) (hdb : (c == ("__debug__" : Str)) = false := by decide)
    (he : starEach (e :: es) X.env = (false, eval e X.env) :: starEach es X.env := by rfl) (hpl : (backTo pos (starEach es X.env)).any (·.1) = false := by rfl) : JE X W (.Call (.Name c p) (e :: es) [] pos) (fMake c n F dd fa) := by
  obtain ⟨f, fd, ps, ds, dvs, h1, h2, h3, h4, h5, h6⟩ := hF
  obtain ⟨ta, pa, sa⟩ := ha
  refine ⟨_, pe_makeJ (Es := fun σ => WE W.w σ) h1 h6 hr hg h2 h3 h4 (fun σ => L2N.passAt tk σ) pa hdb he hpl, fun Φ G H σ E Q S hp => ?_⟩
  have hp' : Post X.K W.w (relE X.K) Φ G σ ((fa E).bind fun as E1 => match (if (ndA (ownsA as) && as.length + dd.length + 1 == n) = true then argS E1 as else none) with
    | none => .stuck
    | some ss => match F (.obj true c [] [] :: (ss ++ dd.map .val)) with
      | .ok (.v .non) Ec => (match (Ec[0]? : Option Sl) with
        | some (.obj true c' ns ds) => if c' = c then .ok (.ins c ns ds) (backE (Ec.drop 1) 0 as E1) else .stuck
        | _ => .stuck)
      | .exc x Ec => .exc x (backE (Ec.drop 1) 0 as E1)
      | _ => .stuck) Q := hp
  refine sa.go S hp' fun as E1 G1 H1 vs _ e1 S1 r1 hp => ?_
  intro x dx hx hdx hne
  by_cases c0 : (ndA (ownsA as) && as.length + dd.length + 1 == n) = true
  · rw [if_pos c0] at hp
    rw [Bool.and_eq_true] at c0
    have nd := c0.1
    have hn : as.length + dd.length + 1 = n := by simpa using c0.2
    cases hs : argS E1 as with
    | none => rw [hs] at hp; exact hp.elim
    | some ss =>
      simp only [hs] at hp
      have Sd := S1.toSat.newH (o := .own x) hdx
      have hx' : upd H1 dx (.own x) x = none := by rw [upd_ne (Ne.symm hne)]; exact hx
      have SC := (Sd.toCall r1 hs nd).appV (h5 G1)
      have nS := SC.notOwn hx'
      have SC2 := SC.newH (o := .ins (He.ga X.K c) dx []) hx'
      have fx : FcOf Φ (upd H1 dx (.own x)) σ E1 (ownsA as) x = none := Fc_free Sd hx'
      have gx : G1 x = none := Sd.gh.back hx'
      have SC3 := SC2.consO (x := x) (s0 := .obj true c [] []) ⟨x, dx, [], rfl, upd_same, rfl, .nil⟩ rfl gx fx nS
      have em : some (V.ref x) :: (vs.map some ++ dvs.map some) = (V.ref x :: (vs ++ dvs)).map some := by simp
      rw [em] at SC3
      have hlen : (V.ref x :: (vs ++ dvs)).length = n := by
        have := r1.len
        have := (h5 G1).length
        simp only [List.length_cons, List.length_append]; omega
      refine ⟨hlen, _, G1, _, SC3, ?_⟩
      have nX : NotOwn σ E1 x := S1.toSat.notOwn hx
      cases hF : F (.obj true c [] [] :: (ss ++ dd.map .val)) with
      | stuck => rw [hF] at hp; exact hp.elim
      | exc y Ec =>
        simp only [hF] at hp
        exact fun G' H' cc d e I r => hp G' H' σ cc d e (Sd.fromCall r1 hs nd e I.tail) r
      | ok rv Ec =>
        simp only [hF] at hp
        cases rv with
        | l l => exact hp.elim
        | v d =>
          cases d with
          | non =>
            simp only at hp
            cases e0 : Ec[0]? with
            | none => rw [e0] at hp; exact hp.elim
            | some s =>
              rw [e0] at hp
              cases s with
              | obj b c' ns ds =>
                cases b with
                | true =>
                  simp only at hp
                  by_cases hcc : c' = c
                  · rw [if_pos hcc] at hp
                    subst hcc
                    intro G' H' v e I r
                    cases r
                    refine ⟨rfl, ?_⟩
                    have S2 := Sd.fromCall r1 hs nd e I.tail
                    obtain ⟨⟨q, dx', vs', q1, q2, q3, q4⟩, g2, f2⟩ := I.io 0 _ e0 rfl
                    have q1' : some (V.ref x) = some (.ref q) := q1
                    cases q1'
                    have g3 : G' x = none := g2
                    have S3 := S2.free q2 g3 (Fc_none Sd f2) (nX.back nd)
                    exact hp _ H' (.ref x) (e.trans (Ex.new g3)) S3 (.ins upd_same q3 (q4.mono (Ex.new g3)))
                  · rw [if_neg hcc] at hp; exact hp.elim
                | false => exact hp.elim
              | no => exact hp.elim
              | val _ => exact hp.elim
              | own _ _ => exact hp.elim
          | _ => exact hp.elim
  · rw [if_neg c0] at hp; exact hp.elim
end J

namespace J
open PySem PySem.Spec PyProof.Rows L2

/-! ### operators that an own class has -/
abbrev R3 := V → V → St → Hp → VK → Prop
/-- a two-place operation whose exception is wished for at the slots -/
def OpR3 (X : Cx) (f : Value → Value → Sem Value) (r : R3) : Prop :=
  ∀ (pins : List (Addr × Obj)) (s : Shared) (σ : St) (H : Hp) (x y : V) (v u : Value) (Q : VK), Inv X pins σ H s → RelV x v → RelV y u → r x y σ H Q → wpAny (model X.prog X.w) X.A (f v u) (EP X pins σ Q) X.xe s
def tOp3 (r : R3) (ta tb : TE) : TE := fun σ H Q => ta σ H fun x H1 => tb σ H1 fun y H2 => r x y σ H2 Q
theorem _root_.L2.OpR.or' {X : Cx} {f : Value → Value → Sem Value} {r : R2} {r' : R3} (h : L2.OpR X f r) (h' : OpR3 X f r') : OpR3 X f (fun x y σ H Q => r x y H Q ∨ r' x y σ H Q) := fun pins s σ H x y v u Q I rx ry q => q.elim (h pins s σ H x y v u Q I rx ry) (h' pins s σ H x y v u Q I rx ry)
section
variable {X : Cx} {a b : Expr} {ta tb : TE} {pos : Pos}
theorem pe_op3 {op : Operator} {r : R3} (ho : OpR3 X (binaryOp op) r) (ha : PE X a ta) (hb : PE X b tb) : PE X (.BinOp a op b pos) (tOp3 r ta tb) := by
  refine ⟨fun pins s σ H Q I h => ?_⟩
  exact wpAny_BinOp (binT ha hb (R := fun x y H => r x y σ H Q) I h fun v u s2 x y H2 I2 rx ry q => ho pins s2 σ H2 x y v u Q I2 rx ry q)
theorem pe_cmp3 {op : CmpOp} {r : R3} (ho : OpR3 X (compareOp op) r) (ha : PE X a ta) (hb : PE X b tb) (hm : behindInMarks op b = false) : PE X (.Compare a [op] [b] pos) (tOp3 r ta tb) := by
  refine ⟨fun pins s σ H Q I h => ?_⟩
  refine wpAny_Compare1 ?_ hm
  exact binT ha hb (R := fun x y H => r x y σ H Q) I h fun v u s2 x y H2 I2 rx ry q => ho pins s2 σ H2 x y v u Q I2 rx ry q
theorem EP.back {pins : List (Addr × Obj)} {σ : St} {Q : VK} {v : Value} {s' : Shared} (h : EP X pins σ Q v s') : PySem.W.CmpBack (EP X pins σ Q) v s' := by
  have h0 := h
  obtain ⟨x, H', I', rx, q⟩ := h
  cases x with
  | non => cases rx; exact h0
  | bl b => cases rx; exact h0
  | int i => obtain ⟨t, rfl⟩ := rx; exact h0
  | str i => obtain ⟨t, rfl⟩ := rx; exact h0
  | byt i => obtain ⟨t, rfl⟩ := rx; exact h0
  | flt i => obtain ⟨t, rfl⟩ := rx; exact h0
  | ref i => cases rx; exact h0
  | ty i => cases rx; exact h0
end
/-- what stands on the right: one of the class, or an int -/
def RightV (C : Addr) (H : Hp) (y : V) : Prop := (∃ b dy gs, y = .ref b ∧ H b = some (.ins C dy gs)) ∨ ∃ i, y = .int i
def rOwn (C : Addr) (sp : Sp) (Es : St → XK) : R3 := fun x y σ H Q => ∃ a dx fs, x = .ref a ∧ H a = some (.ins C dx fs) ∧ RightV C H y ∧ sp [x, y] H Q (Es σ)
def opB (K : PySem.W.Frag) (C : Addr) (nm : String) : Bool := PySem.W.selfFirst K C && (He.eqO (PySem.W.findIn K (.ref C) (PySem.dunder nm)) (some (some (.ref (He.ma K C (PySem.dunder nm))))) && (PySem.W.isFn K (.ref (He.ma K C (PySem.dunder nm))) &&
  (He.eqO (PySem.W.findIn K (.ref C) (PySem.dunderR nm)) (some none) && ((PySem.W.findIn K (.type "int") (PySem.dunder nm)).isSome && ((PySem.W.findIn K (.type "int") (PySem.dunderR nm)).isSome && decide (PySem.W.subIn K (.type "int") (.ref C) = some false))))))
def cmB (K : PySem.W.Frag) (C : Addr) (m : Str) : Bool := He.eqO (PySem.W.findIn K (.ref C) m) (some (some (.ref (He.ma K C m)))) && (PySem.W.isFn K (.ref (He.ma K C m)) && PySem.W.notFirst K C (.type "int"))
section
variable {X : Cx} {CX : CXT} {k : Nat} {C : Addr} {fd : FuncData} {ps : List Str} {sp : Sp} {Es : St → XK}
theorem op_own {op : Operator} (hB : opB X.K C op.info.2 = true) (F : FnOk X.prog X.w X.K X.mg X.base CX k (He.ma X.K C (PySem.dunder op.info.2)) fd ps sp) (hr : Room k X.A) (hb : Binds X.K fd ps []) (hx : ∀ σ, PassesAt CX X σ (Es σ)) : OpR3 X (binaryOp op) (rOwn C sp Es) := by
  unfold opB at hB
  simp only [Bool.and_eq_true] at hB
  obtain ⟨h1, h2, h3, h4, h5, h6, h7⟩ := hB
  obtain ⟨fo, h5⟩ := Option.isSome_iff_exists.mp h5
  obtain ⟨ro, h6⟩ := Option.isSome_iff_exists.mp h6
  intro pins s σ H x y v u Q I rx ry ⟨a, dx, fs, ex, ha, hy, hsp⟩
  subst ex
  obtain rfl : v = Value.ref a := rx
  obtain ⟨mA, J0, _⟩ := ins_get I.hok ha
  obtain ⟨od, J1, _⟩ := J0.look
  obtain ⟨m, hF⟩ := I.fr
  have run : wpAny (model X.prog X.w) X.A (call (.ref (He.ma X.K C (PySem.dunder op.info.2))) [.ref a, u]) (PySem.W.CmpBack (EP X pins σ Q)) X.xe s := by
    have r2 : Vals [V.ref a, y] [Value.ref a, u] := .cons rfl (.cons ry .nil)
    exact wpAny_mono (run_fnSD (dvs := []) (ds := []) F hr hb .nil (hx σ) I r2 (by simpa using hsp)) (fun _ _ h => J.EP.back h) fun _ _ e => e
  rcases hy with ⟨b, dy, gs, rfl, hb2⟩ | ⟨i, rfl⟩
  · obtain rfl : u = Value.ref b := ry
    obtain ⟨mB, J2, _⟩ := ins_get I.hok hb2
    obtain ⟨od', J3, _⟩ := J2.look
    exact PySem.W.binop_K hF I.ok.mod.kin J1 J3.type h1 (He.eqO_ok h2) h3 run
  · obtain ⟨t, rfl⟩ := ry
    exact PySem.W.ksp_binT (T := "int") hF I.ok.mod.kin J1 rfl h1 (He.eqO_ok h2) h3 (He.eqO_ok h4) (.inl rfl) h5 h6 (of_decide_eq_true h7) run
theorem cm_own {op : CmpOp} (hop : op = .Eq) (hB : cmB X.K C (cmpInfo op).2.1 = true) (F : FnOk X.prog X.w X.K X.mg X.base CX k (He.ma X.K C (cmpInfo op).2.1) fd ps sp) (hr : Room k X.A) (hb : Binds X.K fd ps []) (hx : ∀ σ, PassesAt CX X σ (Es σ)) : OpR3 X (compareOp op) (rOwn C sp Es) := by
  unfold cmB at hB
  simp only [Bool.and_eq_true] at hB
  obtain ⟨h1, h2, h3⟩ := hB
  intro pins s σ H x y v u Q I rx ry ⟨a, dx, fs, ex, ha, hy, hsp⟩
  subst ex
  obtain rfl : v = Value.ref a := rx
  obtain ⟨mA, J0, _⟩ := ins_get I.hok ha
  obtain ⟨od, J1, _⟩ := J0.look
  obtain ⟨m, hF⟩ := I.fr
  have run : wpAny (model X.prog X.w) X.A (call (.ref (He.ma X.K C (cmpInfo op).2.1)) [.ref a, u]) (PySem.W.CmpBack (EP X pins σ Q)) X.xe s := by
    have r2 : Vals [V.ref a, y] [Value.ref a, u] := .cons rfl (.cons ry .nil)
    exact wpAny_mono (run_fnSD (dvs := []) (ds := []) F hr hb .nil (hx σ) I r2 (by simpa using hsp)) (fun _ _ h => J.EP.back h) fun _ _ e => e
  subst hop
  show wpAny (model X.prog X.w) X.A (richCompare .Eq _ u) (EP X pins σ Q) X.xe s
  rcases hy with ⟨b, dy, gs, rfl, hb2⟩ | ⟨i, rfl⟩
  · obtain rfl : u = Value.ref b := ry
    obtain ⟨mB, J2, _⟩ := ins_get I.hok hb2
    obtain ⟨od', J3, _⟩ := J2.look
    exact PySem.W.cmp_K (op := .Eq) (tb := .ref C) hr.units0 hF I.ok.mod.kin J1 J3.type (by simp [PySem.W.notFirst]) (He.eqO_ok h1) h2 run
  · obtain ⟨t, rfl⟩ := ry
    exact PySem.W.cmp_K (op := .Eq) (tb := .type "int") hr.units0 hF I.ok.mod.kin J1 (PySem.W.Looks.of_pure rfl) h3 (He.eqO_ok h1) h2 run
end
end J
namespace J
open PySem PySem.Spec PyProof.Rows L2
theorem OpR3.any {X : Cx} {f : Value → Value → Sem Value} {ι : Type} {r : ι → R3} (h : ∀ i, OpR3 X f (r i)) : OpR3 X f (fun x y σ H Q => ∃ i, r i x y σ H Q) := fun pins s σ H x y v u Q I rx ry ⟨i, q⟩ => h i pins s σ H x y v u Q I rx ry q
/-- an own operator of the class named c -/
structure OpJ (P : Program) (w : World) (K : PySem.W.Frag) (mg : Str → Option Value) (base : Heap) (k : Nat) (op : Operator) (c : Str) (F : DF) : Prop where
  ok : opB K (He.ga K c) op.info.2 = true ∧ ∃ fd ps, Binds K fd ps [] ∧ FnOk P w K mg base (L2N.CX P w) k (He.ma K (He.ga K c) (PySem.dunder op.info.2)) fd ps (spJ K 2 F)
structure EqJ (P : Program) (w : World) (K : PySem.W.Frag) (mg : Str → Option Value) (base : Heap) (k : Nat) (c : Str) (F : DF) : Prop where
  ok : cmB K (He.ga K c) "__eq__" = true ∧ ∃ fd ps, Binds K fd ps [] ∧ FnOk P w K mg base (L2N.CX P w) k (He.ma K (He.ga K c) "__eq__") fd ps (spJ K 2 F)
theorem OpJ.mono {P : Program} {w : World} {K : PySem.W.Frag} {mg : Str → Option Value} {base : Heap} {j k : Nat} {op : Operator} {c : Str} {F : DF} (h : OpJ P w K mg base j op c F) (hk : j ≤ k) : OpJ P w K mg base k op c F := by
  obtain ⟨h0, fd, ps, h1, h2⟩ := h
  exact ⟨h0, fd, ps, h1, h2.mono hk⟩
theorem EqJ.mono {P : Program} {w : World} {K : PySem.W.Frag} {mg : Str → Option Value} {base : Heap} {j k : Nat} {c : Str} {F : DF} (h : EqJ P w K mg base j c F) (hk : j ≤ k) : EqJ P w K mg base k c F := by
  obtain ⟨h0, fd, ps, h1, h2⟩ := h
  exact ⟨h0, fd, ps, h1, h2.mono hk⟩
def rightD (c : Str) : D → Bool
  | .ins c' _ _ => c' == c
  | .int _ => true
  | _ => false
/-- an operator: the class's own one where the left side is an instance, otherwise g -/
def ownR (tbl : Str → Option DF) (g : D → D → Option D) (x y : D) (E : Env) : R D := match x with
  | .ins c ns es => (match tbl c with
    | some F => if rightD c y = true then callD 2 F [.v (.ins c ns es), .v y] rvD E else .stuck
    | none => .stuck)
  | x => (match g x y with | some d => .ok d E | none => .stuck)
def fBin (tbl : Str → Option DF) (g : D → D → Option D) (fa fb : Env → R D) : Env → R D := fun E => (fa E).bind fun x E => (fb E).bind fun y E => ownR tbl g x y E
abbrev Tb (tbl : Str → Option DF) : Type := {p : Str × DF // tbl p.1 = some p.2}
section
variable {X : Cx} {W : WJ} {k : Nat} {a b : Expr} {fa fb : Env → R D} {tbl : Str → Option DF} {g : D → D → Option D} {r : R2} {pos : Pos}
theorem own_snd (hs : OpS X.K r g) {ta tb : TE} (sa : Snd X.K W (relE X.K) ta fa) (sb : Snd X.K W (relE X.K) tb fb) :
    Snd X.K W (relE X.K) (tOp3 (fun x y σ H Q => r x y H Q ∨ ∃ i : Tb tbl, rOwn (He.ga X.K i.1.1) (spJ X.K 2 i.1.2) (fun σ => WE W.w σ) x y σ H Q) ta tb) (fBin tbl g fa fb) := by
  intro Φ G H σ E Q S hp
  have hp' : Post X.K W.w (relE X.K) Φ G σ ((fa E).bind fun x E => (fb E).bind fun y E => ownR tbl g x y E) Q := hp
  refine sa.go S hp' fun x E1 G1 H1 v _ e1 S1 r1 hp => ?_
  refine sb.go S1 hp fun y E2 G2 H2 u _ e2 S2 r2 hp => ?_
  have r1 := Rp.mono e2 _ r1
  cases x with
  | ins c ns es =>
    have hp : Post X.K W.w (relE X.K) Φ G2 σ (match tbl c with
      | some F => if rightD c y = true then callD 2 F [.v (.ins c ns es), .v y] rvD E2 else .stuck
      | none => .stuck) Q := hp
    cases ht : tbl c with
    | none => rw [ht] at hp; exact hp.elim
    | some F =>
      rw [ht] at hp
      simp only at hp
      by_cases hy : rightD c y = true
      · rw [if_pos hy] at hp
        have hsp := callE_ok S2.toSat (.v r1 (.v r2 .nil)) hp
        cases r1 with
        | ins h1 h2 h3 =>
          refine .inr ⟨⟨(c, F), ht⟩, _, _, _, rfl, S2.gh _ _ h1, ?_, hsp⟩
          cases y with
          | ins c' ns' es' =>
            obtain rfl : c' = c := beq_iff_eq.mp hy
            cases r2 with
            | ins k1 k2 k3 => exact .inl ⟨_, _, _, rfl, S2.gh _ _ k1⟩
          | int i => cases r2; exact .inr ⟨i, rfl⟩
          | _ => cases hy
      · rw [if_neg hy] at hp; exact hp.elim
  | _ =>
    refine .inl ?_
    obtain ⟨d, hd, hq⟩ := Post.opt (o := g _ y) hp
    exact hs Φ G2 H2 σ E2 _ _ _ y d Q S2 (Rp.sh S2.gh r1) (Rp.sh S2.gh r2) hd fun G' H' v e1 e2 S' r => hq G' H' v e1 S' r
theorem j_bin {op : Operator} (ho : OpR X (binaryOp op) r) (hs : OpS X.K r g) (hF : ∀ c F, tbl c = some F → OpJ X.prog X.w X.K X.mg X.base k op c F) (hr : Room k X.A) (tk : L2N.Takes X W.w) (ha : JE X W a fa) (hb : JE X W b fb) : JE X W (.BinOp a op b pos) (fBin tbl g fa fb) := by
  obtain ⟨ta, pa, sa⟩ := ha
  obtain ⟨tb, pb, sb⟩ := hb
  refine ⟨_, pe_op3 (ho.or' ?_) pa pb, own_snd hs sa sb⟩
  exact OpR3.any fun i => by
    obtain ⟨h0, fd, ps, h1, h2⟩ := hF _ _ i.2
    exact op_own h0 h2 hr h1 fun σ => L2N.passAt tk σ
theorem j_eqO {op : CmpOp} (hop : op = .Eq) (ho : OpR X (compareOp op) r) (hs : OpS X.K r g) (hF : ∀ c F, tbl c = some F → EqJ X.prog X.w X.K X.mg X.base k c F) (hr : Room k X.A) (tk : L2N.Takes X W.w) (ha : JE X W a fa) (hb : JE X W b fb) (hm : behindInMarks op b = false) : JE X W (.Compare a [op] [b] pos) (fBin tbl g fa fb) := by
  obtain ⟨ta, pa, sa⟩ := ha
  obtain ⟨tb, pb, sb⟩ := hb
  refine ⟨_, pe_cmp3 (ho.or' ?_) pa pb hm, own_snd hs sa sb⟩
  exact OpR3.any fun i => by
    obtain ⟨h0, fd, ps, h1, h2⟩ := hF _ _ i.2
    subst hop
    exact cm_own rfl h0 h2 hr h1 fun σ => L2N.passAt tk σ
end
end J

namespace J
open PySem PySem.Spec PyProof.Rows L2

/-! ### the callee runs at a deeper place -/
section
variable {X : Cx} {CX : CXT} {k : Nat} {f : Addr} {fd : FuncData} {ps : List Str} {sp : Sp} {A : Around} {E : XK}
theorem run_fnA {pins : List (Addr × Obj)} {σ : St} {H : Hp} {s : Shared} {Q : VK} {us : List Value} {vs : List V} (F : FnOk X.prog X.w X.K X.mg X.base CX k f fd ps sp) (hr : Room k A) (hfr : A.frames = X.A.frames) (hb : Binds X.K fd ps []) (hx : PassesAt CX X σ E)
    (I : Inv X pins σ H s) (r : Vals vs us) (h : sp vs H Q E) : wpAny (model X.prog X.w) A (call (.ref f) us) (EP X pins σ Q) X.xe s := by
  have hl : us.length = ps.length := by rw [← r.length]; exact F.len _ _ _ _ h
  have e0 : Env0 X.prog X.w X.K X.mg X.base A X.stack s H := by
    have e := I.env0
    exact ⟨by rw [hfr]; exact e.frames, e.mod, e.bs, e.bsz, e.funs, e.frf, e.hok, e.bare⟩
  refine wpAny_call (codeAny_mono (F.run A X.stack s H ⟨us, []⟩ us vs Q E hr e0 (by have := hb s us I.kIn (by simpa using hl); simpa using this) r h) fun r s' hq => ?_)
  cases r with
  | error e => exact hx pins H s e s' I hq
  | ok fl =>
    cases fl with
    | ret u => exact I.after hq
    | next => exact False.elim hq
    | brk => exact False.elim hq
    | cont => exact False.elim hq
end

/-! ### -x, abs(x), bool(x) -/
abbrev R1 := V → St → Hp → VK → Prop
def UnR1 (X : Cx) (f : Value → Sem Value) (r : R1) : Prop :=
  ∀ (pins : List (Addr × Obj)) (s : Shared) (σ : St) (H : Hp) (x : V) (v : Value) (Q : VK), Inv X pins σ H s → RelV x v → r x σ H Q → wpAny (model X.prog X.w) X.A (f v) (EP X pins σ Q) X.xe s
def tUn1 (r : R1) (ta : TE) : TE := fun σ H Q => ta σ H fun x H1 => r x σ H1 Q
def rOwn1 (C : Addr) (sp : Sp) (Es : St → XK) : R1 := fun x σ H Q => ∃ a dx fs, x = .ref a ∧ H a = some (.ins C dx fs) ∧ sp [x] H Q (Es σ)
def unB (K : PySem.W.Frag) (C : Addr) (m : Str) : Bool := He.eqO (PySem.W.findIn K (.ref C) m) (some (some (.ref (He.ma K C m)))) && PySem.W.isFn K (.ref (He.ma K C m))
/-- a special method without a second operand of the class named c -/
structure UnJ (P : Program) (w : World) (K : PySem.W.Frag) (mg : Str → Option Value) (base : Heap) (k : Nat) (m c : Str) (F : DF) : Prop where
  ok : unB K (He.ga K c) m = true ∧ ∃ fd ps, Binds K fd ps [] ∧ FnOk P w K mg base (L2N.CX P w) k (He.ma K (He.ga K c) m) fd ps (spJ K 1 F)
theorem UnJ.mono {P : Program} {w : World} {K : PySem.W.Frag} {mg : Str → Option Value} {base : Heap} {j k : Nat} {m c : Str} {F : DF} (h : UnJ P w K mg base j m c F) (hk : j ≤ k) : UnJ P w K mg base k m c F := by
  obtain ⟨h0, fd, ps, h1, h2⟩ := h
  exact ⟨h0, fd, ps, h1, h2.mono hk⟩
def own1 (tbl : Str → Option DF) (g : D → Option D) (x : D) (E : Env) : R D := match x with
  | .ins c ns es => (match tbl c with
    | some F => callD 1 F [.v (.ins c ns es)] rvD E
    | none => .stuck)
  | x => (match g x with | some d => .ok d E | none => .stuck)
def fUn (tbl : Str → Option DF) (g : D → Option D) (fa : Env → R D) : Env → R D := fun E => (fa E).bind fun x E => own1 tbl g x E
section
variable {X : Cx} {W : WJ} {k : Nat} {a : Expr} {fa : Env → R D} {tbl : Str → Option DF} {pos p : Pos} {m : Str}
/-- the two ways of a one-place operation -/
theorem un_snd {g : D → Option D} {r : R1} {ta : TE} (hs : ∀ Φ G H σ E x (v : V) d Q, Sat X.K Φ G H σ E → Rp X.K G v x → g x = some d → (∀ G' H' u, Ex G G' → Sat X.K Φ G' H' σ E → Rp X.K G' u d → Q u H') → r v σ H Q) (sa : Snd X.K W (relE X.K) ta fa) :
    Snd X.K W (relE X.K) (tUn1 (fun x σ H Q => r x σ H Q ∨ ∃ i : Tb tbl, rOwn1 (He.ga X.K i.1.1) (spJ X.K 1 i.1.2) (fun σ => WE W.w σ) x σ H Q) ta) (fUn tbl g fa) := by
  intro Φ G H σ E Q S hp
  have hp' : Post X.K W.w (relE X.K) Φ G σ ((fa E).bind fun x E => own1 tbl g x E) Q := hp
  refine sa.go S hp' fun x E1 G1 H1 v _ e1 S1 r1 hp => ?_
  cases x with
  | ins c ns es =>
    have hp : Post X.K W.w (relE X.K) Φ G1 σ (match tbl c with
      | some F => callD 1 F [.v (.ins c ns es)] rvD E1
      | none => .stuck) Q := hp
    cases ht : tbl c with
    | none => rw [ht] at hp; exact hp.elim
    | some F =>
      rw [ht] at hp
      have hsp := callE_ok S1.toSat (.v r1 .nil) hp
      cases r1 with
      | ins h1 h2 h3 => exact .inr ⟨⟨(c, F), ht⟩, _, _, _, rfl, S1.gh _ _ h1, hsp⟩
  | _ =>
    refine .inl ?_
    obtain ⟨d, hd, hq⟩ := Post.opt (o := g _) hp
    exact hs Φ G1 H1 σ E1 _ v d Q S1 r1 hd fun G' H' v e1 S' r => hq G' H' v e1 S' r
theorem neg_own {C : Addr} {fd : FuncData} {ps : List Str} {sp : Sp} {Es : St → XK} {CX : CXT} (hB : unB X.K C "__neg__" = true) (F : FnOk X.prog X.w X.K X.mg X.base CX k (He.ma X.K C "__neg__") fd ps sp) (hr : Room k X.A) (hb : Binds X.K fd ps []) (hx : ∀ σ, PassesAt CX X σ (Es σ)) : UnR1 X (unaryOp .USub) (rOwn1 C sp Es) := by
  unfold unB at hB
  simp only [Bool.and_eq_true] at hB
  intro pins s σ H x v Q I rx ⟨a, dx, fs, ex, ha, hsp⟩
  subst ex
  obtain rfl : v = Value.ref a := rx
  obtain ⟨mA, J0, _⟩ := ins_get I.hok ha
  obtain ⟨od, J1, _⟩ := J0.look
  obtain ⟨m, hF⟩ := I.fr
  exact PySem.W.ksp_neg hF I.ok.mod.kin J1 (He.eqO_ok hB.1) hB.2 (run_fnA (us := [.ref a]) (vs := [.ref a]) F hr rfl hb (hx σ) I (.cons rfl .nil) hsp)
theorem pe_un1 {op : UnaryOp} {r : R1} {ta : TE} (ho : UnR1 X (unaryOp op) r) (ha : PE X a ta) : PE X (.UnaryOp op a pos) (tUn1 r ta) := by
  refine ⟨fun pins s σ H Q I h => ?_⟩
  exact UnaryOp_ (thn (ha.run pins s σ H _ I h) fun v s1 ⟨x, H1, I1, r1, q1⟩ => ho pins s1 σ H1 x v Q I1 r1 q1)
theorem j_negO (hF : ∀ c F, tbl c = some F → UnJ X.prog X.w X.K X.mg X.base k "__neg__" c F) (hr : Room k X.A) (tk : L2N.Takes X W.w) (ha : JE X W a fa) : JE X W (.UnaryOp .USub a pos) (fUn tbl gNeg fa) := by
  obtain ⟨ta, pa, sa⟩ := ha
  refine ⟨_, pe_un1 (fun pins s σ H x v Q I rx q => ?_) pa, un_snd (r := fun x σ H Q => rU (fun i => .int (-i)) x H Q) (fun Φ G H σ E x v d Q S r hd k => ?_) sa⟩
  · rcases q with q | ⟨i, q⟩
    · exact un_neg pins s σ H x v Q I rx q
    · obtain ⟨h0, fd, ps, h1, h2⟩ := hF _ _ i.2
      exact neg_own h0 h2 hr h1 (fun σ => L2N.passAt tk σ) pins s σ H x v Q I rx q
  · cases x with
    | int i => cases hd; cases r; exact ⟨i, rfl, k G H _ (Ex.refl G) S (.int _)⟩
    | _ => cases hd
/-- a call of a built-in with one value -/
theorem pe_callB1 {id : String} {r : R1} {ta : TE} {x : Str} (hc : UnR1 X (fun v => call (.builtin id) [v]) r) (hg : Gl X x) (hm : X.mg x = none) (hv : bootBuiltins x = some (.builtin id)) (ha : PE X a ta) (hn : x ≠ "__name__" := by decide) (hdb : (x == ("__debug__" : Str)) = false := by decide)
    (he : starEach [a] X.env = (false, eval a X.env) :: starEach [] X.env := by rfl) (hpl : (backTo pos (starEach [] X.env)).any (·.1) = false := by rfl) : PE X (.Call (.Name x p) [a] [] pos) (tUn1 r ta) := by
  refine ⟨fun pins s σ H Q I h => ?_⟩
  refine wpAny_Call_Name_kw (ld_blt I hg hm hv ?_ hn hdb)
  have hA : PA X [a] (tCons ta tNil) := pa_cons ha pa_nil he
  refine PyProof.Rows.callWith_builtin1 (thn (hA.run pos pins s σ H (fun vs H1 => match vs with | [v] => r v σ H1 Q | _ => False) I h) fun us s1 ⟨vs, H1, I1, r1, q⟩ => ?_) he hpl
  cases r1 with
  | nil => exact q.elim
  | cons k1 k2 =>
    cases k2 with
    | nil => exact hc pins s1 σ H1 _ _ Q I1 k1 q
    | cons _ _ => exact q.elim
theorem pe_callT1 {T : String} {r : R1} {ta : TE} {x : Str} (hc : UnR1 X (fun v => call (.type T) [v]) r) (hg : Gl X x) (hm : X.mg x = none) (hv : bootBuiltins x = some (.type T)) (ha : PE X a ta) (hn : x ≠ "__name__" := by decide) (hdb : (x == ("__debug__" : Str)) = false := by decide)
    (he : starEach [a] X.env = (false, eval a X.env) :: starEach [] X.env := by rfl) (hpl : (backTo pos (starEach [] X.env)).any (·.1) = false := by rfl) : PE X (.Call (.Name x p) [a] [] pos) (tUn1 r ta) := by
  refine ⟨fun pins s σ H Q I h => ?_⟩
  refine wpAny_Call_Name_kw (ld_blt I hg hm hv ?_ hn hdb)
  have hA : PA X [a] (tCons ta tNil) := pa_cons ha pa_nil he
  refine PyProof.Rows.callWith_type1 (thn (hA.run pos pins s σ H (fun vs H1 => match vs with | [v] => r v σ H1 Q | _ => False) I h) fun us s1 ⟨vs, H1, I1, r1, q⟩ => ?_) he hpl
  cases r1 with
  | nil => exact q.elim
  | cons k1 k2 =>
    cases k2 with
    | nil => exact hc pins s1 σ H1 _ _ Q I1 k1 q
    | cons _ _ => exact q.elim
theorem abs_own {C : Addr} {fd : FuncData} {ps : List Str} {sp : Sp} {Es : St → XK} {CX : CXT} (hB : unB X.K C "__abs__" = true) (F : FnOk X.prog X.w X.K X.mg X.base CX k (He.ma X.K C "__abs__") fd ps sp) (hr : Room (k + 1) X.A) (hb : Binds X.K fd ps []) (hx : ∀ σ, PassesAt CX X σ (Es σ)) : UnR1 X (fun v => call (.builtin "abs") [v]) (rOwn1 C sp Es) := by
  unfold unB at hB
  simp only [Bool.and_eq_true] at hB
  intro pins s σ H x v Q I rx ⟨a, dx, fs, ex, ha, hsp⟩
  subst ex
  obtain rfl : v = Value.ref a := rx
  obtain ⟨mA, J0, _⟩ := ins_get I.hok ha
  obtain ⟨od, J1, _⟩ := J0.look
  refine Calls.call_function_entry PyProof.Rows.kind_abs PyProof.Rows.plain_abs PyProof.Rows.entry_abs (PyProof.Rows.args_abs _) ?_
  unfold Builtin.«abs»
  refine wpAny_bind (m := oneArg "abs" _) (wpAny_pure ?_)
  have run := run_fnA (us := [.ref a]) (vs := [.ref a]) (A := X.A.in1) F hr.in1 rfl hb (hx σ) I (.cons rfl .nil) hsp
  refine wpAny_bind (m := callSpecial? (.ref a) (Str.ofString "__abs__") []) (PySem.W.special_fn I.kIn J1 (He.eqO_ok hB.1) (beq_iff_eq.mp hB.2) (wpAny_mono run (fun r s' q => ?_) fun _ _ e => e))
  exact wpAny_pure ⟨_, rfl, q⟩
theorem j_absO (hF : ∀ c F, tbl c = some F → UnJ X.prog X.w X.K X.mg X.base k "__abs__" c F) (hr : Room (k + 1) X.A) (tk : L2N.Takes X W.w) (hm : X.mg "abs" = none) (ha : JE X W a fa) (hg : Gl X "abs" := by rfl)
    (he : starEach [a] X.env = (false, eval a X.env) :: starEach [] X.env := by rfl) (hpl : (backTo pos (starEach [] X.env)).any (·.1) = false := by rfl) : JE X W (.Call (.Name "abs" p) [a] [] pos) (fUn tbl gAbs fa) := by
  obtain ⟨ta, pa, sa⟩ := ha
  refine ⟨_, pe_callB1 (id := "abs") (fun pins s σ H x v Q I rx q => ?_) hg hm (by decide +kernel) pa (by decide) (by decide) he hpl, un_snd (r := fun x σ H Q => ∃ i, x = .int i ∧ Q (.int (if i < 0 then -i else i)) H) (fun Φ G H σ E x v d Q S r hd k => ?_) sa⟩
  · rcases q with ⟨i, rfl, q⟩ | ⟨i, q⟩
    · exact call_abs pins s σ H [.int i] [v] Q I (.cons rx .nil) ⟨i, rfl, q⟩
    · obtain ⟨h0, fd, ps, h1, h2⟩ := hF _ _ i.2
      exact abs_own h0 h2 hr h1 (fun σ => L2N.passAt tk σ) pins s σ H x v Q I rx q
  · cases x with
    | int i => cases hd; cases r; exact ⟨i, rfl, k G H _ (Ex.refl G) S (.int _)⟩
    | _ => cases hd
end
end J

namespace J
open PySem PySem.Spec PyProof.Rows L2

/-! ### great powers, great divisions -/
section
variable {X : Cx} {W : WJ} {a b : Expr} {fa fb : Env → R D} {pos : Pos}
def gPowP : D → D → Option D := g2I fun i j => if 0 ≤ j ∧ (Builtin.Int.intBits i : Int) * j ≤ 2 ^ 27 then some (i ^ j.toNat) else none
theorem op_powP : OpR X (binaryOp .Pow) (rI (fun i j => 0 ≤ j ∧ (Builtin.Int.intBits i : Int) * j ≤ 2 ^ 27) fun i j => .int (i ^ j.toNat)) := opI fun _ _ _ _ _ _ _ hc q => pow_int hc.1 hc.2 q
theorem opS_powP {K : PySem.W.Frag} : OpS K (rI (fun i j => 0 ≤ j ∧ (Builtin.Int.intBits i : Int) * j ≤ 2 ^ 27) fun i j => .int (i ^ j.toNat)) gPowP := opS_I fun i j k h => if_some (c := 0 ≤ j ∧ (Builtin.Int.intBits i : Int) * j ≤ 2 ^ 27) h
theorem j_powP (ha : JE X W a fa) (hb : JO X W b fb) : JE X W (.BinOp a .Pow b pos) (fop gPowP fa fb) := j_op op_powP opS_powP ha hb
def gDivP : D → D → Option D := g2I fun i j => if 0 < j ∧ Builtin.divisionGoesByPylong i j = false then some (i / j) else none
theorem op_divP : OpR X (binaryOp .FloorDiv) (rI (fun i j => 0 < j ∧ Builtin.divisionGoesByPylong i j = false) fun i j => .int (i / j)) := opI fun i j _ _ _ _ _ hc q => by
  have h1 : (0 : Int) < j := hc.1
  exact floordiv_int (by omega) (by rw [Int.fdiv_eq_ediv_of_nonneg i (by omega)]; exact q) (.inl hc.2)
theorem opS_divP {K : PySem.W.Frag} : OpS K (rI (fun i j => 0 < j ∧ Builtin.divisionGoesByPylong i j = false) fun i j => .int (i / j)) gDivP := opS_I fun i j k h => if_some (c := 0 < j ∧ Builtin.divisionGoesByPylong i j = false) h
theorem j_divP (ha : JE X W a fa) (hb : JO X W b fb) : JE X W (.BinOp a .FloorDiv b pos) (fop gDivP fa fb) := j_op op_divP opS_divP ha hb
end

/-! ### e is True, e is False -/
section
variable {X : Cx} {W : WJ} {a : Expr} {fa : Env → R D} {pos pos' : Pos} {j : Nat}
def isBl (c neg : Bool) : D → Option D
  | .bl b => some (.bl (if neg then b != c else b == c))
  | .ins _ _ _ => some (.bl neg)
  | .int _ => some (.bl neg)
  | .non => some (.bl neg)
  | _ => none
theorem pc_isB {c : Bool} {ta : TE} (ha : PE X a ta) : PC X .Is a (.Constant (.bool c) j pos') (fun σ H Q => ta σ H fun x H1 => ∃ k, x = .bl k ∧ Q (.bl (k == c)) H1 ∨ ((∃ i, x = .int i) ∨ x = .non ∨ ∃ p, x = .ref p) ∧ Q (.bl false) H1) := by
  refine ⟨fun pins s σ H Q I h => ?_⟩
  refine thn (ha.run pins s σ H _ I h) fun v s1 ⟨x, H1, I1, r1, k, q1⟩ => ?_
  refine Constant_bool ?_
  rcases q1 with ⟨rfl, q⟩ | ⟨hx, q⟩
  · cases r1
    refine wpAny_is_plain rfl ⟨.bl (k == c), H1, I1, ?_, q⟩
    cases k <;> cases c <;> rfl
  · rcases hx with ⟨i, rfl⟩ | rfl | ⟨p, rfl⟩
    · obtain ⟨t, rfl⟩ := r1
      exact wpAny_is_plain rfl ⟨.bl false, H1, I1, rfl, q⟩
    · cases r1
      exact wpAny_is_plain rfl ⟨.bl false, H1, I1, rfl, q⟩
    · cases r1
      exact wpAny_is_plain rfl ⟨.bl false, H1, I1, rfl, q⟩
theorem pc_notB {c : Bool} {ta : TE} (ha : PE X a ta) : PC X .IsNot a (.Constant (.bool c) j pos') (fun σ H Q => ta σ H fun x H1 => ∃ k, x = .bl k ∧ Q (.bl (k != c)) H1 ∨ ((∃ i, x = .int i) ∨ x = .non ∨ ∃ p, x = .ref p) ∧ Q (.bl true) H1) := by
  refine ⟨fun pins s σ H Q I h => ?_⟩
  refine thn (ha.run pins s σ H _ I h) fun v s1 ⟨x, H1, I1, r1, k, q1⟩ => ?_
  refine Constant_bool ?_
  rcases q1 with ⟨rfl, q⟩ | ⟨hx, q⟩
  · cases r1
    refine wpAny_isNot_plain rfl ⟨.bl (k != c), H1, I1, ?_, q⟩
    cases k <;> cases c <;> rfl
  · rcases hx with ⟨i, rfl⟩ | rfl | ⟨p, rfl⟩
    · obtain ⟨t, rfl⟩ := r1
      exact wpAny_isNot_plain rfl ⟨.bl true, H1, I1, rfl, q⟩
    · cases r1
      exact wpAny_isNot_plain rfl ⟨.bl true, H1, I1, rfl, q⟩
    · cases r1
      exact wpAny_isNot_plain rfl ⟨.bl true, H1, I1, rfl, q⟩
theorem isB_snd {ta : TE} {c neg : Bool} (sa : Snd X.K W (relE X.K) ta fa) : Snd X.K W (relE X.K) (fun σ H Q => ta σ H fun x H1 => ∃ k, x = .bl k ∧ Q (.bl (if neg then k != c else k == c)) H1 ∨ ((∃ i, x = .int i) ∨ x = .non ∨ ∃ p, x = .ref p) ∧ Q (.bl neg) H1) (fun1 (isBl c neg) fa) := by
  intro Φ G H σ E Q S hp
  have hp' : Post X.K W.w (relE X.K) Φ G σ ((fa E).bind fun x E => match isBl c neg x with | some d => .ok d E | none => .stuck) Q := hp
  refine sa.go S hp' fun x E1 G1 H1 v _ e1 S1 r1 hp => ?_
  obtain ⟨d, hd, hq⟩ := Post.opt (o := isBl c neg x) hp
  cases x with
  | bl b => cases hd; cases r1; exact ⟨b, .inl ⟨rfl, hq G1 H1 _ (Ex.refl G1) S1 (.bl _)⟩⟩
  | int i => cases hd; cases r1; exact ⟨true, .inr ⟨.inl ⟨i, rfl⟩, hq G1 H1 _ (Ex.refl G1) S1 (.bl _)⟩⟩
  | non => cases hd; cases r1; exact ⟨true, .inr ⟨.inr (.inl rfl), hq G1 H1 _ (Ex.refl G1) S1 (.bl _)⟩⟩
  | ins c ns es => cases hd; cases r1; exact ⟨true, .inr ⟨.inr (.inr ⟨_, rfl⟩), hq G1 H1 _ (Ex.refl G1) S1 (.bl _)⟩⟩
  | _ => cases hd
theorem j_isB {c : Bool} (ha : JE X W a fa) : JE X W (.Compare a [.Is] [.Constant (.bool c) j pos'] pos) (fun1 (isBl c false) fa) := by
  obtain ⟨ta, pa, sa⟩ := ha
  exact ⟨_, pe_cmp (pc_isB pa), isB_snd (neg := false) sa⟩
theorem j_notB {c : Bool} (ha : JE X W a fa) : JE X W (.Compare a [.IsNot] [.Constant (.bool c) j pos'] pos) (fun1 (isBl c true) fa) := by
  obtain ⟨ta, pa, sa⟩ := ha
  exact ⟨_, pe_cmp (pc_notB pa), isB_snd (neg := true) sa⟩
theorem jt_isB {c : Bool} (ha : JE X W a fa) : JT X W (.Compare a [.Is] [.Constant (.bool c) j pos'] pos) (fTest (fun1 (isBl c false) fa)) := by
  obtain ⟨ta, pa, sa⟩ := ha
  exact ⟨_, pt_cmp (pc_isB pa), snd_test (isB_snd (neg := false) sa)⟩
theorem jt_notB {c : Bool} (ha : JE X W a fa) : JT X W (.Compare a [.IsNot] [.Constant (.bool c) j pos'] pos) (fTest (fun1 (isBl c true) fa)) := by
  obtain ⟨ta, pa, sa⟩ := ha
  exact ⟨_, pt_cmp (pc_notB pa), snd_test (isB_snd (neg := true) sa)⟩
end
end J

namespace J
open PySem PySem.Spec PyProof.Rows L2

/-! ### isinstance(x, C), C an own class -/
/-- what isinstance asks of an instance's class -/
def insB (K : PySem.W.Frag) (C : Addr) : Bool := PySem.W.plainGet K C Str.empty && (PySem.W.hasDictIn K C && (PySem.W.plainOver K C && (He.eqO (PySem.W.findIn K (.ref C) "__setattr__") (some (some (.builtin "object.__setattr__"))) && (He.eqO (PySem.W.findIn K (.ref C) "__class__") (some (some (.builtin "object.__class__"))) &&
  (He.eqO (PySem.W.specialIn K (.builtin "object.__class__") "__get__") (some (some (.builtin "getset_descriptor.__get__"))) && (decide (PySem.W.takesIn K (.builtin "object.__class__") = some true) && decide (PySem.W.mroIn K C (.type "object") = some true)))))))
structure IsJ (K : PySem.W.Frag) (C : Str) (T : Str → Option Bool) (ts : List String) : Prop where
  ins : ∀ c b, T c = some b → insB K (He.ga K c) = true ∧ PySem.W.kitOne K (.ref (He.ga K c)) (.ref (He.ga K C)) = some b
  ty : ∀ t ∈ ts, PySem.W.kitOne K (.type t) (.ref (He.ga K C)) = some false
def gIsO (T : Str → Option Bool) (ts : List String) : D → Option D := fun d => match d with
  | .ins c _ _ => (T c).map D.bl
  | d => (tyName d).bind fun n => if n ∈ ts then some (.bl false) else none
section
variable {X : Cx} {W : WJ} {a : Expr} {fa : Env → R D} {pos p p2 : Pos} {C : Str} {T : Str → Option Bool} {ts : List String}
theorem ins_tyx {K : PySem.W.Frag} {H : Hp} {q : Addr} {Ca dx : Addr} {fs : List (Str × V)} (h : insB K Ca = true) (e : H q = some (.ins Ca dx fs)) : TyX K H (.ref q) (.ref Ca) := by
  unfold insB at h
  simp only [Bool.and_eq_true] at h
  obtain ⟨h1, h2, h3, h4, h5, h6, h7, h8⟩ := h
  exact .base (.ins e ⟨h1, h2, h3, He.eqO_ok h4⟩ (He.eqO_ok h5) (He.eqO_ok h6) (of_decide_eq_true h7) (of_decide_eq_true h8))
theorem j_isO (hI : IsJ X.K C T ts) (hm : X.mg "isinstance" = none) (hC : X.mg C = some (.ref (He.ga X.K C))) (ha : JE X W a fa) (hg : Gl X "isinstance" := by rfl) (hg2 : Gl X C := by rfl) (hd2 : (C == ("__debug__" : Str)) = false := by decide)
    (he : starEach [a, .Name C p2] X.env = (false, eval a X.env) :: starEach [.Name C p2] X.env := by rfl) (he2 : starEach [.Name C p2] X.env = (false, eval (.Name C p2) X.env) :: starEach [] X.env := by rfl) (hpl : (backTo pos (starEach [.Name C p2] X.env)).any (·.1) = false := by rfl) :
    JE X W (.Call (.Name "isinstance" p) [a, .Name C p2] [] pos) (fun1 (gIsO T ts) fa) := by
  obtain ⟨ta, pa, sa⟩ := ha
  refine ⟨_, pe_callB call_isi hg hm (by decide +kernel) (pa_cons pa (pa_cons (pe_glob (v := .ref (He.ga X.K C)) hg2 hC rfl hd2) pa_nil he2) he) (by decide) (by decide) he hpl, fun Φ G H σ E Q S hp => ?_⟩
  have hp' : Post X.K W.w (relE X.K) Φ G σ ((fa E).bind fun x E => match gIsO T ts x with | some d => .ok d E | none => .stuck) Q := hp
  refine sa.go S hp' fun d E1 G1 H1 x _ e1 S1 r1 hp => ?_
  obtain ⟨y, hd, hq⟩ := Post.opt (o := gIsO T ts d) hp
  have other : ∀ n, tyName d = some n → n ∈ ts → y = .bl false → ∃ (x' c : V) (t u : Value) (b : Bool), [x, .ref (He.ga X.K C)] = [x', c] ∧ ClsV c u ∧ TyX X.K H1 x' t ∧ PySem.W.kitOne X.K t u = some b ∧ Q (.bl b) H1 := fun n h1 h2 h3 => by
    subst h3
    exact ⟨x, _, .type n, _, false, rfl, .own _, (Rp.sh S1.gh r1).tyx S1.gh h1, hI.ty n h2, hq G1 H1 _ (Ex.refl G1) S1 (.bl _)⟩
  cases d with
  | ins c ns es =>
    obtain ⟨b, hb, rfl⟩ := Option.map_eq_some_iff.mp (show (T c).map D.bl = some y from hd)
    obtain ⟨k1, k2⟩ := hI.ins c b hb
    cases r1 with
    | ins h1 h2 h3 => exact ⟨_, _, .ref _, _, b, rfl, .own _, ins_tyx k1 (S1.gh _ _ h1), k2, hq G1 H1 _ (Ex.refl G1) S1 (.bl _)⟩
  | non => obtain ⟨n, h1, h2⟩ := Option.bind_eq_some_iff.mp (show (tyName .non).bind (fun n => if n ∈ ts then some (D.bl false) else none) = some y from hd); obtain ⟨h3, h4⟩ := if_some h2; exact other n h1 h3 h4
  | bl b => obtain ⟨n, h1, h2⟩ := Option.bind_eq_some_iff.mp (show (tyName (.bl b)).bind (fun n => if n ∈ ts then some (D.bl false) else none) = some y from hd); obtain ⟨h3, h4⟩ := if_some h2; exact other n h1 h3 h4
  | int b => obtain ⟨n, h1, h2⟩ := Option.bind_eq_some_iff.mp (show (tyName (.int b)).bind (fun n => if n ∈ ts then some (D.bl false) else none) = some y from hd); obtain ⟨h3, h4⟩ := if_some h2; exact other n h1 h3 h4
  | str b => obtain ⟨n, h1, h2⟩ := Option.bind_eq_some_iff.mp (show (tyName (.str b)).bind (fun n => if n ∈ ts then some (D.bl false) else none) = some y from hd); obtain ⟨h3, h4⟩ := if_some h2; exact other n h1 h3 h4
  | tup b => obtain ⟨n, h1, h2⟩ := Option.bind_eq_some_iff.mp (show (tyName (.tup b)).bind (fun n => if n ∈ ts then some (D.bl false) else none) = some y from hd); obtain ⟨h3, h4⟩ := if_some h2; exact other n h1 h3 h4
  | lst b => obtain ⟨n, h1, h2⟩ := Option.bind_eq_some_iff.mp (show (tyName (.lst b)).bind (fun n => if n ∈ ts then some (D.bl false) else none) = some y from hd); obtain ⟨h3, h4⟩ := if_some h2; exact other n h1 h3 h4
  | rol b => cases hd

/-! ### xs.count(i) -/
def gCntL (l : List D) : D → Option D
  | .int k => (intsD l).map fun ns => .int (ns.count k : Nat)
  | _ => none
def fCnt (fo fe : Env → R D) : Env → R D := fun E => (fo E).bind fun x E => match listD x with
  | some l => (fe E).bind fun y E => (match gCntL l y with | some d => .ok d E | none => .stuck)
  | none => .stuck
theorem j_count {o e : Expr} {fo fe : Env → R D} {apos : Pos} (ho : JE X W o fo) (hv : JE X W e fe) (hbase : attributeBase o "count" X.env (eval o X.env) = eval o X.env := by rfl)
    (hfew : ((backTo pos (starEach [e] X.env)).all (fun x => !x.1) && (backToKw pos (keywordEach [] X.env)).all (fun x => x.1.isSome) && decide ([e].length + ([] : List Keyword).length + (if ([] : List Keyword).isEmpty then 0 else 1) < 30)) = true := by rfl) (hline : (apos.endLine == pos.line) = true := by rfl)
    (hs : starEach [e] X.env = (false, eval e X.env) :: starEach [] X.env := by rfl) (hplain : (backTo pos (starEach [] X.env)).any (·.1) = false := by rfl) : JE X W (.Call (.Attribute o "count" apos) [e] [] pos) (fCnt fo fe) := by
  obtain ⟨to, po, so⟩ := ho
  obtain ⟨te, pe, se⟩ := hv
  refine ⟨_, pe_bm PySem.F.plainAttrs_list PySem.F.slot_list_count PySem.F.type_list_count mt_lcount po (pa_cons pe pa_nil hs) hbase hfew hline hs hplain, fun Φ G H σ E Q S hp => ?_⟩
  have hp' : Post X.K W.w (relE X.K) Φ G σ ((fo E).bind fun x E => match listD x with
    | some l => (fe E).bind fun y E => (match gCntL l y with | some d => .ok d E | none => .stuck)
    | none => .stuck) Q := hp
  refine so.go S hp' fun x E1 G1 H1 v _ e1 S1 r1 hp => ?_
  have tyl : ∀ l, listD x = some l → ∃ q vs, v = .ref q ∧ SqL X.K G1 q vs ∧ RpA X.K G1 vs l := fun l h => by
    cases x with
    | lst l' => cases h; cases r1 with | lst h1 h2 => exact ⟨_, _, rfl, SqL.of h1, h2⟩
    | rol l' => cases h; cases r1 with | rol h1 h2 => exact ⟨_, _, rfl, h1, h2⟩
    | _ => cases h
  obtain ⟨l, hl⟩ : ∃ l, listD x = some l := by
    cases hx : listD x with
    | some l => exact ⟨l, rfl⟩
    | none => rw [hx] at hp; exact hp.elim
  rw [hl] at hp
  obtain ⟨q, vs, rfl, h1, h2⟩ := tyl l hl
  refine ⟨.inl ⟨rfl, vs, S1.gh.sl h1⟩, ?_⟩
  refine se.go S1 hp fun y E2 G2 H2 u _ e2 S2 r2 hp => ?_
  obtain ⟨d, hd, hq⟩ := Post.opt (o := gCntL l y) hp
  cases y with
  | int k =>
    obtain ⟨ns, hn, rfl⟩ := Option.map_eq_some_iff.mp (show (intsD l).map (fun ns => D.int (ns.count k : Nat)) = some d from hd)
    have := intsD_eq hn
    subst this
    have hv := RpA.of_ints h2
    subst hv
    cases r2
    exact ⟨q, ns, k, rfl, rfl, S2.gh.sl (e2.sl h1), hq G2 H2 _ (Ex.refl G2) S2 (.int _)⟩
  | _ => cases hd
end

/-! ### gcd, lcm -/
section
variable {X : Cx} {W : WJ} {a b : Expr} {fa fb : Env → R D} {pos p : Pos} {x : Str}
def gGcd : D → D → Option D := g2I fun i j => some ((Nat.gcd i.natAbs j.natAbs : Nat) : Int)
def lcmOk (i j : Int) : Prop := (max 1 i.natAbs).log2 / 30 + 1 ≤ 450 ∧ (max i.natAbs j.natAbs).log2 / 30 + 1 ≤ 450
instance (i j : Int) : Decidable (lcmOk i j) := by unfold lcmOk; infer_instance
def gLcm : D → D → Option D := g2I fun i j => if lcmOk i j then some ((Nat.lcm i.natAbs j.natAbs : Nat) : Int) else none
def rI2 (C : Int → Int → Prop) (h : Int → Int → Int) : List V → Hp → VK → Prop := fun xs H Q => ∃ i j, xs = [.int i, .int j] ∧ C i j ∧ Q (.int (h i j)) H
theorem j_mod2 {id : String} {C : Int → Int → Prop} {h : Int → Int → Int} {g : Int → Int → Option Int} (hc : CallR X (.builtin id) (rI2 C h)) (hg' : ∀ i j k, g i j = some k → C i j ∧ k = h i j) (hm : X.mg x = some (.builtin id)) (ha : JE X W a fa) (hb : JE X W b fb) (hg : Gl X x := by rfl) (hdb : (x == ("__debug__" : Str)) = false := by decide)
    (he : starEach [a, b] X.env = (false, eval a X.env) :: starEach [b] X.env := by rfl) (he2 : starEach [b] X.env = (false, eval b X.env) :: starEach [] X.env := by rfl) (hpl : (backTo pos (starEach [b] X.env)).any (·.1) = false := by rfl) : JE X W (.Call (.Name x p) [a, b] [] pos) (fop (g2I g) fa fb) := by
  obtain ⟨ta, pa, sa⟩ := ha
  obtain ⟨tb, pb, sb⟩ := hb
  refine ⟨_, pe_callBfun hc hg hm (pa_cons pa (pa_cons pb pa_nil he2) he) hdb he hpl, fun Φ G H σ E Q S hp => ?_⟩
  have hp' : Post X.K W.w (relE X.K) Φ G σ ((fa E).bind fun x E => (fb E).bind fun y E => match g2I g x y with | some d => .ok d E | none => .stuck) Q := hp
  refine sa.go S hp' fun x E1 G1 H1 v _ e1 S1 r1 hp => ?_
  refine sb.go S1 hp fun y E2 G2 H2 u _ e2 S2 r2 hp => ?_
  obtain ⟨d, hd, hq⟩ := Post.opt (o := g2I g x y) hp
  cases x with
  | int i =>
    cases y with
    | int j =>
      obtain ⟨k, hk, rfl⟩ := Option.map_eq_some_iff.mp (show (g i j).map D.int = some d from hd)
      obtain ⟨h1, rfl⟩ := hg' i j k hk
      cases r1
      cases r2
      exact ⟨i, j, rfl, h1, hq G2 H2 _ (Ex.refl G2) S2 (.int _)⟩
    | _ => cases hd
  | _ => cases hd
theorem cr_gcd2 : CallR X (.builtin "math.gcd") (rI2 (fun _ _ => True) fun i j => ((Nat.gcd i.natAbs j.natAbs : Nat) : Int)) := fun pins s σ H xs us Q I r ⟨i, j, hx, _, q⟩ => cr_gcd pins s σ H xs us Q I r ⟨i, j, hx, q⟩
theorem lt_of_log {n k : Nat} (h : n.log2 < k) : n < 2 ^ k := by
  by_cases h0 : n = 0
  · subst h0; exact Nat.pow_pos (by decide)
  · exact (Nat.log2_lt h0).mp h
theorem log_of_lt {n k : Nat} (h : n < 2 ^ k) (hk : 0 < k) : n.log2 < k := by
  by_cases h0 : n = 0
  · subst h0; rw [Nat.log2_zero]; exact hk
  · exact (Nat.log2_lt h0).mpr h
theorem lcm_fits {i j : Int} (h : lcmOk i j) : ((((Nat.lcm 1 i.natAbs).lcm j.natAbs : Nat) : Int)).natAbs.log2 < bitsLine := by
  have h1 : i.natAbs < 2 ^ 13500 := Nat.lt_of_le_of_lt (Nat.le_max_right 1 _) (lt_of_log (by have := h.1; omega))
  have h2 : j.natAbs < 2 ^ 13500 := Nat.lt_of_le_of_lt (Nat.le_max_right i.natAbs _) (lt_of_log (by have := h.2; omega))
  rw [show Nat.lcm 1 i.natAbs = i.natAbs by simp [Nat.lcm], Int.natAbs_natCast]
  have h3 : i.natAbs.lcm j.natAbs < 2 ^ 27000 := by
    have : (2 : Nat) ^ 27000 = 2 ^ 13500 * 2 ^ 13500 := by rw [← Nat.pow_add]
    rw [this]
    refine Nat.lt_of_le_of_lt (show i.natAbs.lcm j.natAbs ≤ i.natAbs * j.natAbs from Nat.div_le_self _ _) ?_
    exact Nat.mul_lt_mul_of_lt_of_le h1 (Nat.le_of_lt h2) (Nat.pow_pos (by decide))
  exact Nat.lt_trans (log_of_lt h3 (by decide)) (by decide)
theorem cr_lcm2 : CallR X (.builtin "math.lcm") (rI2 lcmOk fun i j => ((Nat.lcm i.natAbs j.natAbs : Nat) : Int)) := by
  intro pins s σ H vs us Q I r ⟨i, j, hx, hc, q⟩
  subst hx
  obtain ⟨t, u, rfl⟩ := Vals.int2 r
  have hs := lcm_fits hc
  have g := PySem.W.mg_run_lcm i t j u (by have := hc.1; omega) (by have := hc.2; omega) hs
  rw [show Nat.lcm 1 i.natAbs = i.natAbs by simp [Nat.lcm]] at g
  exact PySem.call_function_meets PySem.W.MGF.kind_lcm PySem.W.MGF.plain_lcm PySem.W.MGF.entry_lcm (PySem.W.MGF.args_lcm _ _) g.meets ⟨.int _, H, I.tok _, ⟨_, rfl⟩, q⟩
theorem j_gcd (hm : X.mg x = some (.builtin "math.gcd")) (ha : JE X W a fa) (hb : JE X W b fb) (hg : Gl X x := by rfl) (hdb : (x == ("__debug__" : Str)) = false := by decide)
    (he : starEach [a, b] X.env = (false, eval a X.env) :: starEach [b] X.env := by rfl) (he2 : starEach [b] X.env = (false, eval b X.env) :: starEach [] X.env := by rfl) (hpl : (backTo pos (starEach [b] X.env)).any (·.1) = false := by rfl) : JE X W (.Call (.Name x p) [a, b] [] pos) (fop gGcd fa fb) :=
  j_mod2 cr_gcd2 (fun i j k h => ⟨trivial, (Option.some.inj h).symm⟩) hm ha hb hg hdb he he2 hpl
theorem j_lcm (hm : X.mg x = some (.builtin "math.lcm")) (ha : JE X W a fa) (hb : JE X W b fb) (hg : Gl X x := by rfl) (hdb : (x == ("__debug__" : Str)) = false := by decide)
    (he : starEach [a, b] X.env = (false, eval a X.env) :: starEach [b] X.env := by rfl) (he2 : starEach [b] X.env = (false, eval b X.env) :: starEach [] X.env := by rfl) (hpl : (backTo pos (starEach [b] X.env)).any (·.1) = false := by rfl) : JE X W (.Call (.Name x p) [a, b] [] pos) (fop gLcm fa fb) :=
  j_mod2 cr_lcm2 (fun i j k h => if_some h) hm ha hb hg hdb he he2 hpl
end
end J

namespace J
open PySem PySem.Spec PyProof.Rows L2

/-! ### C.m(..), m a staticmethod -/
def stB (K : PySem.W.Frag) (C : Addr) (m : Str) (g : Addr) : Bool := PySem.W.readsIn K C (.type "type") && (He.eqO (PySem.W.specialIn K (.ref C) "__getattribute__") (some (some (.builtin "type.__getattribute__"))) && ((match PySem.W.findCls K (.ref C) (.type "type") m with
  | some (.get (.builtin i) (.ref p) .none (.ref D)) => decide (i = "staticmethod.__get__") && (decide (p = He.ma K C m) && decide (D = C))
  | _ => false) && ((match PySem.W.recIn K (He.ma K C m) "staticmethod" with
  | some (.ref f :: _) => decide (f = g)
  | _ => false) && (PySem.W.keepIn K (.ref g) && PySem.W.isFn K (.ref g)))))
/-- the staticmethod's def -/
def sfA (K : PySem.W.Frag) (C : Addr) (m : Str) : Addr := match PySem.W.recIn K (He.ma K C m) "staticmethod" with
  | some (.ref f :: _) => f
  | _ => 0
theorem stB_ok {K : PySem.W.Frag} {C g : Addr} {m : Str} (h : stB K C m g = true) : PySem.W.readsIn K C (.type "type") = true ∧ PySem.W.specialIn K (.ref C) "__getattribute__" = some (some (.builtin "type.__getattribute__")) ∧
    PySem.W.findCls K (.ref C) (.type "type") m = some (.get (.builtin "staticmethod.__get__") (.ref (He.ma K C m)) .none (.ref C)) ∧ (∃ rest, PySem.W.recIn K (He.ma K C m) "staticmethod" = some (.ref g :: rest)) ∧ PySem.W.keepIn K (.ref g) = true ∧ PySem.W.isFn K (.ref g) = true := by
  unfold stB at h
  simp only [Bool.and_eq_true] at h
  obtain ⟨h1, h2, h3, h4, h5, h6⟩ := h
  refine ⟨h1, He.eqO_ok h2, ?_, ?_, h5, h6⟩
  · clear h4
    split at h3
    · rename_i i p D e
      simp only [Bool.and_eq_true, decide_eq_true_eq] at h3
      obtain ⟨rfl, rfl, rfl⟩ := h3
      exact e
    · cases h3
  · split at h4
    · rename_i f r e
      have := of_decide_eq_true h4
      subst this
      exact ⟨r, e⟩
    · cases h4
section
variable {X : Cx} {CX : CXT} {k : Nat} {C g : Addr} {fd : FuncData} {ps : List Str} {sp : Sp} {dvs : List V} {ds : List Value} {Es : St → XK} {x m : Str} {p pos apos : Pos} {e o : Expr} {es : List Expr} {ta : TE} {t : TA}
def tStat (C : Addr) (sp : Sp) (dvs : List V) (Es : St → XK) (ta : TE) (t : TA) : TE := fun σ H Q => ta σ H fun x H1 => x = .ref C ∧ t σ H1 fun vs H2 => sp (vs ++ dvs) H2 Q (Es σ)
theorem pe_stat {pl : Sem Bool} (he : PE X o ta) (hB : stB X.K C m g = true) (F : FnOk X.prog X.w X.K X.mg X.base CX k g fd ps sp) (hr : Room k X.A) (hb : Binds X.K fd ps ds) (hd : Vals dvs ds) (hx : ∀ σ, PassesAt CX X σ (Es σ)) (ha : PA X (e :: es) t)
    (hst : starEach (e :: es) X.env = (false, eval e X.env) :: starEach es X.env := by rfl) (hpl : (backTo pos (starEach es X.env)).any (·.1) = false := by rfl)
    (ht : eval (.Call (.Attribute o m apos) (e :: es) [] pos) X.env = (do
      let ov ← eval o X.env
      standAt apos.atName
      let (f, first) ← holding [ov] (getMethod ov m pl)
      callWith pos f first (backTo pos (starEach (e :: es) X.env)) (backToKw pos (keywordEach [] X.env))) := by rfl) :
    PE X (.Call (.Attribute o m apos) (e :: es) [] pos) (tStat C sp dvs Es ta t) := by
  obtain ⟨h1, h2, h3, ⟨rest, h4⟩, h5, h6⟩ := stB_ok hB
  refine ⟨fun pins s σ H Q I h => ?_⟩
  refine PySem.W.methodCall_KW (pl := pl) (thn (he.run pins s σ H _ I h) fun u s1 ⟨x, H1, I1, rx, ex, q⟩ => ?_) ht
  subst ex
  obtain rfl : u = Value.ref C := rx
  refine PySem.W.method_cls I1.kIn h2 (PySem.W.cls_bind I1.kIn h1 h3 ?_)
  refine wpAny_call (PySem.W.sm_get (s := { s1 with toks := s1.toks + 1 }) I1.kIn h4 (PySem.W.handed_on rfl ?_))
  have I2 := I1.tok (s1.toks + 1)
  refine PySem.W.callWith_K (first := []) (h₀ := X.base) I2.ok.mod.kin h5 (thn (ha.run pos pins _ σ H1 _ I2 q) fun us s2 ⟨vs, H2, I3, r, q2⟩ => ⟨I3.kIn, ?_⟩) hst hpl
  exact run_fnSD F hr hb hd (hx σ) I3 r q2
end
/-- a staticmethod of the class named c -/
structure StJ (P : Program) (w : World) (K : PySem.W.Frag) (mg : Str → Option Value) (base : Heap) (k : Nat) (c m : Str) (n : Nat) (F : DF) : Prop where
  ok : mg c = some (.ref (He.ga K c)) ∧ ∃ g fd ps, stB K (He.ga K c) m g = true ∧ Binds K fd ps [] ∧ FnOk P w K mg base (L2N.CX P w) k g fd ps (spJ K n F)
theorem StJ.mono {P : Program} {w : World} {K : PySem.W.Frag} {mg : Str → Option Value} {base : Heap} {j k : Nat} {c m : Str} {n : Nat} {F : DF} (h : StJ P w K mg base j c m n F) (hk : j ≤ k) : StJ P w K mg base k c m n F := by
  obtain ⟨h0, g, fd, ps, h1, h2, h3⟩ := h
  exact ⟨h0, g, fd, ps, h1, h2, h3.mono hk⟩
theorem j_stat {X : Cx} {W : WJ} {k n : Nat} {c m : Str} {p pos apos : Pos} {e : Expr} {es : List Expr} {fa : Env → R (List Ar)} {F : DF} (hF : StJ X.prog X.w X.K X.mg X.base k c m n F) (hr : Room k X.A) (tk : L2N.Takes X W.w) (ha : JX X W (e :: es) fa) (hg : Gl X c := by rfl) (hd : (c == ("__debug__" : Str)) = false := by decide) {pl : Sem Bool}
    (hst : starEach (e :: es) X.env = (false, eval e X.env) :: starEach es X.env := by rfl) (hpl : (backTo pos (starEach es X.env)).any (·.1) = false := by rfl)
    (ht : eval (.Call (.Attribute (.Name c p) m apos) (e :: es) [] pos) X.env = (do
      let ov ← eval (.Name c p) X.env
      standAt apos.atName
      let (f, first) ← holding [ov] (getMethod ov m pl)
      callWith pos f first (backTo pos (starEach (e :: es) X.env)) (backToKw pos (keywordEach [] X.env))) := by rfl) : JE X W (.Call (.Attribute (.Name c p) m apos) (e :: es) [] pos) (fCallR n F fa rvD) := by
  obtain ⟨h0, g, fd, ps, h1, h2, h3⟩ := hF
  obtain ⟨ta, pa, sa⟩ := ha
  refine ⟨_, pe_stat (pl := pl) (dvs := []) (ds := []) (Es := fun σ => WE W.w σ) (pe_glob (v := .ref (He.ga X.K c)) hg h0 rfl hd) h1 h3 hr h2 .nil (fun σ => L2N.passAt tk σ) pa hst hpl ht, fun Φ G H σ E Q S hp => ⟨rfl, ?_⟩⟩
  have hp' : Post X.K W.w (relE X.K) Φ G σ ((fa E).bind fun as E1 => callD n F as rvD E1) Q := hp
  refine sa.go S hp' fun as E1 G1 H1 vs _ e1 S1 r1 hp => ?_
  show spJ X.K n F (vs ++ []) H1 Q (WE W.w σ)
  rw [List.append_nil]
  exact callE_ok S1.toSat r1 hp

/-! ### bool(x) of an instance -/
section
variable {X : Cx} {W : WJ} {k : Nat} {a : Expr} {fa : Env → R D} {tbl : Str → Option DF} {pos p : Pos}
/-- what a __bool__ gives back: a bool -/
def rOwnB (C : Addr) (sp : Sp) (Es : St → XK) : R1 := fun x σ H Q => ∃ a dx fs, x = .ref a ∧ H a = some (.ins C dx fs) ∧ sp [x] H (fun v H' => (∃ b, v = .bl b) ∧ Q v H') (Es σ)
theorem bool_own {C : Addr} {fd : FuncData} {ps : List Str} {sp : Sp} {Es : St → XK} {CX : CXT} (hB : unB X.K C "__bool__" = true) (F : FnOk X.prog X.w X.K X.mg X.base CX k (He.ma X.K C "__bool__") fd ps sp) (hr : Room (k + 2) X.A) (hb : Binds X.K fd ps []) (hx : ∀ σ, PassesAt CX X σ (Es σ)) : UnR1 X (fun v => call (.type "bool") [v]) (rOwnB C sp Es) := by
  unfold unB at hB
  simp only [Bool.and_eq_true] at hB
  intro pins s σ H x v Q I rx ⟨a, dx, fs, ex, ha, hsp⟩
  subst ex
  obtain rfl : v = Value.ref a := rx
  obtain ⟨mA, J0, _⟩ := ins_get I.hok ha
  obtain ⟨od, J1, _⟩ := J0.look
  obtain ⟨m, hF⟩ := I.fr
  have run := run_fnA (us := [.ref a]) (vs := [.ref a]) (A := X.A.in1.in1) F hr.in1.in1 rfl hb (hx σ) I (.cons rfl .nil) hsp
  have tru : wpAny (model X.prog X.w) X.A.in1.in1 (truthy (.ref a)) (fun b s' => ∃ H', Inv X pins σ H' s' ∧ Q (.bl b) H') X.xe s := by
    refine PySem.W.truthy_K hF I.ok.mod.kin J1 (He.eqO_ok hB.1) hB.2 (wpAny_mono run (fun r s' q => ?_) fun _ _ e => e)
    obtain ⟨z, H', I', rz, ⟨b, rfl⟩, q⟩ := q
    cases rz
    exact ⟨H', I', q⟩
  have nw : wpAny (model X.prog X.w) X.A.in1.in1 (Builtin.«bool.__new__» ⟨[.type "bool", .ref a], []⟩) (fun fin s' => ∃ b H', fin = .done (.ret (.bool b)) ∧ Inv X pins σ H' s' ∧ Q (.bl b) H') X.xe s := by
    unfold Builtin.«bool.__new__»
    refine wpAny_bind (wpAny_of_eq (a := true) rfl ?_)
    refine PySem.W.KFB.if_not rfl ?_
    refine wpAny_bind (wpAny_of_eq (a := true) PySem.F.conv_sub_bool ?_)
    refine PySem.W.KFB.if_not rfl ?_
    refine wpAny_bind (wpAny_of_eq (a := [Value.ref a]) rfl ?_)
    refine wpAny_bind (wpAny_mono tru (fun b s' q => ?_) fun _ _ e => e)
    obtain ⟨H', I', q⟩ := q
    exact wpAny_pure ⟨b, H', rfl, I', q⟩
  refine callType_codes (Q₁ := fun obj s1 => ∃ b H', obj = .bool b ∧ Inv X pins σ H' s1 ∧ Q (.bl b) H') PySem.F.called_bool (PySem.F.typeCall_bool_1 _) PySem.F.entry_object_init ?_ ?_
  · refine codeAny_call_builtin PySem.F.called_bool.plain PySem.F.entry_bool_new (wpAny_of_eq (PySem.F.newCall_bool_1 _) ?_)
    refine wpAny_mono nw (fun fin s' q => ?_) fun _ _ e => e
    obtain ⟨b, H', rfl, I', q⟩ := q
    exact ⟨b, H', rfl, I', q⟩
  · rintro obj s1 ⟨b, H', rfl, I', q⟩
    refine ⟨rfl, PySem.F.args_object_init_2 _ _, ?_⟩
    exact object_init_meets PySem.F.called_bool.init.lookup PySem.F.called_bool.made PySem.F.newNe_bool X.prog X.w X.A.in1 _ s1 ⟨rfl, rfl, ⟨.bl b, H', I', rfl, q⟩⟩
def blO (d : D) (E : Env) : R D := match d with
  | .bl b => .ok (.bl b) E
  | _ => .stuck
def fUnB (tbl : Str → Option DF) (g : D → Option D) (fa : Env → R D) : Env → R D := fun E => (fUn tbl g fa E).bind blO
theorem Post.blO {K : PySem.W.Frag} {W : WX} {Φ : Fr} {G : Hp} {σ : St} {r : R D} {Q : VK} (h : Post K W (relE K) Φ G σ (r.bind J.blO) Q) : Post K W (relE K) Φ G σ r (fun v H' => (∃ b, v = .bl b) ∧ Q v H') := by
  cases r with
  | stuck => exact h
  | exc x E => exact h
  | ok d E =>
    cases d with
    | bl b => intro G' H' v e S r; cases r; exact ⟨⟨b, rfl⟩, h G' H' _ e S (.bl b)⟩
    | _ => exact h.elim
theorem j_boolO (hF : ∀ c F, tbl c = some F → UnJ X.prog X.w X.K X.mg X.base k "__bool__" c F) (hr : Room (k + 2) X.A) (tk : L2N.Takes X W.w) (hm : X.mg "bool" = none) (ha : JE X W a fa) (hg : Gl X "bool" := by rfl)
    (he : starEach [a] X.env = (false, eval a X.env) :: starEach [] X.env := by rfl) (hpl : (backTo pos (starEach [] X.env)).any (·.1) = false := by rfl) : JE X W (.Call (.Name "bool" p) [a] [] pos) (fUnB tbl gBoolF fa) := by
  obtain ⟨ta, pa, sa⟩ := ha
  refine ⟨_, pe_callT1 (T := "bool") (r := fun x σ H Q => ((∃ i, x = .int i ∧ Q (.bl (i != 0)) H) ∨ ∃ k, x = .bl k ∧ Q (.bl k) H) ∨ ∃ i : Tb tbl, rOwnB (He.ga X.K i.1.1) (spJ X.K 1 i.1.2) (fun σ => WE W.w σ) x σ H Q) (fun pins s σ H x v Q I rx q => ?_) hg hm (by decide +kernel) pa (by decide) (by decide) he hpl, fun Φ G H σ E Q S hp => ?_⟩
  · rcases q with q | ⟨i, q⟩
    · refine call_bool1 pins s σ H [x] [v] Q I (.cons rx .nil) ?_
      rcases q with ⟨i, rfl, q⟩ | ⟨b, rfl, q⟩
      · exact .inl ⟨i, rfl, q⟩
      · exact .inr ⟨b, rfl, q⟩
    · obtain ⟨h0, fd, ps, h1, h2⟩ := hF _ _ i.2
      exact bool_own h0 h2 hr h1 (fun σ => L2N.passAt tk σ) pins s σ H x v Q I rx q
  · have hp' : Post X.K W.w (relE X.K) Φ G σ ((fa E).bind fun x E => (own1 tbl gBoolF x E).bind J.blO) Q := by
      have h : Post X.K W.w (relE X.K) Φ G σ (((fa E).bind fun x E => own1 tbl gBoolF x E).bind J.blO) Q := hp
      rw [R.bind_assoc] at h
      exact h
    refine sa.go S hp' fun x E1 G1 H1 v _ e1 S1 r1 hp => ?_
    have hp := Post.blO hp
    cases x with
    | ins c ns es =>
      have hp : Post X.K W.w (relE X.K) Φ G1 σ (match tbl c with
        | some F => callD 1 F [.v (.ins c ns es)] rvD E1
        | none => .stuck) (fun v H' => (∃ b, v = .bl b) ∧ Q v H') := hp
      cases ht : tbl c with
      | none => rw [ht] at hp; exact hp.elim
      | some F =>
        rw [ht] at hp
        have hsp := callE_ok S1.toSat (.v r1 .nil) hp
        cases r1 with
        | ins h1 h2 h3 => exact .inr ⟨⟨(c, F), ht⟩, _, _, _, rfl, S1.gh _ _ h1, hsp⟩
    | int i =>
      cases r1
      exact .inl (.inl ⟨i, rfl, (hp G1 H1 _ (Ex.refl G1) S1.toSat (.bl _)).2⟩)
    | bl b =>
      cases r1
      exact .inl (.inr ⟨b, rfl, (hp G1 H1 _ (Ex.refl G1) S1.toSat (.bl _)).2⟩)
    | _ => exact hp.elim
end
end J

namespace J
open PySem PySem.Spec PyProof.Rows L2

/-! ### the head's facts, with own classes -/
inductive Fc where
  | old (f : Fb)
  | op (c : Str) (nm : String)
  | cm (c m : Str)
  | un (c m : Str)
  | ins (c : Str)
  | kitT (t : String) (c : Str) (r : Bool)
  | blt (x : Str) (id : String)
  | st (c m : Str)
def bltB (K : PySem.W.Frag) (x : Str) (id : String) : Bool := match PySem.W.nsIn K mainGlobals x with
  | some (some (.builtin i)) => decide (i = id)
  | _ => false
def Fc.ok (K : PySem.W.Frag) : Fc → Bool
  | .old f => f.ok K
  | .op c nm => opB K (He.ga K c) nm
  | .cm c m => cmB K (He.ga K c) m
  | .un c m => unB K (He.ga K c) m
  | .ins c => insB K (He.ga K c)
  | .kitT t c r => decide (PySem.W.kitOne K (.type t) (.ref (He.ga K c)) = some r)
  | .blt x id => bltB K x id
  | .st c m => stB K (He.ga K c) m (sfA K (He.ga K c) m)
theorem blt_ok {K : PySem.W.Frag} {h : Heap} {mg : Str → Option Value} (X : K.In h) (G : h.Ns mainGlobals mg) {x : Str} {id : String} (c : bltB K x id = true) : mg x = some (.builtin id) := by
  unfold bltB at c
  split at c
  · rename_i i e
    rw [of_decide_eq_true c] at e
    exact PySem.W.mg_of X G e
  · cases c
/-- where a def stands -/
def atG (x : Str) : PySem.W.Frag → Addr := fun K => He.ga K x
def atM (c m : Str) : PySem.W.Frag → Addr := fun K => He.ma K (He.ga K c) m
def atS (c m : Str) : PySem.W.Frag → Addr := fun K => sfA K (He.ga K c) m

abbrev AlK : Type := Bool × List He.FnW × List FnS
def obsK (fa : List He.Fa) (fb : List Fc) (fn : List He5.DefA) (fs : List DefS) (K : PySem.W.Frag) : AlK := ((fa.all fun f => f.ok K) && ((fb.all fun f => f.ok K) && ((fn.all fun d => d.ok K) && fs.all fun d => d.ok K)), fn.map fun d => He5.fnA K (d.at_ K), fs.map fun d => fnS K d.c)
def valK (fn : List He5.DefA) (fs : List DefS) : AlK := (true, fn.map He5.DefA.val, fs.map DefS.val)
def SaysK (fa : List He.Fa) (fb : List Fc) (fn : List He5.DefA) (fs : List DefS) (K : PySem.W.Frag) : Prop := obsK fa fb fn fs K = valK fn fs
def obsKG (n : Nat) (fa : List He.Fa) (fb : List Fc) (fn : List He5.DefA) (fs : List DefS) (g : Addr → Option Obj) : AlK := obsK fa fb fn fs (He.frG g (asJ g n))
def hookK (n : Nat) (fa : List He.Fa) (fb : List Fc) (fn : List He5.DefA) (fs : List DefS) : PySem.W.Hook where
  α := AlK
  obs := fun s => obsKG n fa fb fn fs s.heap.get?
  val := fun _ => valK fn fs
  says := fun _ h => ∃ K : PySem.W.Frag, K.In h ∧ SaysK fa fb fn fs K
  of := fun _ _ e => ⟨_, He.frG_in, e⟩
  keeps := fun _ _ _ ⟨K, hK, c⟩ k => ⟨K, PySem.W.Frag.In.keeps hK k, c⟩
theorem obsKG_eq {n : Nat} {fa : List He.Fa} {fb : List Fc} {fn : List He5.DefA} {fs : List DefS} {g : Addr → Option Obj} {s : Shared} (h : ∀ a, g a = s.heap.get? a) : obsKG n fa fb fn fs g = (hookK n fa fb fn fs).obs s := by
  have e : g = s.heap.get? := funext h
  rw [e] <;> rfl
section
variable {fa : List He.Fa} {fb : List Fc} {fn : List He5.DefA} {fs : List DefS} {K : PySem.W.Frag}
theorem SaysK.alls (c : SaysK fa fb fn fs K) : (∀ f ∈ fa, f.ok K = true) ∧ (∀ f ∈ fb, f.ok K = true) ∧ (∀ d ∈ fn, d.ok K = true) ∧ ∀ d ∈ fs, d.ok K = true := by
  have c1 : ((fa.all fun f => f.ok K) && ((fb.all fun f => f.ok K) && ((fn.all fun d => d.ok K) && fs.all fun d => d.ok K))) = true := congrArg (fun z : AlK => z.1) c
  simp only [Bool.and_eq_true, List.all_eq_true] at c1
  exact c1
theorem SaysK.factB (c : SaysK fa fb fn fs K) (i : Nat) {f : Fc} (h : fb[i]? = some f := by rfl) : f.ok K = true := c.alls.2.1 f (List.mem_of_getElem? h)
theorem SaysK.def_ (c : SaysK fa fb fn fs K) (i : Nat) {d : He5.DefA} (h : fn[i]? = some d := by rfl) : ∃ fd, FunD K d.name d.qual d.params d.body d.scope (d.dvs K) (d.kws K) (d.at_ K) fd := by
  have e : fn.map (fun d => He5.fnA K (d.at_ K)) = fn.map He5.DefA.val := congrArg (fun z : AlK => z.2.1) c
  have e2 : (fn.map fun d => He5.fnA K (d.at_ K))[i]? = (fn.map He5.DefA.val)[i]? := by rw [e]
  rw [List.getElem?_map, List.getElem?_map, h] at e2
  exact He5.DefA.funD (Option.some.inj e2) (c.alls.2.2.1 d (List.mem_of_getElem? h))
theorem SaysK.ini (c : SaysK fa fb fn fs K) (i : Nat) {d : DefS} (h : fs[i]? = some d := by rfl) : ∃ fd, FunS K d (He.ma K (He.ga K d.c) "__init__") fd := by
  have e : fs.map (fun d => fnS K d.c) = fs.map DefS.val := congrArg (fun z : AlK => z.2.2) c
  have e2 : (fs.map fun d => fnS K d.c)[i]? = (fs.map DefS.val)[i]? := by rw [e]
  rw [List.getElem?_map, List.getElem?_map, h] at e2
  exact DefS.funS (Option.some.inj e2) (c.alls.2.2.2 d (List.mem_of_getElem? h))
end
end J
namespace J
open PySem PySem.Spec PyProof.Rows L2
theorem OpJ.of {P : Program} {w : World} {K : PySem.W.Frag} {mg : Str → Option Value} {base : Heap} {k : Nat} {op : Operator} {c m : Str} {F : DF} (e : PySem.dunder op.info.2 = m) (h : opB K (He.ga K c) op.info.2 = true) {fd : FuncData} {ps : List Str} (b : Binds K fd ps []) (f : FnOk P w K mg base (L2N.CX P w) k (He.ma K (He.ga K c) m) fd ps (spJ K 2 F)) : OpJ P w K mg base k op c F := by
  subst e
  exact ⟨h, fd, ps, b, f⟩
theorem opS_sub {K : PySem.W.Frag} : OpS K (rI0 fun i j => .int (i - j)) gSub := opS_I0
end J
namespace J
/-- fuel by the size of the int in slot i -/
def fuelAt (i : Nat) : Env → Nat := fun E => match E[i]? with
  | some (.val (.int k)) => k.natAbs + 1
  | _ => 0
end J

namespace Lw
open PySem PySem.Spec PyProof.Rows L2 J
def top (i : Nat) : Stmt := PySem.Challenge.pw_nodearer_k01_ratio_arithmetic.main.body.getD i (.Pass ⟨0, 0, 0, 0⟩)
def memOf (j : Nat) : Stmt → Stmt
  | .ClassDef _ _ _ b _ _ _ _ _ _ _ => b.getD j (.Pass ⟨0, 0, 0, 0⟩)
  | s => s
def fl_NumberError : List (Str × (J.Env → R D)) := [("number", fVar 1)]
def Fx_NumberError : List D → Option (List Str × List D) := initF 2 fl_NumberError
def fl_SizeError : List (Str × (J.Env → R D)) := [("count", fVar 1)]
def Fx_SizeError : List D → Option (List Str × List D) := initF 2 fl_SizeError
def tb_NumberError : List (Str × Bool) := [("NumberError", true), ("SizeError", false)]
def exm_NumberError : Exn → Option Bool := fun y => tb_NumberError.lookup y.c
def okf_NumberError_number : Str → Bool := fun c => c == "NumberError"
def isx_0 : Str → Option Bool := fun c => if c = "NumberError" then some true else none
def gi_MOST : Int := ((10 ^ 2000 : Nat) : Int)
def gi_MOST_TOTAL : Int := 1000
def gi_MOST_TOTAL_DEN : Int := ((10 ^ 10000 : Nat) : Int)
def okc_den : Str → Bool := fun c => c == "Ratio"
def okc_num : Str → Bool := fun c => c == "Ratio"
def isTs : List String := ["NoneType", "bool", "int", "str", "tuple", "list"]
def isT_Ratio : Str → Option Bool := fun c => if c = "Ratio" then some true else none
def fu_L_common_1 : J.Env → Nat := fuelAt 1
abbrev s_L_tape : Stmt := top 22
def N_L_tape : List Str := ["_law_script", "_law_digits", "_law_cell", "_law_rest", "_law_k"]
def ps_L_tape : List Str := ["_law_script"]
def f_L_tape : J.Env → RS := (sSeq (sSetL 1 (fLst fNil)) (sSeq (sFor (fun1L itemsD (fCut (fVar 0) (fun _ => some none) (fun E => intP ((fun _ => some (.int 63)) E)))) (gNm 2) (sSeq (sSet 3 (fun1 gAbs (fVar 2))) (sFor (fRng1 (fC (.int 14))) (gNm 4) (sIf (fTest (fop gGt (fVar 3) (fC (.int 0)))) (sSeq (sApp 1 (fop gMod (fun1 gIntF (fVar 3)) (fC (.int 12)))) (sSet 3 (fop gDivP (fVar 3) (fC (.int 12))))) sNil)))) (sRetL (fun1L gRev (fBor 1)))))
def F_L_tape : DF := runF 5 f_L_tape
abbrev s_L_take : Stmt := top 23
def N_L_take : List Str := ["_law_tape_here", "_law_many", "_law_salt", "_law_digit"]
def ps_L_take : List Str := ["_law_tape_here", "_law_many", "_law_salt"]
def f_L_take : J.Env → RS := (sSeq (sSet 3 (fC (.int 0))) (sSeq (sIf (fTest (fop gGt (fun1 gLen (fBor 0)) (fC (.int 0)))) (sSet 3 (fPop 0)) sNil) (sRet (fop gMod (fun1 gIntF (fop gAdd (fVar 3) (fVar 2))) (fVar 1)))))
def F_L_take : DF := runF 4 f_L_take
abbrev s_L_int : Stmt := top 26
def N_L_int : List Str := ["_law_told_here"]
def ps_L_int : List Str := ["_law_told_here"]
def f_L_int : J.Env → RS := (sRet (fAndV (fun1 (gIsi "int") (fVar 0)) (fun1 gNot (fun1 (gIsi "bool") (fVar 0)))))
def F_L_int : DF := runF 1 f_L_int
abbrev s_L_common : Stmt := top 27
def N_L_common : List Str := ["_law_one", "_law_other", "_law_rest"]
def ps_L_common : List Str := ["_law_one", "_law_other"]
def f_L_common : J.Env → RS := (sSeq (fun E => whileD (fTest (fop gNe (fVar 1) (fC (.int 0)))) (sSeq (sSet 2 (fop gMod (fun1 gIntF (fVar 0)) (fVar 1))) (sSeq (sSet 0 (fVar 1)) (sSet 1 (fVar 2)))) (fu_L_common_1 E) E) (sRet (fVar 0)))
def F_L_common : DF := runF 3 f_L_common
abbrev s_M_Ratio_eq : Stmt := memOf 6 (top 16)
def N_M_Ratio_eq : List Str := ["self", "other"]
def ps_M_Ratio_eq : List Str := ["self", "other"]
def f_M_Ratio_eq : J.Env → RS := (sRet (fAndV (fun1 (gIsO isT_Ratio isTs) (fVar 1)) (fAndV (fop gEq (fFld okc_num "num" (fVar 0)) (fFld okc_num "num" (fVar 1))) (fop gEq (fFld okc_den "den" (fVar 0)) (fFld okc_den "den" (fVar 1))))))
def F_M_Ratio_eq : DF := runF 2 f_M_Ratio_eq
abbrev s_M_Ratio_bool : Stmt := memOf 7 (top 16)
def N_M_Ratio_bool : List Str := ["self"]
def ps_M_Ratio_bool : List Str := ["self"]
def f_M_Ratio_bool : J.Env → RS := (sRet (fun1 gBoolF (fFld okc_num "num" (fVar 0))))
def F_M_Ratio_bool : DF := runF 1 f_M_Ratio_bool
abbrev s_M_Ratio_compare : Stmt := memOf 10 (top 16)
def N_M_Ratio_compare : List Str := ["self", "other", "mine", "theirs"]
def ps_M_Ratio_compare : List Str := ["self", "other"]
def f_M_Ratio_compare : J.Env → RS := (sSeq (sSet 2 (fop gMul (fFld okc_num "num" (fVar 0)) (fFld okc_den "den" (fVar 1)))) (sSeq (sSet 3 (fop gMul (fFld okc_num "num" (fVar 1)) (fFld okc_den "den" (fVar 0)))) (sSeq (sIf (fTest (fop gLt (fVar 2) (fVar 3))) (sRet (fun1 gNeg (fC (.int 1)))) sNil) (sSeq (sIf (fTest (fop gGt (fVar 2) (fVar 3))) (sRet (fC (.int 1))) sNil) (sRet (fC (.int 0)))))))
def F_M_Ratio_compare : DF := runF 4 f_M_Ratio_compare
abbrev s_M_Ratio_floor : Stmt := memOf 11 (top 16)
def N_M_Ratio_floor : List Str := ["self"]
def ps_M_Ratio_floor : List Str := ["self"]
def f_M_Ratio_floor : J.Env → RS := (sRet (fop gDivP (fFld okc_num "num" (fVar 0)) (fFld okc_den "den" (fVar 0))))
def F_M_Ratio_floor : DF := runF 1 f_M_Ratio_floor
abbrev s_M_Ratio_ceil : Stmt := memOf 12 (top 16)
def N_M_Ratio_ceil : List Str := ["self"]
def ps_M_Ratio_ceil : List Str := ["self"]
def f_M_Ratio_ceil : J.Env → RS := (sRet (fun1 gNeg (fop gDivP (fun1 gNeg (fFld okc_num "num" (fVar 0))) (fFld okc_den "den" (fVar 0)))))
def F_M_Ratio_ceil : DF := runF 1 f_M_Ratio_ceil
abbrev s_L_number : Stmt := top 24
def N_L_number : List Str := ["_law_tape_here", "_law_salt", "_law_kind", "_law_value", "_law_k"]
def ps_L_number : List Str := ["_law_tape_here", "_law_salt"]
def f_L_number : J.Env → RS := (sSeq (sSet 2 (fCallR 3 F_L_take (xO 0 (xV (fC (.int 12)) (xV (fVar 1) xNil))) rvD)) (sSeq (sSet 3 (fC (.int 0))) (sSeq (sFor (fRng1 (fop gIx (fPub (fLst (fCons (fC (.int 1)) (fCons (fC (.int 2)) (fCons (fC (.int 6)) (fCons (fC (.int 1)) (fCons (fC (.int 3)) (fCons (fC (.int 2)) (fCons (fC (.int 1)) (fCons (fC (.int 40)) (fCons (fC (.int 12)) (fCons (fC (.int 2)) (fCons (fC (.int 2)) (fCons (fC (.int 2)) fNil)))))))))))))) (fVar 2))) (gNm 4) (sSet 3 (fop gAdd (fop gMul (fVar 3) (fC (.int 12))) (fCallR 3 F_L_take (xO 0 (xV (fC (.int 12)) (xV (fop gAdd (fVar 1) (fop gMul (fC (.int 5)) (fVar 4))) xNil))) rvD)))) (sSeq (sIf (fTest (fop gEq (fVar 2) (fC (.int 9)))) (sRet (fop gSub (fop gPowP (fop gPowP (fC (.int 10)) (fC (.int 50))) (fC (.int 40))) (fVar 3))) sNil) (sSeq (sIf (fTest (fop gEq (fVar 2) (fC (.int 10)))) (sRet (fop gAdd (fop gPowP (fop gPowP (fC (.int 10)) (fC (.int 50))) (fC (.int 20))) (fVar 3))) sNil) (sSeq (sIf (fTest (fop gEq (fVar 2) (fC (.int 11)))) (sRet (fop gSub (fop gPowP (fop gPowP (fC (.int 10)) (fC (.int 50))) (fC (.int 20))) (fVar 3))) sNil) (sRet (fVar 3))))))))
def F_L_number : DF := runF 5 f_L_number
abbrev s_L_due : Stmt := top 28
def N_L_due : List Str := ["_law_num", "_law_den", "_law_divisor", "_law_top", "_law_bottom"]
def ps_L_due : List Str := ["_law_num", "_law_den"]
def f_L_due : J.Env → RS := (sSeq (sIf (fTest (fop gEq (fVar 1) (fC (.int 0)))) (sRet (fTup (fCons (fC (.str "number")) (fCons (fC (.int 0)) fNil)))) sNil) (sSeq (sIf (fTest (fop gLt (fVar 1) (fC (.int 0)))) (sSeq (sSet 0 (fun1 gNeg (fVar 0))) (sSet 1 (fun1 gNeg (fVar 1)))) sNil) (sSeq (sSet 2 (fCallR 2 F_L_common (xV (fun1 gAbs (fVar 0)) (xV (fVar 1) xNil)) rvD)) (sSeq (sSet 3 (fop gDivP (fVar 0) (fVar 2))) (sSeq (sSet 4 (fop gDivP (fVar 1) (fVar 2))) (sSeq (sIf (fTest (fop gGt (fun1 gAbs (fVar 3)) (fop gPowP (fop gPowP (fC (.int 10)) (fC (.int 50))) (fC (.int 40))))) (sRet (fTup (fCons (fC (.str "number")) (fCons (fVar 3) fNil)))) sNil) (sSeq (sIf (fTest (fop gGt (fVar 4) (fop gPowP (fop gPowP (fC (.int 10)) (fC (.int 50))) (fC (.int 40))))) (sRet (fTup (fCons (fC (.str "number")) (fCons (fVar 4) fNil)))) sNil) (sRet (fTup (fCons (fC (.str "ratio")) (fCons (fVar 3) (fCons (fVar 4) fNil))))))))))))
def F_L_due : DF := runF 5 f_L_due
abbrev s_L_pair : Stmt := top 30
def N_L_pair : List Str := ["_law_told_here"]
def ps_L_pair : List Str := ["_law_told_here"]
def f_L_pair : J.Env → RS := (sSeq (sIf (fNot (fTru (fun1 (gIsO isT_Ratio isTs) (fVar 0)))) (sRet (fTup (fCons (fC (.str "odd")) fNil))) sNil) (sSeq (sIf (fOr (fNot (fTru (fCallR 1 F_L_int (xV (fFld okc_num "num" (fVar 0)) xNil) rvD))) (fNot (fTru (fCallR 1 F_L_int (xV (fFld okc_den "den" (fVar 0)) xNil) rvD)))) (sRet (fTup (fCons (fC (.str "odd")) fNil))) sNil) (sRet (fTup (fCons (fC (.str "ratio")) (fCons (fFld okc_num "num" (fVar 0)) (fCons (fFld okc_den "den" (fVar 0)) fNil)))))))
def F_L_pair : DF := runF 1 f_L_pair
def T_mt_floor : Str → Option DF := fun c => if c = "Ratio" then some F_M_Ratio_floor else none
def T_mt_ceil : Str → Option DF := fun c => if c = "Ratio" then some F_M_Ratio_ceil else none
abbrev s_L_rounded : Stmt := top 34
def N_L_rounded : List Str := ["_law_one", "_law_first", "_law_low", "_law_high"]
def ps_L_rounded : List Str := ["_law_one", "_law_first"]
def f_L_rounded : J.Env → RS := (sSeq (sSet 2 (fMeth "floor" 1 T_mt_floor [] (fVar 0) xNil)) (sSeq (sSet 3 (fMeth "ceil" 1 T_mt_ceil [] (fVar 0) xNil)) (sSeq (sIf (fOr (fNot (fTru (fCallR 1 F_L_int (xV (fVar 2) xNil) rvD))) (fNot (fTru (fCallR 1 F_L_int (xV (fVar 3) xNil) rvD)))) (sRet (fC (.bl false))) sNil) (sSeq (sIf (fNot (fTest (fChain gLe gLt (fop gMul (fVar 2) (fop gIx (fVar 1) (fC (.int 1)))) (fop gIx (fVar 1) (fC (.int 0))) (fop gMul (fop gAdd (fVar 2) (fC (.int 1))) (fop gIx (fVar 1) (fC (.int 1))))))) (sRet (fC (.bl false))) sNil) (sRet (fChain gLt gLe (fop gMul (fop gSub (fVar 3) (fC (.int 1))) (fop gIx (fVar 1) (fC (.int 1)))) (fop gIx (fVar 1) (fC (.int 0))) (fop gMul (fVar 3) (fop gIx (fVar 1) (fC (.int 1))))))))))
def F_L_rounded : DF := runF 4 f_L_rounded
abbrev s_look_number : Stmt := top 7
def N_look_number : List Str := ["number", "low", "high"]
def ps_look_number : List Str := ["number", "low", "high"]
def f_look_number : J.Env → RS := (sSeq (sIf (fOr (fTest (fop gLt (fVar 0) (fVar 1))) (fTest (fop gGt (fVar 0) (fVar 2)))) (sRaise "NumberError" 1 Fx_NumberError (fCons (fVar 0) fNil)) sNil) (sRet (fVar 0)))
def F_look_number : DF := runF 3 f_look_number
abbrev s_look_size : Stmt := top 8
def N_look_size : List Str := ["entries", "low", "high", "count"]
def ps_look_size : List Str := ["entries", "low", "high"]
def f_look_size : J.Env → RS := (sSeq (sSet 3 (fun1 gLen (fVar 0))) (sSeq (sIf (fOr (fTest (fop gLt (fVar 3) (fVar 1))) (fTest (fop gGt (fVar 3) (fVar 2)))) (sRaise "SizeError" 1 Fx_SizeError (fCons (fVar 3) fNil)) sNil) (sRet (fVar 0))))
def F_look_size : DF := runF 4 f_look_size
abbrev s_L_signed : Stmt := top 25
def N_L_signed : List Str := ["_law_tape_here", "_law_salt", "_law_sign"]
def ps_L_signed : List Str := ["_law_tape_here", "_law_salt"]
def f_L_signed : J.Env → RS := (sSeq (sSet 2 (fop gIx (fPub (fLst (fCons (fC (.int 1)) (fCons (fun1 gNeg (fC (.int 1))) fNil)))) (fCallR 3 F_L_take (xO 0 (xV (fC (.int 2)) (xV (fVar 1) xNil))) rvD))) (sRet (fop gMul (fVar 2) (fCallR 2 F_L_number (xO 0 (xV (fVar 1) xNil)) rvD))))
def F_L_signed : DF := runF 3 f_L_signed
abbrev s_L_result : Stmt := top 29
def N_L_result : List Str := ["_law_sign", "_law_first", "_law_second", "_law_num", "_law_den", "_law_top", "_law_under"]
def ps_L_result : List Str := ["_law_sign", "_law_first", "_law_second"]
def f_L_result : J.Env → RS := (sSeq (sAsg (fVar 1) (gTup2 (gsCons (gNm 3) (gsCons (gNm 4) gsNil)))) (sSeq (sAsg (fVar 2) (gTup2 (gsCons (gNm 5) (gsCons (gNm 6) gsNil)))) (sSeq (sIf (fTest (fop gEq (fVar 0) (fC (.str "+")))) (sRet (fCallR 2 F_L_due (xV (fop gAdd (fop gMul (fVar 3) (fVar 6)) (fop gMul (fVar 5) (fVar 4))) (xV (fop gMul (fVar 4) (fVar 6)) xNil)) rvD)) sNil) (sSeq (sIf (fTest (fop gEq (fVar 0) (fC (.str "-")))) (sRet (fCallR 2 F_L_due (xV (fop gSub (fop gMul (fVar 3) (fVar 6)) (fop gMul (fVar 5) (fVar 4))) (xV (fop gMul (fVar 4) (fVar 6)) xNil)) rvD)) sNil) (sSeq (sIf (fTest (fop gEq (fVar 0) (fC (.str "*")))) (sRet (fCallR 2 F_L_due (xV (fop gMul (fVar 3) (fVar 5)) (xV (fop gMul (fVar 4) (fVar 6)) xNil)) rvD)) sNil) (sRet (fCallR 2 F_L_due (xV (fop gMul (fVar 3) (fVar 6)) (xV (fop gMul (fVar 4) (fVar 5)) xNil)) rvD)))))))
def F_L_result : DF := runF 7 f_L_result
abbrev s_P_ratio_parts : Stmt := top 17
def N_P_ratio_parts : List Str := ["other"]
def ps_P_ratio_parts : List Str := ["other"]
def f_P_ratio_parts : J.Env → RS := (sSeq (sIf (fTru (fun1 (gIsO isT_Ratio isTs) (fVar 0))) (sRet (fTup (fCons (fFld okc_num "num" (fVar 0)) (fCons (fFld okc_den "den" (fVar 0)) fNil)))) sNil) (sRet (fTup (fCons (fCallR 3 F_look_number (xV (fVar 0) (xV (fun1 gNeg (fC (.int gi_MOST))) (xV (fC (.int gi_MOST)) xNil))) rvD) (fCons (fC (.int 1)) fNil)))))
def F_P_ratio_parts : DF := runF 1 f_P_ratio_parts
abbrev s_M_Ratio_init : Stmt := memOf 0 (top 16)
def N_M_Ratio_init : List Str := ["self", "num", "den", "divisor"]
def ps_M_Ratio_init : List Str := ["self", "num", "den"]
def f_M_Ratio_init : J.Env → RS := (sSeq (sExpr (fCallR 3 F_look_number (xV (fVar 1) (xV (fun1 gNeg (fC (.int gi_MOST))) (xV (fC (.int gi_MOST)) xNil))) rvD)) (sSeq (sExpr (fCallR 3 F_look_number (xV (fVar 2) (xV (fC (.int 1)) (xV (fC (.int gi_MOST)) xNil))) rvD)) (sSeq (sSet 3 (fop gGcd (fVar 1) (fVar 2))) (sSeq (sPut okc_num 0 "num" (fop gDivP (fVar 1) (fVar 3))) (sPut okc_den 0 "den" (fop gDivP (fVar 2) (fVar 3)))))))
def F_M_Ratio_init : DF := runF 4 f_M_Ratio_init
abbrev s_P_ratio_lowest : Stmt := top 18
def N_P_ratio_lowest : List Str := ["num", "den", "divisor"]
def ps_P_ratio_lowest : List Str := ["num", "den"]
def f_P_ratio_lowest : J.Env → RS := (sSeq (sSet 2 (fop gGcd (fVar 0) (fVar 1))) (sRet (fMake "Ratio" 3 F_M_Ratio_init [] (xV (fop gDivP (fVar 0) (fVar 2)) (xV (fop gDivP (fVar 1) (fVar 2)) xNil)))))
def F_P_ratio_lowest : DF := runF 3 f_P_ratio_lowest
abbrev s_M_Ratio_neg : Stmt := memOf 4 (top 16)
def N_M_Ratio_neg : List Str := ["self"]
def ps_M_Ratio_neg : List Str := ["self"]
def f_M_Ratio_neg : J.Env → RS := (sRet (fMake "Ratio" 3 F_M_Ratio_init [] (xV (fun1 gNeg (fFld okc_num "num" (fVar 0))) (xV (fFld okc_den "den" (fVar 0)) xNil))))
def F_M_Ratio_neg : DF := runF 1 f_M_Ratio_neg
abbrev s_M_Ratio_abs : Stmt := memOf 5 (top 16)
def N_M_Ratio_abs : List Str := ["self"]
def ps_M_Ratio_abs : List Str := ["self"]
def f_M_Ratio_abs : J.Env → RS := (sRet (fMake "Ratio" 3 F_M_Ratio_init [] (xV (fun1 gAbs (fFld okc_num "num" (fVar 0))) (xV (fFld okc_den "den" (fVar 0)) xNil))))
def F_M_Ratio_abs : DF := runF 1 f_M_Ratio_abs
abbrev s_M_Ratio_add : Stmt := memOf 1 (top 16)
def N_M_Ratio_add : List Str := ["self", "other", "num", "den"]
def ps_M_Ratio_add : List Str := ["self", "other"]
def f_M_Ratio_add : J.Env → RS := (sSeq (sAsg (fCallR 1 F_P_ratio_parts (xV (fVar 1) xNil) rvD) (gTup2 (gsCons (gNm 2) (gsCons (gNm 3) gsNil)))) (sRet (fCallR 2 F_P_ratio_lowest (xV (fop gAdd (fop gMul (fFld okc_num "num" (fVar 0)) (fVar 3)) (fop gMul (fVar 2) (fFld okc_den "den" (fVar 0)))) (xV (fop gMul (fFld okc_den "den" (fVar 0)) (fVar 3)) xNil)) rvD)))
def F_M_Ratio_add : DF := runF 4 f_M_Ratio_add
abbrev s_M_Ratio_sub : Stmt := memOf 2 (top 16)
def N_M_Ratio_sub : List Str := ["self", "other", "num", "den"]
def ps_M_Ratio_sub : List Str := ["self", "other"]
def f_M_Ratio_sub : J.Env → RS := (sSeq (sAsg (fCallR 1 F_P_ratio_parts (xV (fVar 1) xNil) rvD) (gTup2 (gsCons (gNm 2) (gsCons (gNm 3) gsNil)))) (sRet (fCallR 2 F_P_ratio_lowest (xV (fop gSub (fop gMul (fFld okc_num "num" (fVar 0)) (fVar 3)) (fop gMul (fVar 2) (fFld okc_den "den" (fVar 0)))) (xV (fop gMul (fFld okc_den "den" (fVar 0)) (fVar 3)) xNil)) rvD)))
def F_M_Ratio_sub : DF := runF 4 f_M_Ratio_sub
abbrev s_M_Ratio_mul : Stmt := memOf 3 (top 16)
def N_M_Ratio_mul : List Str := ["self", "other", "num", "den"]
def ps_M_Ratio_mul : List Str := ["self", "other"]
def f_M_Ratio_mul : J.Env → RS := (sSeq (sAsg (fCallR 1 F_P_ratio_parts (xV (fVar 1) xNil) rvD) (gTup2 (gsCons (gNm 2) (gsCons (gNm 3) gsNil)))) (sRet (fCallR 2 F_P_ratio_lowest (xV (fop gMul (fFld okc_num "num" (fVar 0)) (fVar 2)) (xV (fop gMul (fFld okc_den "den" (fVar 0)) (fVar 3)) xNil)) rvD)))
def F_M_Ratio_mul : DF := runF 4 f_M_Ratio_mul
abbrev s_M_Ratio_over : Stmt := memOf 9 (top 16)
def N_M_Ratio_over : List Str := ["self", "other"]
def ps_M_Ratio_over : List Str := ["self", "other"]
def f_M_Ratio_over : J.Env → RS := (sSeq (sIf (fTest (fop gEq (fFld okc_num "num" (fVar 1)) (fC (.int 0)))) (sRaise "NumberError" 1 Fx_NumberError (fCons (fC (.int 0)) fNil)) sNil) (sSeq (sIf (fTest (fop gLt (fFld okc_num "num" (fVar 1)) (fC (.int 0)))) (sRet (fCallR 2 F_P_ratio_lowest (xV (fop gMul (fun1 gNeg (fFld okc_num "num" (fVar 0))) (fFld okc_den "den" (fVar 1))) (xV (fop gMul (fun1 gNeg (fFld okc_den "den" (fVar 0))) (fFld okc_num "num" (fVar 1))) xNil)) rvD)) sNil) (sRet (fCallR 2 F_P_ratio_lowest (xV (fop gMul (fFld okc_num "num" (fVar 0)) (fFld okc_den "den" (fVar 1))) (xV (fop gMul (fFld okc_den "den" (fVar 0)) (fFld okc_num "num" (fVar 1))) xNil)) rvD))))
def F_M_Ratio_over : DF := runF 2 f_M_Ratio_over
abbrev s_M_Ratio_total : Stmt := memOf 14 (top 16)
def N_M_Ratio_total : List Str := ["ratios", "den", "ratio"]
def ps_M_Ratio_total : List Str := ["ratios"]
def f_M_Ratio_total : J.Env → RS := (sSeq (sExpr (fCallR 3 F_look_size (xV (fVar 0) (xV (fC (.int 0)) (xV (fC (.int gi_MOST_TOTAL)) xNil))) rvD)) (sSeq (sSet 1 (fC (.int 1))) (sSeq (sFor (fun1L itemsD (fVar 0)) (gNm 2) (sSet 1 (fCallR 3 F_look_number (xV (fop gLcm (fVar 1) (fFld okc_den "den" (fVar 2))) (xV (fC (.int 1)) (xV (fC (.int gi_MOST_TOTAL_DEN)) xNil))) rvD))) (sRet (fCallR 2 F_P_ratio_lowest (xV (fun1 gSum (fPub (fLc [2] (fun1L itemsD (fVar 0)) (gNm 2) fYes (fop gMul (fFld okc_num "num" (fVar 2)) (fop gDivP (fVar 1) (fFld okc_den "den" (fVar 2))))))) (xV (fVar 1) xNil)) rvD)))))
def F_M_Ratio_total : DF := runF 3 f_M_Ratio_total
def T_op_add : Str → Option DF := fun c => if c = "Ratio" then some F_M_Ratio_add else none
def T_op_sub : Str → Option DF := fun c => if c = "Ratio" then some F_M_Ratio_sub else none
def T_op_mul : Str → Option DF := fun c => if c = "Ratio" then some F_M_Ratio_mul else none
def T_mt_over : Str → Option DF := fun c => if c = "Ratio" then some F_M_Ratio_over else none
abbrev s_L_told : Stmt := top 31
def N_L_told : List Str := ["_law_sign", "_law_one", "_law_other", "e", "_law_told_here"]
def ps_L_told : List Str := ["_law_sign", "_law_one", "_law_other"]
def f_L_told : J.Env → RS := (sSeq (sTry (sIf (fTest (fop gEq (fVar 0) (fC (.str "+")))) (sSet 4 (fBin T_op_add gAdd (fVar 1) (fVar 2))) (sIf (fTest (fop gEq (fVar 0) (fC (.str "-")))) (sSet 4 (fBin T_op_sub gSub (fVar 1) (fVar 2))) (sIf (fTest (fop gEq (fVar 0) (fC (.str "*")))) (sSet 4 (fBin T_op_mul gMul (fVar 1) (fVar 2))) (sSet 4 (fMeth "over" 2 T_mt_over [] (fVar 1) (xV (fVar 2) xNil)))))) [⟨exm_NumberError, some 3, fun y => (sSeq (sIf (fOr (fNot (fTru (fCallR 1 F_L_int (xV (fXf okf_NumberError_number y "number") xNil) rvD))) (fNot (fTru (fIsE isx_0 y)))) (sSeq (sRet (fTup (fCons (fC (.str "odd")) fNil))) sNil) sNil) (sSeq (sRet (fTup (fCons (fC (.str "number")) (fCons (fXf okf_NumberError_number y "number") fNil)))) sNil))⟩]) (sRet (fCallR 1 F_L_pair (xV (fVar 4) xNil) rvD)))
def F_L_told : DF := runF 5 f_L_told
def T_mt_compare : Str → Option DF := fun c => if c = "Ratio" then some F_M_Ratio_compare else none
def T_eq_eq : Str → Option DF := fun c => if c = "Ratio" then some F_M_Ratio_eq else none
abbrev s_L_order : Stmt := top 33
def N_L_order : List Str := ["_law_one", "_law_first", "_law_other", "_law_second", "_law_left", "_law_right", "_law_told_here", "_law_equal"]
def ps_L_order : List Str := ["_law_one", "_law_first", "_law_other", "_law_second"]
def f_L_order : J.Env → RS := (sSeq (sSet 4 (fBin T_op_mul gMul (fop gIx (fVar 1) (fC (.int 0))) (fop gIx (fVar 3) (fC (.int 1))))) (sSeq (sSet 5 (fBin T_op_mul gMul (fop gIx (fVar 3) (fC (.int 0))) (fop gIx (fVar 1) (fC (.int 1))))) (sSeq (sSet 6 (fMeth "compare" 2 T_mt_compare [] (fVar 0) (xV (fVar 2) xNil))) (sSeq (sIf (fOr (fNot (fTru (fCallR 1 F_L_int (xV (fVar 6) xNil) rvD))) (fTest (fop gNe (fVar 6) (fBin T_op_sub gSub (fun1 gIntF (fop gGt (fVar 4) (fVar 5))) (fun1 gIntF (fop gLt (fVar 4) (fVar 5))))))) (sRet (fC (.bl false))) sNil) (sSeq (sSet 7 (fBin T_eq_eq gEq (fVar 0) (fVar 2))) (sRet (fAndV (fun1 (gIsi "bool") (fVar 7)) (fBin T_eq_eq gEq (fVar 7) (fBin T_eq_eq gEq (fVar 4) (fVar 5))))))))))
def F_L_order : DF := runF 8 f_L_order
def T_un_neg : Str → Option DF := fun c => if c = "Ratio" then some F_M_Ratio_neg else none
def T_un_abs : Str → Option DF := fun c => if c = "Ratio" then some F_M_Ratio_abs else none
def T_un_bool : Str → Option DF := fun c => if c = "Ratio" then some F_M_Ratio_bool else none
abbrev s_L_single : Stmt := top 35
def N_L_single : List Str := ["_law_one", "_law_first", "_law_num", "_law_den", "_law_due_here", "_law_truth", "_law_same", "_law_twin"]
def ps_L_single : List Str := ["_law_one", "_law_first"]
def f_L_single : J.Env → RS := (sSeq (sAsg (fVar 1) (gTup2 (gsCons (gNm 2) (gsCons (gNm 3) gsNil)))) (sSeq (sSet 4 (fCallR 2 F_L_due (xV (fVar 2) (xV (fVar 3) xNil)) rvD)) (sSeq (sIf (fTest (fop gNe (fCallR 1 F_L_pair (xV (fVar 0) xNil) rvD) (fVar 4))) (sRet (fC (.bl false))) sNil) (sSeq (sIf (fTest (fop gNe (fCallR 1 F_L_pair (xV (fUn T_un_neg gNeg (fVar 0)) xNil) rvD) (fCallR 2 F_L_due (xV (fUn T_un_neg gNeg (fVar 2)) (xV (fVar 3) xNil)) rvD))) (sRet (fC (.bl false))) sNil) (sSeq (sIf (fTest (fop gNe (fCallR 1 F_L_pair (xV (fUn T_un_abs gAbs (fVar 0)) xNil) rvD) (fCallR 2 F_L_due (xV (fUn T_un_abs gAbs (fVar 2)) (xV (fVar 3) xNil)) rvD))) (sRet (fC (.bl false))) sNil) (sSeq (sSet 5 (fUnB T_un_bool gBoolF (fVar 0))) (sSeq (sIf (fTest (fop gNe (fVar 5) (fop gNe (fVar 2) (fC (.int 0))))) (sRet (fC (.bl false))) sNil) (sSeq (sSet 6 (fBin T_eq_eq gEq (fVar 0) (fVar 2))) (sSeq (sSet 7 (fBin T_eq_eq gEq (fVar 0) (fMake "Ratio" 3 F_M_Ratio_init [] (xV (fop gIx (fVar 4) (fC (.int 1))) (xV (fop gIx (fVar 4) (fC (.int 2))) xNil))))) (sSeq (sIf (fOr (fTest (fun1 (isBl false true) (fVar 6))) (fTest (fun1 (isBl true true) (fVar 7)))) (sRet (fC (.bl false))) sNil) (sRet (fCallR 2 F_L_rounded (xV (fVar 0) (xV (fVar 1) xNil)) rvD))))))))))))
def F_L_single : DF := runF 8 f_L_single
abbrev s_L_back : Stmt := top 36
def N_L_back : List Str := ["_law_one", "_law_first", "_law_other", "_law_second", "_law_due_here"]
def ps_L_back : List Str := ["_law_one", "_law_first", "_law_other", "_law_second"]
def f_L_back : J.Env → RS := (sSeq (sSet 4 (fCallR 2 F_L_due (xV (fop gIx (fVar 1) (fC (.int 0))) (xV (fop gIx (fVar 1) (fC (.int 1))) xNil)) rvD)) (sSeq (sIf (fTest (fop gEq (fop gIx (fCallR 3 F_L_result (xV (fC (.str "+")) (xV (fVar 1) (xV (fVar 3) xNil))) rvD) (fC (.int 0))) (fC (.str "ratio")))) (sIf (fTest (fop gNe (fCallR 1 F_L_pair (xV (fBin T_op_sub gSub (fBin T_op_add gAdd (fVar 0) (fVar 2)) (fVar 2)) xNil) rvD) (fVar 4))) (sRet (fC (.bl false))) sNil) sNil) (sSeq (sIf (fTest (fop gEq (fop gIx (fCallR 3 F_L_result (xV (fC (.str "/")) (xV (fVar 1) (xV (fVar 3) xNil))) rvD) (fC (.int 0))) (fC (.str "ratio")))) (sRet (fBin T_eq_eq gEq (fCallR 1 F_L_pair (xV (fBin T_op_mul gMul (fMeth "over" 2 T_mt_over [] (fVar 0) (xV (fVar 2) xNil)) (fVar 2)) xNil) rvD) (fVar 4))) sNil) (sRet (fC (.bl true))))))
def F_L_back : DF := runF 5 f_L_back
abbrev s_L_total : Stmt := top 37
def N_L_total : List Str := ["_law_passed", "_law_told_here", "e"]
def ps_L_total : List Str := ["_law_passed"]
def f_L_total : J.Env → RS := (sSeq (sTry (sSet 1 (fCallR 1 F_M_Ratio_total (xV (fVar 0) xNil) rvD)) [⟨exm_NumberError, some 2, fun y => (sSeq (sIf (fOr (fNot (fTru (fCallR 1 F_L_int (xV (fXf okf_NumberError_number y "number") xNil) rvD))) (fNot (fTru (fIsE isx_0 y)))) (sSeq (sRet (fTup (fCons (fC (.str "odd")) fNil))) sNil) sNil) (sSeq (sRet (fTup (fCons (fC (.str "number")) (fCons (fXf okf_NumberError_number y "number") fNil)))) sNil))⟩]) (sRet (fCallR 1 F_L_pair (xV (fVar 1) xNil) rvD)))
def F_L_total : DF := runF 3 f_L_total
abbrev s_L_operations : Stmt := top 32
def N_L_operations : List Str := ["_law_signs", "_law_one", "_law_first", "_law_other", "_law_second", "_law_sign"]
def ps_L_operations : List Str := ["_law_signs", "_law_one", "_law_first", "_law_other", "_law_second"]
def f_L_operations : J.Env → RS := (sSeq (sFor (fun1L itemsD (fVar 0)) (gNm 5) (sIf (fTest (fop gNe (fCallR 3 F_L_told (xV (fVar 5) (xV (fVar 1) (xV (fVar 3) xNil))) rvD) (fCallR 3 F_L_result (xV (fVar 5) (xV (fVar 2) (xV (fVar 4) xNil))) rvD))) (sRet (fC (.bl false))) sNil)) (sRet (fC (.bl true))))
def F_L_operations : DF := runF 6 f_L_operations
abbrev s_L_totals : Stmt := top 38
def N_L_totals : List Str := ["_law_tape_here", "_law_first", "_law_second", "_law_num", "_law_den", "_law_top", "_law_under", "_law_little", "_law_small", "_law_parts", "_law_ratios", "_law_pairs", "_law_many", "_law_line", "_law_passed", "_law_ones", "_law_others", "_law_total_here", "_law_due_here", "_law_kept", "_law_part", "_law_k", "_law_told_here"]
def ps_L_totals : List Str := ["_law_tape_here", "_law_first", "_law_second"]
def f_L_totals : J.Env → RS := (sSeq (sAsg (fVar 1) (gTup2 (gsCons (gNm 3) (gsCons (gNm 4) gsNil)))) (sSeq (sAsg (fVar 2) (gTup2 (gsCons (gNm 5) (gsCons (gNm 6) gsNil)))) (sSeq (sSet 7 (fop gSub (fCallR 3 F_L_take (xO 0 (xV (fC (.int 12)) (xV (fC (.int 9)) xNil))) rvD) (fC (.int 5)))) (sSeq (sSet 8 (fop gAdd (fC (.int 1)) (fCallR 3 F_L_take (xO 0 (xV (fC (.int 12)) (xV (fC (.int 6)) xNil))) rvD))) (sSeq (sSet 9 (fPub (fLst (fCons (fTup (fCons (fVar 3) (fCons (fVar 4) fNil))) (fCons (fTup (fCons (fVar 5) (fCons (fVar 6) fNil))) (fCons (fTup (fCons (fun1 gNeg (fVar 3)) (fCons (fVar 4) fNil))) (fCons (fTup (fCons (fVar 7) (fCons (fVar 8) fNil))) fNil))))))) (sSeq (sSet 10 (fPub (fLc [20] (fun1L itemsD (fVar 9)) (gNm 20) fYes (fMake "Ratio" 3 F_M_Ratio_init [] (xV (fop gIx (fVar 20) (fC (.int 0))) (xV (fop gIx (fVar 20) (fC (.int 1))) xNil)))))) (sSeq (sSet 11 (fPub (fLc [20] (fun1L itemsD (fVar 9)) (gNm 20) fYes (fCallR 2 F_L_due (xV (fop gIx (fVar 20) (fC (.int 0))) (xV (fop gIx (fVar 20) (fC (.int 1))) xNil)) rvD)))) (sSeq (sSet 12 (fCallR 3 F_L_take (xO 0 (xV (fC (.int 7)) (xV (fC (.int 4)) xNil))) rvD)) (sSeq (sSetL 13 (fLc [21] (fRng1 (fVar 12)) (gNm 21) fYes (fCallR 3 F_L_take (xO 0 (xV (fC (.int 4)) (xV (fVar 21) xNil))) rvD))) (fun E => (sSeq (sIf (fTest (fop gEq (fVar 12) (fC (.int 6)))) (sSet 13 (fop gMul (fPub (fLst (fCons (fop gIx (fVar 13) (fC (.int 0))) fNil))) (fC (.int 1000)))) sNil) (sSeq (sSetL 14 (fLc [21] (fun1L itemsD (fVar 13)) (gNm 21) fYes (fop gIx (fVar 10) (fVar 21)))) (sSeq (sSet 15 (fop gSub (fCnt (fVar 13) (fC (.int 0))) (fCnt (fVar 13) (fC (.int 2))))) (sSeq (sSet 16 (fCnt (fVar 13) (fC (.int 1)))) (sSeq (sSet 17 (fop gMul (fop gAdd (fop gMul (fop gMul (fVar 15) (fVar 3)) (fVar 6)) (fop gMul (fop gMul (fVar 16) (fVar 5)) (fVar 4))) (fVar 8))) (sSeq (sSet 17 (fop gAdd (fVar 17) (fop gMul (fop gMul (fop gMul (fCnt (fVar 13) (fC (.int 3))) (fVar 7)) (fVar 4)) (fVar 6)))) (sSeq (sSet 18 (fCallR 2 F_L_due (xV (fVar 17) (xV (fop gMul (fop gMul (fVar 4) (fVar 6)) (fVar 8)) xNil)) rvD)) (fun E => (sSeq (sIf (fOr (fTest (fop gNe (fCallR 1 F_L_total (xV (fVar 14) xNil) rvD) (fVar 18))) (fTest (fop gNe (fCallR 1 F_L_total (xV (fun1 gTuple (fVar 14)) xNil) rvD) (fVar 18)))) (sRet (fC (.bl false))) sNil) (sSeq (sSetL 19 (fLc [22] (fun1L itemsD (fVar 14)) (gNm 22) fYes (fCallR 1 F_L_pair (xV (fVar 22) xNil) rvD))) (fun E => (sRet (fop gEq (fVar 19) (fPub (fLc [21] (fun1L itemsD (fVar 13)) (gNm 21) fYes (fop gIx (fVar 11) (fVar 21)))))) (pubE 19 E)))) (pubE 14 E))))))))) (pubE 13 E)))))))))))
def F_L_totals : DF := runF 23 f_L_totals
abbrev s_law : Stmt := top 39
def N_law : List Str := ["_law_script", "_law_tape_here", "_law_top", "_law_first", "_law_second", "_law_whole", "_law_one", "_law_other", "_law_third", "_law_same", "_law_signs"]
def ps_law : List Str := ["_law_script"]
def f_law : J.Env → RS := (sSeq (sIf (fOr (fNot (fTru (fCallR 1 F_L_int (xV (fC (.int gi_MOST)) xNil) rvD))) (fTest (fop gNe (fC (.int gi_MOST)) (fop gPowP (fop gPowP (fC (.int 10)) (fC (.int 50))) (fC (.int 40)))))) (sRet (fC (.bl false))) sNil) (sSeq (sSetL 1 (fCallR 1 F_L_tape (xV (fVar 0) xNil) rvL)) (sSeq (sSet 2 (fCallR 2 F_L_signed (xO 1 (xV (fC (.int 2)) xNil)) rvD)) (sSeq (sSet 3 (fTup (fCons (fVar 2) (fCons (fop gMax2 (fC (.int 1)) (fCallR 2 F_L_number (xO 1 (xV (fC (.int 4)) xNil)) rvD)) fNil)))) (sSeq (sSet 2 (fCallR 2 F_L_signed (xO 1 (xV (fC (.int 5)) xNil)) rvD)) (sSeq (sSet 4 (fTup (fCons (fVar 2) (fCons (fop gMax2 (fC (.int 1)) (fCallR 2 F_L_number (xO 1 (xV (fC (.int 1)) xNil)) rvD)) fNil)))) (sSeq (sSet 5 (fCallR 2 F_L_signed (xO 1 (xV (fC (.int 3)) xNil)) rvD)) (sSeq (sSet 6 (fMake "Ratio" 3 F_M_Ratio_init [] (xV (fop gIx (fVar 3) (fC (.int 0))) (xV (fop gIx (fVar 3) (fC (.int 1))) xNil)))) (sSeq (sSet 7 (fMake "Ratio" 3 F_M_Ratio_init [] (xV (fop gIx (fVar 4) (fC (.int 0))) (xV (fop gIx (fVar 4) (fC (.int 1))) xNil)))) (sSeq (sSet 8 (fMake "Ratio" 3 F_M_Ratio_init [.int 1] (xV (fVar 5) xNil))) (sSeq (sIf (fOr (fNot (fTru (fCallR 2 F_L_single (xV (fVar 6) (xV (fVar 3) xNil)) rvD))) (fNot (fTru (fCallR 2 F_L_single (xV (fVar 7) (xV (fVar 4) xNil)) rvD)))) (sRet (fC (.bl false))) sNil) (sSeq (sSet 9 (fBin T_eq_eq gEq (fVar 8) (fVar 5))) (sSeq (sIf (fOr (fTest (fop gNe (fCallR 1 F_L_pair (xV (fVar 8) xNil) rvD) (fTup (fCons (fC (.str "ratio")) (fCons (fVar 5) (fCons (fC (.int 1)) fNil)))))) (fTest (fun1 (isBl false true) (fVar 9)))) (sRet (fC (.bl false))) sNil) (sSeq (sSet 10 (fPub (fLst (fCons (fC (.str "+")) (fCons (fC (.str "-")) (fCons (fC (.str "*")) (fCons (fC (.str "/")) fNil))))))) (sSeq (sIf (fNot (fTru (fCallR 5 F_L_operations (xV (fVar 10) (xV (fVar 6) (xV (fVar 3) (xV (fVar 7) (xV (fVar 4) xNil))))) rvD))) (sRet (fC (.bl false))) sNil) (sSeq (sIf (fNot (fTru (fCallR 5 F_L_operations (xV (fVar 10) (xV (fVar 7) (xV (fVar 4) (xV (fVar 6) (xV (fVar 3) xNil))))) rvD))) (sRet (fC (.bl false))) sNil) (sSeq (sIf (fNot (fTru (fCallR 5 F_L_operations (xV (fVar 10) (xV (fVar 6) (xV (fVar 3) (xV (fVar 6) (xV (fVar 3) xNil))))) rvD))) (sRet (fC (.bl false))) sNil) (sSeq (sIf (fNot (fTru (fCallR 5 F_L_operations (xV (fCut (fVar 10) (fun _ => some none) (fun E => intP ((fun _ => some (.int 3)) E))) (xV (fVar 6) (xV (fVar 3) (xV (fVar 5) (xV (fTup (fCons (fVar 5) (fCons (fC (.int 1)) fNil))) xNil))))) rvD))) (sRet (fC (.bl false))) sNil) (sSeq (sIf (fNot (fTru (fCallR 4 F_L_order (xV (fVar 6) (xV (fVar 3) (xV (fVar 7) (xV (fVar 4) xNil)))) rvD))) (sRet (fC (.bl false))) sNil) (sSeq (sIf (fNot (fTru (fCallR 4 F_L_order (xV (fVar 7) (xV (fVar 4) (xV (fVar 6) (xV (fVar 3) xNil)))) rvD))) (sRet (fC (.bl false))) sNil) (sSeq (sIf (fNot (fTru (fCallR 4 F_L_order (xV (fVar 6) (xV (fVar 3) (xV (fVar 6) (xV (fVar 3) xNil)))) rvD))) (sRet (fC (.bl false))) sNil) (sSeq (sIf (fNot (fTru (fCallR 4 F_L_order (xV (fVar 7) (xV (fVar 4) (xV (fVar 8) (xV (fTup (fCons (fVar 5) (fCons (fC (.int 1)) fNil))) xNil)))) rvD))) (sRet (fC (.bl false))) sNil) (sSeq (sIf (fNot (fTru (fCallR 4 F_L_back (xV (fVar 6) (xV (fVar 3) (xV (fVar 7) (xV (fVar 4) xNil)))) rvD))) (sRet (fC (.bl false))) sNil) (sSeq (sIf (fNot (fTru (fCallR 4 F_L_back (xV (fVar 7) (xV (fVar 4) (xV (fVar 6) (xV (fVar 3) xNil)))) rvD))) (sRet (fC (.bl false))) sNil) (sSeq (sIf (fNot (fTru (fCallR 3 F_L_totals (xO 1 (xV (fVar 3) (xV (fVar 4) xNil))) rvD))) (sRet (fC (.bl false))) sNil) (sSeq (sIf (fOr (fNot (fTru (fCallR 2 F_L_single (xV (fVar 6) (xV (fVar 3) xNil)) rvD))) (fNot (fTru (fCallR 2 F_L_single (xV (fVar 7) (xV (fVar 4) xNil)) rvD)))) (sRet (fC (.bl false))) sNil) (sRet (fBin T_eq_eq gEq (fCallR 3 F_L_told (xV (fC (.str "+")) (xV (fVar 6) (xV (fVar 7) xNil))) rvD) (fCallR 3 F_L_result (xV (fC (.str "+")) (xV (fVar 3) (xV (fVar 4) xNil))) rvD)))))))))))))))))))))))))))))
def F_law : DF := runF 11 f_law
def frs : List Str := (["abs", "bool", "int", "isinstance", "len", "max", "range", "sum", "tuple", "super"] : List PySem.Str)
structure MF (K : PySem.W.Frag) (mg : Str → Option Value) : Prop where
  fr : ∀ x ∈ frs, mg x = none
  i_MOST : ∃ t, mg "MOST" = some (.int gi_MOST t)
  i_MOST_TOTAL : ∃ t, mg "MOST_TOTAL" = some (.int gi_MOST_TOTAL t)
  i_MOST_TOTAL_DEN : ∃ t, mg "MOST_TOTAL_DEN" = some (.int gi_MOST_TOTAL_DEN t)
  cl_NodearerError : mg "NodearerError" = some (.ref (He.ga K "NodearerError"))
  cl_NumberError : mg "NumberError" = some (.ref (He.ga K "NumberError"))
  cl_SizeError : mg "SizeError" = some (.ref (He.ga K "SizeError"))
  exm_NumberError : ∀ p ∈ tb_NumberError, PySem.W.exmOne K (.ref (He.ga K p.1)) (.ref (He.ga K "NumberError")) = some p.2
  fld_NumberError_number : XfC K (He.ga K "NumberError") ∧ PySem.W.findIn K (.ref (He.ga K "NumberError")) "number" = some none
  exc_NumberError : ExcC K (He.ga K "NumberError")
  kit_0 : PySem.W.kitOne K (.ref (He.ga K "NumberError")) (.ref (He.ga K "NodearerError")) = some true
  fld_den : FldOk K okc_den "den"
  fld_num : FldOk K okc_num "num"
  is_Ratio : IsJ K "Ratio" isT_Ratio isTs
  mgc_Ratio : mg "Ratio" = some (.ref (He.ga K "Ratio"))
  b_gcd : mg "gcd" = some (.builtin "math.gcd")
  b_lcm : mg "lcm" = some (.builtin "math.lcm")
section
variable {P : Program} {w : World} {K : PySem.W.Frag} {mg : Str → Option Value} {base : Heap}
theorem fld_NumberError_number (M : MF K mg) : ∀ c, okf_NumberError_number c = true → XfC K (He.ga K c) ∧ PySem.W.findIn K (.ref (He.ga K c)) "number" = some none := fun c e => by
  have e : c = "NumberError" := by simpa [okf_NumberError_number] using e
  subst e; exact M.fld_NumberError_number
theorem isx_0_ok (M : MF K mg) : ∀ c b, isx_0 c = some b → ExcC K (He.ga K c) ∧ ∃ cv, [.ref (He.ga K "NodearerError")] = [cv] ∧ PySem.W.kitOne K (.ref (He.ga K c)) cv = some b := fun c b e => by
  obtain ⟨rfl, rfl⟩ := if_some e
  exact ⟨M.exc_NumberError, _, rfl, M.kit_0⟩
theorem T_mt_floor_ok {k : Nat} (h_mt_Ratio_floor_0 : MtJ P w K mg base 1 "floor" 1 [] "Ratio" F_M_Ratio_floor) (hk : 1 ≤ k) : ∀ c F, T_mt_floor c = some F → MtJ P w K mg base k "floor" 1 [] c F := fun c F e => by
  unfold T_mt_floor at e
  split at e
  · rename_i z; cases e; subst z; exact h_mt_Ratio_floor_0.mono (Nat.le_trans (by decide) hk)
  cases e
theorem T_mt_ceil_ok {k : Nat} (h_mt_Ratio_ceil_0 : MtJ P w K mg base 1 "ceil" 1 [] "Ratio" F_M_Ratio_ceil) (hk : 1 ≤ k) : ∀ c F, T_mt_ceil c = some F → MtJ P w K mg base k "ceil" 1 [] c F := fun c F e => by
  unfold T_mt_ceil at e
  split at e
  · rename_i z; cases e; subst z; exact h_mt_Ratio_ceil_0.mono (Nat.le_trans (by decide) hk)
  cases e
theorem T_op_add_ok {k : Nat} (h_op_Ratio_add : OpJ P w K mg base 7 .Add "Ratio" F_M_Ratio_add) (hk : 7 ≤ k) : ∀ c F, T_op_add c = some F → OpJ P w K mg base k .Add c F := fun c F e => by
  unfold T_op_add at e
  split at e
  · rename_i z; cases e; subst z; exact h_op_Ratio_add.mono (Nat.le_trans (by decide) hk)
  cases e
theorem T_op_sub_ok {k : Nat} (h_op_Ratio_sub : OpJ P w K mg base 7 .Sub "Ratio" F_M_Ratio_sub) (hk : 7 ≤ k) : ∀ c F, T_op_sub c = some F → OpJ P w K mg base k .Sub c F := fun c F e => by
  unfold T_op_sub at e
  split at e
  · rename_i z; cases e; subst z; exact h_op_Ratio_sub.mono (Nat.le_trans (by decide) hk)
  cases e
theorem T_op_mul_ok {k : Nat} (h_op_Ratio_mul : OpJ P w K mg base 7 .Mult "Ratio" F_M_Ratio_mul) (hk : 7 ≤ k) : ∀ c F, T_op_mul c = some F → OpJ P w K mg base k .Mult c F := fun c F e => by
  unfold T_op_mul at e
  split at e
  · rename_i z; cases e; subst z; exact h_op_Ratio_mul.mono (Nat.le_trans (by decide) hk)
  cases e
theorem T_mt_over_ok {k : Nat} (h_mt_Ratio_over_0 : MtJ P w K mg base 7 "over" 2 [] "Ratio" F_M_Ratio_over) (hk : 7 ≤ k) : ∀ c F, T_mt_over c = some F → MtJ P w K mg base k "over" 2 [] c F := fun c F e => by
  unfold T_mt_over at e
  split at e
  · rename_i z; cases e; subst z; exact h_mt_Ratio_over_0.mono (Nat.le_trans (by decide) hk)
  cases e
theorem T_mt_compare_ok {k : Nat} (h_mt_Ratio_compare_0 : MtJ P w K mg base 1 "compare" 2 [] "Ratio" F_M_Ratio_compare) (hk : 1 ≤ k) : ∀ c F, T_mt_compare c = some F → MtJ P w K mg base k "compare" 2 [] c F := fun c F e => by
  unfold T_mt_compare at e
  split at e
  · rename_i z; cases e; subst z; exact h_mt_Ratio_compare_0.mono (Nat.le_trans (by decide) hk)
  cases e
theorem T_eq_eq_ok {k : Nat} (h_eq_Ratio : EqJ P w K mg base 1 "Ratio" F_M_Ratio_eq) (hk : 1 ≤ k) : ∀ c F, T_eq_eq c = some F → EqJ P w K mg base k c F := fun c F e => by
  unfold T_eq_eq at e
  split at e
  · rename_i z; cases e; subst z; exact h_eq_Ratio.mono (Nat.le_trans (by decide) hk)
  cases e
theorem T_un_neg_ok {k : Nat} (h_un_Ratio_neg : UnJ P w K mg base 6 "__neg__" "Ratio" F_M_Ratio_neg) (hk : 6 ≤ k) : ∀ c F, T_un_neg c = some F → UnJ P w K mg base k "__neg__" c F := fun c F e => by
  unfold T_un_neg at e
  split at e
  · rename_i z; cases e; subst z; exact h_un_Ratio_neg.mono (Nat.le_trans (by decide) hk)
  cases e
theorem T_un_abs_ok {k : Nat} (h_un_Ratio_abs : UnJ P w K mg base 6 "__abs__" "Ratio" F_M_Ratio_abs) (hk : 6 ≤ k) : ∀ c F, T_un_abs c = some F → UnJ P w K mg base k "__abs__" c F := fun c F e => by
  unfold T_un_abs at e
  split at e
  · rename_i z; cases e; subst z; exact h_un_Ratio_abs.mono (Nat.le_trans (by decide) hk)
  cases e
theorem T_un_bool_ok {k : Nat} (h_un_Ratio_bool : UnJ P w K mg base 1 "__bool__" "Ratio" F_M_Ratio_bool) (hk : 1 ≤ k) : ∀ c F, T_un_bool c = some F → UnJ P w K mg base k "__bool__" c F := fun c F e => by
  unfold T_un_bool at e
  split at e
  · rename_i z; cases e; subst z; exact h_un_Ratio_bool.mono (Nat.le_trans (by decide) hk)
  cases e
theorem sc_L_tape : FnScope N_L_tape ps_L_tape (defScope s_L_tape) := ⟨rfl, rfl, rfl, by decide +kernel, rfl, by decide +kernel, by decide +kernel⟩
theorem b_L_tape {fa : Addr} {cdv : Value} {A : Around} {outer : List PySem.Env} {s : Shared} {H : Hp} {E : XK} (M : MF K mg)  (hr : Room 0 (A.deeper (envOfC "_law_tape" (defScope s_L_tape) s.heap.objs.size fa cdv))) (tk : L2N.Takes (cxOf (L2N.CX P w) P w K mg base N_L_tape "_law_tape" (defScope s_L_tape) fa cdv A outer s H E) (fun c d _ H => E c d H)) (hp : PassesOwn (model P w) (cxOf (L2N.CX P w) P w K mg base N_L_tape "_law_tape" (defScope s_L_tape) fa cdv A outer s H E).A (cxOf (L2N.CX P w) P w K mg base N_L_tape "_law_tape" (defScope s_L_tape) fa cdv A outer s H E).env (cxOf (L2N.CX P w) P w K mg base N_L_tape "_law_tape" (defScope s_L_tape) fa cdv A outer s H E).xe) :
    JSs (cxOf (L2N.CX P w) P w K mg base N_L_tape "_law_tape" (defScope s_L_tape) fa cdv A outer s H E) (fun c d _ H => E c d H) (defBody s_L_tape) f_L_tape := by
  have hc : (cxOf (L2N.CX P w) P w K mg base N_L_tape "_law_tape" (defScope s_L_tape) fa cdv A outer s H E).calm = true := rfl
  have hN : (cxOf (L2N.CX P w) P w K mg base N_L_tape "_law_tape" (defScope s_L_tape) fa cdv A outer s H E).N.Nodup := sc_L_tape.nd
  have hu := hr.units
  exact (jss_cons (js_setL 1 hN (jl_lst ja_nil)) (jss_cons (js_for hp hc (ji_seq (j_cut (JE.toO (j_var 0)) jp_none (jp_some jq_int))) (jg_name 2 hN) (jss_cons (js_set 3 hN (j_b1 call_abs c1_abs (M.fr "abs" (by decide +kernel)) (by decide +kernel) (JE.toO (j_var 2)))) (jss_one (js_for hp hc (ji_range1 (M.fr "range" (by decide +kernel)) j_int) (jg_name 4 hN) (jss_one (js_if (jt_cmp op_gt opS_B0 (j_var 3) (JE.toO j_int) (nomark _)) (jss_cons (js_app 1 (j_mod (j_t1 call_int1 c1_int (M.fr "int" (by decide +kernel)) (by decide +kernel) (JE.toO (j_var 3))) (JE.toO j_int))) (jss_one (js_set 3 hN (j_divP (j_var 3) (JE.toO j_int))))) jss_nil)))))) (jss_one (js_retL (jl_rev (j_bor 1))))))
theorem fo_L_tape {fa : Addr} {fd : FuncData} {dvs : List V} (F : FunD K "_law_tape" "_law_tape" (defArgs s_L_tape) (defBody s_L_tape) (defScope s_L_tape) dvs [] fa fd) (M : MF K mg)  : FnOk P w K mg base (L2N.CX P w) 1 fa fd ps_L_tape (spJ K 1 F_L_tape) := by
  obtain ⟨oc, od, dV, kV, doc, pm, an, cdv, ct, osl, rfl, lk, hcd, _, _⟩ := F.ex
  exact fn_J lk hcd sc_L_tape fun A outer s H E hr tk hp => b_L_tape M  hr tk hp
theorem bn_L_tape {fa : Addr} {fd : FuncData} (F : FunD K "_law_tape" "_law_tape" (defArgs s_L_tape) (defBody s_L_tape) (defScope s_L_tape) [] [] fa fd) : Binds K fd ps_L_tape [] := F.bindsN fun _ _ _ _ _ _ us hl => match us, hl with | [_], _ => rfl
theorem sc_L_take : FnScope N_L_take ps_L_take (defScope s_L_take) := ⟨rfl, rfl, rfl, by decide +kernel, rfl, by decide +kernel, by decide +kernel⟩
theorem b_L_take {fa : Addr} {cdv : Value} {A : Around} {outer : List PySem.Env} {s : Shared} {H : Hp} {E : XK} (M : MF K mg)  (hr : Room 0 (A.deeper (envOfC "_law_take" (defScope s_L_take) s.heap.objs.size fa cdv))) (tk : L2N.Takes (cxOf (L2N.CX P w) P w K mg base N_L_take "_law_take" (defScope s_L_take) fa cdv A outer s H E) (fun c d _ H => E c d H)) (hp : PassesOwn (model P w) (cxOf (L2N.CX P w) P w K mg base N_L_take "_law_take" (defScope s_L_take) fa cdv A outer s H E).A (cxOf (L2N.CX P w) P w K mg base N_L_take "_law_take" (defScope s_L_take) fa cdv A outer s H E).env (cxOf (L2N.CX P w) P w K mg base N_L_take "_law_take" (defScope s_L_take) fa cdv A outer s H E).xe) :
    JSs (cxOf (L2N.CX P w) P w K mg base N_L_take "_law_take" (defScope s_L_take) fa cdv A outer s H E) (fun c d _ H => E c d H) (defBody s_L_take) f_L_take := by
  have hc : (cxOf (L2N.CX P w) P w K mg base N_L_take "_law_take" (defScope s_L_take) fa cdv A outer s H E).calm = true := rfl
  have hN : (cxOf (L2N.CX P w) P w K mg base N_L_take "_law_take" (defScope s_L_take) fa cdv A outer s H E).N.Nodup := sc_L_take.nd
  have hu := hr.units
  exact (jss_cons (js_set 3 hN j_int) (jss_cons (js_if (jt_cmp op_gt opS_B0 (j_b1 call_len c1_len (M.fr "len" (by decide +kernel)) (by decide +kernel) (j_bor 0)) (JE.toO j_int) (nomark _)) (jss_one (js_set 3 hN (j_pop 0))) jss_nil) (jss_one (js_ret (j_mod (j_t1 call_int1 c1_int (M.fr "int" (by decide +kernel)) (by decide +kernel) (JE.toO (j_add (j_var 3) (JE.toO (j_var 2))))) (JE.toO (j_var 1)))))))
theorem fo_L_take {fa : Addr} {fd : FuncData} {dvs : List V} (F : FunD K "_law_take" "_law_take" (defArgs s_L_take) (defBody s_L_take) (defScope s_L_take) dvs [] fa fd) (M : MF K mg)  : FnOk P w K mg base (L2N.CX P w) 1 fa fd ps_L_take (spJ K 3 F_L_take) := by
  obtain ⟨oc, od, dV, kV, doc, pm, an, cdv, ct, osl, rfl, lk, hcd, _, _⟩ := F.ex
  exact fn_J lk hcd sc_L_take fun A outer s H E hr tk hp => b_L_take M  hr tk hp
theorem bn_L_take {fa : Addr} {fd : FuncData} (F : FunD K "_law_take" "_law_take" (defArgs s_L_take) (defBody s_L_take) (defScope s_L_take) [] [] fa fd) : Binds K fd ps_L_take [] := F.bindsN fun _ _ _ _ _ _ us hl => match us, hl with | [_, _, _], _ => rfl
theorem sc_L_int : FnScope N_L_int ps_L_int (defScope s_L_int) := ⟨rfl, rfl, rfl, by decide +kernel, rfl, by decide +kernel, by decide +kernel⟩
theorem b_L_int {fa : Addr} {cdv : Value} {A : Around} {outer : List PySem.Env} {s : Shared} {H : Hp} {E : XK} (M : MF K mg)  (hr : Room 0 (A.deeper (envOfC "_law_int" (defScope s_L_int) s.heap.objs.size fa cdv))) (tk : L2N.Takes (cxOf (L2N.CX P w) P w K mg base N_L_int "_law_int" (defScope s_L_int) fa cdv A outer s H E) (fun c d _ H => E c d H)) (hp : PassesOwn (model P w) (cxOf (L2N.CX P w) P w K mg base N_L_int "_law_int" (defScope s_L_int) fa cdv A outer s H E).A (cxOf (L2N.CX P w) P w K mg base N_L_int "_law_int" (defScope s_L_int) fa cdv A outer s H E).env (cxOf (L2N.CX P w) P w K mg base N_L_int "_law_int" (defScope s_L_int) fa cdv A outer s H E).xe) :
    JSs (cxOf (L2N.CX P w) P w K mg base N_L_int "_law_int" (defScope s_L_int) fa cdv A outer s H E) (fun c d _ H => E c d H) (defBody s_L_int) f_L_int := by
  have hc : (cxOf (L2N.CX P w) P w K mg base N_L_int "_law_int" (defScope s_L_int) fa cdv A outer s H E).calm = true := rfl
  have hN : (cxOf (L2N.CX P w) P w K mg base N_L_int "_law_int" (defScope s_L_int) fa cdv A outer s H E).N.Nodup := sc_L_int.nd
  have hu := hr.units
  exact (jss_one (js_ret (j_and (j_isi (T := "int") (M.fr "isinstance" (by decide +kernel)) (M.fr "int" (by decide +kernel)) (by decide +kernel) (JE.toO (j_var 0))) (j_one (j_not (j_isi (T := "bool") (M.fr "isinstance" (by decide +kernel)) (M.fr "bool" (by decide +kernel)) (by decide +kernel) (JE.toO (j_var 0))))))))
theorem fo_L_int {fa : Addr} {fd : FuncData} {dvs : List V} (F : FunD K "_law_int" "_law_int" (defArgs s_L_int) (defBody s_L_int) (defScope s_L_int) dvs [] fa fd) (M : MF K mg)  : FnOk P w K mg base (L2N.CX P w) 1 fa fd ps_L_int (spJ K 1 F_L_int) := by
  obtain ⟨oc, od, dV, kV, doc, pm, an, cdv, ct, osl, rfl, lk, hcd, _, _⟩ := F.ex
  exact fn_J lk hcd sc_L_int fun A outer s H E hr tk hp => b_L_int M  hr tk hp
theorem bn_L_int {fa : Addr} {fd : FuncData} (F : FunD K "_law_int" "_law_int" (defArgs s_L_int) (defBody s_L_int) (defScope s_L_int) [] [] fa fd) : Binds K fd ps_L_int [] := F.bindsN fun _ _ _ _ _ _ us hl => match us, hl with | [_], _ => rfl
theorem bH_L_int {fa : Addr} {cdv : Value} {A : Around} {outer : List PySem.Env} {s : Shared} {H : Hp} {E : XK} {p : Addr × Obj} (M : MF K mg) : JSs (L2H.cxH (L2N.CX P w) P w K mg base N_L_int "_law_int" (defScope s_L_int) fa cdv A outer s H E p) (fun c d _ H => E c d H) (defBody s_L_int) f_L_int := by
  have hN : (L2H.cxH (L2N.CX P w) P w K mg base N_L_int "_law_int" (defScope s_L_int) fa cdv A outer s H E p).N.Nodup := sc_L_int.nd
  exact (jss_one (js_ret (j_and (j_isi (T := "int") (M.fr "isinstance" (by decide +kernel)) (M.fr "int" (by decide +kernel)) (by decide +kernel) (JE.toO (j_var 0))) (j_one (j_not (j_isi (T := "bool") (M.fr "isinstance" (by decide +kernel)) (M.fr "bool" (by decide +kernel)) (by decide +kernel) (JE.toO (j_var 0))))))))
theorem okH_L_int {fa : Addr} {fd : FuncData} (F : FunD K "_law_int" "_law_int" (defArgs s_L_int) (defBody s_L_int) (defScope s_L_int) [] [] fa fd) (gm : mg "_law_int" = some (.ref fa)) (M : MF K mg) : FnHJ P w K mg base 1 "_law_int" 1 F_L_int := by
  have bn := bn_L_int F
  have kp := F.kp
  obtain ⟨oc, od, dV, kV, doc, pm, an, cdv, ct, osl, rfl, lk, hcd, _, _⟩ := F.ex
  exact ⟨fa, _, ps_L_int, gm, kp, rfl, bn, fn_JH lk hcd sc_L_int fun A outer s H E p hr => bH_L_int M⟩
theorem sc_L_common : FnScope N_L_common ps_L_common (defScope s_L_common) := ⟨rfl, rfl, rfl, by decide +kernel, rfl, by decide +kernel, by decide +kernel⟩
theorem b_L_common {fa : Addr} {cdv : Value} {A : Around} {outer : List PySem.Env} {s : Shared} {H : Hp} {E : XK} (M : MF K mg)  (hr : Room 0 (A.deeper (envOfC "_law_common" (defScope s_L_common) s.heap.objs.size fa cdv))) (tk : L2N.Takes (cxOf (L2N.CX P w) P w K mg base N_L_common "_law_common" (defScope s_L_common) fa cdv A outer s H E) (fun c d _ H => E c d H)) (hp : PassesOwn (model P w) (cxOf (L2N.CX P w) P w K mg base N_L_common "_law_common" (defScope s_L_common) fa cdv A outer s H E).A (cxOf (L2N.CX P w) P w K mg base N_L_common "_law_common" (defScope s_L_common) fa cdv A outer s H E).env (cxOf (L2N.CX P w) P w K mg base N_L_common "_law_common" (defScope s_L_common) fa cdv A outer s H E).xe) :
    JSs (cxOf (L2N.CX P w) P w K mg base N_L_common "_law_common" (defScope s_L_common) fa cdv A outer s H E) (fun c d _ H => E c d H) (defBody s_L_common) f_L_common := by
  have hc : (cxOf (L2N.CX P w) P w K mg base N_L_common "_law_common" (defScope s_L_common) fa cdv A outer s H E).calm = true := rfl
  have hN : (cxOf (L2N.CX P w) P w K mg base N_L_common "_law_common" (defScope s_L_common) fa cdv A outer s H E).N.Nodup := sc_L_common.nd
  have hu := hr.units
  exact (jss_cons (js_while fu_L_common_1 hp (jt_cmp (op_neD hu) opS_ne (j_var 1) (JE.toO j_int) (nomark _)) (jss_cons (js_set 2 hN (j_mod (j_t1 call_int1 c1_int (M.fr "int" (by decide +kernel)) (by decide +kernel) (JE.toO (j_var 0))) (JE.toO (j_var 1)))) (jss_cons (js_set 0 hN (j_var 1)) (jss_one (js_set 1 hN (j_var 2)))))) (jss_one (js_ret (j_var 0))))
theorem fo_L_common {fa : Addr} {fd : FuncData} {dvs : List V} (F : FunD K "_law_common" "_law_common" (defArgs s_L_common) (defBody s_L_common) (defScope s_L_common) dvs [] fa fd) (M : MF K mg)  : FnOk P w K mg base (L2N.CX P w) 1 fa fd ps_L_common (spJ K 2 F_L_common) := by
  obtain ⟨oc, od, dV, kV, doc, pm, an, cdv, ct, osl, rfl, lk, hcd, _, _⟩ := F.ex
  exact fn_J lk hcd sc_L_common fun A outer s H E hr tk hp => b_L_common M  hr tk hp
theorem bn_L_common {fa : Addr} {fd : FuncData} (F : FunD K "_law_common" "_law_common" (defArgs s_L_common) (defBody s_L_common) (defScope s_L_common) [] [] fa fd) : Binds K fd ps_L_common [] := F.bindsN fun _ _ _ _ _ _ us hl => match us, hl with | [_, _], _ => rfl
theorem sc_M_Ratio_eq : FnScope N_M_Ratio_eq ps_M_Ratio_eq (defScope s_M_Ratio_eq) := ⟨rfl, rfl, rfl, by decide +kernel, rfl, by decide +kernel, by decide +kernel⟩
theorem b_M_Ratio_eq {fa : Addr} {cdv : Value} {A : Around} {outer : List PySem.Env} {s : Shared} {H : Hp} {E : XK} (M : MF K mg)  (hr : Room 0 (A.deeper (envOfC "Ratio.__eq__" (defScope s_M_Ratio_eq) s.heap.objs.size fa cdv))) (tk : L2N.Takes (cxOf (L2N.CX P w) P w K mg base N_M_Ratio_eq "Ratio.__eq__" (defScope s_M_Ratio_eq) fa cdv A outer s H E) (fun c d _ H => E c d H)) (hp : PassesOwn (model P w) (cxOf (L2N.CX P w) P w K mg base N_M_Ratio_eq "Ratio.__eq__" (defScope s_M_Ratio_eq) fa cdv A outer s H E).A (cxOf (L2N.CX P w) P w K mg base N_M_Ratio_eq "Ratio.__eq__" (defScope s_M_Ratio_eq) fa cdv A outer s H E).env (cxOf (L2N.CX P w) P w K mg base N_M_Ratio_eq "Ratio.__eq__" (defScope s_M_Ratio_eq) fa cdv A outer s H E).xe) :
    JSs (cxOf (L2N.CX P w) P w K mg base N_M_Ratio_eq "Ratio.__eq__" (defScope s_M_Ratio_eq) fa cdv A outer s H E) (fun c d _ H => E c d H) (defBody s_M_Ratio_eq) f_M_Ratio_eq := by
  have hc : (cxOf (L2N.CX P w) P w K mg base N_M_Ratio_eq "Ratio.__eq__" (defScope s_M_Ratio_eq) fa cdv A outer s H E).calm = true := rfl
  have hN : (cxOf (L2N.CX P w) P w K mg base N_M_Ratio_eq "Ratio.__eq__" (defScope s_M_Ratio_eq) fa cdv A outer s H E).N.Nodup := sc_M_Ratio_eq.nd
  have hu := hr.units
  exact (jss_one (js_ret (j_and (j_isO M.is_Ratio (M.fr "isinstance" (by decide +kernel)) M.mgc_Ratio (j_var 1)) (j_and (j_cmp (op_eqD hu) opS_eq (j_fld M.fld_num (j_var 0)) (JE.toO (j_fld M.fld_num (j_var 1))) (nomark _)) (j_one (j_cmp (op_eqD hu) opS_eq (j_fld M.fld_den (j_var 0)) (JE.toO (j_fld M.fld_den (j_var 1))) (nomark _)))))))
theorem fo_M_Ratio_eq {fa : Addr} {fd : FuncData} {dvs : List V} (F : FunD K "__eq__" "Ratio.__eq__" (defArgs s_M_Ratio_eq) (defBody s_M_Ratio_eq) (defScope s_M_Ratio_eq) dvs [] fa fd) (M : MF K mg)  : FnOk P w K mg base (L2N.CX P w) 1 fa fd ps_M_Ratio_eq (spJ K 2 F_M_Ratio_eq) := by
  obtain ⟨oc, od, dV, kV, doc, pm, an, cdv, ct, osl, rfl, lk, hcd, _, _⟩ := F.ex
  exact fn_J lk hcd sc_M_Ratio_eq fun A outer s H E hr tk hp => b_M_Ratio_eq M  hr tk hp
theorem bn_M_Ratio_eq {fa : Addr} {fd : FuncData} (F : FunD K "__eq__" "Ratio.__eq__" (defArgs s_M_Ratio_eq) (defBody s_M_Ratio_eq) (defScope s_M_Ratio_eq) [] [] fa fd) : Binds K fd ps_M_Ratio_eq [] := F.bindsN fun _ _ _ _ _ _ us hl => match us, hl with | [_, _], _ => rfl
theorem sc_M_Ratio_bool : FnScope N_M_Ratio_bool ps_M_Ratio_bool (defScope s_M_Ratio_bool) := ⟨rfl, rfl, rfl, by decide +kernel, rfl, by decide +kernel, by decide +kernel⟩
theorem b_M_Ratio_bool {fa : Addr} {cdv : Value} {A : Around} {outer : List PySem.Env} {s : Shared} {H : Hp} {E : XK} (M : MF K mg)  (hr : Room 0 (A.deeper (envOfC "Ratio.__bool__" (defScope s_M_Ratio_bool) s.heap.objs.size fa cdv))) (tk : L2N.Takes (cxOf (L2N.CX P w) P w K mg base N_M_Ratio_bool "Ratio.__bool__" (defScope s_M_Ratio_bool) fa cdv A outer s H E) (fun c d _ H => E c d H)) (hp : PassesOwn (model P w) (cxOf (L2N.CX P w) P w K mg base N_M_Ratio_bool "Ratio.__bool__" (defScope s_M_Ratio_bool) fa cdv A outer s H E).A (cxOf (L2N.CX P w) P w K mg base N_M_Ratio_bool "Ratio.__bool__" (defScope s_M_Ratio_bool) fa cdv A outer s H E).env (cxOf (L2N.CX P w) P w K mg base N_M_Ratio_bool "Ratio.__bool__" (defScope s_M_Ratio_bool) fa cdv A outer s H E).xe) :
    JSs (cxOf (L2N.CX P w) P w K mg base N_M_Ratio_bool "Ratio.__bool__" (defScope s_M_Ratio_bool) fa cdv A outer s H E) (fun c d _ H => E c d H) (defBody s_M_Ratio_bool) f_M_Ratio_bool := by
  have hc : (cxOf (L2N.CX P w) P w K mg base N_M_Ratio_bool "Ratio.__bool__" (defScope s_M_Ratio_bool) fa cdv A outer s H E).calm = true := rfl
  have hN : (cxOf (L2N.CX P w) P w K mg base N_M_Ratio_bool "Ratio.__bool__" (defScope s_M_Ratio_bool) fa cdv A outer s H E).N.Nodup := sc_M_Ratio_bool.nd
  have hu := hr.units
  exact (jss_one (js_ret (j_t1 call_bool1 c1_bool (M.fr "bool" (by decide +kernel)) (by decide +kernel) (JE.toO (j_fld M.fld_num (j_var 0))))))
theorem fo_M_Ratio_bool {fa : Addr} {fd : FuncData} {dvs : List V} (F : FunD K "__bool__" "Ratio.__bool__" (defArgs s_M_Ratio_bool) (defBody s_M_Ratio_bool) (defScope s_M_Ratio_bool) dvs [] fa fd) (M : MF K mg)  : FnOk P w K mg base (L2N.CX P w) 1 fa fd ps_M_Ratio_bool (spJ K 1 F_M_Ratio_bool) := by
  obtain ⟨oc, od, dV, kV, doc, pm, an, cdv, ct, osl, rfl, lk, hcd, _, _⟩ := F.ex
  exact fn_J lk hcd sc_M_Ratio_bool fun A outer s H E hr tk hp => b_M_Ratio_bool M  hr tk hp
theorem bn_M_Ratio_bool {fa : Addr} {fd : FuncData} (F : FunD K "__bool__" "Ratio.__bool__" (defArgs s_M_Ratio_bool) (defBody s_M_Ratio_bool) (defScope s_M_Ratio_bool) [] [] fa fd) : Binds K fd ps_M_Ratio_bool [] := F.bindsN fun _ _ _ _ _ _ us hl => match us, hl with | [_], _ => rfl
theorem sc_M_Ratio_compare : FnScope N_M_Ratio_compare ps_M_Ratio_compare (defScope s_M_Ratio_compare) := ⟨rfl, rfl, rfl, by decide +kernel, rfl, by decide +kernel, by decide +kernel⟩
theorem b_M_Ratio_compare {fa : Addr} {cdv : Value} {A : Around} {outer : List PySem.Env} {s : Shared} {H : Hp} {E : XK} (M : MF K mg)  (hr : Room 0 (A.deeper (envOfC "Ratio.compare" (defScope s_M_Ratio_compare) s.heap.objs.size fa cdv))) (tk : L2N.Takes (cxOf (L2N.CX P w) P w K mg base N_M_Ratio_compare "Ratio.compare" (defScope s_M_Ratio_compare) fa cdv A outer s H E) (fun c d _ H => E c d H)) (hp : PassesOwn (model P w) (cxOf (L2N.CX P w) P w K mg base N_M_Ratio_compare "Ratio.compare" (defScope s_M_Ratio_compare) fa cdv A outer s H E).A (cxOf (L2N.CX P w) P w K mg base N_M_Ratio_compare "Ratio.compare" (defScope s_M_Ratio_compare) fa cdv A outer s H E).env (cxOf (L2N.CX P w) P w K mg base N_M_Ratio_compare "Ratio.compare" (defScope s_M_Ratio_compare) fa cdv A outer s H E).xe) :
    JSs (cxOf (L2N.CX P w) P w K mg base N_M_Ratio_compare "Ratio.compare" (defScope s_M_Ratio_compare) fa cdv A outer s H E) (fun c d _ H => E c d H) (defBody s_M_Ratio_compare) f_M_Ratio_compare := by
  have hc : (cxOf (L2N.CX P w) P w K mg base N_M_Ratio_compare "Ratio.compare" (defScope s_M_Ratio_compare) fa cdv A outer s H E).calm = true := rfl
  have hN : (cxOf (L2N.CX P w) P w K mg base N_M_Ratio_compare "Ratio.compare" (defScope s_M_Ratio_compare) fa cdv A outer s H E).N.Nodup := sc_M_Ratio_compare.nd
  have hu := hr.units
  exact (jss_cons (js_set 2 hN (j_mul (j_fld M.fld_num (j_var 0)) (JE.toO (j_fld M.fld_den (j_var 1))))) (jss_cons (js_set 3 hN (j_mul (j_fld M.fld_num (j_var 1)) (JE.toO (j_fld M.fld_den (j_var 0))))) (jss_cons (js_if (jt_cmp op_lt opS_B0 (j_var 2) (JE.toO (j_var 3)) (nomark _)) (jss_one (js_ret (j_neg j_int))) jss_nil) (jss_cons (js_if (jt_cmp op_gt opS_B0 (j_var 2) (JE.toO (j_var 3)) (nomark _)) (jss_one (js_ret j_int)) jss_nil) (jss_one (js_ret j_int))))))
theorem fo_M_Ratio_compare {fa : Addr} {fd : FuncData} {dvs : List V} (F : FunD K "compare" "Ratio.compare" (defArgs s_M_Ratio_compare) (defBody s_M_Ratio_compare) (defScope s_M_Ratio_compare) dvs [] fa fd) (M : MF K mg)  : FnOk P w K mg base (L2N.CX P w) 1 fa fd ps_M_Ratio_compare (spJ K 2 F_M_Ratio_compare) := by
  obtain ⟨oc, od, dV, kV, doc, pm, an, cdv, ct, osl, rfl, lk, hcd, _, _⟩ := F.ex
  exact fn_J lk hcd sc_M_Ratio_compare fun A outer s H E hr tk hp => b_M_Ratio_compare M  hr tk hp
theorem bn_M_Ratio_compare {fa : Addr} {fd : FuncData} (F : FunD K "compare" "Ratio.compare" (defArgs s_M_Ratio_compare) (defBody s_M_Ratio_compare) (defScope s_M_Ratio_compare) [] [] fa fd) : Binds K fd ps_M_Ratio_compare [] := F.bindsN fun _ _ _ _ _ _ us hl => match us, hl with | [_, _], _ => rfl
theorem sc_M_Ratio_floor : FnScope N_M_Ratio_floor ps_M_Ratio_floor (defScope s_M_Ratio_floor) := ⟨rfl, rfl, rfl, by decide +kernel, rfl, by decide +kernel, by decide +kernel⟩
theorem b_M_Ratio_floor {fa : Addr} {cdv : Value} {A : Around} {outer : List PySem.Env} {s : Shared} {H : Hp} {E : XK} (M : MF K mg)  (hr : Room 0 (A.deeper (envOfC "Ratio.floor" (defScope s_M_Ratio_floor) s.heap.objs.size fa cdv))) (tk : L2N.Takes (cxOf (L2N.CX P w) P w K mg base N_M_Ratio_floor "Ratio.floor" (defScope s_M_Ratio_floor) fa cdv A outer s H E) (fun c d _ H => E c d H)) (hp : PassesOwn (model P w) (cxOf (L2N.CX P w) P w K mg base N_M_Ratio_floor "Ratio.floor" (defScope s_M_Ratio_floor) fa cdv A outer s H E).A (cxOf (L2N.CX P w) P w K mg base N_M_Ratio_floor "Ratio.floor" (defScope s_M_Ratio_floor) fa cdv A outer s H E).env (cxOf (L2N.CX P w) P w K mg base N_M_Ratio_floor "Ratio.floor" (defScope s_M_Ratio_floor) fa cdv A outer s H E).xe) :
    JSs (cxOf (L2N.CX P w) P w K mg base N_M_Ratio_floor "Ratio.floor" (defScope s_M_Ratio_floor) fa cdv A outer s H E) (fun c d _ H => E c d H) (defBody s_M_Ratio_floor) f_M_Ratio_floor := by
  have hc : (cxOf (L2N.CX P w) P w K mg base N_M_Ratio_floor "Ratio.floor" (defScope s_M_Ratio_floor) fa cdv A outer s H E).calm = true := rfl
  have hN : (cxOf (L2N.CX P w) P w K mg base N_M_Ratio_floor "Ratio.floor" (defScope s_M_Ratio_floor) fa cdv A outer s H E).N.Nodup := sc_M_Ratio_floor.nd
  have hu := hr.units
  exact (jss_one (js_ret (j_divP (j_fld M.fld_num (j_var 0)) (JE.toO (j_fld M.fld_den (j_var 0))))))
theorem fo_M_Ratio_floor {fa : Addr} {fd : FuncData} {dvs : List V} (F : FunD K "floor" "Ratio.floor" (defArgs s_M_Ratio_floor) (defBody s_M_Ratio_floor) (defScope s_M_Ratio_floor) dvs [] fa fd) (M : MF K mg)  : FnOk P w K mg base (L2N.CX P w) 1 fa fd ps_M_Ratio_floor (spJ K 1 F_M_Ratio_floor) := by
  obtain ⟨oc, od, dV, kV, doc, pm, an, cdv, ct, osl, rfl, lk, hcd, _, _⟩ := F.ex
  exact fn_J lk hcd sc_M_Ratio_floor fun A outer s H E hr tk hp => b_M_Ratio_floor M  hr tk hp
theorem bn_M_Ratio_floor {fa : Addr} {fd : FuncData} (F : FunD K "floor" "Ratio.floor" (defArgs s_M_Ratio_floor) (defBody s_M_Ratio_floor) (defScope s_M_Ratio_floor) [] [] fa fd) : Binds K fd ps_M_Ratio_floor [] := F.bindsN fun _ _ _ _ _ _ us hl => match us, hl with | [_], _ => rfl
theorem sc_M_Ratio_ceil : FnScope N_M_Ratio_ceil ps_M_Ratio_ceil (defScope s_M_Ratio_ceil) := ⟨rfl, rfl, rfl, by decide +kernel, rfl, by decide +kernel, by decide +kernel⟩
theorem b_M_Ratio_ceil {fa : Addr} {cdv : Value} {A : Around} {outer : List PySem.Env} {s : Shared} {H : Hp} {E : XK} (M : MF K mg)  (hr : Room 0 (A.deeper (envOfC "Ratio.ceil" (defScope s_M_Ratio_ceil) s.heap.objs.size fa cdv))) (tk : L2N.Takes (cxOf (L2N.CX P w) P w K mg base N_M_Ratio_ceil "Ratio.ceil" (defScope s_M_Ratio_ceil) fa cdv A outer s H E) (fun c d _ H => E c d H)) (hp : PassesOwn (model P w) (cxOf (L2N.CX P w) P w K mg base N_M_Ratio_ceil "Ratio.ceil" (defScope s_M_Ratio_ceil) fa cdv A outer s H E).A (cxOf (L2N.CX P w) P w K mg base N_M_Ratio_ceil "Ratio.ceil" (defScope s_M_Ratio_ceil) fa cdv A outer s H E).env (cxOf (L2N.CX P w) P w K mg base N_M_Ratio_ceil "Ratio.ceil" (defScope s_M_Ratio_ceil) fa cdv A outer s H E).xe) :
    JSs (cxOf (L2N.CX P w) P w K mg base N_M_Ratio_ceil "Ratio.ceil" (defScope s_M_Ratio_ceil) fa cdv A outer s H E) (fun c d _ H => E c d H) (defBody s_M_Ratio_ceil) f_M_Ratio_ceil := by
  have hc : (cxOf (L2N.CX P w) P w K mg base N_M_Ratio_ceil "Ratio.ceil" (defScope s_M_Ratio_ceil) fa cdv A outer s H E).calm = true := rfl
  have hN : (cxOf (L2N.CX P w) P w K mg base N_M_Ratio_ceil "Ratio.ceil" (defScope s_M_Ratio_ceil) fa cdv A outer s H E).N.Nodup := sc_M_Ratio_ceil.nd
  have hu := hr.units
  exact (jss_one (js_ret (j_neg (j_divP (j_neg (j_fld M.fld_num (j_var 0))) (JE.toO (j_fld M.fld_den (j_var 0)))))))
theorem fo_M_Ratio_ceil {fa : Addr} {fd : FuncData} {dvs : List V} (F : FunD K "ceil" "Ratio.ceil" (defArgs s_M_Ratio_ceil) (defBody s_M_Ratio_ceil) (defScope s_M_Ratio_ceil) dvs [] fa fd) (M : MF K mg)  : FnOk P w K mg base (L2N.CX P w) 1 fa fd ps_M_Ratio_ceil (spJ K 1 F_M_Ratio_ceil) := by
  obtain ⟨oc, od, dV, kV, doc, pm, an, cdv, ct, osl, rfl, lk, hcd, _, _⟩ := F.ex
  exact fn_J lk hcd sc_M_Ratio_ceil fun A outer s H E hr tk hp => b_M_Ratio_ceil M  hr tk hp
theorem bn_M_Ratio_ceil {fa : Addr} {fd : FuncData} (F : FunD K "ceil" "Ratio.ceil" (defArgs s_M_Ratio_ceil) (defBody s_M_Ratio_ceil) (defScope s_M_Ratio_ceil) [] [] fa fd) : Binds K fd ps_M_Ratio_ceil [] := F.bindsN fun _ _ _ _ _ _ us hl => match us, hl with | [_], _ => rfl
theorem sc_L_number : FnScope N_L_number ps_L_number (defScope s_L_number) := ⟨rfl, rfl, rfl, by decide +kernel, rfl, by decide +kernel, by decide +kernel⟩
theorem b_L_number {fa : Addr} {cdv : Value} {A : Around} {outer : List PySem.Env} {s : Shared} {H : Hp} {E : XK} (M : MF K mg) (h_L_take : FnJ P w K mg base 1 "_law_take" 3 F_L_take) (hr : Room 1 (A.deeper (envOfC "_law_number" (defScope s_L_number) s.heap.objs.size fa cdv))) (tk : L2N.Takes (cxOf (L2N.CX P w) P w K mg base N_L_number "_law_number" (defScope s_L_number) fa cdv A outer s H E) (fun c d _ H => E c d H)) (hp : PassesOwn (model P w) (cxOf (L2N.CX P w) P w K mg base N_L_number "_law_number" (defScope s_L_number) fa cdv A outer s H E).A (cxOf (L2N.CX P w) P w K mg base N_L_number "_law_number" (defScope s_L_number) fa cdv A outer s H E).env (cxOf (L2N.CX P w) P w K mg base N_L_number "_law_number" (defScope s_L_number) fa cdv A outer s H E).xe) :
    JSs (cxOf (L2N.CX P w) P w K mg base N_L_number "_law_number" (defScope s_L_number) fa cdv A outer s H E) (fun c d _ H => E c d H) (defBody s_L_number) f_L_number := by
  have hc : (cxOf (L2N.CX P w) P w K mg base N_L_number "_law_number" (defScope s_L_number) fa cdv A outer s H E).calm = true := rfl
  have hN : (cxOf (L2N.CX P w) P w K mg base N_L_number "_law_number" (defScope s_L_number) fa cdv A outer s H E).N.Nodup := sc_L_number.nd
  have hu := hr.units
  exact (jss_cons (js_set 2 hN (j_call (h_L_take.mono (by decide : 1 ≤ 1)) hr tk (jx_o 0 (jx_v j_int (jx_v (j_var 1) jx_nil))))) (jss_cons (js_set 3 hN j_int) (jss_cons (js_for hp hc (ji_range1 (M.fr "range" (by decide +kernel)) (j_ix (JL.toE (jl_lst (ja_cons j_int (ja_cons j_int (ja_cons j_int (ja_cons j_int (ja_cons j_int (ja_cons j_int (ja_cons j_int (ja_cons j_int (ja_cons j_int (ja_cons j_int (ja_cons j_int (ja_cons j_int ja_nil)))))))))))))) (JE.toO (j_var 2)))) (jg_name 4 hN) (jss_one (js_set 3 hN (j_add (j_mul (j_var 3) (JE.toO j_int)) (JE.toO (j_call (h_L_take.mono (by decide : 1 ≤ 1)) hr tk (jx_o 0 (jx_v j_int (jx_v (j_add (j_var 1) (JE.toO (j_mul j_int (JE.toO (j_var 4))))) jx_nil))))))))) (jss_cons (js_if (jt_cmp (op_eqD hu) opS_eq (j_var 2) (JE.toO j_int) (nomark _)) (jss_one (js_ret (j_sub (j_powP (j_powP j_int (JE.toO j_int)) (JE.toO j_int)) (JE.toO (j_var 3))))) jss_nil) (jss_cons (js_if (jt_cmp (op_eqD hu) opS_eq (j_var 2) (JE.toO j_int) (nomark _)) (jss_one (js_ret (j_add (j_powP (j_powP j_int (JE.toO j_int)) (JE.toO j_int)) (JE.toO (j_var 3))))) jss_nil) (jss_cons (js_if (jt_cmp (op_eqD hu) opS_eq (j_var 2) (JE.toO j_int) (nomark _)) (jss_one (js_ret (j_sub (j_powP (j_powP j_int (JE.toO j_int)) (JE.toO j_int)) (JE.toO (j_var 3))))) jss_nil) (jss_one (js_ret (j_var 3)))))))))
theorem fo_L_number {fa : Addr} {fd : FuncData} {dvs : List V} (F : FunD K "_law_number" "_law_number" (defArgs s_L_number) (defBody s_L_number) (defScope s_L_number) dvs [] fa fd) (M : MF K mg) (h_L_take : FnJ P w K mg base 1 "_law_take" 3 F_L_take) : FnOk P w K mg base (L2N.CX P w) 2 fa fd ps_L_number (spJ K 2 F_L_number) := by
  obtain ⟨oc, od, dV, kV, doc, pm, an, cdv, ct, osl, rfl, lk, hcd, _, _⟩ := F.ex
  exact fn_J lk hcd sc_L_number fun A outer s H E hr tk hp => b_L_number M h_L_take hr tk hp
theorem bn_L_number {fa : Addr} {fd : FuncData} (F : FunD K "_law_number" "_law_number" (defArgs s_L_number) (defBody s_L_number) (defScope s_L_number) [] [] fa fd) : Binds K fd ps_L_number [] := F.bindsN fun _ _ _ _ _ _ us hl => match us, hl with | [_, _], _ => rfl
theorem sc_L_due : FnScope N_L_due ps_L_due (defScope s_L_due) := ⟨rfl, rfl, rfl, by decide +kernel, rfl, by decide +kernel, by decide +kernel⟩
theorem b_L_due {fa : Addr} {cdv : Value} {A : Around} {outer : List PySem.Env} {s : Shared} {H : Hp} {E : XK} (M : MF K mg) (h_L_common : FnJ P w K mg base 1 "_law_common" 2 F_L_common) (hr : Room 1 (A.deeper (envOfC "_law_due" (defScope s_L_due) s.heap.objs.size fa cdv))) (tk : L2N.Takes (cxOf (L2N.CX P w) P w K mg base N_L_due "_law_due" (defScope s_L_due) fa cdv A outer s H E) (fun c d _ H => E c d H)) (hp : PassesOwn (model P w) (cxOf (L2N.CX P w) P w K mg base N_L_due "_law_due" (defScope s_L_due) fa cdv A outer s H E).A (cxOf (L2N.CX P w) P w K mg base N_L_due "_law_due" (defScope s_L_due) fa cdv A outer s H E).env (cxOf (L2N.CX P w) P w K mg base N_L_due "_law_due" (defScope s_L_due) fa cdv A outer s H E).xe) :
    JSs (cxOf (L2N.CX P w) P w K mg base N_L_due "_law_due" (defScope s_L_due) fa cdv A outer s H E) (fun c d _ H => E c d H) (defBody s_L_due) f_L_due := by
  have hc : (cxOf (L2N.CX P w) P w K mg base N_L_due "_law_due" (defScope s_L_due) fa cdv A outer s H E).calm = true := rfl
  have hN : (cxOf (L2N.CX P w) P w K mg base N_L_due "_law_due" (defScope s_L_due) fa cdv A outer s H E).N.Nodup := sc_L_due.nd
  have hu := hr.units
  exact (jss_cons (js_if (jt_cmp (op_eqD hu) opS_eq (j_var 1) (JE.toO j_int) (nomark _)) (jss_one (js_ret (j_tup (ja_cons j_str (ja_cons j_int ja_nil))))) jss_nil) (jss_cons (js_if (jt_cmp op_lt opS_B0 (j_var 1) (JE.toO j_int) (nomark _)) (jss_cons (js_set 0 hN (j_neg (j_var 0))) (jss_one (js_set 1 hN (j_neg (j_var 1))))) jss_nil) (jss_cons (js_set 2 hN (j_call (h_L_common.mono (by decide : 1 ≤ 1)) hr tk (jx_v (j_b1 call_abs c1_abs (M.fr "abs" (by decide +kernel)) (by decide +kernel) (JE.toO (j_var 0))) (jx_v (j_var 1) jx_nil)))) (jss_cons (js_set 3 hN (j_divP (j_var 0) (JE.toO (j_var 2)))) (jss_cons (js_set 4 hN (j_divP (j_var 1) (JE.toO (j_var 2)))) (jss_cons (js_if (jt_cmp op_gt opS_B0 (j_b1 call_abs c1_abs (M.fr "abs" (by decide +kernel)) (by decide +kernel) (JE.toO (j_var 3))) (JE.toO (j_powP (j_powP j_int (JE.toO j_int)) (JE.toO j_int))) (nomark _)) (jss_one (js_ret (j_tup (ja_cons j_str (ja_cons (j_var 3) ja_nil))))) jss_nil) (jss_cons (js_if (jt_cmp op_gt opS_B0 (j_var 4) (JE.toO (j_powP (j_powP j_int (JE.toO j_int)) (JE.toO j_int))) (nomark _)) (jss_one (js_ret (j_tup (ja_cons j_str (ja_cons (j_var 4) ja_nil))))) jss_nil) (jss_one (js_ret (j_tup (ja_cons j_str (ja_cons (j_var 3) (ja_cons (j_var 4) ja_nil)))))))))))))
theorem fo_L_due {fa : Addr} {fd : FuncData} {dvs : List V} (F : FunD K "_law_due" "_law_due" (defArgs s_L_due) (defBody s_L_due) (defScope s_L_due) dvs [] fa fd) (M : MF K mg) (h_L_common : FnJ P w K mg base 1 "_law_common" 2 F_L_common) : FnOk P w K mg base (L2N.CX P w) 2 fa fd ps_L_due (spJ K 2 F_L_due) := by
  obtain ⟨oc, od, dV, kV, doc, pm, an, cdv, ct, osl, rfl, lk, hcd, _, _⟩ := F.ex
  exact fn_J lk hcd sc_L_due fun A outer s H E hr tk hp => b_L_due M h_L_common hr tk hp
theorem bn_L_due {fa : Addr} {fd : FuncData} (F : FunD K "_law_due" "_law_due" (defArgs s_L_due) (defBody s_L_due) (defScope s_L_due) [] [] fa fd) : Binds K fd ps_L_due [] := F.bindsN fun _ _ _ _ _ _ us hl => match us, hl with | [_, _], _ => rfl
theorem sc_L_pair : FnScope N_L_pair ps_L_pair (defScope s_L_pair) := ⟨rfl, rfl, rfl, by decide +kernel, rfl, by decide +kernel, by decide +kernel⟩
theorem b_L_pair {fa : Addr} {cdv : Value} {A : Around} {outer : List PySem.Env} {s : Shared} {H : Hp} {E : XK} (M : MF K mg) (h_L_int : FnJ P w K mg base 1 "_law_int" 1 F_L_int) (hH_L_int : FnHJ P w K mg base 1 "_law_int" 1 F_L_int) (hr : Room 1 (A.deeper (envOfC "_law_pair" (defScope s_L_pair) s.heap.objs.size fa cdv))) (tk : L2N.Takes (cxOf (L2N.CX P w) P w K mg base N_L_pair "_law_pair" (defScope s_L_pair) fa cdv A outer s H E) (fun c d _ H => E c d H)) (hp : PassesOwn (model P w) (cxOf (L2N.CX P w) P w K mg base N_L_pair "_law_pair" (defScope s_L_pair) fa cdv A outer s H E).A (cxOf (L2N.CX P w) P w K mg base N_L_pair "_law_pair" (defScope s_L_pair) fa cdv A outer s H E).env (cxOf (L2N.CX P w) P w K mg base N_L_pair "_law_pair" (defScope s_L_pair) fa cdv A outer s H E).xe) :
    JSs (cxOf (L2N.CX P w) P w K mg base N_L_pair "_law_pair" (defScope s_L_pair) fa cdv A outer s H E) (fun c d _ H => E c d H) (defBody s_L_pair) f_L_pair := by
  have hc : (cxOf (L2N.CX P w) P w K mg base N_L_pair "_law_pair" (defScope s_L_pair) fa cdv A outer s H E).calm = true := rfl
  have hN : (cxOf (L2N.CX P w) P w K mg base N_L_pair "_law_pair" (defScope s_L_pair) fa cdv A outer s H E).N.Nodup := sc_L_pair.nd
  have hu := hr.units
  exact (jss_cons (js_if (jt_not (jt_tru (JE.toO (j_isO M.is_Ratio (M.fr "isinstance" (by decide +kernel)) M.mgc_Ratio (j_var 0))))) (jss_one (js_ret (j_tup (ja_cons j_str ja_nil)))) jss_nil) (jss_cons (js_if (JW.t (jw_or (jt_not (jt_tru (JE.toO (j_call (h_L_int.mono (by decide : 1 ≤ 1)) hr tk (jx_v (j_fld M.fld_num (j_var 0)) jx_nil))))) (jw_or1 (jt_not (jt_tru (JE.toO (j_call (h_L_int.mono (by decide : 1 ≤ 1)) hr tk (jx_v (j_fld M.fld_den (j_var 0)) jx_nil)))))))) (jss_one (js_ret (j_tup (ja_cons j_str ja_nil)))) jss_nil) (jss_one (js_ret (j_tup (ja_cons j_str (ja_cons (j_fld M.fld_num (j_var 0)) (ja_cons (j_fld M.fld_den (j_var 0)) ja_nil))))))))
theorem fo_L_pair {fa : Addr} {fd : FuncData} {dvs : List V} (F : FunD K "_law_pair" "_law_pair" (defArgs s_L_pair) (defBody s_L_pair) (defScope s_L_pair) dvs [] fa fd) (M : MF K mg) (h_L_int : FnJ P w K mg base 1 "_law_int" 1 F_L_int) (hH_L_int : FnHJ P w K mg base 1 "_law_int" 1 F_L_int) : FnOk P w K mg base (L2N.CX P w) 2 fa fd ps_L_pair (spJ K 1 F_L_pair) := by
  obtain ⟨oc, od, dV, kV, doc, pm, an, cdv, ct, osl, rfl, lk, hcd, _, _⟩ := F.ex
  exact fn_J lk hcd sc_L_pair fun A outer s H E hr tk hp => b_L_pair M h_L_int hH_L_int hr tk hp
theorem bn_L_pair {fa : Addr} {fd : FuncData} (F : FunD K "_law_pair" "_law_pair" (defArgs s_L_pair) (defBody s_L_pair) (defScope s_L_pair) [] [] fa fd) : Binds K fd ps_L_pair [] := F.bindsN fun _ _ _ _ _ _ us hl => match us, hl with | [_], _ => rfl
theorem sc_L_rounded : FnScope N_L_rounded ps_L_rounded (defScope s_L_rounded) := ⟨rfl, rfl, rfl, by decide +kernel, rfl, by decide +kernel, by decide +kernel⟩
theorem b_L_rounded {fa : Addr} {cdv : Value} {A : Around} {outer : List PySem.Env} {s : Shared} {H : Hp} {E : XK} (M : MF K mg) (h_mt_Ratio_floor_0 : MtJ P w K mg base 1 "floor" 1 [] "Ratio" F_M_Ratio_floor) (h_mt_Ratio_ceil_0 : MtJ P w K mg base 1 "ceil" 1 [] "Ratio" F_M_Ratio_ceil) (h_L_int : FnJ P w K mg base 1 "_law_int" 1 F_L_int) (hH_L_int : FnHJ P w K mg base 1 "_law_int" 1 F_L_int) (hr : Room 1 (A.deeper (envOfC "_law_rounded" (defScope s_L_rounded) s.heap.objs.size fa cdv))) (tk : L2N.Takes (cxOf (L2N.CX P w) P w K mg base N_L_rounded "_law_rounded" (defScope s_L_rounded) fa cdv A outer s H E) (fun c d _ H => E c d H)) (hp : PassesOwn (model P w) (cxOf (L2N.CX P w) P w K mg base N_L_rounded "_law_rounded" (defScope s_L_rounded) fa cdv A outer s H E).A (cxOf (L2N.CX P w) P w K mg base N_L_rounded "_law_rounded" (defScope s_L_rounded) fa cdv A outer s H E).env (cxOf (L2N.CX P w) P w K mg base N_L_rounded "_law_rounded" (defScope s_L_rounded) fa cdv A outer s H E).xe) :
    JSs (cxOf (L2N.CX P w) P w K mg base N_L_rounded "_law_rounded" (defScope s_L_rounded) fa cdv A outer s H E) (fun c d _ H => E c d H) (defBody s_L_rounded) f_L_rounded := by
  have hc : (cxOf (L2N.CX P w) P w K mg base N_L_rounded "_law_rounded" (defScope s_L_rounded) fa cdv A outer s H E).calm = true := rfl
  have hN : (cxOf (L2N.CX P w) P w K mg base N_L_rounded "_law_rounded" (defScope s_L_rounded) fa cdv A outer s H E).N.Nodup := sc_L_rounded.nd
  have hu := hr.units
  exact (jss_cons (js_set 2 hN (j_meth0 (T_mt_floor_ok h_mt_Ratio_floor_0 (by decide)) (c0 := "Ratio") rfl hr tk (j_var 0))) (jss_cons (js_set 3 hN (j_meth0 (T_mt_ceil_ok h_mt_Ratio_ceil_0 (by decide)) (c0 := "Ratio") rfl hr tk (j_var 0))) (jss_cons (js_if (JW.t (jw_or (jt_not (jt_tru (JE.toO (j_call (h_L_int.mono (by decide : 1 ≤ 1)) hr tk (jx_v (j_var 2) jx_nil))))) (jw_or1 (jt_not (jt_tru (JE.toO (j_call (h_L_int.mono (by decide : 1 ≤ 1)) hr tk (jx_v (j_var 3) jx_nil)))))))) (jss_one (js_ret j_bl)) jss_nil) (jss_cons (js_if (jt_not (jt_chain op_le op_lt opS_B0 opS_B0 (j_mul (j_var 2) (JE.toO (j_ix (j_var 1) (JE.toO j_int)))) (j_ix (j_var 1) (JE.toO j_int)) (JE.toO (j_mul (j_add (j_var 2) (JE.toO j_int)) (JE.toO (j_ix (j_var 1) (JE.toO j_int))))))) (jss_one (js_ret j_bl)) jss_nil) (jss_one (js_ret (j_chain op_lt op_le opS_B0 opS_B0 (j_mul (j_sub (j_var 3) (JE.toO j_int)) (JE.toO (j_ix (j_var 1) (JE.toO j_int)))) (j_ix (j_var 1) (JE.toO j_int)) (JE.toO (j_mul (j_var 3) (JE.toO (j_ix (j_var 1) (JE.toO j_int))))))))))))
theorem fo_L_rounded {fa : Addr} {fd : FuncData} {dvs : List V} (F : FunD K "_law_rounded" "_law_rounded" (defArgs s_L_rounded) (defBody s_L_rounded) (defScope s_L_rounded) dvs [] fa fd) (M : MF K mg) (h_mt_Ratio_floor_0 : MtJ P w K mg base 1 "floor" 1 [] "Ratio" F_M_Ratio_floor) (h_mt_Ratio_ceil_0 : MtJ P w K mg base 1 "ceil" 1 [] "Ratio" F_M_Ratio_ceil) (h_L_int : FnJ P w K mg base 1 "_law_int" 1 F_L_int) (hH_L_int : FnHJ P w K mg base 1 "_law_int" 1 F_L_int) : FnOk P w K mg base (L2N.CX P w) 2 fa fd ps_L_rounded (spJ K 2 F_L_rounded) := by
  obtain ⟨oc, od, dV, kV, doc, pm, an, cdv, ct, osl, rfl, lk, hcd, _, _⟩ := F.ex
  exact fn_J lk hcd sc_L_rounded fun A outer s H E hr tk hp => b_L_rounded M h_mt_Ratio_floor_0 h_mt_Ratio_ceil_0 h_L_int hH_L_int hr tk hp
theorem bn_L_rounded {fa : Addr} {fd : FuncData} (F : FunD K "_law_rounded" "_law_rounded" (defArgs s_L_rounded) (defBody s_L_rounded) (defScope s_L_rounded) [] [] fa fd) : Binds K fd ps_L_rounded [] := F.bindsN fun _ _ _ _ _ _ us hl => match us, hl with | [_, _], _ => rfl
theorem sc_look_number : FnScope N_look_number ps_look_number (defScope s_look_number) := ⟨rfl, rfl, rfl, by decide +kernel, rfl, by decide +kernel, by decide +kernel⟩
theorem b_look_number {fa : Addr} {cdv : Value} {A : Around} {outer : List PySem.Env} {s : Shared} {H : Hp} {E : XK} (M : MF K mg) (e_NumberError : ExcJ P w K mg base 1 "NumberError" 1 Fx_NumberError) (hr : Room 2 (A.deeper (envOfC "look_number" (defScope s_look_number) s.heap.objs.size fa cdv))) (tk : L2N.Takes (cxOf (L2N.CX P w) P w K mg base N_look_number "look_number" (defScope s_look_number) fa cdv A outer s H E) (fun c d _ H => E c d H)) (hp : PassesOwn (model P w) (cxOf (L2N.CX P w) P w K mg base N_look_number "look_number" (defScope s_look_number) fa cdv A outer s H E).A (cxOf (L2N.CX P w) P w K mg base N_look_number "look_number" (defScope s_look_number) fa cdv A outer s H E).env (cxOf (L2N.CX P w) P w K mg base N_look_number "look_number" (defScope s_look_number) fa cdv A outer s H E).xe) :
    JSs (cxOf (L2N.CX P w) P w K mg base N_look_number "look_number" (defScope s_look_number) fa cdv A outer s H E) (fun c d _ H => E c d H) (defBody s_look_number) f_look_number := by
  have hc : (cxOf (L2N.CX P w) P w K mg base N_look_number "look_number" (defScope s_look_number) fa cdv A outer s H E).calm = true := rfl
  have hN : (cxOf (L2N.CX P w) P w K mg base N_look_number "look_number" (defScope s_look_number) fa cdv A outer s H E).N.Nodup := sc_look_number.nd
  have hu := hr.units
  exact (jss_cons (js_if (JW.t (jw_or (jt_cmp op_lt opS_B0 (j_var 0) (JE.toO (j_var 1)) (nomark _)) (jw_or1 (jt_cmp op_gt opS_B0 (j_var 0) (JE.toO (j_var 2)) (nomark _))))) (jss_one (js_raise hc tk e_NumberError (hr.mono (by decide)) (ja_cons (j_var 0) ja_nil))) jss_nil) (jss_one (js_ret (j_var 0))))
theorem fo_look_number {fa : Addr} {fd : FuncData} {dvs : List V} (F : FunD K "look_number" "look_number" (defArgs s_look_number) (defBody s_look_number) (defScope s_look_number) dvs [] fa fd) (M : MF K mg) (e_NumberError : ExcJ P w K mg base 1 "NumberError" 1 Fx_NumberError) : FnOk P w K mg base (L2N.CX P w) 3 fa fd ps_look_number (spJ K 3 F_look_number) := by
  obtain ⟨oc, od, dV, kV, doc, pm, an, cdv, ct, osl, rfl, lk, hcd, _, _⟩ := F.ex
  exact fn_J lk hcd sc_look_number fun A outer s H E hr tk hp => b_look_number M e_NumberError hr tk hp
theorem bn_look_number {fa : Addr} {fd : FuncData} (F : FunD K "look_number" "look_number" (defArgs s_look_number) (defBody s_look_number) (defScope s_look_number) [] [] fa fd) : Binds K fd ps_look_number [] := F.bindsN fun _ _ _ _ _ _ us hl => match us, hl with | [_, _, _], _ => rfl
theorem sc_look_size : FnScope N_look_size ps_look_size (defScope s_look_size) := ⟨rfl, rfl, rfl, by decide +kernel, rfl, by decide +kernel, by decide +kernel⟩
theorem b_look_size {fa : Addr} {cdv : Value} {A : Around} {outer : List PySem.Env} {s : Shared} {H : Hp} {E : XK} (M : MF K mg) (e_SizeError : ExcJ P w K mg base 1 "SizeError" 1 Fx_SizeError) (hr : Room 2 (A.deeper (envOfC "look_size" (defScope s_look_size) s.heap.objs.size fa cdv))) (tk : L2N.Takes (cxOf (L2N.CX P w) P w K mg base N_look_size "look_size" (defScope s_look_size) fa cdv A outer s H E) (fun c d _ H => E c d H)) (hp : PassesOwn (model P w) (cxOf (L2N.CX P w) P w K mg base N_look_size "look_size" (defScope s_look_size) fa cdv A outer s H E).A (cxOf (L2N.CX P w) P w K mg base N_look_size "look_size" (defScope s_look_size) fa cdv A outer s H E).env (cxOf (L2N.CX P w) P w K mg base N_look_size "look_size" (defScope s_look_size) fa cdv A outer s H E).xe) :
    JSs (cxOf (L2N.CX P w) P w K mg base N_look_size "look_size" (defScope s_look_size) fa cdv A outer s H E) (fun c d _ H => E c d H) (defBody s_look_size) f_look_size := by
  have hc : (cxOf (L2N.CX P w) P w K mg base N_look_size "look_size" (defScope s_look_size) fa cdv A outer s H E).calm = true := rfl
  have hN : (cxOf (L2N.CX P w) P w K mg base N_look_size "look_size" (defScope s_look_size) fa cdv A outer s H E).N.Nodup := sc_look_size.nd
  have hu := hr.units
  exact (jss_cons (js_set 3 hN (j_b1 call_len c1_len (M.fr "len" (by decide +kernel)) (by decide +kernel) (JE.toO (j_var 0)))) (jss_cons (js_if (JW.t (jw_or (jt_cmp op_lt opS_B0 (j_var 3) (JE.toO (j_var 1)) (nomark _)) (jw_or1 (jt_cmp op_gt opS_B0 (j_var 3) (JE.toO (j_var 2)) (nomark _))))) (jss_one (js_raise hc tk e_SizeError (hr.mono (by decide)) (ja_cons (j_var 3) ja_nil))) jss_nil) (jss_one (js_ret (j_var 0)))))
theorem fo_look_size {fa : Addr} {fd : FuncData} {dvs : List V} (F : FunD K "look_size" "look_size" (defArgs s_look_size) (defBody s_look_size) (defScope s_look_size) dvs [] fa fd) (M : MF K mg) (e_SizeError : ExcJ P w K mg base 1 "SizeError" 1 Fx_SizeError) : FnOk P w K mg base (L2N.CX P w) 3 fa fd ps_look_size (spJ K 3 F_look_size) := by
  obtain ⟨oc, od, dV, kV, doc, pm, an, cdv, ct, osl, rfl, lk, hcd, _, _⟩ := F.ex
  exact fn_J lk hcd sc_look_size fun A outer s H E hr tk hp => b_look_size M e_SizeError hr tk hp
theorem bn_look_size {fa : Addr} {fd : FuncData} (F : FunD K "look_size" "look_size" (defArgs s_look_size) (defBody s_look_size) (defScope s_look_size) [] [] fa fd) : Binds K fd ps_look_size [] := F.bindsN fun _ _ _ _ _ _ us hl => match us, hl with | [_, _, _], _ => rfl
theorem sc_L_signed : FnScope N_L_signed ps_L_signed (defScope s_L_signed) := ⟨rfl, rfl, rfl, by decide +kernel, rfl, by decide +kernel, by decide +kernel⟩
theorem b_L_signed {fa : Addr} {cdv : Value} {A : Around} {outer : List PySem.Env} {s : Shared} {H : Hp} {E : XK} (M : MF K mg) (h_L_take : FnJ P w K mg base 1 "_law_take" 3 F_L_take) (h_L_number : FnJ P w K mg base 2 "_law_number" 2 F_L_number) (hr : Room 2 (A.deeper (envOfC "_law_signed" (defScope s_L_signed) s.heap.objs.size fa cdv))) (tk : L2N.Takes (cxOf (L2N.CX P w) P w K mg base N_L_signed "_law_signed" (defScope s_L_signed) fa cdv A outer s H E) (fun c d _ H => E c d H)) (hp : PassesOwn (model P w) (cxOf (L2N.CX P w) P w K mg base N_L_signed "_law_signed" (defScope s_L_signed) fa cdv A outer s H E).A (cxOf (L2N.CX P w) P w K mg base N_L_signed "_law_signed" (defScope s_L_signed) fa cdv A outer s H E).env (cxOf (L2N.CX P w) P w K mg base N_L_signed "_law_signed" (defScope s_L_signed) fa cdv A outer s H E).xe) :
    JSs (cxOf (L2N.CX P w) P w K mg base N_L_signed "_law_signed" (defScope s_L_signed) fa cdv A outer s H E) (fun c d _ H => E c d H) (defBody s_L_signed) f_L_signed := by
  have hc : (cxOf (L2N.CX P w) P w K mg base N_L_signed "_law_signed" (defScope s_L_signed) fa cdv A outer s H E).calm = true := rfl
  have hN : (cxOf (L2N.CX P w) P w K mg base N_L_signed "_law_signed" (defScope s_L_signed) fa cdv A outer s H E).N.Nodup := sc_L_signed.nd
  have hu := hr.units
  exact (jss_cons (js_set 2 hN (j_ix (JL.toE (jl_lst (ja_cons j_int (ja_cons (j_neg j_int) ja_nil)))) (JE.toO (j_call (h_L_take.mono (by decide : 1 ≤ 2)) hr tk (jx_o 0 (jx_v j_int (jx_v (j_var 1) jx_nil))))))) (jss_one (js_ret (j_mul (j_var 2) (JE.toO (j_call (h_L_number.mono (by decide : 2 ≤ 2)) hr tk (jx_o 0 (jx_v (j_var 1) jx_nil))))))))
theorem fo_L_signed {fa : Addr} {fd : FuncData} {dvs : List V} (F : FunD K "_law_signed" "_law_signed" (defArgs s_L_signed) (defBody s_L_signed) (defScope s_L_signed) dvs [] fa fd) (M : MF K mg) (h_L_take : FnJ P w K mg base 1 "_law_take" 3 F_L_take) (h_L_number : FnJ P w K mg base 2 "_law_number" 2 F_L_number) : FnOk P w K mg base (L2N.CX P w) 3 fa fd ps_L_signed (spJ K 2 F_L_signed) := by
  obtain ⟨oc, od, dV, kV, doc, pm, an, cdv, ct, osl, rfl, lk, hcd, _, _⟩ := F.ex
  exact fn_J lk hcd sc_L_signed fun A outer s H E hr tk hp => b_L_signed M h_L_take h_L_number hr tk hp
theorem bn_L_signed {fa : Addr} {fd : FuncData} (F : FunD K "_law_signed" "_law_signed" (defArgs s_L_signed) (defBody s_L_signed) (defScope s_L_signed) [] [] fa fd) : Binds K fd ps_L_signed [] := F.bindsN fun _ _ _ _ _ _ us hl => match us, hl with | [_, _], _ => rfl
theorem sc_L_result : FnScope N_L_result ps_L_result (defScope s_L_result) := ⟨rfl, rfl, rfl, by decide +kernel, rfl, by decide +kernel, by decide +kernel⟩
theorem b_L_result {fa : Addr} {cdv : Value} {A : Around} {outer : List PySem.Env} {s : Shared} {H : Hp} {E : XK} (M : MF K mg) (h_L_due : FnJ P w K mg base 2 "_law_due" 2 F_L_due) (hr : Room 2 (A.deeper (envOfC "_law_result" (defScope s_L_result) s.heap.objs.size fa cdv))) (tk : L2N.Takes (cxOf (L2N.CX P w) P w K mg base N_L_result "_law_result" (defScope s_L_result) fa cdv A outer s H E) (fun c d _ H => E c d H)) (hp : PassesOwn (model P w) (cxOf (L2N.CX P w) P w K mg base N_L_result "_law_result" (defScope s_L_result) fa cdv A outer s H E).A (cxOf (L2N.CX P w) P w K mg base N_L_result "_law_result" (defScope s_L_result) fa cdv A outer s H E).env (cxOf (L2N.CX P w) P w K mg base N_L_result "_law_result" (defScope s_L_result) fa cdv A outer s H E).xe) :
    JSs (cxOf (L2N.CX P w) P w K mg base N_L_result "_law_result" (defScope s_L_result) fa cdv A outer s H E) (fun c d _ H => E c d H) (defBody s_L_result) f_L_result := by
  have hc : (cxOf (L2N.CX P w) P w K mg base N_L_result "_law_result" (defScope s_L_result) fa cdv A outer s H E).calm = true := rfl
  have hN : (cxOf (L2N.CX P w) P w K mg base N_L_result "_law_result" (defScope s_L_result) fa cdv A outer s H E).N.Nodup := sc_L_result.nd
  have hu := hr.units
  exact (jss_cons (js_asg (j_var 1) (jg_tup hc (jgs_cons (jg_name 3 hN) (jgs_cons (jg_name 4 hN) jgs_nil)) (gs_lenS (gs_lenS gs_len0)))) (jss_cons (js_asg (j_var 2) (jg_tup hc (jgs_cons (jg_name 5 hN) (jgs_cons (jg_name 6 hN) jgs_nil)) (gs_lenS (gs_lenS gs_len0)))) (jss_cons (js_if (jt_cmp (op_eqD hu) opS_eq (j_var 0) (JE.toO j_str) (nomark _)) (jss_one (js_ret (j_call (h_L_due.mono (by decide : 2 ≤ 2)) hr tk (jx_v (j_add (j_mul (j_var 3) (JE.toO (j_var 6))) (JE.toO (j_mul (j_var 5) (JE.toO (j_var 4))))) (jx_v (j_mul (j_var 4) (JE.toO (j_var 6))) jx_nil))))) jss_nil) (jss_cons (js_if (jt_cmp (op_eqD hu) opS_eq (j_var 0) (JE.toO j_str) (nomark _)) (jss_one (js_ret (j_call (h_L_due.mono (by decide : 2 ≤ 2)) hr tk (jx_v (j_sub (j_mul (j_var 3) (JE.toO (j_var 6))) (JE.toO (j_mul (j_var 5) (JE.toO (j_var 4))))) (jx_v (j_mul (j_var 4) (JE.toO (j_var 6))) jx_nil))))) jss_nil) (jss_cons (js_if (jt_cmp (op_eqD hu) opS_eq (j_var 0) (JE.toO j_str) (nomark _)) (jss_one (js_ret (j_call (h_L_due.mono (by decide : 2 ≤ 2)) hr tk (jx_v (j_mul (j_var 3) (JE.toO (j_var 5))) (jx_v (j_mul (j_var 4) (JE.toO (j_var 6))) jx_nil))))) jss_nil) (jss_one (js_ret (j_call (h_L_due.mono (by decide : 2 ≤ 2)) hr tk (jx_v (j_mul (j_var 3) (JE.toO (j_var 6))) (jx_v (j_mul (j_var 4) (JE.toO (j_var 5))) jx_nil))))))))))
theorem fo_L_result {fa : Addr} {fd : FuncData} {dvs : List V} (F : FunD K "_law_result" "_law_result" (defArgs s_L_result) (defBody s_L_result) (defScope s_L_result) dvs [] fa fd) (M : MF K mg) (h_L_due : FnJ P w K mg base 2 "_law_due" 2 F_L_due) : FnOk P w K mg base (L2N.CX P w) 3 fa fd ps_L_result (spJ K 3 F_L_result) := by
  obtain ⟨oc, od, dV, kV, doc, pm, an, cdv, ct, osl, rfl, lk, hcd, _, _⟩ := F.ex
  exact fn_J lk hcd sc_L_result fun A outer s H E hr tk hp => b_L_result M h_L_due hr tk hp
theorem bn_L_result {fa : Addr} {fd : FuncData} (F : FunD K "_law_result" "_law_result" (defArgs s_L_result) (defBody s_L_result) (defScope s_L_result) [] [] fa fd) : Binds K fd ps_L_result [] := F.bindsN fun _ _ _ _ _ _ us hl => match us, hl with | [_, _, _], _ => rfl
theorem sc_P_ratio_parts : FnScope N_P_ratio_parts ps_P_ratio_parts (defScope s_P_ratio_parts) := ⟨rfl, rfl, rfl, by decide +kernel, rfl, by decide +kernel, by decide +kernel⟩
theorem b_P_ratio_parts {fa : Addr} {cdv : Value} {A : Around} {outer : List PySem.Env} {s : Shared} {H : Hp} {E : XK} (M : MF K mg) (h_look_number : FnJ P w K mg base 3 "look_number" 3 F_look_number) (hr : Room 3 (A.deeper (envOfC "_ratio_parts" (defScope s_P_ratio_parts) s.heap.objs.size fa cdv))) (tk : L2N.Takes (cxOf (L2N.CX P w) P w K mg base N_P_ratio_parts "_ratio_parts" (defScope s_P_ratio_parts) fa cdv A outer s H E) (fun c d _ H => E c d H)) (hp : PassesOwn (model P w) (cxOf (L2N.CX P w) P w K mg base N_P_ratio_parts "_ratio_parts" (defScope s_P_ratio_parts) fa cdv A outer s H E).A (cxOf (L2N.CX P w) P w K mg base N_P_ratio_parts "_ratio_parts" (defScope s_P_ratio_parts) fa cdv A outer s H E).env (cxOf (L2N.CX P w) P w K mg base N_P_ratio_parts "_ratio_parts" (defScope s_P_ratio_parts) fa cdv A outer s H E).xe) :
    JSs (cxOf (L2N.CX P w) P w K mg base N_P_ratio_parts "_ratio_parts" (defScope s_P_ratio_parts) fa cdv A outer s H E) (fun c d _ H => E c d H) (defBody s_P_ratio_parts) f_P_ratio_parts := by
  have hc : (cxOf (L2N.CX P w) P w K mg base N_P_ratio_parts "_ratio_parts" (defScope s_P_ratio_parts) fa cdv A outer s H E).calm = true := rfl
  have hN : (cxOf (L2N.CX P w) P w K mg base N_P_ratio_parts "_ratio_parts" (defScope s_P_ratio_parts) fa cdv A outer s H E).N.Nodup := sc_P_ratio_parts.nd
  have hu := hr.units
  exact (jss_cons (js_if (jt_tru (JE.toO (j_isO M.is_Ratio (M.fr "isinstance" (by decide +kernel)) M.mgc_Ratio (j_var 0)))) (jss_one (js_ret (j_tup (ja_cons (j_fld M.fld_num (j_var 0)) (ja_cons (j_fld M.fld_den (j_var 0)) ja_nil))))) jss_nil) (jss_one (js_ret (j_tup (ja_cons (j_call (h_look_number.mono (by decide : 3 ≤ 3)) hr tk (jx_v (j_var 0) (jx_v (j_neg (j_gint M.i_MOST)) (jx_v (j_gint M.i_MOST) jx_nil)))) (ja_cons j_int ja_nil))))))
theorem fo_P_ratio_parts {fa : Addr} {fd : FuncData} {dvs : List V} (F : FunD K "_ratio_parts" "_ratio_parts" (defArgs s_P_ratio_parts) (defBody s_P_ratio_parts) (defScope s_P_ratio_parts) dvs [] fa fd) (M : MF K mg) (h_look_number : FnJ P w K mg base 3 "look_number" 3 F_look_number) : FnOk P w K mg base (L2N.CX P w) 4 fa fd ps_P_ratio_parts (spJ K 1 F_P_ratio_parts) := by
  obtain ⟨oc, od, dV, kV, doc, pm, an, cdv, ct, osl, rfl, lk, hcd, _, _⟩ := F.ex
  exact fn_J lk hcd sc_P_ratio_parts fun A outer s H E hr tk hp => b_P_ratio_parts M h_look_number hr tk hp
theorem bn_P_ratio_parts {fa : Addr} {fd : FuncData} (F : FunD K "_ratio_parts" "_ratio_parts" (defArgs s_P_ratio_parts) (defBody s_P_ratio_parts) (defScope s_P_ratio_parts) [] [] fa fd) : Binds K fd ps_P_ratio_parts [] := F.bindsN fun _ _ _ _ _ _ us hl => match us, hl with | [_], _ => rfl
theorem sc_M_Ratio_init : FnScope N_M_Ratio_init ps_M_Ratio_init (defScope s_M_Ratio_init) := ⟨rfl, rfl, rfl, by decide +kernel, rfl, by decide +kernel, by decide +kernel⟩
theorem b_M_Ratio_init {fa : Addr} {cdv : Value} {A : Around} {outer : List PySem.Env} {s : Shared} {H : Hp} {E : XK} (M : MF K mg) (h_look_number : FnJ P w K mg base 3 "look_number" 3 F_look_number) (hr : Room 3 (A.deeper (envOfC "Ratio.__init__" (defScope s_M_Ratio_init) s.heap.objs.size fa cdv))) (tk : L2N.Takes (cxOf (L2N.CX P w) P w K mg base N_M_Ratio_init "Ratio.__init__" (defScope s_M_Ratio_init) fa cdv A outer s H E) (fun c d _ H => E c d H)) (hp : PassesOwn (model P w) (cxOf (L2N.CX P w) P w K mg base N_M_Ratio_init "Ratio.__init__" (defScope s_M_Ratio_init) fa cdv A outer s H E).A (cxOf (L2N.CX P w) P w K mg base N_M_Ratio_init "Ratio.__init__" (defScope s_M_Ratio_init) fa cdv A outer s H E).env (cxOf (L2N.CX P w) P w K mg base N_M_Ratio_init "Ratio.__init__" (defScope s_M_Ratio_init) fa cdv A outer s H E).xe) :
    JSs (cxOf (L2N.CX P w) P w K mg base N_M_Ratio_init "Ratio.__init__" (defScope s_M_Ratio_init) fa cdv A outer s H E) (fun c d _ H => E c d H) (defBody s_M_Ratio_init) f_M_Ratio_init := by
  have hc : (cxOf (L2N.CX P w) P w K mg base N_M_Ratio_init "Ratio.__init__" (defScope s_M_Ratio_init) fa cdv A outer s H E).calm = true := rfl
  have hN : (cxOf (L2N.CX P w) P w K mg base N_M_Ratio_init "Ratio.__init__" (defScope s_M_Ratio_init) fa cdv A outer s H E).N.Nodup := sc_M_Ratio_init.nd
  have hu := hr.units
  exact (jss_cons (js_expr (j_call (h_look_number.mono (by decide : 3 ≤ 3)) hr tk (jx_v (j_var 1) (jx_v (j_neg (j_gint M.i_MOST)) (jx_v (j_gint M.i_MOST) jx_nil))))) (jss_cons (js_expr (j_call (h_look_number.mono (by decide : 3 ≤ 3)) hr tk (jx_v (j_var 2) (jx_v j_int (jx_v (j_gint M.i_MOST) jx_nil))))) (jss_cons (js_set 3 hN (j_gcd M.b_gcd (j_var 1) (j_var 2))) (jss_cons (js_put 0 M.fld_num (j_divP (j_var 1) (JE.toO (j_var 3)))) (jss_one (js_put 0 M.fld_den (j_divP (j_var 2) (JE.toO (j_var 3)))))))))
theorem fo_M_Ratio_init {fa : Addr} {fd : FuncData} {dvs : List V} (F : FunD K "__init__" "Ratio.__init__" (defArgs s_M_Ratio_init) (defBody s_M_Ratio_init) (defScope s_M_Ratio_init) dvs [] fa fd) (M : MF K mg) (h_look_number : FnJ P w K mg base 3 "look_number" 3 F_look_number) : FnOk P w K mg base (L2N.CX P w) 4 fa fd ps_M_Ratio_init (spJ K 3 F_M_Ratio_init) := by
  obtain ⟨oc, od, dV, kV, doc, pm, an, cdv, ct, osl, rfl, lk, hcd, _, _⟩ := F.ex
  exact fn_J lk hcd sc_M_Ratio_init fun A outer s H E hr tk hp => b_M_Ratio_init M h_look_number hr tk hp
theorem bn_M_Ratio_init_0 {fa : Addr} {fd : FuncData} (F : FunD K "__init__" "Ratio.__init__" (defArgs s_M_Ratio_init) (defBody s_M_Ratio_init) (defScope s_M_Ratio_init) [.int 1] [] fa fd) : ∃ ds, Vals (([.int 1] : List V).drop 1) ds ∧ Binds K fd ps_M_Ratio_init ds := F.binds1 3 1 (by simp) (by decide) fun _ _ _ _ _ _ _ us its h1 h2 => match us, its, h1, h2 with | [_, _, _], [_], _, _ => ⟨_, rfl, rfl⟩
theorem bn_M_Ratio_init_1 {fa : Addr} {fd : FuncData} (F : FunD K "__init__" "Ratio.__init__" (defArgs s_M_Ratio_init) (defBody s_M_Ratio_init) (defScope s_M_Ratio_init) [.int 1] [] fa fd) : ∃ ds, Vals (([.int 1] : List V).drop 0) ds ∧ Binds K fd ps_M_Ratio_init ds := F.binds1 2 0 (by simp) (by decide) fun _ _ _ _ _ _ _ us its h1 h2 => match us, its, h1, h2 with | [_, _], [_], _, _ => ⟨_, rfl, rfl⟩
theorem sc_P_ratio_lowest : FnScope N_P_ratio_lowest ps_P_ratio_lowest (defScope s_P_ratio_lowest) := ⟨rfl, rfl, rfl, by decide +kernel, rfl, by decide +kernel, by decide +kernel⟩
theorem b_P_ratio_lowest {fa : Addr} {cdv : Value} {A : Around} {outer : List PySem.Env} {s : Shared} {H : Hp} {E : XK} (M : MF K mg) (h_mk_Ratio_0 : MkJ P w K mg base 4 "Ratio" 3 [] F_M_Ratio_init) (hr : Room 5 (A.deeper (envOfC "_ratio_lowest" (defScope s_P_ratio_lowest) s.heap.objs.size fa cdv))) (tk : L2N.Takes (cxOf (L2N.CX P w) P w K mg base N_P_ratio_lowest "_ratio_lowest" (defScope s_P_ratio_lowest) fa cdv A outer s H E) (fun c d _ H => E c d H)) (hp : PassesOwn (model P w) (cxOf (L2N.CX P w) P w K mg base N_P_ratio_lowest "_ratio_lowest" (defScope s_P_ratio_lowest) fa cdv A outer s H E).A (cxOf (L2N.CX P w) P w K mg base N_P_ratio_lowest "_ratio_lowest" (defScope s_P_ratio_lowest) fa cdv A outer s H E).env (cxOf (L2N.CX P w) P w K mg base N_P_ratio_lowest "_ratio_lowest" (defScope s_P_ratio_lowest) fa cdv A outer s H E).xe) :
    JSs (cxOf (L2N.CX P w) P w K mg base N_P_ratio_lowest "_ratio_lowest" (defScope s_P_ratio_lowest) fa cdv A outer s H E) (fun c d _ H => E c d H) (defBody s_P_ratio_lowest) f_P_ratio_lowest := by
  have hc : (cxOf (L2N.CX P w) P w K mg base N_P_ratio_lowest "_ratio_lowest" (defScope s_P_ratio_lowest) fa cdv A outer s H E).calm = true := rfl
  have hN : (cxOf (L2N.CX P w) P w K mg base N_P_ratio_lowest "_ratio_lowest" (defScope s_P_ratio_lowest) fa cdv A outer s H E).N.Nodup := sc_P_ratio_lowest.nd
  have hu := hr.units
  exact (jss_cons (js_set 2 hN (j_gcd M.b_gcd (j_var 0) (j_var 1))) (jss_one (js_ret (j_make (h_mk_Ratio_0.mono (by decide : 4 ≤ 4)) hr tk (jx_v (j_divP (j_var 0) (JE.toO (j_var 2))) (jx_v (j_divP (j_var 1) (JE.toO (j_var 2))) jx_nil))))))
theorem fo_P_ratio_lowest {fa : Addr} {fd : FuncData} {dvs : List V} (F : FunD K "_ratio_lowest" "_ratio_lowest" (defArgs s_P_ratio_lowest) (defBody s_P_ratio_lowest) (defScope s_P_ratio_lowest) dvs [] fa fd) (M : MF K mg) (h_mk_Ratio_0 : MkJ P w K mg base 4 "Ratio" 3 [] F_M_Ratio_init) : FnOk P w K mg base (L2N.CX P w) 6 fa fd ps_P_ratio_lowest (spJ K 2 F_P_ratio_lowest) := by
  obtain ⟨oc, od, dV, kV, doc, pm, an, cdv, ct, osl, rfl, lk, hcd, _, _⟩ := F.ex
  exact fn_J lk hcd sc_P_ratio_lowest fun A outer s H E hr tk hp => b_P_ratio_lowest M h_mk_Ratio_0 hr tk hp
theorem bn_P_ratio_lowest {fa : Addr} {fd : FuncData} (F : FunD K "_ratio_lowest" "_ratio_lowest" (defArgs s_P_ratio_lowest) (defBody s_P_ratio_lowest) (defScope s_P_ratio_lowest) [] [] fa fd) : Binds K fd ps_P_ratio_lowest [] := F.bindsN fun _ _ _ _ _ _ us hl => match us, hl with | [_, _], _ => rfl
theorem sc_M_Ratio_neg : FnScope N_M_Ratio_neg ps_M_Ratio_neg (defScope s_M_Ratio_neg) := ⟨rfl, rfl, rfl, by decide +kernel, rfl, by decide +kernel, by decide +kernel⟩
theorem b_M_Ratio_neg {fa : Addr} {cdv : Value} {A : Around} {outer : List PySem.Env} {s : Shared} {H : Hp} {E : XK} (M : MF K mg) (h_mk_Ratio_0 : MkJ P w K mg base 4 "Ratio" 3 [] F_M_Ratio_init) (hr : Room 5 (A.deeper (envOfC "Ratio.__neg__" (defScope s_M_Ratio_neg) s.heap.objs.size fa cdv))) (tk : L2N.Takes (cxOf (L2N.CX P w) P w K mg base N_M_Ratio_neg "Ratio.__neg__" (defScope s_M_Ratio_neg) fa cdv A outer s H E) (fun c d _ H => E c d H)) (hp : PassesOwn (model P w) (cxOf (L2N.CX P w) P w K mg base N_M_Ratio_neg "Ratio.__neg__" (defScope s_M_Ratio_neg) fa cdv A outer s H E).A (cxOf (L2N.CX P w) P w K mg base N_M_Ratio_neg "Ratio.__neg__" (defScope s_M_Ratio_neg) fa cdv A outer s H E).env (cxOf (L2N.CX P w) P w K mg base N_M_Ratio_neg "Ratio.__neg__" (defScope s_M_Ratio_neg) fa cdv A outer s H E).xe) :
    JSs (cxOf (L2N.CX P w) P w K mg base N_M_Ratio_neg "Ratio.__neg__" (defScope s_M_Ratio_neg) fa cdv A outer s H E) (fun c d _ H => E c d H) (defBody s_M_Ratio_neg) f_M_Ratio_neg := by
  have hc : (cxOf (L2N.CX P w) P w K mg base N_M_Ratio_neg "Ratio.__neg__" (defScope s_M_Ratio_neg) fa cdv A outer s H E).calm = true := rfl
  have hN : (cxOf (L2N.CX P w) P w K mg base N_M_Ratio_neg "Ratio.__neg__" (defScope s_M_Ratio_neg) fa cdv A outer s H E).N.Nodup := sc_M_Ratio_neg.nd
  have hu := hr.units
  exact (jss_one (js_ret (j_make (h_mk_Ratio_0.mono (by decide : 4 ≤ 4)) hr tk (jx_v (j_neg (j_fld M.fld_num (j_var 0))) (jx_v (j_fld M.fld_den (j_var 0)) jx_nil)))))
theorem fo_M_Ratio_neg {fa : Addr} {fd : FuncData} {dvs : List V} (F : FunD K "__neg__" "Ratio.__neg__" (defArgs s_M_Ratio_neg) (defBody s_M_Ratio_neg) (defScope s_M_Ratio_neg) dvs [] fa fd) (M : MF K mg) (h_mk_Ratio_0 : MkJ P w K mg base 4 "Ratio" 3 [] F_M_Ratio_init) : FnOk P w K mg base (L2N.CX P w) 6 fa fd ps_M_Ratio_neg (spJ K 1 F_M_Ratio_neg) := by
  obtain ⟨oc, od, dV, kV, doc, pm, an, cdv, ct, osl, rfl, lk, hcd, _, _⟩ := F.ex
  exact fn_J lk hcd sc_M_Ratio_neg fun A outer s H E hr tk hp => b_M_Ratio_neg M h_mk_Ratio_0 hr tk hp
theorem bn_M_Ratio_neg {fa : Addr} {fd : FuncData} (F : FunD K "__neg__" "Ratio.__neg__" (defArgs s_M_Ratio_neg) (defBody s_M_Ratio_neg) (defScope s_M_Ratio_neg) [] [] fa fd) : Binds K fd ps_M_Ratio_neg [] := F.bindsN fun _ _ _ _ _ _ us hl => match us, hl with | [_], _ => rfl
theorem sc_M_Ratio_abs : FnScope N_M_Ratio_abs ps_M_Ratio_abs (defScope s_M_Ratio_abs) := ⟨rfl, rfl, rfl, by decide +kernel, rfl, by decide +kernel, by decide +kernel⟩
theorem b_M_Ratio_abs {fa : Addr} {cdv : Value} {A : Around} {outer : List PySem.Env} {s : Shared} {H : Hp} {E : XK} (M : MF K mg) (h_mk_Ratio_0 : MkJ P w K mg base 4 "Ratio" 3 [] F_M_Ratio_init) (hr : Room 5 (A.deeper (envOfC "Ratio.__abs__" (defScope s_M_Ratio_abs) s.heap.objs.size fa cdv))) (tk : L2N.Takes (cxOf (L2N.CX P w) P w K mg base N_M_Ratio_abs "Ratio.__abs__" (defScope s_M_Ratio_abs) fa cdv A outer s H E) (fun c d _ H => E c d H)) (hp : PassesOwn (model P w) (cxOf (L2N.CX P w) P w K mg base N_M_Ratio_abs "Ratio.__abs__" (defScope s_M_Ratio_abs) fa cdv A outer s H E).A (cxOf (L2N.CX P w) P w K mg base N_M_Ratio_abs "Ratio.__abs__" (defScope s_M_Ratio_abs) fa cdv A outer s H E).env (cxOf (L2N.CX P w) P w K mg base N_M_Ratio_abs "Ratio.__abs__" (defScope s_M_Ratio_abs) fa cdv A outer s H E).xe) :
    JSs (cxOf (L2N.CX P w) P w K mg base N_M_Ratio_abs "Ratio.__abs__" (defScope s_M_Ratio_abs) fa cdv A outer s H E) (fun c d _ H => E c d H) (defBody s_M_Ratio_abs) f_M_Ratio_abs := by
  have hc : (cxOf (L2N.CX P w) P w K mg base N_M_Ratio_abs "Ratio.__abs__" (defScope s_M_Ratio_abs) fa cdv A outer s H E).calm = true := rfl
  have hN : (cxOf (L2N.CX P w) P w K mg base N_M_Ratio_abs "Ratio.__abs__" (defScope s_M_Ratio_abs) fa cdv A outer s H E).N.Nodup := sc_M_Ratio_abs.nd
  have hu := hr.units
  exact (jss_one (js_ret (j_make (h_mk_Ratio_0.mono (by decide : 4 ≤ 4)) hr tk (jx_v (j_b1 call_abs c1_abs (M.fr "abs" (by decide +kernel)) (by decide +kernel) (JE.toO (j_fld M.fld_num (j_var 0)))) (jx_v (j_fld M.fld_den (j_var 0)) jx_nil)))))
theorem fo_M_Ratio_abs {fa : Addr} {fd : FuncData} {dvs : List V} (F : FunD K "__abs__" "Ratio.__abs__" (defArgs s_M_Ratio_abs) (defBody s_M_Ratio_abs) (defScope s_M_Ratio_abs) dvs [] fa fd) (M : MF K mg) (h_mk_Ratio_0 : MkJ P w K mg base 4 "Ratio" 3 [] F_M_Ratio_init) : FnOk P w K mg base (L2N.CX P w) 6 fa fd ps_M_Ratio_abs (spJ K 1 F_M_Ratio_abs) := by
  obtain ⟨oc, od, dV, kV, doc, pm, an, cdv, ct, osl, rfl, lk, hcd, _, _⟩ := F.ex
  exact fn_J lk hcd sc_M_Ratio_abs fun A outer s H E hr tk hp => b_M_Ratio_abs M h_mk_Ratio_0 hr tk hp
theorem bn_M_Ratio_abs {fa : Addr} {fd : FuncData} (F : FunD K "__abs__" "Ratio.__abs__" (defArgs s_M_Ratio_abs) (defBody s_M_Ratio_abs) (defScope s_M_Ratio_abs) [] [] fa fd) : Binds K fd ps_M_Ratio_abs [] := F.bindsN fun _ _ _ _ _ _ us hl => match us, hl with | [_], _ => rfl
theorem sc_M_Ratio_add : FnScope N_M_Ratio_add ps_M_Ratio_add (defScope s_M_Ratio_add) := ⟨rfl, rfl, rfl, by decide +kernel, rfl, by decide +kernel, by decide +kernel⟩
theorem b_M_Ratio_add {fa : Addr} {cdv : Value} {A : Around} {outer : List PySem.Env} {s : Shared} {H : Hp} {E : XK} (M : MF K mg) (h_P_ratio_parts : FnJ P w K mg base 4 "_ratio_parts" 1 F_P_ratio_parts) (h_P_ratio_lowest : FnJ P w K mg base 6 "_ratio_lowest" 2 F_P_ratio_lowest) (hr : Room 6 (A.deeper (envOfC "Ratio.__add__" (defScope s_M_Ratio_add) s.heap.objs.size fa cdv))) (tk : L2N.Takes (cxOf (L2N.CX P w) P w K mg base N_M_Ratio_add "Ratio.__add__" (defScope s_M_Ratio_add) fa cdv A outer s H E) (fun c d _ H => E c d H)) (hp : PassesOwn (model P w) (cxOf (L2N.CX P w) P w K mg base N_M_Ratio_add "Ratio.__add__" (defScope s_M_Ratio_add) fa cdv A outer s H E).A (cxOf (L2N.CX P w) P w K mg base N_M_Ratio_add "Ratio.__add__" (defScope s_M_Ratio_add) fa cdv A outer s H E).env (cxOf (L2N.CX P w) P w K mg base N_M_Ratio_add "Ratio.__add__" (defScope s_M_Ratio_add) fa cdv A outer s H E).xe) :
    JSs (cxOf (L2N.CX P w) P w K mg base N_M_Ratio_add "Ratio.__add__" (defScope s_M_Ratio_add) fa cdv A outer s H E) (fun c d _ H => E c d H) (defBody s_M_Ratio_add) f_M_Ratio_add := by
  have hc : (cxOf (L2N.CX P w) P w K mg base N_M_Ratio_add "Ratio.__add__" (defScope s_M_Ratio_add) fa cdv A outer s H E).calm = true := rfl
  have hN : (cxOf (L2N.CX P w) P w K mg base N_M_Ratio_add "Ratio.__add__" (defScope s_M_Ratio_add) fa cdv A outer s H E).N.Nodup := sc_M_Ratio_add.nd
  have hu := hr.units
  exact (jss_cons (js_asg (j_call (h_P_ratio_parts.mono (by decide : 4 ≤ 6)) hr tk (jx_v (j_var 1) jx_nil)) (jg_tup hc (jgs_cons (jg_name 2 hN) (jgs_cons (jg_name 3 hN) jgs_nil)) (gs_lenS (gs_lenS gs_len0)))) (jss_one (js_ret (j_call (h_P_ratio_lowest.mono (by decide : 6 ≤ 6)) hr tk (jx_v (j_add (j_mul (j_fld M.fld_num (j_var 0)) (JE.toO (j_var 3))) (JE.toO (j_mul (j_var 2) (JE.toO (j_fld M.fld_den (j_var 0)))))) (jx_v (j_mul (j_fld M.fld_den (j_var 0)) (JE.toO (j_var 3))) jx_nil))))))
theorem fo_M_Ratio_add {fa : Addr} {fd : FuncData} {dvs : List V} (F : FunD K "__add__" "Ratio.__add__" (defArgs s_M_Ratio_add) (defBody s_M_Ratio_add) (defScope s_M_Ratio_add) dvs [] fa fd) (M : MF K mg) (h_P_ratio_parts : FnJ P w K mg base 4 "_ratio_parts" 1 F_P_ratio_parts) (h_P_ratio_lowest : FnJ P w K mg base 6 "_ratio_lowest" 2 F_P_ratio_lowest) : FnOk P w K mg base (L2N.CX P w) 7 fa fd ps_M_Ratio_add (spJ K 2 F_M_Ratio_add) := by
  obtain ⟨oc, od, dV, kV, doc, pm, an, cdv, ct, osl, rfl, lk, hcd, _, _⟩ := F.ex
  exact fn_J lk hcd sc_M_Ratio_add fun A outer s H E hr tk hp => b_M_Ratio_add M h_P_ratio_parts h_P_ratio_lowest hr tk hp
theorem bn_M_Ratio_add {fa : Addr} {fd : FuncData} (F : FunD K "__add__" "Ratio.__add__" (defArgs s_M_Ratio_add) (defBody s_M_Ratio_add) (defScope s_M_Ratio_add) [] [] fa fd) : Binds K fd ps_M_Ratio_add [] := F.bindsN fun _ _ _ _ _ _ us hl => match us, hl with | [_, _], _ => rfl
theorem sc_M_Ratio_sub : FnScope N_M_Ratio_sub ps_M_Ratio_sub (defScope s_M_Ratio_sub) := ⟨rfl, rfl, rfl, by decide +kernel, rfl, by decide +kernel, by decide +kernel⟩
theorem b_M_Ratio_sub {fa : Addr} {cdv : Value} {A : Around} {outer : List PySem.Env} {s : Shared} {H : Hp} {E : XK} (M : MF K mg) (h_P_ratio_parts : FnJ P w K mg base 4 "_ratio_parts" 1 F_P_ratio_parts) (h_P_ratio_lowest : FnJ P w K mg base 6 "_ratio_lowest" 2 F_P_ratio_lowest) (hr : Room 6 (A.deeper (envOfC "Ratio.__sub__" (defScope s_M_Ratio_sub) s.heap.objs.size fa cdv))) (tk : L2N.Takes (cxOf (L2N.CX P w) P w K mg base N_M_Ratio_sub "Ratio.__sub__" (defScope s_M_Ratio_sub) fa cdv A outer s H E) (fun c d _ H => E c d H)) (hp : PassesOwn (model P w) (cxOf (L2N.CX P w) P w K mg base N_M_Ratio_sub "Ratio.__sub__" (defScope s_M_Ratio_sub) fa cdv A outer s H E).A (cxOf (L2N.CX P w) P w K mg base N_M_Ratio_sub "Ratio.__sub__" (defScope s_M_Ratio_sub) fa cdv A outer s H E).env (cxOf (L2N.CX P w) P w K mg base N_M_Ratio_sub "Ratio.__sub__" (defScope s_M_Ratio_sub) fa cdv A outer s H E).xe) :
    JSs (cxOf (L2N.CX P w) P w K mg base N_M_Ratio_sub "Ratio.__sub__" (defScope s_M_Ratio_sub) fa cdv A outer s H E) (fun c d _ H => E c d H) (defBody s_M_Ratio_sub) f_M_Ratio_sub := by
  have hc : (cxOf (L2N.CX P w) P w K mg base N_M_Ratio_sub "Ratio.__sub__" (defScope s_M_Ratio_sub) fa cdv A outer s H E).calm = true := rfl
  have hN : (cxOf (L2N.CX P w) P w K mg base N_M_Ratio_sub "Ratio.__sub__" (defScope s_M_Ratio_sub) fa cdv A outer s H E).N.Nodup := sc_M_Ratio_sub.nd
  have hu := hr.units
  exact (jss_cons (js_asg (j_call (h_P_ratio_parts.mono (by decide : 4 ≤ 6)) hr tk (jx_v (j_var 1) jx_nil)) (jg_tup hc (jgs_cons (jg_name 2 hN) (jgs_cons (jg_name 3 hN) jgs_nil)) (gs_lenS (gs_lenS gs_len0)))) (jss_one (js_ret (j_call (h_P_ratio_lowest.mono (by decide : 6 ≤ 6)) hr tk (jx_v (j_sub (j_mul (j_fld M.fld_num (j_var 0)) (JE.toO (j_var 3))) (JE.toO (j_mul (j_var 2) (JE.toO (j_fld M.fld_den (j_var 0)))))) (jx_v (j_mul (j_fld M.fld_den (j_var 0)) (JE.toO (j_var 3))) jx_nil))))))
theorem fo_M_Ratio_sub {fa : Addr} {fd : FuncData} {dvs : List V} (F : FunD K "__sub__" "Ratio.__sub__" (defArgs s_M_Ratio_sub) (defBody s_M_Ratio_sub) (defScope s_M_Ratio_sub) dvs [] fa fd) (M : MF K mg) (h_P_ratio_parts : FnJ P w K mg base 4 "_ratio_parts" 1 F_P_ratio_parts) (h_P_ratio_lowest : FnJ P w K mg base 6 "_ratio_lowest" 2 F_P_ratio_lowest) : FnOk P w K mg base (L2N.CX P w) 7 fa fd ps_M_Ratio_sub (spJ K 2 F_M_Ratio_sub) := by
  obtain ⟨oc, od, dV, kV, doc, pm, an, cdv, ct, osl, rfl, lk, hcd, _, _⟩ := F.ex
  exact fn_J lk hcd sc_M_Ratio_sub fun A outer s H E hr tk hp => b_M_Ratio_sub M h_P_ratio_parts h_P_ratio_lowest hr tk hp
theorem bn_M_Ratio_sub {fa : Addr} {fd : FuncData} (F : FunD K "__sub__" "Ratio.__sub__" (defArgs s_M_Ratio_sub) (defBody s_M_Ratio_sub) (defScope s_M_Ratio_sub) [] [] fa fd) : Binds K fd ps_M_Ratio_sub [] := F.bindsN fun _ _ _ _ _ _ us hl => match us, hl with | [_, _], _ => rfl
theorem sc_M_Ratio_mul : FnScope N_M_Ratio_mul ps_M_Ratio_mul (defScope s_M_Ratio_mul) := ⟨rfl, rfl, rfl, by decide +kernel, rfl, by decide +kernel, by decide +kernel⟩
theorem b_M_Ratio_mul {fa : Addr} {cdv : Value} {A : Around} {outer : List PySem.Env} {s : Shared} {H : Hp} {E : XK} (M : MF K mg) (h_P_ratio_parts : FnJ P w K mg base 4 "_ratio_parts" 1 F_P_ratio_parts) (h_P_ratio_lowest : FnJ P w K mg base 6 "_ratio_lowest" 2 F_P_ratio_lowest) (hr : Room 6 (A.deeper (envOfC "Ratio.__mul__" (defScope s_M_Ratio_mul) s.heap.objs.size fa cdv))) (tk : L2N.Takes (cxOf (L2N.CX P w) P w K mg base N_M_Ratio_mul "Ratio.__mul__" (defScope s_M_Ratio_mul) fa cdv A outer s H E) (fun c d _ H => E c d H)) (hp : PassesOwn (model P w) (cxOf (L2N.CX P w) P w K mg base N_M_Ratio_mul "Ratio.__mul__" (defScope s_M_Ratio_mul) fa cdv A outer s H E).A (cxOf (L2N.CX P w) P w K mg base N_M_Ratio_mul "Ratio.__mul__" (defScope s_M_Ratio_mul) fa cdv A outer s H E).env (cxOf (L2N.CX P w) P w K mg base N_M_Ratio_mul "Ratio.__mul__" (defScope s_M_Ratio_mul) fa cdv A outer s H E).xe) :
    JSs (cxOf (L2N.CX P w) P w K mg base N_M_Ratio_mul "Ratio.__mul__" (defScope s_M_Ratio_mul) fa cdv A outer s H E) (fun c d _ H => E c d H) (defBody s_M_Ratio_mul) f_M_Ratio_mul := by
  have hc : (cxOf (L2N.CX P w) P w K mg base N_M_Ratio_mul "Ratio.__mul__" (defScope s_M_Ratio_mul) fa cdv A outer s H E).calm = true := rfl
  have hN : (cxOf (L2N.CX P w) P w K mg base N_M_Ratio_mul "Ratio.__mul__" (defScope s_M_Ratio_mul) fa cdv A outer s H E).N.Nodup := sc_M_Ratio_mul.nd
  have hu := hr.units
  exact (jss_cons (js_asg (j_call (h_P_ratio_parts.mono (by decide : 4 ≤ 6)) hr tk (jx_v (j_var 1) jx_nil)) (jg_tup hc (jgs_cons (jg_name 2 hN) (jgs_cons (jg_name 3 hN) jgs_nil)) (gs_lenS (gs_lenS gs_len0)))) (jss_one (js_ret (j_call (h_P_ratio_lowest.mono (by decide : 6 ≤ 6)) hr tk (jx_v (j_mul (j_fld M.fld_num (j_var 0)) (JE.toO (j_var 2))) (jx_v (j_mul (j_fld M.fld_den (j_var 0)) (JE.toO (j_var 3))) jx_nil))))))
theorem fo_M_Ratio_mul {fa : Addr} {fd : FuncData} {dvs : List V} (F : FunD K "__mul__" "Ratio.__mul__" (defArgs s_M_Ratio_mul) (defBody s_M_Ratio_mul) (defScope s_M_Ratio_mul) dvs [] fa fd) (M : MF K mg) (h_P_ratio_parts : FnJ P w K mg base 4 "_ratio_parts" 1 F_P_ratio_parts) (h_P_ratio_lowest : FnJ P w K mg base 6 "_ratio_lowest" 2 F_P_ratio_lowest) : FnOk P w K mg base (L2N.CX P w) 7 fa fd ps_M_Ratio_mul (spJ K 2 F_M_Ratio_mul) := by
  obtain ⟨oc, od, dV, kV, doc, pm, an, cdv, ct, osl, rfl, lk, hcd, _, _⟩ := F.ex
  exact fn_J lk hcd sc_M_Ratio_mul fun A outer s H E hr tk hp => b_M_Ratio_mul M h_P_ratio_parts h_P_ratio_lowest hr tk hp
theorem bn_M_Ratio_mul {fa : Addr} {fd : FuncData} (F : FunD K "__mul__" "Ratio.__mul__" (defArgs s_M_Ratio_mul) (defBody s_M_Ratio_mul) (defScope s_M_Ratio_mul) [] [] fa fd) : Binds K fd ps_M_Ratio_mul [] := F.bindsN fun _ _ _ _ _ _ us hl => match us, hl with | [_, _], _ => rfl
theorem sc_M_Ratio_over : FnScope N_M_Ratio_over ps_M_Ratio_over (defScope s_M_Ratio_over) := ⟨rfl, rfl, rfl, by decide +kernel, rfl, by decide +kernel, by decide +kernel⟩
theorem b_M_Ratio_over {fa : Addr} {cdv : Value} {A : Around} {outer : List PySem.Env} {s : Shared} {H : Hp} {E : XK} (M : MF K mg) (h_P_ratio_lowest : FnJ P w K mg base 6 "_ratio_lowest" 2 F_P_ratio_lowest) (e_NumberError : ExcJ P w K mg base 1 "NumberError" 1 Fx_NumberError) (hr : Room 6 (A.deeper (envOfC "Ratio.over" (defScope s_M_Ratio_over) s.heap.objs.size fa cdv))) (tk : L2N.Takes (cxOf (L2N.CX P w) P w K mg base N_M_Ratio_over "Ratio.over" (defScope s_M_Ratio_over) fa cdv A outer s H E) (fun c d _ H => E c d H)) (hp : PassesOwn (model P w) (cxOf (L2N.CX P w) P w K mg base N_M_Ratio_over "Ratio.over" (defScope s_M_Ratio_over) fa cdv A outer s H E).A (cxOf (L2N.CX P w) P w K mg base N_M_Ratio_over "Ratio.over" (defScope s_M_Ratio_over) fa cdv A outer s H E).env (cxOf (L2N.CX P w) P w K mg base N_M_Ratio_over "Ratio.over" (defScope s_M_Ratio_over) fa cdv A outer s H E).xe) :
    JSs (cxOf (L2N.CX P w) P w K mg base N_M_Ratio_over "Ratio.over" (defScope s_M_Ratio_over) fa cdv A outer s H E) (fun c d _ H => E c d H) (defBody s_M_Ratio_over) f_M_Ratio_over := by
  have hc : (cxOf (L2N.CX P w) P w K mg base N_M_Ratio_over "Ratio.over" (defScope s_M_Ratio_over) fa cdv A outer s H E).calm = true := rfl
  have hN : (cxOf (L2N.CX P w) P w K mg base N_M_Ratio_over "Ratio.over" (defScope s_M_Ratio_over) fa cdv A outer s H E).N.Nodup := sc_M_Ratio_over.nd
  have hu := hr.units
  exact (jss_cons (js_if (jt_cmp (op_eqD hu) opS_eq (j_fld M.fld_num (j_var 1)) (JE.toO j_int) (nomark _)) (jss_one (js_raise hc tk e_NumberError (hr.mono (by decide)) (ja_cons j_int ja_nil))) jss_nil) (jss_cons (js_if (jt_cmp op_lt opS_B0 (j_fld M.fld_num (j_var 1)) (JE.toO j_int) (nomark _)) (jss_one (js_ret (j_call (h_P_ratio_lowest.mono (by decide : 6 ≤ 6)) hr tk (jx_v (j_mul (j_neg (j_fld M.fld_num (j_var 0))) (JE.toO (j_fld M.fld_den (j_var 1)))) (jx_v (j_mul (j_neg (j_fld M.fld_den (j_var 0))) (JE.toO (j_fld M.fld_num (j_var 1)))) jx_nil))))) jss_nil) (jss_one (js_ret (j_call (h_P_ratio_lowest.mono (by decide : 6 ≤ 6)) hr tk (jx_v (j_mul (j_fld M.fld_num (j_var 0)) (JE.toO (j_fld M.fld_den (j_var 1)))) (jx_v (j_mul (j_fld M.fld_den (j_var 0)) (JE.toO (j_fld M.fld_num (j_var 1)))) jx_nil)))))))
theorem fo_M_Ratio_over {fa : Addr} {fd : FuncData} {dvs : List V} (F : FunD K "over" "Ratio.over" (defArgs s_M_Ratio_over) (defBody s_M_Ratio_over) (defScope s_M_Ratio_over) dvs [] fa fd) (M : MF K mg) (h_P_ratio_lowest : FnJ P w K mg base 6 "_ratio_lowest" 2 F_P_ratio_lowest) (e_NumberError : ExcJ P w K mg base 1 "NumberError" 1 Fx_NumberError) : FnOk P w K mg base (L2N.CX P w) 7 fa fd ps_M_Ratio_over (spJ K 2 F_M_Ratio_over) := by
  obtain ⟨oc, od, dV, kV, doc, pm, an, cdv, ct, osl, rfl, lk, hcd, _, _⟩ := F.ex
  exact fn_J lk hcd sc_M_Ratio_over fun A outer s H E hr tk hp => b_M_Ratio_over M h_P_ratio_lowest e_NumberError hr tk hp
theorem bn_M_Ratio_over {fa : Addr} {fd : FuncData} (F : FunD K "over" "Ratio.over" (defArgs s_M_Ratio_over) (defBody s_M_Ratio_over) (defScope s_M_Ratio_over) [] [] fa fd) : Binds K fd ps_M_Ratio_over [] := F.bindsN fun _ _ _ _ _ _ us hl => match us, hl with | [_, _], _ => rfl
theorem sc_M_Ratio_total : FnScope N_M_Ratio_total ps_M_Ratio_total (defScope s_M_Ratio_total) := ⟨rfl, rfl, rfl, by decide +kernel, rfl, by decide +kernel, by decide +kernel⟩
theorem b_M_Ratio_total {fa : Addr} {cdv : Value} {A : Around} {outer : List PySem.Env} {s : Shared} {H : Hp} {E : XK} (M : MF K mg) (h_look_size : FnJ P w K mg base 3 "look_size" 3 F_look_size) (h_P_ratio_lowest : FnJ P w K mg base 6 "_ratio_lowest" 2 F_P_ratio_lowest) (h_look_number : FnJ P w K mg base 3 "look_number" 3 F_look_number) (hr : Room 6 (A.deeper (envOfC "Ratio.total" (defScope s_M_Ratio_total) s.heap.objs.size fa cdv))) (tk : L2N.Takes (cxOf (L2N.CX P w) P w K mg base N_M_Ratio_total "Ratio.total" (defScope s_M_Ratio_total) fa cdv A outer s H E) (fun c d _ H => E c d H)) (hp : PassesOwn (model P w) (cxOf (L2N.CX P w) P w K mg base N_M_Ratio_total "Ratio.total" (defScope s_M_Ratio_total) fa cdv A outer s H E).A (cxOf (L2N.CX P w) P w K mg base N_M_Ratio_total "Ratio.total" (defScope s_M_Ratio_total) fa cdv A outer s H E).env (cxOf (L2N.CX P w) P w K mg base N_M_Ratio_total "Ratio.total" (defScope s_M_Ratio_total) fa cdv A outer s H E).xe) :
    JSs (cxOf (L2N.CX P w) P w K mg base N_M_Ratio_total "Ratio.total" (defScope s_M_Ratio_total) fa cdv A outer s H E) (fun c d _ H => E c d H) (defBody s_M_Ratio_total) f_M_Ratio_total := by
  have hc : (cxOf (L2N.CX P w) P w K mg base N_M_Ratio_total "Ratio.total" (defScope s_M_Ratio_total) fa cdv A outer s H E).calm = true := rfl
  have hN : (cxOf (L2N.CX P w) P w K mg base N_M_Ratio_total "Ratio.total" (defScope s_M_Ratio_total) fa cdv A outer s H E).N.Nodup := sc_M_Ratio_total.nd
  have hu := hr.units
  exact (jss_cons (js_expr (j_call (h_look_size.mono (by decide : 3 ≤ 6)) hr tk (jx_v (j_var 0) (jx_v j_int (jx_v (j_gint M.i_MOST_TOTAL) jx_nil))))) (jss_cons (js_set 1 hN j_int) (jss_cons (js_for hp hc (ji_seq (j_var 0)) (jg_name 2 hN) (jss_one (js_set 1 hN (j_call (h_look_number.mono (by decide : 3 ≤ 6)) hr tk (jx_v (j_lcm M.b_lcm (j_var 1) (j_fld M.fld_den (j_var 2))) (jx_v j_int (jx_v (j_gint M.i_MOST_TOTAL_DEN) jx_nil))))))) (jss_one (js_ret (j_call (h_P_ratio_lowest.mono (by decide : 6 ≤ 6)) hr tk (jx_v (j_b1 (cr_sum hc) c1_sum (M.fr "sum" (by decide +kernel)) (by decide +kernel) (JE.toO (JL.toE (jl_lc [("ratio", 2)] hc hN (ji_seq (j_var 0)) (blkOk_by (N := N_M_Ratio_total) (sc := defScope s_M_Ratio_total) (by decide +kernel)) (fun _ _ _ _ _ => (jg_name 2 hN)) (by decide) (fun _ _ _ _ _ => jts_nil) (fun _ _ _ _ _ => (j_mul (j_fld M.fld_num (j_var 2)) (JE.toO (j_divP (j_var 1) (JE.toO (j_fld M.fld_den (j_var 2))))))) )))) (jx_v (j_var 1) jx_nil))))))))
theorem fo_M_Ratio_total {fa : Addr} {fd : FuncData} {dvs : List V} (F : FunD K "total" "Ratio.total" (defArgs s_M_Ratio_total) (defBody s_M_Ratio_total) (defScope s_M_Ratio_total) dvs [] fa fd) (M : MF K mg) (h_look_size : FnJ P w K mg base 3 "look_size" 3 F_look_size) (h_P_ratio_lowest : FnJ P w K mg base 6 "_ratio_lowest" 2 F_P_ratio_lowest) (h_look_number : FnJ P w K mg base 3 "look_number" 3 F_look_number) : FnOk P w K mg base (L2N.CX P w) 7 fa fd ps_M_Ratio_total (spJ K 1 F_M_Ratio_total) := by
  obtain ⟨oc, od, dV, kV, doc, pm, an, cdv, ct, osl, rfl, lk, hcd, _, _⟩ := F.ex
  exact fn_J lk hcd sc_M_Ratio_total fun A outer s H E hr tk hp => b_M_Ratio_total M h_look_size h_P_ratio_lowest h_look_number hr tk hp
theorem bn_M_Ratio_total {fa : Addr} {fd : FuncData} (F : FunD K "total" "Ratio.total" (defArgs s_M_Ratio_total) (defBody s_M_Ratio_total) (defScope s_M_Ratio_total) [] [] fa fd) : Binds K fd ps_M_Ratio_total [] := F.bindsN fun _ _ _ _ _ _ us hl => match us, hl with | [_], _ => rfl
theorem sc_L_told : FnScope N_L_told ps_L_told (defScope s_L_told) := ⟨rfl, rfl, rfl, by decide +kernel, rfl, by decide +kernel, by decide +kernel⟩
theorem b_L_told {fa : Addr} {cdv : Value} {A : Around} {outer : List PySem.Env} {s : Shared} {H : Hp} {E : XK} (M : MF K mg) (h_L_pair : FnJ P w K mg base 2 "_law_pair" 1 F_L_pair) (h_eq_Ratio : EqJ P w K mg base 1 "Ratio" F_M_Ratio_eq) (h_op_Ratio_add : OpJ P w K mg base 7 .Add "Ratio" F_M_Ratio_add) (h_op_Ratio_sub : OpJ P w K mg base 7 .Sub "Ratio" F_M_Ratio_sub) (h_op_Ratio_mul : OpJ P w K mg base 7 .Mult "Ratio" F_M_Ratio_mul) (h_mt_Ratio_over_0 : MtJ P w K mg base 7 "over" 2 [] "Ratio" F_M_Ratio_over) (h_L_int : FnJ P w K mg base 1 "_law_int" 1 F_L_int) (hH_L_int : FnHJ P w K mg base 1 "_law_int" 1 F_L_int) (hr : Room 7 (A.deeper (envOfC "_law_told" (defScope s_L_told) s.heap.objs.size fa cdv))) (tk : L2N.Takes (cxOf (L2N.CX P w) P w K mg base N_L_told "_law_told" (defScope s_L_told) fa cdv A outer s H E) (fun c d _ H => E c d H)) (hp : PassesOwn (model P w) (cxOf (L2N.CX P w) P w K mg base N_L_told "_law_told" (defScope s_L_told) fa cdv A outer s H E).A (cxOf (L2N.CX P w) P w K mg base N_L_told "_law_told" (defScope s_L_told) fa cdv A outer s H E).env (cxOf (L2N.CX P w) P w K mg base N_L_told "_law_told" (defScope s_L_told) fa cdv A outer s H E).xe) :
    JSs (cxOf (L2N.CX P w) P w K mg base N_L_told "_law_told" (defScope s_L_told) fa cdv A outer s H E) (fun c d _ H => E c d H) (defBody s_L_told) f_L_told := by
  have hc : (cxOf (L2N.CX P w) P w K mg base N_L_told "_law_told" (defScope s_L_told) fa cdv A outer s H E).calm = true := rfl
  have hN : (cxOf (L2N.CX P w) P w K mg base N_L_told "_law_told" (defScope s_L_told) fa cdv A outer s H E).N.Nodup := sc_L_told.nd
  have hu := hr.units
  exact (jss_cons (js_try rfl rfl hN tk (fun W pn xe tk hp => (jss_one (js_if (jt_cmp (op_eqD hu) opS_eq (j_var 0) (JE.toO j_str) (nomark _)) (jss_one (js_set 4 hN (j_bin op_add4 opS_add (T_op_add_ok h_op_Ratio_add (by decide)) hr tk (j_var 1) (j_var 2)))) (jss_one (js_if (jt_cmp (op_eqD hu) opS_eq (j_var 0) (JE.toO j_str) (nomark _)) (jss_one (js_set 4 hN (j_bin op_sub opS_sub (T_op_sub_ok h_op_Ratio_sub (by decide)) hr tk (j_var 1) (j_var 2)))) (jss_one (js_if (jt_cmp (op_eqD hu) opS_eq (j_var 0) (JE.toO j_str) (nomark _)) (jss_one (js_set 4 hN (j_bin op_mul2 opS_mul (T_op_mul_ok h_op_Ratio_mul (by decide)) hr tk (j_var 1) (j_var 2)))) (jss_one (js_set 4 hN (j_meth (T_mt_over_ok h_mt_Ratio_over_0 (by decide)) (c0 := "Ratio") rfl hr tk (j_var 1) (jx_v (j_var 2) jx_nil))))))))))) (.named (i := 3) (h := ⟨exm_NumberError, some 3, fun y => (sSeq (sIf (fOr (fNot (fTru (fCallR 1 F_L_int (xV (fXf okf_NumberError_number y "number") xNil) rvD))) (fNot (fTru (fIsE isx_0 y)))) (sSeq (sRet (fTup (fCons (fC (.str "odd")) fNil))) sNil) sNil) (sSeq (sRet (fTup (fCons (fC (.str "number")) (fCons (fXf okf_NumberError_number y "number") fNil)))) sNil))⟩) rfl rfl ⟨rfl, by decide, .inl M.cl_NumberError⟩ (fun y b e => M.exm_NumberError _ (PySem.mem_of_lookup e)) rfl (fun a oe cls d pn y hz hd => (ju_cons (ju_if (JW.t (jw_or (jt_not (jt_tru (JE.toO (j_callH (hH_L_int) (L2H.roomH_mark (hr.mono (by decide)) _) (hot_of hz hd) takes_su (jx_v (j_xf okf_NumberError_number hz hd (fld_NumberError_number M)) jx_nil))))) (jw_or1 (jt_not (jt_tru (JE.toO (j_isE isx_0 hz hd (jcs_own jcs_nil (M.cl_NodearerError)) (isx_0_ok M) (M.fr "isinstance" (by decide +kernel))))))))) (ju_cons (ju_ret (j_tup (ja_cons j_str ja_nil))) ju_nil) ju_nil) (ju_cons (ju_ret (j_tup (ja_cons j_str (ja_cons (j_xf okf_NumberError_number hz hd (fld_NumberError_number M)) ja_nil)))) ju_nil))) .nil)) (jss_one (js_ret (j_call (h_L_pair.mono (by decide : 2 ≤ 7)) hr tk (jx_v (j_var 4) jx_nil)))))
theorem fo_L_told {fa : Addr} {fd : FuncData} {dvs : List V} (F : FunD K "_law_told" "_law_told" (defArgs s_L_told) (defBody s_L_told) (defScope s_L_told) dvs [] fa fd) (M : MF K mg) (h_L_pair : FnJ P w K mg base 2 "_law_pair" 1 F_L_pair) (h_eq_Ratio : EqJ P w K mg base 1 "Ratio" F_M_Ratio_eq) (h_op_Ratio_add : OpJ P w K mg base 7 .Add "Ratio" F_M_Ratio_add) (h_op_Ratio_sub : OpJ P w K mg base 7 .Sub "Ratio" F_M_Ratio_sub) (h_op_Ratio_mul : OpJ P w K mg base 7 .Mult "Ratio" F_M_Ratio_mul) (h_mt_Ratio_over_0 : MtJ P w K mg base 7 "over" 2 [] "Ratio" F_M_Ratio_over) (h_L_int : FnJ P w K mg base 1 "_law_int" 1 F_L_int) (hH_L_int : FnHJ P w K mg base 1 "_law_int" 1 F_L_int) : FnOk P w K mg base (L2N.CX P w) 8 fa fd ps_L_told (spJ K 3 F_L_told) := by
  obtain ⟨oc, od, dV, kV, doc, pm, an, cdv, ct, osl, rfl, lk, hcd, _, _⟩ := F.ex
  exact fn_J lk hcd sc_L_told fun A outer s H E hr tk hp => b_L_told M h_L_pair h_eq_Ratio h_op_Ratio_add h_op_Ratio_sub h_op_Ratio_mul h_mt_Ratio_over_0 h_L_int hH_L_int hr tk hp
theorem bn_L_told {fa : Addr} {fd : FuncData} (F : FunD K "_law_told" "_law_told" (defArgs s_L_told) (defBody s_L_told) (defScope s_L_told) [] [] fa fd) : Binds K fd ps_L_told [] := F.bindsN fun _ _ _ _ _ _ us hl => match us, hl with | [_, _, _], _ => rfl
theorem sc_L_order : FnScope N_L_order ps_L_order (defScope s_L_order) := ⟨rfl, rfl, rfl, by decide +kernel, rfl, by decide +kernel, by decide +kernel⟩
theorem b_L_order {fa : Addr} {cdv : Value} {A : Around} {outer : List PySem.Env} {s : Shared} {H : Hp} {E : XK} (M : MF K mg) (h_op_Ratio_mul : OpJ P w K mg base 7 .Mult "Ratio" F_M_Ratio_mul) (h_mt_Ratio_compare_0 : MtJ P w K mg base 1 "compare" 2 [] "Ratio" F_M_Ratio_compare) (h_eq_Ratio : EqJ P w K mg base 1 "Ratio" F_M_Ratio_eq) (h_L_int : FnJ P w K mg base 1 "_law_int" 1 F_L_int) (h_op_Ratio_sub : OpJ P w K mg base 7 .Sub "Ratio" F_M_Ratio_sub) (hH_L_int : FnHJ P w K mg base 1 "_law_int" 1 F_L_int) (hr : Room 7 (A.deeper (envOfC "_law_order" (defScope s_L_order) s.heap.objs.size fa cdv))) (tk : L2N.Takes (cxOf (L2N.CX P w) P w K mg base N_L_order "_law_order" (defScope s_L_order) fa cdv A outer s H E) (fun c d _ H => E c d H)) (hp : PassesOwn (model P w) (cxOf (L2N.CX P w) P w K mg base N_L_order "_law_order" (defScope s_L_order) fa cdv A outer s H E).A (cxOf (L2N.CX P w) P w K mg base N_L_order "_law_order" (defScope s_L_order) fa cdv A outer s H E).env (cxOf (L2N.CX P w) P w K mg base N_L_order "_law_order" (defScope s_L_order) fa cdv A outer s H E).xe) :
    JSs (cxOf (L2N.CX P w) P w K mg base N_L_order "_law_order" (defScope s_L_order) fa cdv A outer s H E) (fun c d _ H => E c d H) (defBody s_L_order) f_L_order := by
  have hc : (cxOf (L2N.CX P w) P w K mg base N_L_order "_law_order" (defScope s_L_order) fa cdv A outer s H E).calm = true := rfl
  have hN : (cxOf (L2N.CX P w) P w K mg base N_L_order "_law_order" (defScope s_L_order) fa cdv A outer s H E).N.Nodup := sc_L_order.nd
  have hu := hr.units
  exact (jss_cons (js_set 4 hN (j_bin op_mul2 opS_mul (T_op_mul_ok h_op_Ratio_mul (by decide)) hr tk (j_ix (j_var 1) (JE.toO j_int)) (j_ix (j_var 3) (JE.toO j_int)))) (jss_cons (js_set 5 hN (j_bin op_mul2 opS_mul (T_op_mul_ok h_op_Ratio_mul (by decide)) hr tk (j_ix (j_var 3) (JE.toO j_int)) (j_ix (j_var 1) (JE.toO j_int)))) (jss_cons (js_set 6 hN (j_meth (T_mt_compare_ok h_mt_Ratio_compare_0 (by decide)) (c0 := "Ratio") rfl hr tk (j_var 0) (jx_v (j_var 2) jx_nil))) (jss_cons (js_if (JW.t (jw_or (jt_not (jt_tru (JE.toO (j_call (h_L_int.mono (by decide : 1 ≤ 7)) hr tk (jx_v (j_var 6) jx_nil))))) (jw_or1 (jt_cmp (op_neD hu) opS_ne (j_var 6) (JE.toO (j_bin op_sub opS_sub (T_op_sub_ok h_op_Ratio_sub (by decide)) hr tk (j_t1 call_int1 c1_int (M.fr "int" (by decide +kernel)) (by decide +kernel) (JE.toO (j_cmp op_gt opS_B0 (j_var 4) (JE.toO (j_var 5)) (nomark _)))) (j_t1 call_int1 c1_int (M.fr "int" (by decide +kernel)) (by decide +kernel) (JE.toO (j_cmp op_lt opS_B0 (j_var 4) (JE.toO (j_var 5)) (nomark _)))))) (nomark _))))) (jss_one (js_ret j_bl)) jss_nil) (jss_cons (js_set 7 hN (j_eqO rfl (op_eqD hu) opS_eq (T_eq_eq_ok h_eq_Ratio (by decide)) hr tk (j_var 0) (j_var 2) (nomark _))) (jss_one (js_ret (j_and (j_isi (T := "bool") (M.fr "isinstance" (by decide +kernel)) (M.fr "bool" (by decide +kernel)) (by decide +kernel) (JE.toO (j_var 7))) (j_one (j_eqO rfl (op_eqD hu) opS_eq (T_eq_eq_ok h_eq_Ratio (by decide)) hr tk (j_var 7) (j_eqO rfl (op_eqD hu) opS_eq (T_eq_eq_ok h_eq_Ratio (by decide)) hr tk (j_var 4) (j_var 5) (nomark _)) (nomark _)))))))))))
theorem fo_L_order {fa : Addr} {fd : FuncData} {dvs : List V} (F : FunD K "_law_order" "_law_order" (defArgs s_L_order) (defBody s_L_order) (defScope s_L_order) dvs [] fa fd) (M : MF K mg) (h_op_Ratio_mul : OpJ P w K mg base 7 .Mult "Ratio" F_M_Ratio_mul) (h_mt_Ratio_compare_0 : MtJ P w K mg base 1 "compare" 2 [] "Ratio" F_M_Ratio_compare) (h_eq_Ratio : EqJ P w K mg base 1 "Ratio" F_M_Ratio_eq) (h_L_int : FnJ P w K mg base 1 "_law_int" 1 F_L_int) (h_op_Ratio_sub : OpJ P w K mg base 7 .Sub "Ratio" F_M_Ratio_sub) (hH_L_int : FnHJ P w K mg base 1 "_law_int" 1 F_L_int) : FnOk P w K mg base (L2N.CX P w) 8 fa fd ps_L_order (spJ K 4 F_L_order) := by
  obtain ⟨oc, od, dV, kV, doc, pm, an, cdv, ct, osl, rfl, lk, hcd, _, _⟩ := F.ex
  exact fn_J lk hcd sc_L_order fun A outer s H E hr tk hp => b_L_order M h_op_Ratio_mul h_mt_Ratio_compare_0 h_eq_Ratio h_L_int h_op_Ratio_sub hH_L_int hr tk hp
theorem bn_L_order {fa : Addr} {fd : FuncData} (F : FunD K "_law_order" "_law_order" (defArgs s_L_order) (defBody s_L_order) (defScope s_L_order) [] [] fa fd) : Binds K fd ps_L_order [] := F.bindsN fun _ _ _ _ _ _ us hl => match us, hl with | [_, _, _, _], _ => rfl
theorem sc_L_single : FnScope N_L_single ps_L_single (defScope s_L_single) := ⟨rfl, rfl, rfl, by decide +kernel, rfl, by decide +kernel, by decide +kernel⟩
theorem b_L_single {fa : Addr} {cdv : Value} {A : Around} {outer : List PySem.Env} {s : Shared} {H : Hp} {E : XK} (M : MF K mg) (h_L_due : FnJ P w K mg base 2 "_law_due" 2 F_L_due) (h_un_Ratio_bool : UnJ P w K mg base 1 "__bool__" "Ratio" F_M_Ratio_bool) (h_eq_Ratio : EqJ P w K mg base 1 "Ratio" F_M_Ratio_eq) (h_L_rounded : FnJ P w K mg base 2 "_law_rounded" 2 F_L_rounded) (h_L_pair : FnJ P w K mg base 2 "_law_pair" 1 F_L_pair) (h_mk_Ratio_0 : MkJ P w K mg base 4 "Ratio" 3 [] F_M_Ratio_init) (h_un_Ratio_neg : UnJ P w K mg base 6 "__neg__" "Ratio" F_M_Ratio_neg) (h_un_Ratio_abs : UnJ P w K mg base 6 "__abs__" "Ratio" F_M_Ratio_abs) (hr : Room 7 (A.deeper (envOfC "_law_single" (defScope s_L_single) s.heap.objs.size fa cdv))) (tk : L2N.Takes (cxOf (L2N.CX P w) P w K mg base N_L_single "_law_single" (defScope s_L_single) fa cdv A outer s H E) (fun c d _ H => E c d H)) (hp : PassesOwn (model P w) (cxOf (L2N.CX P w) P w K mg base N_L_single "_law_single" (defScope s_L_single) fa cdv A outer s H E).A (cxOf (L2N.CX P w) P w K mg base N_L_single "_law_single" (defScope s_L_single) fa cdv A outer s H E).env (cxOf (L2N.CX P w) P w K mg base N_L_single "_law_single" (defScope s_L_single) fa cdv A outer s H E).xe) :
    JSs (cxOf (L2N.CX P w) P w K mg base N_L_single "_law_single" (defScope s_L_single) fa cdv A outer s H E) (fun c d _ H => E c d H) (defBody s_L_single) f_L_single := by
  have hc : (cxOf (L2N.CX P w) P w K mg base N_L_single "_law_single" (defScope s_L_single) fa cdv A outer s H E).calm = true := rfl
  have hN : (cxOf (L2N.CX P w) P w K mg base N_L_single "_law_single" (defScope s_L_single) fa cdv A outer s H E).N.Nodup := sc_L_single.nd
  have hu := hr.units
  exact (jss_cons (js_asg (j_var 1) (jg_tup hc (jgs_cons (jg_name 2 hN) (jgs_cons (jg_name 3 hN) jgs_nil)) (gs_lenS (gs_lenS gs_len0)))) (jss_cons (js_set 4 hN (j_call (h_L_due.mono (by decide : 2 ≤ 7)) hr tk (jx_v (j_var 2) (jx_v (j_var 3) jx_nil)))) (jss_cons (js_if (jt_cmp (op_neD hu) opS_ne (j_call (h_L_pair.mono (by decide : 2 ≤ 7)) hr tk (jx_v (j_var 0) jx_nil)) (JE.toO (j_var 4)) (nomark _)) (jss_one (js_ret j_bl)) jss_nil) (jss_cons (js_if (jt_cmp (op_neD hu) opS_ne (j_call (h_L_pair.mono (by decide : 2 ≤ 7)) hr tk (jx_v (j_negO (T_un_neg_ok h_un_Ratio_neg (by decide)) hr tk (j_var 0)) jx_nil)) (JE.toO (j_call (h_L_due.mono (by decide : 2 ≤ 7)) hr tk (jx_v (j_negO (T_un_neg_ok h_un_Ratio_neg (by decide)) hr tk (j_var 2)) (jx_v (j_var 3) jx_nil)))) (nomark _)) (jss_one (js_ret j_bl)) jss_nil) (jss_cons (js_if (jt_cmp (op_neD hu) opS_ne (j_call (h_L_pair.mono (by decide : 2 ≤ 7)) hr tk (jx_v (j_absO (T_un_abs_ok h_un_Ratio_abs (by decide)) hr tk (M.fr "abs" (by decide +kernel)) (j_var 0)) jx_nil)) (JE.toO (j_call (h_L_due.mono (by decide : 2 ≤ 7)) hr tk (jx_v (j_absO (T_un_abs_ok h_un_Ratio_abs (by decide)) hr tk (M.fr "abs" (by decide +kernel)) (j_var 2)) (jx_v (j_var 3) jx_nil)))) (nomark _)) (jss_one (js_ret j_bl)) jss_nil) (jss_cons (js_set 5 hN (j_boolO (T_un_bool_ok h_un_Ratio_bool (by decide)) hr tk (M.fr "bool" (by decide +kernel)) (j_var 0))) (jss_cons (js_if (jt_cmp (op_neD hu) opS_ne (j_var 5) (JE.toO (j_cmp (op_neD hu) opS_ne (j_var 2) (JE.toO j_int) (nomark _))) (nomark _)) (jss_one (js_ret j_bl)) jss_nil) (jss_cons (js_set 6 hN (j_eqO rfl (op_eqD hu) opS_eq (T_eq_eq_ok h_eq_Ratio (by decide)) hr tk (j_var 0) (j_var 2) (nomark _))) (jss_cons (js_set 7 hN (j_eqO rfl (op_eqD hu) opS_eq (T_eq_eq_ok h_eq_Ratio (by decide)) hr tk (j_var 0) (j_make (h_mk_Ratio_0.mono (by decide : 4 ≤ 6)) hr tk (jx_v (j_ix (j_var 4) (JE.toO j_int)) (jx_v (j_ix (j_var 4) (JE.toO j_int)) jx_nil))) (nomark _))) (jss_cons (js_if (JW.t (jw_or (jt_notB (j_var 6)) (jw_or1 (jt_notB (j_var 7))))) (jss_one (js_ret j_bl)) jss_nil) (jss_one (js_ret (j_call (h_L_rounded.mono (by decide : 2 ≤ 7)) hr tk (jx_v (j_var 0) (jx_v (j_var 1) jx_nil)))))))))))))))
theorem fo_L_single {fa : Addr} {fd : FuncData} {dvs : List V} (F : FunD K "_law_single" "_law_single" (defArgs s_L_single) (defBody s_L_single) (defScope s_L_single) dvs [] fa fd) (M : MF K mg) (h_L_due : FnJ P w K mg base 2 "_law_due" 2 F_L_due) (h_un_Ratio_bool : UnJ P w K mg base 1 "__bool__" "Ratio" F_M_Ratio_bool) (h_eq_Ratio : EqJ P w K mg base 1 "Ratio" F_M_Ratio_eq) (h_L_rounded : FnJ P w K mg base 2 "_law_rounded" 2 F_L_rounded) (h_L_pair : FnJ P w K mg base 2 "_law_pair" 1 F_L_pair) (h_mk_Ratio_0 : MkJ P w K mg base 4 "Ratio" 3 [] F_M_Ratio_init) (h_un_Ratio_neg : UnJ P w K mg base 6 "__neg__" "Ratio" F_M_Ratio_neg) (h_un_Ratio_abs : UnJ P w K mg base 6 "__abs__" "Ratio" F_M_Ratio_abs) : FnOk P w K mg base (L2N.CX P w) 8 fa fd ps_L_single (spJ K 2 F_L_single) := by
  obtain ⟨oc, od, dV, kV, doc, pm, an, cdv, ct, osl, rfl, lk, hcd, _, _⟩ := F.ex
  exact fn_J lk hcd sc_L_single fun A outer s H E hr tk hp => b_L_single M h_L_due h_un_Ratio_bool h_eq_Ratio h_L_rounded h_L_pair h_mk_Ratio_0 h_un_Ratio_neg h_un_Ratio_abs hr tk hp
theorem bn_L_single {fa : Addr} {fd : FuncData} (F : FunD K "_law_single" "_law_single" (defArgs s_L_single) (defBody s_L_single) (defScope s_L_single) [] [] fa fd) : Binds K fd ps_L_single [] := F.bindsN fun _ _ _ _ _ _ us hl => match us, hl with | [_, _], _ => rfl
theorem sc_L_back : FnScope N_L_back ps_L_back (defScope s_L_back) := ⟨rfl, rfl, rfl, by decide +kernel, rfl, by decide +kernel, by decide +kernel⟩
theorem b_L_back {fa : Addr} {cdv : Value} {A : Around} {outer : List PySem.Env} {s : Shared} {H : Hp} {E : XK} (M : MF K mg) (h_L_due : FnJ P w K mg base 2 "_law_due" 2 F_L_due) (h_eq_Ratio : EqJ P w K mg base 1 "Ratio" F_M_Ratio_eq) (h_L_result : FnJ P w K mg base 3 "_law_result" 3 F_L_result) (h_L_pair : FnJ P w K mg base 2 "_law_pair" 1 F_L_pair) (h_op_Ratio_sub : OpJ P w K mg base 7 .Sub "Ratio" F_M_Ratio_sub) (h_op_Ratio_mul : OpJ P w K mg base 7 .Mult "Ratio" F_M_Ratio_mul) (h_op_Ratio_add : OpJ P w K mg base 7 .Add "Ratio" F_M_Ratio_add) (h_mt_Ratio_over_0 : MtJ P w K mg base 7 "over" 2 [] "Ratio" F_M_Ratio_over) (hr : Room 7 (A.deeper (envOfC "_law_back" (defScope s_L_back) s.heap.objs.size fa cdv))) (tk : L2N.Takes (cxOf (L2N.CX P w) P w K mg base N_L_back "_law_back" (defScope s_L_back) fa cdv A outer s H E) (fun c d _ H => E c d H)) (hp : PassesOwn (model P w) (cxOf (L2N.CX P w) P w K mg base N_L_back "_law_back" (defScope s_L_back) fa cdv A outer s H E).A (cxOf (L2N.CX P w) P w K mg base N_L_back "_law_back" (defScope s_L_back) fa cdv A outer s H E).env (cxOf (L2N.CX P w) P w K mg base N_L_back "_law_back" (defScope s_L_back) fa cdv A outer s H E).xe) :
    JSs (cxOf (L2N.CX P w) P w K mg base N_L_back "_law_back" (defScope s_L_back) fa cdv A outer s H E) (fun c d _ H => E c d H) (defBody s_L_back) f_L_back := by
  have hc : (cxOf (L2N.CX P w) P w K mg base N_L_back "_law_back" (defScope s_L_back) fa cdv A outer s H E).calm = true := rfl
  have hN : (cxOf (L2N.CX P w) P w K mg base N_L_back "_law_back" (defScope s_L_back) fa cdv A outer s H E).N.Nodup := sc_L_back.nd
  have hu := hr.units
  exact (jss_cons (js_set 4 hN (j_call (h_L_due.mono (by decide : 2 ≤ 7)) hr tk (jx_v (j_ix (j_var 1) (JE.toO j_int)) (jx_v (j_ix (j_var 1) (JE.toO j_int)) jx_nil)))) (jss_cons (js_if (jt_cmp (op_eqD hu) opS_eq (j_ix (j_call (h_L_result.mono (by decide : 3 ≤ 7)) hr tk (jx_v j_str (jx_v (j_var 1) (jx_v (j_var 3) jx_nil)))) (JE.toO j_int)) (JE.toO j_str) (nomark _)) (jss_one (js_if (jt_cmp (op_neD hu) opS_ne (j_call (h_L_pair.mono (by decide : 2 ≤ 7)) hr tk (jx_v (j_bin op_sub opS_sub (T_op_sub_ok h_op_Ratio_sub (by decide)) hr tk (j_bin op_add4 opS_add (T_op_add_ok h_op_Ratio_add (by decide)) hr tk (j_var 0) (j_var 2)) (j_var 2)) jx_nil)) (JE.toO (j_var 4)) (nomark _)) (jss_one (js_ret j_bl)) jss_nil)) jss_nil) (jss_cons (js_if (jt_cmp (op_eqD hu) opS_eq (j_ix (j_call (h_L_result.mono (by decide : 3 ≤ 7)) hr tk (jx_v j_str (jx_v (j_var 1) (jx_v (j_var 3) jx_nil)))) (JE.toO j_int)) (JE.toO j_str) (nomark _)) (jss_one (js_ret (j_eqO rfl (op_eqD hu) opS_eq (T_eq_eq_ok h_eq_Ratio (by decide)) hr tk (j_call (h_L_pair.mono (by decide : 2 ≤ 7)) hr tk (jx_v (j_bin op_mul2 opS_mul (T_op_mul_ok h_op_Ratio_mul (by decide)) hr tk (j_meth (T_mt_over_ok h_mt_Ratio_over_0 (by decide)) (c0 := "Ratio") rfl hr tk (j_var 0) (jx_v (j_var 2) jx_nil)) (j_var 2)) jx_nil)) (j_var 4) (nomark _)))) jss_nil) (jss_one (js_ret j_bl)))))
theorem fo_L_back {fa : Addr} {fd : FuncData} {dvs : List V} (F : FunD K "_law_back" "_law_back" (defArgs s_L_back) (defBody s_L_back) (defScope s_L_back) dvs [] fa fd) (M : MF K mg) (h_L_due : FnJ P w K mg base 2 "_law_due" 2 F_L_due) (h_eq_Ratio : EqJ P w K mg base 1 "Ratio" F_M_Ratio_eq) (h_L_result : FnJ P w K mg base 3 "_law_result" 3 F_L_result) (h_L_pair : FnJ P w K mg base 2 "_law_pair" 1 F_L_pair) (h_op_Ratio_sub : OpJ P w K mg base 7 .Sub "Ratio" F_M_Ratio_sub) (h_op_Ratio_mul : OpJ P w K mg base 7 .Mult "Ratio" F_M_Ratio_mul) (h_op_Ratio_add : OpJ P w K mg base 7 .Add "Ratio" F_M_Ratio_add) (h_mt_Ratio_over_0 : MtJ P w K mg base 7 "over" 2 [] "Ratio" F_M_Ratio_over) : FnOk P w K mg base (L2N.CX P w) 8 fa fd ps_L_back (spJ K 4 F_L_back) := by
  obtain ⟨oc, od, dV, kV, doc, pm, an, cdv, ct, osl, rfl, lk, hcd, _, _⟩ := F.ex
  exact fn_J lk hcd sc_L_back fun A outer s H E hr tk hp => b_L_back M h_L_due h_eq_Ratio h_L_result h_L_pair h_op_Ratio_sub h_op_Ratio_mul h_op_Ratio_add h_mt_Ratio_over_0 hr tk hp
theorem bn_L_back {fa : Addr} {fd : FuncData} (F : FunD K "_law_back" "_law_back" (defArgs s_L_back) (defBody s_L_back) (defScope s_L_back) [] [] fa fd) : Binds K fd ps_L_back [] := F.bindsN fun _ _ _ _ _ _ us hl => match us, hl with | [_, _, _, _], _ => rfl
theorem sc_L_total : FnScope N_L_total ps_L_total (defScope s_L_total) := ⟨rfl, rfl, rfl, by decide +kernel, rfl, by decide +kernel, by decide +kernel⟩
theorem b_L_total {fa : Addr} {cdv : Value} {A : Around} {outer : List PySem.Env} {s : Shared} {H : Hp} {E : XK} (M : MF K mg) (h_L_pair : FnJ P w K mg base 2 "_law_pair" 1 F_L_pair) (h_st_Ratio_total : StJ P w K mg base 7 "Ratio" "total" 1 F_M_Ratio_total) (h_L_int : FnJ P w K mg base 1 "_law_int" 1 F_L_int) (hH_L_int : FnHJ P w K mg base 1 "_law_int" 1 F_L_int) (hr : Room 7 (A.deeper (envOfC "_law_total" (defScope s_L_total) s.heap.objs.size fa cdv))) (tk : L2N.Takes (cxOf (L2N.CX P w) P w K mg base N_L_total "_law_total" (defScope s_L_total) fa cdv A outer s H E) (fun c d _ H => E c d H)) (hp : PassesOwn (model P w) (cxOf (L2N.CX P w) P w K mg base N_L_total "_law_total" (defScope s_L_total) fa cdv A outer s H E).A (cxOf (L2N.CX P w) P w K mg base N_L_total "_law_total" (defScope s_L_total) fa cdv A outer s H E).env (cxOf (L2N.CX P w) P w K mg base N_L_total "_law_total" (defScope s_L_total) fa cdv A outer s H E).xe) :
    JSs (cxOf (L2N.CX P w) P w K mg base N_L_total "_law_total" (defScope s_L_total) fa cdv A outer s H E) (fun c d _ H => E c d H) (defBody s_L_total) f_L_total := by
  have hc : (cxOf (L2N.CX P w) P w K mg base N_L_total "_law_total" (defScope s_L_total) fa cdv A outer s H E).calm = true := rfl
  have hN : (cxOf (L2N.CX P w) P w K mg base N_L_total "_law_total" (defScope s_L_total) fa cdv A outer s H E).N.Nodup := sc_L_total.nd
  have hu := hr.units
  exact (jss_cons (js_try rfl rfl hN tk (fun W pn xe tk hp => (jss_one (js_set 1 hN (j_stat (h_st_Ratio_total.mono (by decide : 7 ≤ 7)) hr tk (jx_v (j_var 0) jx_nil))))) (.named (i := 2) (h := ⟨exm_NumberError, some 2, fun y => (sSeq (sIf (fOr (fNot (fTru (fCallR 1 F_L_int (xV (fXf okf_NumberError_number y "number") xNil) rvD))) (fNot (fTru (fIsE isx_0 y)))) (sSeq (sRet (fTup (fCons (fC (.str "odd")) fNil))) sNil) sNil) (sSeq (sRet (fTup (fCons (fC (.str "number")) (fCons (fXf okf_NumberError_number y "number") fNil)))) sNil))⟩) rfl rfl ⟨rfl, by decide, .inl M.cl_NumberError⟩ (fun y b e => M.exm_NumberError _ (PySem.mem_of_lookup e)) rfl (fun a oe cls d pn y hz hd => (ju_cons (ju_if (JW.t (jw_or (jt_not (jt_tru (JE.toO (j_callH (hH_L_int) (L2H.roomH_mark (hr.mono (by decide)) _) (hot_of hz hd) takes_su (jx_v (j_xf okf_NumberError_number hz hd (fld_NumberError_number M)) jx_nil))))) (jw_or1 (jt_not (jt_tru (JE.toO (j_isE isx_0 hz hd (jcs_own jcs_nil (M.cl_NodearerError)) (isx_0_ok M) (M.fr "isinstance" (by decide +kernel))))))))) (ju_cons (ju_ret (j_tup (ja_cons j_str ja_nil))) ju_nil) ju_nil) (ju_cons (ju_ret (j_tup (ja_cons j_str (ja_cons (j_xf okf_NumberError_number hz hd (fld_NumberError_number M)) ja_nil)))) ju_nil))) .nil)) (jss_one (js_ret (j_call (h_L_pair.mono (by decide : 2 ≤ 7)) hr tk (jx_v (j_var 1) jx_nil)))))
theorem fo_L_total {fa : Addr} {fd : FuncData} {dvs : List V} (F : FunD K "_law_total" "_law_total" (defArgs s_L_total) (defBody s_L_total) (defScope s_L_total) dvs [] fa fd) (M : MF K mg) (h_L_pair : FnJ P w K mg base 2 "_law_pair" 1 F_L_pair) (h_st_Ratio_total : StJ P w K mg base 7 "Ratio" "total" 1 F_M_Ratio_total) (h_L_int : FnJ P w K mg base 1 "_law_int" 1 F_L_int) (hH_L_int : FnHJ P w K mg base 1 "_law_int" 1 F_L_int) : FnOk P w K mg base (L2N.CX P w) 8 fa fd ps_L_total (spJ K 1 F_L_total) := by
  obtain ⟨oc, od, dV, kV, doc, pm, an, cdv, ct, osl, rfl, lk, hcd, _, _⟩ := F.ex
  exact fn_J lk hcd sc_L_total fun A outer s H E hr tk hp => b_L_total M h_L_pair h_st_Ratio_total h_L_int hH_L_int hr tk hp
theorem bn_L_total {fa : Addr} {fd : FuncData} (F : FunD K "_law_total" "_law_total" (defArgs s_L_total) (defBody s_L_total) (defScope s_L_total) [] [] fa fd) : Binds K fd ps_L_total [] := F.bindsN fun _ _ _ _ _ _ us hl => match us, hl with | [_], _ => rfl
theorem sc_L_operations : FnScope N_L_operations ps_L_operations (defScope s_L_operations) := ⟨rfl, rfl, rfl, by decide +kernel, rfl, by decide +kernel, by decide +kernel⟩
theorem b_L_operations {fa : Addr} {cdv : Value} {A : Around} {outer : List PySem.Env} {s : Shared} {H : Hp} {E : XK} (M : MF K mg) (h_L_told : FnJ P w K mg base 8 "_law_told" 3 F_L_told) (h_L_result : FnJ P w K mg base 3 "_law_result" 3 F_L_result) (hr : Room 8 (A.deeper (envOfC "_law_operations" (defScope s_L_operations) s.heap.objs.size fa cdv))) (tk : L2N.Takes (cxOf (L2N.CX P w) P w K mg base N_L_operations "_law_operations" (defScope s_L_operations) fa cdv A outer s H E) (fun c d _ H => E c d H)) (hp : PassesOwn (model P w) (cxOf (L2N.CX P w) P w K mg base N_L_operations "_law_operations" (defScope s_L_operations) fa cdv A outer s H E).A (cxOf (L2N.CX P w) P w K mg base N_L_operations "_law_operations" (defScope s_L_operations) fa cdv A outer s H E).env (cxOf (L2N.CX P w) P w K mg base N_L_operations "_law_operations" (defScope s_L_operations) fa cdv A outer s H E).xe) :
    JSs (cxOf (L2N.CX P w) P w K mg base N_L_operations "_law_operations" (defScope s_L_operations) fa cdv A outer s H E) (fun c d _ H => E c d H) (defBody s_L_operations) f_L_operations := by
  have hc : (cxOf (L2N.CX P w) P w K mg base N_L_operations "_law_operations" (defScope s_L_operations) fa cdv A outer s H E).calm = true := rfl
  have hN : (cxOf (L2N.CX P w) P w K mg base N_L_operations "_law_operations" (defScope s_L_operations) fa cdv A outer s H E).N.Nodup := sc_L_operations.nd
  have hu := hr.units
  exact (jss_cons (js_for hp hc (ji_seq (j_var 0)) (jg_name 5 hN) (jss_one (js_if (jt_cmp (op_neD hu) opS_ne (j_call (h_L_told.mono (by decide : 8 ≤ 8)) hr tk (jx_v (j_var 5) (jx_v (j_var 1) (jx_v (j_var 3) jx_nil)))) (JE.toO (j_call (h_L_result.mono (by decide : 3 ≤ 8)) hr tk (jx_v (j_var 5) (jx_v (j_var 2) (jx_v (j_var 4) jx_nil))))) (nomark _)) (jss_one (js_ret j_bl)) jss_nil))) (jss_one (js_ret j_bl)))
theorem fo_L_operations {fa : Addr} {fd : FuncData} {dvs : List V} (F : FunD K "_law_operations" "_law_operations" (defArgs s_L_operations) (defBody s_L_operations) (defScope s_L_operations) dvs [] fa fd) (M : MF K mg) (h_L_told : FnJ P w K mg base 8 "_law_told" 3 F_L_told) (h_L_result : FnJ P w K mg base 3 "_law_result" 3 F_L_result) : FnOk P w K mg base (L2N.CX P w) 9 fa fd ps_L_operations (spJ K 5 F_L_operations) := by
  obtain ⟨oc, od, dV, kV, doc, pm, an, cdv, ct, osl, rfl, lk, hcd, _, _⟩ := F.ex
  exact fn_J lk hcd sc_L_operations fun A outer s H E hr tk hp => b_L_operations M h_L_told h_L_result hr tk hp
theorem bn_L_operations {fa : Addr} {fd : FuncData} (F : FunD K "_law_operations" "_law_operations" (defArgs s_L_operations) (defBody s_L_operations) (defScope s_L_operations) [] [] fa fd) : Binds K fd ps_L_operations [] := F.bindsN fun _ _ _ _ _ _ us hl => match us, hl with | [_, _, _, _, _], _ => rfl
theorem sc_L_totals : FnScope N_L_totals ps_L_totals (defScope s_L_totals) := ⟨rfl, rfl, rfl, by decide +kernel, rfl, by decide +kernel, by decide +kernel⟩
theorem b_L_totals {fa : Addr} {cdv : Value} {A : Around} {outer : List PySem.Env} {s : Shared} {H : Hp} {E : XK} (M : MF K mg) (h_L_take : FnJ P w K mg base 1 "_law_take" 3 F_L_take) (h_L_due : FnJ P w K mg base 2 "_law_due" 2 F_L_due) (h_mk_Ratio_0 : MkJ P w K mg base 4 "Ratio" 3 [] F_M_Ratio_init) (h_L_pair : FnJ P w K mg base 2 "_law_pair" 1 F_L_pair) (h_L_total : FnJ P w K mg base 8 "_law_total" 1 F_L_total) (hr : Room 8 (A.deeper (envOfC "_law_totals" (defScope s_L_totals) s.heap.objs.size fa cdv))) (tk : L2N.Takes (cxOf (L2N.CX P w) P w K mg base N_L_totals "_law_totals" (defScope s_L_totals) fa cdv A outer s H E) (fun c d _ H => E c d H)) (hp : PassesOwn (model P w) (cxOf (L2N.CX P w) P w K mg base N_L_totals "_law_totals" (defScope s_L_totals) fa cdv A outer s H E).A (cxOf (L2N.CX P w) P w K mg base N_L_totals "_law_totals" (defScope s_L_totals) fa cdv A outer s H E).env (cxOf (L2N.CX P w) P w K mg base N_L_totals "_law_totals" (defScope s_L_totals) fa cdv A outer s H E).xe) :
    JSs (cxOf (L2N.CX P w) P w K mg base N_L_totals "_law_totals" (defScope s_L_totals) fa cdv A outer s H E) (fun c d _ H => E c d H) (defBody s_L_totals) f_L_totals := by
  have hc : (cxOf (L2N.CX P w) P w K mg base N_L_totals "_law_totals" (defScope s_L_totals) fa cdv A outer s H E).calm = true := rfl
  have hN : (cxOf (L2N.CX P w) P w K mg base N_L_totals "_law_totals" (defScope s_L_totals) fa cdv A outer s H E).N.Nodup := sc_L_totals.nd
  have hu := hr.units
  exact (jss_cons (js_asg (j_var 1) (jg_tup hc (jgs_cons (jg_name 3 hN) (jgs_cons (jg_name 4 hN) jgs_nil)) (gs_lenS (gs_lenS gs_len0)))) (jss_cons (js_asg (j_var 2) (jg_tup hc (jgs_cons (jg_name 5 hN) (jgs_cons (jg_name 6 hN) jgs_nil)) (gs_lenS (gs_lenS gs_len0)))) (jss_cons (js_set 7 hN (j_sub (j_call (h_L_take.mono (by decide : 1 ≤ 8)) hr tk (jx_o 0 (jx_v j_int (jx_v j_int jx_nil)))) (JE.toO j_int))) (jss_cons (js_set 8 hN (j_add j_int (JE.toO (j_call (h_L_take.mono (by decide : 1 ≤ 8)) hr tk (jx_o 0 (jx_v j_int (jx_v j_int jx_nil))))))) (jss_cons (js_set 9 hN (JL.toE (jl_lst (ja_cons (j_tup (ja_cons (j_var 3) (ja_cons (j_var 4) ja_nil))) (ja_cons (j_tup (ja_cons (j_var 5) (ja_cons (j_var 6) ja_nil))) (ja_cons (j_tup (ja_cons (j_neg (j_var 3)) (ja_cons (j_var 4) ja_nil))) (ja_cons (j_tup (ja_cons (j_var 7) (ja_cons (j_var 8) ja_nil))) ja_nil))))))) (jss_cons (js_set 10 hN (JL.toE (jl_lc [("_law_part", 20)] hc hN (ji_seq (j_var 9)) (blkOk_by (N := N_L_totals) (sc := defScope s_L_totals) (by decide +kernel)) (fun _ _ _ _ _ => (jg_name 20 hN)) (by decide) (fun _ _ _ _ _ => jts_nil) (fun _ _ _ _ _ => (j_make (h_mk_Ratio_0.mono (by decide : 4 ≤ 7)) hr takes_blk (jx_v (j_ix (j_var 20) (JE.toO j_int)) (jx_v (j_ix (j_var 20) (JE.toO j_int)) jx_nil)))) ))) (jss_cons (js_set 11 hN (JL.toE (jl_lc [("_law_part", 20)] hc hN (ji_seq (j_var 9)) (blkOk_by (N := N_L_totals) (sc := defScope s_L_totals) (by decide +kernel)) (fun _ _ _ _ _ => (jg_name 20 hN)) (by decide) (fun _ _ _ _ _ => jts_nil) (fun _ _ _ _ _ => (j_call (h_L_due.mono (by decide : 2 ≤ 8)) hr takes_blk (jx_v (j_ix (j_var 20) (JE.toO j_int)) (jx_v (j_ix (j_var 20) (JE.toO j_int)) jx_nil)))) ))) (jss_cons (js_set 12 hN (j_call (h_L_take.mono (by decide : 1 ≤ 8)) hr tk (jx_o 0 (jx_v j_int (jx_v j_int jx_nil))))) (jss_cons (js_setLc 13 [("_law_k", 21)] hc hN (ji_range1 (M.fr "range" (by decide +kernel)) (j_var 12)) (blkOk_by (N := N_L_totals) (sc := defScope s_L_totals) (by decide +kernel)) (fun _ _ _ _ _ => (jg_name 21 hN)) (by decide) (fun _ _ _ _ _ => jts_nil) (fun _ _ _ _ _ => (j_call (h_L_take.mono (by decide : 1 ≤ 8)) hr takes_blk (jx_o 0 (jx_v j_int (jx_v (j_var 21) jx_nil)))))) (JSs.pub 13 (jss_cons (js_if (jt_cmp (op_eqD hu) opS_eq (j_var 12) (JE.toO j_int) (nomark _)) (jss_one (js_set 13 hN (j_mul (JL.toE (jl_lst (ja_cons (j_ix (j_var 13) (JE.toO j_int)) ja_nil))) (JE.toO j_int)))) jss_nil) (jss_cons (js_setLc 14 [("_law_k", 21)] hc hN (ji_seq (j_var 13)) (blkOk_by (N := N_L_totals) (sc := defScope s_L_totals) (by decide +kernel)) (fun _ _ _ _ _ => (jg_name 21 hN)) (by decide) (fun _ _ _ _ _ => jts_nil) (fun _ _ _ _ _ => (j_ix (j_var 10) (JE.toO (j_var 21))))) (jss_cons (js_set 15 hN (j_sub (j_count (j_var 13) j_int) (JE.toO (j_count (j_var 13) j_int)))) (jss_cons (js_set 16 hN (j_count (j_var 13) j_int)) (jss_cons (js_set 17 hN (j_mul (j_add (j_mul (j_mul (j_var 15) (JE.toO (j_var 3))) (JE.toO (j_var 6))) (JE.toO (j_mul (j_mul (j_var 16) (JE.toO (j_var 5))) (JE.toO (j_var 4))))) (JE.toO (j_var 8)))) (jss_cons (js_set 17 hN (j_add (j_var 17) (JE.toO (j_mul (j_mul (j_mul (j_count (j_var 13) j_int) (JE.toO (j_var 7))) (JE.toO (j_var 4))) (JE.toO (j_var 6)))))) (jss_cons (js_set 18 hN (j_call (h_L_due.mono (by decide : 2 ≤ 8)) hr tk (jx_v (j_var 17) (jx_v (j_mul (j_mul (j_var 4) (JE.toO (j_var 6))) (JE.toO (j_var 8))) jx_nil)))) (JSs.pub 14 (jss_cons (js_if (JW.t (jw_or (jt_cmp (op_neD hu) opS_ne (j_call (h_L_total.mono (by decide : 8 ≤ 8)) hr tk (jx_v (j_var 14) jx_nil)) (JE.toO (j_var 18)) (nomark _)) (jw_or1 (jt_cmp (op_neD hu) opS_ne (j_call (h_L_total.mono (by decide : 8 ≤ 8)) hr tk (jx_v (j_t1 call_tuple_of c1_tuple (M.fr "tuple" (by decide +kernel)) (by decide +kernel) (JE.toO (j_var 14))) jx_nil)) (JE.toO (j_var 18)) (nomark _))))) (jss_one (js_ret j_bl)) jss_nil) (jss_cons (js_setLc 19 [("_law_told_here", 22)] hc hN (ji_seq (j_var 14)) (blkOk_by (N := N_L_totals) (sc := defScope s_L_totals) (by decide +kernel)) (fun _ _ _ _ _ => (jg_name 22 hN)) (by decide) (fun _ _ _ _ _ => jts_nil) (fun _ _ _ _ _ => (j_call (h_L_pair.mono (by decide : 2 ≤ 8)) hr takes_blk (jx_v (j_var 22) jx_nil)))) (JSs.pub 19 (jss_one (js_ret (j_cmp (op_eqD hu) opS_eq (j_var 19) (JE.toO (JL.toE (jl_lc [("_law_k", 21)] hc hN (ji_seq (j_var 13)) (blkOk_by (N := N_L_totals) (sc := defScope s_L_totals) (by decide +kernel)) (fun _ _ _ _ _ => (jg_name 21 hN)) (by decide) (fun _ _ _ _ _ => jts_nil) (fun _ _ _ _ _ => (j_ix (j_var 11) (JE.toO (j_var 21)))) ))) (nomark _)))))))))))))))))))))))))
theorem fo_L_totals {fa : Addr} {fd : FuncData} {dvs : List V} (F : FunD K "_law_totals" "_law_totals" (defArgs s_L_totals) (defBody s_L_totals) (defScope s_L_totals) dvs [] fa fd) (M : MF K mg) (h_L_take : FnJ P w K mg base 1 "_law_take" 3 F_L_take) (h_L_due : FnJ P w K mg base 2 "_law_due" 2 F_L_due) (h_mk_Ratio_0 : MkJ P w K mg base 4 "Ratio" 3 [] F_M_Ratio_init) (h_L_pair : FnJ P w K mg base 2 "_law_pair" 1 F_L_pair) (h_L_total : FnJ P w K mg base 8 "_law_total" 1 F_L_total) : FnOk P w K mg base (L2N.CX P w) 9 fa fd ps_L_totals (spJ K 3 F_L_totals) := by
  obtain ⟨oc, od, dV, kV, doc, pm, an, cdv, ct, osl, rfl, lk, hcd, _, _⟩ := F.ex
  exact fn_J lk hcd sc_L_totals fun A outer s H E hr tk hp => b_L_totals M h_L_take h_L_due h_mk_Ratio_0 h_L_pair h_L_total hr tk hp
theorem bn_L_totals {fa : Addr} {fd : FuncData} (F : FunD K "_law_totals" "_law_totals" (defArgs s_L_totals) (defBody s_L_totals) (defScope s_L_totals) [] [] fa fd) : Binds K fd ps_L_totals [] := F.bindsN fun _ _ _ _ _ _ us hl => match us, hl with | [_, _, _], _ => rfl
theorem sc_law : FnScope N_law ps_law (defScope s_law) := ⟨rfl, rfl, rfl, by decide +kernel, rfl, by decide +kernel, by decide +kernel⟩
theorem b_law {fa : Addr} {cdv : Value} {A : Around} {outer : List PySem.Env} {s : Shared} {H : Hp} {E : XK} (M : MF K mg) (h_L_tape : FnJ P w K mg base 1 "_law_tape" 1 F_L_tape) (h_L_signed : FnJ P w K mg base 3 "_law_signed" 2 F_L_signed) (h_mk_Ratio_0 : MkJ P w K mg base 4 "Ratio" 3 [] F_M_Ratio_init) (h_mk_Ratio_1 : MkJ P w K mg base 4 "Ratio" 3 [.int 1] F_M_Ratio_init) (h_eq_Ratio : EqJ P w K mg base 1 "Ratio" F_M_Ratio_eq) (h_L_operations : FnJ P w K mg base 9 "_law_operations" 5 F_L_operations) (h_L_order : FnJ P w K mg base 8 "_law_order" 4 F_L_order) (h_L_back : FnJ P w K mg base 8 "_law_back" 4 F_L_back) (h_L_totals : FnJ P w K mg base 9 "_law_totals" 3 F_L_totals) (h_L_told : FnJ P w K mg base 8 "_law_told" 3 F_L_told) (h_L_result : FnJ P w K mg base 3 "_law_result" 3 F_L_result) (h_L_int : FnJ P w K mg base 1 "_law_int" 1 F_L_int) (h_L_number : FnJ P w K mg base 2 "_law_number" 2 F_L_number) (h_L_single : FnJ P w K mg base 8 "_law_single" 2 F_L_single) (h_L_pair : FnJ P w K mg base 2 "_law_pair" 1 F_L_pair) (hH_L_int : FnHJ P w K mg base 1 "_law_int" 1 F_L_int) (hr : Room 9 (A.deeper (envOfC "law" (defScope s_law) s.heap.objs.size fa cdv))) (tk : L2N.Takes (cxOf (L2N.CX P w) P w K mg base N_law "law" (defScope s_law) fa cdv A outer s H E) (fun c d _ H => E c d H)) (hp : PassesOwn (model P w) (cxOf (L2N.CX P w) P w K mg base N_law "law" (defScope s_law) fa cdv A outer s H E).A (cxOf (L2N.CX P w) P w K mg base N_law "law" (defScope s_law) fa cdv A outer s H E).env (cxOf (L2N.CX P w) P w K mg base N_law "law" (defScope s_law) fa cdv A outer s H E).xe) :
    JSs (cxOf (L2N.CX P w) P w K mg base N_law "law" (defScope s_law) fa cdv A outer s H E) (fun c d _ H => E c d H) (defBody s_law) f_law := by
  have hc : (cxOf (L2N.CX P w) P w K mg base N_law "law" (defScope s_law) fa cdv A outer s H E).calm = true := rfl
  have hN : (cxOf (L2N.CX P w) P w K mg base N_law "law" (defScope s_law) fa cdv A outer s H E).N.Nodup := sc_law.nd
  have hu := hr.units
  exact (jss_cons (js_if (JW.t (jw_or (jt_not (jt_tru (JE.toO (j_call (h_L_int.mono (by decide : 1 ≤ 9)) hr tk (jx_v (j_gint M.i_MOST) jx_nil))))) (jw_or1 (jt_cmp (op_neD hu) opS_ne (j_gint M.i_MOST) (JE.toO (j_powP (j_powP j_int (JE.toO j_int)) (JE.toO j_int))) (nomark _))))) (jss_one (js_ret j_bl)) jss_nil) (jss_cons (js_setL 1 hN (jl_call (h_L_tape.mono (by decide : 1 ≤ 9)) hr tk (jx_v (j_var 0) jx_nil))) (jss_cons (js_set 2 hN (j_call (h_L_signed.mono (by decide : 3 ≤ 9)) hr tk (jx_o 1 (jx_v j_int jx_nil)))) (jss_cons (js_set 3 hN (j_tup (ja_cons (j_var 2) (ja_cons (j_b2 (call_max2 hc) c2_I (M.fr "max" (by decide +kernel)) (by decide +kernel) j_int (JE.toO (j_call (h_L_number.mono (by decide : 2 ≤ 9)) hr tk (jx_o 1 (jx_v j_int jx_nil))))) ja_nil)))) (jss_cons (js_set 2 hN (j_call (h_L_signed.mono (by decide : 3 ≤ 9)) hr tk (jx_o 1 (jx_v j_int jx_nil)))) (jss_cons (js_set 4 hN (j_tup (ja_cons (j_var 2) (ja_cons (j_b2 (call_max2 hc) c2_I (M.fr "max" (by decide +kernel)) (by decide +kernel) j_int (JE.toO (j_call (h_L_number.mono (by decide : 2 ≤ 9)) hr tk (jx_o 1 (jx_v j_int jx_nil))))) ja_nil)))) (jss_cons (js_set 5 hN (j_call (h_L_signed.mono (by decide : 3 ≤ 9)) hr tk (jx_o 1 (jx_v j_int jx_nil)))) (jss_cons (js_set 6 hN (j_make (h_mk_Ratio_0.mono (by decide : 4 ≤ 8)) hr tk (jx_v (j_ix (j_var 3) (JE.toO j_int)) (jx_v (j_ix (j_var 3) (JE.toO j_int)) jx_nil)))) (jss_cons (js_set 7 hN (j_make (h_mk_Ratio_0.mono (by decide : 4 ≤ 8)) hr tk (jx_v (j_ix (j_var 4) (JE.toO j_int)) (jx_v (j_ix (j_var 4) (JE.toO j_int)) jx_nil)))) (jss_cons (js_set 8 hN (j_make (h_mk_Ratio_1.mono (by decide : 4 ≤ 8)) hr tk (jx_v (j_var 5) jx_nil))) (jss_cons (js_if (JW.t (jw_or (jt_not (jt_tru (JE.toO (j_call (h_L_single.mono (by decide : 8 ≤ 9)) hr tk (jx_v (j_var 6) (jx_v (j_var 3) jx_nil)))))) (jw_or1 (jt_not (jt_tru (JE.toO (j_call (h_L_single.mono (by decide : 8 ≤ 9)) hr tk (jx_v (j_var 7) (jx_v (j_var 4) jx_nil))))))))) (jss_one (js_ret j_bl)) jss_nil) (jss_cons (js_set 9 hN (j_eqO rfl (op_eqD hu) opS_eq (T_eq_eq_ok h_eq_Ratio (by decide)) hr tk (j_var 8) (j_var 5) (nomark _))) (jss_cons (js_if (JW.t (jw_or (jt_cmp (op_neD hu) opS_ne (j_call (h_L_pair.mono (by decide : 2 ≤ 9)) hr tk (jx_v (j_var 8) jx_nil)) (JE.toO (j_tup (ja_cons j_str (ja_cons (j_var 5) (ja_cons j_int ja_nil))))) (nomark _)) (jw_or1 (jt_notB (j_var 9))))) (jss_one (js_ret j_bl)) jss_nil) (jss_cons (js_set 10 hN (JL.toE (jl_lst (ja_cons j_str (ja_cons j_str (ja_cons j_str (ja_cons j_str ja_nil))))))) (jss_cons (js_if (jt_not (jt_tru (JE.toO (j_call (h_L_operations.mono (by decide : 9 ≤ 9)) hr tk (jx_v (j_var 10) (jx_v (j_var 6) (jx_v (j_var 3) (jx_v (j_var 7) (jx_v (j_var 4) jx_nil))))))))) (jss_one (js_ret j_bl)) jss_nil) (jss_cons (js_if (jt_not (jt_tru (JE.toO (j_call (h_L_operations.mono (by decide : 9 ≤ 9)) hr tk (jx_v (j_var 10) (jx_v (j_var 7) (jx_v (j_var 4) (jx_v (j_var 6) (jx_v (j_var 3) jx_nil))))))))) (jss_one (js_ret j_bl)) jss_nil) (jss_cons (js_if (jt_not (jt_tru (JE.toO (j_call (h_L_operations.mono (by decide : 9 ≤ 9)) hr tk (jx_v (j_var 10) (jx_v (j_var 6) (jx_v (j_var 3) (jx_v (j_var 6) (jx_v (j_var 3) jx_nil))))))))) (jss_one (js_ret j_bl)) jss_nil) (jss_cons (js_if (jt_not (jt_tru (JE.toO (j_call (h_L_operations.mono (by decide : 9 ≤ 9)) hr tk (jx_v (j_cut (JE.toO (j_var 10)) jp_none (jp_some jq_int)) (jx_v (j_var 6) (jx_v (j_var 3) (jx_v (j_var 5) (jx_v (j_tup (ja_cons (j_var 5) (ja_cons j_int ja_nil))) jx_nil))))))))) (jss_one (js_ret j_bl)) jss_nil) (jss_cons (js_if (jt_not (jt_tru (JE.toO (j_call (h_L_order.mono (by decide : 8 ≤ 9)) hr tk (jx_v (j_var 6) (jx_v (j_var 3) (jx_v (j_var 7) (jx_v (j_var 4) jx_nil)))))))) (jss_one (js_ret j_bl)) jss_nil) (jss_cons (js_if (jt_not (jt_tru (JE.toO (j_call (h_L_order.mono (by decide : 8 ≤ 9)) hr tk (jx_v (j_var 7) (jx_v (j_var 4) (jx_v (j_var 6) (jx_v (j_var 3) jx_nil)))))))) (jss_one (js_ret j_bl)) jss_nil) (jss_cons (js_if (jt_not (jt_tru (JE.toO (j_call (h_L_order.mono (by decide : 8 ≤ 9)) hr tk (jx_v (j_var 6) (jx_v (j_var 3) (jx_v (j_var 6) (jx_v (j_var 3) jx_nil)))))))) (jss_one (js_ret j_bl)) jss_nil) (jss_cons (js_if (jt_not (jt_tru (JE.toO (j_call (h_L_order.mono (by decide : 8 ≤ 9)) hr tk (jx_v (j_var 7) (jx_v (j_var 4) (jx_v (j_var 8) (jx_v (j_tup (ja_cons (j_var 5) (ja_cons j_int ja_nil))) jx_nil)))))))) (jss_one (js_ret j_bl)) jss_nil) (jss_cons (js_if (jt_not (jt_tru (JE.toO (j_call (h_L_back.mono (by decide : 8 ≤ 9)) hr tk (jx_v (j_var 6) (jx_v (j_var 3) (jx_v (j_var 7) (jx_v (j_var 4) jx_nil)))))))) (jss_one (js_ret j_bl)) jss_nil) (jss_cons (js_if (jt_not (jt_tru (JE.toO (j_call (h_L_back.mono (by decide : 8 ≤ 9)) hr tk (jx_v (j_var 7) (jx_v (j_var 4) (jx_v (j_var 6) (jx_v (j_var 3) jx_nil)))))))) (jss_one (js_ret j_bl)) jss_nil) (jss_cons (js_if (jt_not (jt_tru (JE.toO (j_call (h_L_totals.mono (by decide : 9 ≤ 9)) hr tk (jx_o 1 (jx_v (j_var 3) (jx_v (j_var 4) jx_nil))))))) (jss_one (js_ret j_bl)) jss_nil) (jss_cons (js_if (JW.t (jw_or (jt_not (jt_tru (JE.toO (j_call (h_L_single.mono (by decide : 8 ≤ 9)) hr tk (jx_v (j_var 6) (jx_v (j_var 3) jx_nil)))))) (jw_or1 (jt_not (jt_tru (JE.toO (j_call (h_L_single.mono (by decide : 8 ≤ 9)) hr tk (jx_v (j_var 7) (jx_v (j_var 4) jx_nil))))))))) (jss_one (js_ret j_bl)) jss_nil) (jss_one (js_ret (j_eqO rfl (op_eqD hu) opS_eq (T_eq_eq_ok h_eq_Ratio (by decide)) hr tk (j_call (h_L_told.mono (by decide : 8 ≤ 9)) hr tk (jx_v j_str (jx_v (j_var 6) (jx_v (j_var 7) jx_nil)))) (j_call (h_L_result.mono (by decide : 3 ≤ 9)) hr tk (jx_v j_str (jx_v (j_var 3) (jx_v (j_var 4) jx_nil)))) (nomark _))))))))))))))))))))))))))))))
theorem fo_law {fa : Addr} {fd : FuncData} {dvs : List V} (F : FunD K "law" "law" (defArgs s_law) (defBody s_law) (defScope s_law) dvs [] fa fd) (M : MF K mg) (h_L_tape : FnJ P w K mg base 1 "_law_tape" 1 F_L_tape) (h_L_signed : FnJ P w K mg base 3 "_law_signed" 2 F_L_signed) (h_mk_Ratio_0 : MkJ P w K mg base 4 "Ratio" 3 [] F_M_Ratio_init) (h_mk_Ratio_1 : MkJ P w K mg base 4 "Ratio" 3 [.int 1] F_M_Ratio_init) (h_eq_Ratio : EqJ P w K mg base 1 "Ratio" F_M_Ratio_eq) (h_L_operations : FnJ P w K mg base 9 "_law_operations" 5 F_L_operations) (h_L_order : FnJ P w K mg base 8 "_law_order" 4 F_L_order) (h_L_back : FnJ P w K mg base 8 "_law_back" 4 F_L_back) (h_L_totals : FnJ P w K mg base 9 "_law_totals" 3 F_L_totals) (h_L_told : FnJ P w K mg base 8 "_law_told" 3 F_L_told) (h_L_result : FnJ P w K mg base 3 "_law_result" 3 F_L_result) (h_L_int : FnJ P w K mg base 1 "_law_int" 1 F_L_int) (h_L_number : FnJ P w K mg base 2 "_law_number" 2 F_L_number) (h_L_single : FnJ P w K mg base 8 "_law_single" 2 F_L_single) (h_L_pair : FnJ P w K mg base 2 "_law_pair" 1 F_L_pair) (hH_L_int : FnHJ P w K mg base 1 "_law_int" 1 F_L_int) : FnOk P w K mg base (L2N.CX P w) 10 fa fd ps_law (spJ K 1 F_law) := by
  obtain ⟨oc, od, dV, kV, doc, pm, an, cdv, ct, osl, rfl, lk, hcd, _, _⟩ := F.ex
  exact fn_J lk hcd sc_law fun A outer s H E hr tk hp => b_law M h_L_tape h_L_signed h_mk_Ratio_0 h_mk_Ratio_1 h_eq_Ratio h_L_operations h_L_order h_L_back h_L_totals h_L_told h_L_result h_L_int h_L_number h_L_single h_L_pair hH_L_int hr tk hp
theorem bn_law {fa : Addr} {fd : FuncData} (F : FunD K "law" "law" (defArgs s_law) (defBody s_law) (defScope s_law) [] [] fa fd) : Binds K fd ps_law [] := F.bindsN fun _ _ _ _ _ _ us hl => match us, hl with | [_], _ => rfl
abbrev si_NumberError : Stmt := memOf 0 (top 4)
def ds_NumberError : DefS := ⟨"NumberError", "__init__", "NumberError.__init__", defArgs si_NumberError, defBody si_NumberError, defScope si_NumberError, PySem.Challenge.pw_nodearer_k01_ratio_arithmetic.main.file⟩
abbrev si_SizeError : Stmt := memOf 0 (top 3)
def ds_SizeError : DefS := ⟨"SizeError", "__init__", "SizeError.__init__", defArgs si_SizeError, defBody si_SizeError, defScope si_SizeError, PySem.Challenge.pw_nodearer_k01_ratio_arithmetic.main.file⟩
def d_L_tape : He5.DefA := ⟨atG "_law_tape", "_law_tape", "_law_tape", defArgs s_L_tape, defBody s_L_tape, defScope s_L_tape, [], []⟩
def d_L_take : He5.DefA := ⟨atG "_law_take", "_law_take", "_law_take", defArgs s_L_take, defBody s_L_take, defScope s_L_take, [], []⟩
def d_L_int : He5.DefA := ⟨atG "_law_int", "_law_int", "_law_int", defArgs s_L_int, defBody s_L_int, defScope s_L_int, [], []⟩
def d_L_common : He5.DefA := ⟨atG "_law_common", "_law_common", "_law_common", defArgs s_L_common, defBody s_L_common, defScope s_L_common, [], []⟩
def d_M_Ratio_eq : He5.DefA := ⟨atM "Ratio" "__eq__", "__eq__", "Ratio.__eq__", defArgs s_M_Ratio_eq, defBody s_M_Ratio_eq, defScope s_M_Ratio_eq, [], []⟩
def d_M_Ratio_bool : He5.DefA := ⟨atM "Ratio" "__bool__", "__bool__", "Ratio.__bool__", defArgs s_M_Ratio_bool, defBody s_M_Ratio_bool, defScope s_M_Ratio_bool, [], []⟩
def d_M_Ratio_compare : He5.DefA := ⟨atM "Ratio" "compare", "compare", "Ratio.compare", defArgs s_M_Ratio_compare, defBody s_M_Ratio_compare, defScope s_M_Ratio_compare, [], []⟩
def d_M_Ratio_floor : He5.DefA := ⟨atM "Ratio" "floor", "floor", "Ratio.floor", defArgs s_M_Ratio_floor, defBody s_M_Ratio_floor, defScope s_M_Ratio_floor, [], []⟩
def d_M_Ratio_ceil : He5.DefA := ⟨atM "Ratio" "ceil", "ceil", "Ratio.ceil", defArgs s_M_Ratio_ceil, defBody s_M_Ratio_ceil, defScope s_M_Ratio_ceil, [], []⟩
def d_L_number : He5.DefA := ⟨atG "_law_number", "_law_number", "_law_number", defArgs s_L_number, defBody s_L_number, defScope s_L_number, [], []⟩
def d_L_due : He5.DefA := ⟨atG "_law_due", "_law_due", "_law_due", defArgs s_L_due, defBody s_L_due, defScope s_L_due, [], []⟩
def d_L_pair : He5.DefA := ⟨atG "_law_pair", "_law_pair", "_law_pair", defArgs s_L_pair, defBody s_L_pair, defScope s_L_pair, [], []⟩
def d_L_rounded : He5.DefA := ⟨atG "_law_rounded", "_law_rounded", "_law_rounded", defArgs s_L_rounded, defBody s_L_rounded, defScope s_L_rounded, [], []⟩
def d_look_number : He5.DefA := ⟨atG "look_number", "look_number", "look_number", defArgs s_look_number, defBody s_look_number, defScope s_look_number, [], []⟩
def d_look_size : He5.DefA := ⟨atG "look_size", "look_size", "look_size", defArgs s_look_size, defBody s_look_size, defScope s_look_size, [], []⟩
def d_L_signed : He5.DefA := ⟨atG "_law_signed", "_law_signed", "_law_signed", defArgs s_L_signed, defBody s_L_signed, defScope s_L_signed, [], []⟩
def d_L_result : He5.DefA := ⟨atG "_law_result", "_law_result", "_law_result", defArgs s_L_result, defBody s_L_result, defScope s_L_result, [], []⟩
def d_P_ratio_parts : He5.DefA := ⟨atG "_ratio_parts", "_ratio_parts", "_ratio_parts", defArgs s_P_ratio_parts, defBody s_P_ratio_parts, defScope s_P_ratio_parts, [], []⟩
def d_M_Ratio_init : He5.DefA := ⟨atM "Ratio" "__init__", "__init__", "Ratio.__init__", defArgs s_M_Ratio_init, defBody s_M_Ratio_init, defScope s_M_Ratio_init, [.int 1], []⟩
def d_P_ratio_lowest : He5.DefA := ⟨atG "_ratio_lowest", "_ratio_lowest", "_ratio_lowest", defArgs s_P_ratio_lowest, defBody s_P_ratio_lowest, defScope s_P_ratio_lowest, [], []⟩
def d_M_Ratio_neg : He5.DefA := ⟨atM "Ratio" "__neg__", "__neg__", "Ratio.__neg__", defArgs s_M_Ratio_neg, defBody s_M_Ratio_neg, defScope s_M_Ratio_neg, [], []⟩
def d_M_Ratio_abs : He5.DefA := ⟨atM "Ratio" "__abs__", "__abs__", "Ratio.__abs__", defArgs s_M_Ratio_abs, defBody s_M_Ratio_abs, defScope s_M_Ratio_abs, [], []⟩
def d_M_Ratio_add : He5.DefA := ⟨atM "Ratio" "__add__", "__add__", "Ratio.__add__", defArgs s_M_Ratio_add, defBody s_M_Ratio_add, defScope s_M_Ratio_add, [], []⟩
def d_M_Ratio_sub : He5.DefA := ⟨atM "Ratio" "__sub__", "__sub__", "Ratio.__sub__", defArgs s_M_Ratio_sub, defBody s_M_Ratio_sub, defScope s_M_Ratio_sub, [], []⟩
def d_M_Ratio_mul : He5.DefA := ⟨atM "Ratio" "__mul__", "__mul__", "Ratio.__mul__", defArgs s_M_Ratio_mul, defBody s_M_Ratio_mul, defScope s_M_Ratio_mul, [], []⟩
def d_M_Ratio_over : He5.DefA := ⟨atM "Ratio" "over", "over", "Ratio.over", defArgs s_M_Ratio_over, defBody s_M_Ratio_over, defScope s_M_Ratio_over, [], []⟩
def d_M_Ratio_total : He5.DefA := ⟨atS "Ratio" "total", "total", "Ratio.total", defArgs s_M_Ratio_total, defBody s_M_Ratio_total, defScope s_M_Ratio_total, [], []⟩
def d_L_told : He5.DefA := ⟨atG "_law_told", "_law_told", "_law_told", defArgs s_L_told, defBody s_L_told, defScope s_L_told, [], []⟩
def d_L_order : He5.DefA := ⟨atG "_law_order", "_law_order", "_law_order", defArgs s_L_order, defBody s_L_order, defScope s_L_order, [], []⟩
def d_L_single : He5.DefA := ⟨atG "_law_single", "_law_single", "_law_single", defArgs s_L_single, defBody s_L_single, defScope s_L_single, [], []⟩
def d_L_back : He5.DefA := ⟨atG "_law_back", "_law_back", "_law_back", defArgs s_L_back, defBody s_L_back, defScope s_L_back, [], []⟩
def d_L_total : He5.DefA := ⟨atG "_law_total", "_law_total", "_law_total", defArgs s_L_total, defBody s_L_total, defScope s_L_total, [], []⟩
def d_L_operations : He5.DefA := ⟨atG "_law_operations", "_law_operations", "_law_operations", defArgs s_L_operations, defBody s_L_operations, defScope s_L_operations, [], []⟩
def d_L_totals : He5.DefA := ⟨atG "_law_totals", "_law_totals", "_law_totals", defArgs s_L_totals, defBody s_L_totals, defScope s_L_totals, [], []⟩
def d_law : He5.DefA := ⟨atG "law", "law", "law", defArgs s_law, defBody s_law, defScope s_law, [], []⟩
def fn : List He5.DefA := [d_L_tape, d_L_take, d_L_int, d_L_common, d_M_Ratio_eq, d_M_Ratio_bool, d_M_Ratio_compare, d_M_Ratio_floor, d_M_Ratio_ceil, d_L_number, d_L_due, d_L_pair, d_L_rounded, d_look_number, d_look_size, d_L_signed, d_L_result, d_P_ratio_parts, d_M_Ratio_init, d_P_ratio_lowest, d_M_Ratio_neg, d_M_Ratio_abs, d_M_Ratio_add, d_M_Ratio_sub, d_M_Ratio_mul, d_M_Ratio_over, d_M_Ratio_total, d_L_told, d_L_order, d_L_single, d_L_back, d_L_total, d_L_operations, d_L_totals, d_law]
def fs : List DefS := [ds_NumberError, ds_SizeError]
def glos : List Str := (["_law_tape", "_law_take", "_law_int", "_law_common", "_law_number", "_law_due", "_law_pair", "_law_rounded", "look_number", "look_size", "_law_signed", "_law_result", "_ratio_parts", "_ratio_lowest", "_law_told"] : List PySem.Str) ++ (["_law_order", "_law_single", "_law_back", "_law_total", "_law_operations", "_law_totals", "law", "NodearerError", "NumberError", "SizeError", "Ratio"] : List PySem.Str)
def fis : List He.Fa := [.int "MOST" gi_MOST, .int "MOST_TOTAL" gi_MOST_TOTAL, .int "MOST_TOTAL_DEN" gi_MOST_TOTAL_DEN]
def fas : List He.Fa := [.cls "Ratio", .noat "Ratio" "den", .noat "Ratio" "num", .meth "Ratio" "floor", .meth "Ratio" "ceil", .mkr "Ratio", .meth "Ratio" "over", .meth "Ratio" "compare"]
def fa : List He.Fa := glos.map .glo ++ (frs.map .free ++ (fis ++ fas))
def fx_NumberError : List Fc := tb_NumberError.map fun p => .old (.exm p.1 "NumberError" p.2)
def fb0 : List Fc := [.old .any, .old (.exc "NumberError"), .old (.exc "SizeError"), .old (.sup "NumberError"), .old (.sup "SizeError"), .old (.noat "NumberError" "number"), .old (.noat "SizeError" "count"), .old (.kit1 "NumberError" (.own "NodearerError") true), .ins "Ratio", .old (.kit1 "Ratio" (.own "Ratio") true), .kitT "NoneType" "Ratio" false, .kitT "bool" "Ratio" false, .kitT "int" "Ratio" false, .kitT "str" "Ratio" false, .kitT "tuple" "Ratio" false, .kitT "list" "Ratio" false, .blt "gcd" "math.gcd", .blt "lcm" "math.lcm", .cm "Ratio" "__eq__", .op "Ratio" "add", .op "Ratio" "sub", .op "Ratio" "mul", .un "Ratio" "__bool__", .un "Ratio" "__neg__", .un "Ratio" "__abs__", .st "Ratio" "total"]
def fb : List Fc := fb0 ++ fx_NumberError
def loose : List PySem.Str := (["gcd", "lcm", "NodearerError", "SizeError", "NumberError", "TextError", "look_number", "look_size", "MOST", "MOST_DIGITS", "MOST_SIGNS", "MOST_TOTAL", "MOST_TOTAL_DEN", "DIGITS", "Ratio"] : List PySem.Str) ++ (["_ratio_parts", "_ratio_lowest", "_behind_digits", "_read_parts", "_law_tape", "_law_take", "_law_number", "_law_signed", "_law_int", "_law_common", "_law_due", "_law_result", "_law_pair", "_law_told", "_law_operations"] : List PySem.Str) ++ (["_law_order", "_law_rounded", "_law_single", "_law_back", "_law_total", "_law_totals"] : List PySem.Str)
abbrev R : PySem.W.OpenRow := PySem.W.OpenLaw.row PySem.Challenge.rw_nodearer_k01_ratio_arithmetic
abbrev hk : PySem.W.Hook := hookK 7 fa fb fn fs
def ob (s : PySem.W.SharedT) : AlK := obsKG 7 fa fb fn fs (HandSHeadRun.getT s)
theorem ob_eq (s : PySem.W.SharedT) : ob s = hk.obs s.abs := obsKG_eq (HandSHeadRun.getT_eq s)
theorem run (w : World) : HandSHeadRun.RunEqI R (PySem.W.view R.prog [0, 39]) hk ob 4000 loose w := by
  unfold HandSHeadRun.RunEqI
  kernel_rfl
theorem gfact (c : SaysK fa fb fn fs K) {x : Str} (h : x ∈ glos) : (He.Fa.glo x).ok K = true := c.alls.1 _ (List.mem_append_left _ (List.mem_map_of_mem h))
theorem ffact (c : SaysK fa fb fn fs K) {x : Str} (h : x ∈ frs) : (He.Fa.free x).ok K = true := c.alls.1 _ (List.mem_append_right _ (List.mem_append_left _ (List.mem_map_of_mem h)))
theorem ifact (c : SaysK fa fb fn fs K) (i : Nat) {f : He.Fa} (h : fis[i]? = some f := by rfl) : f.ok K = true := c.alls.1 _ (List.mem_append_right _ (List.mem_append_right _ (List.mem_append_left _ (List.mem_of_getElem? h))))
theorem afact (c : SaysK fa fb fn fs K) (i : Nat) {f : He.Fa} (h : fas[i]? = some f := by rfl) : f.ok K = true := c.alls.1 _ (List.mem_append_right _ (List.mem_append_right _ (List.mem_append_right _ (List.mem_of_getElem? h))))
theorem bfact (c : SaysK fa fb fn fs K) (i : Nat) {f : Fc} (h : fb0[i]? = some f := by rfl) : f.ok K = true := c.alls.2.1 f (List.mem_append_left _ (List.mem_of_getElem? h))
theorem xfact_NumberError (c : SaysK fa fb fn fs K) : ∀ p ∈ tb_NumberError, PySem.W.exmOne K (.ref (He.ga K p.1)) (.ref (He.ga K "NumberError")) = some p.2 := fun p hp => of_decide_eq_true (c.alls.2.1 (.old (.exm p.1 "NumberError" p.2)) (List.mem_append_right _ (List.mem_map_of_mem hp)))
theorem mf {h : Heap} (KX : K.In h) (G : h.Ns mainGlobals mg) (c : SaysK fa fb fn fs K) : MF K mg where
  fr := fun x hx => He.free_ok KX G (ffact c hx)
  i_MOST := He.int_ok KX G (ifact c 0 (f := .int "MOST" gi_MOST))
  i_MOST_TOTAL := He.int_ok KX G (ifact c 1 (f := .int "MOST_TOTAL" gi_MOST_TOTAL))
  i_MOST_TOTAL_DEN := He.int_ok KX G (ifact c 2 (f := .int "MOST_TOTAL_DEN" gi_MOST_TOTAL_DEN))
  cl_NodearerError := He.glo_ok KX G (gfact c (by decide +kernel))
  cl_NumberError := He.glo_ok KX G (gfact c (by decide +kernel))
  cl_SizeError := He.glo_ok KX G (gfact c (by decide +kernel))
  exm_NumberError := xfact_NumberError c
  fld_NumberError_number := ⟨excB_xf (bfact c 1 (f := .old (.exc "NumberError"))), He.eqO_ok (bfact c 5 (f := .old (.noat "NumberError" "number")))⟩
  exc_NumberError := excB_exc (bfact c 1 (f := .old (.exc "NumberError")))
  kit_0 := of_decide_eq_true (bfact c 7 (f := .old (.kit1 "NumberError" (.own "NodearerError") true)))
  fld_den := fun c e => by
    simp only [okc_den, Bool.or_eq_true, beq_iff_eq] at e
    rcases e with rfl
    · exact ⟨He.cls_ok (afact c 0 (f := .cls "Ratio")), He.noat_ok (afact c 1 (f := .noat "Ratio" "den"))⟩
  fld_num := fun c e => by
    simp only [okc_num, Bool.or_eq_true, beq_iff_eq] at e
    rcases e with rfl
    · exact ⟨He.cls_ok (afact c 0 (f := .cls "Ratio")), He.noat_ok (afact c 2 (f := .noat "Ratio" "num"))⟩
  is_Ratio := by
    refine ⟨fun c b e => ?_, fun t h => ?_⟩
    · unfold isT_Ratio at e
      split at e
      · rename_i z; cases e; subst z; exact ⟨bfact c 8 (f := .ins "Ratio"), of_decide_eq_true (bfact c 9 (f := .old (.kit1 "Ratio" (.own "Ratio") true)))⟩
      cases e
    · simp only [isTs, List.mem_cons, List.not_mem_nil, or_false] at h
      rcases h with rfl | rfl | rfl | rfl | rfl | rfl
      · exact of_decide_eq_true (bfact c 10 (f := .kitT "NoneType" "Ratio" false))
      · exact of_decide_eq_true (bfact c 11 (f := .kitT "bool" "Ratio" false))
      · exact of_decide_eq_true (bfact c 12 (f := .kitT "int" "Ratio" false))
      · exact of_decide_eq_true (bfact c 13 (f := .kitT "str" "Ratio" false))
      · exact of_decide_eq_true (bfact c 14 (f := .kitT "tuple" "Ratio" false))
      · exact of_decide_eq_true (bfact c 15 (f := .kitT "list" "Ratio" false))
  mgc_Ratio := He.glo_ok KX G (gfact c (by decide +kernel))
  b_gcd := blt_ok KX G (bfact c 16 (f := .blt "gcd" "math.gcd"))
  b_lcm := blt_ok KX G (bfact c 17 (f := .blt "lcm" "math.lcm"))
theorem ei_NumberError {h : Heap} (KX : K.In h) (G : h.Ns mainGlobals mg) (c : SaysK fa fb fn fs K) (hP : P.main.file = PySem.Challenge.pw_nodearer_k01_ratio_arithmetic.main.file) (hT : (P.main.scope.names.lookup ("super" : Str)).isSome = false) : ExcJ P w K mg base 1 "NumberError" 1 Fx_NumberError := by
  have T : OexC K (He.ga K "NumberError") := excB_oex (bfact c 1 (f := .old (.exc "NumberError")))
  have S0 := bfact c 3 (f := .old (.sup "NumberError"))
  have S1 : supB K (He.ga K "NumberError") = true := S0
  unfold supB at S1
  simp only [Bool.and_eq_true] at S1
  obtain ⟨u1, u2, u3, u4, u5⟩ := S1
  obtain ⟨fd, F⟩ := c.ini 0 (d := ds_NumberError) rfl
  have bn : Binds K fd ["self", "number"] [] := F.binds fun _ _ _ _ _ _ _ us hl => match us, hl with | [_, _], _ => rfl
  obtain ⟨oc, od, kV, doc, pm, ct, cl, an, cld, cda, cc, osl, csl, ccl, cdd, vs, ccs, file, tf, rfl, lk, hcd, hcell, hcode, hvs, hfile⟩ := F.ex
  have any : PySem.W.nsIn K PySem.cStatics "thirdparty.any" = some none := He.eqO_ok (bfact c 0 (f := .old .any))
  have SF : SupF P K mg (He.ga K "NumberError") cda := ⟨any, He.eqO_ok u1, of_decide_eq_true u2, of_decide_eq_true u3, ⟨ccl, cdd, vs, ccs, file, tf, hcode, hvs, by rw [hP]; exact hfile⟩, He.free_ok KX G (ffact c (by decide +kernel)), hT⟩
  refine ⟨_, _, ["self", "number"], He.glo_ok KX G (gfact c (by decide +kernel)), T, He.eqO_ok u4, of_decide_eq_true u5, rfl, bn, ?_⟩
  refine fn_initJ (N := ["self", "number"]) (ps := ["self", "number"]) (fl := fl_NumberError) lk (fun L => rfl) (fun L => rfl) (fun L => rfl) hcd ⟨rfl, rfl, rfl, by decide +kernel, rfl, by decide +kernel, by decide +kernel, by decide +kernel, rfl, rfl⟩ T SF hcell rfl rfl (by simp [fl_NumberError]) (by simp [fl_NumberError]) (fun p hp => ?_) (fun A outer s H E => (jput_cons (j_var 1) jput_nil rfl))
  simp only [fl_NumberError, List.mem_cons, List.not_mem_nil, or_false] at hp
  rcases hp with rfl
  · exact He.eqO_ok (bfact c 5 (f := .old (.noat "NumberError" "number")))
theorem ei_SizeError {h : Heap} (KX : K.In h) (G : h.Ns mainGlobals mg) (c : SaysK fa fb fn fs K) (hP : P.main.file = PySem.Challenge.pw_nodearer_k01_ratio_arithmetic.main.file) (hT : (P.main.scope.names.lookup ("super" : Str)).isSome = false) : ExcJ P w K mg base 1 "SizeError" 1 Fx_SizeError := by
  have T : OexC K (He.ga K "SizeError") := excB_oex (bfact c 2 (f := .old (.exc "SizeError")))
  have S0 := bfact c 4 (f := .old (.sup "SizeError"))
  have S1 : supB K (He.ga K "SizeError") = true := S0
  unfold supB at S1
  simp only [Bool.and_eq_true] at S1
  obtain ⟨u1, u2, u3, u4, u5⟩ := S1
  obtain ⟨fd, F⟩ := c.ini 1 (d := ds_SizeError) rfl
  have bn : Binds K fd ["self", "count"] [] := F.binds fun _ _ _ _ _ _ _ us hl => match us, hl with | [_, _], _ => rfl
  obtain ⟨oc, od, kV, doc, pm, ct, cl, an, cld, cda, cc, osl, csl, ccl, cdd, vs, ccs, file, tf, rfl, lk, hcd, hcell, hcode, hvs, hfile⟩ := F.ex
  have any : PySem.W.nsIn K PySem.cStatics "thirdparty.any" = some none := He.eqO_ok (bfact c 0 (f := .old .any))
  have SF : SupF P K mg (He.ga K "SizeError") cda := ⟨any, He.eqO_ok u1, of_decide_eq_true u2, of_decide_eq_true u3, ⟨ccl, cdd, vs, ccs, file, tf, hcode, hvs, by rw [hP]; exact hfile⟩, He.free_ok KX G (ffact c (by decide +kernel)), hT⟩
  refine ⟨_, _, ["self", "count"], He.glo_ok KX G (gfact c (by decide +kernel)), T, He.eqO_ok u4, of_decide_eq_true u5, rfl, bn, ?_⟩
  refine fn_initJ (N := ["self", "count"]) (ps := ["self", "count"]) (fl := fl_SizeError) lk (fun L => rfl) (fun L => rfl) (fun L => rfl) hcd ⟨rfl, rfl, rfl, by decide +kernel, rfl, by decide +kernel, by decide +kernel, by decide +kernel, rfl, rfl⟩ T SF hcell rfl rfl (by simp [fl_SizeError]) (by simp [fl_SizeError]) (fun p hp => ?_) (fun A outer s H E => (jput_cons (j_var 1) jput_nil rfl))
  simp only [fl_SizeError, List.mem_cons, List.not_mem_nil, or_false] at hp
  rcases hp with rfl
  · exact He.eqO_ok (bfact c 6 (f := .old (.noat "SizeError" "count")))
theorem facts {h : Heap} {fL : Addr} (KX : K.In h) (G : h.Ns mainGlobals mg) (hl : mg ("law" : Str) = some (.ref fL)) (c : SaysK fa fb fn fs K) (hP : P.main.file = PySem.Challenge.pw_nodearer_k01_ratio_arithmetic.main.file) (hT : (P.main.scope.names.lookup ("super" : Str)).isSome = false) :
    ∃ fd : FuncData, (∀ (s : Shared) (v : Value), BindsTo s fd ⟨[v], []⟩ [("_law_script", v)]) ∧ ∀ base : Heap, FnOk P w K mg base (L2N.CX P w) 10 fL fd ps_law (spJ K 1 F_law) := by
  have M := mf KX G c
  obtain ⟨fd_L_tape, D_L_tape⟩ := c.def_ 0 (d := d_L_tape) rfl
  obtain ⟨fd_L_take, D_L_take⟩ := c.def_ 1 (d := d_L_take) rfl
  obtain ⟨fd_L_int, D_L_int⟩ := c.def_ 2 (d := d_L_int) rfl
  obtain ⟨fd_L_common, D_L_common⟩ := c.def_ 3 (d := d_L_common) rfl
  obtain ⟨fd_M_Ratio_eq, D_M_Ratio_eq⟩ := c.def_ 4 (d := d_M_Ratio_eq) rfl
  obtain ⟨fd_M_Ratio_bool, D_M_Ratio_bool⟩ := c.def_ 5 (d := d_M_Ratio_bool) rfl
  obtain ⟨fd_M_Ratio_compare, D_M_Ratio_compare⟩ := c.def_ 6 (d := d_M_Ratio_compare) rfl
  obtain ⟨fd_M_Ratio_floor, D_M_Ratio_floor⟩ := c.def_ 7 (d := d_M_Ratio_floor) rfl
  obtain ⟨fd_M_Ratio_ceil, D_M_Ratio_ceil⟩ := c.def_ 8 (d := d_M_Ratio_ceil) rfl
  obtain ⟨fd_L_number, D_L_number⟩ := c.def_ 9 (d := d_L_number) rfl
  obtain ⟨fd_L_due, D_L_due⟩ := c.def_ 10 (d := d_L_due) rfl
  obtain ⟨fd_L_pair, D_L_pair⟩ := c.def_ 11 (d := d_L_pair) rfl
  obtain ⟨fd_L_rounded, D_L_rounded⟩ := c.def_ 12 (d := d_L_rounded) rfl
  obtain ⟨fd_look_number, D_look_number⟩ := c.def_ 13 (d := d_look_number) rfl
  obtain ⟨fd_look_size, D_look_size⟩ := c.def_ 14 (d := d_look_size) rfl
  obtain ⟨fd_L_signed, D_L_signed⟩ := c.def_ 15 (d := d_L_signed) rfl
  obtain ⟨fd_L_result, D_L_result⟩ := c.def_ 16 (d := d_L_result) rfl
  obtain ⟨fd_P_ratio_parts, D_P_ratio_parts⟩ := c.def_ 17 (d := d_P_ratio_parts) rfl
  obtain ⟨fd_M_Ratio_init, D_M_Ratio_init⟩ := c.def_ 18 (d := d_M_Ratio_init) rfl
  obtain ⟨fd_P_ratio_lowest, D_P_ratio_lowest⟩ := c.def_ 19 (d := d_P_ratio_lowest) rfl
  obtain ⟨fd_M_Ratio_neg, D_M_Ratio_neg⟩ := c.def_ 20 (d := d_M_Ratio_neg) rfl
  obtain ⟨fd_M_Ratio_abs, D_M_Ratio_abs⟩ := c.def_ 21 (d := d_M_Ratio_abs) rfl
  obtain ⟨fd_M_Ratio_add, D_M_Ratio_add⟩ := c.def_ 22 (d := d_M_Ratio_add) rfl
  obtain ⟨fd_M_Ratio_sub, D_M_Ratio_sub⟩ := c.def_ 23 (d := d_M_Ratio_sub) rfl
  obtain ⟨fd_M_Ratio_mul, D_M_Ratio_mul⟩ := c.def_ 24 (d := d_M_Ratio_mul) rfl
  obtain ⟨fd_M_Ratio_over, D_M_Ratio_over⟩ := c.def_ 25 (d := d_M_Ratio_over) rfl
  obtain ⟨fd_M_Ratio_total, D_M_Ratio_total⟩ := c.def_ 26 (d := d_M_Ratio_total) rfl
  obtain ⟨fd_L_told, D_L_told⟩ := c.def_ 27 (d := d_L_told) rfl
  obtain ⟨fd_L_order, D_L_order⟩ := c.def_ 28 (d := d_L_order) rfl
  obtain ⟨fd_L_single, D_L_single⟩ := c.def_ 29 (d := d_L_single) rfl
  obtain ⟨fd_L_back, D_L_back⟩ := c.def_ 30 (d := d_L_back) rfl
  obtain ⟨fd_L_total, D_L_total⟩ := c.def_ 31 (d := d_L_total) rfl
  obtain ⟨fd_L_operations, D_L_operations⟩ := c.def_ 32 (d := d_L_operations) rfl
  obtain ⟨fd_L_totals, D_L_totals⟩ := c.def_ 33 (d := d_L_totals) rfl
  obtain ⟨fd_law, D_law⟩ := c.def_ 34 (d := d_law) rfl
  have e := hl.symm.trans (He.glo_ok KX G (gfact c (x := "law") (by decide +kernel)))
  cases e
  have b := FunD.bindsA (ps := ps_law) D_law fun _ _ _ _ _ _ us hl => match us, hl with | [_], _ => rfl
  refine ⟨fd_law, fun s v => b s [v] rfl, fun base => ?_⟩
  have e_NumberError : ExcJ P w K mg base 1 "NumberError" 1 Fx_NumberError := ei_NumberError KX G c hP hT
  have e_SizeError : ExcJ P w K mg base 1 "SizeError" 1 Fx_SizeError := ei_SizeError KX G c hP hT
  have fo_L_tape : FnOk P w K mg base (L2N.CX P w) 1 _ fd_L_tape ps_L_tape (spJ K 1 F_L_tape) := fo_L_tape D_L_tape M 
  have h_L_tape : FnJ P w K mg base 1 "_law_tape" 1 F_L_tape := ⟨_, fd_L_tape, ps_L_tape, He.glo_ok KX G (gfact c (x := "_law_tape") (by decide +kernel)), D_L_tape.kp, rfl, bn_L_tape D_L_tape, fo_L_tape⟩
  have fo_L_take : FnOk P w K mg base (L2N.CX P w) 1 _ fd_L_take ps_L_take (spJ K 3 F_L_take) := fo_L_take D_L_take M 
  have h_L_take : FnJ P w K mg base 1 "_law_take" 3 F_L_take := ⟨_, fd_L_take, ps_L_take, He.glo_ok KX G (gfact c (x := "_law_take") (by decide +kernel)), D_L_take.kp, rfl, bn_L_take D_L_take, fo_L_take⟩
  have fo_L_int : FnOk P w K mg base (L2N.CX P w) 1 _ fd_L_int ps_L_int (spJ K 1 F_L_int) := fo_L_int D_L_int M 
  have hH_L_int : FnHJ P w K mg base 1 "_law_int" 1 F_L_int := okH_L_int D_L_int (He.glo_ok KX G (gfact c (by decide +kernel))) M
  have h_L_int : FnJ P w K mg base 1 "_law_int" 1 F_L_int := ⟨_, fd_L_int, ps_L_int, He.glo_ok KX G (gfact c (x := "_law_int") (by decide +kernel)), D_L_int.kp, rfl, bn_L_int D_L_int, fo_L_int⟩
  have fo_L_common : FnOk P w K mg base (L2N.CX P w) 1 _ fd_L_common ps_L_common (spJ K 2 F_L_common) := fo_L_common D_L_common M 
  have h_L_common : FnJ P w K mg base 1 "_law_common" 2 F_L_common := ⟨_, fd_L_common, ps_L_common, He.glo_ok KX G (gfact c (x := "_law_common") (by decide +kernel)), D_L_common.kp, rfl, bn_L_common D_L_common, fo_L_common⟩
  have fo_M_Ratio_eq : FnOk P w K mg base (L2N.CX P w) 1 _ fd_M_Ratio_eq ps_M_Ratio_eq (spJ K 2 F_M_Ratio_eq) := fo_M_Ratio_eq D_M_Ratio_eq M 
  have h_eq_Ratio : EqJ P w K mg base 1 "Ratio" F_M_Ratio_eq := ⟨bfact c 18 (f := .cm "Ratio" "__eq__"), fd_M_Ratio_eq, ps_M_Ratio_eq, bn_M_Ratio_eq D_M_Ratio_eq, fo_M_Ratio_eq⟩
  have fo_M_Ratio_bool : FnOk P w K mg base (L2N.CX P w) 1 _ fd_M_Ratio_bool ps_M_Ratio_bool (spJ K 1 F_M_Ratio_bool) := fo_M_Ratio_bool D_M_Ratio_bool M 
  have h_un_Ratio_bool : UnJ P w K mg base 1 "__bool__" "Ratio" F_M_Ratio_bool := ⟨bfact c 22 (f := .un "Ratio" "__bool__"), fd_M_Ratio_bool, ps_M_Ratio_bool, bn_M_Ratio_bool D_M_Ratio_bool, fo_M_Ratio_bool⟩
  have fo_M_Ratio_compare : FnOk P w K mg base (L2N.CX P w) 1 _ fd_M_Ratio_compare ps_M_Ratio_compare (spJ K 2 F_M_Ratio_compare) := fo_M_Ratio_compare D_M_Ratio_compare M 
  have h_mt_Ratio_compare_0 : MtJ P w K mg base 1 "compare" 2 [] "Ratio" F_M_Ratio_compare := ⟨_, fd_M_Ratio_compare, ps_M_Ratio_compare, [], [], He.cls_ok (afact c 0 (f := .cls "Ratio")), He.meth_ok (afact c 7 (f := .meth "Ratio" "compare")), bn_M_Ratio_compare D_M_Ratio_compare, .nil, fun _ => .nil, fo_M_Ratio_compare⟩
  have fo_M_Ratio_floor : FnOk P w K mg base (L2N.CX P w) 1 _ fd_M_Ratio_floor ps_M_Ratio_floor (spJ K 1 F_M_Ratio_floor) := fo_M_Ratio_floor D_M_Ratio_floor M 
  have h_mt_Ratio_floor_0 : MtJ P w K mg base 1 "floor" 1 [] "Ratio" F_M_Ratio_floor := ⟨_, fd_M_Ratio_floor, ps_M_Ratio_floor, [], [], He.cls_ok (afact c 0 (f := .cls "Ratio")), He.meth_ok (afact c 3 (f := .meth "Ratio" "floor")), bn_M_Ratio_floor D_M_Ratio_floor, .nil, fun _ => .nil, fo_M_Ratio_floor⟩
  have fo_M_Ratio_ceil : FnOk P w K mg base (L2N.CX P w) 1 _ fd_M_Ratio_ceil ps_M_Ratio_ceil (spJ K 1 F_M_Ratio_ceil) := fo_M_Ratio_ceil D_M_Ratio_ceil M 
  have h_mt_Ratio_ceil_0 : MtJ P w K mg base 1 "ceil" 1 [] "Ratio" F_M_Ratio_ceil := ⟨_, fd_M_Ratio_ceil, ps_M_Ratio_ceil, [], [], He.cls_ok (afact c 0 (f := .cls "Ratio")), He.meth_ok (afact c 4 (f := .meth "Ratio" "ceil")), bn_M_Ratio_ceil D_M_Ratio_ceil, .nil, fun _ => .nil, fo_M_Ratio_ceil⟩
  have fo_L_number : FnOk P w K mg base (L2N.CX P w) 2 _ fd_L_number ps_L_number (spJ K 2 F_L_number) := fo_L_number D_L_number M h_L_take
  have h_L_number : FnJ P w K mg base 2 "_law_number" 2 F_L_number := ⟨_, fd_L_number, ps_L_number, He.glo_ok KX G (gfact c (x := "_law_number") (by decide +kernel)), D_L_number.kp, rfl, bn_L_number D_L_number, fo_L_number⟩
  have fo_L_due : FnOk P w K mg base (L2N.CX P w) 2 _ fd_L_due ps_L_due (spJ K 2 F_L_due) := fo_L_due D_L_due M h_L_common
  have h_L_due : FnJ P w K mg base 2 "_law_due" 2 F_L_due := ⟨_, fd_L_due, ps_L_due, He.glo_ok KX G (gfact c (x := "_law_due") (by decide +kernel)), D_L_due.kp, rfl, bn_L_due D_L_due, fo_L_due⟩
  have fo_L_pair : FnOk P w K mg base (L2N.CX P w) 2 _ fd_L_pair ps_L_pair (spJ K 1 F_L_pair) := fo_L_pair D_L_pair M h_L_int hH_L_int
  have h_L_pair : FnJ P w K mg base 2 "_law_pair" 1 F_L_pair := ⟨_, fd_L_pair, ps_L_pair, He.glo_ok KX G (gfact c (x := "_law_pair") (by decide +kernel)), D_L_pair.kp, rfl, bn_L_pair D_L_pair, fo_L_pair⟩
  have fo_L_rounded : FnOk P w K mg base (L2N.CX P w) 2 _ fd_L_rounded ps_L_rounded (spJ K 2 F_L_rounded) := fo_L_rounded D_L_rounded M h_mt_Ratio_floor_0 h_mt_Ratio_ceil_0 h_L_int hH_L_int
  have h_L_rounded : FnJ P w K mg base 2 "_law_rounded" 2 F_L_rounded := ⟨_, fd_L_rounded, ps_L_rounded, He.glo_ok KX G (gfact c (x := "_law_rounded") (by decide +kernel)), D_L_rounded.kp, rfl, bn_L_rounded D_L_rounded, fo_L_rounded⟩
  have fo_look_number : FnOk P w K mg base (L2N.CX P w) 3 _ fd_look_number ps_look_number (spJ K 3 F_look_number) := fo_look_number D_look_number M e_NumberError
  have h_look_number : FnJ P w K mg base 3 "look_number" 3 F_look_number := ⟨_, fd_look_number, ps_look_number, He.glo_ok KX G (gfact c (x := "look_number") (by decide +kernel)), D_look_number.kp, rfl, bn_look_number D_look_number, fo_look_number⟩
  have fo_look_size : FnOk P w K mg base (L2N.CX P w) 3 _ fd_look_size ps_look_size (spJ K 3 F_look_size) := fo_look_size D_look_size M e_SizeError
  have h_look_size : FnJ P w K mg base 3 "look_size" 3 F_look_size := ⟨_, fd_look_size, ps_look_size, He.glo_ok KX G (gfact c (x := "look_size") (by decide +kernel)), D_look_size.kp, rfl, bn_look_size D_look_size, fo_look_size⟩
  have fo_L_signed : FnOk P w K mg base (L2N.CX P w) 3 _ fd_L_signed ps_L_signed (spJ K 2 F_L_signed) := fo_L_signed D_L_signed M h_L_take h_L_number
  have h_L_signed : FnJ P w K mg base 3 "_law_signed" 2 F_L_signed := ⟨_, fd_L_signed, ps_L_signed, He.glo_ok KX G (gfact c (x := "_law_signed") (by decide +kernel)), D_L_signed.kp, rfl, bn_L_signed D_L_signed, fo_L_signed⟩
  have fo_L_result : FnOk P w K mg base (L2N.CX P w) 3 _ fd_L_result ps_L_result (spJ K 3 F_L_result) := fo_L_result D_L_result M h_L_due
  have h_L_result : FnJ P w K mg base 3 "_law_result" 3 F_L_result := ⟨_, fd_L_result, ps_L_result, He.glo_ok KX G (gfact c (x := "_law_result") (by decide +kernel)), D_L_result.kp, rfl, bn_L_result D_L_result, fo_L_result⟩
  have fo_P_ratio_parts : FnOk P w K mg base (L2N.CX P w) 4 _ fd_P_ratio_parts ps_P_ratio_parts (spJ K 1 F_P_ratio_parts) := fo_P_ratio_parts D_P_ratio_parts M h_look_number
  have h_P_ratio_parts : FnJ P w K mg base 4 "_ratio_parts" 1 F_P_ratio_parts := ⟨_, fd_P_ratio_parts, ps_P_ratio_parts, He.glo_ok KX G (gfact c (x := "_ratio_parts") (by decide +kernel)), D_P_ratio_parts.kp, rfl, bn_P_ratio_parts D_P_ratio_parts, fo_P_ratio_parts⟩
  have fo_M_Ratio_init : FnOk P w K mg base (L2N.CX P w) 4 _ fd_M_Ratio_init ps_M_Ratio_init (spJ K 3 F_M_Ratio_init) := fo_M_Ratio_init D_M_Ratio_init M h_look_number
  obtain ⟨ds_M_Ratio_init_0, v_M_Ratio_init_0, b_M_Ratio_init_0⟩ := bn_M_Ratio_init_0 D_M_Ratio_init
  cases v_M_Ratio_init_0
  have h_mk_Ratio_0 : MkJ P w K mg base 4 "Ratio" 3 [] F_M_Ratio_init := ⟨_, fd_M_Ratio_init, ps_M_Ratio_init, [], [], He.mkr_ok (afact c 5 (f := .mkr "Ratio")), M.mgc_Ratio, b_M_Ratio_init_0, .nil, fun _ => .nil, fo_M_Ratio_init⟩
  obtain ⟨ds_M_Ratio_init_1, v_M_Ratio_init_1, b_M_Ratio_init_1⟩ := bn_M_Ratio_init_1 D_M_Ratio_init
  have h_mk_Ratio_1 : MkJ P w K mg base 4 "Ratio" 3 [.int 1] F_M_Ratio_init := ⟨_, fd_M_Ratio_init, ps_M_Ratio_init, _, _, He.mkr_ok (afact c 5 (f := .mkr "Ratio")), M.mgc_Ratio, b_M_Ratio_init_1, v_M_Ratio_init_1, fun _ => .cons (.int _) (.nil), fo_M_Ratio_init⟩
  have fo_P_ratio_lowest : FnOk P w K mg base (L2N.CX P w) 6 _ fd_P_ratio_lowest ps_P_ratio_lowest (spJ K 2 F_P_ratio_lowest) := fo_P_ratio_lowest D_P_ratio_lowest M h_mk_Ratio_0
  have h_P_ratio_lowest : FnJ P w K mg base 6 "_ratio_lowest" 2 F_P_ratio_lowest := ⟨_, fd_P_ratio_lowest, ps_P_ratio_lowest, He.glo_ok KX G (gfact c (x := "_ratio_lowest") (by decide +kernel)), D_P_ratio_lowest.kp, rfl, bn_P_ratio_lowest D_P_ratio_lowest, fo_P_ratio_lowest⟩
  have fo_M_Ratio_neg : FnOk P w K mg base (L2N.CX P w) 6 _ fd_M_Ratio_neg ps_M_Ratio_neg (spJ K 1 F_M_Ratio_neg) := fo_M_Ratio_neg D_M_Ratio_neg M h_mk_Ratio_0
  have h_un_Ratio_neg : UnJ P w K mg base 6 "__neg__" "Ratio" F_M_Ratio_neg := ⟨bfact c 23 (f := .un "Ratio" "__neg__"), fd_M_Ratio_neg, ps_M_Ratio_neg, bn_M_Ratio_neg D_M_Ratio_neg, fo_M_Ratio_neg⟩
  have fo_M_Ratio_abs : FnOk P w K mg base (L2N.CX P w) 6 _ fd_M_Ratio_abs ps_M_Ratio_abs (spJ K 1 F_M_Ratio_abs) := fo_M_Ratio_abs D_M_Ratio_abs M h_mk_Ratio_0
  have h_un_Ratio_abs : UnJ P w K mg base 6 "__abs__" "Ratio" F_M_Ratio_abs := ⟨bfact c 24 (f := .un "Ratio" "__abs__"), fd_M_Ratio_abs, ps_M_Ratio_abs, bn_M_Ratio_abs D_M_Ratio_abs, fo_M_Ratio_abs⟩
  have fo_M_Ratio_add : FnOk P w K mg base (L2N.CX P w) 7 _ fd_M_Ratio_add ps_M_Ratio_add (spJ K 2 F_M_Ratio_add) := fo_M_Ratio_add D_M_Ratio_add M h_P_ratio_parts h_P_ratio_lowest
  have h_op_Ratio_add : OpJ P w K mg base 7 .Add "Ratio" F_M_Ratio_add := OpJ.of (m := "__add__") rfl (bfact c 19 (f := .op "Ratio" "add")) (bn_M_Ratio_add D_M_Ratio_add) fo_M_Ratio_add
  have fo_M_Ratio_sub : FnOk P w K mg base (L2N.CX P w) 7 _ fd_M_Ratio_sub ps_M_Ratio_sub (spJ K 2 F_M_Ratio_sub) := fo_M_Ratio_sub D_M_Ratio_sub M h_P_ratio_parts h_P_ratio_lowest
  have h_op_Ratio_sub : OpJ P w K mg base 7 .Sub "Ratio" F_M_Ratio_sub := OpJ.of (m := "__sub__") rfl (bfact c 20 (f := .op "Ratio" "sub")) (bn_M_Ratio_sub D_M_Ratio_sub) fo_M_Ratio_sub
  have fo_M_Ratio_mul : FnOk P w K mg base (L2N.CX P w) 7 _ fd_M_Ratio_mul ps_M_Ratio_mul (spJ K 2 F_M_Ratio_mul) := fo_M_Ratio_mul D_M_Ratio_mul M h_P_ratio_parts h_P_ratio_lowest
  have h_op_Ratio_mul : OpJ P w K mg base 7 .Mult "Ratio" F_M_Ratio_mul := OpJ.of (m := "__mul__") rfl (bfact c 21 (f := .op "Ratio" "mul")) (bn_M_Ratio_mul D_M_Ratio_mul) fo_M_Ratio_mul
  have fo_M_Ratio_over : FnOk P w K mg base (L2N.CX P w) 7 _ fd_M_Ratio_over ps_M_Ratio_over (spJ K 2 F_M_Ratio_over) := fo_M_Ratio_over D_M_Ratio_over M h_P_ratio_lowest e_NumberError
  have h_mt_Ratio_over_0 : MtJ P w K mg base 7 "over" 2 [] "Ratio" F_M_Ratio_over := ⟨_, fd_M_Ratio_over, ps_M_Ratio_over, [], [], He.cls_ok (afact c 0 (f := .cls "Ratio")), He.meth_ok (afact c 6 (f := .meth "Ratio" "over")), bn_M_Ratio_over D_M_Ratio_over, .nil, fun _ => .nil, fo_M_Ratio_over⟩
  have fo_M_Ratio_total : FnOk P w K mg base (L2N.CX P w) 7 _ fd_M_Ratio_total ps_M_Ratio_total (spJ K 1 F_M_Ratio_total) := fo_M_Ratio_total D_M_Ratio_total M h_look_size h_P_ratio_lowest h_look_number
  have h_st_Ratio_total : StJ P w K mg base 7 "Ratio" "total" 1 F_M_Ratio_total := ⟨M.mgc_Ratio, _, fd_M_Ratio_total, ps_M_Ratio_total, bfact c 25 (f := .st "Ratio" "total"), bn_M_Ratio_total D_M_Ratio_total, fo_M_Ratio_total⟩
  have fo_L_told : FnOk P w K mg base (L2N.CX P w) 8 _ fd_L_told ps_L_told (spJ K 3 F_L_told) := fo_L_told D_L_told M h_L_pair h_eq_Ratio h_op_Ratio_add h_op_Ratio_sub h_op_Ratio_mul h_mt_Ratio_over_0 h_L_int hH_L_int
  have h_L_told : FnJ P w K mg base 8 "_law_told" 3 F_L_told := ⟨_, fd_L_told, ps_L_told, He.glo_ok KX G (gfact c (x := "_law_told") (by decide +kernel)), D_L_told.kp, rfl, bn_L_told D_L_told, fo_L_told⟩
  have fo_L_order : FnOk P w K mg base (L2N.CX P w) 8 _ fd_L_order ps_L_order (spJ K 4 F_L_order) := fo_L_order D_L_order M h_op_Ratio_mul h_mt_Ratio_compare_0 h_eq_Ratio h_L_int h_op_Ratio_sub hH_L_int
  have h_L_order : FnJ P w K mg base 8 "_law_order" 4 F_L_order := ⟨_, fd_L_order, ps_L_order, He.glo_ok KX G (gfact c (x := "_law_order") (by decide +kernel)), D_L_order.kp, rfl, bn_L_order D_L_order, fo_L_order⟩
  have fo_L_single : FnOk P w K mg base (L2N.CX P w) 8 _ fd_L_single ps_L_single (spJ K 2 F_L_single) := fo_L_single D_L_single M h_L_due h_un_Ratio_bool h_eq_Ratio h_L_rounded h_L_pair h_mk_Ratio_0 h_un_Ratio_neg h_un_Ratio_abs
  have h_L_single : FnJ P w K mg base 8 "_law_single" 2 F_L_single := ⟨_, fd_L_single, ps_L_single, He.glo_ok KX G (gfact c (x := "_law_single") (by decide +kernel)), D_L_single.kp, rfl, bn_L_single D_L_single, fo_L_single⟩
  have fo_L_back : FnOk P w K mg base (L2N.CX P w) 8 _ fd_L_back ps_L_back (spJ K 4 F_L_back) := fo_L_back D_L_back M h_L_due h_eq_Ratio h_L_result h_L_pair h_op_Ratio_sub h_op_Ratio_mul h_op_Ratio_add h_mt_Ratio_over_0
  have h_L_back : FnJ P w K mg base 8 "_law_back" 4 F_L_back := ⟨_, fd_L_back, ps_L_back, He.glo_ok KX G (gfact c (x := "_law_back") (by decide +kernel)), D_L_back.kp, rfl, bn_L_back D_L_back, fo_L_back⟩
  have fo_L_total : FnOk P w K mg base (L2N.CX P w) 8 _ fd_L_total ps_L_total (spJ K 1 F_L_total) := fo_L_total D_L_total M h_L_pair h_st_Ratio_total h_L_int hH_L_int
  have h_L_total : FnJ P w K mg base 8 "_law_total" 1 F_L_total := ⟨_, fd_L_total, ps_L_total, He.glo_ok KX G (gfact c (x := "_law_total") (by decide +kernel)), D_L_total.kp, rfl, bn_L_total D_L_total, fo_L_total⟩
  have fo_L_operations : FnOk P w K mg base (L2N.CX P w) 9 _ fd_L_operations ps_L_operations (spJ K 5 F_L_operations) := fo_L_operations D_L_operations M h_L_told h_L_result
  have h_L_operations : FnJ P w K mg base 9 "_law_operations" 5 F_L_operations := ⟨_, fd_L_operations, ps_L_operations, He.glo_ok KX G (gfact c (x := "_law_operations") (by decide +kernel)), D_L_operations.kp, rfl, bn_L_operations D_L_operations, fo_L_operations⟩
  have fo_L_totals : FnOk P w K mg base (L2N.CX P w) 9 _ fd_L_totals ps_L_totals (spJ K 3 F_L_totals) := fo_L_totals D_L_totals M h_L_take h_L_due h_mk_Ratio_0 h_L_pair h_L_total
  have h_L_totals : FnJ P w K mg base 9 "_law_totals" 3 F_L_totals := ⟨_, fd_L_totals, ps_L_totals, He.glo_ok KX G (gfact c (x := "_law_totals") (by decide +kernel)), D_L_totals.kp, rfl, bn_L_totals D_L_totals, fo_L_totals⟩
  exact fo_law D_law M h_L_tape h_L_signed h_mk_Ratio_0 h_mk_Ratio_1 h_eq_Ratio h_L_operations h_L_order h_L_back h_L_totals h_L_told h_L_result h_L_int h_L_number h_L_single h_L_pair hH_L_int
end
end Lw

namespace J
open PySem PySem.Spec PyProof.Rows L2
section
variable {α : Type} (E : J.Env)
@[simp] theorem u_fVar (i : Nat) : fVar i E = (match E[i]? with | some (.val d) => .ok d E | _ => .stuck) := rfl
@[simp] theorem u_fBor (i : Nat) : fBor i E = (match E[i]? with | some (.own _ l) => .ok (.lst l) E | some (.val d) => .ok d E | _ => .stuck) := rfl
@[simp] theorem u_fC (d : D) : fC d E = .ok d E := rfl
@[simp] theorem u_getV (i : Nat) : getV i E = (match E[i]? with | some (.val d) => some d | _ => none) := rfl
@[simp] theorem u_fop (g : D → D → Option D) (a b : J.Env → R D) : fop g a b E = (a E).bind fun x E => (b E).bind fun y E => match g x y with | some d => .ok d E | none => .stuck := rfl
@[simp] theorem u_fopB (g : D → D → Option D) (a : J.Env → R D) (b : J.Env → Option D) : fopB g a b E = (a E).bind fun x E => match (b E).bind (g x) with | some d => .ok d E | none => .stuck := rfl
@[simp] theorem u_fopL (g : D → D → Option D) (a b : J.Env → R D) : fopL g a b E = (a E).bind fun a E => (b E).bind fun b E => match a, g a b with | .lst _, some (.lst l) => .ok l E | _, _ => .stuck := rfl
@[simp] theorem u_fun1 (g : D → Option D) (a : J.Env → R D) : fun1 g a E = (a E).bind fun x E => match g x with | some d => .ok d E | none => .stuck := rfl
@[simp] theorem u_fun1L (g : D → Option (List D)) (a : J.Env → R D) : fun1L g a E = (a E).bind fun x E => match g x with | some d => .ok d E | none => .stuck := rfl
@[simp] theorem u_fTest (a : J.Env → R D) : fTest a E = (a E).bind fun d E => match d with | .bl k => .ok k E | _ => .stuck := rfl
@[simp] theorem u_fTru (a : J.Env → R D) : fTru a E = (a E).bind fun d E => match truD d with | some k => .ok k E | none => .stuck := rfl
@[simp] theorem u_fAnd (f g : J.Env → R Bool) : fAnd f g E = (f E).bind fun a E => if a = true then g E else .ok false E := rfl
@[simp] theorem u_fOr (f g : J.Env → R Bool) : fOr f g E = (f E).bind fun a E => if a = true then .ok true E else g E := rfl
@[simp] theorem u_fNot (f : J.Env → R Bool) : fNot f E = (f E).bind fun a E => .ok (!a) E := rfl
@[simp] theorem u_fAndV (f g : J.Env → R D) : fAndV f g E = (f E).bind fun a E => match a with | .bl true => g E | .bl false => .ok (.bl false) E | _ => .stuck := rfl
@[simp] theorem u_fNil : fNil E = .ok [] E := rfl
@[simp] theorem u_fCons (a : J.Env → R D) (r : J.Env → R (List D)) : fCons a r E = (a E).bind fun a E => (r E).bind fun r E => .ok (a :: r) E := rfl
@[simp] theorem u_fTup (r : J.Env → R (List D)) : fTup r E = (r E).bind fun l E => if l.length ≤ 16777216 then .ok (.tup l) E else .stuck := rfl
@[simp] theorem u_fLst (r : J.Env → R (List D)) : fLst r E = (r E).bind fun l E => if l.length ≤ 16777216 then .ok l E else .stuck := rfl
@[simp] theorem u_fPub (r : J.Env → R (List D)) : fPub r E = (r E).bind fun l E => .ok (.lst l) E := rfl
@[simp] theorem u_fGive (i : Nat) : fGive i E = (match E[i]? with | some (.own false l) => .ok l (E.set i .no) | _ => .stuck) := rfl
@[simp] theorem u_fPop (i : Nat) : fPop i E = (match E[i]? with | some (.own b l) => (match l[l.length - 1]? with | some d => .ok d (E.set i (.own b l.dropLast)) | none => .stuck) | _ => .stuck) := rfl
@[simp] theorem u_fChain (g g' : D → D → Option D) (fa fb fc : J.Env → R D) : fChain g g' fa fb fc E = (fa E).bind fun a E => (fb E).bind fun b E => match g a b with | some (.bl true) => ((fc E).bind fun c E => match g' b c with | some d => .ok d E | none => .stuck) | some (.bl false) => .ok (.bl false) E | _ => .stuck := rfl
@[simp] theorem u_fCut (a : J.Env → R D) (lo hi : J.Env → Option (Option Int)) : fCut a lo hi E = (a E).bind fun a E => match (lo E).bind fun l => (hi E).bind fun h => gCut a l h with | some d => .ok d E | none => .stuck := rfl
@[simp] theorem u_fCutL (a : J.Env → R D) (lo hi : J.Env → Option (Option Int)) : fCutL a lo hi E = (a E).bind fun a E => match (lo E).bind fun l => (hi E).bind fun h => (listD a).map fun xs => cutD xs l h with | some d => .ok d E | none => .stuck := rfl
@[simp] theorem u_fRng1 (a : J.Env → R D) : fRng1 a E = (a E).bind fun a E => match a with | .int j => if smI j = true then .ok (upD 0 j.toNat) E else .stuck | _ => .stuck := rfl
@[simp] theorem u_fRng2 (a b : J.Env → R D) : fRng2 a b E = (a E).bind fun a E => (b E).bind fun b E => match a, b with | .int i, .int j => if (smI i && smI j) = true then .ok (upD i (j - i).toNat) E else .stuck | _, _ => .stuck := rfl
@[simp] theorem u_xNil : xNil E = .ok [] E := rfl
@[simp] theorem u_xV (a : J.Env → R D) (r : J.Env → R (List Ar)) : xV a r E = (a E).bind fun a E => (r E).bind fun r E => .ok (.v a :: r) E := rfl
@[simp] theorem u_xO (i : Nat) (r : J.Env → R (List Ar)) : xO i r E = (match E[i]? with
  | some (.own _ _) => (r E).bind fun r E => .ok (.o i :: r) E
  | some (.obj _ _ _ _) => (r E).bind fun r E => .ok (.o i :: r) E
  | _ => .stuck) := rfl
@[simp] theorem u_fCallR (n : Nat) (F : DF) (fa : J.Env → R (List Ar)) (k : RV → Option α) : fCallR n F fa k E = (fa E).bind fun as E1 => match (if (ndA (ownsA as) && as.length == n) = true then argS E1 as else none) with
  | none => .stuck
  | some ss => match F ss with
    | .ok rv Ec => (match k rv with | some d => .ok d (backE Ec 0 as E1) | none => .stuck)
    | .exc x Ec => .exc x (backE Ec 0 as E1)
    | .stuck => .stuck := rfl
@[simp] theorem u_rvDv (d : D) : rvD (.v d) = some d := rfl
@[simp] theorem u_rvDl (d : List D) : rvD (.l d) = some (.lst d) := rfl
@[simp] theorem u_rvLl (d : List D) : rvL (.l d) = some d := rfl
@[simp] theorem u_sNil : sNil E = .nx E := rfl
@[simp] theorem u_sSeq (f g : J.Env → RS) : sSeq f g E = (f E).seq g := rfl
@[simp] theorem u_sExpr (f : J.Env → R D) : sExpr f E = (f E).bindS fun _ E => .nx E := rfl
@[simp] theorem u_sRet (f : J.Env → R D) : sRet f E = (f E).bindS fun d E => .rt (.v d) E := rfl
@[simp] theorem u_sRetL (f : J.Env → R (List D)) : sRetL f E = (f E).bindS fun d E => .rt (.l d) E := rfl
@[simp] theorem u_sIf (t : J.Env → R Bool) (f g : J.Env → RS) : sIf t f g E = (t E).bindS fun k E => if k = true then f E else g E := rfl
@[simp] theorem u_sSet (i : Nat) (f : J.Env → R D) : sSet i f E = (f E).bindS fun d E => .nx (E.set i (.val d)) := rfl
@[simp] theorem u_sSetL (i : Nat) (f : J.Env → R (List D)) : sSetL i f E = (f E).bindS fun l E => .nx (E.set i (.own false l)) := rfl
@[simp] theorem u_sAsg (f : J.Env → R D) (g : D → J.Env → Option J.Env) : sAsg f g E = (f E).bindS fun d E => match g d E with | some E' => .nx E' | none => .stuck := rfl
@[simp] theorem u_sApp (i : Nat) (f : J.Env → R D) : sApp i f E = (match E[i]? with | some (.own _ _) => (f E).bindS fun d E => (match E[i]? with | some (.own b l) => if l.length < 16777216 then .nx (E.set i (.own b (l ++ [d]))) else .stuck | _ => .stuck) | _ => .stuck) := rfl
@[simp] theorem u_sSetIx (i : Nat) (fk fa : J.Env → R D) : sSetIx i fk fa E = (fa E).bindS fun d E => match E[i]? with
  | some (.own _ _) => (fk E).bindS fun k E => (match k, E[i]? with
    | .int k, some (.own b l) => (match ixN l.length k with | some j => .nx (E.set i (.own b (l.set j d))) | none => .stuck)
    | _, _ => .stuck)
  | _ => .stuck := rfl
@[simp] theorem u_sRev (i : Nat) : sRev i E = (match E[i]? with | some (.own b l) => .nx (E.set i (.own b l.reverse)) | _ => .stuck) := rfl
@[simp] theorem u_sFor (fi : J.Env → R (List D)) (g : D → J.Env → Option J.Env) (f : J.Env → RS) : sFor fi g f E = (fi E).bindS fun ds E => forD g f ds E := rfl
@[simp] theorem u_pubE (i : Nat) : pubE i E = (match E[i]? with | some (.own _ l) => E.set i (.val (.lst l)) | some (.obj _ c ns ds) => E.set i (.val (.ins c ns ds)) | _ => E) := rfl
@[simp] theorem u_fBin (tbl : Str → Option DF) (g : D → D → Option D) (fa fb : J.Env → R D) : fBin tbl g fa fb E = (fa E).bind fun x E => (fb E).bind fun y E => ownR tbl g x y E := rfl
@[simp] theorem u_fUn (tbl : Str → Option DF) (g : D → Option D) (fa : J.Env → R D) : fUn tbl g fa E = (fa E).bind fun x E => own1 tbl g x E := rfl
@[simp] theorem u_fUnB (tbl : Str → Option DF) (g : D → Option D) (fa : J.Env → R D) : fUnB tbl g fa E = ((fa E).bind fun x E => own1 tbl g x E).bind blO := rfl
@[simp] theorem u_ownI (tbl : Str → Option DF) (g : D → D → Option D) (i : Int) (y : D) : ownR tbl g (.int i) y E = (match g (.int i) y with | some d => .ok d E | none => .stuck) := rfl
@[simp] theorem u_ownB (tbl : Str → Option DF) (g : D → D → Option D) (i : Bool) (y : D) : ownR tbl g (.bl i) y E = (match g (.bl i) y with | some d => .ok d E | none => .stuck) := rfl
@[simp] theorem u_ownT (tbl : Str → Option DF) (g : D → D → Option D) (i : List D) (y : D) : ownR tbl g (.tup i) y E = (match g (.tup i) y with | some d => .ok d E | none => .stuck) := rfl
@[simp] theorem u_own1I (tbl : Str → Option DF) (g : D → Option D) (i : Int) : own1 tbl g (.int i) E = (match g (.int i) with | some d => .ok d E | none => .stuck) := rfl
@[simp] theorem u_fFld (ok : Str → Bool) (f : Str) (fa : J.Env → R D) : fFld ok f fa E = (fa E).bind fun x E => match insF ok f x with | some d => .ok d E | none => .stuck := rfl
@[simp] theorem u_sPut (ok : Str → Bool) (i : Nat) (f : Str) (fa : J.Env → R D) : sPut ok i f fa E = (fa E).bindS fun d E => match E[i]? with
  | some (.obj b c ns ds) => if (ok c && decide (ns.length < 900)) = true then .nx (E.set i (.obj b c (putN f ns) (putL f d ns ds))) else .stuck
  | _ => .stuck := rfl
@[simp] theorem u_fCnt (fo fe : J.Env → R D) : fCnt fo fe E = (fo E).bind fun x E => match listD x with
  | some l => (fe E).bind fun y E => (match gCntL l y with | some d => .ok d E | none => .stuck)
  | none => .stuck := rfl
@[simp] theorem u_gNm (i : Nat) (d : D) : gNm i d E = some (E.set i (.val d)) := rfl
@[simp] theorem u_gTup2 (g : List D → J.Env → Option J.Env) (l : List D) : gTup2 g (.tup l) E = g l E := rfl
@[simp] theorem u_gsCons (g : D → J.Env → Option J.Env) (r : List D → J.Env → Option J.Env) (d : D) (ds : List D) : gsCons g r (d :: ds) E = (g d E).bind (r ds) := rfl
@[simp] theorem u_gsNil : gsNil [] E = some E := rfl
@[simp] theorem u_fLc (vs : List Nat) (fi : J.Env → R (List D)) (g : D → J.Env → Option J.Env) (t : J.Env → R Bool) (f : J.Env → R D) : fLc vs fi g t f E = (fi E).bind fun ds E => lcD vs g t f ds [] E := rfl
@[simp] theorem u_fLc2 (vs : List Nat) (fi : J.Env → R (List D)) (g : D → J.Env → Option J.Env) (t : J.Env → R Bool) (fi1 : J.Env → R (List D)) (vs1 : List Nat) (g1 : D → J.Env → Option J.Env) (t1 : J.Env → R Bool) (f : J.Env → R D) : fLc2 vs fi g t fi1 vs1 g1 t1 f E = (fi E).bind fun ds E => lcD2 vs g t fi1 vs1 g1 t1 f ds [] E := rfl
@[simp] theorem u_fYes : fYes E = .ok true E := rfl
@[simp] theorem u_forNil (g : D → J.Env → Option J.Env) (f : J.Env → RS) : forD g f [] E = .nx E := rfl
@[simp] theorem u_sRaise (c : Str) (n : Nat) (F : List D → Option (List Str × List D)) (fa : J.Env → R (List D)) : sRaise c n F fa E = (fa E).bindS fun ds E1 => if (ds.length == n && decide (n ≤ 1000)) = true then (match F ds with | some (ns, es) => .exc ⟨c, ns, es⟩ E1 | none => .stuck) else .stuck := rfl
end
@[simp] theorem g_add (i j : Int) : gAdd (.int i) (.int j) = some (.int (i + j)) := rfl
@[simp] theorem g_sub (i j : Int) : gSub (.int i) (.int j) = some (.int (i - j)) := rfl
@[simp] theorem g_lt (i j : Int) : gLt (.int i) (.int j) = some (.bl (decide (i < j))) := rfl
@[simp] theorem g_le (i j : Int) : gLe (.int i) (.int j) = some (.bl (decide (i ≤ j))) := rfl
@[simp] theorem g_gt (i j : Int) : gGt (.int i) (.int j) = some (.bl (decide (j < i))) := rfl
@[simp] theorem g_ge (i j : Int) : gGe (.int i) (.int j) = some (.bl (decide (j ≤ i))) := rfl
@[simp] theorem g_intF (i : Int) : gIntF (.int i) = some (.int i) := rfl
@[simp] theorem g_lenL (l : List D) : gLen (.lst l) = some (.int (l.length : Nat)) := rfl
@[simp] theorem g_lenR (l : List D) : gLen (.rol l) = some (.int (l.length : Nat)) := rfl
@[simp] theorem g_lenT (l : List D) : gLen (.tup l) = some (.int (l.length : Nat)) := rfl
@[simp] theorem g_isiI (i : Int) : gIsi "int" (.int i) = some (.bl true) := rfl
@[simp] theorem g_isiB (i : Int) : gIsi "bool" (.int i) = some (.bl false) := rfl
@[simp] theorem g_isiT (l : List D) : gIsi "tuple" (.tup l) = some (.bl true) := rfl
@[simp] theorem g_isiL (l : List D) : gIsi "list" (.lst l) = some (.bl true) := rfl
@[simp] theorem g_not (b : Bool) : gNot (.bl b) = some (.bl (!b)) := rfl
@[simp] theorem g_neg (i : Int) : gNeg (.int i) = some (.int (-i)) := rfl
@[simp] theorem g_itL (l : List D) : itemsD (.lst l) = some l := rfl
@[simp] theorem g_itT (l : List D) : itemsD (.tup l) = some l := rfl
@[simp] theorem g_itR (l : List D) : itemsD (.rol l) = some l := rfl
@[simp] theorem g_truB (b : Bool) : truD (.bl b) = some b := rfl
@[simp] theorem g_tupL (l : List D) : gTuple (.lst l) = some (.tup l) := rfl
@[simp] theorem g_tupT (l : List D) : gTuple (.tup l) = some (.tup l) := rfl
theorem g_mod (i j : Int) (h : 0 < j) : gMod (.int i) (.int j) = some (.int (i % j)) := by show (gModI i j).map D.int = _; unfold gModI; rw [if_pos h]; rfl
end J
namespace Lw
open PySem PySem.Spec PyProof.Rows L2 J
theorem p_int (i : Int) : F_L_int [.val (.int i)] = .ok (.v (.bl true)) [.val (.int i)] := by
  simp [F_L_int, runF, f_L_int]
/-- the tape's last digit, or 0 -/
def lastD (ds : List Int) : Int := (ds.getLast?).getD 0
theorem p_take (ds : List Int) (m s : Int) (hm : 0 < m) : ∃ E', F_L_take [.own true (ds.map D.int), .val (.int m), .val (.int s)] = .ok (.v (.int ((lastD ds + s) % m))) (.own true (ds.dropLast.map D.int) :: E') := by
  unfold lastD
  rcases List.eq_nil_or_concat ds with rfl | ⟨xs, x, rfl⟩
  · simp [F_L_take, runF, f_L_take, g_mod _ _ hm]
  · have hp : (0 : Int) < (xs.length : Int) + 1 := by omega
    simp [F_L_take, runF, f_L_take, g_mod _ _ hm, hp]
def stF (g : D → J.Env → Option J.Env) (f : J.Env → RS) (d : D) (E : J.Env) : RS := match g d E with
  | none => .stuck
  | some E1 => f E1
def stL (g : D → J.Env → Option J.Env) (t : J.Env → J.R Bool) (d : D) (E : J.Env) : J.R Bool := match g d E with
  | none => .stuck
  | some E1 => t E1
theorem stF_nx {g : D → J.Env → Option J.Env} {f : J.Env → RS} {d : D} {E E2 : J.Env} (h : stF g f d E = .nx E2) : ∃ E1, g d E = some E1 ∧ f E1 = .nx E2 := by
  unfold stF at h
  cases e : g d E with
  | none => rw [e] at h; cases h
  | some E1 => rw [e] at h; exact ⟨E1, rfl, h⟩
theorem stL_ok {g : D → J.Env → Option J.Env} {t : J.Env → J.R Bool} {d : D} {E E2 : J.Env} {b : Bool} (h : stL g t d E = .ok b E2) : ∃ E1, g d E = some E1 ∧ t E1 = .ok b E2 := by
  unfold stL at h
  cases e : g d E with
  | none => rw [e] at h; cases h
  | some E1 => rw [e] at h; exact ⟨E1, rfl, h⟩
theorem forD_ok {g : D → J.Env → Option J.Env} {f : J.Env → RS} (I : Nat → J.Env → Prop) (ds : List D) : ∀ (n : Nat) (xs : List D) (E : J.Env), n + xs.length = ds.length → xs = ds.drop n → I n E →
    (∀ i (h : i < ds.length) E, I i E → ∃ E2, stF g f ds[i] E = .nx E2 ∧ I (i + 1) E2) → ∃ E', forD g f xs E = .nx E' ∧ I ds.length E'
  | n, [], E, hl, _, h0, _ => ⟨E, rfl, by simp at hl; subst hl; exact h0⟩
  | n, x :: xs, E, hl, hx, h0, hs => by
    have hn : n < ds.length := by simp at hl; omega
    rw [List.drop_eq_getElem_cons hn] at hx
    obtain ⟨rfl, hx2⟩ := List.cons.inj hx
    obtain ⟨E2, h1, h3⟩ := hs n hn E h0
    obtain ⟨E1, h1, h2⟩ := stF_nx h1
    obtain ⟨E', h4, h5⟩ := forD_ok I ds (n + 1) xs E2 (by simp at hl; omega) hx2 h3 hs
    exact ⟨E', by simp only [forD, h1, h2]; exact h4, h5⟩
theorem for_ok {g : D → J.Env → Option J.Env} {f : J.Env → RS} {ds : List D} {E : J.Env} (I : Nat → J.Env → Prop) (h0 : I 0 E)
    (hs : ∀ i (h : i < ds.length) E, I i E → ∃ E2, stF g f ds[i] E = .nx E2 ∧ I (i + 1) E2) : ∃ E', forD g f ds E = .nx E' ∧ I ds.length E' := forD_ok I ds 0 ds E (by simp) (by simp) h0 hs
theorem lcD_ok {vs : List Nat} {g : D → J.Env → Option J.Env} {t : J.Env → J.R Bool} {f : J.Env → J.R D} (I : Nat → List D → J.Env → Prop) (ds : List D) : ∀ (n : Nat) (xs acc : List D) (E : J.Env), n + xs.length = ds.length → xs = ds.drop n → I n acc E →
    (∀ i (h : i < ds.length) acc E, I i acc E → ∃ b E2, stL g t ds[i] (wipeE vs E) = .ok b E2 ∧ (b = true → ∃ y E3, f E2 = .ok y E3 ∧ acc.length < 16777216 ∧ I (i + 1) (acc ++ [y]) (wipeE vs E3)) ∧ (b = false → I (i + 1) acc (wipeE vs E2))) →
    ∃ acc' E', lcD vs g t f xs acc E = .ok acc' E' ∧ I ds.length acc' E'
  | n, [], acc, E, hl, _, h0, _ => ⟨acc, E, rfl, by simp at hl; subst hl; exact h0⟩
  | n, x :: xs, acc, E, hl, hx, h0, hs => by
    have hn : n < ds.length := by simp at hl; omega
    rw [List.drop_eq_getElem_cons hn] at hx
    obtain ⟨rfl, hx2⟩ := List.cons.inj hx
    obtain ⟨b, E2, h1, h3, h4⟩ := hs n hn acc E h0
    obtain ⟨E1, hg, h2⟩ := stL_ok h1
    cases b with
    | true =>
      obtain ⟨y, E3, h5, h6, h7⟩ := h3 rfl
      obtain ⟨acc', E', h8, h9⟩ := lcD_ok I ds (n + 1) xs _ _ (by simp at hl; omega) hx2 h7 hs
      exact ⟨acc', E', by unfold lcD; rw [hg]; simp only [h2, h5, h6, if_true]; exact h8, h9⟩
    | false =>
      obtain ⟨acc', E', h8, h9⟩ := lcD_ok I ds (n + 1) xs _ _ (by simp at hl; omega) hx2 (h4 rfl) hs
      exact ⟨acc', E', by unfold lcD; rw [hg]; simp only [h2]; exact h8, h9⟩
theorem lc_ok {vs : List Nat} {g : D → J.Env → Option J.Env} {t : J.Env → J.R Bool} {f : J.Env → J.R D} {ds : List D} {E : J.Env} (I : Nat → List D → J.Env → Prop) (h0 : I 0 [] E)
    (hs : ∀ i (h : i < ds.length) acc E, I i acc E → ∃ b E2, stL g t ds[i] (wipeE vs E) = .ok b E2 ∧ (b = true → ∃ y E3, f E2 = .ok y E3 ∧ acc.length < 16777216 ∧ I (i + 1) (acc ++ [y]) (wipeE vs E3)) ∧ (b = false → I (i + 1) acc (wipeE vs E2))) :
    ∃ acc' E', lcD vs g t f ds [] E = .ok acc' E' ∧ I ds.length acc' E' := lcD_ok I ds 0 ds [] E (by simp) (by simp) h0 hs
theorem g_divP (i j : Int) (h : 0 < j) (hp : Builtin.divisionGoesByPylong i j = false) : gDivP (.int i) (.int j) = some (.int (i / j)) := by show (if _ then _ else _ : Option Int).map D.int = _; rw [if_pos ⟨h, hp⟩]; rfl
theorem g_div12 (i : Int) : gDivP (.int i) (.int 12) = some (.int (i / 12)) := g_divP _ _ (by decide) (PyProof.noPylong_small (by decide))
@[simp] theorem g_abs (i : Int) : gAbs (.int i) = some (.int (if i < 0 then -i else i)) := rfl
theorem cut63 (ns : List Int) : ∃ ms : List Int, J.cutD (ns.map D.int) none (some 63) = ms.map D.int ∧ ms.length ≤ 63 := by
  unfold J.cutD
  refine ⟨(ns.drop _).take _, by rw [← List.map_drop, ← List.map_take], ?_⟩
  rw [List.length_take]
  have : HT.sIx (ns.map D.int).length (ns.map D.int).length (some 63) ≤ 63 := by
    unfold HT.sIx; simp; omega
  omega
theorem use_for {g : D → J.Env → Option J.Env} {f : J.Env → RS} {ds : List D} {E : J.Env} {r : RS} (hF : forD g f ds E = r) (I : Nat → J.Env → Prop) (h0 : I 0 E)
    (hs : ∀ i (h : i < ds.length) E, I i E → ∃ E2, stF g f ds[i] E = .nx E2 ∧ I (i + 1) E2) : ∃ E', r = .nx E' ∧ I ds.length E' := by
  subst hF; exact for_ok I h0 hs
theorem use_lc {vs : List Nat} {g : D → J.Env → Option J.Env} {t : J.Env → J.R Bool} {f : J.Env → J.R D} {ds : List D} {E : J.Env} {r : J.R (List D)} (hF : lcD vs g t f ds [] E = r) (I : Nat → List D → J.Env → Prop) (h0 : I 0 [] E)
    (hs : ∀ i (h : i < ds.length) acc E, I i acc E → ∃ b E2, stL g t ds[i] (wipeE vs E) = .ok b E2 ∧ (b = true → ∃ y E3, f E2 = .ok y E3 ∧ acc.length < 16777216 ∧ I (i + 1) (acc ++ [y]) (wipeE vs E3)) ∧ (b = false → I (i + 1) acc (wipeE vs E2))) :
    ∃ acc' E', r = .ok acc' E' ∧ I ds.length acc' E' := by
  subst hF; exact lc_ok I h0 hs
@[simp] theorem len_upD (a : Int) (n : Nat) : (upD a n).length = n := by simp [upD]
@[simp] theorem get_upD (a : Int) (n i : Nat) (h : i < (upD a n).length) : (upD a n)[i] = .int (a + (i : Nat)) := by simp [upD]
theorem smI_small {j : Int} (h : -100000 ≤ j ∧ j ≤ 100000) : smI j = true := decide_eq_true (by omega)
theorem p_tape (ns : List Int) : ∃ (ds : List Int) (E' : J.Env), F_L_tape [.val (.rol (ns.map D.int))] = .ok (.l (ds.map D.int)) E' ∧ E'[0]? = some (.val (.rol (ns.map D.int))) ∧ ds.length ≤ 882 := by
  obtain ⟨ms, h1, h2⟩ := cut63 ns
  simp [F_L_tape, runF, f_L_tape, gCut, intP, h1]
  generalize hF : forD _ _ _ _ = r
  obtain ⟨E', rfl, ds, c, r, k, h3, rfl⟩ := use_for hF (fun i E => ∃ (ds : List Int) (c r k : Sl), ds.length ≤ 14 * i ∧ E = [.val (.rol (ns.map D.int)), .own false (ds.map D.int), c, r, k]) ⟨[], .no, .no, .no, by simp, rfl⟩ (by
    rintro i h E ⟨ds, c, r, k, h3, rfl⟩
    have hi : i < ms.length := by simpa using h
    simp [stF, show smI 14 = true from rfl]
    generalize hF : forD _ _ _ _ = r
    obtain ⟨E', rfl, ds', c', r', k', h4, rfl⟩ := use_for hF (fun j E => ∃ (ds : List Int) (c : Sl) (r : Int) (k : Sl), ds.length ≤ 14 * i + j ∧ E = [.val (.rol (ns.map D.int)), .own false (ds.map D.int), c, .val (.int r), k]) ⟨ds, _, _, _, by omega, rfl⟩ (by
      rintro j hj E ⟨ds, c, r, k, h4, rfl⟩
      have hj' : j < 14 := by simpa using hj
      by_cases hr : 0 < r
      · have : ds.length < 16777216 := by omega
        simp [stF, hr, g_mod, g_div12, this]
        refine ⟨ds ++ [r % 12], by simp; omega, by simp⟩
      · simp [stF, hr]
        exact ⟨ds, by omega, rfl⟩)
    simp at h4
    simp
    exact ⟨ds', by omega, rfl⟩)
  simp at h3
  simp [gRev, listD]
  exact ⟨ds.reverse, _, ⟨by simp, rfl⟩, by simp, by rw [List.length_reverse]; omega⟩
theorem okI (i : Int) : okD (.int i) = true := rfl
@[simp] theorem g_eqI (i j : Int) : gEq (.int i) (.int j) = some (.bl (decide (i = j))) := rfl
@[simp] theorem g_neI (i j : Int) : gNe (.int i) (.int j) = some (.bl (!decide (i = j))) := rfl
@[simp] theorem g_min2 (i j : Int) : gMin2 (.int i) (.int j) = some (.int (if j < i then j else i)) := rfl
theorem log2_le {n k : Nat} (h : n < 2 ^ k) (hk : 0 < k) : n.log2 < k := by
  by_cases h0 : n = 0
  · subst h0; simpa using hk
  · exact (Nat.log2_lt h0).mpr h
theorem g_mul (i j : Int) (hi : i.natAbs < 2 ^ 200) (hj : j.natAbs < 2 ^ 200) : gMul (.int i) (.int j) = some (.int (i * j)) := by
  show (gMulI i j).map D.int = _
  unfold gMulI
  rw [if_pos (by have := log2_le hi (by decide); have := log2_le hj (by decide); omega)]
  rfl
theorem g_mulL (l : List D) (k : Int) (h : 0 ≤ k ∧ k ≤ 1000000 ∧ l.length * k.toNat ≤ 16777216) : gMul (.lst l) (.int k) = some (.lst (List.replicate k.toNat l).flatten) := by
  show (if _ then _ else _) = _
  rw [if_pos h]
theorem g_addL (x y : List D) (h : x.length + y.length ≤ 16777216) : gAdd (.lst x) (.lst y) = some (.lst (x ++ y)) := by
  show (if _ then _ else _) = _
  rw [if_pos h]
theorem cut_pre (l : List D) (k : Nat) : J.cutD l none (some (k : Nat)) = l.take k := by
  unfold J.cutD
  have h : HT.sIx l.length 0 none = 0 := rfl
  have h2 : HT.sIx l.length l.length (some (k : Nat)) = min k l.length := by unfold HT.sIx; simp; omega
  rw [h, h2]
  simp
/-- the tape, as data -/
def iD (ds : List Int) : List D := ds.map D.int
def dig (ds : List Int) (m s : Int) : Int := (lastD ds + s) % m
theorem dig_nn (ds : List Int) {m : Int} (s : Int) (h : 0 < m) : 0 ≤ dig ds m s := Int.emod_nonneg _ (by omega)
theorem dig_lt (ds : List Int) {m : Int} (s : Int) (h : 0 < m) : dig ds m s < m := Int.emod_lt_of_pos _ h
theorem ex_take : ∃ T : List Int → Int → Int → J.Env, ∀ ds m s, 0 < m → F_L_take [.own true (iD ds), .val (.int m), .val (.int s)] = .ok (.v (.int (dig ds m s))) (.own true (iD ds.dropLast) :: T ds m s) := by
  have h : ∀ ds m s, ∃ E' : J.Env, 0 < m → F_L_take [.own true (iD ds), .val (.int m), .val (.int s)] = .ok (.v (.int (dig ds m s))) (.own true (iD ds.dropLast) :: E') := fun ds m s => by
    by_cases hm : 0 < m
    · obtain ⟨E', h⟩ := p_take ds m s hm
      exact ⟨E', fun _ => h⟩
    · exact ⟨[], fun h => absurd h hm⟩
  exact ⟨fun ds m s => (h ds m s).choose, fun ds m s => (h ds m s).choose_spec⟩
noncomputable def takeT : List Int → Int → Int → J.Env := ex_take.choose
@[simp] theorem e_take (ds : List Int) (m s : Int) (hm : 0 < m) : F_L_take [.own true (iD ds), .val (.int m), .val (.int s)] = .ok (.v (.int (dig ds m s))) (.own true (iD ds.dropLast) :: takeT ds m s) := ex_take.choose_spec ds m s hm
end Lw

namespace Lw
/-! ### lowest terms -/
def g2 (n d : Int) : Int := ((Nat.gcd n.natAbs d.natAbs : Nat) : Int)
theorem g2_pos {n d : Int} (h : 0 < d) : 0 < g2 n d := by
  unfold g2
  have : 0 < Nat.gcd n.natAbs d.natAbs := Nat.gcd_pos_of_pos_right _ (by omega)
  omega
theorem g2_l (n d : Int) : g2 n d ∣ n := Int.natAbs_dvd_natAbs.mp (Nat.gcd_dvd_left _ _)
theorem g2_r (n d : Int) : g2 n d ∣ d := Int.natAbs_dvd_natAbs.mp (Nat.gcd_dvd_right _ _)
def loN (n d : Int) : Int := n / g2 n d
def loD (n d : Int) : Int := d / g2 n d
theorem lo_N (n d : Int) : g2 n d * loN n d = n := Int.mul_ediv_cancel' (g2_l n d)
theorem lo_D (n d : Int) : g2 n d * loD n d = d := Int.mul_ediv_cancel' (g2_r n d)
theorem loD_pos {n d : Int} (h : 0 < d) : 0 < loD n d := by
  have h1 := lo_D n d
  have h2 := g2_pos (n := n) h
  rcases Int.lt_or_le 0 (loD n d) with h3 | h3
  · exact h3
  · have := Int.mul_nonpos_of_nonneg_of_nonpos (Int.le_of_lt h2) h3
    omega
theorem g2_lo {n d : Int} (h : 0 < d) : g2 (loN n d) (loD n d) = 1 := by
  have hg := g2_pos (n := n) h
  have e1 := congrArg Int.natAbs (lo_N n d)
  have e2 := congrArg Int.natAbs (lo_D n d)
  rw [Int.natAbs_mul] at e1 e2
  have hgn : (g2 n d).natAbs = Nat.gcd n.natAbs d.natAbs := by unfold g2; rw [Int.natAbs_natCast]
  have hp : 0 < Nat.gcd n.natAbs d.natAbs := by omega
  have := Nat.gcd_mul_left (g2 n d).natAbs (loN n d).natAbs (loD n d).natAbs
  rw [e1, e2, hgn] at this
  have h1 : Nat.gcd (loN n d).natAbs (loD n d).natAbs = 1 := by
    have h2 : Nat.gcd n.natAbs d.natAbs * 1 = Nat.gcd n.natAbs d.natAbs * Nat.gcd (loN n d).natAbs (loD n d).natAbs := by rw [Nat.mul_one]; exact this
    exact (Nat.eq_of_mul_eq_mul_left hp h2).symm
  show ((Nat.gcd (loN n d).natAbs (loD n d).natAbs : Nat) : Int) = 1
  rw [h1]; rfl
theorem lo_low {n d : Int} (h : g2 n d = 1) : loN n d = n ∧ loD n d = d := by
  unfold loN loD
  rw [h]; simp
theorem low_eq {n d n' d' : Int} (h : 0 < d) (h' : 0 < d') (c : g2 n d = 1) (c' : g2 n' d' = 1) (e : n * d' = n' * d) : n = n' ∧ d = d' := by
  have c1 : Nat.Coprime n.natAbs d.natAbs := by unfold g2 at c; exact_mod_cast c
  have c2 : Nat.Coprime n'.natAbs d'.natAbs := by unfold g2 at c'; exact_mod_cast c'
  have e' := congrArg Int.natAbs e
  rw [Int.natAbs_mul, Int.natAbs_mul] at e'
  have d1 : d.natAbs ∣ d'.natAbs := c1.symm.dvd_of_dvd_mul_left (by rw [e']; exact Nat.dvd_mul_left _ _)
  have d2 : d'.natAbs ∣ d.natAbs := c2.symm.dvd_of_dvd_mul_left (by rw [← e']; exact Nat.dvd_mul_left _ _)
  have hd : d = d' := by
    have := Nat.dvd_antisymm d1 d2
    omega
  subst hd
  exact ⟨Int.eq_of_mul_eq_mul_right (by omega) e, rfl⟩
/-- the lowest terms depend on the number alone -/
theorem lo_eq {n d n' d' : Int} (h : 0 < d) (h' : 0 < d') (e : n * d' = n' * d) : loN n d = loN n' d' ∧ loD n d = loD n' d' := by
  refine low_eq (loD_pos h) (loD_pos h') (g2_lo h) (g2_lo h') ?_
  have hg := g2_pos (n := n) h
  have hg' := g2_pos (n := n') h'
  have e1 := lo_N n d
  have e2 := lo_D n d
  have e3 := lo_N n' d'
  have e4 := lo_D n' d'
  generalize loN n d = a at *
  generalize loD n d = b at *
  generalize loN n' d' = a' at *
  generalize loD n' d' = b' at *
  generalize g2 n d = g at *
  generalize g2 n' d' = g' at *
  subst e1 e2 e3 e4
  have h1 : (g * g') * (a * b') = (g * g') * (a' * b) := by
    calc (g * g') * (a * b') = g * a * (g' * b') := by ac_rfl
      _ = g' * a' * (g * b) := e
      _ = (g * g') * (a' * b) := by ac_rfl
  exact Int.eq_of_mul_eq_mul_left (Int.ne_of_gt (Int.mul_pos hg hg')) h1
theorem lo_cross {n d : Int} : loN n d * d = n * loD n d := by
  have e1 := lo_N n d
  have e2 := lo_D n d
  generalize loN n d = a at *
  generalize loD n d = b at *
  generalize g2 n d = g at *
  subst e1 e2
  ac_rfl
theorem loN_le (n d : Int) : (loN n d).natAbs ≤ n.natAbs := by
  have e := congrArg Int.natAbs (lo_N n d)
  rw [Int.natAbs_mul] at e
  by_cases h : (g2 n d).natAbs = 0
  · have : g2 n d = 0 := by omega
    unfold loN; rw [this]; simp
  · have : 1 * (loN n d).natAbs ≤ (g2 n d).natAbs * (loN n d).natAbs := Nat.mul_le_mul_right _ (by omega)
    omega
theorem loD_le {n d : Int} (h : 0 < d) : loD n d ≤ d := by
  have e := lo_D n d
  have hg := g2_pos (n := n) h
  have hd := loD_pos (n := n) h
  have : 1 * loD n d ≤ g2 n d * loD n d := Int.mul_le_mul_of_nonneg_right (by omega) (by omega)
  omega
end Lw

namespace Lw
open PySem PySem.Spec PyProof.Rows L2 J
/-! ### great numbers -/
def BIG : Nat := 2 ^ 13500
theorem log_le {n k : Nat} (h : n < 2 ^ k) (hk : 0 < k) : n.log2 < k := by
  by_cases h0 : n = 0
  · subst h0; rw [Nat.log2_zero]; exact hk
  · exact (Nat.log2_lt h0).mpr h
theorem g_mulB (i j : Int) (hi : i.natAbs < BIG) (hj : j.natAbs < BIG) : gMul (.int i) (.int j) = some (.int (i * j)) := by
  show (gMulI i j).map D.int = _
  unfold gMulI
  have h1 : i.natAbs.log2 < 13500 := log_le hi (by decide)
  have h2 : j.natAbs.log2 < 13500 := log_le hj (by decide)
  rw [if_pos (by omega)]
  rfl
theorem noP {i j : Int} (h : i.natAbs < BIG) : Builtin.divisionGoesByPylong i j = false := by
  have h1 : i.natAbs.log2 < 13500 := log_le h (by decide)
  unfold Builtin.divisionGoesByPylong
  by_cases h0 : i = 0
  · subst h0; simp
  · have hi : (i == 0) = false := by simpa using h0
    by_cases hj0 : j = 0
    · subst hj0; simp
    · have hj : (j == 0) = false := by simpa using hj0
      simp only [hi, hj, Bool.false_eq_true, if_false]
      rw [Bool.and_eq_false_iff]
      by_cases hc : j.natAbs.log2 / 30 + 1 > 300
      · right; simp; omega
      · left; simp; omega
theorem g_divB (i j : Int) (hj : 0 < j) (hi : i.natAbs < BIG) : gDivP (.int i) (.int j) = some (.int (i / j)) := g_divP i j hj (noP hi)
theorem g_gcd (i j : Int) : gGcd (.int i) (.int j) = some (.int (g2 i j)) := rfl
theorem g_lcm (i j : Int) (hi : i.natAbs < BIG) (hj : j.natAbs < BIG) : gLcm (.int i) (.int j) = some (.int ((Nat.lcm i.natAbs j.natAbs : Nat) : Int)) := by
  have h1 : i.natAbs.log2 < 13500 := log_le hi (by decide)
  have h2 : (max 1 i.natAbs).log2 < 13500 := log_le (by have : (1 : Nat) < 2 ^ 13500 := Nat.one_lt_two_pow (by decide); have := hi; unfold BIG at this; omega) (by decide)
  have h3 : (max i.natAbs j.natAbs).log2 < 13500 := log_le (by have := hi; have := hj; unfold BIG at *; omega) (by decide)
  show (if lcmOk i j then some ((Nat.lcm i.natAbs j.natAbs : Nat) : Int) else none).map D.int = _
  rw [if_pos ⟨by omega, by omega⟩]; rfl
def MAX : Int := ((10 ^ 2000 : Nat) : Int)
theorem gi_M : gi_MOST = MAX := rfl
theorem bits_10 : Builtin.Int.intBits 10 ≤ 4 := by decide +kernel
theorem g_powP (i j : Int) (h : 0 ≤ j ∧ (Builtin.Int.intBits i : Int) * j ≤ 2 ^ 27) : gPowP (.int i) (.int j) = some (.int (i ^ j.toNat)) := by
  show (if _ then _ else _ : Option Int).map D.int = _
  rw [if_pos h]; rfl
def P50 : Int := ((10 ^ 50 : Nat) : Int)
theorem pow50 : gPowP (.int 10) (.int 50) = some (.int P50) := by rw [g_powP _ _ (by decide +kernel)]; exact congrArg (fun z => some (D.int z)) (by decide +kernel)
theorem pow40 : gPowP (.int P50) (.int 40) = some (.int MAX) := by rw [g_powP _ _ (by decide +kernel)]; exact congrArg (fun z => some (D.int z)) (by decide +kernel)
def M20 : Int := ((10 ^ 1000 : Nat) : Int)
theorem pow20 : gPowP (.int P50) (.int 20) = some (.int M20) := by rw [g_powP _ _ (by decide +kernel)]; exact congrArg (fun z => some (D.int z)) (by decide +kernel)
theorem MAX_pos : 1000000 < MAX := by decide +kernel
theorem MAX_sq : 2 ^ 200 * (MAX.natAbs * MAX.natAbs) < BIG := by decide +kernel
theorem M20_lt : M20 < MAX := by decide +kernel
theorem M20_pos : 1000000 < M20 := by decide +kernel
end Lw

namespace Lw
open PySem PySem.Spec PyProof.Rows L2 J
def xN (n : Int) : Exn := ⟨"NumberError", ["number"], [.int n]⟩
def xS (n : Int) : Exn := ⟨"SizeError", ["count"], [.int n]⟩
@[simp] theorem fx_N (n : Int) : Fx_NumberError [.int n] = some ((["number"] : List Str), [D.int n]) := rfl
@[simp] theorem fx_S (n : Int) : Fx_SizeError [.int n] = some ((["count"] : List Str), [D.int n]) := rfl
@[simp] theorem e_look_number (n lo hi : Int) : F_look_number [.val (.int n), .val (.int lo), .val (.int hi)] = if n < lo ∨ hi < n then .exc (xN n) [.val (.int n), .val (.int lo), .val (.int hi)] else .ok (.v (.int n)) [.val (.int n), .val (.int lo), .val (.int hi)] := by
  by_cases h1 : n < lo
  · simp [F_look_number, runF, f_look_number, h1, xN]
  · by_cases h2 : hi < n
    · simp [F_look_number, runF, f_look_number, h1, h2, xN]
    · simp [F_look_number, runF, f_look_number, h1, h2]
def toR : Except Exn D → J.Env → J.R RV
  | .ok d, E => .ok (.v d) E
  | .error x, E => .exc x E
def toD : Except Exn D → J.Env → J.R D
  | .ok d, E => .ok d E
  | .error x, E => .exc x E
def envO : J.R RV → J.Env
  | .ok _ E => E
  | .exc _ E => E
  | .stuck => []
def ev (F : DF) (as : List Sl) : J.Env := envO (F as)
theorem of_ex {F : DF} {as : List Sl} {r : Except Exn D} (h : ∃ E, F as = toR r E) : F as = toR r (ev F as) := by
  obtain ⟨E, h⟩ := h
  unfold ev
  rw [h]
  cases r <;> rfl
theorem of_ok {F : DF} {as : List Sl} {d : D} (h : ∃ E, F as = .ok (.v d) E) : F as = .ok (.v d) (ev F as) := of_ex (r := .ok d) h

/-! ### a ratio as data -/
def rt (n d : Int) : D := .ins "Ratio" ["num", "den"] [.int n, .int d]
@[simp] theorem f_num (n d : Int) : insF okc_num "num" (rt n d) = some (.int n) := rfl
@[simp] theorem f_den (n d : Int) : insF okc_den "den" (rt n d) = some (.int d) := rfl
@[simp] theorem is_rt (n d : Int) : gIsO isT_Ratio isTs (rt n d) = some (.bl true) := rfl
@[simp] theorem is_int (n : Int) : gIsO isT_Ratio isTs (.int n) = some (.bl false) := by
  show (if ("int" : String) ∈ isTs then some (D.bl false) else none) = _
  rw [if_pos (by decide)]
@[simp] theorem right_rt (n d : Int) : rightD "Ratio" (rt n d) = true := rfl
@[simp] theorem right_int (n : Int) : rightD "Ratio" (.int n) = true := rfl
@[simp] theorem own_rt (tbl : Str → Option DF) (g : D → D → Option D) (n d : Int) (y : D) (E : J.Env) : ownR tbl g (rt n d) y E = (match tbl "Ratio" with
  | some F => if rightD "Ratio" y = true then callD 2 F [.v (rt n d), .v y] rvD E else .stuck
  | none => .stuck) := rfl
@[simp] theorem own1_rt (tbl : Str → Option DF) (g : D → Option D) (n d : Int) (E : J.Env) : own1 tbl g (rt n d) E = (match tbl "Ratio" with
  | some F => callD 1 F [.v (rt n d)] rvD E
  | none => .stuck) := rfl
def methD (m : Str) (n : Nat) (tbl : Str → Option DF) (dd : List D) (fa : J.Env → J.R (List Ar)) (d : D) (E : J.Env) : J.R D := match d with
  | .ins c ns es => (match tbl c with
    | some F => if ns.contains m = true then .stuck else (fa E).bind fun as E => callD n F (.v (.ins c ns es) :: (as ++ dd.map .v)) rvD E
    | none => .stuck)
  | _ => .stuck
@[simp] theorem u_fMeth (m : Str) (n : Nat) (tbl : Str → Option DF) (dd : List D) (fo : J.Env → J.R D) (fa : J.Env → J.R (List Ar)) (E : J.Env) : fMeth m n tbl dd fo fa E = (fo E).bind (methD m n tbl dd fa) := rfl
@[simp] theorem meth_rt (m : Str) (n : Nat) (tbl : Str → Option DF) (dd : List D) (fa : J.Env → J.R (List Ar)) (x y : Int) (E : J.Env) : methD m n tbl dd fa (rt x y) E = (match tbl "Ratio" with
  | some F => if (["num", "den"] : List Str).contains m = true then .stuck else (fa E).bind fun as E => callD n F (.v (rt x y) :: (as ++ dd.map .v)) rvD E
  | none => .stuck) := rfl
@[simp] theorem u_callD {α : Type} (n : Nat) (F : DF) (as : List Ar) (k : RV → Option α) (E1 : J.Env) : callD n F as k E1 = (match (if (ndA (ownsA as) && as.length == n) = true then argS E1 as else none) with
  | none => .stuck
  | some ss => match F ss with
    | .ok rv Ec => (match k rv with | some d => .ok d (backE Ec 0 as E1) | none => .stuck)
    | .exc x Ec => .exc x (backE Ec 0 as E1)
    | .stuck => .stuck) := rfl
def makeD (c : Str) (n : Nat) (F : DF) (dd : List D) (as : List Ar) (E1 : J.Env) : J.R D := match (if (ndA (ownsA as) && as.length + dd.length + 1 == n) = true then argS E1 as else none) with
  | none => .stuck
  | some ss => match F (.obj true c [] [] :: (ss ++ dd.map .val)) with
    | .ok (.v .non) Ec => (match (Ec[0]? : Option Sl) with
      | some (.obj true c' ns ds) => if c' = c then .ok (.ins c ns ds) (backE (Ec.drop 1) 0 as E1) else .stuck
      | _ => .stuck)
    | .exc x Ec => .exc x (backE (Ec.drop 1) 0 as E1)
    | _ => .stuck
@[simp] theorem u_fMake (c : Str) (n : Nat) (F : DF) (dd : List D) (fa : J.Env → J.R (List Ar)) (E : J.Env) : fMake c n F dd fa E = (fa E).bind (makeD c n F dd) := rfl
@[simp] theorem t_floor : T_mt_floor "Ratio" = some F_M_Ratio_floor := rfl
@[simp] theorem t_ceil : T_mt_ceil "Ratio" = some F_M_Ratio_ceil := rfl
@[simp] theorem t_over : T_mt_over "Ratio" = some F_M_Ratio_over := rfl
@[simp] theorem t_compare : T_mt_compare "Ratio" = some F_M_Ratio_compare := rfl
@[simp] theorem t_add : T_op_add "Ratio" = some F_M_Ratio_add := rfl
@[simp] theorem t_sub : T_op_sub "Ratio" = some F_M_Ratio_sub := rfl
@[simp] theorem t_mul : T_op_mul "Ratio" = some F_M_Ratio_mul := rfl
@[simp] theorem t_eq : T_eq_eq "Ratio" = some F_M_Ratio_eq := rfl
@[simp] theorem t_neg : T_un_neg "Ratio" = some F_M_Ratio_neg := rfl
@[simp] theorem t_abs : T_un_abs "Ratio" = some F_M_Ratio_abs := rfl
@[simp] theorem t_bool : T_un_bool "Ratio" = some F_M_Ratio_bool := rfl

/-! ### made -/
def inB (n : Int) : Prop := -MAX ≤ n ∧ n ≤ MAX
theorem inB_big {n : Int} (h : inB n) : n.natAbs < BIG := by
  have h1 := MAX_sq
  have h2 := MAX_pos
  have h3 : MAX.natAbs ≤ MAX.natAbs * MAX.natAbs := Nat.le_mul_of_pos_right _ (by omega)
  have h4 : 1 * (MAX.natAbs * MAX.natAbs) ≤ 2 ^ 200 * (MAX.natAbs * MAX.natAbs) := Nat.mul_le_mul_right _ (by decide)
  have := h.1
  have := h.2
  omega
def mkV (n d : Int) : Except Exn D := if n < -MAX ∨ MAX < n then .error (xN n) else if d < 1 ∨ MAX < d then .error (xN d) else .ok (rt (loN n d) (loD n d))
theorem put1 (d : D) : putN "num" [] = (["num"] : List Str) ∧ putL "num" d [] [] = [d] := ⟨rfl, rfl⟩
@[simp] theorem put_n0 : putN "num" [] = (["num"] : List Str) := rfl
@[simp] theorem put_l0 (d : D) : putL "num" d [] [] = [d] := rfl
@[simp] theorem put_n1 : putN "den" ["num"] = (["num", "den"] : List Str) := rfl
@[simp] theorem put_l1 (x d : D) : putL "den" d ["num"] [x] = [x, d] := rfl
@[simp] theorem okc_n : okc_num "Ratio" = true := rfl
@[simp] theorem okc_d : okc_den "Ratio" = true := rfl
theorem mk_err1 {n d : Int} (h : n < -MAX ∨ MAX < n) (E : J.Env) : makeD "Ratio" 3 F_M_Ratio_init [] [.v (.int n), .v (.int d)] E = .exc (xN n) E := by
  have h' : n < -gi_MOST ∨ gi_MOST < n := h
  simp [makeD, ownsA, ndA, argS, backE, F_M_Ratio_init, runF, f_M_Ratio_init, h']
theorem mk_err2 {n d : Int} (h0 : ¬ (n < -MAX ∨ MAX < n)) (h : d < 1 ∨ MAX < d) (E : J.Env) : makeD "Ratio" 3 F_M_Ratio_init [] [.v (.int n), .v (.int d)] E = .exc (xN d) E := by
  have h' : d < 1 ∨ gi_MOST < d := h
  have h0' : ¬ (n < -gi_MOST ∨ gi_MOST < n) := h0
  simp [makeD, ownsA, ndA, argS, backE, F_M_Ratio_init, runF, f_M_Ratio_init, h', h0']
theorem mk_ok {n d : Int} (h0 : ¬ (n < -MAX ∨ MAX < n)) (h : ¬ (d < 1 ∨ MAX < d)) (E : J.Env) : makeD "Ratio" 3 F_M_Ratio_init [] [.v (.int n), .v (.int d)] E = .ok (rt (loN n d) (loD n d)) E := by
  have h' : ¬ (d < 1 ∨ gi_MOST < d) := h
  have h0' : ¬ (n < -gi_MOST ∨ gi_MOST < n) := h0
  have hd : 0 < d := by omega
  have b1 := g_divB n (g2 n d) (g2_pos hd) (inB_big ⟨by omega, by omega⟩)
  have b2 := g_divB d (g2 n d) (g2_pos hd) (inB_big ⟨by have := MAX_pos; omega, by omega⟩)
  simp [makeD, ownsA, ndA, argS, backE, F_M_Ratio_init, runF, f_M_Ratio_init, h', h0', g_gcd, b1, b2]
  rfl
theorem mk_is (n d : Int) (E : J.Env) : makeD "Ratio" 3 F_M_Ratio_init [] [.v (.int n), .v (.int d)] E = toD (mkV n d) E := by
  unfold mkV
  by_cases h0 : n < -MAX ∨ MAX < n
  · rw [mk_err1 h0, if_pos h0]; rfl
  · rw [if_neg h0]
    by_cases h : d < 1 ∨ MAX < d
    · rw [mk_err2 h0 h, if_pos h]; rfl
    · rw [mk_ok h0 h, if_neg h]; rfl
theorem mk_one (n : Int) (E : J.Env) : makeD "Ratio" 3 F_M_Ratio_init [.int 1] [.v (.int n)] E = toD (mkV n 1) E := by
  rw [← mk_is]
  simp [makeD, ownsA, ndA, argS, backE]
/-- brought to lowest terms, within bounds -/
def lowV (n d : Int) : Except Exn D := if loN n d < -MAX ∨ MAX < loN n d then .error (xN (loN n d)) else if MAX < loD n d then .error (xN (loD n d)) else .ok (rt (loN n d) (loD n d))
theorem low_mk {n d : Int} (h : 0 < d) : mkV (loN n d) (loD n d) = lowV n d := by
  unfold mkV lowV
  have h1 := loD_pos (n := n) h
  obtain ⟨e1, e2⟩ := lo_low (g2_lo (n := n) h)
  have : (loD n d < 1 ∨ MAX < loD n d) ↔ MAX < loD n d := by omega
  rw [e1, e2]
  simp only [this]
theorem e_low {n d : Int} (h : 0 < d) (hn : n.natAbs < BIG) (hd : d.natAbs < BIG) : F_P_ratio_lowest [.val (.int n), .val (.int d)] = toR (lowV n d) (ev F_P_ratio_lowest [.val (.int n), .val (.int d)]) := by
  refine of_ex ?_
  have b1 := g_divB n (g2 n d) (g2_pos h) hn
  have b2 := g_divB d (g2 n d) (g2_pos h) hd
  have e := mk_is (loN n d) (loD n d)
  rw [low_mk h] at e
  unfold loN loD at e
  cases hv : lowV n d with
  | error x => rw [hv] at e; simp [F_P_ratio_lowest, runF, f_P_ratio_lowest, ownsA, ndA, argS, backE, g_gcd, b1, b2, e, toD, toR]
  | ok r => rw [hv] at e; simp [F_P_ratio_lowest, runF, f_P_ratio_lowest, ownsA, ndA, argS, backE, g_gcd, b1, b2, e, toD, toR]
end Lw

namespace Lw
open PySem PySem.Spec PyProof.Rows L2 J
/-! ### what the law reckons -/
theorem g2_mod {a b : Int} (ha : 0 ≤ a) (hb : 0 < b) : g2 b (a % b) = g2 a b := by
  unfold g2
  have h : (a % b).natAbs = a.natAbs % b.natAbs := Int.natAbs_emod_of_nonneg ha b
  rw [h, Nat.gcd_comm, ← Nat.gcd_rec, Nat.gcd_comm]
theorem g2_zero {a : Int} (ha : 0 ≤ a) : g2 a 0 = a := by
  unfold g2
  simp
  omega
theorem g2_abs (a b : Int) : g2 (if a < 0 then -a else a) b = g2 a b := by
  unfold g2
  split
  · rw [Int.natAbs_neg]
  · rfl
abbrev cmT : J.Env → J.R Bool := (fTest (fop gNe (fVar 1) (fC (.int 0))))
abbrev cmB : J.Env → RS := (sSeq (sSet 2 (fop gMod (fun1 gIntF (fVar 0)) (fVar 1))) (sSeq (sSet 0 (fVar 1)) (sSet 1 (fVar 2))))
theorem cm_loop : ∀ (k : Nat) (a b : Int) (c : Sl), 0 ≤ a → 0 ≤ b → b.natAbs < k → ∃ c', whileD cmT cmB k [.val (.int a), .val (.int b), c] = .nx [.val (.int (g2 a b)), .val (.int 0), c']
  | 0, a, b, c, _, _, h => by omega
  | k + 1, a, b, c, ha, hb, h => by
    by_cases h0 : b = 0
    · subst h0
      refine ⟨c, ?_⟩
      simp [whileD, g2_zero ha]
    · have hp : 0 < b := by omega
      have hm := Int.emod_nonneg a (Int.ne_of_gt hp)
      have hl := Int.emod_lt_of_pos a hp
      obtain ⟨c', e⟩ := cm_loop k b (a % b) (.val (.int (a % b))) hb hm (by omega)
      refine ⟨c', ?_⟩
      rw [g2_mod ha hp] at e
      rw [← e]
      simp [whileD, h0, g_mod _ _ hp]
theorem e_common {a b : Int} (ha : 0 ≤ a) (hb : 0 ≤ b) : F_L_common [.val (.int a), .val (.int b)] = .ok (.v (.int (g2 a b))) (ev F_L_common [.val (.int a), .val (.int b)]) := by
  refine of_ok ?_
  obtain ⟨c', e⟩ := cm_loop (b.natAbs + 1) a b .no ha hb (by omega)
  have e2 : f_L_common [.val (.int a), .val (.int b), .no] = .rt (.v (.int (g2 a b))) [.val (.int (g2 a b)), .val (.int 0), c'] := by
    unfold f_L_common
    rw [u_sSeq]
    have hf : fu_L_common_1 [.val (.int a), .val (.int b), .no] = b.natAbs + 1 := rfl
    rw [hf, e]
    rfl
  refine ⟨[.val (.int (g2 a b)), .val (.int 0), c'], ?_⟩
  show runF 3 f_L_common _ = _
  unfold runF
  show (match f_L_common [.val (.int a), .val (.int b), .no] with | .nx E => _ | .rt r E => _ | .exc x E => _ | _ => _) = _
  rw [e2]
def dueV (n d : Int) : D := if MAX < (if loN n d < 0 then -loN n d else loN n d) then .tup [.str "number", .int (loN n d)] else if MAX < loD n d then .tup [.str "number", .int (loD n d)] else .tup [.str "ratio", .int (loN n d), .int (loD n d)]
def dueD (n d : Int) : D := if d = 0 then .tup [.str "number", .int 0] else if d < 0 then dueV (-n) (-d) else dueV n d
theorem due_V {n d : Int} (h : 0 < d) : dueD n d = dueV n d := by
  unfold dueD
  rw [if_neg (by omega), if_neg (by omega)]
theorem due_run {n d : Int} (h : 0 < d) (hn : n.natAbs < BIG) (hd : d.natAbs < BIG) : ∃ E, F_L_due [.val (.int n), .val (.int d)] = .ok (.v (dueV n d)) E := by
  have b1 := g_divB n (g2 n d) (g2_pos h) hn
  have b2 := g_divB d (g2 n d) (g2_pos h) hd
  have e := e_common (a := if n < 0 then -n else n) (b := d) (by split <;> omega) (by omega)
  rw [g2_abs] at e
  have hd0 : ¬ d = 0 := by omega
  have hd1 : ¬ d < 0 := by omega
  have dN : n / g2 n d = loN n d := rfl
  have dD : d / g2 n d = loD n d := rfl
  rw [dN] at b1
  rw [dD] at b2
  unfold dueV
  by_cases c1 : MAX < (if loN n d < 0 then -loN n d else loN n d)
  · rw [if_pos c1]
    simp [F_L_due, runF, f_L_due, ownsA, ndA, argS, backE, hd0, hd1, e, b1, b2, pow50, pow40, c1]
  · rw [if_neg c1]
    by_cases c2 : MAX < loD n d
    · rw [if_pos c2]
      simp [F_L_due, runF, f_L_due, ownsA, ndA, argS, backE, hd0, hd1, e, b1, b2, pow50, pow40, c1, c2]
    · rw [if_neg c2]
      simp [F_L_due, runF, f_L_due, ownsA, ndA, argS, backE, hd0, hd1, e, b1, b2, pow50, pow40, c1, c2]
theorem e_due {n d : Int} (hn : n.natAbs < BIG) (hd : d.natAbs < BIG) : F_L_due [.val (.int n), .val (.int d)] = .ok (.v (dueD n d)) (ev F_L_due [.val (.int n), .val (.int d)]) := by
  refine of_ok ?_
  rcases Int.lt_trichotomy d 0 with h | h | h
  · unfold dueD
    rw [if_neg (by omega), if_pos h]
    have b1 := g_divB (-n) (g2 (-n) (-d)) (g2_pos (by omega)) (by omega)
    have b2 := g_divB (-d) (g2 (-n) (-d)) (g2_pos (by omega)) (by omega)
    have e := e_common (a := if -n < 0 then - -n else -n) (b := -d) (by split <;> omega) (by omega)
    rw [g2_abs] at e
    have hd0 : ¬ d = 0 := by omega
    have dN : -n / g2 (-n) (-d) = loN (-n) (-d) := rfl
    have dD : -d / g2 (-n) (-d) = loD (-n) (-d) := rfl
    rw [dN] at b1
    rw [dD] at b2
    unfold dueV
    have e : F_L_common [.val (.int (if -n < 0 then - -n else -n)), .val (.int (-d))] = _ := e
    generalize hx : (if -n < 0 then - -n else -n) = x at e
    have ga : gAbs (.int (-n)) = some (.int x) := by rw [g_abs, hx]
    by_cases c1 : MAX < (if loN (-n) (-d) < 0 then -loN (-n) (-d) else loN (-n) (-d))
    · rw [if_pos c1]
      simp [-g_abs, F_L_due, runF, f_L_due, ownsA, ndA, argS, backE, hd0, h, ga, e, b1, b2, pow50, pow40]
      simp [c1, pow50, pow40]
    · rw [if_neg c1]
      by_cases c2 : MAX < loD (-n) (-d)
      · rw [if_pos c2]
        simp [-g_abs, F_L_due, runF, f_L_due, ownsA, ndA, argS, backE, hd0, h, ga, e, b1, b2, pow50, pow40]
        simp [c1, c2, pow50, pow40]
      · rw [if_neg c2]
        simp [-g_abs, F_L_due, runF, f_L_due, ownsA, ndA, argS, backE, hd0, h, ga, e, b1, b2, pow50, pow40]
        simp [c1, c2, pow50, pow40]
  · subst h
    unfold dueD
    rw [if_pos rfl]
    simp [F_L_due, runF, f_L_due, ownsA, ndA, argS, backE]
  · rw [due_V h]; exact due_run h hn hd
/-- the answer depends on the number alone -/
theorem dueV_eq {n d n' d' : Int} (h : 0 < d) (h' : 0 < d') (e : n * d' = n' * d) : dueV n d = dueV n' d' := by
  obtain ⟨e1, e2⟩ := lo_eq h h' e
  unfold dueV
  rw [e1, e2]
end Lw

namespace Lw
open PySem PySem.Spec PyProof.Rows L2 J
/-! ### sizes -/
def MM : Nat := MAX.natAbs * MAX.natAbs
theorem sz1 {a : Int} (h : inB a) : a.natAbs ≤ MAX.natAbs := by have := h.1; have := h.2; have := MAX_pos; omega
theorem sz2 {a b : Int} (h : inB a) (k : inB b) : (a * b).natAbs ≤ MM := by
  rw [Int.natAbs_mul]; exact Nat.mul_le_mul (sz1 h) (sz1 k)
theorem big_of {x : Int} {k : Nat} (h : x.natAbs ≤ k * MM) (hk : k ≤ 2 ^ 200) : x.natAbs < BIG := by
  have h1 : 2 ^ 200 * MM < BIG := MAX_sq
  have h2 : k * MM ≤ 2 ^ 200 * MM := Nat.mul_le_mul_right _ hk
  omega
theorem big2 {a b : Int} (h : inB a) (k : inB b) : (a * b).natAbs < BIG := big_of (k := 1) (by have := sz2 h k; omega) (by decide)
theorem bigA {x y : Int} (h : x.natAbs ≤ MM) (k : y.natAbs ≤ MM) : (x + y).natAbs < BIG ∧ (x - y).natAbs < BIG := ⟨big_of (k := 2) (by omega) (by decide), big_of (k := 2) (by omega) (by decide)⟩
theorem inB_d {d : Int} (h : 0 < d ∧ d ≤ MAX) : inB d := ⟨by have := MAX_pos; omega, h.2⟩
theorem inB_1 : inB 1 := ⟨by have := MAX_pos; omega, by have := MAX_pos; omega⟩
theorem inB_0 : inB 0 := ⟨by have := MAX_pos; omega, by have := MAX_pos; omega⟩
/-- a right operand: a ratio, or an int -/
inductive Pt : D → Int → Int → Prop
  | r {n d : Int} (hn : inB n) (hd : 0 < d ∧ d ≤ MAX) : Pt (rt n d) n d
  | i {n : Int} (hn : inB n) : Pt (.int n) n 1
theorem Pt.n {y : D} {n d : Int} (h : Pt y n d) : inB n := by cases h <;> assumption
theorem Pt.d {y : D} {n d : Int} (h : Pt y n d) : 0 < d ∧ d ≤ MAX := by
  cases h with
  | r hn hd => exact hd
  | i hn => exact ⟨by decide, inB_1.2⟩
theorem Pt.right {y : D} {n d : Int} (h : Pt y n d) : rightD "Ratio" y = true := by cases h <;> rfl
theorem e_parts {y : D} {n d : Int} (h : Pt y n d) : F_P_ratio_parts [.val y] = .ok (.v (.tup [.int n, .int d])) (ev F_P_ratio_parts [.val y]) := by
  refine of_ok ?_
  cases h with
  | r hn hd => simp [F_P_ratio_parts, runF, f_P_ratio_parts]
  | i hn =>
    have h1 : ¬ (n < -gi_MOST ∨ gi_MOST < n) := by
      have a := hn.1
      have b := hn.2
      rw [gi_M]; omega
    simp [F_P_ratio_parts, runF, f_P_ratio_parts, ownsA, ndA, argS, backE, h1]
section
variable {n d n2 d2 : Int} {y : D}
theorem e_add (hn : inB n) (hd : 0 < d ∧ d ≤ MAX) (h : Pt y n2 d2) : F_M_Ratio_add [.val (rt n d), .val y] = toR (lowV (n * d2 + n2 * d) (d * d2)) (ev F_M_Ratio_add [.val (rt n d), .val y]) := by
  refine of_ex ?_
  have m1 := g_mulB n d2 (inB_big hn) (inB_big (inB_d h.d))
  have m2 := g_mulB n2 d (inB_big h.n) (inB_big (inB_d hd))
  have m3 := g_mulB d d2 (inB_big (inB_d hd)) (inB_big (inB_d h.d))
  have e := e_low (n := n * d2 + n2 * d) (d := d * d2) (Int.mul_pos hd.1 h.d.1) (bigA (sz2 hn (inB_d h.d)) (sz2 h.n (inB_d hd))).1 (big2 (inB_d hd) (inB_d h.d))
  have p := e_parts h
  cases hv : lowV (n * d2 + n2 * d) (d * d2) with
  | error x => rw [hv] at e; simp [F_M_Ratio_add, runF, f_M_Ratio_add, ownsA, ndA, argS, backE, p, m1, m2, m3, e, toR]
  | ok r => rw [hv] at e; simp [F_M_Ratio_add, runF, f_M_Ratio_add, ownsA, ndA, argS, backE, p, m1, m2, m3, e, toR]
theorem e_sub (hn : inB n) (hd : 0 < d ∧ d ≤ MAX) (h : Pt y n2 d2) : F_M_Ratio_sub [.val (rt n d), .val y] = toR (lowV (n * d2 - n2 * d) (d * d2)) (ev F_M_Ratio_sub [.val (rt n d), .val y]) := by
  refine of_ex ?_
  have m1 := g_mulB n d2 (inB_big hn) (inB_big (inB_d h.d))
  have m2 := g_mulB n2 d (inB_big h.n) (inB_big (inB_d hd))
  have m3 := g_mulB d d2 (inB_big (inB_d hd)) (inB_big (inB_d h.d))
  have e := e_low (n := n * d2 - n2 * d) (d := d * d2) (Int.mul_pos hd.1 h.d.1) (bigA (sz2 hn (inB_d h.d)) (sz2 h.n (inB_d hd))).2 (big2 (inB_d hd) (inB_d h.d))
  have p := e_parts h
  cases hv : lowV (n * d2 - n2 * d) (d * d2) with
  | error x => rw [hv] at e; simp [F_M_Ratio_sub, runF, f_M_Ratio_sub, ownsA, ndA, argS, backE, p, m1, m2, m3, e, toR]
  | ok r => rw [hv] at e; simp [F_M_Ratio_sub, runF, f_M_Ratio_sub, ownsA, ndA, argS, backE, p, m1, m2, m3, e, toR]
theorem e_mul (hn : inB n) (hd : 0 < d ∧ d ≤ MAX) (h : Pt y n2 d2) : F_M_Ratio_mul [.val (rt n d), .val y] = toR (lowV (n * n2) (d * d2)) (ev F_M_Ratio_mul [.val (rt n d), .val y]) := by
  refine of_ex ?_
  have m1 := g_mulB n n2 (inB_big hn) (inB_big h.n)
  have m3 := g_mulB d d2 (inB_big (inB_d hd)) (inB_big (inB_d h.d))
  have e := e_low (n := n * n2) (d := d * d2) (Int.mul_pos hd.1 h.d.1) (big2 hn h.n) (big2 (inB_d hd) (inB_d h.d))
  have p := e_parts h
  cases hv : lowV (n * n2) (d * d2) with
  | error x => rw [hv] at e; simp [F_M_Ratio_mul, runF, f_M_Ratio_mul, ownsA, ndA, argS, backE, p, m1, m3, e, toR]
  | ok r => rw [hv] at e; simp [F_M_Ratio_mul, runF, f_M_Ratio_mul, ownsA, ndA, argS, backE, p, m1, m3, e, toR]
def overV (n d n2 d2 : Int) : Except Exn D := if n2 = 0 then .error (xN 0) else if n2 < 0 then lowV (-n * d2) (-d * n2) else lowV (n * d2) (d * n2)
theorem inB_neg {a : Int} (h : inB a) : inB (-a) := ⟨by have := h.2; omega, by have := h.1; omega⟩
theorem e_over (hn : inB n) (hd : 0 < d ∧ d ≤ MAX) (hn2 : inB n2) (hd2 : 0 < d2 ∧ d2 ≤ MAX) : F_M_Ratio_over [.val (rt n d), .val (rt n2 d2)] = toR (overV n d n2 d2) (ev F_M_Ratio_over [.val (rt n d), .val (rt n2 d2)]) := by
  refine of_ex ?_
  unfold overV
  by_cases h0 : n2 = 0
  · subst h0
    simp [F_M_Ratio_over, runF, f_M_Ratio_over, toR, xN]
  · rw [if_neg h0]
    by_cases h1 : n2 < 0
    · rw [if_pos h1]
      have m1 := g_mulB (-n) d2 (inB_big (inB_neg hn)) (inB_big (inB_d hd2))
      have m3 := g_mulB (-d) n2 (inB_big (inB_neg (inB_d hd))) (inB_big hn2)
      have e := e_low (n := -n * d2) (d := -d * n2) (by rw [Int.neg_mul, ← Int.mul_neg]; exact Int.mul_pos hd.1 (by omega)) (big2 (inB_neg hn) (inB_d hd2)) (big2 (inB_neg (inB_d hd)) hn2)
      generalize hX : -n * d2 = X at *
      generalize hY : -d * n2 = Y at *
      cases hv : lowV X Y with
      | error x => rw [hv] at e; simp [F_M_Ratio_over, runF, f_M_Ratio_over, ownsA, ndA, argS, backE, h0, h1, m1, m3, e, toR]
      | ok r => rw [hv] at e; simp [F_M_Ratio_over, runF, f_M_Ratio_over, ownsA, ndA, argS, backE, h0, h1, m1, m3, e, toR]
    · rw [if_neg h1]
      have m1 := g_mulB n d2 (inB_big hn) (inB_big (inB_d hd2))
      have m3 := g_mulB d n2 (inB_big (inB_d hd)) (inB_big hn2)
      have e := e_low (n := n * d2) (d := d * n2) (Int.mul_pos hd.1 (by omega)) (big2 hn (inB_d hd2)) (big2 (inB_d hd) hn2)
      cases hv : lowV (n * d2) (d * n2) with
      | error x => rw [hv] at e; simp [F_M_Ratio_over, runF, f_M_Ratio_over, ownsA, ndA, argS, backE, h0, h1, m1, m3, e, toR]
      | ok r => rw [hv] at e; simp [F_M_Ratio_over, runF, f_M_Ratio_over, ownsA, ndA, argS, backE, h0, h1, m1, m3, e, toR]
end
/-! ### told -/
@[simp] theorem e_int (i : Int) : F_L_int [.val (.int i)] = .ok (.v (.bl true)) [.val (.int i)] := by
  simp [F_L_int, runF, f_L_int]
theorem e_pair (n d : Int) : F_L_pair [.val (rt n d)] = .ok (.v (.tup [.str "ratio", .int n, .int d])) (ev F_L_pair [.val (rt n d)]) := by
  refine of_ok ?_
  simp [F_L_pair, runF, f_L_pair, ownsA, ndA, argS, backE]
/-- what is told of an answer -/
def tellV : Except Exn D → D
  | .ok (.ins _ _ [.int n, .int d]) => .tup [.str "ratio", .int n, .int d]
  | .error ⟨_, _, [.int n]⟩ => .tup [.str "number", .int n]
  | _ => .non
theorem tell_low {n d : Int} : tellV (lowV n d) = dueV n d := by
  unfold lowV dueV
  have h : (loN n d < -MAX ∨ MAX < loN n d) ↔ MAX < (if loN n d < 0 then -loN n d else loN n d) := by split <;> omega
  by_cases c1 : loN n d < -MAX ∨ MAX < loN n d
  · rw [if_pos c1, if_pos (h.mp c1)]; rfl
  · rw [if_neg c1, if_neg (fun z => c1 (h.mpr z))]
    by_cases c2 : MAX < loD n d
    · rw [if_pos c2, if_pos c2]; rfl
    · rw [if_neg c2, if_neg c2]; rfl
theorem low_cases (n d : Int) : (∃ v, lowV n d = .error (xN v)) ∨ ∃ a b, lowV n d = .ok (rt a b) := by
  unfold lowV
  split
  · exact .inl ⟨_, rfl⟩
  · split
    · exact .inl ⟨_, rfl⟩
    · exact .inr ⟨_, _, rfl⟩
theorem over_cases (n d n2 d2 : Int) : (∃ v, overV n d n2 d2 = .error (xN v)) ∨ ∃ a b, overV n d n2 d2 = .ok (rt a b) := by
  unfold overV
  split
  · exact .inl ⟨_, rfl⟩
  · split
    · exact low_cases _ _
    · exact low_cases _ _
end Lw

namespace Lw
open PySem PySem.Spec PyProof.Rows L2 J
theorem runF_rt {n : Nat} {f : J.Env → RS} {as E0 : List Sl} {r : RV} {E : J.Env} (h : as ++ List.replicate (n - as.length) .no = E0) (e : f E0 = .rt r E) : runF n f as = .ok r E := by
  unfold runF
  rw [h, e]
theorem g_eqS {a b : Str} {k : Bool} (h : (okD (.str a) && okD (.str b) && (PyData.eqv (.str a) (.str b) == k)) = true) : gEq (.str a) (.str b) = some (.bl k) := by
  simp only [Bool.and_eq_true, beq_iff_eq] at h
  unfold gEq
  rw [h.1.1, h.1.2]
  show some (D.bl (PyData.eqv (.str a) (.str b))) = _
  rw [h.2]
theorem se_p_p : gEq (.str "+") (.str "+") = some (.bl true) := g_eqS (by decide +kernel)
theorem se_p_m : gEq (.str "+") (.str "-") = some (.bl false) := g_eqS (by decide +kernel)
theorem se_p_t : gEq (.str "+") (.str "*") = some (.bl false) := g_eqS (by decide +kernel)
theorem se_m_p : gEq (.str "-") (.str "+") = some (.bl false) := g_eqS (by decide +kernel)
theorem se_m_m : gEq (.str "-") (.str "-") = some (.bl true) := g_eqS (by decide +kernel)
theorem se_m_t : gEq (.str "-") (.str "*") = some (.bl false) := g_eqS (by decide +kernel)
theorem se_t_p : gEq (.str "*") (.str "+") = some (.bl false) := g_eqS (by decide +kernel)
theorem se_t_m : gEq (.str "*") (.str "-") = some (.bl false) := g_eqS (by decide +kernel)
theorem se_t_t : gEq (.str "*") (.str "*") = some (.bl true) := g_eqS (by decide +kernel)
theorem se_d_p : gEq (.str "/") (.str "+") = some (.bl false) := g_eqS (by decide +kernel)
theorem se_d_m : gEq (.str "/") (.str "-") = some (.bl false) := g_eqS (by decide +kernel)
theorem se_d_t : gEq (.str "/") (.str "*") = some (.bl false) := g_eqS (by decide +kernel)
def toC : List Cl := [⟨exm_NumberError, some 3, fun y => (sSeq (sIf (fOr (fNot (fTru (fCallR 1 F_L_int (xV (fXf okf_NumberError_number y "number") xNil) rvD))) (fNot (fTru (fIsE isx_0 y)))) (sSeq (sRet (fTup (fCons (fC (.str "odd")) fNil))) sNil) sNil) (sSeq (sRet (fTup (fCons (fC (.str "number")) (fCons (fXf okf_NumberError_number y "number") fNil)))) sNil))⟩]
def toB : J.Env → RS := (sIf (fTest (fop gEq (fVar 0) (fC (.str "+")))) (sSet 4 (fBin T_op_add gAdd (fVar 1) (fVar 2))) (sIf (fTest (fop gEq (fVar 0) (fC (.str "-")))) (sSet 4 (fBin T_op_sub gSub (fVar 1) (fVar 2))) (sIf (fTest (fop gEq (fVar 0) (fC (.str "*")))) (sSet 4 (fBin T_op_mul gMul (fVar 1) (fVar 2))) (sSet 4 (fMeth "over" 2 T_mt_over [] (fVar 1) (xV (fVar 2) xNil))))))
theorem told_eq : f_L_told = sSeq (sTry toB toC) (sRet (fCallR 1 F_L_pair (xV (fVar 4) xNil) rvD)) := rfl
theorem cl_N (i : Int) (a0 a1 a2 c d : Sl) : ∃ E', clD toC (xN i) [a0, a1, a2, c, d] = .rt (.v (.tup [.str "number", .int i])) E' := ⟨_, rfl⟩
def resB (r : Except Exn D) (a0 a1 a2 : Sl) : RS := match r with
  | .ok x => .nx [a0, a1, a2, .no, .val x]
  | .error x => .exc x [a0, a1, a2, .no, .no]
theorem told_of {a0 a1 a2 : D} {r : Except Exn D} (hr : (∃ v, r = .error (xN v)) ∨ ∃ a b, r = .ok (rt a b)) (h : toB [.val a0, .val a1, .val a2, .no, .no] = resB r (.val a0) (.val a1) (.val a2)) : ∃ E, F_L_told [.val a0, .val a1, .val a2] = .ok (.v (tellV r)) E := by
  rcases hr with ⟨v, rfl⟩ | ⟨a, b, rfl⟩
  · obtain ⟨E', hc⟩ := cl_N v (.val a0) (.val a1) (.val a2) .no .no
    refine ⟨E', runF_rt (n := 5) (f := f_L_told) (E0 := [.val a0, .val a1, .val a2, .no, .no]) rfl ?_⟩
    rw [told_eq, u_sSeq]
    have e : sTry toB toC [.val a0, .val a1, .val a2, .no, .no] = .rt (.v (.tup [.str "number", .int v])) E' := by
      unfold sTry; rw [h]; exact hc
    rw [e]; rfl
  · refine ⟨_, runF_rt (n := 5) (f := f_L_told) (E0 := [.val a0, .val a1, .val a2, .no, .no]) (E := [.val a0, .val a1, .val a2, .no, .val (rt a b)]) rfl ?_⟩
    rw [told_eq, u_sSeq]
    have e : sTry toB toC [.val a0, .val a1, .val a2, .no, .no] = .nx [.val a0, .val a1, .val a2, .no, .val (rt a b)] := by
      unfold sTry; rw [h]; rfl
    rw [e]
    simp [ownsA, ndA, argS, backE, e_pair]
    rfl
section
variable {n d n2 d2 : Int} {y : D}
theorem told_add (hn : inB n) (hd : 0 < d ∧ d ≤ MAX) (h : Pt y n2 d2) : ∃ E, F_L_told [.val (.str "+"), .val (rt n d), .val y] = .ok (.v (dueV (n * d2 + n2 * d) (d * d2))) E := by
  rw [← tell_low]
  refine told_of (low_cases _ _) ?_
  have e := e_add hn hd h
  rcases low_cases (n * d2 + n2 * d) (d * d2) with ⟨v, hv⟩ | ⟨a, b, hv⟩
  · rw [hv] at e ⊢; simp [toB, se_p_p, h.right, ownsA, ndA, argS, backE, e, toR, resB]
  · rw [hv] at e ⊢; simp [toB, se_p_p, h.right, ownsA, ndA, argS, backE, e, toR, resB]
theorem told_sub (hn : inB n) (hd : 0 < d ∧ d ≤ MAX) (h : Pt y n2 d2) : ∃ E, F_L_told [.val (.str "-"), .val (rt n d), .val y] = .ok (.v (dueV (n * d2 - n2 * d) (d * d2))) E := by
  rw [← tell_low]
  refine told_of (low_cases _ _) ?_
  have e := e_sub hn hd h
  rcases low_cases (n * d2 - n2 * d) (d * d2) with ⟨v, hv⟩ | ⟨a, b, hv⟩
  · rw [hv] at e ⊢; simp [toB, se_m_p, se_m_m, h.right, ownsA, ndA, argS, backE, e, toR, resB]
  · rw [hv] at e ⊢; simp [toB, se_m_p, se_m_m, h.right, ownsA, ndA, argS, backE, e, toR, resB]
theorem told_mul (hn : inB n) (hd : 0 < d ∧ d ≤ MAX) (h : Pt y n2 d2) : ∃ E, F_L_told [.val (.str "*"), .val (rt n d), .val y] = .ok (.v (dueV (n * n2) (d * d2))) E := by
  rw [← tell_low]
  refine told_of (low_cases _ _) ?_
  have e := e_mul hn hd h
  rcases low_cases (n * n2) (d * d2) with ⟨v, hv⟩ | ⟨a, b, hv⟩
  · rw [hv] at e ⊢; simp [toB, se_t_p, se_t_m, se_t_t, h.right, ownsA, ndA, argS, backE, e, toR, resB]
  · rw [hv] at e ⊢; simp [toB, se_t_p, se_t_m, se_t_t, h.right, ownsA, ndA, argS, backE, e, toR, resB]
theorem tell_over (hd : 0 < d) : tellV (overV n d n2 d2) = dueD (n * d2) (d * n2) := by
  unfold overV dueD
  by_cases h0 : n2 = 0
  · subst h0; simp [tellV, xN]
  · rw [if_neg h0]
    by_cases h1 : n2 < 0
    · have hm : d * n2 < 0 := by
        have := Int.mul_pos hd (show 0 < -n2 by omega)
        rw [Int.mul_neg] at this; omega
      rw [if_pos h1, if_neg (by omega), if_pos hm, tell_low, Int.neg_mul, Int.neg_mul]
    · have hm : 0 < d * n2 := Int.mul_pos hd (by omega)
      rw [if_neg h1, if_neg (by omega), if_neg (by omega), tell_low]
theorem told_over (hn : inB n) (hd : 0 < d ∧ d ≤ MAX) (hn2 : inB n2) (hd2 : 0 < d2 ∧ d2 ≤ MAX) : ∃ E, F_L_told [.val (.str "/"), .val (rt n d), .val (rt n2 d2)] = .ok (.v (dueD (n * d2) (d * n2))) E := by
  rw [← tell_over hd.1]
  refine told_of (over_cases _ _ _ _) ?_
  have e := e_over hn hd hn2 hd2
  have hov : ((["num", "den"] : List Str).contains "over") = false := by decide +kernel
  rcases over_cases n d n2 d2 with ⟨v, hv⟩ | ⟨a, b, hv⟩
  · rw [hv] at e ⊢; simp [toB, se_d_p, se_d_m, se_d_t, ownsA, ndA, argS, backE, e, toR, resB]; simp_all
  · rw [hv] at e ⊢; simp [toB, se_d_p, se_d_m, se_d_t, ownsA, ndA, argS, backE, e, toR, resB]; simp_all
end
end Lw

namespace Lw
open PySem PySem.Spec PyProof.Rows L2 J
/-- flat data in at most k levels, comparable -/
structure Fl (k : Nat) (d : D) : Prop where
  pl : plain d = true
  lay : (toPy d).canLay0 = true
  dep : (toPy d).depth ≤ k
structure Fls (k : Nat) (l : List D) : Prop where
  pl : plains l = true
  lay : PyData.canLayAll0 (toPys l) = true
  dep : PyData.depthAll (toPys l) ≤ k
theorem Fls.nil (k : Nat) : Fls k [] := ⟨rfl, rfl, Nat.zero_le _⟩
theorem Fls.cons {k : Nat} {d : D} {l : List D} (h : Fl k d) (hs : Fls k l) : Fls k (d :: l) := by
  refine ⟨?_, ?_, ?_⟩
  · simp [plains, h.pl, hs.pl]
  · simp [toPys, PyData.canLayAll0, h.lay, hs.lay]
  · have h1 := h.dep
    have h2 := hs.dep
    simp only [toPys, PyData.depthAll]
    omega
theorem Fl.int (k : Nat) (i : Int) : Fl k (.int i) := ⟨rfl, rfl, Nat.zero_le _⟩
theorem Fl.bl (k : Nat) (i : Bool) : Fl k (.bl i) := ⟨rfl, rfl, Nat.zero_le _⟩
theorem Fl.lst {k : Nat} {l : List D} (h : Fls k l) : Fl (k + 1) (.lst l) := ⟨by simpa [J.plain] using h.pl, by simpa [toPy, PyData.canLay0] using h.lay, by have := h.dep; simp [toPy, PyData.depth]; omega⟩
theorem Fl.tup {k : Nat} {l : List D} (h : Fls k l) : Fl (k + 1) (.tup l) := ⟨by simpa [J.plain] using h.pl, by simpa [toPy, PyData.canLay0] using h.lay, by have := h.dep; simp [toPy, PyData.depth]; omega⟩
theorem Fls.ints (k : Nat) : ∀ xs : List Int, Fls k (iD xs)
  | [] => Fls.nil k
  | x :: xs => Fls.cons (Fl.int k x) (Fls.ints k xs)
theorem Fl.ok {k : Nat} {d : D} (h : Fl k d) (hk : k ≤ 64) : okD d = true := by
  unfold okD SeqAt.shaped
  rw [h.pl, h.lay, decide_eq_true (by have := h.dep; omega)]; rfl
theorem eq_same {k : Nat} {d : D} (h : Fl k d) (hk : k ≤ 64) : gEq d d = some (.bl true) := by
  unfold gEq
  rw [h.ok hk, PySem.SeqAt.eqv_refl _ h.lay]; rfl
theorem ne_same {k : Nat} {d : D} (h : Fl k d) (hk : k ≤ 64) : gNe d d = some (.bl false) := by
  unfold gNe
  rw [h.ok hk, PySem.SeqAt.eqv_refl _ h.lay]; rfl
theorem Fl.str {x : Str} (k : Nat) (h : okD (.str x) = true) : Fl k (.str x) := by
  have h2 := (Bool.and_eq_true_iff.mp h).2
  exact ⟨rfl, SeqAt.canLay_of_shaped h2, Nat.zero_le _⟩

theorem Fl.num (n : Int) : Fl 1 (.tup [.str "number", .int n]) := Fl.tup (Fls.cons (Fl.str 0 (by decide +kernel)) (Fls.cons (Fl.int 0 n) (Fls.nil 0)))
theorem Fl.rat (n d : Int) : Fl 1 (.tup [.str "ratio", .int n, .int d]) := Fl.tup (Fls.cons (Fl.str 0 (by decide +kernel)) (Fls.cons (Fl.int 0 n) (Fls.cons (Fl.int 0 d) (Fls.nil 0))))
theorem Fl.dueV (n d : Int) : Fl 1 (dueV n d) := by
  unfold Lw.dueV
  by_cases c1 : MAX < (if loN n d < 0 then -loN n d else loN n d)
  · rw [if_pos c1]; exact Fl.num _
  · rw [if_neg c1]
    by_cases c2 : MAX < loD n d
    · rw [if_pos c2]; exact Fl.num _
    · rw [if_neg c2]; exact Fl.rat _ _
theorem Fl.due (n d : Int) : Fl 1 (dueD n d) := by
  unfold dueD
  split
  · exact Fl.num _
  · split <;> exact Fl.dueV _ _
/-! ### the law's results -/
def pr (n d : Int) : D := .tup [.int n, .int d]
def resD (s : Str) (n d n2 d2 : Int) : D := if s = "+" then dueD (n * d2 + n2 * d) (d * d2) else if s = "-" then dueD (n * d2 - n2 * d) (d * d2) else if s = "*" then dueD (n * n2) (d * d2) else dueD (n * d2) (d * n2)
section
variable {n d n2 d2 : Int}
theorem r_add (hn : inB n) (hd : inB d) (hn2 : inB n2) (hd2 : inB d2) : F_L_result [.val (.str "+"), .val (pr n d), .val (pr n2 d2)] = .ok (.v (dueD (n * d2 + n2 * d) (d * d2))) (ev F_L_result [.val (.str "+"), .val (pr n d), .val (pr n2 d2)]) := by
  refine of_ok ?_
  have m1 := g_mulB n d2 (inB_big hn) (inB_big hd2)
  have m2 := g_mulB n2 d (inB_big hn2) (inB_big hd)
  have m3 := g_mulB d d2 (inB_big hd) (inB_big hd2)
  have e := e_due (bigA (sz2 hn hd2) (sz2 hn2 hd)).1 (big2 hd hd2)
  simp [pr, F_L_result, runF, f_L_result, ownsA, ndA, argS, backE, m1, m2, m3, e, se_p_p]
theorem r_sub (hn : inB n) (hd : inB d) (hn2 : inB n2) (hd2 : inB d2) : F_L_result [.val (.str "-"), .val (pr n d), .val (pr n2 d2)] = .ok (.v (dueD (n * d2 - n2 * d) (d * d2))) (ev F_L_result [.val (.str "-"), .val (pr n d), .val (pr n2 d2)]) := by
  refine of_ok ?_
  have m1 := g_mulB n d2 (inB_big hn) (inB_big hd2)
  have m2 := g_mulB n2 d (inB_big hn2) (inB_big hd)
  have m3 := g_mulB d d2 (inB_big hd) (inB_big hd2)
  have e := e_due (bigA (sz2 hn hd2) (sz2 hn2 hd)).2 (big2 hd hd2)
  simp [pr, F_L_result, runF, f_L_result, ownsA, ndA, argS, backE, m1, m2, m3, e, se_m_p, se_m_m]
theorem r_mul (hn : inB n) (hd : inB d) (hn2 : inB n2) (hd2 : inB d2) : F_L_result [.val (.str "*"), .val (pr n d), .val (pr n2 d2)] = .ok (.v (dueD (n * n2) (d * d2))) (ev F_L_result [.val (.str "*"), .val (pr n d), .val (pr n2 d2)]) := by
  refine of_ok ?_
  have m1 := g_mulB n n2 (inB_big hn) (inB_big hn2)
  have m3 := g_mulB d d2 (inB_big hd) (inB_big hd2)
  have e := e_due (big2 hn hn2) (big2 hd hd2)
  simp [pr, F_L_result, runF, f_L_result, ownsA, ndA, argS, backE, m1, m3, e, se_t_p, se_t_m, se_t_t]
theorem r_div (hn : inB n) (hd : inB d) (hn2 : inB n2) (hd2 : inB d2) : F_L_result [.val (.str "/"), .val (pr n d), .val (pr n2 d2)] = .ok (.v (dueD (n * d2) (d * n2))) (ev F_L_result [.val (.str "/"), .val (pr n d), .val (pr n2 d2)]) := by
  refine of_ok ?_
  have m1 := g_mulB n d2 (inB_big hn) (inB_big hd2)
  have m3 := g_mulB d n2 (inB_big hd) (inB_big hn2)
  have e := e_due (big2 hn hd2) (big2 hd hn2)
  simp [pr, F_L_result, runF, f_L_result, ownsA, ndA, argS, backE, m1, m3, e, se_d_p, se_d_m, se_d_t]
end
/-- a drawn pair: within bounds, the denominator positive -/
structure Fp (N D : Int) : Prop where
  n : inB N
  d : 0 < D ∧ D ≤ MAX
theorem Fp.low {N D : Int} (h : Fp N D) : Fp (loN N D) (loD N D) := by
  have h1 := loN_le N D
  have h2 := loD_le (n := N) h.d.1
  have h3 := loD_pos (n := N) h.d.1
  have h4 := sz1 h.n
  have h5 := MAX_pos
  exact ⟨⟨by omega, by omega⟩, h3, Int.le_trans h2 h.d.2⟩
theorem cross_add {n d n2 d2 N D N2 D2 : Int} (c : n * D = N * d) (c2 : n2 * D2 = N2 * d2) : (n * d2 + n2 * d) * (D * D2) = (N * D2 + N2 * D) * (d * d2) ∧ (n * d2 - n2 * d) * (D * D2) = (N * D2 - N2 * D) * (d * d2) := by
  have h1 : n * d2 * (D * D2) = N * D2 * (d * d2) := by
    calc n * d2 * (D * D2) = (n * D) * (d2 * D2) := by ac_rfl
      _ = (N * d) * (d2 * D2) := by rw [c]
      _ = N * D2 * (d * d2) := by ac_rfl
  have h2 : n2 * d * (D * D2) = N2 * D * (d * d2) := by
    calc n2 * d * (D * D2) = (n2 * D2) * (d * D) := by ac_rfl
      _ = (N2 * d2) * (d * D) := by rw [c2]
      _ = N2 * D * (d * d2) := by ac_rfl
  rw [Int.add_mul, Int.add_mul, Int.sub_mul, Int.sub_mul, h1, h2]
  exact ⟨rfl, rfl⟩
theorem cross_mul {n d n2 d2 N D N2 D2 : Int} (c : n * D = N * d) (c2 : n2 * D2 = N2 * d2) : (n * n2) * (D * D2) = (N * N2) * (d * d2) ∧ (n * d2) * (D * N2) = (N * D2) * (d * n2) := by
  constructor
  · calc (n * n2) * (D * D2) = (n * D) * (n2 * D2) := by ac_rfl
      _ = (N * d) * (N2 * d2) := by rw [c, c2]
      _ = (N * N2) * (d * d2) := by ac_rfl
  · calc (n * d2) * (D * N2) = (n * D) * (N2 * d2) := by ac_rfl
      _ = (N * d) * (n2 * D2) := by rw [c, c2]
      _ = (N * D2) * (d * n2) := by ac_rfl
/-- y is the right operand of the number N2 / D2 -/
structure Rp2 (y : D) (N2 D2 : Int) : Prop where
  f : Fp N2 D2
  p : ∃ n2 d2, Pt y n2 d2 ∧ n2 * D2 = N2 * d2
theorem Rp2.rt {N D : Int} (h : Fp N D) : Rp2 (rt (loN N D) (loD N D)) N D := ⟨h, _, _, .r h.low.n h.low.d, lo_cross⟩
theorem Rp2.int {w : Int} (h : inB w) : Rp2 (.int w) w 1 := ⟨⟨h, by decide, inB_1.2⟩, w, 1, .i h, rfl⟩
theorem dueD_scale {n d n' d' : Int} (h0 : d = 0 ↔ d' = 0) (hs : d < 0 ↔ d' < 0) (e : n * d' = n' * d) : dueD n d = dueD n' d' := by
  unfold dueD
  by_cases c0 : d = 0
  · rw [if_pos c0, if_pos (h0.mp c0)]
  · rw [if_neg c0, if_neg (fun z => c0 (h0.mpr z))]
    by_cases c1 : d < 0
    · rw [if_pos c1, if_pos (hs.mp c1)]
      have := hs.mp c1
      exact dueV_eq (by omega) (by omega) (by rw [Int.neg_mul_neg, Int.neg_mul_neg]; exact e)
    · rw [if_neg c1, if_neg (fun z => c1 (hs.mpr z))]
      have : ¬ d' = 0 := fun z => c0 (h0.mpr z)
      have : ¬ d' < 0 := fun z => c1 (hs.mpr z)
      exact dueV_eq (by omega) (by omega) e
section
variable {y : J.D} {N D N2 D2 : Int}
theorem s_add (h : Fp N D) (k : Rp2 y N2 D2) : ∃ Z, Fl 1 Z ∧ (∃ E, F_L_told [.val (.str "+"), .val (rt (loN N D) (loD N D)), .val y] = .ok (.v Z) E) ∧ ∃ E, F_L_result [.val (.str "+"), .val (pr N D), .val (pr N2 D2)] = .ok (.v Z) E := by
  obtain ⟨n2, d2, hp, c2⟩ := k.p
  have e := told_add h.low.n h.low.d hp
  rw [dueV_eq (Int.mul_pos h.low.d.1 hp.d.1) (Int.mul_pos h.d.1 k.f.d.1) (cross_add lo_cross c2).1] at e
  refine ⟨_, Fl.dueV _ _, e, ?_⟩
  rw [← due_V (Int.mul_pos h.d.1 k.f.d.1)]
  exact ⟨_, r_add h.n (inB_d h.d) k.f.n (inB_d k.f.d)⟩
theorem s_sub (h : Fp N D) (k : Rp2 y N2 D2) : ∃ Z, Fl 1 Z ∧ (∃ E, F_L_told [.val (.str "-"), .val (rt (loN N D) (loD N D)), .val y] = .ok (.v Z) E) ∧ ∃ E, F_L_result [.val (.str "-"), .val (pr N D), .val (pr N2 D2)] = .ok (.v Z) E := by
  obtain ⟨n2, d2, hp, c2⟩ := k.p
  have e := told_sub h.low.n h.low.d hp
  rw [dueV_eq (Int.mul_pos h.low.d.1 hp.d.1) (Int.mul_pos h.d.1 k.f.d.1) (cross_add lo_cross c2).2] at e
  refine ⟨_, Fl.dueV _ _, e, ?_⟩
  rw [← due_V (Int.mul_pos h.d.1 k.f.d.1)]
  exact ⟨_, r_sub h.n (inB_d h.d) k.f.n (inB_d k.f.d)⟩
theorem s_mul (h : Fp N D) (k : Rp2 y N2 D2) : ∃ Z, Fl 1 Z ∧ (∃ E, F_L_told [.val (.str "*"), .val (rt (loN N D) (loD N D)), .val y] = .ok (.v Z) E) ∧ ∃ E, F_L_result [.val (.str "*"), .val (pr N D), .val (pr N2 D2)] = .ok (.v Z) E := by
  obtain ⟨n2, d2, hp, c2⟩ := k.p
  have e := told_mul h.low.n h.low.d hp
  rw [dueV_eq (Int.mul_pos h.low.d.1 hp.d.1) (Int.mul_pos h.d.1 k.f.d.1) (cross_mul lo_cross c2).1] at e
  refine ⟨_, Fl.dueV _ _, e, ?_⟩
  rw [← due_V (Int.mul_pos h.d.1 k.f.d.1)]
  exact ⟨_, r_mul h.n (inB_d h.d) k.f.n (inB_d k.f.d)⟩
theorem sg_eq {a b x y : Int} (hx : 0 < x) (hy : 0 < y) (e : a * x = b * y) : (a = 0 ↔ b = 0) ∧ (a < 0 ↔ b < 0) := by
  have h1 : ∀ {a b x y : Int}, 0 < x → 0 < y → a * x = b * y → (a = 0 → b = 0) ∧ (a < 0 → b < 0) := fun {a b x y} hx hy e => by
    refine ⟨fun h => ?_, fun h => ?_⟩
    · subst h
      rw [Int.zero_mul] at e
      rcases Int.mul_eq_zero.mp e.symm with h | h
      · exact h
      · omega
    · rcases Int.lt_or_le b 0 with h2 | h2
      · exact h2
      · have := Int.mul_nonneg h2 (Int.le_of_lt hy)
        have := Int.mul_neg_of_neg_of_pos h hx
        omega
  exact ⟨⟨(h1 hx hy e).1, (h1 hy hx e.symm).1⟩, ⟨(h1 hx hy e).2, (h1 hy hx e.symm).2⟩⟩
theorem s_div (h : Fp N D) (k : Fp N2 D2) : ∃ Z, Fl 1 Z ∧ (∃ E, F_L_told [.val (.str "/"), .val (rt (loN N D) (loD N D)), .val (rt (loN N2 D2) (loD N2 D2))] = .ok (.v Z) E) ∧ ∃ E, F_L_result [.val (.str "/"), .val (pr N D), .val (pr N2 D2)] = .ok (.v Z) E := by
  have e := told_over h.low.n h.low.d k.low.n k.low.d
  have c := lo_cross (n := N) (d := D)
  have c2 := lo_cross (n := N2) (d := D2)
  have z : dueD (loN N D * loD N2 D2) (loD N D * loN N2 D2) = dueD (N * D2) (D * N2) := by
    have sg := sg_eq (a := loD N D * loN N2 D2) (b := D * N2) (x := D * D2) (y := loD N D * loD N2 D2) (Int.mul_pos h.d.1 k.d.1) (Int.mul_pos h.low.d.1 k.low.d.1) (by
      calc loD N D * loN N2 D2 * (D * D2) = (loN N2 D2 * D2) * (loD N D * D) := by ac_rfl
        _ = (N2 * loD N2 D2) * (loD N D * D) := by rw [c2]
        _ = D * N2 * (loD N D * loD N2 D2) := by ac_rfl)
    exact dueD_scale sg.1 sg.2 (cross_mul c c2).2
  rw [z] at e
  exact ⟨_, Fl.due _ _, e, _, r_div h.n (inB_d h.d) k.n (inB_d k.d)⟩
/-- the calls at one sign agree -/
def Agree (s : Str) (N D : Int) (y : J.D) (N2 D2 : Int) : Prop := ∃ Z, Fl 1 Z ∧ (∃ E, F_L_told [.val (.str s), .val (rt (loN N D) (loD N D)), .val y] = .ok (.v Z) E) ∧ ∃ E, F_L_result [.val (.str s), .val (pr N D), .val (pr N2 D2)] = .ok (.v Z) E
theorem p_ops {signs : List Str} (ha : ∀ s ∈ signs, Agree s N D y N2 D2) : ∃ E, F_L_operations [.val (.lst (signs.map J.D.str)), .val (rt (loN N D) (loD N D)), .val (pr N D), .val y, .val (pr N2 D2)] = .ok (.v (.bl true)) E := by
  simp [F_L_operations, runF, f_L_operations]
  generalize hF : forD _ _ _ _ = r
  obtain ⟨E', rfl, c, rfl⟩ := use_for hF (fun i E => ∃ c : Sl, E = [.val (.lst (signs.map J.D.str)), .val (rt (loN N D) (loD N D)), .val (pr N D), .val y, .val (pr N2 D2), c]) ⟨.no, rfl⟩ (by
    rintro i hi E ⟨c, rfl⟩
    have hi : i < signs.length := by simpa using hi
    obtain ⟨Z, hz, ⟨E1, h1⟩, E2, h2⟩ := ha signs[i] (List.getElem_mem hi)
    have q := ne_same hz (by decide)
    have e : (signs.map J.D.str)[i]'(by simpa using hi) = J.D.str signs[i] := by simp
    simp only [e]
    simp [stF, ownsA, ndA, argS, backE, h1, h2, q])
  simp
end
end Lw

namespace Lw
open PySem PySem.Spec PyProof.Rows L2 J
@[simp] theorem nm_compare_num : (("compare" : Str) = ("num" : Str)) = False := eq_false (by decide +kernel)
@[simp] theorem nm_compare_den : (("compare" : Str) = ("den" : Str)) = False := eq_false (by decide +kernel)
@[simp] theorem nm_floor_num : (("floor" : Str) = ("num" : Str)) = False := eq_false (by decide +kernel)
@[simp] theorem nm_floor_den : (("floor" : Str) = ("den" : Str)) = False := eq_false (by decide +kernel)
@[simp] theorem nm_ceil_num : (("ceil" : Str) = ("num" : Str)) = False := eq_false (by decide +kernel)
@[simp] theorem nm_ceil_den : (("ceil" : Str) = ("den" : Str)) = False := eq_false (by decide +kernel)
@[simp] theorem nm_over_num : (("over" : Str) = ("num" : Str)) = False := eq_false (by decide +kernel)
@[simp] theorem nm_over_den : (("over" : Str) = ("den" : Str)) = False := eq_false (by decide +kernel)
@[simp] theorem g_eqBl (a b : Bool) : gEq (.bl a) (.bl b) = some (.bl (a == b)) := by cases a <;> cases b <;> rfl
@[simp] theorem g_intBl (a : Bool) : gIntF (.bl a) = some (.int (if a = true then 1 else 0)) := rfl
@[simp] theorem g_isbBl (a : Bool) : gIsi "bool" (.bl a) = some (.bl true) := rfl
section
variable {n d n2 d2 : Int}
def cmpV (n d n2 d2 : Int) : Int := if n * d2 < n2 * d then -1 else if n2 * d < n * d2 then 1 else 0
theorem e_compare (hn : inB n) (hd : inB d) (hn2 : inB n2) (hd2 : inB d2) : F_M_Ratio_compare [.val (rt n d), .val (rt n2 d2)] = .ok (.v (.int (cmpV n d n2 d2))) (ev F_M_Ratio_compare [.val (rt n d), .val (rt n2 d2)]) := by
  refine of_ok ?_
  have m1 := g_mulB n d2 (inB_big hn) (inB_big hd2)
  have m2 := g_mulB n2 d (inB_big hn2) (inB_big hd)
  unfold cmpV
  by_cases c1 : n * d2 < n2 * d
  · simp [F_M_Ratio_compare, runF, f_M_Ratio_compare, m1, m2, c1]
  · by_cases c2 : n2 * d < n * d2
    · simp [F_M_Ratio_compare, runF, f_M_Ratio_compare, m1, m2, c1, c2]
    · simp [F_M_Ratio_compare, runF, f_M_Ratio_compare, m1, m2, c1, c2]
theorem e_eqR : F_M_Ratio_eq [.val (rt n d), .val (rt n2 d2)] = .ok (.v (.bl (decide (n = n2) && decide (d = d2)))) (ev F_M_Ratio_eq [.val (rt n d), .val (rt n2 d2)]) := by
  refine of_ok ?_
  by_cases c1 : n = n2
  · by_cases c2 : d = d2
    · simp [F_M_Ratio_eq, runF, f_M_Ratio_eq, c1, c2]
    · simp [F_M_Ratio_eq, runF, f_M_Ratio_eq, c1, c2]
  · simp [F_M_Ratio_eq, runF, f_M_Ratio_eq, c1]
theorem e_eqI (w : Int) : F_M_Ratio_eq [.val (rt n d), .val (.int w)] = .ok (.v (.bl false)) (ev F_M_Ratio_eq [.val (rt n d), .val (.int w)]) := by
  refine of_ok ?_
  simp [F_M_Ratio_eq, runF, f_M_Ratio_eq]
end
@[simp] theorem g_ix0 (a b : Int) : gIx (pr a b) (.int 0) = some (.int a) := rfl
@[simp] theorem g_ix1 (a b : Int) : gIx (pr a b) (.int 1) = some (.int b) := rfl
section
variable {N D N2 D2 : Int}
theorem low_iff (h : Fp N D) (k : Fp N2 D2) : (loN N D = loN N2 D2 ∧ loD N D = loD N2 D2) ↔ N * D2 = N2 * D := by
  constructor
  · rintro ⟨e1, e2⟩
    have c := lo_cross (n := N) (d := D)
    have c2 := lo_cross (n := N2) (d := D2)
    rw [e1, e2] at c
    have hp : 0 < loD N2 D2 := k.low.d.1
    have : loD N2 D2 * (N * D2) = loD N2 D2 * (N2 * D) := by
      calc loD N2 D2 * (N * D2) = (N * loD N2 D2) * D2 := by ac_rfl
        _ = (loN N2 D2 * D) * D2 := by rw [c]
        _ = (loN N2 D2 * D2) * D := by ac_rfl
        _ = (N2 * loD N2 D2) * D := by rw [c2]
        _ = loD N2 D2 * (N2 * D) := by ac_rfl
    exact Int.eq_of_mul_eq_mul_left (by omega) this
  · exact lo_eq h.d.1 k.d.1
theorem low_lt (h : Fp N D) (k : Fp N2 D2) : loN N D * loD N2 D2 < loN N2 D2 * loD N D ↔ N * D2 < N2 * D := by
  have e := (cross_add (n := loN N D) (d := loD N D) (n2 := loN N2 D2) (d2 := loD N2 D2) (N := N) (D := D) (N2 := N2) (D2 := D2) lo_cross lo_cross).2
  have := (sg_eq (Int.mul_pos h.d.1 k.d.1) (Int.mul_pos h.low.d.1 k.low.d.1) e).2
  omega
theorem p_order (h : Fp N D) (k : Fp N2 D2) : ∃ E, F_L_order [.val (rt (loN N D) (loD N D)), .val (pr N D), .val (rt (loN N2 D2) (loD N2 D2)), .val (pr N2 D2)] = .ok (.v (.bl true)) E := by
  have m1 := g_mulB N D2 (inB_big h.n) (inB_big (inB_d k.d))
  have m2 := g_mulB N2 D (inB_big k.n) (inB_big (inB_d h.d))
  have e := e_compare h.low.n (inB_d h.low.d) k.low.n (inB_d k.low.d)
  have hc : cmpV (loN N D) (loD N D) (loN N2 D2) (loD N2 D2) = (if N2 * D < N * D2 then 1 else 0) - (if N * D2 < N2 * D then 1 else 0) := by
    unfold cmpV
    have a := low_lt h k
    have b := low_lt k h
    by_cases c1 : N * D2 < N2 * D
    · rw [if_pos (a.mpr c1), if_neg (by omega), if_pos c1]; rfl
    · rw [if_neg (fun z => c1 (a.mp z)), if_neg c1]
      by_cases c2 : N2 * D < N * D2
      · rw [if_pos (b.mpr c2), if_pos c2]; rfl
      · rw [if_neg (fun z => c2 (b.mp z)), if_neg c2]; rfl
  rw [hc] at e
  have q := e_eqR (n := loN N D) (d := loD N D) (n2 := loN N2 D2) (d2 := loD N2 D2)
  have hq : (decide (loN N D = loN N2 D2) && decide (loD N D = loD N2 D2)) = decide (N * D2 = N2 * D) := by
    rw [Bool.eq_iff_iff, Bool.and_eq_true, decide_eq_true_eq, decide_eq_true_eq, decide_eq_true_eq]
    exact low_iff h k
  rw [hq] at q
  have hcm : ((["num", "den"] : List Str).contains "compare") = false := by decide +kernel
  simp [F_L_order, runF, f_L_order, ownsA, ndA, argS, backE, m1, m2]
  simp [hcm, ownsA, ndA, argS, backE, e, q]
end
end Lw

namespace Lw
open PySem PySem.Spec PyProof.Rows L2 J
section
variable {n d : Int}
theorem e_floor (hn : inB n) (hd : 0 < d) : F_M_Ratio_floor [.val (rt n d)] = .ok (.v (.int (n / d))) (ev F_M_Ratio_floor [.val (rt n d)]) := by
  refine of_ok ?_
  have b := g_divB n d hd (inB_big hn)
  simp [F_M_Ratio_floor, runF, f_M_Ratio_floor, b]
theorem e_ceil (hn : inB n) (hd : 0 < d) : F_M_Ratio_ceil [.val (rt n d)] = .ok (.v (.int (-(-n / d)))) (ev F_M_Ratio_ceil [.val (rt n d)]) := by
  refine of_ok ?_
  have b := g_divB (-n) d hd (inB_big (inB_neg hn))
  simp [F_M_Ratio_ceil, runF, f_M_Ratio_ceil, b]
theorem e_neg : F_M_Ratio_neg [.val (rt n d)] = toR (mkV (-n) d) (ev F_M_Ratio_neg [.val (rt n d)]) := by
  refine of_ex ?_
  have e := mk_is (-n) d
  cases hv : mkV (-n) d with
  | error x => rw [hv] at e; simp [F_M_Ratio_neg, runF, f_M_Ratio_neg, e, toD, toR]
  | ok r => rw [hv] at e; simp [F_M_Ratio_neg, runF, f_M_Ratio_neg, e, toD, toR]
theorem e_abs {a : Int} (ha : (if n < 0 then -n else n) = a) : F_M_Ratio_abs [.val (rt n d)] = toR (mkV a d) (ev F_M_Ratio_abs [.val (rt n d)]) := by
  refine of_ex ?_
  have e := mk_is a d
  have g : gAbs (.int n) = some (.int a) := by rw [g_abs, ha]
  cases hv : mkV a d with
  | error x => rw [hv] at e; simp [-g_abs, F_M_Ratio_abs, runF, f_M_Ratio_abs, g, e, toD, toR]
  | ok r => rw [hv] at e; simp [-g_abs, F_M_Ratio_abs, runF, f_M_Ratio_abs, g, e, toD, toR]
@[simp] theorem g_boolI (n : Int) : gBoolF (.int n) = some (.bl (n != 0)) := rfl
theorem e_bool : F_M_Ratio_bool [.val (rt n d)] = .ok (.v (.bl (n != 0))) (ev F_M_Ratio_bool [.val (rt n d)]) := by
  refine of_ok ?_
  simp [F_M_Ratio_bool, runF, f_M_Ratio_bool]
end
section
variable {N D : Int}
theorem lo_div (h : 0 < D) : loN N D / loD N D = N / D ∧ -loN N D / loD N D = -N / D := by
  have e1 := lo_N N D
  have e2 := lo_D N D
  have hg := g2_pos (n := N) h
  have a := Int.mul_ediv_mul_of_pos (loN N D) (loD N D) hg
  have b := Int.mul_ediv_mul_of_pos (-loN N D) (loD N D) hg
  rw [e1, e2] at a
  rw [Int.mul_neg, e1, e2] at b
  exact ⟨a.symm, b.symm⟩
theorem big_in {x : Int} (h : x.natAbs ≤ MAX.natAbs + 1) : x.natAbs < BIG := by
  have h3 : MAX.natAbs ≤ MM := Nat.le_mul_of_pos_right _ (by have := MAX_pos; omega)
  have h4 : 1 ≤ MM := Nat.le_trans (by have := MAX_pos; omega) h3
  exact big_of (k := 2) (by omega) (by decide)
theorem p_rounded (h : Fp N D) : ∃ E, F_L_rounded [.val (rt (loN N D) (loD N D)), .val (pr N D)] = .ok (.v (.bl true)) E := by
  have e1 := e_floor h.low.n h.low.d.1
  have e2 := e_ceil h.low.n h.low.d.1
  rw [(lo_div h.d.1).1] at e1
  rw [(lo_div h.d.1).2] at e2
  have hD := h.d.1
  have s1 := sz1 h.n
  have a1 := Int.natAbs_ediv_le_natAbs N D
  have a2 := Int.natAbs_ediv_le_natAbs (-N) D
  have k1 := Int.ediv_mul_le N (b := D) (by omega)
  have k2 := Int.lt_ediv_add_one_mul_self N hD
  have k3 := Int.ediv_mul_le (-N) (b := D) (by omega)
  have k4 := Int.lt_ediv_add_one_mul_self (-N) hD
  generalize N / D = L at *
  generalize hH : -(-N / D) = H at *
  have hQ : -N / D = -H := by omega
  rw [hQ] at k3 k4 a2
  have k3' : N ≤ H * D := by rw [Int.neg_mul] at k3; omega
  have k4' : (H - 1) * D < N := by
    have : (-H + 1) * D = -((H - 1) * D) := by rw [← Int.neg_mul]; congr 1; omega
    rw [this] at k4; omega
  have bD := inB_big (inB_d h.d)
  have m1 := g_mulB L D (big_in (by omega)) bD
  have m2 := g_mulB (L + 1) D (big_in (by omega)) bD
  have m3 := g_mulB (H - 1) D (big_in (by omega)) bD
  have m4 := g_mulB H D (big_in (by omega)) bD
  simp [F_L_rounded, runF, f_L_rounded, ownsA, ndA, argS, backE, e1, e2, m1, m2, m3, m4, k1, k2, k3', k4']
theorem due_in (h : Fp N D) : dueD N D = .tup [.str "ratio", .int (loN N D), .int (loD N D)] := by
  rw [due_V h.d.1]
  unfold dueV
  have a := h.low.n
  have b := h.low.d
  have a1 := a.1
  have a2 := a.2
  rw [if_neg (by split <;> omega), if_neg (by omega)]
theorem lo_neg : loN (-N) D = -loN N D ∧ loD (-N) D = loD N D := by
  have hg : g2 (-N) D = g2 N D := by unfold g2; rw [Int.natAbs_neg]
  unfold loN loD
  rw [hg]
  exact ⟨Int.neg_ediv_of_dvd (g2_l N D), rfl⟩
theorem lo_neg_iff (h : 0 < D) : (loN N D = 0 ↔ N = 0) ∧ (loN N D < 0 ↔ N < 0) := sg_eq h (loD_pos (n := N) h) lo_cross
theorem mk_low (h : Fp N D) (g : g2 N D = 1) : mkV N D = .ok (rt N D) := by
  obtain ⟨e1, e2⟩ := lo_low g
  unfold mkV
  rw [e1, e2, if_neg (by have := h.n.1; have := h.n.2; omega), if_neg (by have := h.d; omega)]
theorem Fp.neg (h : Fp N D) : Fp (-N) D := ⟨inB_neg h.n, h.d⟩
@[simp] theorem g_neBl (a b : Bool) : gNe (.bl a) (.bl b) = some (.bl (!(a == b))) := by cases a <;> cases b <;> rfl
@[simp] theorem is_F (b : Bool) : isBl false true (.bl b) = some (.bl b) := by cases b <;> rfl
@[simp] theorem is_T (b : Bool) : isBl true true (.bl b) = some (.bl (!b)) := by cases b <;> rfl
theorem p_single (h : Fp N D) : ∃ E, F_L_single [.val (rt (loN N D) (loD N D)), .val (pr N D)] = .ok (.v (.bl true)) E := by
  have hl := h.low
  have gl := g2_lo (n := N) h.d.1
  obtain ⟨ER, er⟩ := p_rounded h
  have ed := e_due (n := N) (d := D) (inB_big h.n) (inB_big (inB_d h.d))
  rw [due_in h] at ed
  have edn := e_due (n := -N) (d := D) (inB_big h.neg.n) (inB_big (inB_d h.d))
  rw [due_in h.neg, lo_neg.1, lo_neg.2] at edn
  have en := e_neg (n := loN N D) (d := loD N D)
  rw [mk_low hl.neg (by unfold g2 at gl ⊢; rw [Int.natAbs_neg]; exact gl)] at en
  have nz := lo_neg_iff (N := N) h.d.1
  have eb := e_bool (n := loN N D) (d := loD N D)
  have hb : (loN N D != 0) = (N != 0) := by
    rw [Bool.eq_iff_iff, bne_iff_ne, bne_iff_ne]
    exact not_congr nz.1
  rw [hb] at eb
  have q1 := ne_same (Fl.rat (loN N D) (loD N D)) (by decide)
  have q2 := ne_same (Fl.rat (-loN N D) (loD N D)) (by decide)
  have ei := e_eqI (n := loN N D) (d := loD N D) N
  have er2 := e_eqR (n := loN N D) (d := loD N D) (n2 := loN N D) (d2 := loD N D)
  have mk := mk_is (loN N D) (loD N D)
  rw [mk_low hl gl] at mk
  have ix1 : gIx (.tup [.str "ratio", .int (loN N D), .int (loD N D)]) (.int 1) = some (.int (loN N D)) := rfl
  have ix2 : gIx (.tup [.str "ratio", .int (loN N D), .int (loD N D)]) (.int 2) = some (.int (loD N D)) := rfl
  obtain ⟨a, ha⟩ : ∃ a, (if loN N D < 0 then -loN N D else loN N D) = a := ⟨_, rfl⟩
  obtain ⟨A, hA⟩ : ∃ A, (if N < 0 then -N else N) = A := ⟨_, rfl⟩
  have eab := e_abs (n := loN N D) (d := loD N D) ha
  have gA : gAbs (.int N) = some (.int A) := by rw [g_abs, hA]
  have key : mkV a (loD N D) = .ok (rt a (loD N D)) ∧ F_L_due [.val (.int A), .val (.int D)] = .ok (.v (.tup [.str "ratio", .int a, .int (loD N D)])) (ev F_L_due [.val (.int A), .val (.int D)]) := by
    by_cases c : N < 0
    · have c' := nz.2.mpr c
      rw [if_pos c] at hA
      rw [if_pos c'] at ha
      subst hA
      subst ha
      exact ⟨mk_low hl.neg (by unfold g2 at gl ⊢; rw [Int.natAbs_neg]; exact gl), edn⟩
    · have c' : ¬ loN N D < 0 := fun z => c (nz.2.mp z)
      rw [if_neg c] at hA
      rw [if_neg c'] at ha
      subst hA
      subst ha
      exact ⟨mk_low hl gl, ed⟩
  rw [key.1] at eab
  have eda := key.2
  have q3 := ne_same (Fl.rat a (loD N D)) (by decide)
  have hg : gTup2 (gsCons (gNm 2) (gsCons (gNm 3) gsNil)) (pr N D) = fun E => some ((E.set 2 (.val (.int N))).set 3 (.val (.int D))) := rfl
  have hz : ((N != 0) = decide (N = 0)) = False := by
    by_cases c : N = 0
    · subst c; simp
    · simp [c]
  generalize loN N D = n0 at *
  generalize loD N D = d0 at *
  simp [-g_abs, F_L_single, runF, f_L_single, ownsA, ndA, argS, backE, hg, ed, edn, e_pair, en, toR, q1, q2, q3, gA, eab, eda, eb, ei, mk, toD, er2, ix1, ix2, er, J.blO, hz]
end
end Lw

namespace Lw
open PySem PySem.Spec PyProof.Rows L2 J
theorem low_dueV {X Y : Int} (h : 0 < Y) : (∃ v, lowV X Y = .error (xN v) ∧ dueV X Y = .tup [.str "number", .int v]) ∨ (lowV X Y = .ok (rt (loN X Y) (loD X Y)) ∧ dueV X Y = .tup [.str "ratio", .int (loN X Y), .int (loD X Y)] ∧ Fp (loN X Y) (loD X Y)) := by
  unfold lowV dueV
  have e : (loN X Y < -MAX ∨ MAX < loN X Y) ↔ MAX < (if loN X Y < 0 then -loN X Y else loN X Y) := by split <;> omega
  have hp := loD_pos (n := X) h
  by_cases c1 : loN X Y < -MAX ∨ MAX < loN X Y
  · rw [if_pos c1, if_pos (e.mp c1)]; exact .inl ⟨_, rfl, rfl⟩
  · rw [if_neg c1, if_neg (fun z => c1 (e.mpr z))]
    by_cases c2 : MAX < loD X Y
    · rw [if_pos c2, if_pos c2]; exact .inl ⟨_, rfl, rfl⟩
    · rw [if_neg c2, if_neg c2]
      exact .inr ⟨rfl, rfl, ⟨⟨by omega, by omega⟩, hp, by omega⟩⟩
theorem low_back {X Y n d : Int} (hY : 0 < Y) (h : Fp n d) (g : g2 n d = 1) (e : X * d = n * Y) : lowV X Y = .ok (rt n d) := by
  obtain ⟨e1, e2⟩ := lo_eq hY h.d.1 e
  obtain ⟨e3, e4⟩ := lo_low g
  unfold lowV
  rw [e1, e2, e3, e4, if_neg (by have := h.n.1; have := h.n.2; omega), if_neg (by have := h.d; omega)]
section
variable {n d n2 d2 : Int}
/-- the sum, and the sum less the second -/
theorem b_plus (h : Fp n d) (g : g2 n d = 1) (k : Fp n2 d2) : (∃ v, dueV (n * d2 + n2 * d) (d * d2) = .tup [.str "number", .int v]) ∨ ∃ a b, dueV (n * d2 + n2 * d) (d * d2) = .tup [.str "ratio", .int a, .int b] ∧
    (∃ E, F_M_Ratio_add [.val (rt n d), .val (rt n2 d2)] = .ok (.v (rt a b)) E) ∧ ∃ E, F_M_Ratio_sub [.val (rt a b), .val (rt n2 d2)] = .ok (.v (rt n d)) E := by
  have hY := Int.mul_pos h.d.1 k.d.1
  have ea := e_add h.n h.d (.r k.n k.d)
  rcases low_dueV (X := n * d2 + n2 * d) hY with ⟨v, _, e2⟩ | ⟨e1, e2, e3⟩
  · exact .inl ⟨v, e2⟩
  · refine .inr ⟨_, _, e2, ?_, ?_⟩
    · rw [e1] at ea; exact ⟨_, ea⟩
    · have es := e_sub e3.n e3.d (.r k.n k.d)
      have c := lo_cross (n := n * d2 + n2 * d) (d := d * d2)
      rw [low_back (Int.mul_pos e3.d.1 k.d.1) h g (by
        generalize loN (n * d2 + n2 * d) (d * d2) = a at *
        generalize loD (n * d2 + n2 * d) (d * d2) = b at *
        have c' : a * d2 * d = n * (b * d2) + n2 * b * d := by
          calc a * d2 * d = a * (d * d2) := by ac_rfl
            _ = (n * d2 + n2 * d) * b := c
            _ = n * d2 * b + n2 * d * b := Int.add_mul _ _ _
            _ = n * (b * d2) + n2 * b * d := by congr 1 <;> ac_rfl
        rw [Int.sub_mul, c']; omega)] at es
      exact ⟨_, es⟩
theorem b_over (h : Fp n d) (g : g2 n d = 1) (k : Fp n2 d2) : (∃ v, dueD (n * d2) (d * n2) = .tup [.str "number", .int v]) ∨ ∃ a b, dueD (n * d2) (d * n2) = .tup [.str "ratio", .int a, .int b] ∧
    (∃ E, F_M_Ratio_over [.val (rt n d), .val (rt n2 d2)] = .ok (.v (rt a b)) E) ∧ ∃ E, F_M_Ratio_mul [.val (rt a b), .val (rt n2 d2)] = .ok (.v (rt n d)) E := by
  have eo := e_over h.n h.d k.n k.d
  have t := tell_over (n := n) (d := d) (n2 := n2) (d2 := d2) h.d.1
  unfold overV at eo t
  have fin : ∀ X Y, 0 < Y → X * (d * n2) = n * d2 * Y → tellV (lowV X Y) = dueD (n * d2) (d * n2) → F_M_Ratio_over [.val (rt n d), .val (rt n2 d2)] = toR (lowV X Y) (ev F_M_Ratio_over [.val (rt n d), .val (rt n2 d2)]) → n2 ≠ 0 → (∃ v, dueD (n * d2) (d * n2) = .tup [.str "number", .int v]) ∨ ∃ a b, dueD (n * d2) (d * n2) = .tup [.str "ratio", .int a, .int b] ∧
    (∃ E, F_M_Ratio_over [.val (rt n d), .val (rt n2 d2)] = .ok (.v (rt a b)) E) ∧ ∃ E, F_M_Ratio_mul [.val (rt a b), .val (rt n2 d2)] = .ok (.v (rt n d)) E := fun X Y hY hc t eo hn2 => by
    rw [tell_low] at t
    rcases low_dueV (X := X) hY with ⟨v, _, e2⟩ | ⟨e1, e2, e3⟩
    · exact .inl ⟨v, by rw [← t, e2]⟩
    · refine .inr ⟨_, _, by rw [← t, e2], by rw [e1] at eo; exact ⟨_, eo⟩, ?_⟩
      have es := e_mul e3.n e3.d (.r k.n k.d)
      have c := lo_cross (n := X) (d := Y)
      rw [low_back (Int.mul_pos e3.d.1 k.d.1) h g (by
        generalize loN X Y = a at *
        generalize loD X Y = b at *
        have h1 : Y * (a * n2 * d) = Y * (n * (b * d2)) := by
          calc Y * (a * n2 * d) = (a * Y) * (d * n2) := by ac_rfl
            _ = (X * b) * (d * n2) := by rw [c]
            _ = X * (d * n2) * b := by ac_rfl
            _ = (n * d2 * Y) * b := by rw [hc]
            _ = Y * (n * (b * d2)) := by ac_rfl
        exact Int.eq_of_mul_eq_mul_left (by omega) h1)] at es
      exact ⟨_, es⟩
  by_cases h0 : n2 = 0
  · subst h0
    refine .inl ⟨0, ?_⟩
    unfold dueD
    rw [if_pos (by simp)]
  · rw [if_neg h0] at eo t
    by_cases h1 : n2 < 0
    · rw [if_pos h1] at eo t
      refine fin _ _ (by rw [Int.neg_mul, ← Int.mul_neg]; exact Int.mul_pos h.d.1 (by omega)) ?_ t eo h0
      rw [Int.neg_mul, Int.neg_mul, Int.neg_mul, Int.mul_neg]
    · rw [if_neg h1] at eo t
      exact fin _ _ (Int.mul_pos h.d.1 (by omega)) rfl t eo h0
end
theorem se_n_r : gEq (.str "number") (.str "ratio") = some (.bl false) := g_eqS (by decide +kernel)
theorem se_r_r : gEq (.str "ratio") (.str "ratio") = some (.bl true) := g_eqS (by decide +kernel)
theorem p_back {N D N2 D2 : Int} (h : Fp N D) (k : Fp N2 D2) : ∃ E, F_L_back [.val (rt (loN N D) (loD N D)), .val (pr N D), .val (rt (loN N2 D2) (loD N2 D2)), .val (pr N2 D2)] = .ok (.v (.bl true)) E := by
  have ed := e_due (n := N) (d := D) (inB_big h.n) (inB_big (inB_d h.d))
  rw [due_in h] at ed
  have c := lo_cross (n := N) (d := D)
  have c2 := lo_cross (n := N2) (d := D2)
  have rp := r_add h.n (inB_d h.d) k.n (inB_d k.d)
  rw [due_V (Int.mul_pos h.d.1 k.d.1), ← dueV_eq (Int.mul_pos h.low.d.1 k.low.d.1) (Int.mul_pos h.d.1 k.d.1) (cross_add c c2).1] at rp
  have rd := r_div h.n (inB_d h.d) k.n (inB_d k.d)
  have z : dueD (loN N D * loD N2 D2) (loD N D * loN N2 D2) = dueD (N * D2) (D * N2) := by
    have sg := sg_eq (a := loD N D * loN N2 D2) (b := D * N2) (x := D * D2) (y := loD N D * loD N2 D2) (Int.mul_pos h.d.1 k.d.1) (Int.mul_pos h.low.d.1 k.low.d.1) (by
      calc loD N D * loN N2 D2 * (D * D2) = (loN N2 D2 * D2) * (loD N D * D) := by ac_rfl
        _ = (N2 * loD N2 D2) * (loD N D * D) := by rw [c2]
        _ = D * N2 * (loD N D * loD N2 D2) := by ac_rfl)
    exact dueD_scale sg.1 sg.2 (cross_mul c c2).2
  rw [← z] at rd
  have bp := b_plus h.low (g2_lo h.d.1) k.low
  have bo := b_over h.low (g2_lo h.d.1) k.low
  have q1 := ne_same (Fl.rat (loN N D) (loD N D)) (by decide)
  have q2 := eq_same (Fl.rat (loN N D) (loD N D)) (by decide)
  have i0 : ∀ (v : Int), gIx (.tup [.str "number", .int v]) (.int 0) = some (.str "number") := fun v => rfl
  have i1 : ∀ (a b : Int), gIx (.tup [.str "ratio", .int a, .int b]) (.int 0) = some (.str "ratio") := fun a b => rfl
  generalize dueD (loN N D * loD N2 D2) (loD N D * loN N2 D2) = Zd at *
  generalize dueV (loN N D * loD N2 D2 + loN N2 D2 * loD N D) (loD N D * loD N2 D2) = Zp at *
  rcases bp with ⟨v, rfl⟩ | ⟨a, b, rfl, ⟨E1, e1⟩, E2, e2⟩
  · rcases bo with ⟨v', rfl⟩ | ⟨a', b', rfl, ⟨E3, e3⟩, E4, e4⟩
    · simp [F_L_back, runF, f_L_back, ownsA, ndA, argS, backE, ed, rp, rd, i0, i1, se_n_r]
    · simp [F_L_back, runF, f_L_back, ownsA, ndA, argS, backE, ed, rp, rd, i0, i1, se_n_r, se_r_r, e3, e4, e_pair, q2]
  · rcases bo with ⟨v', rfl⟩ | ⟨a', b', rfl, ⟨E3, e3⟩, E4, e4⟩
    · simp [F_L_back, runF, f_L_back, ownsA, ndA, argS, backE, ed, rp, rd, i0, i1, se_n_r, se_r_r, e1, e2, e_pair, q1]
    · simp [F_L_back, runF, f_L_back, ownsA, ndA, argS, backE, ed, rp, rd, i0, i1, se_r_r, e1, e2, e3, e4, e_pair, q1, q2]
end Lw

namespace Lw
open PySem PySem.Spec PyProof.Rows L2 J
/-! ### totals -/
theorem lc_map_go {α : Type} (i o : α → J.D) {E : J.Env} {vs : List Nat} {g : J.D → J.Env → Option J.Env} {f : J.Env → J.R J.D} (hE : wipeE vs E = E) : ∀ (xs : List α) (acc : List J.D), acc.length + xs.length ≤ 1000000 → (∀ x ∈ xs, ∃ E1 E2, g (i x) E = some E1 ∧ f E1 = .ok (o x) E2 ∧ wipeE vs E2 = E) → lcD vs g fYes f (xs.map i) acc E = .ok (acc ++ xs.map o) E
  | [], acc, _, _ => by simp [lcD]
  | x :: xs, acc, hl, h => by
    obtain ⟨E1, E2, h1, h2, h3⟩ := h x (List.mem_cons_self)
    have e := lc_map_go i o hE xs (acc ++ [o x]) (by simp at hl ⊢; omega) (fun y hy => h y (List.mem_cons_of_mem _ hy))
    have hlen : acc.length < 16777216 := by simp at hl; omega
    rw [List.map_cons]
    unfold lcD
    rw [hE, h1]
    simp only [u_fYes, h2, if_pos hlen, h3]
    rw [e]
    simp
theorem use_map {α : Type} {E : J.Env} {vs : List Nat} {g : J.D → J.Env → Option J.Env} {f : J.Env → J.R J.D} {ds : List J.D} {r : J.R (List J.D)} (hF : lcD vs g fYes f ds [] E = r) (i o : α → J.D) (xs : List α) (hd : ds = xs.map i) (hE : wipeE vs E = E) (hl : xs.length ≤ 1000000) (h : ∀ x ∈ xs, ∃ E1 E2, g (i x) E = some E1 ∧ f E1 = .ok (o x) E2 ∧ wipeE vs E2 = E) : r = .ok (xs.map o) E := by
  subst hd
  rw [← hF, lc_map_go i o hE xs [] (by simpa using hl) h, List.nil_append]
theorem use_mapW {α : Type} {E : J.Env} (W : J.Env) {vs : List Nat} {g : J.D → J.Env → Option J.Env} {f : J.Env → J.R J.D} {ds : List J.D} {r : J.R (List J.D)} (hF : lcD vs g fYes f ds [] E = r) (i o : α → J.D) (xs : List α) (hd : ds = xs.map i) (P : J.Env → Prop) (h0 : P E) (h1 : P W) (hW : wipeE vs E = W) (hE : wipeE vs W = W) (hl : xs.length ≤ 1000000) (h : ∀ x ∈ xs, ∃ E1 E2, g (i x) W = some E1 ∧ f E1 = .ok (o x) E2 ∧ wipeE vs E2 = W) : ∃ E', r = .ok (xs.map o) E' ∧ P E' := by
  subst hd
  cases xs with
  | nil => exact ⟨E, by rw [← hF]; rfl, h0⟩
  | cons x xs =>
    refine ⟨W, ?_, h1⟩
    rw [← hF, ← List.nil_append ((x :: xs).map o), ← lc_map_go i o hE (x :: xs) [] (by simpa using hl) h, List.map_cons]
    unfold lcD
    rw [hW, hE]
/-- an entry of a total -/
structure Ent (C : Int) (p : Int × Int) : Prop where
  f : Fp p.1 p.2
  dv : p.2 ∣ C
  sz : (p.1 * (C / p.2)).natAbs ≤ 12 * MM
def rtP (p : Int × Int) : J.D := rt p.1 p.2
def partS (L : Int) (p : Int × Int) : Int := p.1 * (L / p.2)
theorem sum_le (f : Int × Int → Int) (B : Nat) : ∀ qs : List (Int × Int), (∀ p ∈ qs, (f p).natAbs ≤ B) → ((qs.map f).sum).natAbs ≤ qs.length * B
  | [], _ => by simp
  | p :: qs, h => by
    have h1 := h p List.mem_cons_self
    have h2 := sum_le f B qs fun q hq => h q (List.mem_cons_of_mem _ hq)
    have e : (p :: qs).length * B = qs.length * B + B := by rw [List.length_cons, Nat.succ_mul]
    rw [List.map_cons, List.sum_cons, e]
    have := Int.natAbs_add_le (f p) (qs.map f).sum
    omega
theorem sum_scale {L C : Int} : ∀ qs : List (Int × Int), (∀ p ∈ qs, 0 < p.2 ∧ p.2 ∣ L ∧ p.2 ∣ C) → (qs.map (partS L)).sum * C = (qs.map (partS C)).sum * L
  | [], _ => by simp
  | p :: qs, h => by
    obtain ⟨h0, ⟨a, rfl⟩, ⟨b, rfl⟩⟩ := h p List.mem_cons_self
    have h2 := sum_scale qs fun q hq => h q (List.mem_cons_of_mem _ hq)
    rw [List.map_cons, List.sum_cons, List.map_cons, List.sum_cons, Int.add_mul, Int.add_mul, h2]
    congr 1
    unfold partS
    rw [Int.mul_ediv_cancel_left _ (by omega), Int.mul_ediv_cancel_left _ (by omega)]
    ac_rfl
theorem part_le {L C : Int} {p : Int × Int} (h0 : 0 < p.2) (h1 : p.2 ∣ L) (h2 : L ∣ C) (hC : 0 < C) : (partS L p).natAbs ≤ (partS C p).natAbs := by
  obtain ⟨a, rfl⟩ := h1
  obtain ⟨m, rfl⟩ := h2
  unfold partS
  rw [Int.mul_assoc, Int.mul_ediv_cancel_left _ (by omega), Int.mul_ediv_cancel_left _ (by omega)]
  have hm : m ≠ 0 := by rintro rfl; simp at hC
  rw [← Int.mul_assoc, Int.natAbs_mul (p.1 * a) m]
  exact Nat.le_mul_of_pos_right _ (by omega)
theorem den_le : (12 * MM : Nat) ≤ gi_MOST_TOTAL_DEN := by decide +kernel
theorem e_size {X : J.D} {n : Nat} (hX : gLen X = some (.int (n : Nat))) (hn : n ≤ 1000) : ∃ E, F_look_size [.val X, .val (.int 0), .val (.int gi_MOST_TOTAL)] = .ok (.v X) E := by
  have h1 : ¬ ((n : Int) < 0) := by omega
  have h2 : ¬ (gi_MOST_TOTAL < (n : Int)) := by unfold gi_MOST_TOTAL; omega
  simp [F_look_size, runF, f_look_size, hX, h1, h2]
def lcmI (a b : Int) : Int := ((Nat.lcm a.natAbs b.natAbs : Nat) : Int)
theorem lcmI_l (a b : Int) : a ∣ lcmI a b := by
  unfold lcmI
  exact Int.natAbs_dvd_natAbs.mp (by rw [Int.natAbs_natCast]; exact Nat.dvd_lcm_left _ _)
theorem lcmI_r (a b : Int) : b ∣ lcmI a b := by
  unfold lcmI
  exact Int.natAbs_dvd_natAbs.mp (by rw [Int.natAbs_natCast]; exact Nat.dvd_lcm_right _ _)
theorem lcmI_dvd {a b c : Int} (h : a ∣ c) (k : b ∣ c) : lcmI a b ∣ c := by
  unfold lcmI
  exact Int.natAbs_dvd_natAbs.mp (by rw [Int.natAbs_natCast]; exact Nat.lcm_dvd (Int.natAbs_dvd_natAbs.mpr h) (Int.natAbs_dvd_natAbs.mpr k))
theorem lcmI_pos {a b : Int} (h : 0 < a) (k : 0 < b) : 0 < lcmI a b := by
  unfold lcmI
  have : 0 < Nat.lcm a.natAbs b.natAbs := Nat.lcm_pos (by omega) (by omega)
  omega
theorem p_total {C : Int} (hC : 0 < C ∧ C ≤ (12 * MM : Nat)) {qs : List (Int × Int)} (hq : ∀ p ∈ qs, Ent C p) (hl : qs.length ≤ 1000) {X : J.D} (hX : X = .lst (qs.map rtP) ∨ X = .tup (qs.map rtP)) : ∃ S L E, F_M_Ratio_total [.val X] = toR (lowV S L) E ∧ 0 < L ∧ S * C = (qs.map (partS C)).sum * L := by
  have hlen : gLen X = some (.int (qs.length : Nat)) := by rcases hX with rfl | rfl <;> simp
  have hit : itemsD X = some (qs.map rtP) := by rcases hX with rfl | rfl <;> rfl
  obtain ⟨ES, es⟩ := e_size hlen hl
  simp [F_M_Ratio_total, runF, f_M_Ratio_total, ownsA, ndA, argS, backE, es, hit]
  generalize hF : forD _ _ _ _ = r
  obtain ⟨E', rfl, L, c, hL, hLC, hdv, rfl⟩ := use_for hF (fun i E => ∃ (L : Int) (c : Sl), 0 < L ∧ L ∣ C ∧ (∀ j (h : j < qs.length), j < i → qs[j].2 ∣ L) ∧ E = [.val X, .val (.int L), c]) ⟨1, .no, by decide, Int.one_dvd _, by intros; omega, rfl⟩ (by
    rintro i hi E ⟨L, c, hL, hLC, hdv, rfl⟩
    have hi : i < qs.length := by simpa using hi
    have hp := hq qs[i] (List.getElem_mem hi)
    have hLe := Int.le_of_dvd hC.1 hLC
    have e : (qs.map rtP)[i]'(by simpa using hi) = rt qs[i].1 qs[i].2 := by simp [rtP]
    have hc12 : (12 * MM : Nat) ≤ 12 * MM := Nat.le_refl _
    have gl := g_lcm L qs[i].2 (big_of (k := 12) (by omega) (by decide)) (inB_big (inB_d hp.f.d))
    have gl' : gLcm (.int L) (.int qs[i].2) = some (.int (lcmI L qs[i].2)) := gl
    have hl2 := lcmI_dvd hLC hp.dv
    have hle2 := Int.le_of_dvd hC.1 hl2
    have hpos := lcmI_pos hL hp.f.d.1
    have hden := den_le
    have hno : ¬ (lcmI L qs[i].2 < 1 ∨ gi_MOST_TOTAL_DEN < lcmI L qs[i].2) := by omega
    simp only [e]
    refine ⟨[.val X, .val (.int (lcmI L qs[i].2)), .val (rt qs[i].1 qs[i].2)], ?_, lcmI L qs[i].2, .val (rt qs[i].1 qs[i].2), hpos, hl2, fun j h hj => ?_, rfl⟩
    · simp [stF, ownsA, ndA, argS, backE, gl', hno]
    · by_cases h1 : j < i
      · exact Int.dvd_trans (hdv j h h1) (lcmI_l _ _)
      · have : j = i := by omega
        subst this; exact lcmI_r _ _)
  have hdv' : ∀ p ∈ qs, p.2 ∣ L := fun p hp => by
    obtain ⟨j, h, rfl⟩ := List.getElem_of_mem hp
    exact hdv j h (by simpa using h)
  have hLe := Int.le_of_dvd hC.1 hLC
  have bL : L.natAbs < BIG := big_of (k := 12) (by omega) (by decide)
  have bp : ∀ p ∈ qs, (partS L p).natAbs ≤ 12 * MM := fun p hp => Nat.le_trans (part_le (hq p hp).f.d.1 (hdv' p hp) hLC hC.1) (hq p hp).sz
  simp [hit]
  generalize hG : lcD _ _ _ _ _ _ _ = r
  obtain ⟨E', rfl, c', rfl⟩ := use_mapW [.val X, .val (.int L), .no] hG rtP (fun p => D.int (partS L p)) qs rfl (fun E => ∃ c, E = [.val X, .val (.int L), c]) ⟨c, rfl⟩ ⟨.no, rfl⟩ rfl rfl (by omega) (fun p hp => by
    have hf := (hq p hp).f
    have hd := g_divB L p.2 hf.d.1 bL
    have hm := g_mulB p.1 (L / p.2) (inB_big hf.n) (by have := Int.natAbs_ediv_le_natAbs L p.2; omega)
    refine ⟨_, [.val X, .val (.int L), .val (rt p.1 p.2)], rfl, ?_, rfl⟩
    simp [rtP, hd, hm, partS])
  have hmm : qs.map (fun p => D.int (partS L p)) = (qs.map (partS L)).map D.int := by rw [List.map_map]; rfl
  have hs : gSum (.lst (qs.map (fun p => D.int (partS L p)))) = some (.int (qs.map (partS L)).sum) := by
    rw [hmm]
    show (intsD _).map _ = _
    rw [intsD_map]; rfl
  have hsl := sum_le (partS L) (12 * MM) qs bp
  have hB : ((qs.map (partS L)).sum).natAbs < BIG := big_of (k := 12000) (by
    have : qs.length * (12 * MM) ≤ 1000 * (12 * MM) := Nat.mul_le_mul_right _ hl
    omega) (by decide)
  have e := e_low (n := (qs.map (partS L)).sum) (d := L) hL hB bL
  refine ⟨(qs.map (partS L)).sum, L, ?_⟩
  have fin : (qs.map (partS L)).sum * C = (qs.map (partS C)).sum * L := sum_scale qs fun p hp => ⟨(hq p hp).f.d.1, hdv' p hp, (hq p hp).dv⟩
  rcases low_cases (qs.map (partS L)).sum L with ⟨v, hv⟩ | ⟨a, b, hv⟩
  · rw [hv] at e ⊢
    simp [hs, ownsA, ndA, argS, backE, e, toR]
    exact ⟨hL, fin⟩
  · rw [hv] at e ⊢
    simp [hs, ownsA, ndA, argS, backE, e, toR]
    exact ⟨hL, fin⟩
def ttC : List Cl := [⟨exm_NumberError, some 2, fun y => (sSeq (sIf (fOr (fNot (fTru (fCallR 1 F_L_int (xV (fXf okf_NumberError_number y "number") xNil) rvD))) (fNot (fTru (fIsE isx_0 y)))) (sSeq (sRet (fTup (fCons (fC (.str "odd")) fNil))) sNil) sNil) (sSeq (sRet (fTup (fCons (fC (.str "number")) (fCons (fXf okf_NumberError_number y "number") fNil)))) sNil))⟩]
def ttB : J.Env → RS := (sSet 1 (fCallR 1 F_M_Ratio_total (xV (fVar 0) xNil) rvD))
theorem total_eq : f_L_total = sSeq (sTry ttB ttC) (sRet (fCallR 1 F_L_pair (xV (fVar 1) xNil) rvD)) := rfl
theorem cl_T (i : Int) (a b c : Sl) : ∃ E', clD ttC (xN i) [a, b, c] = .rt (.v (.tup [.str "number", .int i])) E' := ⟨_, rfl⟩
theorem p_L_total {C : Int} (hC : 0 < C ∧ C ≤ (12 * MM : Nat)) {qs : List (Int × Int)} (hq : ∀ p ∈ qs, Ent C p) (hl : qs.length ≤ 1000) {X : J.D} (hX : X = .lst (qs.map rtP) ∨ X = .tup (qs.map rtP)) : ∃ E, F_L_total [.val X] = .ok (.v (dueV (qs.map (partS C)).sum C)) E := by
  obtain ⟨S, L, E, e, hL, hS⟩ := p_total hC hq hl hX
  rw [← dueV_eq hL hC.1 hS, ← tell_low]
  rcases low_cases S L with ⟨v, hv⟩ | ⟨a, b, hv⟩
  · rw [hv] at e ⊢
    obtain ⟨E', hc⟩ := cl_T v (.val X) .no .no
    refine ⟨E', runF_rt (n := 3) (f := f_L_total) (E0 := [.val X, .no, .no]) rfl ?_⟩
    rw [total_eq, u_sSeq]
    have e2 : sTry ttB ttC [.val X, .no, .no] = .rt (.v (.tup [.str "number", .int v])) E' := by
      have h : ttB [.val X, .no, .no] = .exc (xN v) [.val X, .no, .no] := by simp [ttB, ownsA, ndA, argS, backE, e, toR]
      unfold sTry; rw [h]; exact hc
    rw [e2]; rfl
  · rw [hv] at e ⊢
    refine ⟨_, runF_rt (n := 3) (f := f_L_total) (E0 := [.val X, .no, .no]) (E := [.val X, .val (rt a b), .no]) rfl ?_⟩
    rw [total_eq, u_sSeq]
    have e2 : sTry ttB ttC [.val X, .no, .no] = .nx [.val X, .val (rt a b), .no] := by
      have h : ttB [.val X, .no, .no] = .nx [.val X, .val (rt a b), .no] := by simp [ttB, ownsA, ndA, argS, backE, e, toR]
      unfold sTry; rw [h]
    rw [e2]
    simp [ownsA, ndA, argS, backE, e_pair]
    rfl
end Lw

namespace Lw
open PySem PySem.Spec PyProof.Rows L2 J
theorem szm {x y : Int} {a b : Nat} (h : x.natAbs ≤ a) (k : y.natAbs ≤ b) : (x * y).natAbs ≤ a * b := by
  rw [Int.natAbs_mul]; exact Nat.mul_le_mul h k
def lw (p : Int × Int) : Int × Int := (loN p.1 p.2, loD p.1 p.2)
section
variable (N D N2 D2 l s : Int)
/-- the k-th part -/
def pk (k : Int) : Int × Int := if k = 0 then (N, D) else if k = 1 then (N2, D2) else if k = 2 then (-N, D) else (l, s)
def CC : Int := loD N D * loD N2 D2 * loD l s
def tot (ks : List Int) : Int := ((((ks.count 0 : Nat) : Int) - ((ks.count 2 : Nat) : Int)) * N * D2 + ((ks.count 1 : Nat) : Int) * N2 * D) * s + ((ks.count 3 : Nat) : Int) * l * D * D2
end
structure Pts (N D N2 D2 l s : Int) : Prop where
  a : Fp N D
  b : Fp N2 D2
  l : l.natAbs ≤ 6
  s : 0 < s ∧ s ≤ 12
section
variable {N D N2 D2 l s : Int}
theorem Pts.c (h : Pts N D N2 D2 l s) : Fp l s := by
  have := h.l
  have := h.s
  have := MAX_pos
  exact ⟨⟨by omega, by omega⟩, by omega, by omega⟩
theorem Pts.pk (h : Pts N D N2 D2 l s) (k : Int) : Fp (pk N D N2 D2 l s k).1 (pk N D N2 D2 l s k).2 := by
  unfold Lw.pk
  split
  · exact h.a
  · split
    · exact h.b
    · split
      · exact h.a.neg
      · exact h.c
theorem Pts.C (h : Pts N D N2 D2 l s) : 0 < CC N D N2 D2 l s ∧ CC N D N2 D2 l s ≤ (12 * MM : Nat) := by
  have h1 := h.a.low.d
  have h2 := h.b.low.d
  have h3 := h.c.low.d
  have h4 := loD_le (n := l) h.s.1
  have h5 := h.s
  unfold CC
  refine ⟨Int.mul_pos (Int.mul_pos h1.1 h2.1) h3.1, ?_⟩
  have e := szm (szm (sz1 (inB_d h1)) (sz1 (inB_d h2))) (show (loD l s).natAbs ≤ 12 by omega)
  have e2 : MAX.natAbs * MAX.natAbs * 12 = 12 * MM := by unfold MM; rw [Nat.mul_comm]
  omega
theorem MM1 : 1 ≤ MAX.natAbs := by have := MAX_pos; omega
theorem Pts.ent (h : Pts N D N2 D2 l s) (k : Int) : Ent (CC N D N2 D2 l s) (lw (Lw.pk N D N2 D2 l s k)) := by
  have h1 := h.a.low.d
  have h2 := h.b.low.d
  have h3 := h.c.low.d
  have h4 := loD_le (n := l) h.s.1
  have h5 := h.s
  have hs : (loD l s).natAbs ≤ 12 := by omega
  have e2 : MAX.natAbs * (MAX.natAbs * 12) = 12 * MM := by unfold MM; rw [← Nat.mul_assoc, Nat.mul_comm]
  have c1 : CC N D N2 D2 l s = loD N D * (loD N2 D2 * loD l s) := by unfold CC; ac_rfl
  have c2 : CC N D N2 D2 l s = loD N2 D2 * (loD N D * loD l s) := by unfold CC; ac_rfl
  have c3 : CC N D N2 D2 l s = loD l s * (loD N D * loD N2 D2) := by unfold CC; ac_rfl
  have hf := (h.pk k).low
  unfold Lw.pk at hf ⊢
  by_cases k0 : k = 0
  · simp only [if_pos k0] at hf ⊢
    refine ⟨hf, ⟨_, c1⟩, ?_⟩
    show (loN N D * (CC N D N2 D2 l s / loD N D)).natAbs ≤ _
    rw [c1, Int.mul_ediv_cancel_left _ (by omega), ← e2]
    exact szm (sz1 h.a.low.n) (szm (sz1 (inB_d h2)) hs)
  · simp only [if_neg k0] at hf ⊢
    by_cases k1 : k = 1
    · simp only [if_pos k1] at hf ⊢
      refine ⟨hf, ⟨_, c2⟩, ?_⟩
      show (loN N2 D2 * (CC N D N2 D2 l s / loD N2 D2)).natAbs ≤ _
      rw [c2, Int.mul_ediv_cancel_left _ (by omega), ← e2]
      exact szm (sz1 h.b.low.n) (szm (sz1 (inB_d h1)) hs)
    · simp only [if_neg k1] at hf ⊢
      by_cases k2 : k = 2
      · simp only [if_pos k2] at hf ⊢
        unfold lw
        rw [lo_neg.1, lo_neg.2] at *
        refine ⟨hf, ⟨_, c1⟩, ?_⟩
        show (-loN N D * (CC N D N2 D2 l s / loD N D)).natAbs ≤ _
        rw [c1, Int.mul_ediv_cancel_left _ (by omega), ← e2]
        exact szm (sz1 (inB_neg h.a.low.n)) (szm (sz1 (inB_d h2)) hs)
      · simp only [if_neg k2] at hf ⊢
        refine ⟨hf, ⟨_, c3⟩, ?_⟩
        show (loN l s * (CC N D N2 D2 l s / loD l s)).natAbs ≤ _
        rw [c3, Int.mul_ediv_cancel_left _ (by omega)]
        have hl := loN_le l s
        have hl2 := h.l
        have := szm (show (loN l s).natAbs ≤ 6 by omega) (szm (sz1 (inB_d h1)) (sz1 (inB_d h2)))
        have : 6 * (MAX.natAbs * MAX.natAbs) = 6 * MM := rfl
        omega
theorem Pts.f (h : Pts N D N2 D2 l s) : partS (CC N D N2 D2 l s) (lw (N, D)) = loN N D * (loD N2 D2 * loD l s) ∧ partS (CC N D N2 D2 l s) (lw (N2, D2)) = loN N2 D2 * (loD N D * loD l s) ∧ partS (CC N D N2 D2 l s) (lw (-N, D)) = -(loN N D * (loD N2 D2 * loD l s)) ∧ partS (CC N D N2 D2 l s) (lw (l, s)) = loN l s * (loD N D * loD N2 D2) := by
  have h1 := h.a.low.d
  have h2 := h.b.low.d
  have h3 := h.c.low.d
  have c1 : CC N D N2 D2 l s = loD N D * (loD N2 D2 * loD l s) := by unfold CC; ac_rfl
  have c2 : CC N D N2 D2 l s = loD N2 D2 * (loD N D * loD l s) := by unfold CC; ac_rfl
  have c3 : CC N D N2 D2 l s = loD l s * (loD N D * loD N2 D2) := by unfold CC; ac_rfl
  refine ⟨?_, ?_, ?_, ?_⟩
  · show loN N D * (CC N D N2 D2 l s / loD N D) = _
    rw [c1, Int.mul_ediv_cancel_left _ (by omega)]
  · show loN N2 D2 * (CC N D N2 D2 l s / loD N2 D2) = _
    rw [c2, Int.mul_ediv_cancel_left _ (by omega)]
  · show loN (-N) D * (CC N D N2 D2 l s / loD (-N) D) = _
    rw [lo_neg.1, lo_neg.2, c1, Int.mul_ediv_cancel_left _ (by omega), Int.neg_mul]
  · show loN l s * (CC N D N2 D2 l s / loD l s) = _
    rw [c3, Int.mul_ediv_cancel_left _ (by omega)]
theorem Pts.sum (h : Pts N D N2 D2 l s) {f0 f1 f3 : Int} (e0 : partS (CC N D N2 D2 l s) (lw (N, D)) = f0) (e1 : partS (CC N D N2 D2 l s) (lw (N2, D2)) = f1) (e2 : partS (CC N D N2 D2 l s) (lw (-N, D)) = -f0) (e3 : partS (CC N D N2 D2 l s) (lw (l, s)) = f3) : ∀ ks : List Int, (∀ k ∈ ks, 0 ≤ k ∧ k < 4) →
    (((ks.map fun k => lw (Lw.pk N D N2 D2 l s k)).map (partS (CC N D N2 D2 l s))).sum) = (((ks.count 0 : Nat) : Int) - ((ks.count 2 : Nat) : Int)) * f0 + ((ks.count 1 : Nat) : Int) * f1 + ((ks.count 3 : Nat) : Int) * f3
  | [], _ => by simp
  | k :: ks, hk => by
    have ih := Pts.sum h e0 e1 e2 e3 ks fun x hx => hk x (List.mem_cons_of_mem _ hx)
    have hk0 := hk k List.mem_cons_self
    rw [List.map_cons, List.map_cons, List.sum_cons, ih]
    have : k = 0 ∨ k = 1 ∨ k = 2 ∨ k = 3 := by omega
    rcases this with rfl | rfl | rfl | rfl
    · rw [show Lw.pk N D N2 D2 l s 0 = (N, D) from rfl, e0]
      simp [List.count_cons, Int.add_mul, Int.sub_mul]; omega
    · rw [show Lw.pk N D N2 D2 l s 1 = (N2, D2) from rfl, e1]
      simp [List.count_cons, Int.add_mul, Int.sub_mul]; omega
    · rw [show Lw.pk N D N2 D2 l s 2 = (-N, D) from rfl, e2]
      simp [List.count_cons, Int.add_mul, Int.sub_mul]; omega
    · rw [show Lw.pk N D N2 D2 l s 3 = (l, s) from rfl, e3]
      simp [List.count_cons, Int.add_mul, Int.sub_mul]; omega
theorem Pts.eq (h : Pts N D N2 D2 l s) {ks : List Int} (hk : ∀ k ∈ ks, 0 ≤ k ∧ k < 4) : dueV (((ks.map fun k => lw (Lw.pk N D N2 D2 l s k)).map (partS (CC N D N2 D2 l s))).sum) (CC N D N2 D2 l s) = dueD (tot N D N2 D2 l s ks) (D * D2 * s) := by
  have hY : 0 < D * D2 * s := Int.mul_pos (Int.mul_pos h.a.d.1 h.b.d.1) h.s.1
  obtain ⟨e0, e1, e2, e3⟩ := h.f
  rw [due_V hY]
  refine dueV_eq h.C.1 hY ?_
  rw [h.sum e0 e1 e2 e3 ks hk]
  have x0 := lo_cross (n := N) (d := D)
  have x1 := lo_cross (n := N2) (d := D2)
  have x3 := lo_cross (n := l) (d := s)
  unfold CC tot
  generalize loN N D = n1 at *
  generalize loN N2 D2 = n2 at *
  generalize loN l s = n3 at *
  generalize loD N D = d1 at *
  generalize loD N2 D2 = d2 at *
  generalize loD l s = d3 at *
  have y0 : n1 * (d2 * d3) * (D * D2 * s) = N * D2 * s * (d1 * d2 * d3) := by
    calc n1 * (d2 * d3) * (D * D2 * s) = (n1 * D) * (d2 * d3 * D2 * s) := by ac_rfl
      _ = (N * d1) * (d2 * d3 * D2 * s) := by rw [x0]
      _ = N * D2 * s * (d1 * d2 * d3) := by ac_rfl
  have y1 : n2 * (d1 * d3) * (D * D2 * s) = N2 * D * s * (d1 * d2 * d3) := by
    calc n2 * (d1 * d3) * (D * D2 * s) = (n2 * D2) * (d1 * d3 * D * s) := by ac_rfl
      _ = (N2 * d2) * (d1 * d3 * D * s) := by rw [x1]
      _ = N2 * D * s * (d1 * d2 * d3) := by ac_rfl
  have y3 : n3 * (d1 * d2) * (D * D2 * s) = l * D * D2 * (d1 * d2 * d3) := by
    calc n3 * (d1 * d2) * (D * D2 * s) = (n3 * s) * (d1 * d2 * D * D2) := by ac_rfl
      _ = (l * d3) * (d1 * d2 * D * D2) := by rw [x3]
      _ = l * D * D2 * (d1 * d2 * d3) := by ac_rfl
  generalize ((ks.count 0 : Nat) : Int) - ((ks.count 2 : Nat) : Int) = a
  generalize ((ks.count 1 : Nat) : Int) = b
  generalize ((ks.count 3 : Nat) : Int) = c
  rw [Int.add_mul, Int.add_mul, Int.mul_assoc a, Int.mul_assoc b, Int.mul_assoc c, y0, y1, y3]
  rw [Int.add_mul (a * N * D2), Int.add_mul (_ + _), Int.add_mul]
  congr 1
  · congr 1 <;> ac_rfl
  · ac_rfl
end
end Lw

namespace Lw
open PySem PySem.Spec PyProof.Rows L2 J
def totR : J.Env → RS := (sSeq (sSetL 14 (fLc [21] (fun1L itemsD (fVar 13)) (gNm 21) fYes (fop gIx (fVar 10) (fVar 21)))) (sSeq (sSet 15 (fop gSub (fCnt (fVar 13) (fC (.int 0))) (fCnt (fVar 13) (fC (.int 2))))) (sSeq (sSet 16 (fCnt (fVar 13) (fC (.int 1)))) (sSeq (sSet 17 (fop gMul (fop gAdd (fop gMul (fop gMul (fVar 15) (fVar 3)) (fVar 6)) (fop gMul (fop gMul (fVar 16) (fVar 5)) (fVar 4))) (fVar 8))) (sSeq (sSet 17 (fop gAdd (fVar 17) (fop gMul (fop gMul (fop gMul (fCnt (fVar 13) (fC (.int 3))) (fVar 7)) (fVar 4)) (fVar 6)))) (sSeq (sSet 18 (fCallR 2 F_L_due (xV (fVar 17) (xV (fop gMul (fop gMul (fVar 4) (fVar 6)) (fVar 8)) xNil)) rvD)) (fun E => (sSeq (sIf (fOr (fTest (fop gNe (fCallR 1 F_L_total (xV (fVar 14) xNil) rvD) (fVar 18))) (fTest (fop gNe (fCallR 1 F_L_total (xV (fun1 gTuple (fVar 14)) xNil) rvD) (fVar 18)))) (sRet (fC (.bl false))) sNil) (sSeq (sSetL 19 (fLc [22] (fun1L itemsD (fVar 14)) (gNm 22) fYes (fCallR 1 F_L_pair (xV (fVar 22) xNil) rvD))) (fun E => (sRet (fop gEq (fVar 19) (fPub (fLc [21] (fun1L itemsD (fVar 13)) (gNm 21) fYes (fop gIx (fVar 11) (fVar 21)))))) (pubE 19 E)))) (pubE 14 E))))))))
def dueP (p : Int × Int) : J.D := .tup [.str "ratio", .int p.1, .int p.2]
def prP (p : Int × Int) : J.D := pr p.1 p.2
theorem cnt_iD (ks : List Int) (k : Int) : gCntL (iD ks) (.int k) = some (.int (ks.count k : Nat)) := by
  show (intsD _).map _ = _
  unfold iD
  rw [intsD_map]; rfl
theorem Fls.map {α : Type} {k : Nat} (f : α → J.D) : ∀ xs : List α, (∀ x ∈ xs, Fl k (f x)) → Fls k (xs.map f)
  | [], _ => Fls.nil k
  | x :: xs, h => Fls.cons (h x List.mem_cons_self) (Fls.map f xs fun y hy => h y (List.mem_cons_of_mem _ hy))
section
variable {N D N2 D2 l s : Int}
def parts4 (N D N2 D2 l s : Int) : List (Int × Int) := [(N, D), (N2, D2), (-N, D), (l, s)]
theorem ix_4 (f : Int × Int → J.D) {k : Int} (h : 0 ≤ k ∧ k < 4) : gIx (.lst ((parts4 N D N2 D2 l s).map f)) (.int k) = some (f (pk N D N2 D2 l s k)) := by
  have : k = 0 ∨ k = 1 ∨ k = 2 ∨ k = 3 := by omega
  rcases this with rfl | rfl | rfl | rfl <;> rfl
theorem tot_rest (h : Pts N D N2 D2 l s) {ks : List Int} (hk : ∀ k ∈ ks, 0 ≤ k ∧ k < 4) (hl : ks.length ≤ 1000) (S0 S1 S2 S9 S12 : Sl) : ∃ E', totR [S0, S1, S2, .val (.int N), .val (.int D), .val (.int N2), .val (.int D2), .val (.int l), .val (.int s), S9, .val (.lst ((parts4 N D N2 D2 l s).map fun p => rtP (lw p))), .val (.lst ((parts4 N D N2 D2 l s).map fun p => dueP (lw p))), S12, .val (.lst (iD ks)), .no, .no, .no, .no, .no, .no, .no, .no, .no] = .rt (.v (.bl true)) (S0 :: E') := by
  have M1 := MM1
  have c0 : ks.count 0 ≤ ks.length := List.count_le_length
  have c1 : ks.count 1 ≤ ks.length := List.count_le_length
  have c2 : ks.count 2 ≤ ks.length := List.count_le_length
  have c3 : ks.count 3 ≤ ks.length := List.count_le_length
  have hs := h.s
  have hll := h.l
  have zN := sz1 h.a.n
  have zD := sz1 (inB_d h.a.d)
  have zN2 := sz1 h.b.n
  have zD2 := sz1 (inB_d h.b.d)
  have a1 : (((ks.count 0 : Nat) : Int) - ((ks.count 2 : Nat) : Int)).natAbs ≤ 1000 := by omega
  have b1 : ((ks.count 1 : Nat) : Int).natAbs ≤ 1000 := by omega
  have d1 : ((ks.count 3 : Nat) : Int).natAbs ≤ 1000 := by omega
  have s12 : s.natAbs ≤ 12 := by omega
  have eq := h.eq hk
  unfold tot at eq
  generalize hA : ((ks.count 0 : Nat) : Int) - ((ks.count 2 : Nat) : Int) = a at *
  generalize hB : ((ks.count 1 : Nat) : Int) = b at *
  generalize hC : ((ks.count 3 : Nat) : Int) = c at *
  have q1 := szm a1 zN
  have q2 := szm q1 zD2
  have q3 := szm b1 zN2
  have q4 := szm q3 zD
  have e1 : 1000 * MAX.natAbs * MAX.natAbs = 1000 * MM := Nat.mul_assoc _ _ _
  have hMM : MAX.natAbs ≤ MM := Nat.le_mul_of_pos_right _ M1
  have hM1 : 1 ≤ MM := Nat.le_trans M1 hMM
  have q5 : (a * N * D2 + b * N2 * D).natAbs ≤ 2000 * MM := by omega
  have q6 := szm q5 s12
  have e2 : 2000 * MM * 12 = 24000 * MM := by omega
  have q7 := szm d1 hll
  have q8 := szm q7 zD
  have q9 := szm q8 zD2
  have e3 : 1000 * 6 * MAX.natAbs * MAX.natAbs = 6000 * MM := Nat.mul_assoc _ _ _
  have w1 := szm zD zD2
  have e4 : MAX.natAbs * MAX.natAbs = MM := rfl
  have w2 := szm w1 s12
  have bN := inB_big h.a.n
  have bD := inB_big (inB_d h.a.d)
  have bN2 := inB_big h.b.n
  have bD2 := inB_big (inB_d h.b.d)
  have bs : s.natAbs < BIG := big_of (k := 12) (by omega) (by decide)
  have m1 := g_mulB a N (big_of (k := 1000) (by omega) (by decide)) bN
  have m2 := g_mulB (a * N) D2 (big_of (k := 1000) (by omega) (by decide)) bD2
  have m3 := g_mulB b N2 (big_of (k := 1000) (by omega) (by decide)) bN2
  have m4 := g_mulB (b * N2) D (big_of (k := 1000) (by omega) (by decide)) bD
  have m5 := g_mulB (a * N * D2 + b * N2 * D) s (big_of (k := 2000) q5 (by decide)) bs
  have m6 := g_mulB c l (big_of (k := 1000) (by omega) (by decide)) (big_of (k := 6) (by omega) (by decide))
  have m7 := g_mulB (c * l) D (big_of (k := 6000) (by omega) (by decide)) bD
  have m8 := g_mulB (c * l * D) D2 (big_of (k := 6000) (by omega) (by decide)) bD2
  have m9 := g_mulB D D2 bD bD2
  have m10 := g_mulB (D * D2) s (big_of (k := 1) (by omega) (by decide)) bs
  have ed := e_due (n := (a * N * D2 + b * N2 * D) * s + c * l * D * D2) (d := D * D2 * s) (big_of (k := 30000) (by omega) (by decide)) (big_of (k := 12) (by omega) (by decide))
  have fl := Fl.due ((a * N * D2 + b * N2 * D) * s + c * l * D * D2) (D * D2 * s)
  have ne := ne_same fl (by decide)
  have hq : ∀ p ∈ ks.map (fun k => lw (pk N D N2 D2 l s k)), Ent (CC N D N2 D2 l s) p := fun p hp => by
    obtain ⟨k, _, rfl⟩ := List.mem_map.mp hp
    exact h.ent k
  have hq2 : (ks.map (fun k => lw (pk N D N2 D2 l s k))).length ≤ 1000 := by rw [List.length_map]; exact hl
  obtain ⟨ET1, et1⟩ := p_L_total h.C hq hq2 (X := .lst _) (.inl rfl)
  obtain ⟨ET2, et2⟩ := p_L_total h.C hq hq2 (X := .tup _) (.inr rfl)
  rw [eq] at et1 et2
  have mm : (ks.map (fun k => lw (pk N D N2 D2 l s k))).map rtP = ks.map fun k => rtP (lw (pk N D N2 D2 l s k)) := by rw [List.map_map]; rfl
  rw [mm] at et1 et2
  have r10 : ∀ {k : Int}, k ∈ ks → gIx (.lst ((parts4 N D N2 D2 l s).map fun p => rtP (lw p))) (.int k) = some (rtP (lw (pk N D N2 D2 l s k))) := fun hm => ix_4 _ (hk _ hm)
  have r11 : ∀ {k : Int}, k ∈ ks → gIx (.lst ((parts4 N D N2 D2 l s).map fun p => dueP (lw p))) (.int k) = some (dueP (lw (pk N D N2 D2 l s k))) := fun hm => ix_4 _ (hk _ hm)
  generalize (J.D.lst ((parts4 N D N2 D2 l s).map fun p => rtP (lw p))) = P10 at *
  generalize (J.D.lst ((parts4 N D N2 D2 l s).map fun p => dueP (lw p))) = P11 at *
  have ic := cnt_iD ks
  simp [totR]
  generalize hG : lcD _ _ _ _ _ _ _ = r
  have hr := use_map hG J.D.int (fun k => rtP (lw (pk N D N2 D2 l s k))) ks rfl rfl (by omega) (fun k hm => by
    exact ⟨_, _, rfl, by simp [r10 hm]; rfl, rfl⟩)
  subst hr
  simp [ic, listD, hA, hB, hC, m1, m2, m3, m4, m5, m6, m7, m8, m9, m10, ownsA, ndA, argS, backE, ed, et1, et2, ne]
  generalize hG : lcD _ _ _ _ _ _ _ = r
  have hr := use_map hG (fun k => rtP (lw (pk N D N2 D2 l s k))) (fun k => dueP (lw (pk N D N2 D2 l s k))) ks rfl rfl (by omega) (fun k hm => by
    simp [rtP, dueP, ownsA, ndA, argS, backE, e_pair, wipeE])
  subst hr
  simp
  generalize hG : lcD _ _ _ _ _ _ _ = r
  have hr := use_map hG J.D.int (fun k => dueP (lw (pk N D N2 D2 l s k))) ks rfl rfl (by omega) (fun k hm => by
    exact ⟨_, _, rfl, by simp [r11 hm]; rfl, rfl⟩)
  subst hr
  have es := eq_same (Fl.lst (Fls.map (k := 1) (fun k => dueP (lw (pk N D N2 D2 l s k))) ks fun k _ => Fl.rat _ _)) (by decide)
  simp [es]
end
end Lw

namespace Lw
open PySem PySem.Spec PyProof.Rows L2 J
def totI : J.Env → RS := (fun E => (sSeq (sIf (fTest (fop gEq (fVar 12) (fC (.int 6)))) (sSet 13 (fop gMul (fPub (fLst (fCons (fop gIx (fVar 13) (fC (.int 0))) fNil))) (fC (.int 1000)))) sNil) totR) (pubE 13 E))
theorem totals_eq : f_L_totals = (sSeq (sAsg (fVar 1) (gTup2 (gsCons (gNm 3) (gsCons (gNm 4) gsNil)))) (sSeq (sAsg (fVar 2) (gTup2 (gsCons (gNm 5) (gsCons (gNm 6) gsNil)))) (sSeq (sSet 7 (fop gSub (fCallR 3 F_L_take (xO 0 (xV (fC (.int 12)) (xV (fC (.int 9)) xNil))) rvD) (fC (.int 5)))) (sSeq (sSet 8 (fop gAdd (fC (.int 1)) (fCallR 3 F_L_take (xO 0 (xV (fC (.int 12)) (xV (fC (.int 6)) xNil))) rvD))) (sSeq (sSet 9 (fPub (fLst (fCons (fTup (fCons (fVar 3) (fCons (fVar 4) fNil))) (fCons (fTup (fCons (fVar 5) (fCons (fVar 6) fNil))) (fCons (fTup (fCons (fun1 gNeg (fVar 3)) (fCons (fVar 4) fNil))) (fCons (fTup (fCons (fVar 7) (fCons (fVar 8) fNil))) fNil))))))) (sSeq (sSet 10 (fPub (fLc [20] (fun1L itemsD (fVar 9)) (gNm 20) fYes (fMake "Ratio" 3 F_M_Ratio_init [] (xV (fop gIx (fVar 20) (fC (.int 0))) (xV (fop gIx (fVar 20) (fC (.int 1))) xNil)))))) (sSeq (sSet 11 (fPub (fLc [20] (fun1L itemsD (fVar 9)) (gNm 20) fYes (fCallR 2 F_L_due (xV (fop gIx (fVar 20) (fC (.int 0))) (xV (fop gIx (fVar 20) (fC (.int 1))) xNil)) rvD)))) (sSeq (sSet 12 (fCallR 3 F_L_take (xO 0 (xV (fC (.int 7)) (xV (fC (.int 4)) xNil))) rvD)) (sSeq (sSetL 13 (fLc [21] (fRng1 (fVar 12)) (gNm 21) fYes (fCallR 3 F_L_take (xO 0 (xV (fC (.int 4)) (xV (fVar 21) xNil))) rvD))) totI))))))))) := rfl
theorem mk_fp {n d : Int} (h : Fp n d) : mkV n d = .ok (rt (loN n d) (loD n d)) := by
  unfold mkV
  rw [if_neg (by have := h.n.1; have := h.n.2; omega), if_neg (by have := h.d; omega)]
theorem e_dueF {n d : Int} (h : Fp n d) : F_L_due [.val (.int n), .val (.int d)] = .ok (.v (dueP (lw (n, d)))) (ev F_L_due [.val (.int n), .val (.int d)]) := by
  have e := e_due (inB_big h.n) (inB_big (inB_d h.d))
  rw [due_in h] at e
  exact e
theorem mulRep (x : Int) (n : Nat) (h : n ≤ 1000) : gMul (.lst [.int x]) (.int (n : Nat)) = some (.lst (iD (List.replicate n x))) := by
  rw [g_mulL _ _ ⟨by omega, by omega, by simp; omega⟩]
  congr 2
  unfold iD
  rw [List.map_replicate, Int.toNat_natCast, List.flatten_replicate_singleton]
theorem ex_rep (x : Int) : ∃ R : List Int, gMul (.lst [.int x]) (.int 1000) = some (.lst (iD R)) ∧ (∀ k ∈ R, k = x) ∧ R.length ≤ 1000 :=
  ⟨List.replicate 1000 x, mulRep x 1000 (Nat.le_refl _), fun _ h => List.eq_of_mem_replicate h, by rw [List.length_replicate]; exact Nat.le_refl _⟩
theorem ix_head (k0 : Int) (rest : List Int) : gIx (.lst (iD (k0 :: rest))) (.int 0) = some (.int k0) := by
  show L2.atI _ _ = _
  unfold L2.atI
  have : ixN (iD (k0 :: rest)).length 0 = some 0 := by
    unfold ixN
    rw [if_pos (Int.le_refl 0), if_pos (by simp [iD])]; rfl
  rw [this]; rfl
section
variable {N D N2 D2 : Int}
theorem tot_I {l s : Int} (hP : Pts N D N2 D2 l s) {ks : List Int} {m : Int} (hm : 0 ≤ m ∧ m < 7) (hkl : ks.length = m.toNat) (hk : ∀ k ∈ ks, 0 ≤ k ∧ k < 4) (S0 S1 S2 S9 : Sl) : ∃ E', totI [S0, S1, S2, .val (.int N), .val (.int D), .val (.int N2), .val (.int D2), .val (.int l), .val (.int s), S9, .val (.lst ((parts4 N D N2 D2 l s).map fun p => rtP (lw p))), .val (.lst ((parts4 N D N2 D2 l s).map fun p => dueP (lw p))), .val (.int m), .own false (iD ks), .no, .no, .no, .no, .no, .no, .no, .no, .no] = .rt (.v (.bl true)) (S0 :: E') := by
  by_cases c6 : m = 6
  · cases ks with
    | nil => simp at hkl; omega
    | cons k0 rest =>
      have hk0 := hk k0 List.mem_cons_self
      have ix := ix_head k0 rest
      obtain ⟨R, mu, hR, hRl⟩ := ex_rep k0
      obtain ⟨E', e⟩ := tot_rest hP (ks := R) (fun k hk => by rw [hR k hk]; exact hk0) hRl S0 S1 S2 S9 (.val (.int m))
      rw [c6] at e
      unfold totI
      generalize totR = TR at *
      simp [c6, ix, mu, e]
  · obtain ⟨E', e⟩ := tot_rest hP hk (by omega) S0 S1 S2 S9 (.val (.int m))
    unfold totI
    generalize totR = TR at *
    simp [c6, e]
theorem totals_aux {l0 s0 m l s : Int} (ds : List Int) (TI : J.Env → RS) (g1 : gTup2 (gsCons (gNm 3) (gsCons (gNm 4) gsNil)) (pr N D) = fun E => some ((E.set 3 (.val (.int N))).set 4 (.val (.int D)))) (g2 : gTup2 (gsCons (gNm 5) (gsCons (gNm 6) gsNil)) (pr N2 D2) = fun E => some ((E.set 5 (.val (.int N2))).set 6 (.val (.int D2)))) (hl : dig ds 12 9 = l0) (hs : dig ds.dropLast 12 6 = s0) (hm : dig ds.dropLast.dropLast 7 4 = m) (hl5 : l0 - 5 = l) (hs1 : 1 + s0 = s) (hsm : smI m = true) (hm7 : m < 7) (hFp : ∀ p ∈ parts4 N D N2 D2 l s, Fp p.1 p.2) (hI : ∀ (ks : List Int) (_ : ks.length = m.toNat) (_ : ∀ k ∈ ks, 0 ≤ k ∧ k < 4) (S0 S1 S2 S9 : Sl), ∃ E', TI [S0, S1, S2, .val (.int N), .val (.int D), .val (.int N2), .val (.int D2), .val (.int l), .val (.int s), S9, .val (.lst ((parts4 N D N2 D2 l s).map fun p => rtP (lw p))), .val (.lst ((parts4 N D N2 D2 l s).map fun p => dueP (lw p))), .val (.int m), .own false (iD ks), .no, .no, .no, .no, .no, .no, .no, .no, .no] = .rt (.v (.bl true)) (S0 :: E')) : ∃ S0 E', (sSeq (sAsg (fVar 1) (gTup2 (gsCons (gNm 3) (gsCons (gNm 4) gsNil)))) (sSeq (sAsg (fVar 2) (gTup2 (gsCons (gNm 5) (gsCons (gNm 6) gsNil)))) (sSeq (sSet 7 (fop gSub (fCallR 3 F_L_take (xO 0 (xV (fC (.int 12)) (xV (fC (.int 9)) xNil))) rvD) (fC (.int 5)))) (sSeq (sSet 8 (fop gAdd (fC (.int 1)) (fCallR 3 F_L_take (xO 0 (xV (fC (.int 12)) (xV (fC (.int 6)) xNil))) rvD))) (sSeq (sSet 9 (fPub (fLst (fCons (fTup (fCons (fVar 3) (fCons (fVar 4) fNil))) (fCons (fTup (fCons (fVar 5) (fCons (fVar 6) fNil))) (fCons (fTup (fCons (fun1 gNeg (fVar 3)) (fCons (fVar 4) fNil))) (fCons (fTup (fCons (fVar 7) (fCons (fVar 8) fNil))) fNil))))))) (sSeq (sSet 10 (fPub (fLc [20] (fun1L itemsD (fVar 9)) (gNm 20) fYes (fMake "Ratio" 3 F_M_Ratio_init [] (xV (fop gIx (fVar 20) (fC (.int 0))) (xV (fop gIx (fVar 20) (fC (.int 1))) xNil)))))) (sSeq (sSet 11 (fPub (fLc [20] (fun1L itemsD (fVar 9)) (gNm 20) fYes (fCallR 2 F_L_due (xV (fop gIx (fVar 20) (fC (.int 0))) (xV (fop gIx (fVar 20) (fC (.int 1))) xNil)) rvD)))) (sSeq (sSet 12 (fCallR 3 F_L_take (xO 0 (xV (fC (.int 7)) (xV (fC (.int 4)) xNil))) rvD)) (sSeq (sSetL 13 (fLc [21] (fRng1 (fVar 12)) (gNm 21) fYes (fCallR 3 F_L_take (xO 0 (xV (fC (.int 4)) (xV (fVar 21) xNil))) rvD))) TI))))))))) [.own true (iD ds), .val (pr N D), .val (pr N2 D2), .no, .no, .no, .no, .no, .no, .no, .no, .no, .no, .no, .no, .no, .no, .no, .no, .no, .no, .no, .no] = .rt (.v (.bl true)) (S0 :: E') := by
  simp [g1, g2, ownsA, ndA, argS, backE, hl, hs, hl5, hs1]
  generalize hG : lcD _ _ _ _ _ _ _ = r
  have hr := use_map hG prP (fun p => rtP (lw p)) (parts4 N D N2 D2 l s) rfl rfl (by simp [parts4]) (fun p hp => by
    have mk := mk_is p.1 p.2
    rw [mk_fp (hFp p hp)] at mk
    simp [prP, rtP, lw, mk, toD, wipeE])
  subst hr
  simp
  generalize hG : lcD _ _ _ _ _ _ _ = r
  have hr := use_map hG prP (fun p => dueP (lw p)) (parts4 N D N2 D2 l s) rfl rfl (by simp [parts4]) (fun p hp => by
    have mk := e_dueF (hFp p hp)
    simp [prP, ownsA, ndA, argS, backE, mk, wipeE])
  subst hr
  simp [ownsA, ndA, argS, backE, hm, hsm]
  generalize hG : lcD _ _ _ _ _ _ _ = r
  generalize hQ1 : (J.D.lst ((parts4 N D N2 D2 l s).map fun p => rtP (lw p))) = P10 at *
  generalize hQ2 : (J.D.lst ((parts4 N D N2 D2 l s).map fun p => dueP (lw p))) = P11 at *
  generalize hQ3 : (J.D.lst [.tup [.int N, .int D], .tup [.int N2, .int D2], .tup [.int (-N), .int D], .tup [.int l, .int s]]) = P9 at *
  obtain ⟨acc, E', rfl, ds', ks, rfl, hkl, hk, rfl⟩ := use_lc hG (fun i acc E => ∃ ds ks : List Int, acc = iD ks ∧ ks.length = i ∧ (∀ k ∈ ks, 0 ≤ k ∧ k < 4) ∧ E = [.own true (iD ds), .val (pr N D), .val (pr N2 D2), .val (.int N), .val (.int D), .val (.int N2), .val (.int D2), .val (.int l), .val (.int s), .val P9, .val P10, .val P11, .val (.int m), .no, .no, .no, .no, .no, .no, .no, .no, .no, .no]) ⟨_, [], rfl, rfl, by simp, rfl⟩ (by
    rintro i hi acc E ⟨ds, ks, rfl, hkl, hk, rfl⟩
    have hi : i < m.toNat := by simpa using hi
    have v1 := dig_nn ds (m := 4) (i : Nat) (by decide)
    have v2 := dig_lt ds (m := 4) (i : Nat) (by decide)
    refine ⟨true, [.own true (iD ds), .val (pr N D), .val (pr N2 D2), .val (.int N), .val (.int D), .val (.int N2), .val (.int D2), .val (.int l), .val (.int s), .val P9, .val P10, .val P11, .val (.int m), .no, .no, .no, .no, .no, .no, .no, .no, .val (.int (i : Nat)), .no], ?_, fun _ => ?_, fun h => by cases h⟩
    · simp [stL, wipeE]
    · refine ⟨.int (dig ds 4 (i : Nat)), [.own true (iD ds.dropLast), .val (pr N D), .val (pr N2 D2), .val (.int N), .val (.int D), .val (.int N2), .val (.int D2), .val (.int l), .val (.int s), .val P9, .val P10, .val P11, .val (.int m), .no, .no, .no, .no, .no, .no, .no, .no, .val (.int (i : Nat)), .no], ?_, ?_, ds.dropLast, ks ++ [dig ds 4 (i : Nat)], ?_, ?_, ?_, ?_⟩
      · simp [ownsA, ndA, argS, backE]
      · simp [iD]; omega
      · simp [iD]
      · simp; omega
      · intro k hk'
        rcases List.mem_append.mp hk' with hk' | hk'
        · exact hk k hk'
        · simp at hk'; subst hk'; exact ⟨v1, v2⟩
      · rfl)
  rw [len_upD] at hkl
  obtain ⟨E', e⟩ := hI ks hkl hk (.own true (iD ds')) (.val (pr N D)) (.val (pr N2 D2)) (.val P9)
  simp [e]
theorem p_totals0 (h : Fp N D) (h2 : Fp N2 D2) (ds : List Int) (g1 : gTup2 (gsCons (gNm 3) (gsCons (gNm 4) gsNil)) (pr N D) = fun E => some ((E.set 3 (.val (.int N))).set 4 (.val (.int D)))) (g2 : gTup2 (gsCons (gNm 5) (gsCons (gNm 6) gsNil)) (pr N2 D2) = fun E => some ((E.set 5 (.val (.int N2))).set 6 (.val (.int D2)))) : ∃ S0 E', f_L_totals [.own true (iD ds), .val (pr N D), .val (pr N2 D2), .no, .no, .no, .no, .no, .no, .no, .no, .no, .no, .no, .no, .no, .no, .no, .no, .no, .no, .no, .no] = .rt (.v (.bl true)) (S0 :: E') := by
  have u1 := dig_nn ds (m := 12) 9 (by decide)
  have u2 := dig_lt ds (m := 12) 9 (by decide)
  have u3 := dig_nn ds.dropLast (m := 12) 6 (by decide)
  have u4 := dig_lt ds.dropLast (m := 12) 6 (by decide)
  have u5 := dig_nn ds.dropLast.dropLast (m := 7) 4 (by decide)
  have u6 := dig_lt ds.dropLast.dropLast (m := 7) 4 (by decide)
  generalize hl : dig ds 12 9 = l0 at *
  generalize hs : dig ds.dropLast 12 6 = s0 at *
  generalize hm : dig ds.dropLast.dropLast 7 4 = m at *
  have hP : Pts N D N2 D2 (l0 - 5) (1 + s0) := ⟨h, h2, by omega, by omega⟩
  have hsm : smI m = true := smI_small (by omega)
  generalize hl5 : l0 - 5 = l at *
  generalize hs1 : 1 + s0 = s at *
  have hI : ∀ (ks : List Int) (_ : ks.length = m.toNat) (_ : ∀ k ∈ ks, 0 ≤ k ∧ k < 4) (S0 S1 S2 S9 : Sl), ∃ E', totI [S0, S1, S2, .val (.int N), .val (.int D), .val (.int N2), .val (.int D2), .val (.int l), .val (.int s), S9, .val (.lst ((parts4 N D N2 D2 l s).map fun p => rtP (lw p))), .val (.lst ((parts4 N D N2 D2 l s).map fun p => dueP (lw p))), .val (.int m), .own false (iD ks), .no, .no, .no, .no, .no, .no, .no, .no, .no] = .rt (.v (.bl true)) (S0 :: E') := fun ks hkl hk => tot_I hP ⟨u5, u6⟩ hkl hk
  have hFp : ∀ p ∈ parts4 N D N2 D2 l s, Fp p.1 p.2 := fun p hp => by
    simp [parts4] at hp
    rcases hp with rfl | rfl | rfl | rfl
    · exact h
    · exact h2
    · exact h.neg
    · exact hP.c
  rw [totals_eq]
  exact totals_aux ds totI g1 g2 hl hs hm hl5 hs1 hsm u6 hFp hI
theorem p_totals (h : Fp N D) (h2 : Fp N2 D2) (ds : List Int) : ∃ S0 E', F_L_totals [.own true (iD ds), .val (pr N D), .val (pr N2 D2)] = .ok (.v (.bl true)) (S0 :: E') := by
  obtain ⟨S0, E', e⟩ := p_totals0 h h2 ds rfl rfl
  exact ⟨S0, E', runF_rt (n := 23) (f := f_L_totals) rfl e⟩
end
end Lw

namespace Lw
open PySem PySem.Spec PyProof.Rows L2 J
/-! ### the numbers -/
def tab : List J.D := [.int 1, .int 2, .int 6, .int 1, .int 3, .int 2, .int 1, .int 40, .int 12, .int 2, .int 2, .int 2]
theorem tab_ix {k : Int} (h : 0 ≤ k ∧ k < 12) : ∃ c : Nat, gIx (.lst [.int 1, .int 2, .int 6, .int 1, .int 3, .int 2, .int 1, .int 40, .int 12, .int 2, .int 2, .int 2]) (.int k) = some (.int (c : Nat)) ∧ c ≤ 40 ∧ (9 ≤ k → c = 2) := by
  have : k = 0 ∨ k = 1 ∨ k = 2 ∨ k = 3 ∨ k = 4 ∨ k = 5 ∨ k = 6 ∨ k = 7 ∨ k = 8 ∨ k = 9 ∨ k = 10 ∨ k = 11 := by omega
  rcases this with rfl | rfl | rfl | rfl | rfl | rfl | rfl | rfl | rfl | rfl | rfl | rfl
  · exact ⟨1, rfl, by decide, by decide⟩
  · exact ⟨2, rfl, by decide, by decide⟩
  · exact ⟨6, rfl, by decide, by decide⟩
  · exact ⟨1, rfl, by decide, by decide⟩
  · exact ⟨3, rfl, by decide, by decide⟩
  · exact ⟨2, rfl, by decide, by decide⟩
  · exact ⟨1, rfl, by decide, by decide⟩
  · exact ⟨40, rfl, by decide, by decide⟩
  · exact ⟨12, rfl, by decide, by decide⟩
  · exact ⟨2, rfl, by decide, by decide⟩
  · exact ⟨2, rfl, by decide, by decide⟩
  · exact ⟨2, rfl, by decide, by decide⟩
theorem p12 : (12 : Nat) ^ 40 < 2 ^ 200 := by decide +kernel
theorem p12M : ((12 ^ 40 : Nat) : Int) < M20 := by decide +kernel
theorem M20_2 : M20 + 1000 < MAX := by decide +kernel
theorem pow_mono {i c : Nat} (h : i ≤ c) : 12 ^ i ≤ 12 ^ c := Nat.pow_le_pow_right (by decide) h
def NumOk (r : RS) : Prop := ∃ x ds' E', r = .rt (.v (.int x)) (.own true (iD ds') :: E') ∧ 0 ≤ x ∧ x ≤ MAX
theorem num_aux (ds : List Int) (salt : Int) {kd : Int} (hk : dig ds 12 salt = kd) (h0 : 0 ≤ kd ∧ kd < 12) : NumOk ((sSeq (sSet 2 (fCallR 3 F_L_take (xO 0 (xV (fC (.int 12)) (xV (fVar 1) xNil))) rvD)) (sSeq (sSet 3 (fC (.int 0))) (sSeq (sFor (fRng1 (fop gIx (fPub (fLst (fCons (fC (.int 1)) (fCons (fC (.int 2)) (fCons (fC (.int 6)) (fCons (fC (.int 1)) (fCons (fC (.int 3)) (fCons (fC (.int 2)) (fCons (fC (.int 1)) (fCons (fC (.int 40)) (fCons (fC (.int 12)) (fCons (fC (.int 2)) (fCons (fC (.int 2)) (fCons (fC (.int 2)) fNil)))))))))))))) (fVar 2))) (gNm 4) (sSet 3 (fop gAdd (fop gMul (fVar 3) (fC (.int 12))) (fCallR 3 F_L_take (xO 0 (xV (fC (.int 12)) (xV (fop gAdd (fVar 1) (fop gMul (fC (.int 5)) (fVar 4))) xNil))) rvD)))) (sSeq (sIf (fTest (fop gEq (fVar 2) (fC (.int 9)))) (sRet (fop gSub (fop gPowP (fop gPowP (fC (.int 10)) (fC (.int 50))) (fC (.int 40))) (fVar 3))) sNil) (sSeq (sIf (fTest (fop gEq (fVar 2) (fC (.int 10)))) (sRet (fop gAdd (fop gPowP (fop gPowP (fC (.int 10)) (fC (.int 50))) (fC (.int 20))) (fVar 3))) sNil) (sSeq (sIf (fTest (fop gEq (fVar 2) (fC (.int 11)))) (sRet (fop gSub (fop gPowP (fop gPowP (fC (.int 10)) (fC (.int 50))) (fC (.int 20))) (fVar 3))) sNil) (sRet (fVar 3)))))))) [.own true (iD ds), .val (.int salt), .no, .no, .no]) := by
  obtain ⟨c, hc, hc40, hc2⟩ := tab_ix h0
  have hsm : smI (c : Nat) = true := smI_small (by omega)
  simp [ownsA, ndA, argS, backE, hk, hc, hsm]
  generalize hF : forD _ _ _ _ = r
  obtain ⟨E', rfl, ds', v, s, hv0, hv1, rfl⟩ := use_for hF (fun i E => ∃ (ds : List Int) (v : Int) (s : Sl), 0 ≤ v ∧ v < ((12 ^ i : Nat) : Int) ∧ E = [.own true (iD ds), .val (.int salt), .val (.int kd), .val (.int v), s]) ⟨_, 0, .no, by decide, by decide, rfl⟩ (by
    rintro i hi E ⟨ds, v, s, hv0, hv1, rfl⟩
    have hi : i < c := by simpa using hi
    have v1 := dig_nn ds (m := 12) (salt + 5 * (i : Nat)) (by decide)
    have v2 := dig_lt ds (m := 12) (salt + 5 * (i : Nat)) (by decide)
    have hp := p12
    have hp2 := pow_mono (show i ≤ 40 by omega)
    have m1 := g_mul v 12 (by omega) (by decide)
    have m2 := g_mul 5 (i : Nat) (by decide) (by omega)
    have hs : ((12 ^ (i + 1) : Nat) : Int) = ((12 ^ i : Nat) : Int) * 12 := by rw [Nat.pow_succ]; omega
    refine ⟨[.own true (iD ds.dropLast), .val (.int salt), .val (.int kd), .val (.int (v * 12 + dig ds 12 (salt + 5 * (i : Nat)))), .val (.int (i : Nat))], ?_, ds.dropLast, _, _, ?_, ?_, rfl⟩
    · simp [stF, m1, m2, ownsA, ndA, argS, backE]
    · omega
    · omega)
  rw [len_upD] at hv1
  have a1 := p12M
  have a2 := M20_2
  have a3 := M20_pos
  have a4 := pow_mono (show c ≤ 40 by omega)
  have a5 : ((12 ^ c : Nat) : Int) ≤ ((12 ^ 40 : Nat) : Int) := Int.ofNat_le.mpr a4
  have a6 : v < M20 := Int.lt_trans (Int.lt_of_lt_of_le hv1 a5) a1
  by_cases k9 : kd = 9
  · have : c = 2 := hc2 (by omega)
    subst this
    have : v < 144 := hv1
    simp [k9, pow50, pow40]
    exact ⟨MAX - v, ds', _, rfl, by omega, by omega⟩
  · by_cases k10 : kd = 10
    · have : c = 2 := hc2 (by omega)
      subst this
      have : v < 144 := hv1
      simp [k10, pow50, pow20]
      exact ⟨M20 + v, ds', _, rfl, by omega, by omega⟩
    · by_cases k11 : kd = 11
      · have : c = 2 := hc2 (by omega)
        subst this
        have : v < 144 := hv1
        simp [k11, pow50, pow20]
        exact ⟨M20 - v, ds', _, rfl, by omega, by omega⟩
      · simp [k9, k10, k11]
        exact ⟨v, ds', _, rfl, hv0, by omega⟩
theorem e_number (ds : List Int) (salt : Int) : ∃ x ds' E', F_L_number [.own true (iD ds), .val (.int salt)] = .ok (.v (.int x)) (.own true (iD ds') :: E') ∧ 0 ≤ x ∧ x ≤ MAX := by
  obtain ⟨x, ds', E', e, h⟩ := num_aux ds salt rfl ⟨dig_nn ds salt (by decide), dig_lt ds salt (by decide)⟩
  exact ⟨x, ds', E', runF_rt (n := 5) (f := f_L_number) rfl e, h⟩
theorem sg_ix {k : Int} (h : 0 ≤ k ∧ k < 2) : ∃ c : Int, gIx (.lst [.int 1, .int (-1)]) (.int k) = some (.int c) ∧ (c = 1 ∨ c = -1) := by
  have : k = 0 ∨ k = 1 := by omega
  rcases this with rfl | rfl
  · exact ⟨1, rfl, .inl rfl⟩
  · exact ⟨-1, rfl, .inr rfl⟩
theorem e_signed (ds : List Int) (salt : Int) : ∃ x ds' E', F_L_signed [.own true (iD ds), .val (.int salt)] = .ok (.v (.int x)) (.own true (iD ds') :: E') ∧ inB x := by
  obtain ⟨c, hc, hc1⟩ := sg_ix ⟨dig_nn ds (m := 2) salt (by decide), dig_lt ds (m := 2) salt (by decide)⟩
  obtain ⟨x, ds', E', e, h1, h2⟩ := e_number ds.dropLast salt
  have hx : inB x := ⟨by omega, h2⟩
  have m := g_mulB c x (inB_big (by rcases hc1 with rfl | rfl; exact inB_1; exact inB_neg inB_1)) (inB_big hx)
  refine ⟨c * x, ds', [.val (.int salt), .val (.int c)], ?_, ?_⟩
  · simp [F_L_signed, runF, f_L_signed, ownsA, ndA, argS, backE, hc, e, m]
  · rcases hc1 with rfl | rfl
    · rw [Int.one_mul]; exact hx
    · rw [Int.neg_mul, Int.one_mul]; exact inB_neg hx
end Lw

namespace Lw
open PySem PySem.Spec PyProof.Rows L2 J
def LawOk (r : RS) : Prop := ∃ E', r = .rt (.v (.bl true)) E'
theorem ex_max {y : Int} (h : 0 ≤ y ∧ y ≤ MAX) : ∃ D, gMax2 (.int 1) (.int y) = some (.int D) ∧ (0 < D ∧ D ≤ MAX) := by
  have := MAX_pos
  refine ⟨if y > 1 then y else 1, rfl, ?_⟩
  split <;> omega
theorem lo_one (w : Int) : loN w 1 = w ∧ loD w 1 = 1 := lo_low (by unfold g2; simp)
theorem Fp.one {w : Int} (h : inB w) : Fp w 1 := ⟨h, by decide, inB_1.2⟩
theorem mkF {n d : Int} (h : Fp n d) (E : J.Env) : makeD "Ratio" 3 F_M_Ratio_init [] [.v (.int n), .v (.int d)] E = .ok (rt (loN n d) (loD n d)) E := by
  rw [mk_is, mk_fp h]; rfl
theorem mkF1 {w : Int} (h : inB w) (E : J.Env) : makeD "Ratio" 3 F_M_Ratio_init [.int 1] [.v (.int w)] E = .ok (rt w 1) E := by
  rw [mk_one, mk_fp (Fp.one h), (lo_one w).1, (lo_one w).2]; rfl
abbrev LawS (S0 S2 : Sl) (ds : List Int) (N D N2 D2 w : Int) : J.Env := [S0, .own false (iD ds), S2, .val (pr N D), .val (pr N2 D2), .val (.int w), .val (rt (loN N D) (loD N D)), .val (rt (loN N2 D2) (loD N2 D2)), .val (rt w 1), .no, .no]
theorem law_A (ns : List Int) (RQ : J.Env → RS) (hR : ∀ (S0 S2 : Sl) (ds : List Int) (N D N2 D2 w : Int), Fp N D → Fp N2 D2 → inB w → LawOk (RQ (LawS S0 S2 ds N D N2 D2 w))) : LawOk ((sSeq (sIf (fOr (fNot (fTru (fCallR 1 F_L_int (xV (fC (.int gi_MOST)) xNil) rvD))) (fTest (fop gNe (fC (.int gi_MOST)) (fop gPowP (fop gPowP (fC (.int 10)) (fC (.int 50))) (fC (.int 40)))))) (sRet (fC (.bl false))) sNil) (sSeq (sSetL 1 (fCallR 1 F_L_tape (xV (fVar 0) xNil) rvL)) (sSeq (sSet 2 (fCallR 2 F_L_signed (xO 1 (xV (fC (.int 2)) xNil)) rvD)) (sSeq (sSet 3 (fTup (fCons (fVar 2) (fCons (fop gMax2 (fC (.int 1)) (fCallR 2 F_L_number (xO 1 (xV (fC (.int 4)) xNil)) rvD)) fNil)))) (sSeq (sSet 2 (fCallR 2 F_L_signed (xO 1 (xV (fC (.int 5)) xNil)) rvD)) (sSeq (sSet 4 (fTup (fCons (fVar 2) (fCons (fop gMax2 (fC (.int 1)) (fCallR 2 F_L_number (xO 1 (xV (fC (.int 1)) xNil)) rvD)) fNil)))) (sSeq (sSet 5 (fCallR 2 F_L_signed (xO 1 (xV (fC (.int 3)) xNil)) rvD)) (sSeq (sSet 6 (fMake "Ratio" 3 F_M_Ratio_init [] (xV (fop gIx (fVar 3) (fC (.int 0))) (xV (fop gIx (fVar 3) (fC (.int 1))) xNil)))) (sSeq (sSet 7 (fMake "Ratio" 3 F_M_Ratio_init [] (xV (fop gIx (fVar 4) (fC (.int 0))) (xV (fop gIx (fVar 4) (fC (.int 1))) xNil)))) (sSeq (sSet 8 (fMake "Ratio" 3 F_M_Ratio_init [.int 1] (xV (fVar 5) xNil))) RQ)))))))))) [.val (.rol (ns.map J.D.int)), .no, .no, .no, .no, .no, .no, .no, .no, .no, .no]) := by
  obtain ⟨ds, ET, et, _, _⟩ := p_tape ns
  have et : F_L_tape [.val (.rol (ns.map J.D.int))] = .ok (.l (iD ds)) ET := et
  obtain ⟨N, ds1, E1, e1, h1⟩ := e_signed ds 2
  obtain ⟨y, ds2, E2, e2, h2⟩ := e_number ds1 4
  obtain ⟨D, hD, h3⟩ := ex_max h2
  obtain ⟨N2, ds3, E3, e3, h4⟩ := e_signed ds2 5
  obtain ⟨y2, ds4, E4, e4, h5⟩ := e_number ds3 1
  obtain ⟨D2, hD2, h6⟩ := ex_max h5
  obtain ⟨w, ds5, E5, e5, h7⟩ := e_signed ds4 3
  have k1 := mkF ⟨h1, h3⟩
  have k2 := mkF ⟨h4, h6⟩
  have k3 := mkF1 h7
  have r := hR (.val (.rol (ns.map J.D.int))) (.val (.int N2)) ds5 N D N2 D2 w ⟨h1, h3⟩ ⟨h4, h6⟩ h7
  have i0 : ∀ a b : Int, gIx (.tup [.int a, .int b]) (.int 0) = some (.int a) := fun a b => rfl
  have i1 : ∀ a b : Int, gIx (.tup [.int a, .int b]) (.int 1) = some (.int b) := fun a b => rfl
  simp [LawS, pr] at r
  generalize (J.D.rol (ns.map J.D.int)) = R0 at *
  simp [gi_M, pow50, pow40, et, ownsA, ndA, argS, backE, e1, e2, hD, e3, e4, hD2, e5, i0, i1, k1, k2, k3]
  exact r
end Lw

namespace Lw
open PySem PySem.Spec PyProof.Rows L2 J
theorem dueV_tup (n d : Int) : ∃ l, dueV n d = .tup l := by
  unfold dueV
  by_cases c1 : MAX < (if loN n d < 0 then -loN n d else loN n d)
  · rw [if_pos c1]; exact ⟨_, rfl⟩
  · rw [if_neg c1]
    by_cases c2 : MAX < loD n d
    · rw [if_pos c2]; exact ⟨_, rfl⟩
    · rw [if_neg c2]; exact ⟨_, rfl⟩
section
variable {N D N2 D2 w : Int}
theorem p_last (h : Fp N D) (k : Fp N2 D2) : ∃ l E1 E2, F_L_told [.val (.str "+"), .val (rt (loN N D) (loD N D)), .val (rt (loN N2 D2) (loD N2 D2))] = .ok (.v (.tup l)) E1 ∧ F_L_result [.val (.str "+"), .val (pr N D), .val (pr N2 D2)] = .ok (.v (.tup l)) E2 ∧ gEq (.tup l) (.tup l) = some (.bl true) := by
  have e := told_add h.low.n h.low.d (.r k.low.n k.low.d)
  rw [dueV_eq (Int.mul_pos h.low.d.1 k.low.d.1) (Int.mul_pos h.d.1 k.d.1) (cross_add lo_cross lo_cross).1] at e
  have r := r_add h.n (inB_d h.d) k.n (inB_d k.d)
  rw [due_V (Int.mul_pos h.d.1 k.d.1)] at r
  have f := eq_same (Fl.dueV (N * D2 + N2 * D) (D * D2)) (by decide)
  obtain ⟨l, hl⟩ := dueV_tup (N * D2 + N2 * D) (D * D2)
  rw [hl] at e r f
  obtain ⟨E1, e⟩ := e
  exact ⟨l, E1, _, e, r, f⟩
theorem ag4 (h : Fp N D) (k : Fp N2 D2) : ∀ s ∈ (["+", "-", "*", "/"] : List Str), Agree s N D (rt (loN N2 D2) (loD N2 D2)) N2 D2 := by
  intro s hs
  rcases List.mem_cons.mp hs with rfl | hs
  · exact s_add h (Rp2.rt k)
  rcases List.mem_cons.mp hs with rfl | hs
  · exact s_sub h (Rp2.rt k)
  rcases List.mem_cons.mp hs with rfl | hs
  · exact s_mul h (Rp2.rt k)
  rcases List.mem_cons.mp hs with rfl | hs
  · exact s_div h k
  cases hs
theorem ag3 (h : Fp N D) (k : inB w) : ∀ s ∈ (["+", "-", "*"] : List Str), Agree s N D (.int w) w 1 := by
  intro s hs
  rcases List.mem_cons.mp hs with rfl | hs
  · exact s_add h (Rp2.int k)
  rcases List.mem_cons.mp hs with rfl | hs
  · exact s_sub h (Rp2.int k)
  rcases List.mem_cons.mp hs with rfl | hs
  · exact s_mul h (Rp2.int k)
  cases hs
theorem p_ops4 (h : Fp N D) (k : Fp N2 D2) : ∃ E, F_L_operations [.val (.lst [.str "+", .str "-", .str "*", .str "/"]), .val (rt (loN N D) (loD N D)), .val (pr N D), .val (rt (loN N2 D2) (loD N2 D2)), .val (pr N2 D2)] = .ok (.v (.bl true)) E := p_ops (signs := ["+", "-", "*", "/"]) (ag4 h k)
theorem p_ops3 (h : Fp N D) (k : inB w) : ∃ E, F_L_operations [.val (.lst [.str "+", .str "-", .str "*"]), .val (rt (loN N D) (loD N D)), .val (pr N D), .val (.int w), .val (.tup [.int w, .int 1])] = .ok (.v (.bl true)) E := p_ops (signs := ["+", "-", "*"]) (ag3 h k)
theorem p_order1 (h : Fp N D) (k : inB w) : ∃ E, F_L_order [.val (rt (loN N D) (loD N D)), .val (pr N D), .val (rt w 1), .val (.tup [.int w, .int 1])] = .ok (.v (.bl true)) E := by
  have e := p_order h (Fp.one k)
  rw [(lo_one w).1, (lo_one w).2] at e
  exact e
theorem cut3 : gCut (.lst [.str "+", .str "-", .str "*", .str "/"]) none (some 3) = some (.lst [.str "+", .str "-", .str "*"]) := by
  have e := cut_pre [.str "+", .str "-", .str "*", .str "/"] 3
  show some (J.D.lst (J.cutD _ _ _)) = _
  exact congrArg (fun l => some (J.D.lst l)) e
theorem law_B1 (RQ : J.Env → RS) (S0 S2 S : Sl) (ds : List Int) (A B PA PB : J.D) (l : List J.D) (x1 x2 x3 x4 x5 x6 x7 x8 x9 x10 x11 x12 x13 x14 x15 x16 x17 x18 : J.Env)
  (s1 : F_L_single [.val A, .val PA] = .ok (.v (.bl true)) x1) (s2 : F_L_single [.val B, .val PB] = .ok (.v (.bl true)) x2)
  (q : F_M_Ratio_eq [.val (rt w 1), .val (.int w)] = .ok (.v (.bl false)) x3)
  (p : F_L_pair [.val (rt w 1)] = .ok (.v (.tup [.str "ratio", .int w, .int 1])) x4)
  (ne : gNe (.tup [.str "ratio", .int w, .int 1]) (.tup [.str "ratio", .int w, .int 1]) = some (.bl false))
  (o1 : F_L_operations [.val (.lst [.str "+", .str "-", .str "*", .str "/"]), .val A, .val PA, .val B, .val PB] = .ok (.v (.bl true)) x5)
  (o2 : F_L_operations [.val (.lst [.str "+", .str "-", .str "*", .str "/"]), .val B, .val PB, .val A, .val PA] = .ok (.v (.bl true)) x6)
  (o3 : F_L_operations [.val (.lst [.str "+", .str "-", .str "*", .str "/"]), .val A, .val PA, .val A, .val PA] = .ok (.v (.bl true)) x7)
  (o4 : F_L_operations [.val (.lst [.str "+", .str "-", .str "*"]), .val A, .val PA, .val (.int w), .val (.tup [.int w, .int 1])] = .ok (.v (.bl true)) x8)
  (r1 : F_L_order [.val A, .val PA, .val B, .val PB] = .ok (.v (.bl true)) x9)
  (r2 : F_L_order [.val B, .val PB, .val A, .val PA] = .ok (.v (.bl true)) x10)
  (r3 : F_L_order [.val A, .val PA, .val A, .val PA] = .ok (.v (.bl true)) x11)
  (r4 : F_L_order [.val B, .val PB, .val (rt w 1), .val (.tup [.int w, .int 1])] = .ok (.v (.bl true)) x12)
  (b1 : F_L_back [.val A, .val PA, .val B, .val PB] = .ok (.v (.bl true)) x13)
  (b2 : F_L_back [.val B, .val PB, .val A, .val PA] = .ok (.v (.bl true)) x14)
  (t : F_L_totals [.own true (iD ds), .val PA, .val PB] = .ok (.v (.bl true)) (S :: x15))
  (l1 : F_L_told [.val (.str "+"), .val A, .val B] = .ok (.v (.tup l)) x16)
  (l2 : F_L_result [.val (.str "+"), .val PA, .val PB] = .ok (.v (.tup l)) x17)
  (l3 : gEq (.tup l) (.tup l) = some (.bl true))
  (c3 : gCut (.lst [.str "+", .str "-", .str "*", .str "/"]) none (some 3) = some (.lst [.str "+", .str "-", .str "*"])) (hR : LawOk (RQ [S0, .own false (iD ds), S2, .val PA, .val PB, .val (.int w), .val A, .val B, .val (rt w 1), .val (.bl false), .val (.lst [.str "+", .str "-", .str "*", .str "/"])])) : LawOk ((sSeq (sIf (fOr (fNot (fTru (fCallR 2 F_L_single (xV (fVar 6) (xV (fVar 3) xNil)) rvD))) (fNot (fTru (fCallR 2 F_L_single (xV (fVar 7) (xV (fVar 4) xNil)) rvD)))) (sRet (fC (.bl false))) sNil) (sSeq (sSet 9 (fBin T_eq_eq gEq (fVar 8) (fVar 5))) (sSeq (sIf (fOr (fTest (fop gNe (fCallR 1 F_L_pair (xV (fVar 8) xNil) rvD) (fTup (fCons (fC (.str "ratio")) (fCons (fVar 5) (fCons (fC (.int 1)) fNil)))))) (fTest (fun1 (isBl false true) (fVar 9)))) (sRet (fC (.bl false))) sNil) (sSeq (sSet 10 (fPub (fLst (fCons (fC (.str "+")) (fCons (fC (.str "-")) (fCons (fC (.str "*")) (fCons (fC (.str "/")) fNil))))))) (sSeq (sIf (fNot (fTru (fCallR 5 F_L_operations (xV (fVar 10) (xV (fVar 6) (xV (fVar 3) (xV (fVar 7) (xV (fVar 4) xNil))))) rvD))) (sRet (fC (.bl false))) sNil) (sSeq (sIf (fNot (fTru (fCallR 5 F_L_operations (xV (fVar 10) (xV (fVar 7) (xV (fVar 4) (xV (fVar 6) (xV (fVar 3) xNil))))) rvD))) (sRet (fC (.bl false))) sNil) RQ)))))) [S0, .own false (iD ds), S2, .val PA, .val PB, .val (.int w), .val A, .val B, .val (rt w 1), .no, .no]) := by
  simp [ownsA, ndA, argS, backE, s1, s2, q, p, ne, o1, o2]
  exact hR
theorem law_B2 (RQ : J.Env → RS) (S0 S2 S : Sl) (ds : List Int) (A B PA PB : J.D) (l : List J.D) (x1 x2 x3 x4 x5 x6 x7 x8 x9 x10 x11 x12 x13 x14 x15 x16 x17 x18 : J.Env)
  (s1 : F_L_single [.val A, .val PA] = .ok (.v (.bl true)) x1) (s2 : F_L_single [.val B, .val PB] = .ok (.v (.bl true)) x2)
  (q : F_M_Ratio_eq [.val (rt w 1), .val (.int w)] = .ok (.v (.bl false)) x3)
  (p : F_L_pair [.val (rt w 1)] = .ok (.v (.tup [.str "ratio", .int w, .int 1])) x4)
  (ne : gNe (.tup [.str "ratio", .int w, .int 1]) (.tup [.str "ratio", .int w, .int 1]) = some (.bl false))
  (o1 : F_L_operations [.val (.lst [.str "+", .str "-", .str "*", .str "/"]), .val A, .val PA, .val B, .val PB] = .ok (.v (.bl true)) x5)
  (o2 : F_L_operations [.val (.lst [.str "+", .str "-", .str "*", .str "/"]), .val B, .val PB, .val A, .val PA] = .ok (.v (.bl true)) x6)
  (o3 : F_L_operations [.val (.lst [.str "+", .str "-", .str "*", .str "/"]), .val A, .val PA, .val A, .val PA] = .ok (.v (.bl true)) x7)
  (o4 : F_L_operations [.val (.lst [.str "+", .str "-", .str "*"]), .val A, .val PA, .val (.int w), .val (.tup [.int w, .int 1])] = .ok (.v (.bl true)) x8)
  (r1 : F_L_order [.val A, .val PA, .val B, .val PB] = .ok (.v (.bl true)) x9)
  (r2 : F_L_order [.val B, .val PB, .val A, .val PA] = .ok (.v (.bl true)) x10)
  (r3 : F_L_order [.val A, .val PA, .val A, .val PA] = .ok (.v (.bl true)) x11)
  (r4 : F_L_order [.val B, .val PB, .val (rt w 1), .val (.tup [.int w, .int 1])] = .ok (.v (.bl true)) x12)
  (b1 : F_L_back [.val A, .val PA, .val B, .val PB] = .ok (.v (.bl true)) x13)
  (b2 : F_L_back [.val B, .val PB, .val A, .val PA] = .ok (.v (.bl true)) x14)
  (t : F_L_totals [.own true (iD ds), .val PA, .val PB] = .ok (.v (.bl true)) (S :: x15))
  (l1 : F_L_told [.val (.str "+"), .val A, .val B] = .ok (.v (.tup l)) x16)
  (l2 : F_L_result [.val (.str "+"), .val PA, .val PB] = .ok (.v (.tup l)) x17)
  (l3 : gEq (.tup l) (.tup l) = some (.bl true))
  (c3 : gCut (.lst [.str "+", .str "-", .str "*", .str "/"]) none (some 3) = some (.lst [.str "+", .str "-", .str "*"])) (hR : LawOk (RQ [S0, .own false (iD ds), S2, .val PA, .val PB, .val (.int w), .val A, .val B, .val (rt w 1), .val (.bl false), .val (.lst [.str "+", .str "-", .str "*", .str "/"])])) : LawOk ((sSeq (sIf (fNot (fTru (fCallR 5 F_L_operations (xV (fVar 10) (xV (fVar 6) (xV (fVar 3) (xV (fVar 6) (xV (fVar 3) xNil))))) rvD))) (sRet (fC (.bl false))) sNil) (sSeq (sIf (fNot (fTru (fCallR 5 F_L_operations (xV (fCut (fVar 10) (fun _ => some none) (fun E => intP ((fun _ => some (.int 3)) E))) (xV (fVar 6) (xV (fVar 3) (xV (fVar 5) (xV (fTup (fCons (fVar 5) (fCons (fC (.int 1)) fNil))) xNil))))) rvD))) (sRet (fC (.bl false))) sNil) (sSeq (sIf (fNot (fTru (fCallR 4 F_L_order (xV (fVar 6) (xV (fVar 3) (xV (fVar 7) (xV (fVar 4) xNil)))) rvD))) (sRet (fC (.bl false))) sNil) (sSeq (sIf (fNot (fTru (fCallR 4 F_L_order (xV (fVar 7) (xV (fVar 4) (xV (fVar 6) (xV (fVar 3) xNil)))) rvD))) (sRet (fC (.bl false))) sNil) (sSeq (sIf (fNot (fTru (fCallR 4 F_L_order (xV (fVar 6) (xV (fVar 3) (xV (fVar 6) (xV (fVar 3) xNil)))) rvD))) (sRet (fC (.bl false))) sNil) (sSeq (sIf (fNot (fTru (fCallR 4 F_L_order (xV (fVar 7) (xV (fVar 4) (xV (fVar 8) (xV (fTup (fCons (fVar 5) (fCons (fC (.int 1)) fNil))) xNil)))) rvD))) (sRet (fC (.bl false))) sNil) RQ)))))) [S0, .own false (iD ds), S2, .val PA, .val PB, .val (.int w), .val A, .val B, .val (rt w 1), .val (.bl false), .val (.lst [.str "+", .str "-", .str "*", .str "/"])]) := by
  simp [ownsA, ndA, argS, backE, intP, o3, o4, r1, r2, r3, r4, c3]
  exact hR
theorem law_B3 (S0 S2 S : Sl) (ds : List Int) (A B PA PB : J.D) (l : List J.D) (x1 x2 x3 x4 x5 x6 x7 x8 x9 x10 x11 x12 x13 x14 x15 x16 x17 x18 : J.Env)
  (s1 : F_L_single [.val A, .val PA] = .ok (.v (.bl true)) x1) (s2 : F_L_single [.val B, .val PB] = .ok (.v (.bl true)) x2)
  (q : F_M_Ratio_eq [.val (rt w 1), .val (.int w)] = .ok (.v (.bl false)) x3)
  (p : F_L_pair [.val (rt w 1)] = .ok (.v (.tup [.str "ratio", .int w, .int 1])) x4)
  (ne : gNe (.tup [.str "ratio", .int w, .int 1]) (.tup [.str "ratio", .int w, .int 1]) = some (.bl false))
  (o1 : F_L_operations [.val (.lst [.str "+", .str "-", .str "*", .str "/"]), .val A, .val PA, .val B, .val PB] = .ok (.v (.bl true)) x5)
  (o2 : F_L_operations [.val (.lst [.str "+", .str "-", .str "*", .str "/"]), .val B, .val PB, .val A, .val PA] = .ok (.v (.bl true)) x6)
  (o3 : F_L_operations [.val (.lst [.str "+", .str "-", .str "*", .str "/"]), .val A, .val PA, .val A, .val PA] = .ok (.v (.bl true)) x7)
  (o4 : F_L_operations [.val (.lst [.str "+", .str "-", .str "*"]), .val A, .val PA, .val (.int w), .val (.tup [.int w, .int 1])] = .ok (.v (.bl true)) x8)
  (r1 : F_L_order [.val A, .val PA, .val B, .val PB] = .ok (.v (.bl true)) x9)
  (r2 : F_L_order [.val B, .val PB, .val A, .val PA] = .ok (.v (.bl true)) x10)
  (r3 : F_L_order [.val A, .val PA, .val A, .val PA] = .ok (.v (.bl true)) x11)
  (r4 : F_L_order [.val B, .val PB, .val (rt w 1), .val (.tup [.int w, .int 1])] = .ok (.v (.bl true)) x12)
  (b1 : F_L_back [.val A, .val PA, .val B, .val PB] = .ok (.v (.bl true)) x13)
  (b2 : F_L_back [.val B, .val PB, .val A, .val PA] = .ok (.v (.bl true)) x14)
  (t : F_L_totals [.own true (iD ds), .val PA, .val PB] = .ok (.v (.bl true)) (S :: x15))
  (l1 : F_L_told [.val (.str "+"), .val A, .val B] = .ok (.v (.tup l)) x16)
  (l2 : F_L_result [.val (.str "+"), .val PA, .val PB] = .ok (.v (.tup l)) x17)
  (l3 : gEq (.tup l) (.tup l) = some (.bl true))
  (c3 : gCut (.lst [.str "+", .str "-", .str "*", .str "/"]) none (some 3) = some (.lst [.str "+", .str "-", .str "*"])) : LawOk ((sSeq (sIf (fNot (fTru (fCallR 4 F_L_back (xV (fVar 6) (xV (fVar 3) (xV (fVar 7) (xV (fVar 4) xNil)))) rvD))) (sRet (fC (.bl false))) sNil) (sSeq (sIf (fNot (fTru (fCallR 4 F_L_back (xV (fVar 7) (xV (fVar 4) (xV (fVar 6) (xV (fVar 3) xNil)))) rvD))) (sRet (fC (.bl false))) sNil) (sSeq (sIf (fNot (fTru (fCallR 3 F_L_totals (xO 1 (xV (fVar 3) (xV (fVar 4) xNil))) rvD))) (sRet (fC (.bl false))) sNil) (sSeq (sIf (fOr (fNot (fTru (fCallR 2 F_L_single (xV (fVar 6) (xV (fVar 3) xNil)) rvD))) (fNot (fTru (fCallR 2 F_L_single (xV (fVar 7) (xV (fVar 4) xNil)) rvD)))) (sRet (fC (.bl false))) sNil) (sRet (fBin T_eq_eq gEq (fCallR 3 F_L_told (xV (fC (.str "+")) (xV (fVar 6) (xV (fVar 7) xNil))) rvD) (fCallR 3 F_L_result (xV (fC (.str "+")) (xV (fVar 3) (xV (fVar 4) xNil))) rvD))))))) [S0, .own false (iD ds), S2, .val PA, .val PB, .val (.int w), .val A, .val B, .val (rt w 1), .val (.bl false), .val (.lst [.str "+", .str "-", .str "*", .str "/"])]) := by
  simp [ownsA, ndA, argS, backE, s1, s2, b1, b2, t, l1, l2, l3]
  exact ⟨_, rfl⟩
theorem law_B0 (S0 S2 S : Sl) (ds : List Int) (A B PA PB : J.D) (l : List J.D) (x1 x2 x3 x4 x5 x6 x7 x8 x9 x10 x11 x12 x13 x14 x15 x16 x17 x18 : J.Env)
  (s1 : F_L_single [.val A, .val PA] = .ok (.v (.bl true)) x1) (s2 : F_L_single [.val B, .val PB] = .ok (.v (.bl true)) x2)
  (q : F_M_Ratio_eq [.val (rt w 1), .val (.int w)] = .ok (.v (.bl false)) x3)
  (p : F_L_pair [.val (rt w 1)] = .ok (.v (.tup [.str "ratio", .int w, .int 1])) x4)
  (ne : gNe (.tup [.str "ratio", .int w, .int 1]) (.tup [.str "ratio", .int w, .int 1]) = some (.bl false))
  (o1 : F_L_operations [.val (.lst [.str "+", .str "-", .str "*", .str "/"]), .val A, .val PA, .val B, .val PB] = .ok (.v (.bl true)) x5)
  (o2 : F_L_operations [.val (.lst [.str "+", .str "-", .str "*", .str "/"]), .val B, .val PB, .val A, .val PA] = .ok (.v (.bl true)) x6)
  (o3 : F_L_operations [.val (.lst [.str "+", .str "-", .str "*", .str "/"]), .val A, .val PA, .val A, .val PA] = .ok (.v (.bl true)) x7)
  (o4 : F_L_operations [.val (.lst [.str "+", .str "-", .str "*"]), .val A, .val PA, .val (.int w), .val (.tup [.int w, .int 1])] = .ok (.v (.bl true)) x8)
  (r1 : F_L_order [.val A, .val PA, .val B, .val PB] = .ok (.v (.bl true)) x9)
  (r2 : F_L_order [.val B, .val PB, .val A, .val PA] = .ok (.v (.bl true)) x10)
  (r3 : F_L_order [.val A, .val PA, .val A, .val PA] = .ok (.v (.bl true)) x11)
  (r4 : F_L_order [.val B, .val PB, .val (rt w 1), .val (.tup [.int w, .int 1])] = .ok (.v (.bl true)) x12)
  (b1 : F_L_back [.val A, .val PA, .val B, .val PB] = .ok (.v (.bl true)) x13)
  (b2 : F_L_back [.val B, .val PB, .val A, .val PA] = .ok (.v (.bl true)) x14)
  (t : F_L_totals [.own true (iD ds), .val PA, .val PB] = .ok (.v (.bl true)) (S :: x15))
  (l1 : F_L_told [.val (.str "+"), .val A, .val B] = .ok (.v (.tup l)) x16)
  (l2 : F_L_result [.val (.str "+"), .val PA, .val PB] = .ok (.v (.tup l)) x17)
  (l3 : gEq (.tup l) (.tup l) = some (.bl true))
  (c3 : gCut (.lst [.str "+", .str "-", .str "*", .str "/"]) none (some 3) = some (.lst [.str "+", .str "-", .str "*"])) : LawOk ((sSeq (sIf (fOr (fNot (fTru (fCallR 2 F_L_single (xV (fVar 6) (xV (fVar 3) xNil)) rvD))) (fNot (fTru (fCallR 2 F_L_single (xV (fVar 7) (xV (fVar 4) xNil)) rvD)))) (sRet (fC (.bl false))) sNil) (sSeq (sSet 9 (fBin T_eq_eq gEq (fVar 8) (fVar 5))) (sSeq (sIf (fOr (fTest (fop gNe (fCallR 1 F_L_pair (xV (fVar 8) xNil) rvD) (fTup (fCons (fC (.str "ratio")) (fCons (fVar 5) (fCons (fC (.int 1)) fNil)))))) (fTest (fun1 (isBl false true) (fVar 9)))) (sRet (fC (.bl false))) sNil) (sSeq (sSet 10 (fPub (fLst (fCons (fC (.str "+")) (fCons (fC (.str "-")) (fCons (fC (.str "*")) (fCons (fC (.str "/")) fNil))))))) (sSeq (sIf (fNot (fTru (fCallR 5 F_L_operations (xV (fVar 10) (xV (fVar 6) (xV (fVar 3) (xV (fVar 7) (xV (fVar 4) xNil))))) rvD))) (sRet (fC (.bl false))) sNil) (sSeq (sIf (fNot (fTru (fCallR 5 F_L_operations (xV (fVar 10) (xV (fVar 7) (xV (fVar 4) (xV (fVar 6) (xV (fVar 3) xNil))))) rvD))) (sRet (fC (.bl false))) sNil) (sSeq (sIf (fNot (fTru (fCallR 5 F_L_operations (xV (fVar 10) (xV (fVar 6) (xV (fVar 3) (xV (fVar 6) (xV (fVar 3) xNil))))) rvD))) (sRet (fC (.bl false))) sNil) (sSeq (sIf (fNot (fTru (fCallR 5 F_L_operations (xV (fCut (fVar 10) (fun _ => some none) (fun E => intP ((fun _ => some (.int 3)) E))) (xV (fVar 6) (xV (fVar 3) (xV (fVar 5) (xV (fTup (fCons (fVar 5) (fCons (fC (.int 1)) fNil))) xNil))))) rvD))) (sRet (fC (.bl false))) sNil) (sSeq (sIf (fNot (fTru (fCallR 4 F_L_order (xV (fVar 6) (xV (fVar 3) (xV (fVar 7) (xV (fVar 4) xNil)))) rvD))) (sRet (fC (.bl false))) sNil) (sSeq (sIf (fNot (fTru (fCallR 4 F_L_order (xV (fVar 7) (xV (fVar 4) (xV (fVar 6) (xV (fVar 3) xNil)))) rvD))) (sRet (fC (.bl false))) sNil) (sSeq (sIf (fNot (fTru (fCallR 4 F_L_order (xV (fVar 6) (xV (fVar 3) (xV (fVar 6) (xV (fVar 3) xNil)))) rvD))) (sRet (fC (.bl false))) sNil) (sSeq (sIf (fNot (fTru (fCallR 4 F_L_order (xV (fVar 7) (xV (fVar 4) (xV (fVar 8) (xV (fTup (fCons (fVar 5) (fCons (fC (.int 1)) fNil))) xNil)))) rvD))) (sRet (fC (.bl false))) sNil) (sSeq (sIf (fNot (fTru (fCallR 4 F_L_back (xV (fVar 6) (xV (fVar 3) (xV (fVar 7) (xV (fVar 4) xNil)))) rvD))) (sRet (fC (.bl false))) sNil) (sSeq (sIf (fNot (fTru (fCallR 4 F_L_back (xV (fVar 7) (xV (fVar 4) (xV (fVar 6) (xV (fVar 3) xNil)))) rvD))) (sRet (fC (.bl false))) sNil) (sSeq (sIf (fNot (fTru (fCallR 3 F_L_totals (xO 1 (xV (fVar 3) (xV (fVar 4) xNil))) rvD))) (sRet (fC (.bl false))) sNil) (sSeq (sIf (fOr (fNot (fTru (fCallR 2 F_L_single (xV (fVar 6) (xV (fVar 3) xNil)) rvD))) (fNot (fTru (fCallR 2 F_L_single (xV (fVar 7) (xV (fVar 4) xNil)) rvD)))) (sRet (fC (.bl false))) sNil) (sRet (fBin T_eq_eq gEq (fCallR 3 F_L_told (xV (fC (.str "+")) (xV (fVar 6) (xV (fVar 7) xNil))) rvD) (fCallR 3 F_L_result (xV (fC (.str "+")) (xV (fVar 3) (xV (fVar 4) xNil))) rvD))))))))))))))))))) [S0, .own false (iD ds), S2, .val PA, .val PB, .val (.int w), .val A, .val B, .val (rt w 1), .no, .no]) := law_B1 _ S0 S2 S ds A B PA PB l x1 x2 x3 x4 x5 x6 x7 x8 x9 x10 x11 x12 x13 x14 x15 x16 x17 x18 s1 s2 q p ne o1 o2 o3 o4 r1 r2 r3 r4 b1 b2 t l1 l2 l3 c3 (law_B2 _ S0 S2 S ds A B PA PB l x1 x2 x3 x4 x5 x6 x7 x8 x9 x10 x11 x12 x13 x14 x15 x16 x17 x18 s1 s2 q p ne o1 o2 o3 o4 r1 r2 r3 r4 b1 b2 t l1 l2 l3 c3 (law_B3 S0 S2 S ds A B PA PB l x1 x2 x3 x4 x5 x6 x7 x8 x9 x10 x11 x12 x13 x14 x15 x16 x17 x18 s1 s2 q p ne o1 o2 o3 o4 r1 r2 r3 r4 b1 b2 t l1 l2 l3 c3))
theorem law_B (h : Fp N D) (k : Fp N2 D2) (hw : inB w) (S0 S2 : Sl) (ds : List Int) : LawOk ((sSeq (sIf (fOr (fNot (fTru (fCallR 2 F_L_single (xV (fVar 6) (xV (fVar 3) xNil)) rvD))) (fNot (fTru (fCallR 2 F_L_single (xV (fVar 7) (xV (fVar 4) xNil)) rvD)))) (sRet (fC (.bl false))) sNil) (sSeq (sSet 9 (fBin T_eq_eq gEq (fVar 8) (fVar 5))) (sSeq (sIf (fOr (fTest (fop gNe (fCallR 1 F_L_pair (xV (fVar 8) xNil) rvD) (fTup (fCons (fC (.str "ratio")) (fCons (fVar 5) (fCons (fC (.int 1)) fNil)))))) (fTest (fun1 (isBl false true) (fVar 9)))) (sRet (fC (.bl false))) sNil) (sSeq (sSet 10 (fPub (fLst (fCons (fC (.str "+")) (fCons (fC (.str "-")) (fCons (fC (.str "*")) (fCons (fC (.str "/")) fNil))))))) (sSeq (sIf (fNot (fTru (fCallR 5 F_L_operations (xV (fVar 10) (xV (fVar 6) (xV (fVar 3) (xV (fVar 7) (xV (fVar 4) xNil))))) rvD))) (sRet (fC (.bl false))) sNil) (sSeq (sIf (fNot (fTru (fCallR 5 F_L_operations (xV (fVar 10) (xV (fVar 7) (xV (fVar 4) (xV (fVar 6) (xV (fVar 3) xNil))))) rvD))) (sRet (fC (.bl false))) sNil) (sSeq (sIf (fNot (fTru (fCallR 5 F_L_operations (xV (fVar 10) (xV (fVar 6) (xV (fVar 3) (xV (fVar 6) (xV (fVar 3) xNil))))) rvD))) (sRet (fC (.bl false))) sNil) (sSeq (sIf (fNot (fTru (fCallR 5 F_L_operations (xV (fCut (fVar 10) (fun _ => some none) (fun E => intP ((fun _ => some (.int 3)) E))) (xV (fVar 6) (xV (fVar 3) (xV (fVar 5) (xV (fTup (fCons (fVar 5) (fCons (fC (.int 1)) fNil))) xNil))))) rvD))) (sRet (fC (.bl false))) sNil) (sSeq (sIf (fNot (fTru (fCallR 4 F_L_order (xV (fVar 6) (xV (fVar 3) (xV (fVar 7) (xV (fVar 4) xNil)))) rvD))) (sRet (fC (.bl false))) sNil) (sSeq (sIf (fNot (fTru (fCallR 4 F_L_order (xV (fVar 7) (xV (fVar 4) (xV (fVar 6) (xV (fVar 3) xNil)))) rvD))) (sRet (fC (.bl false))) sNil) (sSeq (sIf (fNot (fTru (fCallR 4 F_L_order (xV (fVar 6) (xV (fVar 3) (xV (fVar 6) (xV (fVar 3) xNil)))) rvD))) (sRet (fC (.bl false))) sNil) (sSeq (sIf (fNot (fTru (fCallR 4 F_L_order (xV (fVar 7) (xV (fVar 4) (xV (fVar 8) (xV (fTup (fCons (fVar 5) (fCons (fC (.int 1)) fNil))) xNil)))) rvD))) (sRet (fC (.bl false))) sNil) (sSeq (sIf (fNot (fTru (fCallR 4 F_L_back (xV (fVar 6) (xV (fVar 3) (xV (fVar 7) (xV (fVar 4) xNil)))) rvD))) (sRet (fC (.bl false))) sNil) (sSeq (sIf (fNot (fTru (fCallR 4 F_L_back (xV (fVar 7) (xV (fVar 4) (xV (fVar 6) (xV (fVar 3) xNil)))) rvD))) (sRet (fC (.bl false))) sNil) (sSeq (sIf (fNot (fTru (fCallR 3 F_L_totals (xO 1 (xV (fVar 3) (xV (fVar 4) xNil))) rvD))) (sRet (fC (.bl false))) sNil) (sSeq (sIf (fOr (fNot (fTru (fCallR 2 F_L_single (xV (fVar 6) (xV (fVar 3) xNil)) rvD))) (fNot (fTru (fCallR 2 F_L_single (xV (fVar 7) (xV (fVar 4) xNil)) rvD)))) (sRet (fC (.bl false))) sNil) (sRet (fBin T_eq_eq gEq (fCallR 3 F_L_told (xV (fC (.str "+")) (xV (fVar 6) (xV (fVar 7) xNil))) rvD) (fCallR 3 F_L_result (xV (fC (.str "+")) (xV (fVar 3) (xV (fVar 4) xNil))) rvD))))))))))))))))))) (LawS S0 S2 ds N D N2 D2 w)) := by
  obtain ⟨_, s1⟩ := p_single h
  obtain ⟨_, s2⟩ := p_single k
  have q := e_eqI (n := w) (d := 1) w
  have p := e_pair w 1
  have ne := ne_same (Fl.rat w 1) (by decide)
  obtain ⟨_, o1⟩ := p_ops4 h k
  obtain ⟨_, o2⟩ := p_ops4 k h
  obtain ⟨_, o3⟩ := p_ops4 h h
  obtain ⟨_, o4⟩ := p_ops3 h hw
  obtain ⟨_, r1⟩ := p_order h k
  obtain ⟨_, r2⟩ := p_order k h
  obtain ⟨_, r3⟩ := p_order h h
  obtain ⟨_, r4⟩ := p_order1 k hw
  obtain ⟨_, b1⟩ := p_back h k
  obtain ⟨_, b2⟩ := p_back k h
  obtain ⟨S, _, t⟩ := p_totals h k ds
  obtain ⟨l, _, _, l1, l2, l3⟩ := p_last h k
  exact law_B0 S0 S2 S ds _ _ _ _ l _ _ _ _ _ _ _ _ _ _ _ _ _ _ _ _ _ [] s1 s2 q p ne o1 o2 o3 o4 r1 r2 r3 r4 b1 b2 t l1 l2 l3 cut3
end
def lawR : J.Env → RS := (sSeq (sIf (fOr (fNot (fTru (fCallR 2 F_L_single (xV (fVar 6) (xV (fVar 3) xNil)) rvD))) (fNot (fTru (fCallR 2 F_L_single (xV (fVar 7) (xV (fVar 4) xNil)) rvD)))) (sRet (fC (.bl false))) sNil) (sSeq (sSet 9 (fBin T_eq_eq gEq (fVar 8) (fVar 5))) (sSeq (sIf (fOr (fTest (fop gNe (fCallR 1 F_L_pair (xV (fVar 8) xNil) rvD) (fTup (fCons (fC (.str "ratio")) (fCons (fVar 5) (fCons (fC (.int 1)) fNil)))))) (fTest (fun1 (isBl false true) (fVar 9)))) (sRet (fC (.bl false))) sNil) (sSeq (sSet 10 (fPub (fLst (fCons (fC (.str "+")) (fCons (fC (.str "-")) (fCons (fC (.str "*")) (fCons (fC (.str "/")) fNil))))))) (sSeq (sIf (fNot (fTru (fCallR 5 F_L_operations (xV (fVar 10) (xV (fVar 6) (xV (fVar 3) (xV (fVar 7) (xV (fVar 4) xNil))))) rvD))) (sRet (fC (.bl false))) sNil) (sSeq (sIf (fNot (fTru (fCallR 5 F_L_operations (xV (fVar 10) (xV (fVar 7) (xV (fVar 4) (xV (fVar 6) (xV (fVar 3) xNil))))) rvD))) (sRet (fC (.bl false))) sNil) (sSeq (sIf (fNot (fTru (fCallR 5 F_L_operations (xV (fVar 10) (xV (fVar 6) (xV (fVar 3) (xV (fVar 6) (xV (fVar 3) xNil))))) rvD))) (sRet (fC (.bl false))) sNil) (sSeq (sIf (fNot (fTru (fCallR 5 F_L_operations (xV (fCut (fVar 10) (fun _ => some none) (fun E => intP ((fun _ => some (.int 3)) E))) (xV (fVar 6) (xV (fVar 3) (xV (fVar 5) (xV (fTup (fCons (fVar 5) (fCons (fC (.int 1)) fNil))) xNil))))) rvD))) (sRet (fC (.bl false))) sNil) (sSeq (sIf (fNot (fTru (fCallR 4 F_L_order (xV (fVar 6) (xV (fVar 3) (xV (fVar 7) (xV (fVar 4) xNil)))) rvD))) (sRet (fC (.bl false))) sNil) (sSeq (sIf (fNot (fTru (fCallR 4 F_L_order (xV (fVar 7) (xV (fVar 4) (xV (fVar 6) (xV (fVar 3) xNil)))) rvD))) (sRet (fC (.bl false))) sNil) (sSeq (sIf (fNot (fTru (fCallR 4 F_L_order (xV (fVar 6) (xV (fVar 3) (xV (fVar 6) (xV (fVar 3) xNil)))) rvD))) (sRet (fC (.bl false))) sNil) (sSeq (sIf (fNot (fTru (fCallR 4 F_L_order (xV (fVar 7) (xV (fVar 4) (xV (fVar 8) (xV (fTup (fCons (fVar 5) (fCons (fC (.int 1)) fNil))) xNil)))) rvD))) (sRet (fC (.bl false))) sNil) (sSeq (sIf (fNot (fTru (fCallR 4 F_L_back (xV (fVar 6) (xV (fVar 3) (xV (fVar 7) (xV (fVar 4) xNil)))) rvD))) (sRet (fC (.bl false))) sNil) (sSeq (sIf (fNot (fTru (fCallR 4 F_L_back (xV (fVar 7) (xV (fVar 4) (xV (fVar 6) (xV (fVar 3) xNil)))) rvD))) (sRet (fC (.bl false))) sNil) (sSeq (sIf (fNot (fTru (fCallR 3 F_L_totals (xO 1 (xV (fVar 3) (xV (fVar 4) xNil))) rvD))) (sRet (fC (.bl false))) sNil) (sSeq (sIf (fOr (fNot (fTru (fCallR 2 F_L_single (xV (fVar 6) (xV (fVar 3) xNil)) rvD))) (fNot (fTru (fCallR 2 F_L_single (xV (fVar 7) (xV (fVar 4) xNil)) rvD)))) (sRet (fC (.bl false))) sNil) (sRet (fBin T_eq_eq gEq (fCallR 3 F_L_told (xV (fC (.str "+")) (xV (fVar 6) (xV (fVar 7) xNil))) rvD) (fCallR 3 F_L_result (xV (fC (.str "+")) (xV (fVar 3) (xV (fVar 4) xNil))) rvD)))))))))))))))))))
theorem law_eq : f_law = (sSeq (sIf (fOr (fNot (fTru (fCallR 1 F_L_int (xV (fC (.int gi_MOST)) xNil) rvD))) (fTest (fop gNe (fC (.int gi_MOST)) (fop gPowP (fop gPowP (fC (.int 10)) (fC (.int 50))) (fC (.int 40)))))) (sRet (fC (.bl false))) sNil) (sSeq (sSetL 1 (fCallR 1 F_L_tape (xV (fVar 0) xNil) rvL)) (sSeq (sSet 2 (fCallR 2 F_L_signed (xO 1 (xV (fC (.int 2)) xNil)) rvD)) (sSeq (sSet 3 (fTup (fCons (fVar 2) (fCons (fop gMax2 (fC (.int 1)) (fCallR 2 F_L_number (xO 1 (xV (fC (.int 4)) xNil)) rvD)) fNil)))) (sSeq (sSet 2 (fCallR 2 F_L_signed (xO 1 (xV (fC (.int 5)) xNil)) rvD)) (sSeq (sSet 4 (fTup (fCons (fVar 2) (fCons (fop gMax2 (fC (.int 1)) (fCallR 2 F_L_number (xO 1 (xV (fC (.int 1)) xNil)) rvD)) fNil)))) (sSeq (sSet 5 (fCallR 2 F_L_signed (xO 1 (xV (fC (.int 3)) xNil)) rvD)) (sSeq (sSet 6 (fMake "Ratio" 3 F_M_Ratio_init [] (xV (fop gIx (fVar 3) (fC (.int 0))) (xV (fop gIx (fVar 3) (fC (.int 1))) xNil)))) (sSeq (sSet 7 (fMake "Ratio" 3 F_M_Ratio_init [] (xV (fop gIx (fVar 4) (fC (.int 0))) (xV (fop gIx (fVar 4) (fC (.int 1))) xNil)))) (sSeq (sSet 8 (fMake "Ratio" 3 F_M_Ratio_init [.int 1] (xV (fVar 5) xNil))) (lawR))))))))))) := rfl
theorem pure_law : ∀ ns : List Int, ns.length ≤ 63 → ∃ E', F_law [.val (.rol (ns.map J.D.int))] = .ok (.v (.bl true)) E' := by
  intro ns _
  have e := law_A ns lawR (fun S0 S2 ds N D N2 D2 w h k hw => law_B h k hw S0 S2 ds)
  rw [← law_eq] at e
  obtain ⟨E', e⟩ := e
  exact ⟨E', runF_rt (n := 11) (f := f_law) rfl e⟩
end Lw

namespace J
open PySem PySem.Spec PyProof.Rows L2
/-! ### the end -/
theorem law_sp {K : PySem.W.Frag} (hp : ∀ ns : List Int, ns.length ≤ 63 → ∃ E', Lw.F_law [.val (.rol (ns.map D.int))] = .ok (.v (.bl true)) E') (H : Hp) (a : Addr) (ns : List Int) (hl : ns.length ≤ 63) (hS : SqL K H a (ns.map V.int)) : spJ K 1 Lw.F_law [.ref a] H (fun v _ => v = .bl true) fun _ _ _ => False := by
  refine ⟨rfl, ⟨fun _ => none, fun _ => 0⟩, H, [.val (.rol (ns.map D.int))], ⟨rfl, fun i s h => ?_, Ex.refl H, (fun a o h => by cases h), (fun a h => absurd rfl h), fun i s b p h hb => ?_, fun i j s s' b b' p h hb => ?_⟩, ?_⟩
  · cases i with
    | zero => simp at h; subst h; exact ⟨_, rfl, _, rfl, .rol hS (RpA.ints ns)⟩
    | succ i => simp at h
  · cases i with
    | zero => simp at h; subst h; cases hb
    | succ i => simp at h
  · cases i with
    | zero => simp at h; subst h; cases hb
    | succ i => simp at h
  · obtain ⟨E', e⟩ := hp ns hl
    rw [e]
    exact fun G' H' v _ _ r => by cases r; rfl
theorem FnOk_cx {P : Program} {w : World} {K : PySem.W.Frag} {mg : Str → Option Value} {base : Heap} {C1 C2 : CXT} {k : Nat} {f : Addr} {fd : FuncData} {ps : List Str} {sp : Sp} (F : FnOk P w K mg base C1 k f fd ps sp) (h : ∀ o H s E u s', C1 o H s E u s' → C2 o H s E u s') : FnOk P w K mg base C2 k f fd ps sp :=
  ⟨F.len, fun A outer s H args us vs Q E hr e0 hb hv hs => codeAny_mono (F.run A outer s H args us vs Q E hr e0 hb hv hs) fun r s' hq => by
    cases r with
    | error e => exact h _ _ _ _ _ _ hq
    | ok fl => cases fl <;> exact hq⟩
def CxAny (P : Program) : CXT := fun o H s E u s' => ∃ w, L2N.CX P w o H s E u s'
theorem CxAny_none {P : Program} (H : Hp) (s : Shared) (e : Value) (s' : Shared) : CxAny P [] H s (fun _ _ _ => False) e s' → False := by
  rintro ⟨w, a, B, H', cls, d, _, _, _, _, _, _, _, h⟩
  exact h
end J
open PySem PySem.W PySem.Calls PyProof.Rows
theorem PySem.Challenge.cw_nodearer_k01_ratio_arithmetic_holds : PySem.Challenge.rw_nodearer_k01_ratio_arithmetic.Holds := by
  w_on; o_law
  refine HandSHeadRun.head_imp (r := OpenLaw.row PySem.Challenge.rw_nodearer_k01_ratio_arithmetic) (q := view (OpenLaw.row PySem.Challenge.rw_nodearer_k01_ratio_arithmetic).prog [0, 39]) (H := Lw.hk) (ob := Lw.ob) (M := 4000) (loose := Lw.loose) (d := HandSHeadRun.topDef (OpenLaw.row PySem.Challenge.rw_nodearer_k01_ratio_arithmetic).prog 39) (kwd := []) Lw.ob_eq Lw.run (by kernel_rfl) (by kernel_rfl) (by kernel_rfl) (by rfl) (by first | assumption | decide +kernel) (by decide +kernel) ⟨rfl, rfl, rfl, rfl, rfl, by decide +kernel⟩ ?wit ?call
  case wit => w_witness2
  case call =>
    refine L2.walk_ofE (l := PySem.Challenge.rw_nodearer_k01_ratio_arithmetic) (n := 63) (k := 10) (x := "_law_script") (CX := J.CxAny (PySem.Challenge.rw_nodearer_k01_ratio_arithmetic).prog) rfl (by decide) (by kernel_rfl) ⟨rfl, by decide, by decide⟩ ?F J.CxAny_none
    intro w mg fa h Y G hmg0
    obtain ⟨K, KX, c⟩ := Y
    have hmg : mg ("law" : PySem.Str) = some (.ref fa) := by
      have e : (HandSHeadRun.topDef (OpenLaw.row PySem.Challenge.rw_nodearer_k01_ratio_arithmetic).prog 39).name = ("law" : PySem.Str) := by kernel_rfl
      rw [← e]
      exact hmg0
    obtain ⟨fd, hb, hF⟩ := Lw.facts (P := (PySem.Challenge.rw_nodearer_k01_ratio_arithmetic).prog) (w := w) KX G hmg c rfl (by kernel_rfl)
    exact ⟨K, fd, J.spJ K 1 Lw.F_law, KX, hb, fun H a ns hl _ hS => J.law_sp Lw.pure_law H a ns hl hS, fun base _ _ => J.FnOk_cx (hF base) fun o H s E u s' q => ⟨w, q⟩⟩
