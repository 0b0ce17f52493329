import PyProof.Rows.All
import Wide.All
import OpenK.AllK
import Wide.FinOn
import KE.KStateDown
import HandS.ForExc
import HandS.Comp
import HandS.Iter
import HandS.Rev
import HandS.Zip
import HandS.Dict
import HandS.Text
import HandS.More
import HandS.Sort
import HandS.Strs
import HandS.SetFor
import HandS.Conv
import HandS.Wide
import HandS.WideBits
import HandS.IsInst
import HandS.ExcIs
import HandS.ExcInit
import HandS.TupLe
import HandS.TupAny
import HandS.Style
import HandS.CallSlots
import HandS.Defaults
import HandS.TryMany
import HandS.HotCalls
import HandS.ExcInitHot
import HandS.ExcField
import KE.KExcSuper
import HandS.SortInts
import HandS.Head0
import HandS.Head1
import HandS.Head2
import HandS.HeadEnd
import HandS.HeadHook1
import HandS.HeadHook2
import KE.LtData
import KE.KMathG
import KE.KOpsOwn
import HandS.Gcd
import HandS.ClsMeth
import HandS.OwnEq
import HandS.HeadNt
import PyProof.Rows.StrOr
import KE.KCallOwn
import KE.KIntText
import HandS.FStr
import PyProof.StrLawsIn
import PyProof.Rows.StrMul
import PyProof.NoPylong
import PyProof.Calls
import HandS.Head3
import KE.IntTextText
import PyProof.StrBlock2
import PySem.Challenge.RW_nodearer_k02_ratio_text_and_bounds
set_option Elab.async false
set_option linter.all false
set_option maxRecDepth 100000
set_option maxHeartbeats 0
namespace J
open PySem PySem.Spec PyProof.Rows L2

/-! ### plain data, slots, results -/
abbrev St := L2.St
inductive D where
  | non | bl (b : Bool) | int (i : Int) | str (x : Str) | tup (l : List D) | lst (l : List D) | rol (l : List D) | ins (c : Str) (ns : List Str) (ds : List D)
inductive Sl where
  | no | val (d : D) | own (b : Bool) (l : List D) | obj (b : Bool) (c : Str) (ns : List Str) (ds : List D)
/-- is it this frame's own; inout? -/
def Sl.ow : Sl → Option Bool
  | .own b _ => some b
  | .obj b _ _ _ => some b
  | _ => none
abbrev Env := List Sl
structure Exn where
  c : Str
  ns : List Str
  ds : List D
inductive R (α : Type) where
  | ok (a : α) (E : Env)
  | exc (x : Exn) (E : Env)
  | stuck
inductive RV where
  | v (d : D)
  | l (l : List D)
inductive RS where
  | nx (E : Env)
  | rt (r : RV) (E : Env)
  | bk (E : Env)
  | ct (E : Env)
  | exc (x : Exn) (E : Env)
  | stuck
def R.bind {α β : Type} (m : R α) (k : α → Env → R β) : R β := match m with
  | .ok a E => k a E
  | .exc x E => .exc x E
  | .stuck => .stuck
def R.bindS {α : Type} (m : R α) (k : α → Env → RS) : RS := match m with
  | .ok a E => k a E
  | .exc x E => .exc x E
  | .stuck => .stuck
def RS.seq (m : RS) (k : Env → RS) : RS := match m with
  | .nx E => k E
  | r => r
@[simp] theorem R.bind_ok {α β : Type} (a : α) (E : Env) (k : α → Env → R β) : (R.ok a E).bind k = k a E := rfl
@[simp] theorem R.bind_exc {α β : Type} (x : Exn) (E : Env) (k : α → Env → R β) : (R.exc x E : R α).bind k = .exc x E := rfl
@[simp] theorem R.bind_stuck {α β : Type} (k : α → Env → R β) : (R.stuck : R α).bind k = .stuck := rfl
@[simp] theorem R.bindS_ok {α : Type} (a : α) (E : Env) (k : α → Env → RS) : (R.ok a E).bindS k = k a E := rfl
@[simp] theorem R.bindS_exc {α : Type} (x : Exn) (E : Env) (k : α → Env → RS) : (R.exc x E : R α).bindS k = .exc x E := rfl
@[simp] theorem R.bindS_stuck {α : Type} (k : α → Env → RS) : (R.stuck : R α).bindS k = .stuck := rfl
@[simp] theorem RS.seq_nx (E : Env) (k : Env → RS) : (RS.nx E).seq k = k E := rfl
@[simp] theorem RS.seq_rt (r : RV) (E : Env) (k : Env → RS) : (RS.rt r E).seq k = .rt r E := rfl
@[simp] theorem RS.seq_bk (E : Env) (k : Env → RS) : (RS.bk E).seq k = .bk E := rfl
@[simp] theorem RS.seq_ct (E : Env) (k : Env → RS) : (RS.ct E).seq k = .ct E := rfl
@[simp] theorem RS.seq_exc (x : Exn) (E : Env) (k : Env → RS) : (RS.exc x E).seq k = .exc x E := rfl
@[simp] theorem RS.seq_stuck (k : Env → RS) : RS.stuck.seq k = .stuck := rfl
theorem R.bind_assoc {α β γ : Type} (m : R α) (k : α → Env → R β) (k' : β → Env → R γ) : (m.bind k).bind k' = m.bind fun a E => (k a E).bind k' := by cases m <;> rfl
theorem R.bind_bindS {α β : Type} (m : R α) (k : α → Env → R β) (k' : β → Env → RS) : (m.bind k).bindS k' = m.bindS fun a E => (k a E).bindS k' := by cases m <;> rfl

/-! ### heaps -/
def Ex (H H' : Hp) : Prop := ∀ a o, H a = some o → H' a = some o
theorem Ex.refl (H : Hp) : Ex H H := fun _ _ h => h
theorem Ex.trans {H H1 H2 : Hp} (a : Ex H H1) (b : Ex H1 H2) : Ex H H2 := fun x o h => b x o (a x o h)
theorem Ex.new {H : Hp} {p : Addr} {o : HO} (h : H p = none) : Ex H (upd H p o) := fun a u e => by
  rw [upd_ne (ne_of_none e h)]; exact e
theorem Ex.back {H H' : Hp} {p : Addr} (e : Ex H H') (h : H' p = none) : H p = none := by
  cases h1 : H p with
  | none => rfl
  | some o => rw [e p o h1] at h; cases h
/-- the small one grows where the great one has grown -/
theorem Ex.both {G H : Hp} {p : Addr} {o : HO} (e : Ex G H) : Ex (upd G p o) (upd H p o) := fun a u h => by
  by_cases ha : a = p
  · subst ha; rw [upd_same] at h ⊢; exact h
  · rw [upd_ne ha] at h ⊢; exact e a u h
theorem Ex.mut {G H : Hp} {p : Addr} {o : HO} (e : Ex G H) (h : G p = none) : Ex G (upd H p o) := fun a u ha => by
  rw [upd_ne (ne_of_none ha h)]; exact e a u ha
theorem Ex.rd {H H' : Hp} {a : Addr} {u : HO} (e : Ex H H') (h : Rd H a u) : Rd H' a u := by
  rcases h with h | ⟨o, h⟩
  · exact .inl (e a _ h)
  · exact .inr ⟨o, e a _ h⟩
theorem Ex.sl {K : PySem.W.Frag} {H H' : Hp} {a : Addr} {xs : List V} (e : Ex H H') (h : SqL K H a xs) : SqL K H' a xs := by
  rcases h with h | h
  · exact .inl (e.rd h)
  · exact .inr h
theorem Ex.st {K : PySem.W.Frag} {H H' : Hp} {a : Addr} {xs : List V} (e : Ex H H') (h : SqT K H a xs) : SqT K H' a xs := by
  rcases h with h | h
  · exact .inl (e.rd h)
  · exact .inr h

/-! ### what a value stands for -/
mutual
inductive Rp (K : PySem.W.Frag) (G : Hp) : V → D → Prop
  | non : Rp K G .non .non
  | bl (b : Bool) : Rp K G (.bl b) (.bl b)
  | int (i : Int) : Rp K G (.int i) (.int i)
  | str (x : Str) : Rp K G (.str x) (.str x)
  | tup {a : Addr} {vs : List V} {ds : List D} : SqT K G a vs → RpA K G vs ds → Rp K G (.ref a) (.tup ds)
  | lst {a : Addr} {vs : List V} {ds : List D} : G a = some (.lst vs) → RpA K G vs ds → Rp K G (.ref a) (.lst ds)
  | rol {a : Addr} {vs : List V} {ds : List D} : SqL K G a vs → RpA K G vs ds → Rp K G (.ref a) (.rol ds)
  | ins {a dx : Addr} {c : Str} {ns : List Str} {vs : List V} {ds : List D} : G a = some (.ins (He.ga K c) dx (ns.zip vs)) → vs.length = ns.length → RpA K G vs ds → Rp K G (.ref a) (.ins c ns ds)
inductive RpA (K : PySem.W.Frag) (G : Hp) : List V → List D → Prop
  | nil : RpA K G [] []
  | cons {v : V} {vs : List V} {d : D} {ds : List D} : Rp K G v d → RpA K G vs ds → RpA K G (v :: vs) (d :: ds)
end
section
variable {K : PySem.W.Frag} {G G' : Hp}
mutual
theorem Rp.mono (e : Ex G G') : ∀ (d : D) {v : V}, Rp K G v d → Rp K G' v d
  | .non, _, h => by cases h; exact .non
  | .bl b, _, h => by cases h; exact .bl b
  | .int b, _, h => by cases h; exact .int b
  | .str b, _, h => by cases h; exact .str b
  | .tup ds, _, h => by
    cases h with
    | tup h1 h2 => exact .tup (e.st h1) (RpA.mono e ds h2)
  | .lst ds, _, h => by
    cases h with
    | lst h1 h2 => exact .lst (e _ _ h1) (RpA.mono e ds h2)
  | .rol ds, _, h => by
    cases h with
    | rol h1 h2 => exact .rol (e.sl h1) (RpA.mono e ds h2)
  | .ins c ns ds, _, h => by
    cases h with
    | ins h1 h2 h3 => exact .ins (e _ _ h1) h2 (RpA.mono e ds h3)
theorem RpA.mono (e : Ex G G') : ∀ (ds : List D) {vs : List V}, RpA K G vs ds → RpA K G' vs ds
  | [], _, h => by cases h; exact .nil
  | d :: ds, _, h => by
    cases h with
    | cons h1 h2 => exact .cons (Rp.mono e d h1) (RpA.mono e ds h2)
end
theorem RpA.length {vs : List V} {ds : List D} (h : RpA K G vs ds) : vs.length = ds.length := by
  induction ds generalizing vs with
  | nil => cases h; rfl
  | cons d ds ih => cases h with | cons h1 h2 => simp [ih h2]
theorem RpA.get {vs : List V} {ds : List D} (h : RpA K G vs ds) : ∀ {i : Nat} {d : D}, ds[i]? = some d → ∃ v, vs[i]? = some v ∧ Rp K G v d := by
  induction ds generalizing vs with
  | nil => intro i d e; simp at e
  | cons d0 ds ih =>
    cases h with
    | cons h1 h2 =>
      intro i d e
      cases i with
      | zero => simp at e; subst e; exact ⟨_, rfl, h1⟩
      | succ i => simpa using ih h2 (by simpa using e)
theorem RpA.get' {vs : List V} {ds : List D} (h : RpA K G vs ds) {i : Nat} {v : V} (e : vs[i]? = some v) : ∃ d, ds[i]? = some d ∧ Rp K G v d := by
  have hl := h.length
  have hi : i < ds.length := by rw [← hl]; exact (List.getElem?_eq_some_iff.mp e).1
  obtain ⟨v', e', r⟩ := h.get (i := i) (d := ds[i]) (List.getElem?_eq_getElem hi)
  rw [e] at e'; cases e'
  exact ⟨_, List.getElem?_eq_getElem hi, r⟩
theorem RpA.append {vs ws : List V} {ds es : List D} (h : RpA K G vs ds) (h' : RpA K G ws es) : RpA K G (vs ++ ws) (ds ++ es) := by
  induction ds generalizing vs with
  | nil => cases h; exact h'
  | cons d ds ih => cases h with | cons h1 h2 => exact .cons h1 (ih h2)
theorem RpA.take {vs : List V} {ds : List D} (h : RpA K G vs ds) (n : Nat) : RpA K G (vs.take n) (ds.take n) := by
  induction ds generalizing vs n with
  | nil => cases h; simp; exact .nil
  | cons d ds ih =>
    cases h with
    | cons h1 h2 =>
      cases n with
      | zero => exact .nil
      | succ n => exact .cons h1 (ih h2 n)
theorem RpA.drop {vs : List V} {ds : List D} (h : RpA K G vs ds) (n : Nat) : RpA K G (vs.drop n) (ds.drop n) := by
  induction ds generalizing vs n with
  | nil => cases h; simp; exact .nil
  | cons d ds ih =>
    cases h with
    | cons h1 h2 =>
      cases n with
      | zero => exact .cons h1 h2
      | succ n => exact ih h2 n
theorem RpA.set {vs : List V} {ds : List D} (h : RpA K G vs ds) {v : V} {d : D} (r : Rp K G v d) (n : Nat) : RpA K G (vs.set n v) (ds.set n d) := by
  induction ds generalizing vs n with
  | nil => cases h; simp; exact .nil
  | cons d0 ds ih =>
    cases h with
    | cons h1 h2 =>
      cases n with
      | zero => exact .cons r h2
      | succ n => exact .cons h1 (ih h2 n)
theorem RpA.reverse {vs : List V} {ds : List D} (h : RpA K G vs ds) : RpA K G vs.reverse ds.reverse := by
  induction ds generalizing vs with
  | nil => cases h; exact .nil
  | cons d ds ih =>
    cases h with
    | cons h1 h2 => rw [List.reverse_cons, List.reverse_cons]; exact (ih h2).append (.cons h1 .nil)
theorem RpA.flat {vs : List V} {ds : List D} (h : RpA K G vs ds) (n : Nat) : RpA K G (List.replicate n vs).flatten (List.replicate n ds).flatten := by
  induction n with
  | zero => exact .nil
  | succ n ih => rw [List.replicate_succ, List.replicate_succ]; exact h.append ih
theorem RpA.ints (ns : List Int) : RpA K G (ns.map V.int) (ns.map D.int) := by
  induction ns with
  | nil => exact .nil
  | cons n ns ih => exact .cons (.int n) ih
theorem RpA.of_ints {vs : List V} {ns : List Int} (h : RpA K G vs (ns.map D.int)) : vs = ns.map V.int := by
  induction ns generalizing vs with
  | nil => cases h; rfl
  | cons n ns ih => cases h with | cons h1 h2 => cases h1; rw [List.map_cons, ih h2]
end

/-! ### the state -/
def SlOk (K : PySem.W.Frag) (G H : Hp) (x : Option V) : Sl → Prop
  | .no => True
  | .val d => ∃ v, x = some v ∧ Rp K G v d
  | .own _ l => ∃ p vs, x = some (.ref p) ∧ H p = some (.lst vs) ∧ RpA K G vs l
  | .obj _ c ns ds => ∃ p dx vs, x = some (.ref p) ∧ H p = some (.ins (He.ga K c) dx (ns.zip vs)) ∧ vs.length = ns.length ∧ RpA K G vs ds
/-- what a def leaves as it is; where its own things from outside stand -/
structure Fr where
  F : Hp
  io : Nat → Addr
structure Sat (K : PySem.W.Frag) (Φ : Fr) (G H : Hp) (σ : St) (E : Env) : Prop where
  len : σ.length = E.length
  sl : ∀ (i : Nat) (s : Sl), E[i]? = some s → ∃ x, σ[i]? = some x ∧ SlOk K G H x s
  gh : Ex G H
  fh : Ex Φ.F H
  fg : ∀ a, Φ.F a ≠ none → G a = none
  ow' : ∀ (i : Nat) (s : Sl) (b : Bool) (p : Addr), E[i]? = some s → s.ow = some b → σ[i]? = some (some (.ref p)) → G p = none ∧ Φ.F p = none ∧ (b = true → p = Φ.io i)
  di' : ∀ (i j : Nat) (s s' : Sl) (b b' : Bool) (p : Addr), E[i]? = some s → s.ow = some b → E[j]? = some s' → s'.ow = some b' → σ[i]? = some (some (.ref p)) → σ[j]? = some (some (.ref p)) → i = j
/-- p is no own thing's -/
def NotOwn (σ : St) (E : Env) (p : Addr) : Prop := ∀ (i : Nat) (s : Sl) (b : Bool), E[i]? = some s → s.ow = some b → σ[i]? ≠ some (some (.ref p))
section
variable {K : PySem.W.Frag} {Φ : Fr} {G G' H H' : Hp} {σ : St} {E : Env}
theorem Sat.ow (S : Sat K Φ G H σ E) (i : Nat) (b : Bool) (l : List D) (p : Addr) (h1 : E[i]? = some (.own b l)) (h2 : σ[i]? = some (some (.ref p))) : G p = none ∧ Φ.F p = none ∧ (b = true → p = Φ.io i) := S.ow' i _ b p h1 rfl h2
theorem Sat.di (S : Sat K Φ G H σ E) (i j : Nat) (b b' : Bool) (l l' : List D) (p : Addr) (h1 : E[i]? = some (.own b l)) (h2 : E[j]? = some (.own b' l')) (h3 : σ[i]? = some (some (.ref p))) (h4 : σ[j]? = some (some (.ref p))) : i = j := S.di' i j _ _ b b' p h1 rfl h2 rfl h3 h4
theorem SlOk.ad {x : Option V} {s : Sl} {b : Bool} (h : SlOk K G H x s) (hb : s.ow = some b) : ∃ p o, x = some (.ref p) ∧ H p = some o := by
  cases s with
  | no => cases hb
  | val d => cases hb
  | own b l => obtain ⟨p, vs, h1, h2, _⟩ := h; exact ⟨p, _, h1, h2⟩
  | obj b c ns ds => obtain ⟨p, dx, vs, h1, h2, _⟩ := h; exact ⟨p, _, h1, h2⟩
/-- where an own thing stands -/
theorem Sat.ad (S : Sat K Φ G H σ E) {i : Nat} {s : Sl} {b : Bool} (h : E[i]? = some s) (hb : s.ow = some b) : ∃ p o, σ[i]? = some (some (.ref p)) ∧ H p = some o := by
  obtain ⟨x, h1, h2⟩ := S.sl i s h
  obtain ⟨p, o, rfl, h3⟩ := h2.ad hb
  exact ⟨p, o, h1, h3⟩
theorem Sat.has (S : Sat K Φ G H σ E) {i : Nat} {s : Sl} {b : Bool} {p : Addr} (h : E[i]? = some s) (hb : s.ow = some b) (hp : σ[i]? = some (some (.ref p))) : ∃ o, H p = some o := by
  obtain ⟨q, o, h1, h2⟩ := S.ad h hb
  rw [hp] at h1; cases h1
  exact ⟨o, h2⟩
theorem SlOk.mono {x : Option V} {s : Sl} (e : Ex G G') (h : SlOk K G H x s) (k : ∀ p b, s.ow = some b → x = some (.ref p) → H' p = H p) : SlOk K G' H' x s := by
  cases s with
  | no => trivial
  | val d => obtain ⟨v, h1, h2⟩ := h; exact ⟨v, h1, h2.mono e⟩
  | own b l => obtain ⟨p, vs, h1, h2, h3⟩ := h; exact ⟨p, vs, h1, (k p b rfl h1).trans h2, h3.mono e⟩
  | obj b c ns ds => obtain ⟨p, dx, vs, h1, h2, h3, h4⟩ := h; exact ⟨p, dx, vs, h1, (k p b rfl h1).trans h2, h3, h4.mono e⟩
theorem set_get {E : Env} {i j : Nat} {s t : Sl} (h : (E.set i s)[j]? = some t) : (j = i ∧ t = s ∧ i < E.length) ∨ (j ≠ i ∧ E[j]? = some t) := by
  by_cases hj : i = j
  · subst hj
    by_cases hl : i < E.length
    · rw [List.getElem?_set_self hl] at h
      exact .inl ⟨rfl, (Option.some.inj h).symm, hl⟩
    · rw [List.getElem?_eq_none (by simpa using hl)] at h; cases h
  · rw [List.getElem?_set_ne hj] at h; exact .inr ⟨Ne.symm hj, h⟩
/-- a new object is known to all -/
theorem Sat.new (S : Sat K Φ G H σ E) {p : Addr} {o : HO} (h : H p = none) : Sat K Φ (upd G p o) (upd H p o) σ E := by
  have np : ∀ (i : Nat) (s : Sl) (b : Bool) (q : Addr), E[i]? = some s → s.ow = some b → σ[i]? = some (some (.ref q)) → q ≠ p := fun i s b q h1 hb h2 z => by
    obtain ⟨o, h3⟩ := S.has h1 hb h2
    subst z
    rw [h] at h3; cases h3
  refine ⟨S.len, fun i s hs => ?_, S.gh.both, S.fh.trans (Ex.new h), fun a ha => ?_, fun i s b q h1 hb h2 => ?_, S.di'⟩
  · obtain ⟨x, h1, h2⟩ := S.sl i s hs
    refine ⟨x, h1, h2.mono (Ex.new (S.gh.back h)) fun q b hb e2 => ?_⟩
    subst e2
    exact upd_ne (np i s b q hs hb h1)
  · have na : a ≠ p := fun z => by
      subst z
      cases hF : Φ.F a with
      | none => exact ha hF
      | some o => rw [S.fh a o hF] at h; cases h
    rw [upd_ne na]
    exact S.fg a ha
  · rw [upd_ne (np i s b q h1 hb h2)]
    exact S.ow' i s b q h1 hb h2
/-- a new object that G does not hear of -/
theorem Sat.newH (S : Sat K Φ G H σ E) {p : Addr} {o : HO} (h : H p = none) : Sat K Φ G (upd H p o) σ E := by
  refine ⟨S.len, fun i s hs => ?_, S.gh.trans (Ex.new h), S.fh.trans (Ex.new h), S.fg, S.ow', S.di'⟩
  obtain ⟨x, h1, h2⟩ := S.sl i s hs
  refine ⟨x, h1, h2.mono (Ex.refl G) fun q b hb e2 => ?_⟩
  subst e2
  obtain ⟨o, h3⟩ := S.has hs hb h1
  exact upd_ne fun z => by subst z; rw [h] at h3; cases h3
theorem Sat.notOwn (S : Sat K Φ G H σ E) {p : Addr} (h : H p = none) : NotOwn σ E p := fun i s b h1 hb h2 => by
  obtain ⟨o, h3⟩ := S.has h1 hb h2
  rw [h] at h3; cases h3
/-- a slot gets a value -/
theorem Sat.setV (S : Sat K Φ G H σ E) {i : Nat} {v : V} {d : D} (r : Rp K G v d) : Sat K Φ G H (σ.set i (some v)) (E.set i (.val d)) := by
  have key : ∀ (j : Nat) (s : Sl) (b : Bool), (E.set i (.val d))[j]? = some s → s.ow = some b → j ≠ i ∧ E[j]? = some s := fun j s b h hb => by
    rcases set_get h with ⟨_, rfl, _⟩ | h
    · cases hb
    · exact h
  refine ⟨by simp [S.len], fun j s hs => ?_, S.gh, S.fh, S.fg, fun j s b p h1 hb h2 => ?_, fun j k s s' b b' p h1 hb h2 hb' h3 h4 => ?_⟩
  · rcases set_get hs with ⟨rfl, rfl, hl⟩ | ⟨hj, hs⟩
    · exact ⟨some v, by rw [List.getElem?_set_self (by rw [S.len]; exact hl)], v, rfl, r⟩
    · rw [List.getElem?_set_ne (Ne.symm hj)]
      exact S.sl j s hs
  · obtain ⟨h0, h1⟩ := key j s b h1 hb
    rw [List.getElem?_set_ne (Ne.symm h0)] at h2
    exact S.ow' j s b p h1 hb h2
  · obtain ⟨n1, h1⟩ := key j s b h1 hb
    obtain ⟨n2, h2⟩ := key k s' b' h2 hb'
    rw [List.getElem?_set_ne (Ne.symm n1)] at h3
    rw [List.getElem?_set_ne (Ne.symm n2)] at h4
    exact S.di' j k s s' b b' p h1 hb h2 hb' h3 h4
/-- a slot gets an own thing -/
theorem Sat.setW (S : Sat K Φ G H σ E) {i : Nat} {p : Addr} {s0 : Sl} (hb0 : s0.ow = some false) (hk : SlOk K G H (some (.ref p)) s0) (g : G p = none) (f : Φ.F p = none) (n : NotOwn σ E p) : Sat K Φ G H (σ.set i (some (.ref p))) (E.set i s0) := by
  refine ⟨by simp [S.len], fun j s hs => ?_, S.gh, S.fh, S.fg, fun j s b q h1 hb h2 => ?_, fun j k s s' b b' q h1 hb h2 hb' h3 h4 => ?_⟩
  · rcases set_get hs with ⟨rfl, rfl, hl⟩ | ⟨hj, hs⟩
    · exact ⟨some (.ref p), by rw [List.getElem?_set_self (by rw [S.len]; exact hl)], hk⟩
    · rw [List.getElem?_set_ne (Ne.symm hj)]
      exact S.sl j s hs
  · rcases set_get h1 with ⟨rfl, rfl, hl⟩ | ⟨hj, h1⟩
    · rw [List.getElem?_set_self (by rw [S.len]; exact hl)] at h2
      cases h2
      rw [hb0] at hb; cases hb
      exact ⟨g, f, fun z => nomatch z⟩
    · rw [List.getElem?_set_ne (Ne.symm hj)] at h2
      exact S.ow' j s b q h1 hb h2
  · rcases set_get h1 with ⟨rfl, rfl, hl⟩ | ⟨hj, h1'⟩
    · rw [List.getElem?_set_self (by rw [S.len]; exact hl)] at h3
      cases h3
      rcases set_get h2 with ⟨rfl, _, _⟩ | ⟨hk2, h2'⟩
      · rfl
      · rw [List.getElem?_set_ne (Ne.symm hk2)] at h4
        exact absurd h4 (n k s' b' h2' hb')
    · rw [List.getElem?_set_ne (Ne.symm hj)] at h3
      rcases set_get h2 with ⟨rfl, _, hl⟩ | ⟨hk2, h2'⟩
      · rw [List.getElem?_set_self (by rw [S.len]; exact hl)] at h4
        cases h4
        exact absurd h3 (n j s b h1' hb)
      · rw [List.getElem?_set_ne (Ne.symm hk2)] at h4
        exact S.di' j k s s' b b' q h1' hb h2' hb' h3 h4
/-- a slot gets an own list -/
theorem Sat.setO (S : Sat K Φ G H σ E) {i : Nat} {p : Addr} {vs : List V} {l : List D} (hp : H p = some (.lst vs)) (r : RpA K G vs l) (g : G p = none) (f : Φ.F p = none) (n : NotOwn σ E p) : Sat K Φ G H (σ.set i (some (.ref p))) (E.set i (.own false l)) :=
  S.setW rfl ⟨p, vs, rfl, hp, r⟩ g f n
/-- a slot is forgotten -/
theorem Sat.setN (S : Sat K Φ G H σ E) {i : Nat} {x : Option V} : Sat K Φ G H (σ.set i x) (E.set i .no) := by
  have key : ∀ (j : Nat) (s : Sl) (b : Bool), (E.set i .no)[j]? = some s → s.ow = some b → j ≠ i ∧ E[j]? = some s := fun j s b h hb => by
    rcases set_get h with ⟨_, rfl, _⟩ | h
    · cases hb
    · exact h
  refine ⟨by simp [S.len], fun j s hs => ?_, S.gh, S.fh, S.fg, fun j s b p h1 hb h2 => ?_, fun j k s s' b b' p h1 hb h2 hb' h3 h4 => ?_⟩
  · rcases set_get hs with ⟨rfl, rfl, hl⟩ | ⟨hj, hs⟩
    · exact ⟨x, by rw [List.getElem?_set_self (by rw [S.len]; exact hl)], trivial⟩
    · rw [List.getElem?_set_ne (Ne.symm hj)]
      exact S.sl j s hs
  · obtain ⟨h0, h1⟩ := key j s b h1 hb
    rw [List.getElem?_set_ne (Ne.symm h0)] at h2
    exact S.ow' j s b p h1 hb h2
  · obtain ⟨n1, h1⟩ := key j s b h1 hb
    obtain ⟨n2, h2⟩ := key k s' b' h2 hb'
    rw [List.getElem?_set_ne (Ne.symm n1)] at h3
    rw [List.getElem?_set_ne (Ne.symm n2)] at h4
    exact S.di' j k s s' b b' p h1 hb h2 hb' h3 h4
/-- an own thing is written -/
theorem Sat.writeW (S : Sat K Φ G H σ E) {i : Nat} {s0 s1 : Sl} {b0 : Bool} {p : Addr} {o : HO} (hi : E[i]? = some s0) (h0 : s0.ow = some b0) (h1 : s1.ow = some b0) (hp : σ[i]? = some (some (.ref p))) (r : SlOk K G (upd H p o) (some (.ref p)) s1) : Sat K Φ G (upd H p o) σ (E.set i s1) := by
  obtain ⟨g, f, io⟩ := S.ow' i s0 b0 p hi h0 hp
  have hl : i < E.length := (List.getElem?_eq_some_iff.mp hi).1
  have key : ∀ (j : Nat) (s : Sl) (b : Bool), (E.set i s1)[j]? = some s → s.ow = some b → ∃ s', E[j]? = some s' ∧ s'.ow = some b := fun j s b h hb => by
    rcases set_get h with ⟨rfl, rfl, _⟩ | ⟨_, h⟩
    · exact ⟨s0, hi, by rw [h0, ← h1, hb]⟩
    · exact ⟨s, h, hb⟩
  refine ⟨by simp [S.len], fun j s hs => ?_, S.gh.mut g, S.fh.mut f, S.fg, fun j s b q h1 hb h2 => ?_, fun j k s s' b b' q h1 hb h2 hb' h3 h4 => ?_⟩
  · rcases set_get hs with ⟨rfl, rfl, _⟩ | ⟨hj, hs⟩
    · exact ⟨_, hp, r⟩
    · obtain ⟨x, k1, k2⟩ := S.sl j s hs
      refine ⟨x, k1, k2.mono (Ex.refl G) fun q b hb e2 => ?_⟩
      subst e2
      exact upd_ne fun z => by subst z; exact hj (S.di' j i s s0 b b0 q hs hb hi h0 k1 hp)
  · obtain ⟨m', h1, hb⟩ := key j s b h1 hb
    exact S.ow' j m' b q h1 hb h2
  · obtain ⟨m1, h1, hb⟩ := key j s b h1 hb
    obtain ⟨m2, h2, hb'⟩ := key k s' b' h2 hb'
    exact S.di' j k m1 m2 b b' q h1 hb h2 hb' h3 h4
/-- an own list is written -/
theorem Sat.write (S : Sat K Φ G H σ E) {i : Nat} {b0 : Bool} {p : Addr} {l l' : List D} {vs' : List V} (hi : E[i]? = some (.own b0 l)) (hp : σ[i]? = some (some (.ref p))) (r : RpA K G vs' l') : Sat K Φ G (upd H p (.lst vs')) σ (E.set i (.own b0 l')) :=
  S.writeW (b0 := b0) hi rfl rfl hp ⟨p, vs', rfl, upd_same, r⟩
/-- an own thing is given free -/
theorem Sat.pubW (S : Sat K Φ G H σ E) {i : Nat} {s0 : Sl} {b0 : Bool} {p : Addr} {o : HO} {d : D} (hi : E[i]? = some s0) (h0 : s0.ow = some b0) (hx : σ[i]? = some (some (.ref p))) (hp : H p = some o) (r : Rp K (upd G p o) (.ref p) d) : ∃ G', Ex G G' ∧ Sat K Φ G' H σ (E.set i (.val d)) := by
  obtain ⟨g, f, io⟩ := S.ow' i s0 b0 p hi h0 hx
  have eG : Ex G (upd G p o) := Ex.new g
  have key : ∀ (j : Nat) (s : Sl) (b : Bool), (E.set i (.val d))[j]? = some s → s.ow = some b → j ≠ i ∧ E[j]? = some s := fun j s b h hb => by
    rcases set_get h with ⟨_, rfl, _⟩ | h
    · cases hb
    · exact h
  refine ⟨upd G p o, eG, by simp [S.len], fun j s hs => ?_, fun a u h => ?_, S.fh, fun a ha => ?_, fun j s b q h1 hb h2 => ?_, fun j k s s' b b' q h1 hb h2 hb' h3 h4 => ?_⟩
  · rcases set_get hs with ⟨rfl, rfl, _⟩ | ⟨hj, hs⟩
    · exact ⟨_, hx, .ref p, rfl, r⟩
    · obtain ⟨x, h1, h2⟩ := S.sl j s hs
      exact ⟨x, h1, h2.mono eG fun _ _ _ _ => rfl⟩
  · by_cases ha : a = p
    · subst ha; rw [upd_same] at h; rw [← h]; exact hp
    · rw [upd_ne ha] at h; exact S.gh a u h
  · have na : a ≠ p := fun z => by subst z; exact ha f
    rw [upd_ne na]
    exact S.fg a ha
  · obtain ⟨n1, h1⟩ := key j s b h1 hb
    have nq : q ≠ p := fun z => by subst z; exact n1 (S.di' j i s s0 b b0 q h1 hb hi h0 h2 hx)
    rw [upd_ne nq]
    exact S.ow' j s b q h1 hb h2
  · obtain ⟨n1, h1⟩ := key j s b h1 hb
    obtain ⟨n2, h2⟩ := key k s' b' h2 hb'
    exact S.di' j k s s' b b' q h1 hb h2 hb' h3 h4
/-- an own list is given free -/
theorem Sat.pub (S : Sat K Φ G H σ E) {i : Nat} {b0 : Bool} {l : List D} (hi : E[i]? = some (.own b0 l)) : ∃ G', Ex G G' ∧ Sat K Φ G' H σ (E.set i (.val (.lst l))) := by
  obtain ⟨x, hx, p, vs, rfl, hp, r⟩ := S.sl i _ hi
  have g := (S.ow i b0 l p hi hx).1
  exact S.pubW (b0 := b0) hi rfl hx hp (.lst upd_same (r.mono (Ex.new g)))
end
end J

namespace J
open PySem PySem.Spec PyProof.Rows L2

/-! ### what is wanted; c: what is known besides, by the slots -/
structure WJ where
  w : WX
  c : Hp → St → Prop
  mono : ∀ G G' σ, Ex G G' → c G σ → c G' σ
def pw (w : WX) : WJ := ⟨w, fun _ _ => True, fun _ _ _ _ h => h⟩
instance : Coe WX WJ := ⟨pw⟩
structure SatC (K : PySem.W.Frag) (W : WJ) (Φ : Fr) (G H : Hp) (σ : St) (E : Env) : Prop extends Sat K Φ G H σ E where
  c : W.c G σ
instance {K : PySem.W.Frag} {W : WJ} {Φ : Fr} {G H : Hp} {σ : St} {E : Env} : CoeOut (SatC K W Φ G H σ E) (Sat K Φ G H σ E) := ⟨SatC.toSat⟩
theorem Sat.pw {K : PySem.W.Frag} {W : WX} {Φ : Fr} {G H : Hp} {σ : St} {E : Env} (S : Sat K Φ G H σ E) : SatC K (J.pw W) Φ G H σ E := ⟨S, trivial⟩

structure XRp (K : PySem.W.Frag) (G : Hp) (c : Value) (d : Option Addr) (x : Exn) : Prop where
  cls : c = .ref (He.ga K x.c)
  dd : ∃ a vs, d = some a ∧ G a = some (.xd (x.ns.zip vs)) ∧ vs.length = x.ns.length ∧ RpA K G vs x.ds
theorem XRp.mono {K : PySem.W.Frag} {G G' : Hp} {c : Value} {d : Option Addr} {x : Exn} (e : Ex G G') (h : XRp K G c d x) : XRp K G' c d x := by
  obtain ⟨h1, a, vs, h2, h3, h4, h5⟩ := h
  exact ⟨h1, a, vs, h2, e _ _ h3, h4, h5.mono e⟩
def PostX (K : PySem.W.Frag) (W : WX) (Φ : Fr) (G : Hp) (x : Exn) (E' : Env) : Prop := ∀ G' H' σ' c d, Ex G G' → Sat K Φ G' H' σ' E' → XRp K G' c d x → W c d σ' H'
/-- how what comes out lies: F, σ, behind: G', H', E' -/
abbrev Rel (α β : Type) := Fr → St → Hp → Hp → Env → α → β → Prop
def Post {α β : Type} (K : PySem.W.Frag) (W : WX) (rel : Rel α β) (Φ : Fr) (G : Hp) (σ : St) (r : R α) (Q : β → Hp → Prop) : Prop := match r with
  | .ok a E' => ∀ G' H' b, Ex G G' → Sat K Φ G' H' σ E' → rel Φ σ G' H' E' a b → Q b H'
  | .exc x E' => PostX K W Φ G x E'
  | .stuck => False
theorem PostX.mono {K : PySem.W.Frag} {W : WX} {Φ : Fr} {G G0 : Hp} {x : Exn} {E' : Env} (e : Ex G G0) (h : PostX K W Φ G x E') : PostX K W Φ G0 x E' := fun G' H' σ' c d e' S r => h G' H' σ' c d (e.trans e') S r
theorem Post.mono {α β : Type} {K : PySem.W.Frag} {W : WX} {rel : Rel α β} {Φ : Fr} {G G0 : Hp} {σ : St} {r : R α} {Q : β → Hp → Prop} (e : Ex G G0) (h : Post K W rel Φ G σ r Q) : Post K W rel Φ G0 σ r Q := by
  cases r with
  | ok a E' => exact fun G' H' b e' S q => h G' H' b (e.trans e') S q
  | exc x E' => exact PostX.mono e h
  | stuck => exact h
/-- soundness of a denotation -/
def Snd {α β : Type} (K : PySem.W.Frag) (W : WJ) (rel : Rel α β) (t : St → Hp → (β → Hp → Prop) → Prop) (f : Env → R α) : Prop :=
  ∀ Φ G H σ E Q, SatC K W Φ G H σ E → Post K W.w rel Φ G σ (f E) Q → t σ H Q
theorem Snd.go {α β γ δ : Type} {K : PySem.W.Frag} {W : WJ} {rel : Rel α β} {rel2 : Rel γ δ} {t : St → Hp → (β → Hp → Prop) → Prop} {f : Env → R α} (h : Snd K W rel t f) {Φ : Fr} {G H : Hp} {σ : St} {E : Env} {k : α → Env → R γ} {Q : δ → Hp → Prop} {Q1 : β → Hp → Prop}
    (S : SatC K W Φ G H σ E) (hp : Post K W.w rel2 Φ G σ ((f E).bind k) Q) (hk : ∀ a E' G' H' b, f E = .ok a E' → Ex G G' → SatC K W Φ G' H' σ E' → rel Φ σ G' H' E' a b → Post K W.w rel2 Φ G' σ (k a E') Q → Q1 b H') : t σ H Q1 := by
  refine h Φ G H σ E Q1 S ?_
  cases e : f E with
  | ok a E' =>
    rw [e] at hp
    exact fun G' H' b e' S' q => hk a E' G' H' b e e' ⟨S', W.mono _ _ _ e' S.c⟩ q (Post.mono e' hp)
  | exc x E' => rw [e] at hp; exact hp
  | stuck => rw [e] at hp; exact hp

def Sh (K : PySem.W.Frag) (G H : Hp) (v : V) : D → Prop
  | .lst l => ∃ p vs, v = .ref p ∧ H p = some (.lst vs) ∧ RpA K G vs l
  | d => Rp K G v d
theorem Rp.sh {K : PySem.W.Frag} {G H : Hp} {v : V} {d : D} (e : Ex G H) (h : Rp K G v d) : Sh K G H v d := by
  cases h with
  | lst h1 h2 => exact ⟨_, _, rfl, e _ _ h1, h2⟩
  | non => exact .non
  | bl b => exact .bl b
  | int b => exact .int b
  | str b => exact .str b
  | tup h1 h2 => exact .tup h1 h2
  | rol h1 h2 => exact .rol h1 h2
  | ins h1 h2 h3 => exact .ins h1 h2 h3
theorem Sh.mono {K : PySem.W.Frag} {G G' H H' : Hp} {v : V} {d : D} (e : Ex G G') (e2 : Ex H H') (h : Sh K G H v d) : Sh K G' H' v d := by
  cases d with
  | lst l => obtain ⟨p, vs, h1, h2, h3⟩ := h; exact ⟨p, vs, h1, e2 _ _ h2, h3.mono e⟩
  | _ => exact Rp.mono e _ h

def relE (K : PySem.W.Frag) : Rel D V := fun _ _ G' _ _ d v => Rp K G' v d
def relO (K : PySem.W.Frag) : Rel D V := fun _ _ G' H' _ d v => Sh K G' H' v d
def relT : Rel Bool Bool := fun _ _ _ _ _ a b => a = b
def relA (K : PySem.W.Frag) : Rel (List D) (List V) := fun _ _ G' _ _ ds vs => RpA K G' vs ds
def relI : Rel (Option Int) (Option Int) := fun _ _ _ _ _ a b => a = b
def relL (K : PySem.W.Frag) : Rel (List D) V := fun Φ σ G' H' E' l v => ∃ p vs, v = .ref p ∧ H' p = some (.lst vs) ∧ RpA K G' vs l ∧ G' p = none ∧ Φ.F p = none ∧ NotOwn σ E' p

/-! ### the judgements -/
def JE (X : Cx) (W : WJ) (e : Expr) (f : Env → R D) : Prop := ∃ te, PE X e te ∧ Snd X.K W (relE X.K) te f
def JO (X : Cx) (W : WJ) (e : Expr) (f : Env → R D) : Prop := ∃ te, PE X e te ∧ Snd X.K W (relO X.K) te f
def JL (X : Cx) (W : WJ) (e : Expr) (f : Env → R (List D)) : Prop := ∃ te, PE X e te ∧ Snd X.K W (relL X.K) te f
def JT (X : Cx) (W : WJ) (e : Expr) (f : Env → R Bool) : Prop := ∃ te, PT X e te ∧ Snd X.K W relT te f
def JW (X : Cx) (W : WJ) (e : Expr) (f : Env → R Bool) : Prop := ∃ te, PW X e te ∧ Snd X.K W relT te f
def JA (X : Cx) (W : WJ) (es : List Expr) (f : Env → R (List D)) : Prop := ∃ te, PA X es te ∧ Snd X.K W (relA X.K) te f
def JP (X : Cx) (W : WJ) (e : Option Expr) (f : Env → R (Option Int)) : Prop := ∃ te, PO X e te ∧ Snd X.K W relI te f
/-- a quiet one: nothing is changed -/
def JQ (X : Cx) (e : Expr) (f : Env → Option D) : Prop := ∃ te, PE X e te ∧ ∀ Φ G H σ E Q d, Sat X.K Φ G H σ E → f E = some d → (∀ G' H' v, Ex G G' → Ex H H' → Sat X.K Φ G' H' σ E → Rp X.K G' v d → Q v H') → te σ H Q

section
variable {X : Cx} {W : WJ} {a b c e o : Expr} {es : List Expr} {pos : Pos} {fa fb fc : Env → R D}
theorem JE.toO (h : JE X W e fa) : JO X W e fa := by
  obtain ⟨te, h1, h2⟩ := h
  refine ⟨te, h1, fun Φ G H σ E Q S hp => h2 Φ G H σ E Q S ?_⟩
  cases e : fa E with
  | ok d E' => rw [e] at hp; exact fun G' H' v e' S' r => hp G' H' v e' S' (Rp.sh S'.gh r)
  | exc x E' => rw [e] at hp; exact hp
  | stuck => rw [e] at hp; exact hp
def fQ (f : Env → Option D) : Env → R D := fun E => match f E with | some d => .ok d E | none => .stuck
theorem Post.opt {K : PySem.W.Frag} {Φ : Fr} {G : Hp} {σ : St} {E : Env} {o : Option D} {Q : VK} (h : Post K W.w (relE K) Φ G σ (match o with | some d => .ok d E | none => .stuck) Q) : ∃ d, o = some d ∧ ∀ G' H' v, Ex G G' → Sat K Φ G' H' σ E → Rp K G' v d → Q v H' := by
  cases o with
  | some d => exact ⟨d, rfl, h⟩
  | none => exact h.elim
theorem JQ.toE {f : Env → Option D} (h : JQ X e f) : JE X W e (fQ f) := by
  obtain ⟨te, h1, h2⟩ := h
  refine ⟨te, h1, fun Φ G H σ E Q S hp => ?_⟩
  obtain ⟨d, hd, hq⟩ := Post.opt (o := f E) hp
  exact h2 Φ G H σ E Q d S hd fun G' H' v e1 e2 S' r => hq G' H' v e1 S' r

/-! ### names, constants -/
def getV (i : Nat) (E : Env) : Option D := match E[i]? with
  | some (.val d) => some d
  | _ => none
def fVar (i : Nat) : Env → R D := fun E => match E[i]? with
  | some (.val d) => .ok d E
  | _ => .stuck
theorem jq_var (i : Nat) {x : Str} (hN : X.N[i]? = some x := by rfl) (hv : Vis X.env.scope x := by first | exact Or.inl rfl | exact Or.inr (Or.inl rfl) | exact Or.inr (Or.inr rfl)) (hd : (x == ("__debug__" : Str)) = false := by decide)
    (hcd : (x == ("__classdict__" : Str)) = false := by decide) : JQ X (.Name x pos) (getV i) := by
  refine ⟨tVar i, pe_var hN hv hd hcd, fun Φ G H σ E Q d S hf k => ?_⟩
  unfold getV at hf
  cases e : E[i]? with
  | none => rw [e] at hf; cases hf
  | some s =>
    rw [e] at hf
    cases s with
    | no => cases hf
    | obj _ _ _ _ => cases hf
    | own _ l => cases hf
    | val d' =>
      cases hf
      obtain ⟨x, hx, v, rfl, r⟩ := S.sl i _ e
      exact ⟨v, hx, k G H v (Ex.refl G) (Ex.refl H) S r⟩
theorem j_var (i : Nat) {x : Str} (hN : X.N[i]? = some x := by rfl) (hv : Vis X.env.scope x := by first | exact Or.inl rfl | exact Or.inr (Or.inl rfl) | exact Or.inr (Or.inr rfl)) (hd : (x == ("__debug__" : Str)) = false := by decide)
    (hcd : (x == ("__classdict__" : Str)) = false := by decide) : JE X W (.Name x pos) (fVar i) := by
  refine ⟨tVar i, pe_var hN hv hd hcd, fun Φ G H σ E Q S hp => ?_⟩
  unfold fVar at hp
  cases e : E[i]? with
  | none => rw [e] at hp; exact hp.elim
  | some s =>
    rw [e] at hp
    cases s with
    | no => exact hp.elim
    | obj _ _ _ _ => exact hp.elim
    | own _ l => exact hp.elim
    | val d' =>
      obtain ⟨x, hx, v, rfl, r⟩ := S.sl i _ e
      exact ⟨v, hx, hp G H v (Ex.refl G) S r⟩
/-- an own list, looked at -/
def fBor (i : Nat) : Env → R D := fun E => match E[i]? with
  | some (.own _ l) => .ok (.lst l) E
  | some (.val d) => .ok d E
  | _ => .stuck
theorem j_bor (i : Nat) {x : Str} (hN : X.N[i]? = some x := by rfl) (hv : Vis X.env.scope x := by first | exact Or.inl rfl | exact Or.inr (Or.inl rfl) | exact Or.inr (Or.inr rfl)) (hd : (x == ("__debug__" : Str)) = false := by decide)
    (hcd : (x == ("__classdict__" : Str)) = false := by decide) : JO X W (.Name x pos) (fBor i) := by
  refine ⟨tVar i, pe_var hN hv hd hcd, fun Φ G H σ E Q S hp => ?_⟩
  unfold fBor at hp
  cases e : E[i]? with
  | none => rw [e] at hp; exact hp.elim
  | some s =>
    rw [e] at hp
    cases s with
    | no => exact hp.elim
    | obj _ _ _ _ => exact hp.elim
    | own _ l =>
      obtain ⟨x, hx, p, vs, rfl, h1, h2⟩ := S.sl i _ e
      exact ⟨.ref p, hx, hp G H _ (Ex.refl G) S ⟨p, vs, rfl, h1, h2⟩⟩
    | val d' =>
      obtain ⟨x, hx, v, rfl, r⟩ := S.sl i _ e
      exact ⟨v, hx, hp G H v (Ex.refl G) S (Rp.sh S.gh r)⟩
def fC (d : D) : Env → R D := fun E => .ok d E
theorem j_c {v : V} {d : D} (h : PE X e (tC v)) (r : ∀ G, Rp X.K G v d) : JE X W e (fC d) :=
  ⟨tC v, h, fun Φ G H σ E Q S hp => hp G H v (Ex.refl G) S (r G)⟩
theorem jq_c {v : V} {d : D} (h : PE X e (tC v)) (r : ∀ G, Rp X.K G v d) : JQ X e (fun _ => some d) :=
  ⟨tC v, h, fun Φ G H σ E Q d' S hf k => by cases hf; exact k G H v (Ex.refl G) (Ex.refl H) S (r G)⟩
theorem j_int {i j} : JE X W (.Constant (.int i) j pos) (fC (.int i)) := j_c pe_int fun _ => .int _
theorem jq_int {i j} : JQ X (.Constant (.int i) j pos) (fun _ => some (.int i)) := jq_c pe_int fun _ => .int _
theorem j_bl {i j} : JE X W (.Constant (.bool i) j pos) (fC (.bl i)) := j_c pe_bl fun _ => .bl _
theorem j_non {j} : JE X W (.Constant .none j pos) (fC .non) := j_c pe_non fun _ => .non
theorem j_str {x j} : JE X W (.Constant (.str x) j pos) (fC (.str x)) := j_c pe_str fun _ => .str _
/-- a module's int -/
theorem j_gint {x : Str} {i : Int} (hm : ∃ t, X.mg x = some (.int i t)) (hg : Gl X x := by rfl) (hd : (x == ("__debug__" : Str)) = false := by decide) : JE X W (.Name x pos) (fC (.int i)) := by
  obtain ⟨t, hm⟩ := hm
  exact j_c (pe_glob (v := .int i) hg hm ⟨t, rfl⟩ hd) fun _ => .int _
theorem j_gstr {x y : Str} (hm : ∃ t, X.mg x = some (.str y t)) (hg : Gl X x := by rfl) (hd : (x == ("__debug__" : Str)) = false := by decide) : JE X W (.Name x pos) (fC (.str y)) := by
  obtain ⟨t, hm⟩ := hm
  exact j_c (pe_glob (v := .str y) hg hm ⟨t, rfl⟩ hd) fun _ => .str _

/-! ### operations by values -/
/-- r does g on what is told -/
def OpS (K : PySem.W.Frag) (r : R2) (g : D → D → Option D) : Prop :=
  ∀ Φ G H σ E x y a b d Q, Sat K Φ G H σ E → Sh K G H x a → Sh K G H y b → g a b = some d → (∀ G' H' v, Ex G G' → Ex H H' → Sat K Φ G' H' σ E → Rp K G' v d → Q v H') → r x y H Q
theorem OpS.or {K : PySem.W.Frag} {r r' : R2} {g g' : D → D → Option D} (h : OpS K r g) (h' : OpS K r' g') : OpS K (fun x y H Q => r x y H Q ∨ r' x y H Q) (fun a b => match g a b with | some d => some d | none => g' a b) := by
  intro Φ G H σ E x y a b d Q S ha hb hg k
  cases e : g a b with
  | some d' => simp only [e] at hg; cases hg; exact .inl (h Φ G H σ E x y a b d Q S ha hb e k)
  | none => simp only [e] at hg; exact .inr (h' Φ G H σ E x y a b d Q S ha hb hg k)
def fop (g : D → D → Option D) (fa fb : Env → R D) : Env → R D := fun E => (fa E).bind fun a E => (fb E).bind fun b E => match g a b with | some d => .ok d E | none => .stuck
theorem snd_op {r : R2} {g : D → D → Option D} {ta tb : TE} (hs : OpS X.K r g) (ha : Snd X.K W (relE X.K) ta fa) (hb : Snd X.K W (relO X.K) tb fb) : Snd X.K W (relE X.K) (tOp r ta tb) (fop g fa fb) := by
  intro Φ G H σ E Q S hp
  refine ha.go S hp fun a E1 G1 H1 x _ e1 S1 r1 hp => ?_
  refine hb.go S1 hp fun b E2 G2 H2 y _ e2 S2 r2 hp => ?_
  obtain ⟨d, hd, hq⟩ := hp.opt
  exact hs Φ G2 H2 σ E2 x y a b d Q S2 (Rp.sh S2.gh (Rp.mono e2 _ r1)) r2 hd fun G' H' v e _ S' r => hq G' H' v e S' r
theorem j_op {op : Operator} {r : R2} {g : D → D → Option D} (ho : OpR X (binaryOp op) r) (hs : OpS X.K r g) (ha : JE X W a fa) (hb : JO X W b fb) : JE X W (.BinOp a op b pos) (fop g fa fb) := by
  obtain ⟨ta, pa, sa⟩ := ha
  obtain ⟨tb, pb, sb⟩ := hb
  exact ⟨_, pe_op ho pa pb, snd_op hs sa sb⟩
/-- the left one looked at, the right one quiet -/
def fopB (g : D → D → Option D) (fa : Env → R D) (fb : Env → Option D) : Env → R D := fun E => (fa E).bind fun a E => match (fb E).bind (g a) with | some d => .ok d E | none => .stuck
theorem snd_opB {r : R2} {g : D → D → Option D} {fb : Env → Option D} {ta tb : TE} (hs : OpS X.K r g) (ha : Snd X.K W (relO X.K) ta fa)
    (hb : ∀ Φ G H σ E Q d, Sat X.K Φ G H σ E → fb E = some d → (∀ G' H' v, Ex G G' → Ex H H' → Sat X.K Φ G' H' σ E → Rp X.K G' v d → Q v H') → tb σ H Q) : Snd X.K W (relE X.K) (tOp r ta tb) (fopB g fa fb) := by
  intro Φ G H σ E Q S hp
  refine ha.go S hp fun a E1 G1 H1 x _ e1 S1 r1 hp => ?_
  obtain ⟨d, hd, hq⟩ := hp.opt
  obtain ⟨b, hb1, hb2⟩ := Option.bind_eq_some_iff.mp hd
  refine hb Φ G1 H1 σ E1 _ b S1 hb1 fun G2 H2 y e2 e3 S2 r2 => ?_
  exact hs Φ G2 H2 σ E1 x y a b d Q S2 (r1.mono e2 e3) (Rp.sh S2.gh r2) hb2 fun G' H' v e _ S' r => hq G' H' v (e2.trans e) S' r
theorem j_opB {op : Operator} {r : R2} {g : D → D → Option D} {fb : Env → Option D} (ho : OpR X (binaryOp op) r) (hs : OpS X.K r g) (ha : JO X W a fa) (hb : JQ X b fb) : JE X W (.BinOp a op b pos) (fopB g fa fb) := by
  obtain ⟨ta, pa, sa⟩ := ha
  obtain ⟨tb, pb, sb⟩ := hb
  exact ⟨_, pe_op ho pa pb, snd_opB hs sa sb⟩
theorem jq_op {op : Operator} {r : R2} {g : D → D → Option D} {qa qb : Env → Option D} (ho : OpR X (binaryOp op) r) (hs : OpS X.K r g) (ha : JQ X a qa) (hb : JQ X b qb) : JQ X (.BinOp a op b pos) (fun E => (qa E).bind fun x => (qb E).bind fun y => g x y) := by
  obtain ⟨ta, pa, sa⟩ := ha
  obtain ⟨tb, pb, sb⟩ := hb
  refine ⟨_, pe_op ho pa pb, fun Φ G H σ E Q d S hf k => ?_⟩
  obtain ⟨x, hx, hf⟩ := Option.bind_eq_some_iff.mp hf
  obtain ⟨y, hy, hf⟩ := Option.bind_eq_some_iff.mp hf
  refine sa Φ G H σ E _ x S hx fun G1 H1 u e1 f1 S1 r1 => ?_
  refine sb Φ G1 H1 σ E _ y S1 hy fun G2 H2 w e2 f2 S2 r2 => ?_
  exact hs Φ G2 H2 σ E u w x y d Q S2 (Rp.sh S2.gh (Rp.mono e2 _ r1)) (Rp.sh S2.gh r2) hf fun G' H' v e f S' r => k G' H' v ((e1.trans e2).trans e) ((f1.trans f2).trans f) S' r

/-! ### ints -/
def g2I (g : Int → Int → Option Int) : D → D → Option D
  | .int i, .int j => (g i j).map D.int
  | _, _ => none
def g2B (g : Int → Int → Bool) : D → D → Option D
  | .int i, .int j => some (.bl (g i j))
  | _, _ => none
theorem opS_I {K : PySem.W.Frag} {C : Int → Int → Prop} {h : Int → Int → Int} {g : Int → Int → Option Int} (hg : ∀ i j k, g i j = some k → C i j ∧ k = h i j) : OpS K (rI C fun i j => .int (h i j)) (g2I g) := by
  intro Φ G H σ E x y a b d Q S ha hb hd k
  cases a with
  | int i =>
    cases b with
    | int j =>
      cases ha; cases hb
      obtain ⟨z, hz, rfl⟩ := Option.map_eq_some_iff.mp (show (g i j).map D.int = some d from hd)
      obtain ⟨c, rfl⟩ := hg i j z hz
      exact ⟨i, j, rfl, rfl, c, k G H _ (Ex.refl G) (Ex.refl H) S (.int _)⟩
    | _ => cases hd
  | _ => cases hd
theorem opS_I0 {K : PySem.W.Frag} {h : Int → Int → Int} : OpS K (rI0 fun i j => .int (h i j)) (g2I fun i j => some (h i j)) := by
  intro Φ G H σ E x y a b d Q S ha hb hd k
  cases a with
  | int i =>
    cases b with
    | int j =>
      cases ha; cases hb
      cases hd
      exact ⟨i, j, rfl, rfl, k G H _ (Ex.refl G) (Ex.refl H) S (.int _)⟩
    | _ => cases hd
  | _ => cases hd
theorem opS_B0 {K : PySem.W.Frag} {h : Int → Int → Bool} : OpS K (rI0 fun i j => .bl (h i j)) (g2B h) := by
  intro Φ G H σ E x y a b d Q S ha hb hd k
  cases a with
  | int i =>
    cases b with
    | int j =>
      cases ha; cases hb
      cases hd
      exact ⟨i, j, rfl, rfl, k G H _ (Ex.refl G) (Ex.refl H) S (.bl _)⟩
    | _ => cases hd
  | _ => cases hd
end
end J

namespace J
open PySem PySem.Spec PyProof.Rows L2

/-! ### data that == reads -/
mutual
def toPy : D → PyData
  | .non => .none
  | .bl b => .bool b
  | .int i => .int i
  | .str x => .str x
  | .tup l => .tuple (toPys l)
  | .lst l => .list (toPys l)
  | .rol l => .list (toPys l)
  | .ins _ _ _ => .none
def toPys : List D → List PyData
  | [] => []
  | d :: ds => toPy d :: toPys ds
end
mutual
def plain : D → Bool
  | .tup l => plains l
  | .lst l => plains l
  | .rol l => plains l
  | .ins _ _ _ => false
  | _ => true
def plains : List D → Bool
  | [] => true
  | d :: ds => plain d && plains ds
end
def okD (d : D) : Bool := plain d && SeqAt.shaped (toPy d)
section
variable {K : PySem.W.Frag} {G H : Hp}
mutual
theorem Rp.dp : ∀ (d : D) {v : V}, plain d = true → Rp K G v d → Dp K G v (toPy d)
  | .non, _, _, h => by cases h; exact .non
  | .bl b, _, _, h => by cases h; exact .bl b
  | .int b, _, _, h => by cases h; exact .int b
  | .str b, _, _, h => by cases h; exact .str b
  | .tup l, _, p, h => by
    cases h with
    | tup h1 h2 => exact .tup h1 (RpA.dp l (by simpa [plain] using p) h2)
  | .lst l, _, p, h => by
    cases h with
    | lst h1 h2 => exact .lst (SqL.of h1) (RpA.dp l (by simpa [plain] using p) h2)
  | .rol l, _, p, h => by
    cases h with
    | rol h1 h2 => exact .lst h1 (RpA.dp l (by simpa [plain] using p) h2)
  | .ins _ _ _, _, p, h => by simp [plain] at p
theorem RpA.dp : ∀ (ds : List D) {vs : List V}, plains ds = true → RpA K G vs ds → DpAll K G vs (toPys ds)
  | [], _, _, h => by cases h; exact .nil
  | d :: ds, _, p, h => by
    have p' : plain d = true ∧ plains ds = true := by simpa [plains] using p
    cases h with
    | cons h1 h2 => exact .cons (Rp.dp d p'.1 h1) (RpA.dp ds p'.2 h2)
end
theorem Sh.dp {d : D} {v : V} (p : plain d = true) (e : Ex G H) (h : Sh K G H v d) : Dp K H v (toPy d) := by
  cases d with
  | lst l =>
    obtain ⟨a, vs, rfl, h1, h2⟩ := h
    exact .lst (SqL.of h1) (RpA.dp l (by simpa [plain] using p) (h2.mono e))
  | _ => exact Rp.dp _ p (Rp.mono e _ h)
end

/-! ### operators -/
def gSub : D → D → Option D := g2I fun i j => some (i - j)
def gMulI (i j : Int) : Option Int := if i.natAbs.log2 + j.natAbs.log2 < 1000000 then some (i * j) else none
def gDivI (i j : Int) : Option Int := if 0 < j ∧ j.natAbs.log2 < 9000 then some (i / j) else none
def gModI (i j : Int) : Option Int := if 0 < j then some (i % j) else none
def gPowI (i j : Int) : Option Int := if 0 ≤ j ∧ j ≤ 1000000 ∧ i.natAbs < 2 ^ 64 then some (i ^ j.toNat) else none
def gShlI (i j : Int) : Option Int := if 0 ≤ j ∧ j ≤ 1000000 ∧ i.natAbs < 2 ^ 64 then some (i * 2 ^ j.toNat) else none
def gShrI (i j : Int) : Option Int := if 0 ≤ j then some (i / 2 ^ j.toNat) else none
def gDiv : D → D → Option D := g2I gDivI
def gMod : D → D → Option D := g2I gModI
def gPow : D → D → Option D := g2I gPowI
def gShl : D → D → Option D := g2I gShlI
def gShr : D → D → Option D := g2I gShrI
def gAnd : D → D → Option D := g2I fun i j => some (Builtin.bitAnd i j)
def gOr : D → D → Option D := g2I fun i j => some (Builtin.bitOr i j)
def gXor : D → D → Option D := g2I fun i j => some (Builtin.bitXor i j)
def gAdd : D → D → Option D
  | .int i, .int j => some (.int (i + j))
  | .str x, .str y => if x.length + y.length ≤ 16777216 then some (.str (x ++ y)) else none
  | .lst x, .lst y => if x.length + y.length ≤ 16777216 then some (.lst (x ++ y)) else none
  | .tup x, .tup y => if x.length + y.length ≤ 16777216 then some (.tup (x ++ y)) else none
  | _, _ => none
def gMul : D → D → Option D
  | .int i, .int j => (gMulI i j).map D.int
  | .lst x, .int k => if 0 ≤ k ∧ k ≤ 1000000 ∧ x.length * k.toNat ≤ 16777216 then some (.lst (List.replicate k.toNat x).flatten) else none
  | _, _ => none
def gEq : D → D → Option D := fun a b => if (okD a && okD b) = true then some (.bl (PyData.eqv (toPy a) (toPy b))) else none
def gNe : D → D → Option D := fun a b => if (okD a && okD b) = true then some (.bl (!PyData.eqv (toPy a) (toPy b))) else none
def gLt : D → D → Option D := g2B fun i j => decide (i < j)
def gLe : D → D → Option D := g2B fun i j => decide (i ≤ j)
def gGt : D → D → Option D := g2B fun i j => decide (j < i)
def gGe : D → D → Option D := g2B fun i j => decide (j ≤ i)
theorem if_some {c : Prop} [Decidable c] {α : Type} {a k : α} (h : (if c then some a else none) = some k) : c ∧ k = a := by
  by_cases hc : c
  · rw [if_pos hc] at h; exact ⟨hc, (Option.some.inj h).symm⟩
  · rw [if_neg hc] at h; cases h
section
variable {K : PySem.W.Frag}
theorem opS_mulI : OpS K (rI CMulW fun i j => .int (i * j)) (g2I gMulI) := opS_I fun i j k h => if_some (c := i.natAbs.log2 + j.natAbs.log2 < 1000000) h
theorem opS_div : OpS K (rI CDivW fun i j => .int (i / j)) gDiv := opS_I fun i j k h => if_some (c := 0 < j ∧ j.natAbs.log2 < 9000) h
theorem opS_mod : OpS K (rI (fun _ j => 0 < j) fun i j => .int (i % j)) gMod := opS_I fun i j k h => if_some h
theorem opS_pow : OpS K (rI CPow fun i j => .int (i ^ j.toNat)) gPow := opS_I fun i j k h => if_some (c := 0 ≤ j ∧ j ≤ 1000000 ∧ i.natAbs < 2 ^ 64) h
theorem opS_shl : OpS K (rI CPow fun i j => .int (i * 2 ^ j.toNat)) gShl := opS_I fun i j k h => if_some (c := 0 ≤ j ∧ j ≤ 1000000 ∧ i.natAbs < 2 ^ 64) h
theorem opS_shr : OpS K (rI (fun _ j => 0 ≤ j) fun i j => .int (i / 2 ^ j.toNat)) gShr := opS_I fun i j k h => if_some h
theorem sz {n : Nat} (h : n ≤ 16777216) : n ≤ sizeLine := by rw [sizeLine_eq]; exact h
/-- a new object, given -/
theorem give_new {Φ : Fr} {G H : Hp} {σ : St} {E : Env} {Q : VK} {d : D} {o : HO} (S : Sat K Φ G H σ E) (k : ∀ G' H' v, Ex G G' → Ex H H' → Sat K Φ G' H' σ E → Rp K G' v d → Q v H')
    (r : ∀ p, G p = none → Rp K (upd G p o) (.ref p) d) : ∀ p, H p = none → Q (.ref p) (upd H p o) := fun p hp => by
  have g := S.gh.back hp
  exact k _ _ _ (Ex.new g) (Ex.new hp) (S.new hp) (r p g)
abbrev rAdd4 (K : PySem.W.Frag) : R2 := fun x y H Q => (rI0 fun i j => .int (i + j)) x y H Q ∨ ((fun x y H Q => ∃ i j, x = .str i ∧ y = .str j ∧ i.length + j.length ≤ sizeLine ∧ Q (.str (i ++ j)) H : R2) x y H Q ∨ (rCat x y H Q ∨ rCatA K x y H Q))
theorem op_add4 {X : Cx} : OpR X (binaryOp .Add) (rAdd4 X.K) := OpR.or op_add (OpR.or op_add_str (OpR.or op_cat op_catA))
theorem opS_add : OpS K (rAdd4 K) gAdd := by
  intro Φ G H σ E x y a b d Q S ha hb hd k
  cases a with
  | int i =>
    cases b with
    | int j => cases ha; cases hb; cases hd; exact .inl ⟨i, j, rfl, rfl, k G H _ (Ex.refl G) (Ex.refl H) S (.int _)⟩
    | _ => cases hd
  | str i =>
    cases b with
    | str j =>
      cases ha; cases hb
      obtain ⟨c, rfl⟩ := if_some hd
      exact .inr (.inl ⟨i, j, rfl, rfl, sz c, k G H _ (Ex.refl G) (Ex.refl H) S (.str _)⟩)
    | _ => cases hd
  | lst i =>
    cases b with
    | lst j =>
      obtain ⟨p, vs, rfl, h1, h2⟩ := ha
      obtain ⟨q, ws, rfl, h3, h4⟩ := hb
      obtain ⟨c, rfl⟩ := if_some hd
      refine .inr (.inr (.inl ⟨p, q, vs, ws, rfl, rfl, h1, h3, sz (by rw [h2.length, h4.length]; exact c), give_new S k fun r g => ?_⟩))
      exact .lst upd_same ((h2.append h4).mono (Ex.new g))
    | _ => cases hd
  | tup i =>
    cases b with
    | tup j =>
      cases ha with
      | tup h1 h2 =>
        cases hb with
        | tup h3 h4 =>
          obtain ⟨c, rfl⟩ := if_some hd
          refine .inr (.inr (.inr ⟨_, _, _, _, rfl, rfl, S.gh.st h1, S.gh.st h3, sz (by rw [h2.length, h4.length]; exact c), fun e => ?_, fun n e => ?_, fun n n2 => give_new S k fun r g => ?_⟩))
          · subst e
            cases i with
            | nil => exact k G H _ (Ex.refl G) (Ex.refl H) S (.tup h3 h4)
            | cons _ _ => cases h2
          · subst e
            cases j with
            | nil => rw [List.append_nil] at k; exact k G H _ (Ex.refl G) (Ex.refl H) S (.tup h1 h2)
            | cons _ _ => cases h4
          · exact .tup (SqT.of upd_same) ((h2.append h4).mono (Ex.new g))
    | _ => cases hd
  | _ => cases b <;> cases hd
abbrev rMul2 : R2 := fun x y H Q => (rI CMulW fun i j => .int (i * j)) x y H Q ∨ rRep x y H Q
theorem op_mul2 {X : Cx} : OpR X (binaryOp .Mult) rMul2 := OpR.or op_mulW op_rep
theorem opS_mul : OpS K rMul2 gMul := by
  intro Φ G H σ E x y a b d Q S ha hb hd k
  cases a with
  | int i =>
    cases b with
    | int j => exact .inl (opS_mulI Φ G H σ E x y (.int i) (.int j) d Q S ha hb hd k)
    | _ => cases hd
  | lst i =>
    cases b with
    | int j =>
      obtain ⟨p, vs, rfl, h1, h2⟩ := ha
      cases hb
      obtain ⟨⟨c1, c2, c3⟩, rfl⟩ := if_some hd
      refine .inr ⟨p, j, vs, rfl, rfl, h1, by omega, by omega, sz (by rw [h2.length]; exact c3), give_new S k fun r g => ?_⟩
      exact .lst upd_same ((h2.flat _).mono (Ex.new g))
    | _ => cases hd
  | _ => cases b <;> cases hd
theorem opS_eq : OpS K (rEqD K) gEq := by
  intro Φ G H σ E x y a b d Q S ha hb hd k
  obtain ⟨c, rfl⟩ := if_some hd
  obtain ⟨c1, c2⟩ := Bool.and_eq_true_iff.mp c
  obtain ⟨p1, s1⟩ := Bool.and_eq_true_iff.mp c1
  obtain ⟨p2, s2⟩ := Bool.and_eq_true_iff.mp c2
  exact ⟨_, _, ha.dp p1 S.gh, hb.dp p2 S.gh, s1, s2, k G H _ (Ex.refl G) (Ex.refl H) S (.bl _)⟩
theorem opS_ne : OpS K (rNeD K) gNe := by
  intro Φ G H σ E x y a b d Q S ha hb hd k
  obtain ⟨c, rfl⟩ := if_some hd
  obtain ⟨c1, c2⟩ := Bool.and_eq_true_iff.mp c
  obtain ⟨p1, s1⟩ := Bool.and_eq_true_iff.mp c1
  obtain ⟨p2, s2⟩ := Bool.and_eq_true_iff.mp c2
  exact ⟨_, _, ha.dp p1 S.gh, hb.dp p2 S.gh, s1, s2, k G H _ (Ex.refl G) (Ex.refl H) S (.bl _)⟩
/-- x in l, flat things -/
def flatD : D → Bool
  | .non => true
  | .bl _ => true
  | .int _ => true
  | .str _ => true
  | _ => false
def vD : D → V
  | .bl b => .bl b
  | .int i => .int i
  | .str x => .str x
  | _ => .non
theorem Rp.flat {G : Hp} {v : V} {d : D} (h : Rp K G v d) (f : flatD d = true) : v = vD d ∧ flatV v = true := by
  cases h with
  | non => exact ⟨rfl, rfl⟩
  | bl b => exact ⟨rfl, rfl⟩
  | int b => exact ⟨rfl, rfl⟩
  | str b => exact ⟨rfl, rfl⟩
  | _ => cases f
theorem RpA.flats {G : Hp} {vs : List V} {ds : List D} (h : RpA K G vs ds) (f : ds.all flatD = true) : vs = ds.map vD ∧ vs.all flatV = true := by
  induction ds generalizing vs with
  | nil => cases h; exact ⟨rfl, rfl⟩
  | cons d ds ih =>
    cases h with
    | cons h1 h2 =>
      rw [List.all_cons] at f
      obtain ⟨f1, f2⟩ := Bool.and_eq_true_iff.mp f
      obtain ⟨a1, a2⟩ := h1.flat f1
      obtain ⟨b1, b2⟩ := ih h2 f2
      subst b1
      exact ⟨by rw [a1]; rfl, by rw [List.all_cons, a2, b2]; rfl⟩
def itemsD : D → Option (List D)
  | .lst l => some l
  | .rol l => some l
  | .tup l => some l
  | _ => none
theorem Sh.items {G H : Hp} {v : V} {d : D} {l : List D} (h : Sh K G H v d) (e : Ex G H) (hl : itemsD d = some l) : ∃ p vs, v = .ref p ∧ (SqL K H p vs ∨ SqT K H p vs) ∧ RpA K G vs l := by
  cases d with
  | lst l' => cases hl; obtain ⟨p, vs, h1, h2, h3⟩ := h; exact ⟨p, vs, h1, .inl (SqL.of h2), h3⟩
  | rol l' => cases hl; cases h with | rol h1 h2 => exact ⟨_, _, rfl, .inl (e.sl h1), h2⟩
  | tup l' => cases hl; cases h with | tup h1 h2 => exact ⟨_, _, rfl, .inr (e.st h1), h2⟩
  | _ => cases hl
def gInB (neg : Bool) : D → D → Option D := fun a b => match itemsD b with
  | some l => if (flatD a && l.all flatD) = true then some (.bl (if neg then !inV (vD a) (l.map vD) else inV (vD a) (l.map vD))) else none
  | none => none
theorem opS_in (neg : Bool) : OpS K (rIn K neg) (gInB neg) := by
  intro Φ G H σ E x y a b d Q S ha hb hd k
  unfold gInB at hd
  cases e : itemsD b with
  | none => rw [e] at hd; cases hd
  | some l =>
    rw [e] at hd
    obtain ⟨c, rfl⟩ := if_some hd
    obtain ⟨c1, c2⟩ := Bool.and_eq_true_iff.mp c
    obtain ⟨p, vs, rfl, hs, hr⟩ := hb.items S.gh e
    have ha' : Rp K G x a := by
      cases a with
      | lst _ => cases c1
      | _ => exact ha
    obtain ⟨a1, a2⟩ := ha'.flat c1
    obtain ⟨b1, b2⟩ := hr.flats c2
    subst a1 b1
    exact ⟨p, _, rfl, hs, a2, b2, k G H _ (Ex.refl G) (Ex.refl H) S (.bl _)⟩
end

section
variable {X : Cx} {W : WJ} {a b c e o : Expr} {es : List Expr} {pos : Pos} {fa fb fc : Env → R D}
theorem j_add (ha : JE X W a fa) (hb : JO X W b fb) : JE X W (.BinOp a .Add b pos) (fop gAdd fa fb) := j_op op_add4 opS_add ha hb
theorem j_sub (ha : JE X W a fa) (hb : JO X W b fb) : JE X W (.BinOp a .Sub b pos) (fop gSub fa fb) := j_op op_sub opS_I0 ha hb
theorem j_mul (ha : JE X W a fa) (hb : JO X W b fb) : JE X W (.BinOp a .Mult b pos) (fop gMul fa fb) := j_op op_mul2 opS_mul ha hb
theorem j_fdiv (ha : JE X W a fa) (hb : JO X W b fb) : JE X W (.BinOp a .FloorDiv b pos) (fop gDiv fa fb) := j_op op_fdivW opS_div ha hb
theorem j_mod (ha : JE X W a fa) (hb : JO X W b fb) : JE X W (.BinOp a .Mod b pos) (fop gMod fa fb) := j_op op_mod opS_mod ha hb
theorem j_pow (ha : JE X W a fa) (hb : JO X W b fb) : JE X W (.BinOp a .Pow b pos) (fop gPow fa fb) := j_op op_pow opS_pow ha hb
theorem j_shl (ha : JE X W a fa) (hb : JO X W b fb) : JE X W (.BinOp a .LShift b pos) (fop gShl fa fb) := j_op op_shl opS_shl ha hb
theorem j_shr (ha : JE X W a fa) (hb : JO X W b fb) : JE X W (.BinOp a .RShift b pos) (fop gShr fa fb) := j_op op_shr opS_shr ha hb
theorem j_and_ (ha : JE X W a fa) (hb : JO X W b fb) : JE X W (.BinOp a .BitAnd b pos) (fop gAnd fa fb) := j_op op_and opS_I0 ha hb
theorem j_or_ (ha : JE X W a fa) (hb : JO X W b fb) : JE X W (.BinOp a .BitOr b pos) (fop gOr fa fb) := j_op op_or opS_I0 ha hb
theorem j_xor_ (ha : JE X W a fa) (hb : JO X W b fb) : JE X W (.BinOp a .BitXor b pos) (fop gXor fa fb) := j_op op_xor opS_I0 ha hb
theorem jq_add {qa qb : Env → Option D} (ha : JQ X a qa) (hb : JQ X b qb) : JQ X (.BinOp a .Add b pos) (fun E => (qa E).bind fun x => (qb E).bind fun y => gAdd x y) := jq_op op_add4 opS_add ha hb
theorem jq_sub {qa qb : Env → Option D} (ha : JQ X a qa) (hb : JQ X b qb) : JQ X (.BinOp a .Sub b pos) (fun E => (qa E).bind fun x => (qb E).bind fun y => gSub x y) := jq_op op_sub opS_I0 ha hb
/-- one-place -/
def fun1 (g : D → Option D) (fa : Env → R D) : Env → R D := fun E => (fa E).bind fun a E => match g a with | some d => .ok d E | none => .stuck
def gNeg : D → Option D
  | .int i => some (.int (-i))
  | _ => none
def gInv : D → Option D
  | .int i => some (.int (Builtin.bitNot i))
  | _ => none
theorem j_neg (ha : JE X W a fa) : JE X W (.UnaryOp .USub a pos) (fun1 gNeg fa) := by
  obtain ⟨ta, pa, sa⟩ := ha
  refine ⟨_, pe_un un_neg pa, fun Φ G H σ E Q S hp => ?_⟩
  refine sa.go S hp fun a E1 G1 H1 x _ e1 S1 r1 hp => ?_
  obtain ⟨d, hd, hq⟩ := hp.opt
  cases a with
  | int i => cases hd; cases r1; exact ⟨i, rfl, hq G1 H1 _ (Ex.refl G1) S1 (.int _)⟩
  | _ => cases hd
theorem jq_neg {qa : Env → Option D} (ha : JQ X a qa) : JQ X (.UnaryOp .USub a pos) (fun E => (qa E).bind gNeg) := by
  obtain ⟨ta, pa, sa⟩ := ha
  refine ⟨_, pe_un un_neg pa, fun Φ G H σ E Q d S hf k => ?_⟩
  obtain ⟨x, hx, hf⟩ := Option.bind_eq_some_iff.mp hf
  refine sa Φ G H σ E _ x S hx fun G1 H1 u e1 f1 S1 r1 => ?_
  cases x with
  | int i => cases hf; cases r1; exact ⟨i, rfl, k G1 H1 _ e1 f1 S1 (.int _)⟩
  | _ => cases hf
theorem j_inv (ha : JE X W a fa) : JE X W (.UnaryOp .Invert a pos) (fun1 gInv fa) := by
  obtain ⟨ta, pa, sa⟩ := ha
  refine ⟨_, pe_un un_inv pa, fun Φ G H σ E Q S hp => ?_⟩
  refine sa.go S hp fun a E1 G1 H1 x _ e1 S1 r1 hp => ?_
  obtain ⟨d, hd, hq⟩ := hp.opt
  cases a with
  | int i => cases hd; cases r1; exact ⟨i, rfl, hq G1 H1 _ (Ex.refl G1) S1 (.int _)⟩
  | _ => cases hd

/-! ### comparisons -/
theorem j_cmp {op : CmpOp} {r : R2} {g : D → D → Option D} (ho : OpR X (compareOp op) r) (hs : OpS X.K r g) (ha : JE X W a fa) (hb : JO X W b fb) (hm : behindInMarks op b = false) : JE X W (.Compare a [op] [b] pos) (fop g fa fb) := by
  obtain ⟨ta, pa, sa⟩ := ha
  obtain ⟨tb, pb, sb⟩ := hb
  exact ⟨_, pe_cmpR ho pa pb hm, snd_op hs sa sb⟩
theorem j_cmpB {op : CmpOp} {r : R2} {g : D → D → Option D} {fb : Env → Option D} (ho : OpR X (compareOp op) r) (hs : OpS X.K r g) (ha : JO X W a fa) (hb : JQ X b fb) (hm : behindInMarks op b = false) : JE X W (.Compare a [op] [b] pos) (fopB g fa fb) := by
  obtain ⟨ta, pa, sa⟩ := ha
  obtain ⟨tb, pb, sb⟩ := hb
  exact ⟨_, pe_cmpR ho pa pb hm, snd_opB hs sa sb⟩
/-- a value as a test: a bool -/
def fTest (f : Env → R D) : Env → R Bool := fun E => (f E).bind fun d E => match d with | .bl k => .ok k E | _ => .stuck
theorem snd_test {te : TE} {f : Env → R D} (h : Snd X.K W (relE X.K) te f) : Snd X.K W relT (tTest te) (fTest f) := by
  intro Φ G H σ E Q S hp
  refine h.go S hp fun a E1 G1 H1 x _ e1 S1 r1 hp => ?_
  cases a with
  | bl k => cases r1; exact ⟨k, rfl, hp G1 H1 k (Ex.refl G1) S1 rfl⟩
  | _ => exact hp.elim
theorem jt_cmp {op : CmpOp} {r : R2} {g : D → D → Option D} (ho : OpR X (compareOp op) r) (hs : OpS X.K r g) (ha : JE X W a fa) (hb : JO X W b fb) (hm : behindInMarks op b = false) : JT X W (.Compare a [op] [b] pos) (fTest (fop g fa fb)) := by
  obtain ⟨ta, pa, sa⟩ := ha
  obtain ⟨tb, pb, sb⟩ := hb
  exact ⟨_, pt_cmpR ho pa pb hm, snd_test (snd_op hs sa sb)⟩
theorem jt_cmpB {op : CmpOp} {r : R2} {g : D → D → Option D} {fb : Env → Option D} (ho : OpR X (compareOp op) r) (hs : OpS X.K r g) (ha : JO X W a fa) (hb : JQ X b fb) (hm : behindInMarks op b = false) : JT X W (.Compare a [op] [b] pos) (fTest (fopB g fa fb)) := by
  obtain ⟨ta, pa, sa⟩ := ha
  obtain ⟨tb, pb, sb⟩ := hb
  exact ⟨_, pt_cmpR ho pa pb hm, snd_test (snd_opB hs sa sb)⟩
/-- a op b op' c -/
def fChain (g g' : D → D → Option D) (fa fb fc : Env → R D) : Env → R D := fun E => (fa E).bind fun a E => (fb E).bind fun b E => match g a b with
  | some (.bl true) => (fc E).bind fun c E => match g' b c with | some d => .ok d E | none => .stuck
  | some (.bl false) => .ok (.bl false) E
  | _ => .stuck
theorem snd_chain {r r' : R2} {g g' : D → D → Option D} {ta tb tc : TE} (hs : OpS X.K r g) (hs' : OpS X.K r' g') (ha : Snd X.K W (relE X.K) ta fa) (hb : Snd X.K W (relE X.K) tb fb) (hc : Snd X.K W (relO X.K) tc fc) : Snd X.K W (relE X.K) (tChain r r' ta tb tc) (fChain g g' fa fb fc) := by
  intro Φ G H σ E Q S hp
  refine ha.go S hp fun a E1 G1 H1 x _ e1 S1 r1 hp => ?_
  refine hb.go S1 hp fun b E2 G2 H2 y _ e2 S2 r2 hp => ?_
  cases e : g a b with
  | none => rw [e] at hp; exact hp.elim
  | some d =>
    rw [e] at hp
    refine hs Φ G2 H2 σ E2 x y a b d _ S2 (Rp.sh S2.gh (Rp.mono e2 _ r1)) (Rp.sh S2.gh r2) e fun G3 H3 v e3 _ S3 r3 => ?_
    cases d with
    | bl k =>
      cases r3
      refine ⟨k, rfl, ?_⟩
      cases k with
      | true =>
        refine iteT ?_
        refine hc.go (⟨S3, W.mono _ _ _ e3 S2.c⟩ : SatC X.K W _ _ _ _ _) (Post.mono e3 hp) fun c E4 G4 H4 z _ e4 S4 r4 hp => ?_
        obtain ⟨d, hd, hq⟩ := hp.opt
        exact hs' Φ G4 H4 σ E4 y z b c d Q S4 (Rp.sh S4.gh (Rp.mono (e3.trans e4) _ r2)) r4 hd fun G' H' v e _ S' r => hq G' H' v e S' r
      | false => exact iteF (Post.mono e3 hp G3 H3 _ (Ex.refl G3) S3 (.bl _))
    | _ => exact hp.elim
theorem j_chain {op op' : CmpOp} {r r' : R2} {g g' : D → D → Option D} (ho : OpR X (compareOp op) r) (ho' : OpR X (compareOp op') r') (hs : OpS X.K r g) (hs' : OpS X.K r' g') (ha : JE X W a fa) (hb : JE X W b fb) (hc : JO X W c fc)
    (hm : lastMarks [op, op'] [b, c] = false := by with_unfolding_all rfl) : JE X W (.Compare a [op, op'] [b, c] pos) (fChain g g' fa fb fc) := by
  obtain ⟨ta, pa, sa⟩ := ha
  obtain ⟨tb, pb, sb⟩ := hb
  obtain ⟨tc, pc, sc⟩ := hc
  exact ⟨_, pe_chain ho ho' pa pb pc hm, snd_chain hs hs' sa sb sc⟩
theorem jt_chain {op op' : CmpOp} {r r' : R2} {g g' : D → D → Option D} (ho : OpR X (compareOp op) r) (ho' : OpR X (compareOp op') r') (hs : OpS X.K r g) (hs' : OpS X.K r' g') (ha : JE X W a fa) (hb : JE X W b fb) (hc : JO X W c fc)
    (hm : lastMarks [op, op'] [b, c] = false := by with_unfolding_all rfl) : JT X W (.Compare a [op, op'] [b, c] pos) (fTest (fChain g g' fa fb fc)) := by
  obtain ⟨ta, pa, sa⟩ := ha
  obtain ⟨tb, pb, sb⟩ := hb
  obtain ⟨tc, pc, sc⟩ := hc
  exact ⟨_, pt_chain ho ho' pa pb pc hm, snd_test (snd_chain hs hs' sa sb sc)⟩
/-- is None -/
def isNonD : D → Bool
  | .non => true
  | _ => false
def fIsN (neg : Bool) (fa : Env → R D) : Env → R D := fun E => (fa E).bind fun a E => .ok (.bl (if neg then !isNonD a else isNonD a)) E
theorem Sh.non {K : PySem.W.Frag} {G H : Hp} {v : V} {d : D} (h : Sh K G H v d) : decide (v = .non) = isNonD d := by
  cases d with
  | lst l => obtain ⟨p, vs, rfl, _⟩ := h; rfl
  | non => cases h; rfl
  | _ => cases h <;> rfl
theorem j_isN {j pos'} (ha : JO X W a fa) : JE X W (.Compare a [.Is] [.Constant .none j pos'] pos) (fIsN false fa) := by
  obtain ⟨ta, pa, sa⟩ := ha
  refine ⟨_, pe_cmp (pc_isN pa), fun Φ G H σ E Q S hp => ?_⟩
  refine sa.go S hp fun a E1 G1 H1 x _ e1 S1 r1 hp => ?_
  show Q (.bl (decide (x = .non))) H1
  rw [r1.non]
  exact hp G1 H1 _ (Ex.refl G1) S1 (.bl _)
theorem j_notN {j pos'} (ha : JO X W a fa) : JE X W (.Compare a [.IsNot] [.Constant .none j pos'] pos) (fIsN true fa) := by
  obtain ⟨ta, pa, sa⟩ := ha
  refine ⟨_, pe_cmp (pc_notN pa), fun Φ G H σ E Q S hp => ?_⟩
  refine sa.go S hp fun a E1 G1 H1 x _ e1 S1 r1 hp => ?_
  show Q (.bl (!decide (x = .non))) H1
  rw [r1.non]
  exact hp G1 H1 _ (Ex.refl G1) S1 (.bl _)
theorem jt_isN {j pos'} (ha : JO X W a fa) : JT X W (.Compare a [.Is] [.Constant .none j pos'] pos) (fTest (fIsN false fa)) := by
  obtain ⟨ta, pa, sa⟩ := ha
  refine ⟨_, pt_cmp (pc_isN pa), fun Φ G H σ E Q S hp => ?_⟩
  refine snd_test (te := tIsN ta) (f := fIsN false fa) (fun Φ G H σ E Q S hp => ?_) Φ G H σ E Q S hp
  refine sa.go S hp fun a E1 G1 H1 x _ e1 S1 r1 hp => ?_
  show Q (.bl (decide (x = .non))) H1
  rw [r1.non]
  exact hp G1 H1 _ (Ex.refl G1) S1 (.bl _)
theorem jt_notN {j pos'} (ha : JO X W a fa) : JT X W (.Compare a [.IsNot] [.Constant .none j pos'] pos) (fTest (fIsN true fa)) := by
  obtain ⟨ta, pa, sa⟩ := ha
  refine ⟨_, pt_cmp (pc_notN pa), fun Φ G H σ E Q S hp => ?_⟩
  refine snd_test (te := tNotN ta) (f := fIsN true fa) (fun Φ G H σ E Q S hp => ?_) Φ G H σ E Q S hp
  refine sa.go S hp fun a E1 G1 H1 x _ e1 S1 r1 hp => ?_
  show Q (.bl (!decide (x = .non))) H1
  rw [r1.non]
  exact hp G1 H1 _ (Ex.refl G1) S1 (.bl _)

/-! ### truth, and, or, not, if -/
def truD : D → Option Bool
  | .non => some false
  | .bl b => some b
  | .int i => some (i != 0)
  | .str x => if x.length ≤ 16777216 then some ((x.length : Int) != 0) else none
  | .lst l => some (!l.isEmpty)
  | .rol l => some (!l.isEmpty)
  | .tup l => some (!l.isEmpty)
  | .ins _ _ _ => none
theorem RpA.emp {K : PySem.W.Frag} {G : Hp} {vs : List V} {ds : List D} (h : RpA K G vs ds) : vs.isEmpty = ds.isEmpty := by cases h <;> rfl
theorem Sh.tru {K : PySem.W.Frag} {G H : Hp} {v : V} {d : D} {k : Bool} (h : Sh K G H v d) (e : Ex G H) (hk : truD d = some k) : TruV K v H k := by
  cases d with
  | lst l => obtain ⟨p, vs, rfl, h1, h2⟩ := h; cases hk; exact .inl ⟨vs, SqL.of h1, by rw [h2.emp]⟩
  | non => cases h; cases hk; rfl
  | bl b => cases h; cases hk; rfl
  | int b => cases h; cases hk; rfl
  | str x => cases h; obtain ⟨c, rfl⟩ := if_some hk; exact ⟨sz c, rfl⟩
  | rol l => cases h with | rol h1 h2 => cases hk; exact .inl ⟨_, e.sl h1, by rw [h2.emp]⟩
  | tup l => cases h with | tup h1 h2 => cases hk; exact .inr (.inl ⟨_, e.st h1, by rw [h2.emp]⟩)
  | ins _ _ _ => cases hk
def fTru (f : Env → R D) : Env → R Bool := fun E => (f E).bind fun d E => match truD d with | some k => .ok k E | none => .stuck
theorem jt_tru (ha : JO X W a fa) (he : ∀ whole, isTrue a X.env whole = (do let v ← whole; standAt a.pos; holding [v] (truthy v)) := by intro _; rfl) : JT X W a (fTru fa) := by
  obtain ⟨ta, pa, sa⟩ := ha
  refine ⟨_, pt_truth pa he, fun Φ G H σ E Q S hp => ?_⟩
  refine sa.go S hp fun a E1 G1 H1 x _ e1 S1 r1 hp => ?_
  cases e : truD a with
  | none => rw [e] at hp; exact hp.elim
  | some k => rw [e] at hp; exact ⟨k, r1.tru S1.gh e, hp G1 H1 k (Ex.refl G1) S1 rfl⟩
def fAnd (f g : Env → R Bool) : Env → R Bool := fun E => (f E).bind fun a E => if a = true then g E else .ok false E
def fOr (f g : Env → R Bool) : Env → R Bool := fun E => (f E).bind fun a E => if a = true then .ok true E else g E
def fNot (f : Env → R Bool) : Env → R Bool := fun E => (f E).bind fun a E => .ok (!a) E
variable {f g : Env → R Bool}
theorem JW.t (h : JW X W e f) : JT X W e f := by obtain ⟨te, h1, h2⟩ := h; exact ⟨te, h1.pt, h2⟩
theorem jw_and1 (h : JT X W a f) : JW X W (.BoolOp .And [a] pos) f := by obtain ⟨te, h1, h2⟩ := h; exact ⟨te, pw_and1 h1, h2⟩
theorem jw_or1 (h : JT X W a f) : JW X W (.BoolOp .Or [a] pos) f := by obtain ⟨te, h1, h2⟩ := h; exact ⟨te, pw_or1 h1, h2⟩
theorem jw_and {rest : List Expr} (h : JT X W a f) (h' : JW X W (.BoolOp .And (b :: rest) pos) g) : JW X W (.BoolOp .And (a :: b :: rest) pos) (fAnd f g) := by
  obtain ⟨te, h1, h2⟩ := h
  obtain ⟨tu, h3, h4⟩ := h'
  refine ⟨_, pw_and h1 h3, fun Φ G H σ E Q S hp => ?_⟩
  refine h2.go S hp fun a E1 G1 H1 x _ e1 S1 r1 hp => ?_
  subst r1
  cases a with
  | true => exact iteT (h4 Φ G1 H1 σ E1 Q S1 hp)
  | false => exact iteF (hp G1 H1 _ (Ex.refl G1) S1 rfl)
theorem jw_or {rest : List Expr} (h : JT X W a f) (h' : JW X W (.BoolOp .Or (b :: rest) pos) g) : JW X W (.BoolOp .Or (a :: b :: rest) pos) (fOr f g) := by
  obtain ⟨te, h1, h2⟩ := h
  obtain ⟨tu, h3, h4⟩ := h'
  refine ⟨_, pw_or h1 h3, fun Φ G H σ E Q S hp => ?_⟩
  refine h2.go S hp fun a E1 G1 H1 x _ e1 S1 r1 hp => ?_
  subst r1
  cases a with
  | false => exact iteF (h4 Φ G1 H1 σ E1 Q S1 hp)
  | true => exact iteT (hp G1 H1 _ (Ex.refl G1) S1 rfl)
theorem jt_not (h : JT X W a f) : JT X W (.UnaryOp .Not a pos) (fNot f) := by
  obtain ⟨te, h1, h2⟩ := h
  refine ⟨_, pt_not h1, fun Φ G H σ E Q S hp => ?_⟩
  refine h2.go S hp fun a E1 G1 H1 x _ e1 S1 r1 hp => ?_
  subst r1
  exact hp G1 H1 _ (Ex.refl G1) S1 rfl
/-- .. as values -/
def fAndV (f g : Env → R D) : Env → R D := fun E => (f E).bind fun a E => match a with | .bl true => g E | .bl false => .ok (.bl false) E | _ => .stuck
def fOrV (f g : Env → R D) : Env → R D := fun E => (f E).bind fun a E => match a with | .bl false => g E | .bl true => .ok (.bl true) E | _ => .stuck
def gNot : D → Option D
  | .bl b => some (.bl (!b))
  | _ => none
theorem j_one {op} (h : JE X W a fa) : JE X W (.BoolOp op [a] pos) fa := by obtain ⟨te, h1, h2⟩ := h; exact ⟨te, pe_one h1, h2⟩
theorem j_and {rest : List Expr} (h : JE X W a fa) (h' : JE X W (.BoolOp .And (b :: rest) pos) fb) : JE X W (.BoolOp .And (a :: b :: rest) pos) (fAndV fa fb) := by
  obtain ⟨te, h1, h2⟩ := h
  obtain ⟨tu, h3, h4⟩ := h'
  refine ⟨_, pe_and h1 h3, fun Φ G H σ E Q S hp => ?_⟩
  refine h2.go S hp fun a E1 G1 H1 x _ e1 S1 r1 hp => ?_
  cases a with
  | bl k =>
    cases r1
    refine ⟨k, rfl, ?_⟩
    cases k with
    | true => exact iteT (h4 Φ G1 H1 σ E1 Q S1 hp)
    | false => exact iteF (hp G1 H1 _ (Ex.refl G1) S1 (.bl _))
  | _ => exact hp.elim
theorem j_or {rest : List Expr} (h : JE X W a fa) (h' : JE X W (.BoolOp .Or (b :: rest) pos) fb) : JE X W (.BoolOp .Or (a :: b :: rest) pos) (fOrV fa fb) := by
  obtain ⟨te, h1, h2⟩ := h
  obtain ⟨tu, h3, h4⟩ := h'
  refine ⟨_, pe_or h1 h3, fun Φ G H σ E Q S hp => ?_⟩
  refine h2.go S hp fun a E1 G1 H1 x _ e1 S1 r1 hp => ?_
  cases a with
  | bl k =>
    cases r1
    refine ⟨k, rfl, ?_⟩
    cases k with
    | false => exact iteF (h4 Φ G1 H1 σ E1 Q S1 hp)
    | true => exact iteT (hp G1 H1 _ (Ex.refl G1) S1 (.bl _))
  | _ => exact hp.elim
theorem j_not (ha : JE X W a fa) : JE X W (.UnaryOp .Not a pos) (fun1 gNot fa) := by
  obtain ⟨ta, pa, sa⟩ := ha
  refine ⟨_, pe_not pa, fun Φ G H σ E Q S hp => ?_⟩
  refine sa.go S hp fun a E1 G1 H1 x _ e1 S1 r1 hp => ?_
  obtain ⟨d, hd, hq⟩ := hp.opt
  cases a with
  | bl i => cases hd; cases r1; exact ⟨i, rfl, hq G1 H1 _ (Ex.refl G1) S1 (.bl _)⟩
  | _ => cases hd
def fIf (t : Env → R Bool) (fa fb : Env → R D) : Env → R D := fun E => (t E).bind fun k E => if k = true then fa E else fb E
theorem j_if (ht : JT X W c f) (ha : JE X W a fa) (hb : JE X W b fb) : JE X W (.IfExp c a b pos) (fIf f fa fb) := by
  obtain ⟨tc, pc, sc⟩ := ht
  obtain ⟨ta, pa, sa⟩ := ha
  obtain ⟨tb, pb, sb⟩ := hb
  refine ⟨_, pe_ifExp pc pa pb, fun Φ G H σ E Q S hp => ?_⟩
  refine sc.go S hp fun k E1 G1 H1 x _ e1 S1 r1 hp => ?_
  subst r1
  cases k with
  | true => exact iteT (sa Φ G1 H1 σ E1 Q S1 hp)
  | false => exact iteF (sb Φ G1 H1 σ E1 Q S1 hp)

/-! ### arguments, displays -/
def fNil : Env → R (List D) := fun E => .ok [] E
def fCons (fa : Env → R D) (fr : Env → R (List D)) : Env → R (List D) := fun E => (fa E).bind fun a E => (fr E).bind fun r E => .ok (a :: r) E
variable {fr : Env → R (List D)}
theorem ja_nil : JA X W [] fNil := ⟨_, pa_nil, fun Φ G H σ E Q S hp => hp G H [] (Ex.refl G) S .nil⟩
theorem ja_cons (ha : JE X W e fa) (hr : JA X W es fr) (hs : starEach (e :: es) X.env = (false, eval e X.env) :: starEach es X.env := by rfl) : JA X W (e :: es) (fCons fa fr) := by
  obtain ⟨ta, pa, sa⟩ := ha
  obtain ⟨tr, pr, sr⟩ := hr
  refine ⟨_, pa_cons pa pr hs, fun Φ G H σ E Q S hp => ?_⟩
  refine sa.go S hp fun a E1 G1 H1 x _ e1 S1 r1 hp => ?_
  refine sr.go S1 hp fun r E2 G2 H2 xs _ e2 S2 r2 hp => ?_
  exact hp G2 H2 _ (Ex.refl G2) S2 (.cons (Rp.mono e2 _ r1) r2)
def fTup (fr : Env → R (List D)) : Env → R D := fun E => (fr E).bind fun l E => if l.length ≤ 16777216 then .ok (.tup l) E else .stuck
def fLst (fr : Env → R (List D)) : Env → R (List D) := fun E => (fr E).bind fun l E => if l.length ≤ 16777216 then .ok l E else .stuck
theorem j_tup {x1} (h : JA X W es fr) : JE X W (.Tuple es x1 pos) (fTup fr) := by
  obtain ⟨tr, pr, sr⟩ := h
  refine ⟨_, pe_tup pr, fun Φ G H σ E Q S hp => ?_⟩
  refine sr.go S hp fun l E1 G1 H1 xs _ e1 S1 r1 hp => ?_
  by_cases c : l.length ≤ 16777216
  · rw [if_pos c] at hp
    refine ⟨sz (by rw [r1.length]; exact c), fun p hn => ?_⟩
    have g := S1.gh.back hn
    exact hp _ _ _ (Ex.new g) (S1.new hn) (.tup (SqT.of upd_same) (r1.mono (Ex.new g)))
  · rw [if_neg c] at hp; exact hp.elim
/-- a new list, handed out as one's own -/
theorem relL.new {K : PySem.W.Frag} {Φ : Fr} {G H : Hp} {σ : St} {E : Env} {p : Addr} {vs : List V} {l : List D} (S : Sat K Φ G H σ E) (h : H p = none) (r : RpA K G vs l) : relL K Φ σ G (upd H p (.lst vs)) E l (.ref p) :=
  ⟨p, vs, rfl, upd_same, r, S.gh.back h, S.fh.back h, S.notOwn h⟩
theorem jl_lst (h : JA X W es fr) : JL X W (.List es pos) (fLst fr) := by
  obtain ⟨tr, pr, sr⟩ := h
  refine ⟨_, pe_lst pr, fun Φ G H σ E Q S hp => ?_⟩
  refine sr.go S hp fun l E1 G1 H1 xs _ e1 S1 r1 hp => ?_
  by_cases c : l.length ≤ 16777216
  · rw [if_pos c] at hp
    refine ⟨sz (by rw [r1.length]; exact c), fun p hn => ?_⟩
    exact hp _ _ _ (Ex.refl G1) (S1.newH hn) (relL.new S1 hn r1)
  · rw [if_neg c] at hp; exact hp.elim
/-- one's own thing is given free -/
theorem Sat.free {K : PySem.W.Frag} {Φ : Fr} {G H : Hp} {σ : St} {E : Env} (S : Sat K Φ G H σ E) {p : Addr} {o : HO} (hp : H p = some o) (g : G p = none) (f : Φ.F p = none) (n : NotOwn σ E p) : Sat K Φ (upd G p o) H σ E := by
  refine ⟨S.len, fun i s hs => ?_, fun a u h => ?_, S.fh, fun a ha => ?_, fun i s b q h1 hb h2 => ?_, S.di'⟩
  · obtain ⟨x, h1, h2⟩ := S.sl i s hs
    exact ⟨x, h1, h2.mono (Ex.new g) fun _ _ _ _ => rfl⟩
  · by_cases ha : a = p
    · subst ha; rw [upd_same] at h; rw [← h]; exact hp
    · rw [upd_ne ha] at h; exact S.gh a u h
  · have na : a ≠ p := fun z => by subst z; exact ha f
    rw [upd_ne na]
    exact S.fg a ha
  · have nq : q ≠ p := fun z => by subst z; exact n i s b h1 hb h2
    rw [upd_ne nq]
    exact S.ow' i s b q h1 hb h2
def fPub (f : Env → R (List D)) : Env → R D := fun E => (f E).bind fun l E => .ok (.lst l) E
theorem JL.toE (h : JL X W e fr) : JE X W e (fPub fr) := by
  obtain ⟨tr, pr, sr⟩ := h
  refine ⟨_, pr, fun Φ G H σ E Q S hp => ?_⟩
  refine sr.go S hp fun l E1 G1 H1 v _ e1 S1 r1 hp => ?_
  obtain ⟨p, vs, rfl, h1, h2, h3, h4, h5⟩ := r1
  exact hp _ _ _ (Ex.new h3) (S1.free h1 h3 h4 h5) (.lst upd_same (h2.mono (Ex.new h3)))
end
end J

namespace J
open PySem PySem.Spec PyProof.Rows L2

/-! ### calls of built-ins -/
def C1S (K : PySem.W.Frag) (r : List V → Hp → VK → Prop) (g : D → Option D) : Prop :=
  ∀ Φ G H σ E x a d Q, Sat K Φ G H σ E → Sh K G H x a → g a = some d → (∀ G' H' v, Ex G G' → Ex H H' → Sat K Φ G' H' σ E → Rp K G' v d → Q v H') → r [x] H Q
/-- .. a new list, one's own -/
def C1L (K : PySem.W.Frag) (r : List V → Hp → VK → Prop) (g : D → Option (List D)) : Prop :=
  ∀ Φ G H σ E x a d Q, Sat K Φ G H σ E → Sh K G H x a → g a = some d → (∀ G' H' v, Ex G G' → Ex H H' → Sat K Φ G' H' σ E → relL K Φ σ G' H' E d v → Q v H') → r [x] H Q
def C2S (K : PySem.W.Frag) (r : List V → Hp → VK → Prop) (g : D → D → Option D) : Prop :=
  ∀ Φ G H σ E x y a b d Q, Sat K Φ G H σ E → Rp K G x a → Sh K G H y b → g a b = some d → (∀ G' H' v, Ex G G' → Ex H H' → Sat K Φ G' H' σ E → Rp K G' v d → Q v H') → r [x, y] H Q
section
variable {X : Cx} {W : WJ} {a b c e o : Expr} {es : List Expr} {p pos : Pos} {fa fb fc : Env → R D} {x : Str} {id T : String} {r : List V → Hp → VK → Prop}
theorem snd_c1 {g : D → Option D} {ta : TE} (hs : C1S X.K r g) (sa : Snd X.K W (relO X.K) ta fa) : Snd X.K W (relE X.K) (tCB r (tCons ta tNil)) (fun1 g fa) := by
  intro Φ G H σ E Q S hp
  refine sa.go S hp fun a E1 G1 H1 x _ e1 S1 r1 hp => ?_
  obtain ⟨d, hd, hq⟩ := hp.opt
  exact hs Φ G1 H1 σ E1 x a d Q S1 r1 hd fun G' H' v e _ S' r => hq G' H' v e S' r
theorem snd_c2 {g : D → D → Option D} {ta tb : TE} (hs : C2S X.K r g) (sa : Snd X.K W (relE X.K) ta fa) (sb : Snd X.K W (relO X.K) tb fb) : Snd X.K W (relE X.K) (tCB r (tCons ta (tCons tb tNil))) (fop g fa fb) := by
  intro Φ G H σ E Q S hp
  refine sa.go S hp fun a E1 G1 H1 x _ e1 S1 r1 hp => ?_
  refine sb.go S1 hp fun b E2 G2 H2 y _ e2 S2 r2 hp => ?_
  obtain ⟨d, hd, hq⟩ := hp.opt
  exact hs Φ G2 H2 σ E2 x y a b d Q S2 (Rp.mono e2 _ r1) r2 hd fun G' H' v e _ S' r => hq G' H' v e S' r
def fun1L (g : D → Option (List D)) (fa : Env → R D) : Env → R (List D) := fun E => (fa E).bind fun a E => match g a with | some d => .ok d E | none => .stuck
theorem snd_c1L {g : D → Option (List D)} {ta : TE} (hs : C1L X.K r g) (sa : Snd X.K W (relO X.K) ta fa) : Snd X.K W (relL X.K) (tCB r (tCons ta tNil)) (fun1L g fa) := by
  intro Φ G H σ E Q S hp
  refine sa.go S hp fun a E1 G1 H1 x _ e1 S1 r1 hp => ?_
  cases e : g a with
  | none => rw [e] at hp; exact hp.elim
  | some d =>
    rw [e] at hp
    exact hs Φ G1 H1 σ E1 x a d Q S1 r1 e fun G' H' v e' _ S' r => hp G' H' v e' S' r
theorem j_b1 {g : D → Option D} (hc : CallR X (.builtin id) r) (hs : C1S X.K r g) (hm : X.mg x = none) (hv : bootBuiltins x = some (.builtin id)) (ha : JO X W a fa) (hg : Gl X x := by rfl) (hn : x ≠ "__name__" := by decide) (hdb : (x == ("__debug__" : Str)) = false := by decide)
    (he : starEach [a] X.env = (false, eval a X.env) :: starEach [] X.env := by rfl) (hpl : (backTo pos (starEach [] X.env)).any (·.1) = false := by rfl) : JE X W (.Call (.Name x p) [a] [] pos) (fun1 g fa) := by
  obtain ⟨ta, pa, sa⟩ := ha
  exact ⟨_, pe_callB hc hg hm hv (pa_cons pa pa_nil he) hn hdb he hpl, snd_c1 hs sa⟩
theorem j_t1 {g : D → Option D} (hc : CallR X (.type T) r) (hs : C1S X.K r g) (hm : X.mg x = none) (hv : bootBuiltins x = some (.type T)) (ha : JO X W a fa) (hg : Gl X x := by rfl) (hn : x ≠ "__name__" := by decide) (hdb : (x == ("__debug__" : Str)) = false := by decide)
    (he : starEach [a] X.env = (false, eval a X.env) :: starEach [] X.env := by rfl) (hpl : (backTo pos (starEach [] X.env)).any (·.1) = false := by rfl) : JE X W (.Call (.Name x p) [a] [] pos) (fun1 g fa) := by
  obtain ⟨ta, pa, sa⟩ := ha
  exact ⟨_, pe_callTy hc hg hm hv (pa_cons pa pa_nil he) hn hdb he hpl, snd_c1 hs sa⟩
theorem jl_t1 {g : D → Option (List D)} (hc : CallR X (.type T) r) (hs : C1L X.K r g) (hm : X.mg x = none) (hv : bootBuiltins x = some (.type T)) (ha : JO X W a fa) (hg : Gl X x := by rfl) (hn : x ≠ "__name__" := by decide) (hdb : (x == ("__debug__" : Str)) = false := by decide)
    (he : starEach [a] X.env = (false, eval a X.env) :: starEach [] X.env := by rfl) (hpl : (backTo pos (starEach [] X.env)).any (·.1) = false := by rfl) : JL X W (.Call (.Name x p) [a] [] pos) (fun1L g fa) := by
  obtain ⟨ta, pa, sa⟩ := ha
  exact ⟨_, pe_callTy hc hg hm hv (pa_cons pa pa_nil he) hn hdb he hpl, snd_c1L hs sa⟩
theorem jl_b1 {g : D → Option (List D)} (hc : CallR X (.builtin id) r) (hs : C1L X.K r g) (hm : X.mg x = none) (hv : bootBuiltins x = some (.builtin id)) (ha : JO X W a fa) (hg : Gl X x := by rfl) (hn : x ≠ "__name__" := by decide) (hdb : (x == ("__debug__" : Str)) = false := by decide)
    (he : starEach [a] X.env = (false, eval a X.env) :: starEach [] X.env := by rfl) (hpl : (backTo pos (starEach [] X.env)).any (·.1) = false := by rfl) : JL X W (.Call (.Name x p) [a] [] pos) (fun1L g fa) := by
  obtain ⟨ta, pa, sa⟩ := ha
  exact ⟨_, pe_callB hc hg hm hv (pa_cons pa pa_nil he) hn hdb he hpl, snd_c1L hs sa⟩
theorem j_b2 {g : D → D → Option D} (hc : CallR X (.builtin id) r) (hs : C2S X.K r g) (hm : X.mg x = none) (hv : bootBuiltins x = some (.builtin id)) (ha : JE X W a fa) (hb : JO X W b fb) (hg : Gl X x := by rfl) (hn : x ≠ "__name__" := by decide) (hdb : (x == ("__debug__" : Str)) = false := by decide)
    (he : starEach [a, b] X.env = (false, eval a X.env) :: starEach [b] X.env := by rfl) (he2 : starEach [b] X.env = (false, eval b X.env) :: starEach [] X.env := by rfl) (hpl : (backTo pos (starEach [b] X.env)).any (·.1) = false := by rfl) : JE X W (.Call (.Name x p) [a, b] [] pos) (fop g fa fb) := by
  obtain ⟨ta, pa, sa⟩ := ha
  obtain ⟨tb, pb, sb⟩ := hb
  exact ⟨_, pe_callB hc hg hm hv (pa_cons pa (pa_cons pb pa_nil he2) he) hn hdb he hpl, snd_c2 hs sa sb⟩
end
section
variable {K : PySem.W.Frag}
abbrev rLen_ (K : PySem.W.Frag) : List V → Hp → VK → Prop := fun xs H Q => ∃ x n, xs = [x] ∧ LenV K x H n ∧ Q (.int n) H
def gLen : D → Option D
  | .str x => if x.length ≤ 16777216 then some (.int (x.length : Nat)) else none
  | .lst l => some (.int (l.length : Nat))
  | .rol l => some (.int (l.length : Nat))
  | .tup l => some (.int (l.length : Nat))
  | _ => none
theorem c1_len : C1S K (rLen_ K) gLen := by
  intro Φ G H σ E x a d Q S ha hd k
  cases a with
  | str z => cases ha; obtain ⟨c, rfl⟩ := if_some hd; exact ⟨_, _, rfl, ⟨sz c, rfl⟩, k G H _ (Ex.refl G) (Ex.refl H) S (.int _)⟩
  | lst l => obtain ⟨p, vs, rfl, h1, h2⟩ := ha; cases hd; exact ⟨_, l.length, rfl, .inl ⟨vs, SqL.of h1, h2.length.symm⟩, k G H _ (Ex.refl G) (Ex.refl H) S (.int _)⟩
  | rol l => cases ha with | rol h1 h2 => cases hd; exact ⟨_, l.length, rfl, .inl ⟨_, S.gh.sl h1, h2.length.symm⟩, k G H _ (Ex.refl G) (Ex.refl H) S (.int _)⟩
  | tup l => cases ha with | tup h1 h2 => cases hd; exact ⟨_, l.length, rfl, .inr ⟨_, S.gh.st h1, h2.length.symm⟩, k G H _ (Ex.refl G) (Ex.refl H) S (.int _)⟩
  | _ => cases hd
def gAbs : D → Option D
  | .int i => some (.int (if i < 0 then -i else i))
  | _ => none
theorem c1_abs : C1S K (fun xs H Q => ∃ i, xs = [.int i] ∧ Q (.int (if i < 0 then -i else i)) H) gAbs := by
  intro Φ G H σ E x a d Q S ha hd k
  cases a with
  | int i => cases ha; cases hd; exact ⟨i, rfl, k G H _ (Ex.refl G) (Ex.refl H) S (.int _)⟩
  | _ => cases hd
def gIntF : D → Option D
  | .int i => some (.int i)
  | .bl b => some (.int (if b then 1 else 0))
  | _ => none
theorem c1_int : C1S K (fun xs H Q => (∃ i, xs = [.int i] ∧ Q (.int i) H) ∨ ∃ k, xs = [.bl k] ∧ Q (.int (if k then 1 else 0)) H) gIntF := by
  intro Φ G H σ E x a d Q S ha hd k
  cases a with
  | int i => cases ha; cases hd; exact .inl ⟨i, rfl, k G H _ (Ex.refl G) (Ex.refl H) S (.int _)⟩
  | bl i => cases ha; cases hd; exact .inr ⟨i, rfl, k G H _ (Ex.refl G) (Ex.refl H) S (.int _)⟩
  | _ => cases hd
def gBoolF : D → Option D
  | .int i => some (.bl (i != 0))
  | .bl b => some (.bl b)
  | _ => none
theorem c1_bool : C1S K (fun xs H Q => (∃ i, xs = [.int i] ∧ Q (.bl (i != 0)) H) ∨ ∃ k, xs = [.bl k] ∧ Q (.bl k) H) gBoolF := by
  intro Φ G H σ E x a d Q S ha hd k
  cases a with
  | int i => cases ha; cases hd; exact .inl ⟨i, rfl, k G H _ (Ex.refl G) (Ex.refl H) S (.bl _)⟩
  | bl i => cases ha; cases hd; exact .inr ⟨i, rfl, k G H _ (Ex.refl G) (Ex.refl H) S (.bl _)⟩
  | _ => cases hd
def gStrF : D → Option D
  | .int i => if i.natAbs.log2 < 1920 then some (.str (toString i)) else none
  | _ => none
theorem c1_str : C1S K (fun xs H Q => ∃ i, xs = [.int i] ∧ i.natAbs.log2 < 1920 ∧ Q (.str (toString i)) H) gStrF := by
  intro Φ G H σ E x a d Q S ha hd k
  cases a with
  | int i => cases ha; obtain ⟨c, rfl⟩ := if_some hd; exact ⟨i, rfl, c, k G H _ (Ex.refl G) (Ex.refl H) S (.str _)⟩
  | _ => cases hd
/-- a list of ints, told as such -/
def intsD : List D → Option (List Int)
  | [] => some []
  | .int i :: l => (intsD l).map (i :: ·)
  | _ :: _ => none
theorem intsD_map (ns : List Int) : intsD (ns.map D.int) = some ns := by
  induction ns with
  | nil => rfl
  | cons n ns ih => simp [intsD, ih]
theorem intsD_eq : ∀ {l : List D} {ns : List Int}, intsD l = some ns → l = ns.map D.int
  | [], ns, h => by cases h; rfl
  | .int i :: l, ns, h => by
    obtain ⟨ms, h1, rfl⟩ := Option.map_eq_some_iff.mp (show (intsD l).map (i :: ·) = some ns from h)
    rw [intsD_eq h1]; rfl
  | .non :: l, ns, h => by cases h
  | .bl _ :: l, ns, h => by cases h
  | .str _ :: l, ns, h => by cases h
  | .tup _ :: l, ns, h => by cases h
  | .lst _ :: l, ns, h => by cases h
  | .rol _ :: l, ns, h => by cases h
  | .ins _ _ _ :: l, ns, h => by cases h
def listD : D → Option (List D)
  | .lst l => some l
  | .rol l => some l
  | _ => none
theorem Sh.listV {G H : Hp} {v : V} {d : D} {l : List D} (h : Sh K G H v d) (e : Ex G H) (hl : listD d = some l) : ∃ p vs, v = .ref p ∧ SqL K H p vs ∧ RpA K G vs l := by
  cases d with
  | lst l' => cases hl; obtain ⟨p, vs, h1, h2, h3⟩ := h; exact ⟨p, vs, h1, SqL.of h2, h3⟩
  | rol l' => cases hl; cases h with | rol h1 h2 => exact ⟨_, _, rfl, e.sl h1, h2⟩
  | _ => cases hl
def gSum : D → Option D := fun d => (listD d).bind fun l => (intsD l).map fun ns => .int ns.sum
theorem c1_sum : C1S K (rSum K) gSum := by
  intro Φ G H σ E x a d Q S ha hd k
  obtain ⟨l, h1, h2⟩ := Option.bind_eq_some_iff.mp hd
  obtain ⟨ns, h3, rfl⟩ := Option.map_eq_some_iff.mp h2
  obtain ⟨p, vs, rfl, h4, h5⟩ := ha.listV S.gh h1
  rw [intsD_eq h3] at h5
  have := h5.of_ints
  subst this
  exact ⟨p, ns, rfl, h4, k G H _ (Ex.refl G) (Ex.refl H) S (.int _)⟩
def maxI : List Int → Int
  | [] => 0
  | x :: xs => xs.foldl (fun a b => if a < b then b else a) x
def minI : List Int → Int
  | [] => 0
  | x :: xs => xs.foldl (fun a b => if b < a then b else a) x
theorem foldmax (x : Int) (xs : List Int) : xs.foldl (fun a b => if a < b then b else a) x ∈ x :: xs ∧ ∀ y ∈ x :: xs, y ≤ xs.foldl (fun a b => if a < b then b else a) x := by
  induction xs generalizing x with
  | nil => simp
  | cons z zs ih =>
    rw [List.foldl_cons]
    by_cases c : x < z
    · rw [if_pos c]
      obtain ⟨h1, h2⟩ := ih z
      refine ⟨List.mem_cons_of_mem _ h1, fun y hy => ?_⟩
      rcases List.mem_cons.mp hy with rfl | hy
      · have := h2 z (List.mem_cons_self ..); omega
      · exact h2 y hy
    · rw [if_neg c]
      obtain ⟨h1, h2⟩ := ih x
      refine ⟨?_, fun y hy => ?_⟩
      · rcases List.mem_cons.mp h1 with h | h
        · rw [h]; exact List.mem_cons_self ..
        · exact List.mem_cons_of_mem _ (List.mem_cons_of_mem _ h)
      · rcases List.mem_cons.mp hy with rfl | hy
        · exact h2 y (List.mem_cons_self ..)
        · rcases List.mem_cons.mp hy with rfl | hy
          · have := h2 x (List.mem_cons_self ..); omega
          · exact h2 y (List.mem_cons_of_mem _ hy)
theorem foldmin (x : Int) (xs : List Int) : xs.foldl (fun a b => if b < a then b else a) x ∈ x :: xs ∧ ∀ y ∈ x :: xs, xs.foldl (fun a b => if b < a then b else a) x ≤ y := by
  induction xs generalizing x with
  | nil => simp
  | cons z zs ih =>
    rw [List.foldl_cons]
    by_cases c : z < x
    · rw [if_pos c]
      obtain ⟨h1, h2⟩ := ih z
      refine ⟨List.mem_cons_of_mem _ h1, fun y hy => ?_⟩
      rcases List.mem_cons.mp hy with rfl | hy
      · have := h2 z (List.mem_cons_self ..); omega
      · exact h2 y hy
    · rw [if_neg c]
      obtain ⟨h1, h2⟩ := ih x
      refine ⟨?_, fun y hy => ?_⟩
      · rcases List.mem_cons.mp h1 with h | h
        · rw [h]; exact List.mem_cons_self ..
        · exact List.mem_cons_of_mem _ (List.mem_cons_of_mem _ h)
      · rcases List.mem_cons.mp hy with rfl | hy
        · exact h2 y (List.mem_cons_self ..)
        · rcases List.mem_cons.mp hy with rfl | hy
          · have := h2 x (List.mem_cons_self ..); omega
          · exact h2 y (List.mem_cons_of_mem _ hy)
theorem maxI_spec (x : Int) (xs : List Int) : maxI (x :: xs) ∈ x :: xs ∧ ∀ y ∈ x :: xs, y ≤ maxI (x :: xs) := foldmax x xs
theorem minI_spec (x : Int) (xs : List Int) : minI (x :: xs) ∈ x :: xs ∧ ∀ y ∈ x :: xs, minI (x :: xs) ≤ y := foldmin x xs
def gMax1 : D → Option D := fun d => (listD d).bind fun l => (intsD l).bind fun ns => if ns.isEmpty then none else some (.int (maxI ns))
def gMin1 : D → Option D := fun d => (listD d).bind fun l => (intsD l).bind fun ns => if ns.isEmpty then none else some (.int (minI ns))
theorem c1_max : C1S K (rMax K) gMax1 := by
  intro Φ G H σ E x a d Q S ha hd k
  obtain ⟨l, h1, h2⟩ := Option.bind_eq_some_iff.mp hd
  obtain ⟨ns, h3, h6⟩ := Option.bind_eq_some_iff.mp h2
  obtain ⟨p, vs, rfl, h4, h5⟩ := ha.listV S.gh h1
  rw [intsD_eq h3] at h5
  have := h5.of_ints
  subst this
  cases ns with
  | nil => cases h6
  | cons n ns =>
    cases h6
    refine ⟨p, n :: ns, rfl, h4, Nat.succ_pos _, fun m hm hle => ?_⟩
    obtain ⟨s1, s2⟩ := maxI_spec n ns
    have em : m = maxI (n :: ns) := Int.le_antisymm (s2 m hm) (hle _ s1)
    rw [em]
    exact k G H _ (Ex.refl G) (Ex.refl H) S (.int _)
theorem c1_min : C1S K (rMin K) gMin1 := by
  intro Φ G H σ E x a d Q S ha hd k
  obtain ⟨l, h1, h2⟩ := Option.bind_eq_some_iff.mp hd
  obtain ⟨ns, h3, h6⟩ := Option.bind_eq_some_iff.mp h2
  obtain ⟨p, vs, rfl, h4, h5⟩ := ha.listV S.gh h1
  rw [intsD_eq h3] at h5
  have := h5.of_ints
  subst this
  cases ns with
  | nil => cases h6
  | cons n ns =>
    cases h6
    refine ⟨p, n :: ns, rfl, h4, Nat.succ_pos _, fun m hm hle => ?_⟩
    obtain ⟨s1, s2⟩ := minI_spec n ns
    have em : m = minI (n :: ns) := Int.le_antisymm (hle _ s1) (s2 m hm)
    rw [em]
    exact k G H _ (Ex.refl G) (Ex.refl H) S (.int _)
def gMax2 : D → D → Option D := g2I fun i j => some (if j > i then j else i)
def gMin2 : D → D → Option D := g2I fun i j => some (if j < i then j else i)
theorem c2_I {h : Int → Int → Int} : C2S K (fun xs H Q => ∃ i j, xs = [.int i, .int j] ∧ Q (.int (h i j)) H) (g2I fun i j => some (h i j)) := by
  intro Φ G H σ E x y a b d Q S ha hb hd k
  cases a with
  | int i =>
    cases b with
    | int j => cases ha; cases hb; cases hd; exact ⟨i, j, rfl, k G H _ (Ex.refl G) (Ex.refl H) S (.int _)⟩
    | _ => cases hd
  | _ => cases hd
theorem c1_list : C1L K (fun xs H Q => ∃ p ys, xs = [.ref p] ∧ (SqL K H p ys ∨ SqT K H p ys) ∧ ∀ l, H l = none → Q (.ref l) (upd H l (.lst ys))) itemsD := by
  intro Φ G H σ E x a d Q S ha hd k
  obtain ⟨p, vs, rfl, h4, h5⟩ := ha.items S.gh hd
  exact ⟨p, vs, rfl, h4, fun l hl => k G _ _ (Ex.refl G) (Ex.new hl) (S.newH hl) (relL.new S hl h5)⟩
def gTuple : D → Option D
  | .lst l => some (.tup l)
  | .rol l => some (.tup l)
  | .tup l => some (.tup l)
  | _ => none
theorem c1_tuple : C1S K (fun xs H Q => ∃ p ys, xs = [.ref p] ∧ ((SqL K H p ys ∧ ∀ l, H l = none → Q (.ref l) (upd H l (.tup ys))) ∨ (SqT K H p ys ∧ Q (.ref p) H))) gTuple := by
  intro Φ G H σ E x a d Q S ha hd k
  cases a with
  | lst l =>
    obtain ⟨p, vs, rfl, h1, h2⟩ := ha; cases hd
    exact ⟨p, vs, rfl, .inl ⟨SqL.of h1, give_new S k fun q g => .tup (SqT.of upd_same) (h2.mono (Ex.new g))⟩⟩
  | rol l =>
    cases ha with
    | rol h1 h2 => cases hd; exact ⟨_, _, rfl, .inl ⟨S.gh.sl h1, give_new S k fun q g => .tup (SqT.of upd_same) (h2.mono (Ex.new g))⟩⟩
  | tup l =>
    cases ha with
    | tup h1 h2 => cases hd; exact ⟨_, _, rfl, .inr ⟨S.gh.st h1, k G H _ (Ex.refl G) (Ex.refl H) S (.tup h1 h2)⟩⟩
  | _ => cases hd
def tyName : D → Option String
  | .non => some "NoneType"
  | .bl _ => some "bool"
  | .int _ => some "int"
  | .str _ => some "str"
  | .lst _ => some "list"
  | .tup _ => some "tuple"
  | _ => none
/-- a tracked tuple -/
inductive TyS : String → Prop
/-- isinstance(x, T), T a built-in class -/
def gIsi (T : String) : D → Option D := fun d => (tyName d).bind fun n => (kitB n T).map D.bl
theorem Sh.tyx {G H : Hp} {v : V} {d : D} {n : String} (h : Sh K G H v d) (e : Ex G H) (hn : tyName d = some n) : TyX K H v (.type n) := by
  cases d with
  | non => cases h; cases hn; exact .base .non
  | bl b => cases h; cases hn; exact .base (.bl b)
  | int b => cases h; cases hn; exact .base (.int b)
  | str b => cases h; cases hn; exact .base (.str b)
  | lst l => obtain ⟨p, vs, rfl, h1, h2⟩ := h; cases hn; exact .base (.lst h1)
  | tup l =>
    cases hn
    cases h with
    | tup h1 h2 =>
      rcases e.st h1 with (h | ⟨o, h⟩) | ⟨o, its, m, hk, hc, _⟩
      · exact .base (.tup h)
      · exact .fTuple h
      · exact .kTuple hk hc
  | _ => cases hn
end
section
variable {X : Cx} {W : WJ} {a b c e o : Expr} {es : List Expr} {p pos : Pos} {fa fb fc : Env → R D} {x : Str} {id T : String} {r : List V → Hp → VK → Prop}
theorem j_isi {y : Str} {p2 : Pos} {T : String} (hm : X.mg "isinstance" = none) (hm2 : X.mg y = none) (hv2 : bootBuiltins y = some (.type T)) (ha : JO X W a fa) (hg : Gl X "isinstance" := by rfl) (hg2 : Gl X y := by rfl) (hn2 : y ≠ "__name__" := by decide) (hd2 : (y == ("__debug__" : Str)) = false := by decide)
    (he : starEach [a, .Name y p2] X.env = (false, eval a X.env) :: starEach [.Name y p2] X.env := by rfl) (he2 : starEach [.Name y p2] X.env = (false, eval (.Name y p2) X.env) :: starEach [] X.env := by rfl) (hpl : (backTo pos (starEach [.Name y p2] X.env)).any (·.1) = false := by rfl) :
    JE X W (.Call (.Name "isinstance" p) [a, .Name y p2] [] pos) (fun1 (gIsi T) fa) := by
  obtain ⟨ta, pa, sa⟩ := ha
  refine ⟨_, pe_callB call_isi hg hm (by decide +kernel) (pa_cons pa (pa_cons (pe_bltn (v := .ty T) hg2 hm2 hv2 rfl hn2 hd2) pa_nil he2) he) (by decide) (by decide) he hpl, fun Φ G H σ E Q S hp => ?_⟩
  refine sa.go S hp fun a E1 G1 H1 x _ e1 S1 r1 hp => ?_
  obtain ⟨d, hd, hq⟩ := hp.opt
  obtain ⟨n, h1, h2⟩ := Option.bind_eq_some_iff.mp hd
  obtain ⟨k, h3, rfl⟩ := Option.map_eq_some_iff.mp h2
  exact ⟨x, .ty T, .type n, .type T, k, rfl, .ty T, r1.tyx S1.gh h1, kit_ty h3, hq G1 H1 _ (Ex.refl G1) S1 (.bl _)⟩

/-! ### subscripts -/
def gIx : D → D → Option D := fun a b => match b with
  | .int i => (match a with
    | .lst l => atI l i
    | .rol l => atI l i
    | .tup l => atI l i
    | .str z => if z.length ≤ 16777216 then (atI z.cps.toList i).map fun c => .str ⟨#[c]⟩ else none
    | _ => none)
  | _ => none
theorem RpA.atI {K : PySem.W.Frag} {G : Hp} {vs : List V} {ds : List D} (h : RpA K G vs ds) {i : Int} {d : D} (e : L2.atI ds i = some d) : ∃ v, L2.atI vs i = some v ∧ Rp K G v d := by
  unfold L2.atI at e ⊢
  rw [h.length]
  obtain ⟨j, h1, h2⟩ := Option.bind_eq_some_iff.mp e
  obtain ⟨v, h3, h4⟩ := h.get h2
  exact ⟨v, by rw [h1]; exact h3, h4⟩
theorem opS_ix {K : PySem.W.Frag} : OpS K (rIx K) gIx := by
  intro Φ G H σ E x y a b d Q S ha hb hd k
  cases b with
  | int i =>
    cases hb
    cases a with
    | lst l =>
      obtain ⟨p, vs, rfl, h1, h2⟩ := ha
      obtain ⟨v, h3, h4⟩ := h2.atI hd
      exact .inl ⟨p, vs, i, v, rfl, rfl, SqL.of h1, h3, k G H _ (Ex.refl G) (Ex.refl H) S h4⟩
    | rol l =>
      cases ha with
      | rol h1 h2 =>
        obtain ⟨v, h3, h4⟩ := h2.atI hd
        exact .inl ⟨_, _, i, v, rfl, rfl, S.gh.sl h1, h3, k G H _ (Ex.refl G) (Ex.refl H) S h4⟩
    | tup l =>
      cases ha with
      | tup h1 h2 =>
        obtain ⟨v, h3, h4⟩ := h2.atI hd
        exact .inr (.inl ⟨_, _, i, v, rfl, rfl, S.gh.st h1, h3, k G H _ (Ex.refl G) (Ex.refl H) S h4⟩)
    | str z =>
      cases ha
      have hd' : (if z.length ≤ 16777216 then (L2.atI z.cps.toList i).map fun c => D.str ⟨#[c]⟩ else none) = some d := hd
      by_cases c : z.length ≤ 16777216
      · rw [if_pos c] at hd'
        obtain ⟨q, h1, rfl⟩ := Option.map_eq_some_iff.mp hd'
        exact .inr (.inr ⟨z, i, q, rfl, rfl, sz c, h1, k G H _ (Ex.refl G) (Ex.refl H) S (.str _)⟩)
      · rw [if_neg c] at hd'; cases hd'
    | _ => cases hd
  | _ => cases hd
theorem j_ix (ha : JE X W a fa) (hb : JO X W b fb) (hs : PlainIx b := by exact fun _ _ => rfl) : JE X W (.Subscript a b pos) (fop gIx fa fb) := by
  obtain ⟨ta, pa, sa⟩ := ha
  obtain ⟨tb, pb, sb⟩ := hb
  exact ⟨_, pe_ix ix_seq pa pb hs, snd_op opS_ix sa sb⟩
theorem j_ixB {qb : Env → Option D} (ha : JO X W a fa) (hb : JQ X b qb) (hs : PlainIx b := by exact fun _ _ => rfl) : JE X W (.Subscript a b pos) (fopB gIx fa qb) := by
  obtain ⟨ta, pa, sa⟩ := ha
  obtain ⟨tb, pb, sb⟩ := hb
  exact ⟨_, pe_ix ix_seq pa pb hs, snd_opB opS_ix sa sb⟩

/-! ### slices, the bounds quiet -/
def JPq (X : Cx) (e : Option Expr) (f : Env → Option (Option Int)) : Prop := ∃ te, PO X e te ∧ ∀ Φ G H σ E Q d, Sat X.K Φ G H σ E → f E = some d → (∀ G' H', Ex G G' → Ex H H' → Sat X.K Φ G' H' σ E → Q d H') → te σ H Q
def intP : Option D → Option (Option Int)
  | some (.int i) => some (some i)
  | _ => none
theorem jp_none : JPq X none (fun _ => some none) := ⟨_, po_none, fun Φ G H σ E Q d S hf k => by cases hf; exact k G H (Ex.refl G) (Ex.refl H) S⟩
theorem jp_some {q : Env → Option D} (h : JQ X e q) : JPq X (some e) (fun E => intP (q E)) := by
  obtain ⟨te, h1, h2⟩ := h
  refine ⟨_, po_some h1, fun Φ G H σ E Q d S hf k => ?_⟩
  have hf : intP (q E) = some d := hf
  cases e : q E with
  | none => rw [e] at hf; cases hf
  | some x =>
    rw [e] at hf
    cases x with
    | int i =>
      cases hf
      refine h2 Φ G H σ E _ _ S e fun G' H' v e1 e2 S' r => ?_
      cases r
      exact ⟨i, rfl, k G' H' e1 e2 S'⟩
    | _ => cases hf
def cutD (l : List D) (lo hi : Option Int) : List D := (l.drop (HT.sIx l.length 0 lo)).take (HT.sIx l.length l.length hi - HT.sIx l.length 0 lo)
theorem RpA.cut {K : PySem.W.Frag} {G : Hp} {vs : List V} {ds : List D} (h : RpA K G vs ds) (lo hi : Option Int) : RpA K G (cutV vs lo hi) (cutD ds lo hi) := by
  unfold cutV cutD
  rw [h.length]
  exact (h.drop _).take _
def gCut : D → Option Int → Option Int → Option D := fun d lo hi => match d with
  | .lst l => some (.lst (cutD l lo hi))
  | .rol l => some (.lst (cutD l lo hi))
  | .tup l => some (.tup (cutD l lo hi))
  | .str z => if z.length ≤ 16777216 then some (.str (cutS z lo hi)) else none
  | _ => none
def fCut (fa : Env → R D) (lo hi : Env → Option (Option Int)) : Env → R D := fun E => (fa E).bind fun a E => match (lo E).bind fun l => (hi E).bind fun h => gCut a l h with | some d => .ok d E | none => .stuck
def fCutL (fa : Env → R D) (lo hi : Env → Option (Option Int)) : Env → R (List D) := fun E => (fa E).bind fun a E => match (lo E).bind fun l => (hi E).bind fun h => (listD a).map fun xs => cutD xs l h with | some d => .ok d E | none => .stuck
abbrev rSl3 (K : PySem.W.Frag) : V → Option Int → Option Int → Hp → VK → Prop := fun x lo hi H Q => rSlL K x lo hi H Q ∨ (rSlA K x lo hi H Q ∨ rSlS x lo hi H Q)
theorem j_cut {lo hi : Option Expr} {p2 : Pos} {fl fh : Env → Option (Option Int)} (ha : JO X W e fa) (hl : JPq X lo fl) (hh : JPq X hi fh) : JE X W (.Subscript e (.Slice lo hi none p2) pos) (fCut fa fl fh) := by
  obtain ⟨ta, pa, sa⟩ := ha
  obtain ⟨tl, pl, sl⟩ := hl
  obtain ⟨th, ph, sh⟩ := hh
  refine ⟨_, pe_slice (r := rSl3 X.K) (SlR.or sl_list (SlR.or sl_tupA sl_str)) pa pl ph, fun Φ G H σ E Q S hp => ?_⟩
  refine sa.go S hp fun a E1 G1 H1 x _ e1 S1 r1 hp => ?_
  obtain ⟨d, hd, hq⟩ := hp.opt
  obtain ⟨l, h1, hd⟩ := Option.bind_eq_some_iff.mp hd
  obtain ⟨u, h2, hd⟩ := Option.bind_eq_some_iff.mp hd
  refine sl Φ G1 H1 σ E1 _ l S1 h1 fun G2 H2 e2 f2 S2 => ?_
  refine sh Φ G2 H2 σ E1 _ u S2 h2 fun G3 H3 e3 f3 S3 => ?_
  have r3 := r1.mono (e2.trans e3) (f2.trans f3)
  have k : ∀ G' H' v, Ex G3 G' → Ex H3 H' → Sat X.K Φ G' H' σ E1 → Rp X.K G' v d → Q v H' := fun G' H' v e _ S' r => hq G' H' v ((e2.trans e3).trans e) S' r
  cases a with
  | lst z =>
    obtain ⟨p, vs, rfl, h1, h2⟩ := r3
    cases hd
    exact .inl ⟨p, vs, rfl, SqL.of h1, give_new S3 k fun q g => .lst upd_same ((h2.cut l u).mono (Ex.new g))⟩
  | rol z =>
    cases r3 with
    | rol h1 h2 => cases hd; exact .inl ⟨_, _, rfl, S3.gh.sl h1, give_new S3 k fun q g => .lst upd_same ((h2.cut l u).mono (Ex.new g))⟩
  | tup z =>
    cases r3 with
    | tup h1 h2 =>
      cases hd
      refine .inr (.inl ⟨_, _, rfl, S3.gh.st h1, fun w => ?_, fun _ => give_new S3 k fun q g => .tup (SqT.of upd_same) ((h2.cut l u).mono (Ex.new g))⟩)
      refine k G3 H3 _ (Ex.refl G3) (Ex.refl H3) S3 (.tup h1 ?_)
      have e : cutD z l u = z := by
        unfold cutD
        rw [h2.length] at w
        rw [w.1, w.2, List.drop_zero, Nat.sub_zero, List.take_length]
      rw [e]; exact h2
  | str z =>
    cases r3
    obtain ⟨c, rfl⟩ := if_some (show (if z.length ≤ 16777216 then some (D.str (cutS z l u)) else none) = some d from hd)
    exact .inr (.inr ⟨z, rfl, sz c, k G3 H3 _ (Ex.refl G3) (Ex.refl H3) S3 (.str _)⟩)
  | _ => cases hd
theorem jl_cut {lo hi : Option Expr} {p2 : Pos} {fl fh : Env → Option (Option Int)} (ha : JO X W e fa) (hl : JPq X lo fl) (hh : JPq X hi fh) : JL X W (.Subscript e (.Slice lo hi none p2) pos) (fCutL fa fl fh) := by
  obtain ⟨ta, pa, sa⟩ := ha
  obtain ⟨tl, pl, sl⟩ := hl
  obtain ⟨th, ph, sh⟩ := hh
  refine ⟨_, pe_slice (r := rSlL X.K) sl_list pa pl ph, fun Φ G H σ E Q S hp => ?_⟩
  refine sa.go S hp fun a E1 G1 H1 x _ e1 S1 r1 hp => ?_
  cases hd : (fl E1).bind fun l => (fh E1).bind fun h => (listD a).map fun xs => cutD xs l h with
  | none => rw [hd] at hp; exact hp.elim
  | some d =>
    rw [hd] at hp
    obtain ⟨l, h1, hd⟩ := Option.bind_eq_some_iff.mp hd
    obtain ⟨u, h2, hd⟩ := Option.bind_eq_some_iff.mp hd
    obtain ⟨z, h3, rfl⟩ := Option.map_eq_some_iff.mp hd
    refine sl Φ G1 H1 σ E1 _ l S1 h1 fun G2 H2 e2 f2 S2 => ?_
    refine sh Φ G2 H2 σ E1 _ u S2 h2 fun G3 H3 e3 f3 S3 => ?_
    obtain ⟨p, vs, rfl, h4, h5⟩ := (r1.mono (e2.trans e3) (f2.trans f3)).listV S3.gh h3
    exact ⟨p, vs, rfl, h4, fun q hn => hp _ _ _ (e2.trans e3) (S3.newH hn) (relL.new S3 hn (h5.cut l u))⟩
/-- xs[::-1] of a list -/
def gRev : D → Option (List D) := fun d => (listD d).map List.reverse
theorem jl_rev {k : Nat} {p1 p2 p3 : Pos} (ha : JO X W e fa) : JL X W (.Subscript e (.Slice none none (some (.UnaryOp .USub (.Constant (.int 1) k p1) p2)) p3) pos) (fun1L gRev fa) := by
  obtain ⟨ta, pa, sa⟩ := ha
  refine ⟨_, pe_revL pa, fun Φ G H σ E Q S hp => ?_⟩
  refine sa.go S hp fun a E1 G1 H1 x _ e1 S1 r1 hp => ?_
  cases hd : gRev a with
  | none => rw [hd] at hp; exact hp.elim
  | some d =>
    rw [hd] at hp
    obtain ⟨z, h3, rfl⟩ := Option.map_eq_some_iff.mp hd
    obtain ⟨p, vs, rfl, h4, h5⟩ := r1.listV S1.gh h3
    exact ⟨p, vs, rfl, h4, fun q hn => hp _ _ _ (Ex.refl G1) (S1.newH hn) (relL.new S1 hn h5.reverse)⟩
/-- x.bit_length() -/
def gBits : D → Option D
  | .int i => some (.int (Builtin.Int.intBits i : Nat))
  | _ => none
theorem j_bits {apos : Pos} (ha : JE X W o fa) (hbase : attributeBase o "bit_length" X.env (eval o X.env) = eval o X.env := by rfl) (hline : (apos.endLine == pos.line) = true := by rfl) : JE X W (.Call (.Attribute o "bit_length" apos) [] [] pos) (fun1 gBits fa) := by
  obtain ⟨ta, pa, sa⟩ := ha
  refine ⟨_, pe_bits pa hbase hline, fun Φ G H σ E Q S hp => ?_⟩
  refine sa.go S hp fun a E1 G1 H1 x _ e1 S1 r1 hp => ?_
  obtain ⟨d, hd, hq⟩ := hp.opt
  cases a with
  | int i => cases hd; cases r1; exact ⟨i, rfl, hq G1 H1 _ (Ex.refl G1) S1 (.int _)⟩
  | _ => cases hd
/-- x.pop() of one's own list in slot i -/
def fPop (i : Nat) : Env → R D := fun E => match E[i]? with
  | some (.own b l) => (match l[l.length - 1]? with
    | some d => .ok d (E.set i (.own b l.dropLast))
    | none => .stuck)
  | _ => .stuck
theorem RpA.dropLast {K : PySem.W.Frag} {G : Hp} {vs : List V} {ds : List D} (h : RpA K G vs ds) : RpA K G vs.dropLast ds.dropLast := by
  rw [List.dropLast_eq_take, List.dropLast_eq_take, h.length]
  exact h.take _
theorem j_pop (i : Nat) {x : Str} {p2 apos : Pos} (hN : X.N[i]? = some x := by rfl) (hv : Vis X.env.scope x := by first | exact Or.inl rfl | exact Or.inr (Or.inl rfl) | exact Or.inr (Or.inr rfl)) (hd : (x == ("__debug__" : Str)) = false := by decide)
    (hcd : (x == ("__classdict__" : Str)) = false := by decide) (hbase : attributeBase (.Name x p2) "pop" X.env (eval (.Name x p2) X.env) = eval (.Name x p2) X.env := by rfl) (hline : (apos.endLine == pos.line) = true := by rfl) :
    JE X W (.Call (.Attribute (.Name x p2) "pop" apos) [] [] pos) (fPop i) := by
  refine ⟨_, pe_bm0 PySem.F.plainAttrs_list PySem.F.slot_list_pop PySem.F.type_list_pop mt_pop (pe_var hN hv hd hcd) hbase hline, fun Φ G H σ E Q S hp => ?_⟩
  unfold fPop at hp
  cases e : E[i]? with
  | none => rw [e] at hp; exact hp.elim
  | some s =>
    rw [e] at hp
    cases s with
    | no => exact hp.elim
    | obj _ _ _ _ => exact hp.elim
    | val d => exact hp.elim
    | own b l =>
      simp only at hp
      cases e2 : l[l.length - 1]? with
      | none => rw [e2] at hp; exact hp.elim
      | some d =>
        rw [e2] at hp
        obtain ⟨x, hx, q, vs, rfl, h1, h2⟩ := S.sl i _ e
        obtain ⟨v, h3, h4⟩ := h2.get e2
        refine ⟨.ref q, hx, .inl ⟨rfl, vs, SqL.of h1⟩, q, vs, v, rfl, rfl, h1, by rw [h2.length]; exact h3, ?_⟩
        exact hp G _ v (Ex.refl G) (S.write e hx h2.dropLast) h4
end

/-! ### statements -/
def PostS (K : PySem.W.Frag) (W : WX) (Φ : Fr) (G : Hp) (σ : St) (r : RS) (D : Ends) : Prop := match r with
  | .nx E' => ∀ G' H' σ', Ex G G' → Sat K Φ G' H' σ' E' → D.nx σ' H'
  | .rt (.v d) E' => ∀ G' H' σ' v, Ex G G' → Sat K Φ G' H' σ' E' → Rp K G' v d → D.rt v H'
  | .rt (.l l) E' => ∀ G' H' σ' v, Ex G G' → Sat K Φ G' H' σ' E' → relL K Φ σ' G' H' E' l v → D.rt v H'
  | .bk E' => ∀ G' H' σ', Ex G G' → Sat K Φ G' H' σ' E' → D.bk σ' H'
  | .ct E' => ∀ G' H' σ', Ex G G' → Sat K Φ G' H' σ' E' → D.ct σ' H'
  | .exc x E' => PostX K W Φ G x E'
  | .stuck => False
theorem PostS.mono {K : PySem.W.Frag} {W : WX} {Φ : Fr} {G G0 : Hp} {σ σ0 : St} {r : RS} {D : Ends} (e : Ex G G0) (h : PostS K W Φ G σ r D) : PostS K W Φ G0 σ0 r D := by
  cases r with
  | nx E' => exact fun G' H' σ' e' S => h G' H' σ' (e.trans e') S
  | rt rv E' =>
    cases rv with
    | v d => exact fun G' H' σ' v e' S r => h G' H' σ' v (e.trans e') S r
    | l d => exact fun G' H' σ' v e' S r => h G' H' σ' v (e.trans e') S r
  | bk E' => exact fun G' H' σ' e' S => h G' H' σ' (e.trans e') S
  | ct E' => exact fun G' H' σ' e' S => h G' H' σ' (e.trans e') S
  | exc x E' => exact PostX.mono e h
  | stuck => exact h
def SndS (K : PySem.W.Frag) (W : WX) (t : TS) (f : Env → RS) : Prop := ∀ Φ G H σ E D, Sat K Φ G H σ E → PostS K W Φ G σ (f E) D → t D σ H
def JS (X : Cx) (W : WX) (s : Stmt) (f : Env → RS) : Prop := ∃ t, PS X s t ∧ SndS X.K W t f
def JSs (X : Cx) (W : WX) (s : List Stmt) (f : Env → RS) : Prop := ∃ t, PSs X s t ∧ SndS X.K W t f
/-- an expression, then what stands behind -/
theorem Snd.goS {α β : Type} {K : PySem.W.Frag} {W : WX} {rel : Rel α β} {t : St → Hp → (β → Hp → Prop) → Prop} {f : Env → R α} (h : Snd K (pw W) rel t f) {Φ : Fr} {G H : Hp} {σ : St} {E : Env} {k : α → Env → RS} {D : Ends} {Q1 : β → Hp → Prop}
    (S : Sat K Φ G H σ E) (hp : PostS K W Φ G σ ((f E).bindS k) D) (hk : ∀ a E' G' H' b, f E = .ok a E' → Ex G G' → Sat K Φ G' H' σ E' → rel Φ σ G' H' E' a b → PostS K W Φ G' σ (k a E') D → Q1 b H') : t σ H Q1 := by
  refine h Φ G H σ E Q1 S.pw ?_
  cases e : f E with
  | ok a E' =>
    rw [e] at hp
    exact fun G' H' b e' S' q => hk a E' G' H' b e e' S' q (PostS.mono e' hp)
  | exc x E' => rw [e] at hp; exact hp
  | stuck => rw [e] at hp; exact hp
def sNil : Env → RS := fun E => .nx E
def sSeq (f g : Env → RS) : Env → RS := fun E => (f E).seq g
section
variable {X : Cx} {W : WX} {a b c e o : Expr} {es : List Expr} {p pos : Pos} {fa fb fc : Env → R D} {st : Stmt} {sts : List Stmt} {f g : Env → RS}
theorem jss_nil : JSs X W [] sNil := ⟨_, pss_nil, fun Φ G H σ E D S hp => hp G H σ (Ex.refl G) S⟩
theorem jss_one (h : JS X W st f) : JSs X W [st] f := by obtain ⟨t, h1, h2⟩ := h; exact ⟨t, pss_one h1, h2⟩
theorem jss_cons (h : JS X W st f) (h' : JSs X W sts g) : JSs X W (st :: sts) (sSeq f g) := by
  obtain ⟨t, h1, h2⟩ := h
  obtain ⟨u, h3, h4⟩ := h'
  refine ⟨_, pss_cons h1 h3, fun Φ G H σ E D S hp => ?_⟩
  refine h2 Φ G H σ E { D with nx := u D } S ?_
  have hp' : PostS X.K W Φ G σ ((f E).seq g) D := hp
  cases e : f E with
  | nx E' => rw [e] at hp'; exact fun G' H' σ' e' S' => h4 Φ G' H' σ' E' D S' (PostS.mono e' hp')
  | rt rv E' => rw [e] at hp'; cases rv with | v d => exact hp' | l d => exact hp'
  | bk E' => rw [e] at hp'; exact hp'
  | ct E' => rw [e] at hp'; exact hp'
  | exc x E' => rw [e] at hp'; exact hp'
  | stuck => rw [e] at hp'; exact hp'
/-- an own list is given free, ahead of what follows -/
def pubE (i : Nat) (E : Env) : Env := match E[i]? with
  | some (.own _ l) => E.set i (.val (.lst l))
  | some (.obj _ c ns ds) => E.set i (.val (.ins c ns ds))
  | _ => E
theorem JSs.pub (i : Nat) (h : JSs X W sts f) : JSs X W sts (fun E => f (pubE i E)) := by
  obtain ⟨t, h1, h2⟩ := h
  refine ⟨t, h1, fun Φ G H σ E D S hp => ?_⟩
  cases e : E[i]? with
  | none =>
    have ee : pubE i E = E := by unfold pubE; rw [e]
    simp only [ee] at hp
    exact h2 Φ G H σ E D S hp
  | some s =>
    cases s with
    | own b l =>
      have ee : pubE i E = E.set i (.val (.lst l)) := by unfold pubE; rw [e]
      simp only [ee] at hp
      obtain ⟨G', e', S'⟩ := S.pub e
      exact h2 Φ G' H σ _ D S' (PostS.mono e' hp)
    | obj b c ns ds =>
      have ee : pubE i E = E.set i (.val (.ins c ns ds)) := by unfold pubE; rw [e]
      simp only [ee] at hp
      obtain ⟨x, hx, q, dx, vs, rfl, k1, k2, k3⟩ := S.sl i _ e
      obtain ⟨G', e', S'⟩ := S.pubW (b0 := b) e rfl hx k1 (.ins upd_same k2 (k3.mono (Ex.new (S.ow' i _ b q e rfl hx).1)))
      exact h2 Φ G' H σ _ D S' (PostS.mono e' hp)
    | no =>
      have ee : pubE i E = E := by unfold pubE; rw [e]
      simp only [ee] at hp
      exact h2 Φ G H σ E D S hp
    | val d =>
      have ee : pubE i E = E := by unfold pubE; rw [e]
      simp only [ee] at hp
      exact h2 Φ G H σ E D S hp
theorem js_pass : JS X W (.Pass pos) sNil := ⟨_, ps_pass, fun Φ G H σ E D S hp => hp G H σ (Ex.refl G) S⟩
theorem js_break : JS X W (.Break pos) (fun E => .bk E) := ⟨_, ps_break, fun Φ G H σ E D S hp => hp G H σ (Ex.refl G) S⟩
theorem js_continue : JS X W (.Continue pos) (fun E => .ct E) := ⟨_, ps_continue, fun Φ G H σ E D S hp => hp G H σ (Ex.refl G) S⟩
def sExpr (fa : Env → R D) : Env → RS := fun E => (fa E).bindS fun _ E => .nx E
theorem js_expr (h : JE X W e fa) (hs : swapsWith e none pos.line X.env = pure false := by rfl) : JS X W (.Expr e pos) (sExpr fa) := by
  obtain ⟨te, h1, h2⟩ := h
  refine ⟨_, ps_expr h1 hs, fun Φ G H σ E D S hp => ?_⟩
  exact h2.goS S hp fun a E' G' H' v _ e' S' r hp => hp G' H' σ (Ex.refl G') S'
def sRet (fa : Env → R D) : Env → RS := fun E => (fa E).bindS fun d E => .rt (.v d) E
theorem js_ret (h : JE X W e fa) : JS X W (.Return (some e) pos) (sRet fa) := by
  obtain ⟨te, h1, h2⟩ := h
  refine ⟨_, ps_ret h1, fun Φ G H σ E D S hp => ?_⟩
  exact h2.goS S hp fun a E' G' H' v _ e' S' r hp => hp G' H' σ v (Ex.refl G') S' r
def sRetL (fa : Env → R (List D)) : Env → RS := fun E => (fa E).bindS fun d E => .rt (.l d) E
theorem js_retL {fl : Env → R (List D)} (h : JL X W e fl) : JS X W (.Return (some e) pos) (sRetL fl) := by
  obtain ⟨te, h1, h2⟩ := h
  refine ⟨_, ps_ret h1, fun Φ G H σ E D S hp => ?_⟩
  exact h2.goS S hp fun a E' G' H' v _ e' S' r hp => hp G' H' σ v (Ex.refl G') S' r
def sRetN : Env → RS := fun E => .rt (.v .non) E
theorem js_retN : JS X W (.Return none pos) sRetN := ⟨_, ps_retN, fun Φ G H σ E D S hp => hp G H σ .non (Ex.refl G) S .non⟩
def sIf (t : Env → R Bool) (f g : Env → RS) : Env → RS := fun E => (t E).bindS fun k E => if k = true then f E else g E
theorem js_if {t : Env → R Bool} {sa sb : List Stmt} (ht : JT X W c t) (ha : JSs X W sa f) (hb : JSs X W sb g) : JS X W (.If c sa sb pos) (sIf t f g) := by
  obtain ⟨tt, h1, h2⟩ := ht
  obtain ⟨ta, h3, h4⟩ := ha
  obtain ⟨tb, h5, h6⟩ := hb
  refine ⟨_, ps_if h1 h3 h5, fun Φ G H σ E D S hp => ?_⟩
  refine h2.goS S hp fun k E' G' H' v _ e' S' r hp => ?_
  subst r
  cases k with
  | true => exact iteT (h4 Φ G' H' σ E' D S' hp)
  | false => exact iteF (h6 Φ G' H' σ E' D S' hp)

/-! ### targets -/
def Chg (is : List Nat) (σ σ' : St) : Prop := σ'.length = σ.length ∧ ∀ i, i ∉ is → σ'[i]? = σ[i]?
def GGo (K : PySem.W.Frag) (is : List Nat) (g : D → Env → Option Env) (t : TG) : Prop := ∀ Φ G H σ E v d E' (Q : St → Hp → Prop), Sat K Φ G H σ E → Rp K G v d → g d E = some E' → (∀ G' H' σ', Ex G G' → Sat K Φ G' H' σ' E' → Chg is σ σ' → Q σ' H') → t v σ H Q
def GsGo (K : PySem.W.Frag) (is : List Nat) (g : List D → Env → Option Env) (t : TGs) : Prop := ∀ Φ G H σ E vs ds E' (Q : St → Hp → Prop), Sat K Φ G H σ E → RpA K G vs ds → g ds E = some E' → (∀ G' H' σ', Ex G G' → Sat K Φ G' H' σ' E' → Chg is σ σ' → Q σ' H') → t vs σ H Q
def JG (X : Cx) (tg : Expr) (is : List Nat) (g : D → Env → Option Env) : Prop := ∃ t, PG X tg t ∧ GGo X.K is g t
def JGs (X : Cx) (tg : List Expr) (is : List Nat) (g : List D → Env → Option Env) : Prop := ∃ t, PGs X tg t ∧ GsGo X.K is g t
def gNm (i : Nat) : D → Env → Option Env := fun d E => some (E.set i (.val d))
theorem jg_name (i : Nat) {x : Str} (hN : X.N.Nodup) (hi : X.N[i]? = some x := by rfl) (hx : Loc X.env.scope x := by first | exact Or.inl rfl | exact Or.inr rfl) (hf : X.fn x = true ∨ X.env.scope.names.lookup x = some .local := by first | exact .inl rfl | exact .inr rfl | assumption) : JG X (.Name x pos) [i] (gNm i) :=
  ⟨_, pg_name hN hi hx hf, fun Φ G H σ E v d E' Q S r hg k => by cases hg; exact k G H _ (Ex.refl G) (S.setV r) ⟨List.length_set, fun j hj => List.getElem?_set_ne fun z => hj (by simp [z])⟩⟩
def gsNil : List D → Env → Option Env := fun l E => match l with | [] => some E | _ => none
def gsCons (g : D → Env → Option Env) (r : List D → Env → Option Env) : List D → Env → Option Env := fun l E => match l with | d :: ds => (g d E).bind (r ds) | [] => none
theorem jgs_nil : JGs X [] [] gsNil := ⟨_, pgs_nil, fun Φ G H σ E vs ds E' Q S r hg k => by
  cases ds with
  | nil => cases hg; cases r; exact ⟨rfl, k G H _ (Ex.refl G) S ⟨rfl, fun _ _ => rfl⟩⟩
  | cons _ _ => cases hg⟩
theorem jgs_cons {is1 is2 : List Nat} {g1 : D → Env → Option Env} {g2 : List D → Env → Option Env} (h : JG X e is1 g1) (h' : JGs X es is2 g2) (hs : (assignEach (e :: es) X.env).map (·.2) = assign e X.env :: (assignEach es X.env).map (·.2) := by rfl) : JGs X (e :: es) (is1 ++ is2) (gsCons g1 g2) := by
  obtain ⟨t, h1, h2⟩ := h
  obtain ⟨u, h3, h4⟩ := h'
  refine ⟨_, pgs_cons h1 h3 hs, fun Φ G H σ E vs ds E' Q S r hg k => ?_⟩
  cases ds with
  | nil => cases hg
  | cons d ds =>
    cases r with
    | cons r1 r2 =>
      obtain ⟨E1, e1, e2⟩ := Option.bind_eq_some_iff.mp (show (g1 d E).bind (g2 ds) = some E' from hg)
      refine ⟨_, _, rfl, h2 Φ G H σ E _ d E1 _ S r1 e1 fun G1 H1 σ1 x1 S1 c1 => ?_⟩
      exact h4 Φ G1 H1 σ1 E1 _ ds E' Q S1 (r2.mono x1) e2 fun G2 H2 σ2 x2 S2 c2 => k G2 H2 σ2 (x1.trans x2) S2 ⟨c2.1.trans c1.1, fun j hj => (c2.2 j fun z => hj (List.mem_append_right _ z)).trans (c1.2 j fun z => hj (List.mem_append_left _ z))⟩
def gTup2 (g : List D → Env → Option Env) : D → Env → Option Env := fun d E => match d with | .tup l => g l E | _ => none
theorem jg_tup {k n : Nat} {is : List Nat} {g2 : List D → Env → Option Env} (hc : X.calm = true) (h : JGs X es is g2) (hlen : ∀ l E E', g2 l E = some E' → l.length = n) (hn : (assignEach es X.env).length = n := by rfl) (hst : (assignEach es X.env).findIdx? (·.1) = none := by rfl) : JG X (.Tuple es k pos) is (gTup2 g2) := by
  obtain ⟨t, h1, h2⟩ := h
  refine ⟨_, pg_tup hc h1 hn hst, fun Φ G H σ E v d E' Q S r hg k => ?_⟩
  cases d with
  | tup l =>
    cases r with
    | tup r1 r2 =>
      exact ⟨_, _, rfl, S.gh.st r1, by rw [r2.length]; exact hlen l E E' hg, h2 Φ G H σ E _ l E' Q S r2 hg k⟩
  | _ => cases hg
theorem gs_len0 : ∀ l E E', gsNil l E = some E' → l.length = 0 := fun l E E' h => by cases l with | nil => rfl | cons _ _ => cases h
theorem gs_lenS {g1 : D → Env → Option Env} {g2 : List D → Env → Option Env} {n : Nat} (h : ∀ l E E', g2 l E = some E' → l.length = n) : ∀ l E E', gsCons g1 g2 l E = some E' → l.length = n + 1 := fun l E E' hg => by
  cases l with
  | nil => cases hg
  | cons d ds =>
    obtain ⟨E1, e1, e2⟩ := Option.bind_eq_some_iff.mp (show (g1 d E).bind (g2 ds) = some E' from hg)
    rw [List.length_cons, h ds E1 E' e2]
def sAsg (fa : Env → R D) (g : D → Env → Option Env) : Env → RS := fun E => (fa E).bindS fun d E => match g d E with | some E' => .nx E' | none => .stuck
theorem js_asg {tg : Expr} {is : List Nat} {g : D → Env → Option Env} (h : JE X W e fa) (hg : JG X tg is g) (hs : swapsWithSole [tg] e pos.line X.env = pure false := by rfl) (hw : swappedStores [tg] e X.env = pure none := by rfl)
    (h1 : (assignEach [tg] X.env).map (·.2) = [assign tg X.env] := by rfl) : JS X W (.Assign [tg] e pos) (sAsg fa g) := by
  obtain ⟨te, p1, s1⟩ := h
  obtain ⟨t, p2, s2⟩ := hg
  refine ⟨_, ps_asg p1 p2 hs hw h1, fun Φ G H σ E D S hp => ?_⟩
  refine s1.goS S hp fun d E' G' H' v _ e' S' r hp => ?_
  cases eg : g d E' with
  | none => rw [eg] at hp; exact hp.elim
  | some E2 => rw [eg] at hp; exact s2 Φ G' H' σ E' v d E2 _ S' r eg fun G2 H2 σ2 e2 S2 _ => hp G2 H2 σ2 e2 S2
def sSet (i : Nat) (fa : Env → R D) : Env → RS := fun E => (fa E).bindS fun d E => .nx (E.set i (.val d))
theorem js_set (i : Nat) {x : Str} {pos' : Pos} (hN : X.N.Nodup) (h : JE X W e fa) (hi : X.N[i]? = some x := by rfl) (hx : Loc X.env.scope x := by first | exact Or.inl rfl | exact Or.inr rfl) (hs : swapsWith e (some (.Name x pos')) pos.line X.env = pure false := by rfl) (hf : X.fn x = true ∨ X.env.scope.names.lookup x = some .local := by first | exact .inl rfl | exact .inr rfl | assumption) :
    JS X W (.Assign [.Name x pos'] e pos) (sSet i fa) := by
  obtain ⟨te, p1, s1⟩ := h
  refine ⟨_, ps_set hN hi hx p1 hs hf, fun Φ G H σ E D S hp => ?_⟩
  exact s1.goS S hp fun d E' G' H' v _ e' S' r hp => hp G' H' _ (Ex.refl G') (S'.setV r)
def sSetL (i : Nat) (fa : Env → R (List D)) : Env → RS := fun E => (fa E).bindS fun l E => .nx (E.set i (.own false l))
theorem js_setL (i : Nat) {x : Str} {pos' : Pos} {fl : Env → R (List D)} (hN : X.N.Nodup) (h : JL X W e fl) (hi : X.N[i]? = some x := by rfl) (hx : Loc X.env.scope x := by first | exact Or.inl rfl | exact Or.inr rfl) (hs : swapsWith e (some (.Name x pos')) pos.line X.env = pure false := by rfl) (hf : X.fn x = true ∨ X.env.scope.names.lookup x = some .local := by first | exact .inl rfl | exact .inr rfl | assumption) :
    JS X W (.Assign [.Name x pos'] e pos) (sSetL i fl) := by
  obtain ⟨te, p1, s1⟩ := h
  refine ⟨_, ps_set hN hi hx p1 hs hf, fun Φ G H σ E D S hp => ?_⟩
  refine s1.goS S hp fun l E' G' H' v _ e' S' r hp => ?_
  obtain ⟨q, vs, rfl, h1, h2, h3, h4, h5⟩ := r
  exact hp G' H' _ (Ex.refl G') (S'.setO h1 h2 h3 h4 h5)
/-- x += e, x a value -/
def sAug (i : Nat) (g : D → D → Option D) (fa : Env → R D) : Env → RS := fun E => match E[i]? with
  | some (.val x) => (fa E).bindS fun d E => match g x d with | some y => .nx (E.set i (.val y)) | none => .stuck
  | _ => .stuck
theorem js_augI (i : Nat) {x : Str} {pos' : Pos} {op : Operator} {h : Int → Int → Int} (ho : PIp X op (ipI h)) (hN : X.N.Nodup) (he : JE X W e fa) (hi : X.N[i]? = some x := by rfl) (hx : Loc X.env.scope x := by first | exact Or.inl rfl | exact Or.inr rfl) (hf : X.fn x = true ∨ X.env.scope.names.lookup x = some .local := by first | exact .inl rfl | exact .inr rfl | assumption) :
    JS X W (.AugAssign (.Name x pos') op e pos) (sAug i (g2I fun i j => some (h i j)) fa) := by
  obtain ⟨te, p1, s1⟩ := he
  refine ⟨_, ps_aug hN hi hx p1 ho hf, fun Φ G H σ E D S hp => ?_⟩
  unfold sAug at hp
  cases ee : E[i]? with
  | none => rw [ee] at hp; exact hp.elim
  | some s =>
    rw [ee] at hp
    cases s with
    | no => exact hp.elim
    | obj _ _ _ _ => exact hp.elim
    | own _ _ => exact hp.elim
    | val d0 =>
      obtain ⟨w, hw, v, rfl, r⟩ := S.sl i _ ee
      refine ⟨v, hw, ?_⟩
      refine s1.goS S hp fun d E' G' H' u _ e' S' r' hp => ?_
      cases d0 with
      | int m =>
        cases d with
        | int n => cases r; cases r'; exact ⟨m, n, rfl, rfl, hp G' H' _ (Ex.refl G') (S'.setV (.int _))⟩
        | _ => exact hp.elim
      | _ => exact hp.elim
/-- x.append(e), x one's own list -/
def sApp (i : Nat) (fa : Env → R D) : Env → RS := fun E => match E[i]? with
  | some (.own _ _) => (fa E).bindS fun d E => (match E[i]? with
    | some (.own b l) => if l.length < 16777216 then .nx (E.set i (.own b (l ++ [d]))) else .stuck
    | _ => .stuck)
  | _ => .stuck
theorem js_app (i : Nat) {x : Str} {p2 apos cpos : Pos} (h : JE X W e fa) (hN : X.N[i]? = some x := by rfl) (hv : Vis X.env.scope x := by first | exact Or.inl rfl | exact Or.inr (Or.inl rfl) | exact Or.inr (Or.inr rfl)) (hd : (x == ("__debug__" : Str)) = false := by decide)
    (hcd : (x == ("__classdict__" : Str)) = false := by decide) (hbase : attributeBase (.Name x p2) "append" X.env (eval (.Name x p2) X.env) = eval (.Name x p2) X.env := by rfl)
    (hfew : ((backTo cpos (starEach [e] X.env)).all (fun x => !x.1) && (backToKw cpos (keywordEach [] X.env)).all (fun x => x.1.isSome)
      && decide ([e].length + ([] : List Keyword).length + (if ([] : List Keyword).isEmpty then 0 else 1) < 30)) = true := by rfl)
    (hline : (apos.endLine == cpos.line) = true := by rfl) (hs : starEach [e] X.env = (false, eval e X.env) :: starEach [] X.env := by rfl) (hplain : (backTo cpos (starEach [] X.env)).any (·.1) = false := by rfl)
    (hsw : swapsWith (.Call (.Attribute (.Name x p2) "append" apos) [e] [] cpos) none pos.line X.env = pure false := by rfl) :
    JS X W (.Expr (.Call (.Attribute (.Name x p2) "append" apos) [e] [] cpos) pos) (sApp i fa) := by
  obtain ⟨te, p1, s1⟩ := h
  refine ⟨_, ps_expr (pe_bm PySem.F.plainAttrs_list PySem.F.slot_list_append PySem.F.type_list_append mt_append (pe_var hN hv hd hcd) (pa_cons p1 pa_nil hs) hbase hfew hline hs hplain) hsw, fun Φ G H σ E D S hp => ?_⟩
  unfold sApp at hp
  cases ee : E[i]? with
  | none => rw [ee] at hp; exact hp.elim
  | some s =>
    rw [ee] at hp
    cases s with
    | no => exact hp.elim
    | obj _ _ _ _ => exact hp.elim
    | val _ => exact hp.elim
    | own b0 l0 =>
      obtain ⟨w, hw, q, vs, rfl, h1, h2⟩ := S.sl i _ ee
      refine ⟨.ref q, hw, .inl ⟨rfl, vs, SqL.of h1⟩, ?_⟩
      refine s1.goS S hp fun d E' G' H' u _ e' S' r' hp => ?_
      cases e2 : E'[i]? with
      | none => rw [e2] at hp; exact hp.elim
      | some s =>
        rw [e2] at hp
        cases s with
        | no => exact hp.elim
        | obj _ _ _ _ => exact hp.elim
        | val _ => exact hp.elim
        | own b l =>
          simp only at hp
          by_cases c : l.length < 16777216
          · rw [if_pos c] at hp
            obtain ⟨w', hw', q', ws, rfl, h3, h4⟩ := S'.sl i _ e2
            rw [hw] at hw'
            cases hw'
            refine ⟨q, ws, u, rfl, rfl, h3, by rw [sizeLine_eq, h4.length]; exact c, ?_⟩
            exact hp G' _ σ (Ex.refl G') (S'.write e2 hw (h4.append (.cons r' .nil)))
          · rw [if_neg c] at hp; exact hp.elim
/-- x[k] = e, x one's own list -/
def sSetIx (i : Nat) (fk fa : Env → R D) : Env → RS := fun E => (fa E).bindS fun d E => match E[i]? with
  | some (.own _ _) => (fk E).bindS fun k E => (match k, E[i]? with
    | .int k, some (.own b l) => (match ixN l.length k with
      | some j => .nx (E.set i (.own b (l.set j d)))
      | none => .stuck)
    | _, _ => .stuck)
  | _ => .stuck
theorem js_setIx (i : Nat) {x : Str} {p2 tp : Pos} {fk : Env → R D} (h : JE X W e fa) (hk : JE X W c fk) (hN : X.N[i]? = some x := by rfl) (hv : Vis X.env.scope x := by first | exact Or.inl rfl | exact Or.inr (Or.inl rfl) | exact Or.inr (Or.inr rfl)) (hd : (x == ("__debug__" : Str)) = false := by decide)
    (hcd : (x == ("__classdict__" : Str)) = false := by decide)
    (ha : ∀ v, assign (.Subscript (.Name x p2) c tp) X.env v = (do
      let ov ← holding [v] (eval (.Name x p2) X.env)
      let iv ← holding [v, ov] (eval c X.env)
      standAt tp
      holding [v, ov, iv] (setItem ov iv v)
      release [v, ov, iv] []) := by intro _; rfl)
    (hs : swapsWithSole [.Subscript (.Name x p2) c tp] e pos.line X.env = pure false := by rfl) (hw : swappedStores [.Subscript (.Name x p2) c tp] e X.env = pure none := by rfl)
    (h1 : (assignEach [.Subscript (.Name x p2) c tp] X.env).map (·.2) = [assign (.Subscript (.Name x p2) c tp) X.env] := by rfl) :
    JS X W (.Assign [.Subscript (.Name x p2) c tp] e pos) (sSetIx i fk fa) := by
  obtain ⟨te, p1, s1⟩ := h
  obtain ⟨tk, p3, s3⟩ := hk
  refine ⟨_, ps_asg p1 (pg_sub (pe_var hN hv hd hcd) p3 set_list ha) hs hw h1, fun Φ G H σ E D S hp => ?_⟩
  refine s1.goS S hp fun d E1 G1 H1 v _ x1 S1 r1 hp => ?_
  cases ee : E1[i]? with
  | none => rw [ee] at hp; exact hp.elim
  | some s =>
    rw [ee] at hp
    cases s with
    | no => exact hp.elim
    | obj _ _ _ _ => exact hp.elim
    | val _ => exact hp.elim
    | own b0 l0 =>
      obtain ⟨w, hw, q, vs, rfl, h1, h2⟩ := S1.sl i _ ee
      refine ⟨.ref q, hw, ?_⟩
      refine s3.goS S1 hp fun k E2 G2 H2 u _ x2 S2 r2 hp => ?_
      cases k with
      | int k =>
        cases e2 : E2[i]? with
        | none => rw [e2] at hp; exact hp.elim
        | some s =>
          rw [e2] at hp
          cases s with
          | no => exact hp.elim
          | obj _ _ _ _ => exact hp.elim
          | val _ => exact hp.elim
          | own b l =>
            simp only at hp
            cases e3 : ixN l.length k with
            | none => rw [e3] at hp; exact hp.elim
            | some j =>
              rw [e3] at hp
              obtain ⟨w', hw', q', ws, rfl, h3, h4⟩ := S2.sl i _ e2
              rw [hw] at hw'
              cases hw'
              cases r2
              refine ⟨q, ws, k, j, rfl, rfl, h3, by rw [h4.length]; exact e3, ?_⟩
              exact hp G2 _ σ (Ex.refl G2) (S2.write e2 hw (h4.set (Rp.mono x2 _ r1) j))
      | _ => exact hp.elim

/-! ### what is walked -/
def WalkOk (K : PySem.W.Frag) (J : It) (G : Hp) (ds : List D) : Prop := ∀ Φ G' H' σ E, Ex G G' → Sat K Φ G' H' σ E → ∀ i, i ≤ ds.length →
  (i = ds.length → J.stop i H') ∧ (∀ d, ds[i]? = some d → J.go i H' ∧ ∀ x H'', J.yld i H' x H'' → ∃ G'', Ex G' G'' ∧ Sat K Φ G'' H'' σ E ∧ Rp K G'' x d)
theorem WalkOk.mono {K : PySem.W.Frag} {J : It} {G G' : Hp} {ds : List D} (e : Ex G G') (h : WalkOk K J G ds) : WalkOk K J G' ds := fun Φ G2 H' σ E e2 S => h Φ G2 H' σ E (e.trans e2) S
def JI (X : Cx) (W : WJ) (tg iter : Expr) (f : Env → R (List D)) : Prop := ∃ wi, PI X tg iter wi ∧ Snd X.K W (fun _ _ G' _ _ ds J => WalkOk X.K J G' ds) wi f
theorem pi_or {tg iter : Expr} {w1 w2 : TI} (h1 : PI X tg iter w1) (h2 : PI X tg iter w2) : PI X tg iter (fun σ H R => w1 σ H R ∨ w2 σ H R) := by
  refine ⟨fun pins s σ H R I h => ?_⟩
  rcases h with h | h
  · exact h1.run pins s σ H R I h
  · exact h2.run pins s σ H R I h
theorem walk_list {K : PySem.W.Frag} {G : Hp} {a : Addr} {vs : List V} {ds : List D} (h : SqL K G a vs) (r : RpA K G vs ds) : WalkOk K (Itl K a) G ds := by
  intro Φ G' H' σ E e S i hi
  have hq := (e.trans S.gh).sl h
  refine ⟨fun z => ⟨vs, hq, by rw [r.length, z]; exact Nat.le_refl _⟩, fun d hd => ?_⟩
  obtain ⟨v, hv, rv⟩ := r.get hd
  refine ⟨⟨vs, v, hq, hv⟩, fun x H'' hy => ?_⟩
  obtain ⟨rfl, hx⟩ := hy
  have := hx vs hq
  rw [hv] at this
  cases this
  exact ⟨G', Ex.refl G', S, Rp.mono e _ rv⟩
end
end J

namespace J
open PySem PySem.Spec PyProof.Rows L2

/-! ### one form for a whole family of contexts -/
def canE {α β : Type} (K : PySem.W.Frag) (W : WJ) (rel : Rel α β) (f : Env → R α) : St → Hp → (β → Hp → Prop) → Prop := fun σ H Q => ∃ Φ G E, SatC K W Φ G H σ E ∧ Post K W.w rel Φ G σ (f E) Q
theorem canE.snd {α β : Type} {K : PySem.W.Frag} {W : WJ} {rel : Rel α β} {f : Env → R α} : Snd K W rel (canE K W rel f) f := fun Φ G H σ E Q S hp => ⟨Φ, G, E, S, hp⟩
def canG (K : PySem.W.Frag) (is : List Nat) (g : D → Env → Option Env) : TG := fun v σ H Q => ∃ Φ G E d E', Sat K Φ G H σ E ∧ Rp K G v d ∧ g d E = some E' ∧ ∀ G' H' σ', Ex G G' → Sat K Φ G' H' σ' E' → Chg is σ σ' → Q σ' H'
theorem canG.go {K : PySem.W.Frag} {is : List Nat} {g : D → Env → Option Env} : GGo K is g (canG K is g) := fun Φ G H σ E v d E' Q S r hg k => ⟨Φ, G, E, d, E', S, r, hg, k⟩
section
variable {X : Cx} {W : WJ} {e tg : Expr} {es : List Expr} {pos : Pos} {is : List Nat} {f : Env → R D} {t : Env → R Bool} {g : D → Env → Option Env} {fl : Env → R (List D)}
theorem JE.can (h : JE X W e f) : PE X e (canE X.K W (relE X.K) f) := by
  obtain ⟨te, h1, h2⟩ := h
  exact ⟨fun pins s σ H Q I ⟨Φ, G, E, S, hp⟩ => h1.run pins s σ H Q I (h2 Φ G H σ E Q S hp)⟩
theorem JT.can (h : JT X W e t) : PT X e (canE X.K W relT t) := by
  obtain ⟨te, h1, h2⟩ := h
  exact ⟨fun pins s σ H Q I ⟨Φ, G, E, S, hp⟩ => h1.run pins s σ H Q I (h2 Φ G H σ E Q S hp)⟩
theorem JG.can (h : JG X tg is g) : PG X tg (canG X.K is g) := by
  obtain ⟨te, h1, h2⟩ := h
  exact ⟨fun pins s σ H v u Q I r ⟨Φ, G, E, d, E', S, rv, hg, k⟩ => h1.run pins s σ H v u Q I r (h2 Φ G H σ E v d E' Q S rv hg k)⟩
abbrev relW (K : PySem.W.Frag) : Rel (List D) It := fun _ _ G' _ _ ds J => WalkOk K J G' ds
theorem JI.can (h : JI X W tg e fl) : PI X tg e (canE X.K W (relW X.K) fl) := by
  obtain ⟨te, h1, h2⟩ := h
  exact ⟨fun pins s σ H Q I ⟨Φ, G, E, S, hp⟩ => h1.run pins s σ H Q I (h2 Φ G H σ E Q S hp)⟩
/-- the tests of a comprehension -/
def JTs (X : Cx) (W : WJ) (es : List Expr) (t : Env → R Bool) : Prop := ∃ te, PTs X es te ∧ Snd X.K W relT te t
theorem JTs.can (h : JTs X W es t) : PTs X es (canE X.K W relT t) := by
  obtain ⟨te, h1, h2⟩ := h
  exact ⟨fun pins s σ H Q I ⟨Φ, G, E, S, hp⟩ => h1.run pins s σ H Q I (h2 Φ G H σ E Q S hp)⟩
def fYes : Env → R Bool := fun E => .ok true E
theorem jts_nil : JTs X W [] fYes := ⟨_, pts_nil, fun Φ G H σ E Q S hp => hp G H true (Ex.refl G) S rfl⟩
theorem jts_one (h : JT X W e t) : JTs X W [e] t := by obtain ⟨te, h1, h2⟩ := h; exact ⟨te, pts_one h1, h2⟩
end

/-! ### what is walked -/
section
variable {K : PySem.W.Frag} {G : Hp}
theorem walk_tup {a : Addr} {vs : List V} {ds : List D} (h : SqT K G a vs) (r : RpA K G vs ds) : WalkOk K (Itt K a) G ds := by
  intro Φ G' H' σ E e S i hi
  have hq := (e.trans S.gh).st h
  refine ⟨fun z => ⟨vs, hq, by rw [r.length, z]; exact Nat.le_refl _⟩, fun d hd => ?_⟩
  obtain ⟨v, hv, rv⟩ := r.get hd
  refine ⟨⟨vs, v, hq, hv⟩, fun x H'' hy => ?_⟩
  obtain ⟨rfl, hx⟩ := hy
  have h2 := hx vs hq
  rw [hv] at h2
  cases h2
  exact ⟨G', Ex.refl G', S, Rp.mono e _ rv⟩
def upD (lo : Int) (n : Nat) : List D := (List.range n).map fun k => .int (lo + (k : Nat))
theorem upD_get {lo : Int} {n i : Nat} {d : D} (h : (upD lo n)[i]? = some d) : i < n ∧ d = .int (lo + (i : Nat)) := by
  unfold upD at h
  rw [List.getElem?_map] at h
  obtain ⟨k, h1, h2⟩ := Option.map_eq_some_iff.mp h
  obtain ⟨h3, h4⟩ := List.getElem?_eq_some_iff.mp h1
  rw [List.getElem_range] at h4
  subst h4
  exact ⟨by simpa using h3, h2.symm⟩
theorem walk_range {lo : Int} {n : Nat} : WalkOk K (Itr lo n) G (upD lo n) := by
  intro Φ G' H' σ E e S i hi
  have hl : (upD lo n).length = n := by unfold upD; simp
  refine ⟨fun z => by show n ≤ i; omega, fun d hd => ?_⟩
  obtain ⟨h1, rfl⟩ := upD_get hd
  refine ⟨h1, fun x H'' hy => ?_⟩
  obtain ⟨rfl, rfl⟩ := hy
  exact ⟨G', Ex.refl G', S, .int _⟩
def enumD (ds : List D) : List D := ds.zipIdx.map fun p => .tup [.int (p.2 : Nat), p.1]
theorem walk_enum {a : Addr} {vs : List V} {ds : List D} (h : SqL K G a vs) (r : RpA K G vs ds) : WalkOk K (Ite K a) G (enumD ds) := by
  intro Φ G' H' σ E e S i hi
  have hq := (e.trans S.gh).sl h
  have hl : (enumD ds).length = ds.length := by unfold enumD; simp
  refine ⟨fun z => ⟨vs, hq, by rw [r.length]; omega⟩, fun d hd => ?_⟩
  unfold enumD at hd
  rw [List.getElem?_map, List.getElem?_zipIdx] at hd
  obtain ⟨p, h1, rfl⟩ := Option.map_eq_some_iff.mp hd
  obtain ⟨d0, h2, rfl⟩ := Option.map_eq_some_iff.mp h1
  obtain ⟨v, hv, rv⟩ := r.get h2
  refine ⟨⟨vs, v, hq, hv⟩, fun x H'' hy => ?_⟩
  obtain ⟨T, y, rfl, hT, rfl, hy⟩ := hy
  have h3 := hy vs hq
  rw [hv] at h3
  cases h3
  have g := S.gh.back hT
  have e0 : ((0 + i : Nat) : Int) = (i : Nat) := by rw [Nat.zero_add]
  refine ⟨_, Ex.new g, S.new hT, .tup (SqT.of upd_same) (.cons ?_ (.cons (Rp.mono (e.trans (Ex.new g)) _ rv) .nil))⟩
  show Rp K _ (.int (i : Nat)) (.int ((0 + i : Nat) : Int))
  rw [e0]
  exact .int _
def zipD (ds es : List D) : List D := (ds.zip es).map fun p => .tup [p.1, p.2]
theorem zipD_get {ds es : List D} {i : Nat} {d : D} (h : (zipD ds es)[i]? = some d) : ∃ x y, ds[i]? = some x ∧ es[i]? = some y ∧ d = .tup [x, y] := by
  unfold zipD at h
  rw [List.getElem?_map] at h
  obtain ⟨p, h1, rfl⟩ := Option.map_eq_some_iff.mp h
  rw [List.getElem?_zip_eq_some] at h1
  exact ⟨_, _, h1.1, h1.2, rfl⟩
theorem walk_zip {a b : Addr} {vs us : List V} {ds es : List D} (h : SqL K G a vs) (r : RpA K G vs ds) (h' : SqL K G b us) (r' : RpA K G us es) : WalkOk K (Itz K a b) G (zipD ds es) := by
  intro Φ G' H' σ E e S i hi
  have hq := (e.trans S.gh).sl h
  have hq' := (e.trans S.gh).sl h'
  have hl : (zipD ds es).length = min ds.length es.length := by unfold zipD; simp
  refine ⟨fun z => ⟨vs, us, hq, hq', by rw [r.length, r'.length]; omega⟩, fun d hd => ?_⟩
  obtain ⟨x, y, h1, h2, rfl⟩ := zipD_get hd
  obtain ⟨v, hv, rv⟩ := r.get h1
  obtain ⟨u, hu, ru⟩ := r'.get h2
  refine ⟨⟨vs, us, v, u, hq, hq', hv, hu⟩, fun x H'' hy => ?_⟩
  obtain ⟨T, v', u', rfl, hT, rfl, y1, y2⟩ := hy
  have h3 := y1 vs hq
  have h4 := y2 us hq'
  rw [hv] at h3; rw [hu] at h4
  cases h3; cases h4
  have g := S.gh.back hT
  exact ⟨_, Ex.new g, S.new hT, .tup (SqT.of upd_same) (.cons (Rp.mono (e.trans (Ex.new g)) _ rv) (.cons (Rp.mono (e.trans (Ex.new g)) _ ru) .nil))⟩
theorem walk_revL {a : Addr} {vs : List V} {ds : List D} (h : SqL K G a vs) (r : RpA K G vs ds) : WalkOk K (Itv K a vs.length) G ds.reverse := by
  intro Φ G' H' σ E e S i hi
  have hq := (e.trans S.gh).sl h
  have hl := r.length
  rw [List.length_reverse] at hi
  refine ⟨fun z => ?_, fun d hd => ?_⟩
  · rw [List.length_reverse] at z
    show vs.length ≤ i
    omega
  · have hi2 : i < ds.length := by have := (List.getElem?_eq_some_iff.mp hd).1; simpa using this
    rw [List.getElem?_reverse hi2] at hd
    obtain ⟨v, hv, rv⟩ := r.get hd
    have e1 : vs.length - 1 - i = ds.length - 1 - i := by omega
    refine ⟨⟨by omega, vs, v, hq, by rw [e1]; exact hv⟩, fun x H'' hy => ?_⟩
    obtain ⟨rfl, hx⟩ := hy
    have h3 := hx vs hq
    rw [e1, hv] at h3
    cases h3
    exact ⟨G', Ex.refl G', S, Rp.mono e _ rv⟩
theorem walk_revT {a : Addr} {vs : List V} {ds : List D} (h : SqT K G a vs) (r : RpA K G vs ds) : WalkOk K (RT.ItvT K a vs.length) G ds.reverse := by
  intro Φ G' H' σ E e S i hi
  have hq := (e.trans S.gh).st h
  have hl := r.length
  rw [List.length_reverse] at hi
  refine ⟨fun z => ?_, fun d hd => ?_⟩
  · rw [List.length_reverse] at z
    show vs.length ≤ i
    omega
  · have hi2 : i < ds.length := by have := (List.getElem?_eq_some_iff.mp hd).1; simpa using this
    rw [List.getElem?_reverse hi2] at hd
    obtain ⟨v, hv, rv⟩ := r.get hd
    have e1 : vs.length - 1 - i = ds.length - 1 - i := by omega
    refine ⟨⟨by omega, vs, v, hq, by rw [e1]; exact hv⟩, fun x H'' hy => ?_⟩
    obtain ⟨rfl, hx⟩ := hy
    have h3 := hx vs hq
    rw [e1, hv] at h3
    cases h3
    exact ⟨G', Ex.refl G', S, Rp.mono e _ rv⟩
end
section
variable {X : Cx} {W : WJ} {a b e tg : Expr} {p pos tpos : Pos} {fa fb : Env → R D} {elts : List Expr} {kk : Nat}
theorem ji_seq (ha : JE X W e fa) : JI X W tg e (fun1L itemsD fa) := by
  obtain ⟨ta, pa, sa⟩ := ha
  refine ⟨_, pi_or (pi_list pa) (pi_tup pa), fun Φ G H σ E Q S hp => ?_⟩
  have key : ∀ (Q' : V → Hp → Prop), (∀ d ds E1 G1 H1 v, itemsD d = some ds → Ex G G1 → Sat X.K Φ G1 H1 σ E1 → Rp X.K G1 v d → Post X.K W.w (relW X.K) Φ G1 σ (.ok ds E1) Q → Q' v H1) → ta σ H Q' := fun Q' k => by
    refine sa.go S hp fun d E1 G1 H1 v _ e1 S1 r1 hp => ?_
    cases hd : itemsD d with
    | none => rw [hd] at hp; exact hp.elim
    | some ds => rw [hd] at hp; exact k d ds E1 G1 H1 v hd e1 S1 r1 hp
  cases hf : fa E with
  | exc x E' => exact .inl (sa Φ G H σ E _ S (by rw [hf]; have hp' := hp; unfold fun1L at hp'; rw [hf] at hp'; exact hp'))
  | stuck => have hp' := hp; unfold fun1L at hp'; rw [hf] at hp'; exact hp'.elim
  | ok d E' =>
    have hp' := hp; unfold fun1L at hp'; rw [hf] at hp'
    have hp2 : Post X.K W.w (relW X.K) Φ G σ (match itemsD d with | some d => .ok d E' | none => .stuck) Q := hp'
    cases hd : itemsD d with
    | none => rw [hd] at hp2; exact hp2.elim
    | some ds =>
      rw [hd] at hp2
      cases d with
      | tup l =>
        cases hd
        refine .inr (sa Φ G H σ E _ S ?_)
        rw [hf]
        intro G1 H1 v e1 S1 r1
        cases r1 with
        | tup h1 h2 => exact ⟨_, rfl, ⟨_, S1.gh.st h1⟩, hp2 G1 H1 _ e1 S1 (walk_tup h1 h2)⟩
      | lst l =>
        cases hd
        refine .inl (sa Φ G H σ E _ S ?_)
        rw [hf]
        intro G1 H1 v e1 S1 r1
        cases r1 with
        | lst h1 h2 => exact ⟨_, rfl, ⟨_, SqL.of (S1.gh _ _ h1)⟩, hp2 G1 H1 _ e1 S1 (walk_list (SqL.of h1) h2)⟩
      | rol l =>
        cases hd
        refine .inl (sa Φ G H σ E _ S ?_)
        rw [hf]
        intro G1 H1 v e1 S1 r1
        cases r1 with
        | rol h1 h2 => exact ⟨_, rfl, ⟨_, S1.gh.sl h1⟩, hp2 G1 H1 _ e1 S1 (walk_list h1 h2)⟩
      | _ => cases hd
def smI (j : Int) : Bool := decide (j.natAbs < 2 ^ 62)
theorem smI_iff {j : Int} (h : smI j = true) : -(2 ^ 62) ≤ j ∧ j < 2 ^ 62 := by
  have h := of_decide_eq_true h
  omega
def fRng1 (fa : Env → R D) : Env → R (List D) := fun E => (fa E).bind fun a E => match a with
  | .int j => if smI j = true then .ok (upD 0 j.toNat) E else .stuck
  | _ => .stuck
theorem ji_range1 (hm : X.mg "range" = none) (ha : JE X W a fa) (hg : Gl X "range" := by rfl) (hs : starEach [a] X.env = [(false, eval a X.env)] := by rfl) (he : starEach [a] X.env = (false, eval a X.env) :: starEach [] X.env := by rfl) : JI X W tg (.Call (.Name "range" p) [a] [] pos) (fRng1 fa) := by
  obtain ⟨ta, pa, sa⟩ := ha
  refine ⟨_, pi_range1 hg hm (pa_cons pa pa_nil he) hs, fun Φ G H σ E Q S hp => ?_⟩
  refine sa.go S hp fun d E1 G1 H1 v _ e1 S1 r1 hp => ?_
  cases d with
  | int j =>
    simp only at hp
    by_cases c : smI j = true
    · rw [if_pos c] at hp
      cases r1
      exact ⟨j, rfl, (smI_iff c).1, (smI_iff c).2, hp G1 H1 _ (Ex.refl G1) S1 walk_range⟩
    · rw [if_neg c] at hp; exact hp.elim
  | _ => exact hp.elim
def fRng2 (fa fb : Env → R D) : Env → R (List D) := fun E => (fa E).bind fun a E => (fb E).bind fun b E => match a, b with
  | .int i, .int j => if (smI i && smI j) = true then .ok (upD i (j - i).toNat) E else .stuck
  | _, _ => .stuck
theorem ji_range2 (hm : X.mg "range" = none) (ha : JE X W a fa) (hb : JE X W b fb) (hg : Gl X "range" := by rfl) (hs : starEach [a, b] X.env = [(false, eval a X.env), (false, eval b X.env)] := by rfl) (hs2 : starEach [b] X.env = [(false, eval b X.env)] := by rfl)
    (he : starEach [a, b] X.env = (false, eval a X.env) :: starEach [b] X.env := by rfl) (he2 : starEach [b] X.env = (false, eval b X.env) :: starEach [] X.env := by rfl) : JI X W tg (.Call (.Name "range" p) [a, b] [] pos) (fRng2 fa fb) := by
  obtain ⟨ta, pa, sa⟩ := ha
  obtain ⟨tb, pb, sb⟩ := hb
  refine ⟨_, pi_range2 hg hm (pa_cons pa (pa_cons pb pa_nil he2) he) hs hs2, fun Φ G H σ E Q S hp => ?_⟩
  refine sa.go S hp fun d E1 G1 H1 v _ e1 S1 r1 hp => ?_
  refine sb.go S1 hp fun d' E2 G2 H2 u _ e2 S2 r2 hp => ?_
  cases d with
  | int i =>
    cases d' with
    | int j =>
      simp only at hp
      by_cases c : (smI i && smI j) = true
      · rw [if_pos c] at hp
        cases r1
        cases r2
        rw [Bool.and_eq_true] at c
        exact ⟨i, j, rfl, ⟨(smI_iff c.1).1, (smI_iff c.1).2, (smI_iff c.2).1, (smI_iff c.2).2⟩, hp G2 H2 _ (Ex.refl G2) S2 walk_range⟩
      · rw [if_neg c] at hp; exact hp.elim
    | _ => exact hp.elim
  | _ => exact hp.elim
theorem ji_enum (hm : X.mg "enumerate" = none) (ha : JE X W e fa) (hg : Gl X "enumerate" := by rfl) (hs : starEach [e] X.env = [(false, eval e X.env)] := by rfl) (he : starEach [e] X.env = (false, eval e X.env) :: starEach [] X.env := by rfl) :
    JI X W (.Tuple elts kk tpos) (.Call (.Name "enumerate" p) [e] [] pos) (fun1L (fun d => (listD d).map enumD) fa) := by
  obtain ⟨ta, pa, sa⟩ := ha
  refine ⟨_, pi_enum hg hm (pa_cons pa pa_nil he) hs, fun Φ G H σ E Q S hp => ?_⟩
  refine sa.go S hp fun d E1 G1 H1 v _ e1 S1 r1 hp => ?_
  cases d with
  | lst l => cases r1 with | lst h1 h2 => exact ⟨_, _, rfl, SqL.of (S1.gh _ _ h1), hp G1 H1 _ (Ex.refl G1) S1 (walk_enum (SqL.of h1) h2)⟩
  | rol l => cases r1 with | rol h1 h2 => exact ⟨_, _, rfl, S1.gh.sl h1, hp G1 H1 _ (Ex.refl G1) S1 (walk_enum h1 h2)⟩
  | _ => exact hp.elim
def gZip : D → D → Option (List D) := fun a b => (listD a).bind fun x => (listD b).map fun y => zipD x y
def fZip (fa fb : Env → R D) : Env → R (List D) := fun E => (fa E).bind fun a E => (fb E).bind fun b E => match gZip a b with | some d => .ok d E | none => .stuck
theorem Rp.listG {K : PySem.W.Frag} {G : Hp} {v : V} {d : D} {l : List D} (h : Rp K G v d) (hl : listD d = some l) : ∃ p vs, v = .ref p ∧ SqL K G p vs ∧ RpA K G vs l := by
  cases d with
  | lst l' => cases hl; cases h with | lst h1 h2 => exact ⟨_, _, rfl, SqL.of h1, h2⟩
  | rol l' => cases hl; cases h with | rol h1 h2 => exact ⟨_, _, rfl, h1, h2⟩
  | _ => cases hl
theorem ji_zip (hm : X.mg "zip" = none) (ha : JE X W a fa) (hb : JE X W b fb) (hg : Gl X "zip" := by rfl)
    (he : starEach [a, b] X.env = (false, eval a X.env) :: starEach [b] X.env := by rfl) (he2 : starEach [b] X.env = (false, eval b X.env) :: starEach [] X.env := by rfl) (hpl : (backTo pos (starEach [b] X.env)).any (·.1) = false := by rfl) :
    JI X W (.Tuple elts kk tpos) (.Call (.Name "zip" p) [a, b] [] pos) (fZip fa fb) := by
  obtain ⟨ta, pa, sa⟩ := ha
  obtain ⟨tb, pb, sb⟩ := hb
  refine ⟨_, pi_zip hg hm (pa_cons pa (pa_cons pb pa_nil he2) he) he hpl, fun Φ G H σ E Q S hp => ?_⟩
  refine sa.go S hp fun d E1 G1 H1 v _ e1 S1 r1 hp => ?_
  refine sb.go S1 hp fun d' E2 G2 H2 u _ e2 S2 r2 hp => ?_
  cases hd : gZip d d' with
  | none => rw [hd] at hp; exact hp.elim
  | some ds =>
    rw [hd] at hp
    obtain ⟨x, h1, hd⟩ := Option.bind_eq_some_iff.mp hd
    obtain ⟨y, h2, rfl⟩ := Option.map_eq_some_iff.mp hd
    obtain ⟨p, vs, rfl, h3, h4⟩ := (Rp.mono e2 _ r1).listG h1
    obtain ⟨q, us, rfl, h5, h6⟩ := r2.listG h2
    exact ⟨p, q, vs, us, rfl, S2.gh.sl h3, S2.gh.sl h5, hp G2 H2 _ (Ex.refl G2) S2 (walk_zip h3 h4 h5 h6)⟩
def gRevA : D → Option (List D) := fun d => (itemsD d).map List.reverse
theorem ji_rev (hm : X.mg "reversed" = none) (ha : JE X W e fa) (hg : Gl X "reversed" := by rfl) (he : starEach [e] X.env = (false, eval e X.env) :: starEach [] X.env := by rfl) : JI X W tg (.Call (.Name "reversed" p) [e] [] pos) (fun1L gRevA fa) := by
  obtain ⟨ta, pa, sa⟩ := ha
  refine ⟨_, RT.pi_revA hg hm pa he, fun Φ G H σ E Q S hp => ?_⟩
  refine sa.go S hp fun d E1 G1 H1 v _ e1 S1 r1 hp => ?_
  cases d with
  | lst l => cases r1 with | lst h1 h2 => exact ⟨_, _, rfl, .inl ⟨SqL.of (S1.gh _ _ h1), hp G1 H1 _ (Ex.refl G1) S1 (walk_revL (SqL.of h1) h2)⟩⟩
  | rol l => cases r1 with | rol h1 h2 => exact ⟨_, _, rfl, .inl ⟨S1.gh.sl h1, hp G1 H1 _ (Ex.refl G1) S1 (walk_revL h1 h2)⟩⟩
  | tup l => cases r1 with | tup h1 h2 => exact ⟨_, _, rfl, .inr ⟨S1.gh.st h1, hp G1 H1 _ (Ex.refl G1) S1 (walk_revT h1 h2)⟩⟩
  | _ => exact hp.elim
end

/-! ### for -/
def forD (g : D → Env → Option Env) (f : Env → RS) : List D → Env → RS
  | [], E => .nx E
  | d :: ds, E => match g d E with
    | none => .stuck
    | some E1 => match f E1 with
      | .nx E2 => forD g f ds E2
      | .ct E2 => forD g f ds E2
      | .bk E2 => .nx E2
      | r => r
def sFor (fi : Env → R (List D)) (g : D → Env → Option Env) (f : Env → RS) : Env → RS := fun E => (fi E).bindS fun ds E => forD g f ds E
/-- what a loop's turn needs -/
structure ForW (K : PySem.W.Frag) (W : WX) (Φ : Fr) (G1 : Hp) (D : Ends) (g : J.D → Env → Option Env) (f : Env → RS) (ds : List J.D) (i m : Nat) (σ : St) (H : Hp) : Prop where
  le : i ≤ ds.length
  m : m = ds.length - i
  at' : ∃ G E, Ex G1 G ∧ Sat K Φ G H σ E ∧ PostS K W Φ G σ (forD g f (ds.drop i) E) D
theorem js_for {iter tg : Expr} {body : List Stmt} {is : List Nat} {X : Cx} {W : WX} {pos : Pos} {fi : Env → R (List D)} {g : D → Env → Option Env} {f : Env → RS} (hp : PassesOwn (model X.prog X.w) X.A X.env X.xe) (hc : X.calm = true) (hi : JI X (pw W) tg iter fi) (hg : JG X tg is g) (hb : JSs X W body f)
    (hs : ∀ x, foldedSetIterable iter X.env x = pure x := by intro _; rfl) : JS X W (.For tg iter body [] pos) (sFor fi g f) := by
  obtain ⟨wi, p1, s1⟩ := hi
  obtain ⟨tgt, p2, s2⟩ := hg
  obtain ⟨tb, p3, s3⟩ := hb
  refine ⟨_, ps_for hp hc p1 p2 p3 hs, fun Φ G H σ E D S hP => ?_⟩
  refine s1.goS S hP fun ds E1 G1 H1 J _ e1 S1 wk hP => ?_
  refine ⟨ForW X.K W Φ G1 D g f ds, ⟨_, Nat.zero_le _, rfl, G1, E1, Ex.refl G1, S1, hP⟩, fun i m σ2 H2 w => ?_⟩
  obtain ⟨hle, rfl, G2, E2, x2, S2, hP2⟩ := w
  obtain ⟨ws, wg⟩ := wk Φ G2 H2 σ2 E2 x2 S2 i hle
  by_cases hi : i = ds.length
  · refine .inl ⟨ws hi, ?_⟩
    rw [hi, List.drop_length] at hP2
    exact hP2 G2 H2 σ2 (Ex.refl G2) S2
  · have hlt : i < ds.length := by omega
    have hd : ds[i]? = some ds[i] := List.getElem?_eq_getElem hlt
    rw [List.drop_eq_getElem_cons hlt] at hP2
    obtain ⟨go, step⟩ := wg _ hd
    refine .inr ⟨go, fun σ' H' => ∃ m', m' < ds.length - i ∧ ForW X.K W Φ G1 D g f ds (i + 1) m' σ' H', fun σ' H' h => h, fun x H' hy => ?_⟩
    obtain ⟨G3, x3, S3, r3⟩ := step x H' hy
    simp only [forD] at hP2
    cases hgd : g ds[i] E2 with
    | none => rw [hgd] at hP2; exact hP2.elim
    | some E3 =>
      rw [hgd] at hP2
      refine s2 Φ G3 H' σ2 E2 x _ E3 _ S3 r3 hgd fun G4 H4 σ4 x4 S4 _ => ?_
      refine s3 Φ G4 H4 σ4 E3 _ S4 ?_
      have again : ∀ {E5 : Env}, PostS X.K W Φ G2 σ2 (forD g f (ds.drop (i + 1)) E5) D → ∀ G5 H5 σ5, Ex G4 G5 → Sat X.K Φ G5 H5 σ5 E5 → ∃ m', m' < ds.length - i ∧ ForW X.K W Φ G1 D g f ds (i + 1) m' σ5 H5 := fun {E5} h5 G5 H5 σ5 x5 S5 =>
        ⟨ds.length - (i + 1), by omega, by omega, rfl, G5, E5, x2.trans (x3.trans (x4.trans x5)), S5, PostS.mono (x3.trans (x4.trans x5)) h5⟩
      cases hf : f E3 with
      | nx E5 => simp only [hf] at hP2; exact again hP2
      | ct E5 => simp only [hf] at hP2; exact again hP2
      | bk E5 => simp only [hf] at hP2; exact fun G5 H5 σ5 x5 S5 => hP2 G5 H5 σ5 (x3.trans (x4.trans x5)) S5
      | rt rv E5 =>
        simp only [hf] at hP2
        cases rv with
        | v d => exact fun G5 H5 σ5 v x5 S5 => hP2 G5 H5 σ5 v (x3.trans (x4.trans x5)) S5
        | l d => exact fun G5 H5 σ5 v x5 S5 => hP2 G5 H5 σ5 v (x3.trans (x4.trans x5)) S5
      | exc x E5 => simp only [hf] at hP2; exact PostX.mono (x3.trans x4) hP2
      | stuck => simp only [hf] at hP2; exact hP2.elim

/-! ### while -/
def whileD (t : Env → R Bool) (f : Env → RS) : Nat → Env → RS
  | 0, _ => .stuck
  | n + 1, E => (t E).bindS fun b E1 => if b = true then (match f E1 with
      | .nx E2 => whileD t f n E2
      | .ct E2 => whileD t f n E2
      | .bk E2 => .nx E2
      | r => r) else .nx E1
theorem js_while {c : Expr} {body : List Stmt} {X : Cx} {W : WX} {pos : Pos} {t : Env → R Bool} {f : Env → RS} (fuel : Env → Nat) (hp : PassesOwn (model X.prog X.w) X.A X.env X.xe) (hc : JT X W c t) (hb : JSs X W body f) : JS X W (.While c body [] pos) (fun E => whileD t f (fuel E) E) := by
  obtain ⟨tt, p1, s1⟩ := hc
  obtain ⟨tb, p3, s3⟩ := hb
  refine ⟨_, ps_while hp p1 p3, fun Φ G H σ E D S hP => ?_⟩
  refine ⟨fun m σ' H' => ∃ G' E', Ex G G' ∧ Sat X.K Φ G' H' σ' E' ∧ PostS X.K W Φ G' σ' (whileD t f m E') D, ⟨fuel E, G, E, Ex.refl G, S, hP⟩, fun m σ2 H2 w => ?_⟩
  obtain ⟨G2, E2, x2, S2, hP2⟩ := w
  cases m with
  | zero => exact hP2.elim
  | succ m =>
    refine s1.goS S2 hP2 fun b E3 G3 H3 b' _ x3 S3 r hP3 => ?_
    have r : b = b' := r
    subst r
    cases b with
    | false => exact iteF (hP3 G3 H3 σ2 (Ex.refl G3) S3)
    | true =>
      simp only [if_true] at hP3 ⊢
      refine ⟨fun σ' H' => ∃ m', m' < m + 1 ∧ ∃ G' E', Ex G G' ∧ Sat X.K Φ G' H' σ' E' ∧ PostS X.K W Φ G' σ' (whileD t f m' E') D, fun σ' H' h => h, ?_⟩
      refine s3 Φ G3 H3 σ2 E3 _ S3 ?_
      have again : ∀ {E5 : Env}, PostS X.K W Φ G3 σ2 (whileD t f m E5) D → ∀ G5 H5 σ5, Ex G3 G5 → Sat X.K Φ G5 H5 σ5 E5 → ∃ m', m' < m + 1 ∧ ∃ G' E', Ex G G' ∧ Sat X.K Φ G' H5 σ5 E' ∧ PostS X.K W Φ G' σ5 (whileD t f m' E') D := fun {E5} h5 G5 H5 σ5 x5 S5 =>
        ⟨m, by omega, G5, E5, x2.trans (x3.trans x5), S5, PostS.mono x5 h5⟩
      cases hf : f E3 with
      | nx E5 => simp only [hf] at hP3; exact again hP3
      | ct E5 => simp only [hf] at hP3; exact again hP3
      | bk E5 => simp only [hf] at hP3; exact fun G5 H5 σ5 x5 S5 => hP3 G5 H5 σ5 x5 S5
      | rt rv E5 =>
        simp only [hf] at hP3
        cases rv with
        | v d => exact hP3
        | l d => exact hP3
      | exc x E5 => simp only [hf] at hP3; exact hP3
      | stuck => simp only [hf] at hP3; exact hP3.elim
end J

namespace J
open PySem PySem.Spec PyProof.Rows L2

/-! ### slots forgotten -/
def wipeE : List Nat → Env → Env
  | [], E => E
  | v :: vs, E => (wipeE vs E).set v .no
section
variable {K : PySem.W.Frag} {Φ : Fr} {G H : Hp} {σ σ' : St} {E : Env}
theorem Sat.wipe (S : Sat K Φ G H σ E) : ∀ vs : List Nat, Sat K Φ G H (L2.wipe σ vs) (wipeE vs E)
  | [] => S
  | v :: vs => (Sat.wipe S vs).setN
theorem wipeE_len (E : Env) : ∀ vs : List Nat, (wipeE vs E).length = E.length
  | [] => rfl
  | v :: vs => by unfold wipeE; rw [List.length_set, wipeE_len E vs]
theorem wipeE_in {i : Nat} : ∀ {vs : List Nat}, i ∈ vs → (wipeE vs E)[i]? = some .no ∨ (wipeE vs E)[i]? = none
  | [], h => by cases h
  | v :: vs, h => by
    unfold wipeE
    by_cases hv : v = i
    · subst hv
      by_cases hl : v < (wipeE vs E).length
      · rw [List.getElem?_set_self hl]; exact .inl rfl
      · rw [List.getElem?_eq_none (by simpa using hl)]; exact .inr rfl
    · rw [List.getElem?_set_ne hv]
      rcases List.mem_cons.mp h with z | z
      · exact absurd z.symm hv
      · exact wipeE_in z
theorem wipe_in {i : Nat} : ∀ {vs : List Nat}, i ∈ vs → (L2.wipe σ vs)[i]? = some none ∨ (L2.wipe σ vs)[i]? = none
  | [], h => by cases h
  | v :: vs, h => by
    unfold L2.wipe
    by_cases hv : v = i
    · subst hv
      by_cases hl : v < (L2.wipe σ vs).length
      · rw [List.getElem?_set_self hl]; exact .inl rfl
      · rw [List.getElem?_eq_none (by simpa using hl)]; exact .inr rfl
    · rw [List.getElem?_set_ne hv]
      rcases List.mem_cons.mp h with z | z
      · exact absurd z.symm hv
      · exact wipe_in z
/-- the slots that count are the same -/
theorem Sat.agree (S : Sat K Φ G H σ E) (hl : σ'.length = σ.length) (h : ∀ (i : Nat) (s : Sl), E[i]? = some s → s ≠ Sl.no → σ'[i]? = σ[i]?) : Sat K Φ G H σ' E := by
  refine ⟨hl.trans S.len, fun i s hs => ?_, S.gh, S.fh, S.fg, fun i s b p h1 hb h2 => ?_, fun i j s s' b b' p h1 hb h2 hb' h3 h4 => ?_⟩
  · by_cases hn : s = .no
    · subst hn
      have hi : i < σ'.length := by rw [hl, S.len]; exact (List.getElem?_eq_some_iff.mp hs).1
      exact ⟨_, List.getElem?_eq_getElem hi, trivial⟩
    · rw [h i s hs hn]; exact S.sl i s hs
  · rw [h i _ h1 (fun z => by subst z; cases hb)] at h2; exact S.ow' i s b p h1 hb h2
  · rw [h i _ h1 (fun z => by subst z; cases hb)] at h3
    rw [h j _ h2 (fun z => by subst z; cases hb')] at h4
    exact S.di' i j s s' b b' p h1 hb h2 hb' h3 h4
/-- back to the slots as they were -/
theorem Sat.unwipe {vs : List Nat} (S : Sat K Φ G H σ' E) (h : L2.wipe σ' vs = L2.wipe σ vs) : Sat K Φ G H σ (wipeE vs E) := by
  have S1 := S.wipe vs
  rw [h] at S1
  refine S1.agree (wipe_length σ vs).symm fun i s hs hn => ?_
  by_cases hi : i ∈ vs
  · rcases wipeE_in (E := E) hi with z | z
    · rw [z] at hs; cases hs; exact absurd rfl hn
    · rw [z] at hs; cases hs
  · exact (wipe_out hi).symm
theorem wipe_of {vs is : List Nat} (hc : Chg is (L2.wipe σ vs) σ') (hs : ∀ i ∈ is, i ∈ vs) : L2.wipe σ' vs = L2.wipe σ vs := by
  have hl : σ'.length = σ.length := hc.1.trans (wipe_length σ vs)
  apply List.ext_getElem?
  intro i
  by_cases hi : i ∈ vs
  · by_cases hb : i < σ.length
    · have a1 : i < (L2.wipe σ' vs).length := by rw [wipe_length, hl]; exact hb
      have a2 : i < (L2.wipe σ vs).length := by rw [wipe_length]; exact hb
      have b1 : (L2.wipe σ' vs)[i]? = some none := by
        rcases wipe_in (σ := σ') hi with z | z
        · exact z
        · rw [List.getElem?_eq_getElem a1] at z; cases z
      have b2 : (L2.wipe σ vs)[i]? = some none := by
        rcases wipe_in (σ := σ) hi with z | z
        · exact z
        · rw [List.getElem?_eq_getElem a2] at z; cases z
      rw [b1, b2]
    · rw [List.getElem?_eq_none (by rw [wipe_length, hl]; omega), List.getElem?_eq_none (by rw [wipe_length]; omega)]
  · rw [wipe_out hi, hc.2 i (fun z => hi (hs i z))]
/-- a list that nobody else sees is locked -/
def Fr.lk (Φ : Fr) (D : Addr) (vs : List V) : Fr := ⟨upd Φ.F D (.lst vs), Φ.io⟩
theorem Sat.lk (S : Sat K Φ G H σ E) {p : Addr} {vs : List V} (hp : H p = some (.lst vs)) (g : G p = none) (n : NotOwn σ E p) : Sat K (Φ.lk p vs) G H σ E := by
  refine ⟨S.len, S.sl, S.gh, fun a o h => ?_, fun a h => ?_, fun i s b q h1 hb h2 => ?_, S.di'⟩
  · by_cases ha : a = p
    · subst ha
      have h' : upd Φ.F a (.lst vs) a = some o := h
      rw [upd_same] at h'; rw [← h']; exact hp
    · have h' : upd Φ.F p (.lst vs) a = some o := h
      rw [upd_ne ha] at h'; exact S.fh a o h'
  · by_cases ha : a = p
    · subst ha; exact g
    · refine S.fg a fun z => h ?_
      show upd Φ.F p (.lst vs) a = none
      rw [upd_ne ha]; exact z
  · obtain ⟨h3, h4, h5⟩ := S.ow' i s b q h1 hb h2
    refine ⟨h3, ?_, h5⟩
    show upd Φ.F p (.lst vs) q = none
    rw [upd_ne (fun z => n i s b h1 hb (by rw [← z]; exact h2))]
    exact h4
theorem Sat.unlk {p : Addr} {vs : List V} (S : Sat K (Φ.lk p vs) G H σ E) (hF : Φ.F p = none) : Sat K Φ G H σ E ∧ H p = some (.lst vs) ∧ G p = none ∧ NotOwn σ E p := by
  have hs : (Φ.lk p vs).F p = some (.lst vs) := upd_same
  refine ⟨⟨S.len, S.sl, S.gh, fun a o h => ?_, fun a h => ?_, fun i s b q h1 hb h2 => ?_, S.di'⟩, S.fh p _ hs, S.fg p (by rw [hs]; simp), fun i s b h1 hb h2 => ?_⟩
  · by_cases ha : a = p
    · subst ha; rw [hF] at h; cases h
    · exact S.fh a o (by show upd Φ.F p (.lst vs) a = some o; rw [upd_ne ha]; exact h)
  · by_cases ha : a = p
    · subst ha; exact absurd hF h
    · exact S.fg a (by show upd Φ.F p (.lst vs) a ≠ none; rw [upd_ne ha]; exact h)
  · obtain ⟨h3, h4, h5⟩ := S.ow' i s b q h1 hb h2
    refine ⟨h3, ?_, h5⟩
    by_cases ha : q = p
    · subst ha; exact hF
    · have h4' : upd Φ.F p (.lst vs) q = none := h4
      rw [upd_ne ha] at h4'; exact h4'
  · obtain ⟨h3, h4, h5⟩ := S.ow' i s b p h1 hb h2
    rw [hs] at h4; cases h4
end

/-! ### [f for g in ds if t] -/
def R.nx {α : Type} (m : R α) : R α := match m with
  | .ok a E => .ok a E
  | _ => .stuck
def lcD (vs : List Nat) (g : D → Env → Option Env) (t : Env → R Bool) (f : Env → R D) : List D → List D → Env → R (List D)
  | [], acc, E => .ok acc E
  | d :: ds, acc, E => match g d (wipeE vs E) with
    | none => .stuck
    | some E1 => match t E1 with
      | .ok true E2 => (match f E2 with
        | .ok y E3 => if acc.length < 16777216 then lcD vs g t f ds (acc ++ [y]) (wipeE vs E3) else .stuck
        | _ => .stuck)
      | .ok false E2 => lcD vs g t f ds acc (wipeE vs E2)
      | _ => .stuck
def fLc (vs : List Nat) (fi : Env → R (List D)) (g : D → Env → Option Env) (t : Env → R Bool) (f : Env → R D) : Env → R (List D) := fun E => (fi E).bind fun ds E => lcD vs g t f ds [] E
def W0 : WX := fun _ _ _ _ => False
def V0 : WJ := pw W0
structure LcW (K : PySem.W.Frag) (W : WX) (Φ : Fr) (G1 : Hp) (σ : St) (P : Addr) (Q : V → Hp → Prop) (vs : List Nat) (g : D → Env → Option Env) (t : Env → R Bool) (f : Env → R D) (ds : List D) (i m : Nat) (H : Hp) : Prop where
  le : i ≤ ds.length
  m : m = ds.length - i
  at' : ∃ G E xs acc, Ex G1 G ∧ Sat K Φ G H σ E ∧ H P = some (.lst xs) ∧ RpA K G xs acc ∧ G P = none ∧ Φ.F P = none ∧ NotOwn σ E P ∧ Post K W (relL K) Φ G σ (lcD vs g t f (ds.drop i) acc E) Q
theorem NotOwn.wipe {σ : St} {E : Env} {p : Addr} (n : NotOwn σ E p) : ∀ vs : List Nat, NotOwn (L2.wipe σ vs) (wipeE vs E) p := fun vs i s b h1 hb h2 => by
  have hi : i ∉ vs := fun z => by
    rcases wipeE_in (E := E) z with q | q
    · rw [q] at h1; cases h1; cases hb
    · rw [q] at h1; cases h1
  have key : ∀ ws : List Nat, i ∉ ws → (wipeE ws E)[i]? = E[i]? := fun ws => by
    induction ws with
    | nil => intro _; rfl
    | cons w ws ih =>
      intro hw
      unfold wipeE
      rw [List.getElem?_set_ne (fun z => hw (by simp [z]))]
      exact ih fun z => hw (List.mem_cons_of_mem _ z)
  rw [key vs hi] at h1
  rw [wipe_out hi] at h2
  exact n i s b h1 hb h2
theorem Post.imp {α β : Type} {K : PySem.W.Frag} {W : WX} {rel : Rel α β} {Φ : Fr} {G : Hp} {σ : St} {r : R α} {Q Q' : β → Hp → Prop} (h : Post K W rel Φ G σ r Q) (k : ∀ b H, Q b H → Q' b H) : Post K W rel Φ G σ r Q' := by
  cases r with
  | ok a E' => exact fun G' H' b e S q => k b H' (h G' H' b e S q)
  | exc x E' => exact h
  | stuck => exact h
theorem lc_loop {K : PySem.W.Frag} {W : WX} {Φ : Fr} {G1 : Hp} {σ : St} {P : Addr} {vs is : List Nat} {g : D → Env → Option Env} {t : Env → R Bool} {f : Env → R D} {tg : TG} {tt : TT} {te : TE} {J : It} {ds : List D} {Fin : Hp → Prop} (wk : WalkOk K J G1 ds) (hg : GGo K is g tg) (hvs : ∀ i ∈ is, i ∈ vs) (ht : Snd K V0 relT tt t) (he : Snd K V0 (relE K) te f) :
    ∀ (i m : Nat) (H2 : Hp), LcW K W Φ G1 σ P (fun v H => v = .ref P → Fin H) vs g t f ds i m H2 → (J.stop i H2 ∧ Fin H2) ∨ (J.go i H2 ∧ ∃ Nx : Hp → Prop, (∀ H', Nx H' → ∃ m', m' < m ∧ LcW K W Φ G1 σ P (fun v H => v = .ref P → Fin H) vs g t f ds (i + 1) m' H') ∧ ∀ x H', J.yld i H2 x H' → tg x (L2.wipe σ vs) H' fun σ2 H2 => L2.wipe σ2 vs = L2.wipe σ vs ∧ tt σ2 H2 fun b H3 =>
      if b = true then te σ2 H3 fun y H4 => ∃ acc, H4 P = some (.lst acc) ∧ acc.length < sizeLine ∧ Nx (upd H4 P (.lst (acc ++ [y]))) else Nx H3) := by
  intro i m H2 w
  obtain ⟨hle, rfl, G2, E2, xs, acc, x2, S2, hD, ra, gD, fD, nD, hP2⟩ := w
  obtain ⟨ws, wg⟩ := wk Φ G2 H2 σ E2 x2 S2 i hle
  by_cases hi' : i = ds.length
  · refine .inl ⟨ws hi', ?_⟩
    rw [hi', List.drop_length] at hP2
    exact hP2 G2 H2 (.ref P) (Ex.refl G2) S2 ⟨P, xs, rfl, hD, ra, gD, fD, nD⟩ rfl
  · have hlt : i < ds.length := by omega
    have hd : ds[i]? = some ds[i] := List.getElem?_eq_getElem hlt
    rw [List.drop_eq_getElem_cons hlt] at hP2
    obtain ⟨go, _⟩ := wg _ hd
    refine .inr ⟨go, fun H' => ∃ m', m' < ds.length - i ∧ LcW K W Φ G1 σ P (fun v H => v = .ref P → Fin H) vs g t f ds (i + 1) m' H', fun H' h => h, fun x H' hy => ?_⟩
    have S2l := S2.lk hD gD nD
    obtain ⟨_, wg2⟩ := wk (Φ.lk P xs) G2 H2 σ E2 x2 S2l i hle
    obtain ⟨G3, x3, S3, r3⟩ := (wg2 _ hd).2 x H' hy
    simp only [lcD] at hP2
    cases hgd : g ds[i] (wipeE vs E2) with
    | none => rw [hgd] at hP2; exact hP2.elim
    | some E3 =>
      rw [hgd] at hP2
      refine hg (Φ.lk P xs) G3 H' _ (wipeE vs E2) x _ E3 _ (S3.wipe vs) r3 hgd fun G4 H4 σ4 x4 S4 c4 => ?_
      have hw := wipe_of c4 hvs
      refine ⟨hw, ?_⟩
      refine ht (Φ.lk P xs) G4 H4 σ4 E3 _ S4.pw ?_
      cases hte : t E3 with
      | exc x E5 => simp only [hte] at hP2; exact hP2.elim
      | stuck => simp only [hte] at hP2; exact hP2.elim
      | ok b E5 =>
        simp only [hte] at hP2
        intro G5 H5 b' x5 S5 hb
        have hb' : b = b' := hb
        subst hb'
        have again : ∀ {ys : List V} {ac : List D} {G6 : Hp} {H6 : Hp} {E6 : Env}, Ex G2 G6 → Sat K Φ G6 H6 σ (wipeE vs E6) → H6 P = some (.lst ys) → RpA K G6 ys ac → G6 P = none → NotOwn σ (wipeE vs E6) P → Post K W (relL K) Φ G2 σ (lcD vs g t f (ds.drop (i + 1)) ac (wipeE vs E6)) (fun v H => v = .ref P → Fin H) →
            ∃ m', m' < ds.length - i ∧ LcW K W Φ G1 σ P (fun v H => v = .ref P → Fin H) vs g t f ds (i + 1) m' H6 := fun x6 S6 h6 r6 g6 n6 p6 => ⟨ds.length - (i + 1), by omega, by omega, rfl, _, _, _, _, x2.trans x6, S6, h6, r6, g6, fD, n6, Post.mono x6 p6⟩
        cases b with
        | false =>
          refine iteF ?_
          obtain ⟨U1, U2, U3, U4⟩ := S5.unlk fD
          have U := U1.unwipe hw
          refine again (x3.trans (x4.trans x5)) U U2 (ra.mono (x3.trans (x4.trans x5))) U3 (fun j s b h1 hb h2 => ?_) hP2
          obtain ⟨k1, k2⟩ := (S5.unwipe hw).ow' j s b P h1 hb h2 |>.2
          rw [show (Φ.lk P xs).F P = some (.lst xs) from upd_same] at k1
          cases k1
        | true =>
          refine iteT ?_
          refine he (Φ.lk P xs) G5 H5 σ4 E5 _ S5.pw ?_
          cases hfe : f E5 with
          | exc x E6 => simp only [hfe] at hP2; exact hP2.elim
          | stuck => simp only [hfe] at hP2; exact hP2.elim
          | ok y E6 =>
            simp only [hfe] at hP2
            intro G6 H6 v x6 S6 r6
            obtain ⟨U1, U2, U3, U4⟩ := S6.unlk fD
            have U := U1.unwipe hw
            have xx := x3.trans (x4.trans (x5.trans x6))
            have nn : NotOwn σ (wipeE vs E6) P := fun j s b h1 hb h2 => by
              obtain ⟨k1, k2⟩ := (S6.unwipe hw).ow' j s b P h1 hb h2 |>.2
              rw [show (Φ.lk P xs).F P = some (.lst xs) from upd_same] at k1
              cases k1
            by_cases c : acc.length < 16777216
            · simp only [if_pos c] at hP2
              have ra6 := ra.mono xx
              refine ⟨xs, U2, by rw [sizeLine_eq, ra.length]; exact c, ?_⟩
              refine again xx ?_ upd_same (ra6.append (.cons r6 .nil)) U3 nn hP2
              refine ⟨U.len, fun j s hs => ?_, U.gh.mut U3, U.fh.mut fD, U.fg, U.ow', U.di'⟩
              obtain ⟨x, h1, h2⟩ := U.sl j s hs
              refine ⟨x, h1, h2.mono (Ex.refl _) fun q b hbo e2 => ?_⟩
              subst e2
              exact upd_ne fun z => by subst z; exact nn j s b hs hbo h1
            · simp only [if_neg c] at hP2; exact hP2.elim
theorem lc_snd {K : PySem.W.Frag} {W : WJ} {vs is : List Nat} {fi : Env → R (List D)} {g : D → Env → Option Env} {t : Env → R Bool} {f : Env → R D} {wi : TI} {tg : TG} {tt : TT} {te : TE} (hi : Snd K W (relW K) wi fi) (hg : GGo K is g tg) (hvs : ∀ i ∈ is, i ∈ vs) (ht : Snd K V0 relT tt t) (he : Snd K V0 (relE K) te f) :
    Snd K W (relL K) (tLc wi tg tt te vs) (fLc vs fi g t f) := by
  intro Φ G H σ E Q S hP
  refine hi.go S hP fun ds E1 G1 H1 J _ e1 S1 wk hP => ?_
  intro P hPn
  exact ⟨_, ⟨_, Nat.zero_le _, rfl, G1, E1, [], [], Ex.refl G1, S1.newH hPn, upd_same, .nil, S1.gh.back hPn, S1.fh.back hPn, S1.notOwn hPn, hP.imp fun b H q z => by rw [← z]; exact q⟩, lc_loop (W := W.w) (Fin := fun H => Q (.ref P) H) wk hg hvs ht he⟩
section
variable {X : Cx} {W : WJ} {elt tg iter : Expr} {ifs : List Expr} {scope : Scope} {pos : Pos} {is : List Nat} {fi : Env → R (List D)} {g : D → Env → Option Env} {t : Env → R Bool} {f : Env → R D}
theorem jl_lc (own : List (Str × Nat)) (hc : X.calm = true) (hN : X.N.Nodup) (hi : JI X W tg iter fi) (ok : BlkOk X.N X.env.scope scope own)
    (hg : ∀ (s : Shared) (H : Hp) (C : Addr) (cl : List (Str × Addr)) (fp : List Addr), JG (X.blk s H scope (compEnvC scope cl C X.env) fp) tg is g) (hvs : ∀ i ∈ is, i ∈ own.map (·.2))
    (ht : ∀ (s : Shared) (H : Hp) (C : Addr) (cl : List (Str × Addr)) (fp : List Addr), JTs (X.blk s H scope (compEnvC scope cl C X.env) fp) V0 ifs t)
    (he : ∀ (s : Shared) (H : Hp) (C : Addr) (cl : List (Str × Addr)) (fp : List Addr), JE (X.blk s H scope (compEnvC scope cl C X.env) fp) V0 elt f) (hs : ∀ x, foldedSetIterable iter X.env x = pure x := by intro _; rfl) :
    JL X W (.ListComp elt [⟨tg, iter, ifs, 0⟩] scope pos) (fLc (own.map (·.2)) fi g t f) := by
  obtain ⟨wi, p1, s1⟩ := hi
  exact ⟨_, pe_lc hc hN p1 ok (fun s H C cl fp => (hg s H C cl fp).can) (fun s H C cl fp => (ht s H C cl fp).can) (fun s H C cl fp => (he s H C cl fp).can) hs, lc_snd s1 canG.go hvs canE.snd canE.snd⟩
theorem js_setLc {W : WX} (i : Nat) {y : Str} {py spos : Pos} (own : List (Str × Nat)) (hc : X.calm = true) (hN : X.N.Nodup) (hi : JI X (pw W) tg iter fi) (ok : BlkOk X.N X.env.scope scope own)
    (hg : ∀ (s : Shared) (H : Hp) (C : Addr) (cl : List (Str × Addr)) (fp : List Addr), JG (X.blk s H scope (compEnvC scope cl C X.env) fp) tg is g) (hvs : ∀ i ∈ is, i ∈ own.map (·.2))
    (ht : ∀ (s : Shared) (H : Hp) (C : Addr) (cl : List (Str × Addr)) (fp : List Addr), JTs (X.blk s H scope (compEnvC scope cl C X.env) fp) V0 ifs t)
    (he : ∀ (s : Shared) (H : Hp) (C : Addr) (cl : List (Str × Addr)) (fp : List Addr), JE (X.blk s H scope (compEnvC scope cl C X.env) fp) V0 elt f)
    (hy : X.N[i]? = some y := by rfl) (hyl : X.env.scope.names.lookup y = some .local := by rfl) (hk : X.env.scope.kind = .function := by rfl) (hl : (py.line == pos.line) = true := by rfl) (hl3 : (py.line == pos.line) = true := by rfl)
    (ha : (scope.names.any fun (n, k) => n == y && (k == .local || k == .cell)) = false := by decide +kernel) (hs : ∀ x, foldedSetIterable iter X.env x = pure x := by intro _; rfl) :
    JS X W (.Assign [.Name y py] (.ListComp elt [⟨tg, iter, ifs, 0⟩] scope pos) spos) (sSetL i (fLc (own.map (·.2)) fi g t f)) := by
  obtain ⟨wi, p1, s1⟩ := hi
  refine ⟨_, ps_setLc (g := canG X.K is g) (tt := canE X.K V0 relT t) (te := canE X.K V0 (relE X.K) f) hc hN hy hyl (sw_true hk hyl hl3 ha) p1 ok (fun s H C cl fp => (hg s H C cl fp).can) (fun s H C cl fp => (ht s H C cl fp).can) (fun s H C cl fp => (he s H C cl fp).can) hs, fun Φ G H σ E D S hp => ?_⟩
  have sn : Snd X.K (pw W) (relL X.K) _ (fLc (own.map (·.2)) fi g t f) := lc_snd s1 (canG.go (K := X.K) (is := is) (g := g)) hvs (canE.snd (K := X.K) (W := V0) (rel := relT) (f := t)) (canE.snd (K := X.K) (W := V0) (rel := relE X.K) (f := f))
  refine sn.goS S hp fun l E' G' H' v _ e' S' r hp => ?_
  obtain ⟨q, vs, rfl, h1, h2, h3, h4, h5⟩ := r
  exact hp G' H' _ (Ex.refl G') (S'.setO h1 h2 h3 h4 h5)
end

/-! ### one's own list, given away -/
def fGive (i : Nat) : Env → R (List D) := fun E => match E[i]? with
  | some (.own false l) => .ok l (E.set i .no)
  | _ => .stuck
theorem jl_give {X : Cx} {W : WJ} {pos : Pos} (i : Nat) {x : Str} (hN : X.N[i]? = some x := by rfl) (hv : Vis X.env.scope x := by first | exact Or.inl rfl | exact Or.inr (Or.inl rfl) | exact Or.inr (Or.inr rfl)) (hd : (x == ("__debug__" : Str)) = false := by decide)
    (hcd : (x == ("__classdict__" : Str)) = false := by decide) : JL X W (.Name x pos) (fGive i) := by
  refine ⟨tVar i, pe_var hN hv hd hcd, fun Φ G H σ E Q S hp => ?_⟩
  unfold fGive at hp
  cases e : E[i]? with
  | none => rw [e] at hp; exact hp.elim
  | some s =>
    rw [e] at hp
    cases s with
    | no => exact hp.elim
    | obj _ _ _ _ => exact hp.elim
    | val _ => exact hp.elim
    | own b l =>
      cases b with
      | true => exact hp.elim
      | false =>
        obtain ⟨x, hx, p, vs, rfl, h1, h2⟩ := S.sl i _ e
        obtain ⟨g, f, _⟩ := S.ow i false l p e hx
        have S' : Sat X.K Φ G H σ (E.set i .no) := by
          have S1 := S.setN (i := i) (x := σ[i]?.join)
          have e1 : σ.set i σ[i]?.join = σ := by
            rw [hx]
            apply List.ext_getElem?
            intro j
            by_cases hj : i = j
            · subst hj
              rw [List.getElem?_set_self (List.getElem?_eq_some_iff.mp hx).1, hx]; rfl
            · rw [List.getElem?_set_ne hj]
          rw [e1] at S1; exact S1
        refine ⟨.ref p, hx, hp G H _ (Ex.refl G) S' ⟨p, vs, rfl, h1, h2, g, f, fun j s b h3 hb h4 => ?_⟩⟩
        by_cases hj : i = j
        · subst hj
          rw [List.getElem?_set_self (List.getElem?_eq_some_iff.mp e).1] at h3; cases h3; cases hb
        · rw [List.getElem?_set_ne hj] at h3
          exact hj (S.di' i j _ s false b p e rfl h3 hb hx h4)
end J

namespace J
open PySem PySem.Spec PyProof.Rows L2

/-! ### what a def promises -/
/-- an argument: a value, or one's own list in slot i -/
inductive Ar where
  | v (d : D) | o (i : Nat)
structure IO (K : PySem.W.Frag) (Φ : Fr) (G H : Hp) (E : Env) : Prop where
  gh : Ex G H
  fh : Ex Φ.F H
  fg : ∀ a, Φ.F a ≠ none → G a = none
  io : ∀ (i : Nat) (s : Sl), E[i]? = some s → s.ow = some true → SlOk K G H (some (.ref (Φ.io i))) s ∧ G (Φ.io i) = none ∧ Φ.F (Φ.io i) = none
theorem Sat.toIO {K : PySem.W.Frag} {Φ : Fr} {G H : Hp} {σ : St} {E : Env} (S : Sat K Φ G H σ E) : IO K Φ G H E :=
  ⟨S.gh, S.fh, S.fg, fun i s h hb => by
    obtain ⟨x, h1, hk⟩ := S.sl i _ h
    obtain ⟨p, o, rfl, _⟩ := hk.ad hb
    obtain ⟨h4, h5, h6⟩ := S.ow' i s true p h hb h1
    have := h6 rfl
    subst this
    exact ⟨hk, h4, h5⟩⟩
def PostF (K : PySem.W.Frag) (Φ : Fr) (G : Hp) (r : R RV) (Q : VK) (Ec : XK) : Prop := match r with
  | .ok (.v d) E' => ∀ G' H' v, Ex G G' → IO K Φ G' H' E' → Rp K G' v d → Q v H'
  | .ok (.l l) E' => ∀ G' H' p vs, Ex G G' → IO K Φ G' H' E' → H' p = some (.lst vs) → RpA K G' vs l → G' p = none → Φ.F p = none → (∀ (i : Nat) (s : Sl), E'[i]? = some s → s.ow = some true → p ≠ Φ.io i) → Q (.ref p) H'
  | .exc x E' => ∀ G' H' c d, Ex G G' → IO K Φ G' H' E' → XRp K G' c d x → Ec c d H'
  | .stuck => False
abbrev DF := List Sl → R RV
def spJ (K : PySem.W.Frag) (n : Nat) (F : DF) : Sp := fun vs H Q Ec => vs.length = n ∧ ∃ Φ G as, Sat K Φ G H (vs.map some) as ∧ PostF K Φ G (F as) Q Ec
/-- the body, from the arguments -/
def runF (n : Nat) (f : Env → RS) : DF := fun as => match f (as ++ List.replicate (n - as.length) .no) with
  | .nx E => .ok (.v .non) E
  | .rt r E => .ok r E
  | .exc x E => .exc x E
  | _ => .stuck
theorem Sat.begin {K : PySem.W.Frag} {Φ : Fr} {G H : Hp} {vs : List V} {as : List Sl} (N : List Str) (S : Sat K Φ G H (vs.map some) as) : Sat K Φ G H (L2.start N vs) (as ++ List.replicate (N.length - as.length) .no) := by
  have hl : vs.length = as.length := by have := S.len; simpa using this
  have key : ∀ (i : Nat) (s : Sl), (as ++ List.replicate (N.length - as.length) Sl.no)[i]? = some s → (i < as.length ∧ as[i]? = some s ∧ (L2.start N vs)[i]? = (vs.map some)[i]?) ∨ (as.length ≤ i ∧ s = .no ∧ i < (L2.start N vs).length) := fun i s h => by
    by_cases hi : i < as.length
    · rw [List.getElem?_append_left hi] at h
      refine .inl ⟨hi, h, ?_⟩
      unfold L2.start
      rw [List.getElem?_append_left (by simpa [hl] using hi)]
    · have hi' : as.length ≤ i := by omega
      rw [List.getElem?_append_right hi', List.getElem?_replicate] at h
      split at h
      · rename_i hlt
        refine .inr ⟨hi', (Option.some.inj h).symm, ?_⟩
        unfold L2.start
        rw [List.length_append, List.length_map, List.length_replicate, hl]; omega
      · cases h
  refine ⟨?_, fun i s h => ?_, S.gh, S.fh, S.fg, fun i s b p h1 hb h2 => ?_, fun i j s s' b b' p h1 hb h2 hb' h3 h4 => ?_⟩
  · unfold L2.start
    rw [List.length_append, List.length_map, List.length_replicate, List.length_append, List.length_replicate, hl]
  · rcases key i s h with ⟨_, h1, h2⟩ | ⟨_, rfl, h2⟩
    · rw [h2]; exact S.sl i s h1
    · exact ⟨_, List.getElem?_eq_getElem h2, trivial⟩
  · rcases key i _ h1 with ⟨_, h3, h4⟩ | ⟨_, rfl, _⟩
    · rw [h4] at h2; exact S.ow' i s b p h3 hb h2
    · cases hb
  · rcases key i _ h1 with ⟨_, h5, h6⟩ | ⟨_, rfl, _⟩
    · rcases key j _ h2 with ⟨_, h7, h8⟩ | ⟨_, rfl, _⟩
      · rw [h6] at h3; rw [h8] at h4; exact S.di' i j s s' b b' p h5 hb h7 hb' h3 h4
      · cases hb'
    · cases hb
/-- a def by its body -/
theorem fn_J {P : Program} {w : World} {K : PySem.W.Frag} {mg : Str → Option Value} {base : Heap} {k : Nat} {f : Addr} {name qual : Str} {params : Arguments} {body : List Stmt} {scope : Scope} {dV kV doc pm cdv ct oc : Value} {an od : Option Addr}
    {osl : Array (Option Value)} {N ps : List Str} {fb : Env → RS} (lk : K.lookup f = some ⟨oc, od, .func (PySem.W.fnOf name qual params body scope dV kV doc pm an cdv ct), osl⟩) (hcd : PySem.W.codeIn K cdv qual = true) (S : FnScope N ps scope)
    (hbody : ∀ (A : Around) (outer : List PySem.Env) (s : Shared) (H : Hp) (E : XK), Room k (A.deeper (envOfC qual scope s.heap.objs.size f cdv)) →
      L2N.Takes (cxOf (L2N.CX P w) P w K mg base N qual scope f cdv A outer s H E) (fun c d _ H => E c d H) → PassesOwn (model P w) (cxOf (L2N.CX P w) P w K mg base N qual scope f cdv A outer s H E).A (cxOf (L2N.CX P w) P w K mg base N qual scope f cdv A outer s H E).env (cxOf (L2N.CX P w) P w K mg base N qual scope f cdv A outer s H E).xe →
      JSs (cxOf (L2N.CX P w) P w K mg base N qual scope f cdv A outer s H E) (fun c d _ H => E c d H) body fb) :
    FnOk P w K mg base (L2N.CX P w) (k + 1) f (PySem.W.fnOf name qual params body scope dV kV doc pm an cdv ct) ps (spJ K ps.length (runF N.length fb)) := by
  refine fn_of lk hcd S (fun vs H Q E h => h.1) fun A outer s H vs Q E hr hsp => ?_
  have hX := hbody A outer s H E hr (L2N.takes_of rfl rfl rfl rfl) (passes_of rfl)
  obtain ⟨t, h1, h2⟩ := hX
  refine ⟨t, h1, ?_⟩
  obtain ⟨hl, Φ, G, as, S0, hP⟩ := hsp
  refine h2 Φ G H _ _ _ (S0.begin N) ?_
  unfold runF at hP
  cases hf : fb (as ++ List.replicate (N.length - as.length) .no) with
  | nx E' => rw [hf] at hP; exact fun G' H' σ' e' S' => hP G' H' .non e' S'.toIO .non
  | rt rv E' =>
    rw [hf] at hP
    cases rv with
    | v d => exact fun G' H' σ' v e' S' r => hP G' H' v e' S'.toIO r
    | l d =>
      refine fun G' H' σ' v e' S' r => ?_
      obtain ⟨p, vs, rfl, k1, k2, k3, k4, k5⟩ := r
      refine hP G' H' p vs e' S'.toIO k1 k2 k3 k4 fun i s hi hb z => ?_
      obtain ⟨p', o, q1, _⟩ := S'.ad hi hb
      obtain ⟨q4, q5, q6⟩ := S'.ow' i s true p' hi hb q1
      have := q6 rfl
      subst this
      rw [← z] at q1
      exact k5 i s true hi hb q1
  | bk E' => rw [hf] at hP; exact hP.elim
  | ct E' => rw [hf] at hP; exact hP.elim
  | exc x E' => rw [hf] at hP; exact fun G' H' σ' c d e' S' r => hP G' H' c d e' S'.toIO r
  | stuck => rw [hf] at hP; exact hP.elim

/-! ### a def that a name calls -/
structure FnJ (P : Program) (w : World) (K : PySem.W.Frag) (mg : Str → Option Value) (base : Heap) (k : Nat) (x : Str) (n : Nat) (F : DF) : Prop where
  ok : ∃ f fd ps, mg x = some (.ref f) ∧ PySem.W.keepIn K (.ref f) = true ∧ ps.length = n ∧ Binds K fd ps [] ∧ FnOk P w K mg base (L2N.CX P w) k f fd ps (spJ K n F)
theorem FnJ.mono {P : Program} {w : World} {K : PySem.W.Frag} {mg : Str → Option Value} {base : Heap} {j k : Nat} {x : Str} {n : Nat} {F : DF} (h : FnJ P w K mg base j x n F) (hk : j ≤ k) : FnJ P w K mg base k x n F := by
  obtain ⟨f, fd, ps, h1, h2, h3, h4, h5⟩ := h
  exact ⟨f, fd, ps, h1, h2, h3, h4, h5.mono hk⟩

/-! ### arguments -/
inductive ArOk (K : PySem.W.Frag) (σ : St) (G : Hp) : List Ar → List V → Prop
  | nil : ArOk K σ G [] []
  | v {d : D} {v : V} {as : List Ar} {vs : List V} : Rp K G v d → ArOk K σ G as vs → ArOk K σ G (.v d :: as) (v :: vs)
  | o {i : Nat} {v : V} {as : List Ar} {vs : List V} : σ[i]? = some (some v) → ArOk K σ G as vs → ArOk K σ G (.o i :: as) (v :: vs)
theorem ArOk.len {K : PySem.W.Frag} {σ : St} {G : Hp} {as : List Ar} {vs : List V} (h : ArOk K σ G as vs) : as.length = vs.length := by induction h <;> simp_all
def ArV (K : PySem.W.Frag) (σ : St) (G : Hp) (v : V) : Ar → Prop
  | .v d => Rp K G v d
  | .o i => σ[i]? = some (some v)
theorem ArOk.get {K : PySem.W.Frag} {σ : St} {G : Hp} {as : List Ar} {vs : List V} (h : ArOk K σ G as vs) : ∀ {j : Nat} {a : Ar}, as[j]? = some a → ∃ v, vs[j]? = some v ∧ ArV K σ G v a := by
  induction h with
  | nil => intro j a e; simp at e
  | v h1 h2 ih =>
    intro j a e
    cases j with
    | zero => simp at e; subst e; exact ⟨_, rfl, h1⟩
    | succ j => simpa using ih (by simpa using e)
  | o h1 h2 ih =>
    intro j a e
    cases j with
    | zero => simp at e; subst e; exact ⟨_, rfl, h1⟩
    | succ j => simpa using ih (by simpa using e)
abbrev relAr (K : PySem.W.Frag) : Rel (List Ar) (List V) := fun _ σ G' _ _ as vs => ArOk K σ G' as vs
def JX (X : Cx) (W : WJ) (es : List Expr) (f : Env → R (List Ar)) : Prop := ∃ te, PA X es te ∧ Snd X.K W (relAr X.K) te f
section
variable {X : Cx} {W : WJ} {e : Expr} {es : List Expr} {fa : Env → R D} {fr : Env → R (List Ar)} {pos : Pos}
def xNil : Env → R (List Ar) := fun E => .ok [] E
def xV (fa : Env → R D) (fr : Env → R (List Ar)) : Env → R (List Ar) := fun E => (fa E).bind fun a E => (fr E).bind fun r E => .ok (.v a :: r) E
def xO (i : Nat) (fr : Env → R (List Ar)) : Env → R (List Ar) := fun E => match E[i]? with
  | some (.own _ _) => (fr E).bind fun r E => .ok (.o i :: r) E
  | some (.obj _ _ _ _) => (fr E).bind fun r E => .ok (.o i :: r) E
  | _ => .stuck
theorem jx_nil : JX X W [] xNil := ⟨_, pa_nil, fun Φ G H σ E Q S hp => hp G H [] (Ex.refl G) S .nil⟩
theorem ArOk.mono {K : PySem.W.Frag} {σ : St} {G G' : Hp} {as : List Ar} {vs : List V} (e : Ex G G') (h : ArOk K σ G as vs) : ArOk K σ G' as vs := by
  induction h with
  | nil => exact .nil
  | v h1 h2 ih => exact .v (Rp.mono e _ h1) ih
  | o h1 h2 ih => exact .o h1 ih
theorem jx_v (ha : JE X W e fa) (hr : JX X W es fr) (hs : starEach (e :: es) X.env = (false, eval e X.env) :: starEach es X.env := by rfl) : JX X W (e :: es) (xV fa fr) := by
  obtain ⟨ta, pa, sa⟩ := ha
  obtain ⟨tr, pr, sr⟩ := hr
  refine ⟨_, pa_cons pa pr hs, fun Φ G H σ E Q S hp => ?_⟩
  refine sa.go S hp fun a E1 G1 H1 v _ e1 S1 r1 hp => ?_
  refine sr.go S1 hp fun as E2 G2 H2 vs _ e2 S2 r2 hp => ?_
  exact hp G2 H2 _ (Ex.refl G2) S2 (.v (Rp.mono e2 _ r1) r2)
theorem jx_o (i : Nat) {x : Str} (hr : JX X W es fr) (hN : X.N[i]? = some x := by rfl) (hv : Vis X.env.scope x := by first | exact Or.inl rfl | exact Or.inr (Or.inl rfl) | exact Or.inr (Or.inr rfl)) (hd : (x == ("__debug__" : Str)) = false := by decide)
    (hcd : (x == ("__classdict__" : Str)) = false := by decide) (hs : starEach (.Name x pos :: es) X.env = (false, eval (.Name x pos) X.env) :: starEach es X.env := by rfl) : JX X W (.Name x pos :: es) (xO i fr) := by
  obtain ⟨tr, pr, sr⟩ := hr
  refine ⟨_, pa_cons (pe_var hN hv hd hcd) pr hs, fun Φ G H σ E Q S hp => ?_⟩
  unfold xO at hp
  cases ee : E[i]? with
  | none => rw [ee] at hp; exact hp.elim
  | some s =>
    rw [ee] at hp
    cases s with
    | no => exact hp.elim
    | val _ => exact hp.elim
    | own b l =>
      obtain ⟨p, o, hw, _⟩ := S.ad ee rfl
      refine ⟨.ref p, hw, ?_⟩
      refine sr.go S hp fun as E2 G2 H2 us _ e2 S2 r2 hp => ?_
      exact hp G2 H2 _ (Ex.refl G2) S2 (.o hw r2)
    | obj b c ns ds =>
      obtain ⟨p, o, hw, _⟩ := S.ad ee rfl
      refine ⟨.ref p, hw, ?_⟩
      refine sr.go S hp fun as E2 G2 H2 us _ e2 S2 r2 hp => ?_
      exact hp G2 H2 _ (Ex.refl G2) S2 (.o hw r2)
end

/-! ### a call -/
def ownsA : List Ar → List Nat
  | [] => []
  | .v _ :: as => ownsA as
  | .o i :: as => i :: ownsA as
def ndA : List Nat → Bool
  | [] => true
  | i :: is => !is.contains i && ndA is
/-- as the callee has it -/
def Sl.io : Sl → Option Sl
  | .own _ l => some (.own true l)
  | .obj _ c ns ds => some (.obj true c ns ds)
  | _ => none
/-- as the caller has it behind the call -/
def Sl.bk : Sl → Sl → Sl
  | .own b _, .own true l => .own b l
  | .obj b _ _ _, .obj true c ns ds => .obj b c ns ds
  | _, _ => .no
@[simp] theorem io_own (b : Bool) (l : List D) : Sl.io (.own b l) = some (.own true l) := rfl
@[simp] theorem io_obj (b : Bool) (c : Str) (ns : List Str) (l : List D) : Sl.io (.obj b c ns l) = some (.obj true c ns l) := rfl
@[simp] theorem bk_own (b : Bool) (l l' : List D) : Sl.bk (.own b l) (.own true l') = .own b l' := rfl
@[simp] theorem bk_obj (b : Bool) (c c' : Str) (ns ns' : List Str) (l l' : List D) : Sl.bk (.obj b c ns l) (.obj true c' ns' l') = .obj b c' ns' l' := rfl
theorem Sl.io_ow {s0 s : Sl} (h : s0.io = some s) : (∃ b, s0.ow = some b) ∧ s.ow = some true := by
  cases s0 with
  | no => cases h
  | val d => cases h
  | own b l => cases h; exact ⟨⟨b, rfl⟩, rfl⟩
  | obj b c ns ds => cases h; exact ⟨⟨b, rfl⟩, rfl⟩
theorem Sl.io_ok {K : PySem.W.Frag} {G H : Hp} {x : Option V} {s0 s : Sl} (h : s0.io = some s) (k : SlOk K G H x s0) : SlOk K G H x s := by
  cases s0 with
  | no => cases h
  | val d => cases h
  | own b l => cases h; exact k
  | obj b c ns ds => cases h; exact k
theorem Sl.bk_ow {s0 s : Sl} {b : Bool} (h : (s0.bk s).ow = some b) : s0.ow = some b ∧ s.ow = some true := by
  unfold Sl.bk at h
  split at h
  · exact ⟨h, rfl⟩
  · exact ⟨h, rfl⟩
  · cases h
theorem Sl.bk_ok {K : PySem.W.Frag} {G H : Hp} {x : Option V} {s0 s : Sl} (k : SlOk K G H x s) : SlOk K G H x (s0.bk s) := by
  unfold Sl.bk
  split
  · exact k
  · exact k
  · trivial
def argS (E : Env) : List Ar → Option (List Sl)
  | [] => some []
  | .v d :: as => (argS E as).map (.val d :: ·)
  | .o i :: as => match (E[i]?).bind Sl.io with
    | some s => (argS E as).map (s :: ·)
    | none => none
def backE (Ec : Env) : Nat → List Ar → Env → Env
  | _, [], E => E
  | j, .v _ :: as, E => backE Ec (j + 1) as E
  | j, .o i :: as, E => backE Ec (j + 1) as (match E[i]?, Ec[j]? with
    | some s, some s' => E.set i (s.bk s')
    | _, _ => E.set i .no)
theorem mem_ownsA {i : Nat} {as : List Ar} : i ∈ ownsA as ↔ ∃ j : Nat, as[j]? = some (Ar.o i) := by
  induction as with
  | nil => simp [ownsA]
  | cons a as ih =>
    cases a with
    | v d =>
      show i ∈ ownsA as ↔ _
      rw [ih]
      constructor
      · rintro ⟨j, h⟩; exact ⟨j + 1, h⟩
      · rintro ⟨j, h⟩
        cases j with
        | zero => simp at h
        | succ j => exact ⟨j, h⟩
    | o k =>
      show i ∈ k :: ownsA as ↔ _
      rw [List.mem_cons, ih]
      constructor
      · rintro (rfl | ⟨j, h⟩)
        · exact ⟨0, rfl⟩
        · exact ⟨j + 1, h⟩
      · rintro ⟨j, h⟩
        cases j with
        | zero => simp at h; exact .inl h.symm
        | succ j => exact .inr ⟨j, h⟩
theorem ndA_inj {as : List Ar} (h : ndA (ownsA as) = true) {i j k : Nat} (h1 : as[i]? = some (.o k)) (h2 : as[j]? = some (.o k)) : i = j := by
  induction as generalizing i j with
  | nil => simp at h1
  | cons a as ih =>
    cases a with
    | v d =>
      cases i with
      | zero => simp at h1
      | succ i =>
        cases j with
        | zero => simp at h2
        | succ j => rw [ih h h1 h2]
    | o m =>
      have h' : (!(ownsA as).contains m && ndA (ownsA as)) = true := h
      rw [Bool.and_eq_true] at h'
      have nm : m ∉ ownsA as := by simpa using h'.1
      cases i with
      | zero =>
        cases j with
        | zero => rfl
        | succ j => simp at h1; subst h1; exact absurd (mem_ownsA.mpr ⟨j, h2⟩) nm
      | succ i =>
        cases j with
        | zero => simp at h2; subst h2; exact absurd (mem_ownsA.mpr ⟨i, h1⟩) nm
        | succ j => rw [ih h'.2 h1 h2]
theorem argS_get {E : Env} : ∀ {as : List Ar} {ss : List Sl}, argS E as = some ss → as.length = ss.length ∧ ∀ (j : Nat) (s : Sl), ss[j]? = some s → (∃ d, as[j]? = some (.v d) ∧ s = .val d) ∨ ∃ i s0, as[j]? = some (.o i) ∧ E[i]? = some s0 ∧ s0.io = some s
  | [], ss, h => by cases h; exact ⟨rfl, fun j s e => by simp at e⟩
  | .v d :: as, ss, h => by
    obtain ⟨r, h1, rfl⟩ := Option.map_eq_some_iff.mp (show (argS E as).map (.val d :: ·) = some ss from h)
    obtain ⟨k1, k2⟩ := argS_get h1
    refine ⟨by simp [k1], fun j s e => ?_⟩
    cases j with
    | zero => simp at e; exact .inl ⟨d, rfl, e.symm⟩
    | succ j => simpa using k2 j s (by simpa using e)
  | .o i :: as, ss, h => by
    unfold argS at h
    cases e : (E[i]?).bind Sl.io with
    | none => rw [e] at h; cases h
    | some s1 =>
      rw [e] at h
      obtain ⟨s0, e0, e1⟩ := Option.bind_eq_some_iff.mp e
      obtain ⟨r, h1, rfl⟩ := Option.map_eq_some_iff.mp (show (argS E as).map (s1 :: ·) = some ss from h)
      obtain ⟨k1, k2⟩ := argS_get h1
      refine ⟨by simp [k1], fun j s e' => ?_⟩
      cases j with
      | zero => simp at e'; subst e'; exact .inr ⟨i, s0, rfl, e0, e1⟩
      | succ j => simpa using k2 j s (by simpa using e')
theorem backE_len (Ec : Env) : ∀ (as : List Ar) (j : Nat) (E : Env), (backE Ec j as E).length = E.length
  | [], j, E => rfl
  | .v _ :: as, j, E => backE_len Ec as (j + 1) E
  | .o i :: as, j, E => by
    unfold backE
    rw [backE_len Ec as (j + 1) _]
    split <;> simp
theorem backE_out {Ec : Env} {i : Nat} : ∀ (as : List Ar) (j : Nat) (E : Env), i ∉ ownsA as → (backE Ec j as E)[i]? = E[i]?
  | [], j, E, _ => rfl
  | .v _ :: as, j, E, h => backE_out as (j + 1) E h
  | .o k :: as, j, E, h => by
    have h' : i ∉ k :: ownsA as := h
    have hk : k ≠ i := fun z => h' (by simp [z])
    unfold backE
    rw [backE_out as (j + 1) _ fun z => h' (List.mem_cons_of_mem _ z)]
    split <;> rw [List.getElem?_set_ne hk]
theorem backE_in {Ec : Env} {i : Nat} : ∀ (as : List Ar) (j : Nat) (E : Env) (m : Nat) (s : Sl), ndA (ownsA as) = true → as[m]? = some (.o i) → (backE Ec j as E)[i]? = some s →
    s = .no ∨ ∃ s0 s', E[i]? = some s0 ∧ Ec[j + m]? = some s' ∧ s = s0.bk s'
  | [], j, E, m, s, _, h, _ => by simp at h
  | .v _ :: as, j, E, m, s, nd, h, hs => by
    cases m with
    | zero => simp at h
    | succ m =>
      have := backE_in as (j + 1) E m s nd h hs
      rwa [show j + 1 + m = j + (m + 1) by omega] at this
  | .o k :: as, j, E, m, s, nd, h, hs => by
    have nd' : (!(ownsA as).contains k && ndA (ownsA as)) = true := nd
    rw [Bool.and_eq_true] at nd'
    have nm : k ∉ ownsA as := by simpa using nd'.1
    cases m with
    | zero =>
      simp at h
      subst h
      unfold backE at hs
      rw [backE_out as (j + 1) _ nm] at hs
      split at hs
      · rename_i s0 s' e1 e2
        rw [List.getElem?_set_self (List.getElem?_eq_some_iff.mp e1).1] at hs
        exact .inr ⟨s0, s', e1, by simpa using e2, (Option.some.inj hs).symm⟩
      · left
        by_cases hl : k < E.length
        · rw [List.getElem?_set_self hl] at hs; exact (Option.some.inj hs).symm
        · rw [List.getElem?_eq_none (by simpa using hl)] at hs; cases hs
    | succ m =>
      have hik : k ≠ i := fun z => nm (mem_ownsA.mpr ⟨m, by rw [z]; exact h⟩)
      unfold backE at hs
      rcases backE_in as (j + 1) _ m s nd'.2 h hs with z | ⟨s0, s', h1, h2, h3⟩
      · exact .inl z
      · refine .inr ⟨s0, s', ?_, ?_, h3⟩
        · split at h1 <;> rwa [List.getElem?_set_ne hik] at h1
        · rwa [show j + 1 + m = j + (m + 1) by omega] at h2
def adV : Option V → Addr
  | some (.ref p) => p
  | _ => 0
open Classical in
/-- what a callee sees as locked -/
noncomputable def FcOf (Φ : Fr) (H : Hp) (σ : St) (E : Env) (is : List Nat) : Hp := fun a => if ∃ j s b, E[j]? = some s ∧ s.ow = some b ∧ σ[j]? = some (some (.ref a)) ∧ j ∉ is then H a else Φ.F a
section
variable {K : PySem.W.Frag} {Φ : Fr} {G H G' H' : Hp} {σ : St} {E : Env} {as : List Ar} {vs : List V} {ss : List Sl}
theorem Fc_own {is : List Nat} {j : Nat} {s : Sl} {b : Bool} {a : Addr} (h1 : E[j]? = some s) (hb : s.ow = some b) (h2 : σ[j]? = some (some (.ref a))) (h3 : j ∉ is) : FcOf Φ H σ E is a = H a := by
  unfold FcOf
  rw [if_pos ⟨j, s, b, h1, hb, h2, h3⟩]
theorem Fc_old (S : Sat K Φ G H σ E) {is : List Nat} {a : Addr} {o : HO} (h : Φ.F a = some o) : FcOf Φ H σ E is a = some o := by
  unfold FcOf
  rw [if_neg]
  · exact h
  · rintro ⟨j, s, b, h1, hb, h2, _⟩
    rw [(S.ow' j s b a h1 hb h2).2.1] at h; cases h
theorem Sat.toCall (S : Sat K Φ G H σ E) (r : ArOk K σ G as vs) (h : argS E as = some ss) (nd : ndA (ownsA as) = true) : Sat K ⟨FcOf Φ H σ E (ownsA as), fun j => adV vs[j]?⟩ G H (vs.map some) ss := by
  obtain ⟨hl, hg⟩ := argS_get h
  have own : ∀ {j : Nat} {s : Sl} {b : Bool} {p : Addr}, ss[j]? = some s → s.ow = some b → (vs.map some)[j]? = some (some (.ref p)) → ∃ i s0 b', as[j]? = some (.o i) ∧ E[i]? = some s0 ∧ s0.ow = some b' ∧ σ[i]? = some (some (.ref p)) := fun {j s b p} h1 hb h2 => by
    rcases hg j _ h1 with ⟨d, _, z⟩ | ⟨i, s0, h3, h4, h5⟩
    · subst z; cases hb
    · obtain ⟨⟨b', hb'⟩, _⟩ := Sl.io_ow h5
      obtain ⟨v, h6, h7⟩ := r.get h3
      rw [List.getElem?_map, h6] at h2
      cases h2
      exact ⟨i, s0, b', h3, h4, hb', h7⟩
  refine ⟨by rw [List.length_map, ← r.len, hl], fun j s hs => ?_, S.gh, fun a o ha => ?_, fun a ha => ?_, fun j s b p h1 hb h2 => ?_, fun i j s s' b b' p h1 hb h2 hb' h3 h4 => ?_⟩
  · rcases hg j s hs with ⟨d, h1, rfl⟩ | ⟨i, s0, h1, h2, h5⟩
    · obtain ⟨v, h6, h7⟩ := r.get h1
      exact ⟨some v, by rw [List.getElem?_map, h6]; rfl, v, rfl, h7⟩
    · obtain ⟨v, h6, h7⟩ := r.get h1
      obtain ⟨x, k1, k2⟩ := S.sl i _ h2
      have h7 : σ[i]? = some (some v) := h7
      rw [k1] at h7
      cases h7
      exact ⟨some v, by rw [List.getElem?_map, h6]; rfl, Sl.io_ok h5 k2⟩
  · have ha' : FcOf Φ H σ E (ownsA as) a = some o := ha
    unfold FcOf at ha'
    split at ha'
    · exact ha'
    · exact S.fh a o ha'
  · have ha' : FcOf Φ H σ E (ownsA as) a ≠ none := ha
    unfold FcOf at ha'
    split at ha'
    · rename_i c
      obtain ⟨j, s, b, h1, hb, h2, _⟩ := c
      exact (S.ow' j s b a h1 hb h2).1
    · exact S.fg a ha'
  · obtain ⟨i, s0, b', k1, k2, kb, k3⟩ := own h1 hb h2
    obtain ⟨q1, q2, _⟩ := S.ow' i s0 b' p k2 kb k3
    refine ⟨q1, ?_, fun _ => ?_⟩
    · show FcOf Φ H σ E (ownsA as) p = none
      unfold FcOf
      rw [if_neg]
      · exact q2
      · rintro ⟨m, s2, b2, m1, mb, m2, m3⟩
        exact m3 (mem_ownsA.mpr ⟨j, by rw [← S.di' i m s0 s2 b' b2 p k2 kb m1 mb k3 m2]; exact k1⟩)
    · show p = adV vs[j]?
      rw [List.getElem?_map] at h2
      cases e : vs[j]? with
      | none => rw [e] at h2; cases h2
      | some v => rw [e] at h2; cases h2; rfl
  · obtain ⟨m, s2, b2, k1, k2, kb, k3⟩ := own h1 hb h3
    obtain ⟨n, s3, b3, k4, k5, kb', k6⟩ := own h2 hb' h4
    have := S.di' m n s2 s3 b2 b3 p k2 kb k5 kb' k3 k6
    subst this
    exact ndA_inj nd k1 k4
theorem Sat.fromCall {Ec : Env} (S : Sat K Φ G H σ E) (r : ArOk K σ G as vs) (h : argS E as = some ss) (nd : ndA (ownsA as) = true) (e : Ex G G') (I : IO K ⟨FcOf Φ H σ E (ownsA as), fun j => adV vs[j]?⟩ G' H' Ec) : Sat K Φ G' H' σ (backE Ec 0 as E) := by
  obtain ⟨hl, hg⟩ := argS_get h
  have own : ∀ {i : Nat} {s : Sl} {b : Bool}, (backE Ec 0 as E)[i]? = some s → s.ow = some b → (i ∉ ownsA as ∧ E[i]? = some s) ∨ ∃ (j : Nat) (s0 s' : Sl), as[j]? = some (Ar.o i) ∧ E[i]? = some s0 ∧ s0.ow = some b ∧ Ec[j]? = some s' ∧ s'.ow = some true ∧ s = s0.bk s' := fun {i s b} hi hb => by
    by_cases hm : i ∈ ownsA as
    · obtain ⟨j, hj⟩ := mem_ownsA.mp hm
      rcases backE_in as 0 E j _ nd hj hi with z | ⟨s0, s', h1, h2, h3⟩
      · subst z; cases hb
      · subst h3
        obtain ⟨k1, k2⟩ := Sl.bk_ow hb
        exact .inr ⟨j, s0, s', hj, h1, k1, by simpa using h2, k2, rfl⟩
    · rw [backE_out as 0 E hm] at hi
      exact .inl ⟨hm, hi⟩
  have own0 : ∀ {i : Nat} {s : Sl} {b : Bool}, (backE Ec 0 as E)[i]? = some s → s.ow = some b → ∃ s0, E[i]? = some s0 ∧ s0.ow = some b := fun hi hb => by
    rcases own hi hb with ⟨_, h1⟩ | ⟨_, s0, _, _, h1, h2, _⟩
    · exact ⟨_, h1, hb⟩
    · exact ⟨_, h1, h2⟩
  have ioA : ∀ {i j : Nat} {p : Addr}, as[j]? = some (.o i) → σ[i]? = some (some (.ref p)) → adV vs[j]? = p := fun {i j p} h1 h2 => by
    obtain ⟨v, h3, h4⟩ := r.get h1
    have h4 : σ[i]? = some (some v) := h4
    rw [h2] at h4; cases h4
    rw [h3]; rfl
  refine ⟨by rw [backE_len]; exact S.len, fun i s hs => ?_, I.gh, fun a o ha => I.fh a o (Fc_old S ha), fun a ha => ?_, fun i s b p h1 hb h2 => ?_, fun i j s s' b b' p h1 hb h2 hb' h3 h4 => ?_⟩
  · by_cases hm : i ∈ ownsA as
    · have hi : i < σ.length := by
        have := (List.getElem?_eq_some_iff.mp hs).1
        rw [backE_len] at this; rw [S.len]; exact this
      cases hb : s.ow with
      | none =>
        cases s with
        | no => exact ⟨_, List.getElem?_eq_getElem hi, trivial⟩
        | val d =>
          obtain ⟨j, hj⟩ := mem_ownsA.mp hm
          rcases backE_in as 0 E j _ nd hj hs with z | ⟨s0, s', h1, h2, h3⟩
          · cases z
          · unfold Sl.bk at h3
            split at h3 <;> cases h3
        | own _ _ => cases hb
        | obj _ _ _ _ => cases hb
      | some b =>
        rcases own hs hb with ⟨n, _⟩ | ⟨j, s0, s', hj, h1, hb0, h2, hb2, rfl⟩
        · exact absurd hm n
        · obtain ⟨p, o, k1, _⟩ := S.ad h1 hb0
          obtain ⟨q1, _, _⟩ := I.io j s' h2 hb2
          have ea : adV vs[j]? = p := ioA hj k1
          rw [show (⟨FcOf Φ H σ E (ownsA as), fun j => adV vs[j]?⟩ : Fr).io j = p from ea] at q1
          exact ⟨_, k1, Sl.bk_ok q1⟩
    · rw [backE_out as 0 E hm] at hs
      obtain ⟨x, k1, k2⟩ := S.sl i s hs
      refine ⟨x, k1, k2.mono e fun p b hb e2 => ?_⟩
      subst e2
      obtain ⟨o, q3⟩ := S.has hs hb k1
      rw [q3]
      exact I.fh p _ ((Fc_own hs hb k1 hm).trans q3)
  · cases e0 : Φ.F a with
    | none => exact absurd e0 ha
    | some o =>
      refine I.fg a ?_
      show FcOf Φ H σ E (ownsA as) a ≠ none
      rw [Fc_old S e0]; simp
  · rcases own h1 hb with ⟨hm, k1⟩ | ⟨j, s0, s', k0, k1, kb, k2, kb2, _⟩
    · obtain ⟨q1, q2, q3⟩ := S.ow' i s b p k1 hb h2
      refine ⟨I.fg p ?_, q2, q3⟩
      show FcOf Φ H σ E (ownsA as) p ≠ none
      rw [Fc_own k1 hb h2 hm]
      obtain ⟨o, m3⟩ := S.has k1 hb h2
      rw [m3]; simp
    · obtain ⟨q1, q2, q3⟩ := S.ow' i s0 b p k1 kb h2
      obtain ⟨_, m3, m4⟩ := I.io j s' k2 kb2
      rw [show (⟨FcOf Φ H σ E (ownsA as), fun j => adV vs[j]?⟩ : Fr).io j = p from ioA k0 h2] at m3
      exact ⟨m3, q2, q3⟩
  · obtain ⟨s1, h1, k1⟩ := own0 h1 hb
    obtain ⟨s2, h2, k2⟩ := own0 h2 hb'
    exact S.di' i j s1 s2 b b' p h1 k1 h2 k2 h3 h4
theorem NotOwn.fromCall {Ec : Env} (S : Sat K Φ G H σ E) (r : ArOk K σ G as vs) (nd : ndA (ownsA as) = true) {p : Addr} (h1 : FcOf Φ H σ E (ownsA as) p = none) (h2 : ∀ (i : Nat) (s : Sl), Ec[i]? = some s → s.ow = some true → p ≠ adV vs[i]?) : NotOwn σ (backE Ec 0 as E) p := fun i s b k1 kb k2 => by
  by_cases hm : i ∈ ownsA as
  · obtain ⟨j, hj⟩ := mem_ownsA.mp hm
    rcases backE_in as 0 E j _ nd hj k1 with z | ⟨s0, s', q1, q2, q3⟩
    · subst z; cases kb
    · subst q3
      obtain ⟨_, kb2⟩ := Sl.bk_ow kb
      obtain ⟨v, m3, m4⟩ := r.get hj
      have m4 : σ[i]? = some (some v) := m4
      rw [k2] at m4; cases m4
      exact h2 j s' (by simpa using q2) kb2 (by rw [m3]; rfl)
  · rw [backE_out as 0 E hm] at k1
    rw [Fc_own k1 kb k2 hm] at h1
    obtain ⟨o, m3⟩ := S.has k1 kb k2
    rw [m3] at h1; cases h1
theorem Fc_none (S : Sat K Φ G H σ E) {is : List Nat} {p : Addr} (h : FcOf Φ H σ E is p = none) : Φ.F p = none := by
  cases e : Φ.F p with
  | none => rfl
  | some o => rw [Fc_old S e] at h; cases h
end
def fCallR {α : Type} (n : Nat) (F : DF) (fa : Env → R (List Ar)) (k : RV → Option α) : Env → R α := fun E => (fa E).bind fun as E1 => match (if (ndA (ownsA as) && as.length == n) = true then argS E1 as else none) with
  | none => .stuck
  | some ss => match F ss with
    | .ok rv Ec => (match k rv with | some d => .ok d (backE Ec 0 as E1) | none => .stuck)
    | .exc x Ec => .exc x (backE Ec 0 as E1)
    | .stuck => .stuck
def rvD : RV → Option D
  | .v d => some d
  | .l l => some (.lst l)
def rvL : RV → Option (List D)
  | .v _ => none
  | .l l => some l
section
variable {X : Cx} {W : WJ} {k : Nat} {F : DF} {x : Str} {p pos : Pos} {e : Expr} {es : List Expr} {fa : Env → R (List Ar)}
theorem snd_call {α : Type} {ta : TA} {rel : Rel α V} {kv : RV → Option α} {n : Nat} (sa : Snd X.K W (relAr X.K) ta fa)
    (hv : ∀ d a, kv (.v d) = some a → ∀ Φ σ G' H' E' v, Rp X.K G' v d → Sat X.K Φ G' H' σ E' → rel Φ σ G' H' E' a v)
    (hl : ∀ l a, kv (.l l) = some a → ∀ (Φ : Fr) (σ : St) (G' H' : Hp) (E' : Env) (p : Addr) (vs : List V), Sat X.K Φ G' H' σ E' → H' p = some (.lst vs) → RpA X.K G' vs l → G' p = none → Φ.F p = none → NotOwn σ E' p → ∃ G2, Ex G' G2 ∧ Sat X.K Φ G2 H' σ E' ∧ rel Φ σ G2 H' E' a (.ref p)) :
    Snd X.K W rel (tCallSD (spJ X.K n F) [] (fun σ => WE W.w σ) ta) (fCallR n F fa kv) := by
  intro Φ G H σ E Q S hp
  unfold fCallR at hp
  refine sa.go S hp fun as E1 G1 H1 vs _ e1 S1 r1 hp => ?_
  by_cases c : (ndA (ownsA as) && as.length == n) = true
  · rw [if_pos c] at hp
    rw [Bool.and_eq_true] at c
    have nd := c.1
    have hn : as.length = n := by simpa using c.2
    cases hs : argS E1 as with
    | none => rw [hs] at hp; exact hp.elim
    | some ss =>
      simp only [hs] at hp
      have SC := S1.toCall r1 hs nd
      show spJ X.K n F (vs ++ []) H1 Q (WE W.w σ)
      rw [List.append_nil]
      refine ⟨r1.len.symm.trans hn, _, G1, ss, SC, ?_⟩
      cases hF : F ss with
      | stuck => rw [hF] at hp; exact hp.elim
      | exc x Ec =>
        simp only [hF] at hp
        exact fun G' H' c d e I r => hp G' H' σ c d e (S1.fromCall r1 hs nd e I) r
      | ok rv Ec =>
        simp only [hF] at hp
        cases hk : kv rv with
        | none => rw [hk] at hp; exact hp.elim
        | some a =>
          simp only [hk] at hp
          cases rv with
          | v d =>
            intro G' H' v e I r
            have S2 := S1.fromCall r1 hs nd e I
            exact hp G' H' v e S2 (hv d a hk Φ σ G' H' _ v r S2)
          | l l =>
            intro G' H' p vs' e I h1 h2 h3 h4 h5
            have S2 := S1.fromCall r1 hs nd e I
            have n2 := NotOwn.fromCall (Ec := Ec) S1 r1 nd h4 h5
            obtain ⟨G2, e2, S3, q⟩ := hl l a hk Φ σ G' H' _ p vs' S2 h1 h2 h3 (Fc_none S1.toSat h4) n2
            exact hp G2 H' (.ref p) (e.trans e2) S3 q
  · rw [if_neg c] at hp; exact hp.elim
theorem j_call (hF : FnJ X.prog X.w X.K X.mg X.base k x (e :: es).length F) (hr : Room k X.A) (tk : L2N.Takes X W.w) (ha : JX X W (e :: es) fa) (hg : Gl X x := by rfl) (hdb : (x == ("__debug__" : Str)) = false := by decide)
    (he : starEach (e :: es) X.env = (false, eval e X.env) :: starEach es X.env := by rfl) (hpl : (backTo pos (starEach es X.env)).any (·.1) = false := by rfl) : JE X W (.Call (.Name x p) (e :: es) [] pos) (fCallR (e :: es).length F fa rvD) := by
  obtain ⟨f, fd, ps, h1, h2, h3, h4, h5⟩ := hF
  obtain ⟨ta, pa, sa⟩ := ha
  refine ⟨_, pe_callSD (dvs := []) (E := fun σ => WE W.w σ) h5 hr hg h1 h2 h4 .nil (fun σ => L2N.passAt tk σ) pa hdb he hpl, snd_call sa (fun d a hk Φ σ G' H' E' v r _ => ?_) fun l a hk Φ σ G' H' E' p vs S h1 h2 h3 h4 h5 => ?_⟩
  · cases hk; exact r
  · cases hk; exact ⟨_, Ex.new h3, S.free h1 h3 h4 h5, .lst upd_same (h2.mono (Ex.new h3))⟩
theorem jl_call (hF : FnJ X.prog X.w X.K X.mg X.base k x (e :: es).length F) (hr : Room k X.A) (tk : L2N.Takes X W.w) (ha : JX X W (e :: es) fa) (hg : Gl X x := by rfl) (hdb : (x == ("__debug__" : Str)) = false := by decide)
    (he : starEach (e :: es) X.env = (false, eval e X.env) :: starEach es X.env := by rfl) (hpl : (backTo pos (starEach es X.env)).any (·.1) = false := by rfl) : JL X W (.Call (.Name x p) (e :: es) [] pos) (fCallR (e :: es).length F fa rvL) := by
  obtain ⟨f, fd, ps, h1, h2, h3, h4, h5⟩ := hF
  obtain ⟨ta, pa, sa⟩ := ha
  refine ⟨_, pe_callSD (dvs := []) (E := fun σ => WE W.w σ) h5 hr hg h1 h2 h4 .nil (fun σ => L2N.passAt tk σ) pa hdb he hpl, snd_call sa (fun d a hk => by cases hk) fun l a hk Φ σ G' H' E' p vs S h1 h2 h3 h4 h5 => ?_⟩
  cases hk; exact ⟨G', Ex.refl G', S, p, vs, rfl, h1, h2, h3, h4, h5⟩
end
end J

namespace J
open PySem PySem.Spec PyProof.Rows L2

/-! ### a method that closes over __class__ -/
abbrev envS (qual : Str) (scope : Scope) (L f : Addr) (cda cc : Addr) : PySem.Env := PySem.W.ksEnv qual scope L f (.ref cda) cc
/-- the context of such a body -/
def cxS (CX : CXT) (P : Program) (w : World) (K : PySem.W.Frag) (mg : Str → Option Value) (base : Heap) (N : List Str) (qual : Str) (scope : Scope) (f cda cc : Addr) (A : Around) (outer : List PySem.Env) (s : Shared) (H : Hp) (E : XK) : Cx :=
  { cxOf CX P w K mg base N qual scope f (.ref cda) A outer s H E with
    A := A.deeper (envS qual scope s.heap.objs.size f cda cc), env := envS qual scope s.heap.objs.size f cda cc, stack := envS qual scope s.heap.objs.size f cda cc :: outer, fn := fun _ => false,
    xe := fun e s' => wpAny (model P w) (A.deeper (envS qual scope s.heap.objs.size f cda cc)) (leaving (envS qual scope s.heap.objs.size f cda cc) e) (fun _ s'' => CX outer H s E e s'') (fun e' s'' => CX outer H s E e' s'') s' }
structure SupScope (N P : List Str) (sc : Scope) : Prop where
  kind : sc.kind = .function
  co : sc.isCoroutine = false
  gen : sc.isGenerator = false
  nd : N.Nodup
  pre : N.take P.length = P
  par : ∀ x ∈ P, sc.names.lookup x = some .local
  nocell : ∀ y ∈ sc.names, y.2 ≠ .cell
  free : ∀ y ∈ sc.names, y.2 = .free → y.1 = "__class__"
  sup : sc.names.lookup ("super" : Str) = some .globalImplicit
  cls : sc.names.lookup ("__class__" : Str) = some .free
theorem lookup_only {α β : Type} [BEq α] [LawfulBEq α] {y : α} {u : β} : ∀ {l : List (α × β)}, (y, u) ∈ l → (∀ v, (y, v) ∈ l → v = u) → l.lookup y = some u
  | [], h, _ => by cases h
  | (a, b) :: l, h, k => by
    unfold List.lookup
    by_cases e : y = a
    · subst e
      rw [show (y == y) = true from beq_self_eq_true y]
      rw [k b (List.mem_cons_self ..)]
    · rw [show (y == a) = false from by simpa using e]
      refine lookup_only ?_ fun v hv => k v (List.mem_cons_of_mem _ hv)
      rcases List.mem_cons.mp h with z | z
      · cases z; exact absurd rfl e
      · exact z
theorem zip_only {ps : List Str} {us : List Value} (nd : ps.Nodup) {i : Nat} {y : Str} {u : Value} (h1 : ps[i]? = some y) (h2 : us[i]? = some u) : (ps.zip us).reverse.lookup y = some u := by
  refine lookup_only (List.mem_reverse.mpr ?_) fun v hv => ?_
  · refine List.mem_of_getElem? (i := i) ?_
    rw [List.getElem?_zip_eq_some]; exact ⟨h1, h2⟩
  · obtain ⟨j, hj⟩ := List.getElem?_of_mem (List.mem_reverse.mp hv)
    rw [List.getElem?_zip_eq_some] at hj
    have : i = j := nodup_ix nd h1 hj.1
    subst this
    rw [h2] at hj
    exact (Option.some.inj hj.2).symm
theorem inv_sup {CX : CXT} {P : Program} {w : World} {K : PySem.W.Frag} {mg : Str → Option Value} {base : Heap} {N ps : List Str} {qual : Str} {scope : Scope} {f cda cc D : Addr} {A : Around} {outer : List PySem.Env} {s : Shared} {h1 : Heap} {t1 : Nat} {H : Hp} {E : XK} {us : List Value} {vs : List V} {cl : Value} {cld : Option Addr} {csl : Array (Option Value)}
    (S : SupScope N ps scope) (hd : A.handled = none) (e0 : Env0 P w K mg base A outer s H) (hl : vs.length = ps.length) (r : Vals vs us) (hcell : K.lookup cc = some ⟨cl, cld, .cell (some (.ref D)), csl⟩)
    (hns : h1.Ns s.heap.objs.size fun x => (ps.zip us).reverse.lookup x) (hk : ∀ b o, s.heap.get? b = some o → h1.get? b = some o) :
    Inv (cxS CX P w K mg base N qual scope f cda cc A outer s H E) [] (L2.start N vs) H { s with heap := h1, toks := t1 } := by
  have hpl : ps.length ≤ N.length := by have := congrArg List.length S.pre; rw [List.length_take] at this; omega
  have ndP : ps.Nodup := by rw [← S.pre]; exact S.nd.sublist (List.take_sublist _ _)
  have one : ∀ x c, (envS qual scope s.heap.objs.size f cda cc).cells.lookup x = some c → x = "__class__" ∧ c = cc := fun x c h => by
    have h' : List.lookup x [(("__class__" : Str), cc)] = some c := h
    rw [List.lookup_cons] at h'
    split at h'
    · rename_i e
      exact ⟨by simpa using e, (Option.some.inj h').symm⟩
    · cases h'
  have bcc : base.get? cc = some ⟨cl, cld, .cell (some (.ref D)), csl⟩ := e0.mod.kin _ _ hcell
  have scc := e0.bs _ _ bcc
  refine ⟨⟨e0.mod, S.kind, rfl, rfl, Nat.le_refl _, fun x y c a b => ?_, fun x hx => ?_, fun x c z _ => absurd (show false = true from z) (by decide), fun _ => hd, Around.frames_deeper e0.frames, .inr ⟨rfl, rfl⟩, fun b z => absurd (show b ∈ ([] : List Addr) from z) (by simp), e0.bs, e0.bsz, fun b _ _ z => absurd (show b ∈ ([] : List Addr) from z) (by simp), fun b z => absurd (show b ∈ ([] : List Addr) from z) (by simp), e0.funs, e0.frf⟩,
    rfl, e0.bare, Un.kept hk, ⟨_, hns, fun i y v a b c => ?_⟩, fun x c a => ?_, e0.hok.fresh (Nat.le_refl _), fun x c a => ?_, fun p hp => absurd (show p ∈ ([] : List (Addr × Obj)) from hp) (by simp), e0.hok.kept hk, ?_⟩
  · rw [(one x c a).1, (one y c b).1]
  · have hx : scope.names.lookup x = some .cell ∨ scope.names.lookup x = some .free := hx
    rcases hx with hx | hx
    · exact absurd rfl (S.nocell _ (PySem.mem_of_lookup hx))
    · have e := S.free _ (PySem.mem_of_lookup hx) rfl
      have e : x = "__class__" := e
      subst e
      exact ⟨cc, rfl⟩
  · have hi : i < vs.length := by
      unfold L2.start at b
      by_cases hi : i < vs.length
      · exact hi
      · rw [List.getElem?_append_right (by simpa using hi), List.getElem?_replicate] at b
        split at b <;> cases b
    have hv : vs[i]? = some v := by
      unfold L2.start at b
      rw [List.getElem?_append_left (by simpa using hi), List.getElem?_map] at b
      cases e : vs[i]? with
      | none => rw [e] at b; cases b
      | some a => rw [e] at b; cases b; rfl
    obtain ⟨u, hu, rv⟩ := r.get hv
    have hp : ps[i]? = some y := by rw [← S.pre, List.getElem?_take_of_lt (by omega)]; exact a
    exact ⟨u, rv, .inl ⟨S.par y (List.mem_of_getElem? hp), zip_only ndP hp hu⟩⟩
  · obtain ⟨_, rfl⟩ := one x c a
    exact ⟨_, _, hk _ _ scc.1, rfl⟩
  · obtain ⟨_, rfl⟩ := one x c a
    exact scc.2
  · unfold L2.start
    show _ = N.length
    rw [List.length_append, List.length_map, List.length_replicate]
    omega
/-! ### ValueError.__init__ bound to an exception, called -/
theorem bound_ve {prog : Program} {w : World} {A : Around} {E : Value → Shared → Prop} {hp : Heap} {g : Array GenState} {d : Drawn} {t : Nat} {os : OsState} {nm q : Str} {C N u a t0 : Addr} {bs bm : List Value} {hdct : Bool} {sn : List Str} {sub : List Value} {ab : Bool} {col : Option Bool} {dd : Option Addr} {k0 k1 k2 k3 k5 : Option Value}
    {xs : List Value} {Q : Value → Shared → Prop} (cC : hp.get? C = some (excClassObj nm q C N bs bm hdct sn sub ab col dd k0 k1 k2 k3 k5 "ValueError.__new__")) (ea : hp.get? a = some (HandSPX.excO C t0)) (eu : hp.get? u = some (PySem.W.kxs_mw "ValueError.__init__" a)) (hz : xs.length ≤ sizeLine)
    (fin : ∀ h' t1, (∀ b o, b ≠ a → hp.get? b = some o → h'.get? b = some o) → h'.get? a = some (HandSPX.excO C t1) → Q .none ⟨h', g, d, t, os⟩) : wpAny (model prog w) A (call (.ref u) xs) Q E ⟨hp, g, d, t, os⟩ := by
  refine wpAny_call (codeAny_of_tree ?_)
  show wpAny _ A.in1 (callAny (.ref u) ⟨xs, []⟩) _ _ _
  simp only [callAny]
  refine wpAny_bind (wpAny_load eu ?_)
  simp only [PySem.W.kxs_mw, show (Value.type "method-wrapper" == Value.type "method" || Value.type "method-wrapper" == Value.type "builtin_function_or_method" || Value.type "method-wrapper" == Value.type "method-wrapper") = true by decide, if_true]
  refine W.KFB.if_so (by decide) ?_
  refine wpAny_bind (PySem.W.check_bound_init F.excBase_ValueError.toExcCallFacts cC ea rfl ?_)
  refine wpAny_bind (wpAny_pure (wpAny_pure ?_))
  refine ⟨Code.quiet_builtin _ (by decide +kernel), codeAny_builtin F.excBase_ValueError.initEntry ?_⟩
  rw [Around.under_plainId F.excBase_ValueError.init.plain _]
  wp_walk
  refine fin _ hp.objs.size (fun b o nb e => ?_) ?_
  · rw [Heap.get?_update_other _ _ (Ne.symm nb)]; exact Heap.get?_push_of_some _ e
  · rw [Heap.get?_update_self _ (Heap.get?_push_of_some _ ea) rfl]; rfl
/-- what is to be known of an own exception class that calls super().__init__ -/
structure SupF (P : Program) (K : PySem.W.Frag) (mg : Str → Option Value) (C cda : Addr) : Prop where
  any : PySem.W.nsIn K PySem.cStatics "thirdparty.any" = some none
  sup : PySem.W.ks_superIn K C C "__init__" = some (some (.builtin "ValueError.__init__"))
  ve : PySem.W.subIn K (.ref C) (.type "ValueError") = some true
  slf : PySem.W.mroIn K C (.ref C) = some true
  code : ∃ ccl cdd vs ccs file tf, K.lookup cda = some ⟨ccl, cdd, .fields vs, ccs⟩ ∧ vs[2]? = some (.str file tf) ∧ ((P.main.file : Str) == file) = true
  mgs : mg "super" = none
  top : (P.main.scope.names.lookup ("super" : Str)).isSome = false
theorem fn_sup {CX : CXT} {P : Program} {w : World} {K : PySem.W.Frag} {mg : Str → Option Value} {base : Heap} {k : Nat} {f cda cc C : Addr} {name qual msg : Str} {params : Arguments} {rest : List Stmt} {scope : Scope} {dV kV doc pm ct oc cl : Value} {an od cld : Option Addr}
    {osl csl : Array (Option Value)} {N ps : List Str} {sp : Sp} {p0 p1 p2 p3 p4 pc : Pos} {j : Nat} {ar : Arg}
    (lk : K.lookup f = some ⟨oc, od, .func (PySem.W.ksFn name qual params (.Expr (.Call (.Attribute (.Call (.Name "super" p0) [] [] p1) "__init__" p2) [.Constant (.str msg) j pc] [] p3) p4 :: rest) scope dV kV doc pm an (.ref cda) ct cc), osl⟩)
    {pl : Sem Bool} (hev : ∀ L : Addr, eval (.Call (.Attribute (.Call (.Name "super" p0) [] [] p1) "__init__" p2) [.Constant (.str msg) j pc] [] p3) (envS qual scope L f cda cc) = (do
      let ov ← attributeBase (.Call (.Name "super" p0) [] [] p1) "__init__" (envS qual scope L f cda cc) (eval (.Call (.Name "super" p0) [] [] p1) (envS qual scope L f cda cc))
      standAt p2.atName
      let (f', first) ← holding [ov] (getMethod ov "__init__" pl)
      callWith p3 f' first (backTo p3 (starEach [.Constant (.str msg) j pc] (envS qual scope L f cda cc))) []))
    (hsw : ∀ L : Addr, swapsWith (.Call (.Attribute (.Call (.Name "super" p0) [] [] p1) "__init__" p2) [.Constant (.str msg) j pc] [] p3) none p4.line (envS qual scope L f cda cc) = pure false)
    (hin : ∀ L : Addr, interactive (envS qual scope L f cda cc) = false)
    (hcd : PySem.W.codeIn K (.ref cda) qual = true) (S : SupScope N ps scope) (T : OexC K C) (SF : SupF P K mg C cda) (hcell : K.lookup cc = some ⟨cl, cld, .cell (some (.ref C)), csl⟩) (har : (params.posonlyargs ++ params.args).head? = some ar) (har2 : ps[0]? = some ar.arg)
    (len : ∀ vs H Q E, sp vs H Q E → vs.length = ps.length) (hself : ∀ vs H Q E, sp vs H Q E → ∃ a ws, vs = .ref a :: ws ∧ H a = some (exo a C none))
    (hbody : ∀ (A : Around) (outer : List PySem.Env) (s : Shared) (H : Hp) (vs : List V) (Q : VK) (E : XK), Room k (A.deeper (envS qual scope s.heap.objs.size f cda cc)) → sp vs H Q E →
      ∃ t, PSs (cxS CX P w K mg base N qual scope f cda cc A outer s H E) rest t ∧ t { nx := fun _ H' => Q .non H', rt := Q } (L2.start N vs) H) :
    FnOk P w K mg base CX (k + 1) f (PySem.W.ksFn name qual params (.Expr (.Call (.Attribute (.Call (.Name "super" p0) [] [] p1) "__init__" p2) [.Constant (.str msg) j pc] [] p3) p4 :: rest) scope dV kV doc pm an (.ref cda) ct cc) ps sp := by
  refine ⟨len, fun A outer s H args us vs Q E hr e0 hb r hsp => ?_⟩
  have hl := len _ _ _ _ hsp
  have KX : K.In s.heap := e0.mod.kin.keeps fun b o e => (e0.bs b o e).1
  have lim : s.heap.NoLimit := e0.mod.nolimit.keeps fun b o e => (e0.bs b o e).1
  have hloc : ∀ y ∈ ps.zip us, scope.names.lookup y.1 = some .local := fun ⟨n, v⟩ hy => S.par n (List.of_mem_zip hy).1
  refine ks_codeAny_call_defAt (fd := PySem.W.ksFn name qual params (.Expr (.Call (.Attribute (.Call (.Name "super" p0) [] [] p1) "__init__" p2) [.Constant (.str msg) j pc] [] p3) p4 :: rest) scope dV kV doc pm an (.ref cda) ct cc) hr.depth (KX _ _ lk) rfl lim (PySem.W.codeRec_of KX hcd) rfl hb S.nocell hloc (fun h1 hns hk => ?_) S.co S.gen S.kind
  have I0 : Inv (cxS CX P w K mg base N qual scope f cda cc A outer s H E) [] (L2.start N vs) H { s with heap := h1, toks := s.toks + (ps.zip us).length } := inv_sup S hr.hd e0 hl r hcell hns hk
  obtain ⟨t, ht, hq⟩ := hbody A outer s H vs Q E (hr.deeper _) hsp
  obtain ⟨a, ws, rfl, ea⟩ := hself _ _ _ _ hsp
  obtain ⟨nm, q, N', bs, bm, sn, sub, ab, col, dd, k0, k1, k2, k3, k5, hC, hbm⟩ := T.cls
  obtain ⟨ccl, cdd, vs', ccs, file, tf, hcode, hvs, hfile⟩ := SF.code
  have K1 : K.In h1 := KX.keeps hk
  have hcl : PySem.W.clsIn K C = some { name := nm, bases := bs, mro := .ref C :: bm, ns := N', qualname := q, hasDict := true, slotNames := sn, subclasses := sub, abstract := ab, collection := col, hasDel := false } := by unfold PySem.W.clsIn; rw [hC] <;> rfl
  obtain ⟨t0, ha1⟩ := exo_at I0.hok ea
  have G0 : h1.Ns mainGlobals mg := e0.mod.glob.keeps fun b o e => hk b o (e0.bs b o e).1
  obtain ⟨mb, B0, B1⟩ := e0.mod.blt
  have B0 : h1.Ns builtinsNs mb := B0.keeps fun b o e => hk b o (e0.bs b o e).1
  have hself : (ps.zip us).reverse.lookup ar.arg = some (.ref a) := by
    have ndP : ps.Nodup := by rw [← S.pre]; exact S.nd.sublist (List.take_sublist _ _)
    obtain ⟨u, hu, ru⟩ := r.get (i := 0) (x := .ref a) rfl
    have ru : u = .ref a := ru
    subst ru
    exact zip_only ndP har2 hu
  have hwC : PySem.W.InstAt h1 a (HandSPX.excO C t0) C none := ⟨ha1, rfl, rfl, trivial⟩
  refine ks_wpAt_execs_cons (ks_wpAt_Expr_any (ks_wpAt_MethodCall (pl := pl) ?_ (hev _)) (hin _) (hsw _))
  refine ks_wpAt_super_base (env := envS qual scope s.heap.objs.size f cda cc) S.sup S.cls (by decide) rfl (K1 _ _ lk) rfl har rfl (K1 _ _ hcode) rfl hvs hfile SF.top ?_
  refine PySem.W.ks_loadName_global S.kind S.sup (Calls.loadGlobal_builtin (env := envS qual scope s.heap.objs.size f cda cc) G0 SF.mgs B0 ((B1 "super" (by decide)).trans (by first | rfl | decide +kernel | kernel_rfl)) ⟨rfl, ?_⟩)
  refine wpAny_loadName_free S.kind S.cls rfl ⟨_, K1 _ _ hcell, rfl⟩ ?_
  refine wpAny_loadName_local S.kind (S.par _ (List.mem_of_getElem? har2)) hns hself ?_
  refine ks_wpAny_isType_cls (K1 _ _ hC) rfl ⟨rfl, ?_⟩
  refine ks_wpAny_call_super (K1 _ _ hC) rfl ha1 rfl (fun c e => by cases e) (PySem.W.looks_mroIn K1 SF.slf) (fun h2 e2 k2 => ?_)
  have K2 : K.In h2 := K1.keeps k2
  have I2 := I0.kept (h' := h2) (t' := s.toks + (ps.zip us).length) k2
  have hw2 : PySem.W.InstAt h2 a (HandSPX.excO C t0) C none := ⟨k2 _ _ ha1, rfl, rfl, trivial⟩
  have hal : PySem.W.alongIn K "__init__" (((Value.ref C :: bm).dropWhile (· != .ref C)).drop 1) = some (some (.builtin "ValueError.__init__")) := by
    have q := SF.sup
    unfold PySem.W.ks_superIn at q
    rw [hcl] at q
    exact q
  refine PySem.W.kxs_getMethod PySem.W.kxs_ValueError e2 (PySem.W.looks_opaque K2 SF.any) (l₀ := .ref C :: bm) (fun A Q E s k q => wpAny_bind ((PySem.W.looks_clsIn K2 hcl) A _ E s k (wpAny_pure q))) rfl K2 hal (hw2.type.andThen (PySem.W.looks_subIn K2 SF.ve)) (PySem.W.ks_ne K2 hw2 hcl) (by decide) ?_
  have he : starEach [.Constant (.str msg) j pc] (envS qual scope s.heap.objs.size f cda cc) = (false, eval (.Constant (.str msg) j pc) (envS qual scope s.heap.objs.size f cda cc)) :: starEach [] (envS qual scope s.heap.objs.size f cda cc) := rfl
  have hu : (h2.push (PySem.W.kxs_mw "ValueError.__init__" a)).get? h2.objs.size = some (PySem.W.kxs_mw "ValueError.__init__" a) := Heap.get?_push_size _ rfl
  have k3 : ∀ b o, h2.get? b = some o → (h2.push (PySem.W.kxs_mw "ValueError.__init__" a)).get? b = some o := fun b o e => Heap.get?_push_of_some _ e
  have I3 := I2.kept (h' := h2.push (PySem.W.kxs_mw "ValueError.__init__" a)) (t' := s.toks + (ps.zip us).length + 1) k3
  have I3 := I3.pins_of (pins' := [(h2.objs.size, PySem.W.kxs_mw "ValueError.__init__" a)]) fun p hp => by
    have e : p = (h2.objs.size, PySem.W.kxs_mw "ValueError.__init__" a) := by simpa using hp
    subst e
    exact ⟨hu, I2.hok.fresh (Nat.le_refl _), Nat.ne_of_gt I2.lt, I2.nofs (Nat.le_refl _), fun v z => by cases z⟩
  show wpAny _ _ (callWith p3 (.ref h2.objs.size) [] (backTo p3 (starEach [.Constant (.str msg) j pc] (envS qual scope s.heap.objs.size f cda cc))) []) _ _ _
  rw [he]
  refine PySem.W.kxs_callWith (i := "ValueError.__init__") (x := a) rfl ?_
  refine Calls.evalArgs_plain ?_
  have pa : PA (cxS CX P w K mg base N qual scope f cda cc A outer s H E) [.Constant (.str msg) j pc] _ := pa_cons pe_str pa_nil he
  have ra := pa.run p3 _ _ _ H (fun vs H1 => vs = [.str msg] ∧ H1 = H) I3 ⟨rfl, rfl⟩
  refine wpAny_mono ra (fun us3 s3 h3 => ?_) fun _ _ z => z
  obtain ⟨vs3, H3, I4, r3, rfl, rfl⟩ := h3
  have hlen : us3.length ≤ sizeLine := by rw [← Paired.length r3, sizeLine_eq]; show (1 : Nat) ≤ _; decide
  have hu4 : s3.heap.get? h2.objs.size = some (PySem.W.kxs_mw "ValueError.__init__" a) := (I4.pin _ (List.mem_append_right _ (List.mem_singleton.mpr rfl))).1
  obtain ⟨t4, ha4⟩ := exo_at I4.hok ea
  have K4 : K.In s3.heap := I4.kIn
  refine ⟨hu4, ?_⟩
  obtain ⟨hp4, g4, d4, tk4, os4⟩ := s3
  refine bound_ve (K4 _ _ hC) ha4 hu4 hlen fun h5 t5 k5' ha5 => ?_
  have I5 := I4.write (t' := tk4) (h' := h5) (x := a) (e := a) (o := exo a C none) (by rw [ea]; exact True.intro) (.inl rfl) k5' ⟨_, ha5⟩ (exo_ok ha5)
  have eu : upd H3 a (exo a C none) = H3 := by
    funext b
    by_cases hb : b = a
    · rw [hb, upd_same, ea]
    · rw [upd_ne hb]
  rw [eu] at I5
  have I6 := I5.pins_of (pins' := []) fun p hp => absurd hp (by simp)
  refine wpAt_of_wpAny (wpAny_mono (ht.run [] _ _ _ _ I6 hq) (fun fl s' hs => ?_) fun e s' hs => hs)
  cases fl with
  | ret u =>
    obtain ⟨v, σ', H', J', rv, q⟩ := hs
    exact ⟨v, H', J'.os, J'.bare, J'.base, J'.hok, rv, q⟩
  | next =>
    obtain ⟨σ', H', J', q⟩ := hs
    exact ⟨.non, H', J'.os, J'.bare, J'.base, J'.hok, rfl, q⟩
  | brk => exact hs.elim fun _ h => h.elim fun _ h => h.2.elim
  | cont => exact hs.elim fun _ h => h.elim fun _ h => h.2.elim
end J

namespace J
open PySem PySem.Spec PyProof.Rows L2

section
variable {K : PySem.W.Frag} {Φ : Fr} {G H : Hp} {σ : St} {E : Env} {p : Addr} {o : HO}
/-- an object of nobody's is written -/
theorem Sat.upd (S : Sat K Φ G H σ E) (g : G p = none) (f : Φ.F p = none) (n : NotOwn σ E p) : Sat K Φ G (L2.upd H p o) σ E := by
  refine ⟨S.len, fun i s hs => ?_, S.gh.mut g, S.fh.mut f, S.fg, S.ow', S.di'⟩
  obtain ⟨x, h1, h2⟩ := S.sl i s hs
  refine ⟨x, h1, h2.mono (Ex.refl G) fun q b hb e2 => ?_⟩
  subst e2
  exact upd_ne fun z => by subst z; exact n i s b hs hb h1
def Fr.lo (Φ : Fr) (p : Addr) (o : HO) : Fr := ⟨L2.upd Φ.F p o, Φ.io⟩
theorem Sat.lo (S : Sat K Φ G H σ E) (hp : H p = some o) (g : G p = none) (n : NotOwn σ E p) : Sat K (Φ.lo p o) G H σ E := by
  refine ⟨S.len, S.sl, S.gh, fun a u h => ?_, fun a h => ?_, fun i s b q h1 hb h2 => ?_, S.di'⟩
  · by_cases ha : a = p
    · subst ha
      have h' : L2.upd Φ.F a o a = some u := h
      rw [upd_same] at h'; rw [← h']; exact hp
    · have h' : L2.upd Φ.F p o a = some u := h
      rw [upd_ne ha] at h'; exact S.fh a u h'
  · by_cases ha : a = p
    · subst ha; exact g
    · refine S.fg a fun z => h ?_
      show L2.upd Φ.F p o a = none
      rw [upd_ne ha]; exact z
  · obtain ⟨h3, h4, h5⟩ := S.ow' i s b q h1 hb h2
    refine ⟨h3, ?_, h5⟩
    show L2.upd Φ.F p o q = none
    rw [upd_ne (fun z => n i s b h1 hb (by rw [← z]; exact h2))]
    exact h4
theorem Sat.unlo (S : Sat K (Φ.lo p o) G H σ E) (hF : Φ.F p = none) : Sat K Φ G H σ E ∧ H p = some o ∧ G p = none ∧ NotOwn σ E p := by
  have hs : (Φ.lo p o).F p = some o := upd_same
  refine ⟨⟨S.len, S.sl, S.gh, fun a u h => ?_, fun a h => ?_, fun i s b q h1 hb h2 => ?_, S.di'⟩, S.fh p _ hs, S.fg p (by rw [hs]; simp), fun i s b h1 hb h2 => ?_⟩
  · by_cases ha : a = p
    · subst ha; rw [hF] at h; cases h
    · exact S.fh a u (by show L2.upd Φ.F p o a = some u; rw [upd_ne ha]; exact h)
  · by_cases ha : a = p
    · subst ha; exact absurd hF h
    · exact S.fg a (by show L2.upd Φ.F p o a ≠ none; rw [upd_ne ha]; exact h)
  · obtain ⟨h3, h4, h5⟩ := S.ow' i s b q h1 hb h2
    refine ⟨h3, ?_, h5⟩
    by_cases ha : q = p
    · subst ha; exact hF
    · have h4' : L2.upd Φ.F p o q = none := h4
      rw [upd_ne ha] at h4'; exact h4'
  · obtain ⟨h3, h4, h5⟩ := S.ow' i s b p h1 hb h2
    rw [hs] at h4; cases h4
end

/-! ### self.f = e, one after the other -/
/-- the exception at a as far as it is made -/
def Xst (H : Hp) (a C : Addr) (ns : List Str) (us : List V) : Option Addr → Prop
  | none => H a = some (exo a C none) ∧ ns = [] ∧ us = []
  | some d => H a = some (exo a C (some d)) ∧ H d = some (exd d (ns.zip us)) ∧ d ≠ a
def putF : List (Str × (Env → R D)) → List Str → List D → Env → Option (List Str × List D)
  | [], ns, ds, _ => some (ns, ds)
  | (f, fe) :: r, ns, ds, E => match fe E with
    | .ok d E1 => putF r (f :: ns) (d :: ds) E1
    | _ => none
/-- what is wished behind the fields -/
def PutW (K : PySem.W.Frag) (Φ : Fr) (G H0 : Hp) (a C : Addr) (σ : St) (r : Option (List Str × List D)) (Q : St → Hp → Prop) : Prop := match r with
  | none => False
  | some (ns, ds) => ∀ G' H' d us E', Ex G G' → Sat K Φ G' H' σ E' → H' a = some (exo a C (some d)) → H' d = some (exd d (ns.zip us)) → H0 d = none → d ≠ a → RpA K G' us ds → us.length = ns.length → G' d = none → Φ.F d = none → G' a = none → Q σ H'
def PutS (K : PySem.W.Frag) (t : TS) (fl : List (Str × (Env → R D))) : Prop := ∀ Φ G H σ E D H0 a C ns us ds o, OexC K C → (∀ p ∈ fl, PySem.W.findIn K (.ref C) p.1 = some none) → σ[0]? = some (some (.ref a)) → Sat K Φ G H σ E → NotOwn σ E a → G a = none → Φ.F a = none → Xst H a C ns us o → RpA K G us ds → us.length = ns.length → ns.length + fl.length ≤ 900 →
  (∀ d, o = some d → G d = none ∧ Φ.F d = none ∧ H0 d = none ∧ NotOwn σ E d) → (∀ b, b ≠ a → G b = none → Φ.F b = none → (∀ d, o = some d → b ≠ d) → H0 b ≠ none → False) → (fl = [] → o ≠ none) → PutW K Φ G H0 a C σ (putF fl ns ds E) D.nx → t D σ H
def JPut (X : Cx) (s : List Stmt) (fl : List (Str × (Env → R D))) : Prop := ∃ t, PSs X s t ∧ PutS X.K t fl
/-- neither a list nor an instance -/
def notOI : HO → Prop
  | .lst _ => False
  | .ins _ _ _ => False
  | _ => True
theorem NotOwn.ne {K : PySem.W.Frag} {Φ : Fr} {G H : Hp} {σ : St} {E : Env} (S : Sat K Φ G H σ E) {p : Addr} {o : HO} (h : H p = some o) (hn : notOI o) : NotOwn σ E p := fun i s b h1 hb h2 => by
  obtain ⟨x, h3, hk⟩ := S.sl i _ h1
  rw [h2] at h3; cases h3
  cases s with
  | no => cases hb
  | val d => cases hb
  | own b l => obtain ⟨q, vs, h5, h6, _⟩ := hk; cases h5; rw [h] at h6; cases h6; exact hn
  | obj b c ns ds => obtain ⟨q, dx, vs, h5, h6, _⟩ := hk; cases h5; rw [h] at h6; cases h6; exact hn
theorem exo_lst {e C : Addr} {d : Option Addr} : notOI (exo e C d) := trivial
theorem exd_lst {e : Addr} {fs : List (Str × V)} : notOI (exd e fs) := trivial
theorem jput_nil {X : Cx} : JPut X [] [] := by
  refine ⟨_, pss_nil, fun Φ G H σ E D H0 a C ns us ds o T hf hs S nA gA fA hx r hl hz ho hc hne hp => ?_⟩
  cases o with
  | none => exact absurd rfl (hne rfl)
  | some d =>
    obtain ⟨x1, x2, x3⟩ := hx
    obtain ⟨o1, o2, o3, o4⟩ := ho d rfl
    exact hp G H d us E (Ex.refl G) S x1 x2 o3 x3 r hl o1 o2 gA
theorem jput_cons {X : Cx} {s : Str} {f : Str} {e : Expr} {rest : List Stmt} {fe : Env → R D} {fl : List (Str × (Env → R D))} {p p' pos : Pos} (he : JE X V0 e fe) (hr : JPut X rest fl) (hN : X.N[0]? = some s) (hv : Vis X.env.scope s := by first | exact Or.inl rfl | exact Or.inr (Or.inl rfl) | exact Or.inr (Or.inr rfl)) (hd : (s == ("__debug__" : Str)) = false := by decide)
    (hcd : (s == ("__classdict__" : Str)) = false := by decide) (hs : swapsWith e (some (.Attribute (.Name s p) f p')) pos.line X.env = pure false := by rfl) : JPut X (.Assign [.Attribute (.Name s p) f p'] e pos :: rest) ((f, fe) :: fl) := by
  obtain ⟨te, h1, h2⟩ := he
  obtain ⟨t, h3, h4⟩ := hr
  refine ⟨_, pss_cons (ps_ost (pe_var hN hv hd hcd) h1 hs) h3, fun Φ G H σ E D H0 a C ns us ds o T hf hself S nA gA fA hx r hl hz ho hc hne hp => ?_⟩
  have hp0 := hp
  unfold putF at hp
  have mono : ∀ {G1 : Hp} {r : Option (List Str × List J.D)}, Ex G G1 → PutW X.K Φ G H0 a C σ r D.nx → PutW X.K Φ G1 H0 a C σ r D.nx := fun {G1 r} e1 h => by
    cases r with
    | none => exact h
    | some r => exact fun G' H' d us E' e2 => h G' H' d us E' (e1.trans e2)
  cases hfe : fe E with
  | exc x E' => rw [hfe] at hp; exact hp.elim
  | stuck => rw [hfe] at hp; exact hp.elim
  | ok y0 E1 =>
    rw [hfe] at hp
    have hp : PutW X.K Φ G H0 a C σ (putF fl (f :: ns) (y0 :: ds) E1) D.nx := hp
    have hfp := hf (f, fe) (List.mem_cons_self ..)
    have hfl : ∀ p ∈ fl, PySem.W.findIn X.K (.ref C) p.1 = some none := fun p hp => hf p (List.mem_cons_of_mem _ hp)
    have hz2 : (f :: ns).length + fl.length ≤ 900 := by simp only [List.length_cons] at hz ⊢; omega
    show te σ H fun y H1 => tVar 0 σ H1 fun x H2 => ∃ a C : Addr, x = .ref a ∧ OexC X.K C ∧ PySem.W.findIn X.K (.ref C) f = some none ∧ _
    cases o with
    | none =>
      obtain ⟨x1, rfl, rfl⟩ := hx
      cases r
      refine h2 (Φ.lo a (exo a C none)) G H σ E _ (S.lo x1 gA nA).pw ?_
      rw [hfe]
      intro G1 H1 y e1 S1 r1
      obtain ⟨S2, y1, y2, y3⟩ := S1.unlo fA
      refine ⟨.ref a, hself, a, C, rfl, T, hfp, .inl ⟨y1, fun dx hdx hne1 => ?_⟩⟩
      have g1 := S2.gh.back hdx
      have f1 := S2.fh.back hdx
      have hda : a ≠ dx := fun z => hne1 z.symm
      refine h4 Φ G1 _ σ E1 D H0 a C [f] [y] [y0] (some dx) T hfl hself ((S2.upd g1 f1 (S2.notOwn hdx)).upd y2 fA y3) y3 y2 fA ⟨upd_same, ?_, hne1⟩ (.cons r1 .nil) rfl hz2 (fun d e => ?_) (fun b b1 b2 b3 b4 b5 => hc b b1 (e1.back b2) b3 (fun _ z => by cases z) b5) (fun _ z => by cases z) (mono e1 hp)
      · rw [upd_ne (Ne.symm hda), upd_same]; rfl
      · cases e
        refine ⟨g1, f1, ?_, S2.notOwn hdx⟩
        cases h0 : H0 dx with
        | none => rfl
        | some w => exact (hc dx hne1 (e1.back g1) f1 (fun _ z => by cases z) (by rw [h0]; simp)).elim
    | some d0 =>
      obtain ⟨x1, x2, x3⟩ := hx
      obtain ⟨o1, o2, o3, o4⟩ := ho d0 rfl
      have fd0 : (Φ.lo a (exo a C (some d0))).F d0 = none := by show L2.upd Φ.F a _ d0 = none; rw [upd_ne x3]; exact o2
      refine h2 ((Φ.lo a (exo a C (some d0))).lo d0 (exd d0 (ns.zip us))) G H σ E _ ((S.lo x1 gA nA).lo x2 o1 o4).pw ?_
      rw [hfe]
      intro G1 H1 y e1 S1 r1
      obtain ⟨S2, z1, z2, z3⟩ := S1.unlo fd0
      obtain ⟨S3, y1, y2, y3⟩ := S2.unlo fA
      refine ⟨.ref a, hself, a, C, rfl, T, hfp, .inr ⟨d0, ns.zip us, y1, z1, ?_, ?_⟩⟩
      · rw [List.length_zip]; simp only [List.length_cons] at hz; omega
      · refine h4 Φ G1 _ σ E1 D H0 a C (f :: ns) (y :: us) (y0 :: ds) (some d0) T hfl hself (S3.upd z2 o2 z3) y3 y2 fA ⟨?_, upd_same, x3⟩ (.cons r1 (r.mono e1)) (by simp [hl]) hz2 (fun d e => ?_) (fun b b1 b2 b3 b4 b5 => hc b b1 (e1.back b2) b3 b4 b5) (fun _ z => by cases z) (mono e1 hp)
        · rw [upd_ne (Ne.symm x3)]; exact y1
        · cases e; exact ⟨z2, o2, o3, z3⟩
end J

namespace J
open PySem PySem.Spec PyProof.Rows L2

section
variable {K : PySem.W.Frag} {Φ : Fr} {G H : Hp} {σ : St} {E : Env}
theorem Sat.bare (S : Sat K Φ G H σ E) : Sat K Φ G H [] [] := ⟨rfl, fun i s h => by simp at h, S.gh, S.fh, S.fg, fun i s b p h => by simp at h, fun i j s s' b b' p h => by simp at h⟩
theorem Sat.vals (S : Sat K Φ G H [] []) {a : Addr} {ws : List V} {ds : List D} (r : RpA K G ws ds) : Sat K Φ G H ((V.ref a :: ws).map some) (.no :: ds.map .val) := by
  have nown : ∀ (i : Nat) (s : Sl) (b : Bool), (Sl.no :: ds.map Sl.val)[i]? = some s → s.ow = some b → False := fun i s b h hb => by
    cases i with
    | zero => simp at h; subst h; cases hb
    | succ i =>
      rw [List.getElem?_cons_succ, List.getElem?_map] at h
      obtain ⟨d, _, rfl⟩ := Option.map_eq_some_iff.mp h
      cases hb
  refine ⟨by simp [r.length], fun i s h => ?_, S.gh, S.fh, S.fg, fun i s b p h hb => (nown i s b h hb).elim, fun i j s s' b b' p h hb => (nown i s b h hb).elim⟩
  cases i with
  | zero => simp at h; subst h; exact ⟨_, rfl, trivial⟩
  | succ i =>
    rw [List.getElem?_cons_succ, List.getElem?_map] at h
    obtain ⟨d, h1, rfl⟩ := Option.map_eq_some_iff.mp h
    obtain ⟨v, h2, h3⟩ := r.get h1
    exact ⟨some v, by rw [List.map_cons, List.getElem?_cons_succ, List.getElem?_map, h2]; rfl, v, rfl, h3⟩
end

/-! ### what an own exception's __init__ promises -/
def PostN (K : PySem.W.Frag) (Φ : Fr) (G H : Hp) (a C : Addr) (r : Option (List Str × List D)) (Q : VK) : Prop := match r with
  | none => False
  | some (ns, ds) => ∀ G' H' d us, Ex G G' → Sat K Φ G' H' [] [] → H' a = some (exo a C (some d)) → H' d = some (exd d (ns.zip us)) → H d = none → d ≠ a → RpA K G' us ds → us.length = ns.length → G' d = none → Φ.F d = none → G' a = none → Q .non H'
def spI (K : PySem.W.Frag) (n : Nat) (C : Addr) (F : List D → Option (List Str × List D)) : Sp := fun vs H Q _ => vs.length = n ∧ ∃ a ws Φ G ds, vs = .ref a :: ws ∧ H a = some (exo a C none) ∧ G a = none ∧ Φ.F a = none ∧ Sat K Φ G H [] [] ∧ RpA K G ws ds ∧ (∀ b, b ≠ a → G b = none → Φ.F b = none → H b ≠ none → False) ∧ PostN K Φ G H a C (F ds) Q
def initF (n : Nat) (fl : List (Str × (Env → R D))) : List D → Option (List Str × List D) := fun ds => putF fl [] [] ((.no :: ds.map .val) ++ List.replicate (n - (.no :: ds.map Sl.val).length) .no)
theorem fn_initJ {P : Program} {w : World} {K : PySem.W.Frag} {mg : Str → Option Value} {base : Heap} {k : Nat} {f cda cc C : Addr} {name qual msg : Str} {params : Arguments} {rest : List Stmt} {scope : Scope} {dV kV doc pm ct oc cl : Value} {an od cld : Option Addr}
    {osl csl : Array (Option Value)} {N ps : List Str} {p0 p1 p2 p3 p4 pc : Pos} {j : Nat} {ar : Arg} {fl : List (Str × (Env → R D))}
    (lk : K.lookup f = some ⟨oc, od, .func (PySem.W.ksFn name qual params (.Expr (.Call (.Attribute (.Call (.Name "super" p0) [] [] p1) "__init__" p2) [.Constant (.str msg) j pc] [] p3) p4 :: rest) scope dV kV doc pm an (.ref cda) ct cc), osl⟩)
    {pl : Sem Bool} (hev : ∀ L : Addr, eval (.Call (.Attribute (.Call (.Name "super" p0) [] [] p1) "__init__" p2) [.Constant (.str msg) j pc] [] p3) (envS qual scope L f cda cc) = (do
      let ov ← attributeBase (.Call (.Name "super" p0) [] [] p1) "__init__" (envS qual scope L f cda cc) (eval (.Call (.Name "super" p0) [] [] p1) (envS qual scope L f cda cc))
      standAt p2.atName
      let (f', first) ← holding [ov] (getMethod ov "__init__" pl)
      callWith p3 f' first (backTo p3 (starEach [.Constant (.str msg) j pc] (envS qual scope L f cda cc))) []))
    (hsw : ∀ L : Addr, swapsWith (.Call (.Attribute (.Call (.Name "super" p0) [] [] p1) "__init__" p2) [.Constant (.str msg) j pc] [] p3) none p4.line (envS qual scope L f cda cc) = pure false)
    (hin : ∀ L : Addr, interactive (envS qual scope L f cda cc) = false)
    (hcd : PySem.W.codeIn K (.ref cda) qual = true) (S : SupScope N ps scope) (T : OexC K C) (SF : SupF P K mg C cda) (hcell : K.lookup cc = some ⟨cl, cld, .cell (some (.ref C)), csl⟩) (har : (params.posonlyargs ++ params.args).head? = some ar) (har2 : ps[0]? = some ar.arg)
    (hfl : fl ≠ []) (hlen : fl.length ≤ 900) (hno : ∀ p ∈ fl, PySem.W.findIn K (.ref C) p.1 = some none)
    (hput : ∀ (A : Around) (outer : List PySem.Env) (s : Shared) (H : Hp) (E : XK), JPut (cxS (L2N.CX P w) P w K mg base N qual scope f cda cc A outer s H E) rest fl) :
    FnOk P w K mg base (L2N.CX P w) (k + 1) f (PySem.W.ksFn name qual params (.Expr (.Call (.Attribute (.Call (.Name "super" p0) [] [] p1) "__init__" p2) [.Constant (.str msg) j pc] [] p3) p4 :: rest) scope dV kV doc pm an (.ref cda) ct cc) ps (spI K ps.length C (initF N.length fl)) := by
  refine fn_sup lk hev hsw hin hcd S T SF hcell har har2 (fun vs H Q E h => h.1) (fun vs H Q E h => ?_) fun A outer s H vs Q E hr hsp => ?_
  · obtain ⟨_, a, ws, Φ, G, ds, h1, h2, _⟩ := h
    exact ⟨a, ws, h1, h2⟩
  · obtain ⟨t, h1, h2⟩ := hput A outer s H E
    refine ⟨t, h1, ?_⟩
    obtain ⟨hl, a, ws, Φ, G, ds, rfl, ea, gA, fA, S0, r, cov, hP⟩ := hsp
    have S1 := (S0.vals (a := a) r).begin N
    refine h2 Φ G H _ _ _ H a C [] [] [] none T hno ?_ S1 (NotOwn.ne S1 ea exo_lst) gA fA ⟨ea, rfl, rfl⟩ .nil rfl (by simpa using hlen) (fun d e => by cases e) (fun b h1 h2 h3 _ h4 => cov b h1 h2 h3 h4) (fun z => absurd z hfl) ?_
    · unfold L2.start; rfl
    · unfold initF at hP
      cases hF : putF fl [] [] ((.no :: ds.map .val) ++ List.replicate (N.length - (.no :: ds.map Sl.val).length) .no) with
      | none => rw [hF] at hP; exact hP.elim
      | some r =>
        rw [hF] at hP
        exact fun G' H' d us E' e1 S2 x1 x2 x3 x4 x5 x6 x7 x8 x9 => hP G' H' d us e1 S2.bare x1 x2 x3 x4 x5 x6 x7 x8 x9
/-- an own exception class, as a raise sees it -/
structure ExcJ (P : Program) (w : World) (K : PySem.W.Frag) (mg : Str → Option Value) (base : Heap) (k : Nat) (x : Str) (n : Nat) (F : List D → Option (List Str × List D)) : Prop where
  ok : ∃ fI fd ps, mg x = some (.ref (He.ga K x)) ∧ OexC K (He.ga K x) ∧ PySem.W.findIn K (.ref (He.ga K x)) "__init__" = some (some (.ref fI)) ∧ PySem.W.typeIn K (.ref fI) = some (.type "function") ∧ ps.length = n + 1 ∧ Binds K fd ps [] ∧ FnOk P w K mg base (L2N.CX P w) k fI fd ps (spI K (n + 1) (He.ga K x) F)
/-- C(e, ..) -/
theorem pmkN {X : Cx} {CX : CXT} {x : Str} {C fI : Addr} {k : Nat} {fd : FuncData} {ps : List Str} {sp : Sp} {e : Expr} {es : List Expr} {p pos : Pos} {ta : TA} (T : OexC X.K C) (iC : PySem.W.findIn X.K (.ref C) "__init__" = some (some (.ref fI))) (tI : PySem.W.typeIn X.K (.ref fI) = some (.type "function"))
    (F1 : FnOk X.prog X.w X.K X.mg X.base CX k fI fd ps sp) (hr : Room (k + 1) X.A) (hb : Binds X.K fd ps []) (hx : Passes CX X fun _ _ _ => False) (hg : Gl X x) (hm : X.mg x = some (.ref C)) (ha : PA X (e :: es) ta)
    (hdb : (x == ("__debug__" : Str)) = false := by decide) (he : starEach (e :: es) X.env = (false, eval e X.env) :: starEach es X.env := by rfl) (hpl : (backTo pos (starEach es X.env)).any (·.1) = false := by rfl) :
    L2N.PMk X (.Call (.Name x p) (e :: es) [] pos) (tMkO C sp [] ta) := by
  intro pins s σ H Q I hw
  obtain ⟨nm, qn, nsA, bs, bm, sn, sub, ab, col, dd, k0, k1, k2, k3, k5, hC, hbm⟩ := T.cls
  refine wpAny_Call_Name_kw (ld_glob I hg hm ?_ hdb)
  refine PySem.W.callWith_K (h₀ := X.base) I.ok.mod.kin T.kC (thn (ha.run pos pins s σ H _ I hw) fun us s1 ⟨vs, H1, J1, rr, hz, wish⟩ => ⟨J1.kIn, ?_⟩) he hpl
  show wpAny _ _ (call (.ref C) us) _ _ _
  obtain ⟨hp, gs, dr, tk, os⟩ := s1
  have up1 : hp.objs.size ≤ hp.objs.size + 1 := Nat.le_succ _
  have q1 := wish (hp.objs.size + 1) (J1.hok.fresh up1)
  rw [List.append_nil] at q1
  have kp : ∀ b o, hp.get? b = some o → ((hp.push (PySem.W.kdv_tup us)).push (HandSPX.excO C hp.objs.size)).get? b = some o := fun b o z => Heap.get?_push_of_some _ (Heap.get?_push_of_some _ z)
  have at1 : ((hp.push (PySem.W.kdv_tup us)).push (HandSPX.excO C hp.objs.size)).get? (hp.objs.size + 1) = some (HandSPX.excO C hp.objs.size) := by heap_get
  have J2 := J1.laid (t' := tk) (o := exo (hp.objs.size + 1) C none) kp up1 (exo_ok at1)
  have r2 : Vals (V.ref (hp.objs.size + 1) :: vs) (Value.ref (hp.objs.size + 1) :: us) := .cons rfl rr
  have ln : (Value.ref (hp.objs.size + 1) :: us).length = ps.length := r2.length.symm.trans (F1.len _ _ _ _ q1)
  have ul : us.length ≤ sizeLine := by rw [← Paired.length rr, sizeLine_eq]; omega
  have b2 := hb _ (Value.ref (hp.objs.size + 1) :: us) J2.kIn (by rw [List.append_nil]; exact ln)
  rw [List.append_nil] at b2
  have run := F1.run _ X.stack _ _ ⟨Value.ref (hp.objs.size + 1) :: us, []⟩ _ _ _ (fun _ _ _ => False) (hr.make C us []) (J2.env0.make C us []) b2 r2 q1
  refine wpAny_call (HandSPX.call_own F.excBase_ValueError (fun Y => HandSPX.refsVE_contains Y bm hbm) (J1.kIn _ _ hC) (PySem.W.looks_findIn J1.kIn iC) (fun self => PySem.W.bind_fn J1.kIn self tI) ul (codeAny_mono run fun rs s' back => ?_))
  cases rs with
  | error er => exact hx pins σ _ _ er s' J2 back
  | ok fl =>
    cases fl with
    | next => exact False.elim back
    | brk => exact False.elim back
    | cont => exact False.elim back
    | ret u =>
      obtain ⟨v, H2, os2, bare2, un2, hok2, rv, ev, d, fs, ea, ed, hd1, q2⟩ := back
      subst ev
      obtain ⟨h2, g2, d2, t2, os'⟩ := s'
      obtain ⟨t0, G, J, kG, ge, hoe, na⟩ := mk_end0 (d2 := d2) (t2 := t2) J1 up1 kp un2 hok2 os2 bare2 ea ed hd1
      exact ⟨rv, hp.objs.size + 1, _, _, ⟨G, g2, d2, t2, os'⟩, _, .ref C, some d, rfl, J, kG, ge, hoe, ⟨rfl, rfl, fun vs hv => by cases hv; rfl⟩, rfl, rfl, na, rfl, bare2, raises_own T.exC T.tyC, q2⟩
def sRaise (c : Str) (n : Nat) (F : List D → Option (List Str × List D)) (fa : Env → R (List D)) : Env → RS := fun E => (fa E).bindS fun ds E1 => if (ds.length == n && decide (n ≤ 1000)) = true then (match F ds with | some (ns, es) => .exc ⟨c, ns, es⟩ E1 | none => .stuck) else .stuck
/-- all that is not tracked -/
def lockF (G H : Hp) : Hp := fun b => match G b with | none => H b | some _ => none
theorem lockF_none {G H : Hp} {b : Addr} (h : G b = none) : lockF G H b = H b := by unfold lockF; rw [h]
theorem js_raise {X : Cx} {W : WX} {k : Nat} {x : Str} {e : Expr} {es : List Expr} {p pos pos2 : Pos} {F : List D → Option (List Str × List D)} {fa : Env → R (List D)} (hc : X.calm = true) (tk : L2N.Takes X W) (hX : ExcJ X.prog X.w X.K X.mg X.base k x (e :: es).length F) (hr : Room (k + 1) X.A) (ha : JA X (pw W) (e :: es) fa)
    (hg : Gl X x := by rfl) (hdb : (x == ("__debug__" : Str)) = false := by decide) (he : starEach (e :: es) X.env = (false, eval e X.env) :: starEach es X.env := by rfl) (hpl : (backTo pos (starEach es X.env)).any (·.1) = false := by rfl) :
    JS X W (.Raise (some (.Call (.Name x p) (e :: es) [] pos)) none pos2) (sRaise x (e :: es).length F fa) := by
  obtain ⟨fI, fd, ps, hm, T, iC, tI, hps, hb, F1⟩ := hX
  obtain ⟨ta, pa, sa⟩ := ha
  refine ⟨_, L2N.ps_raise hc tk (pmkN T iC tI F1 hr hb (L2N.passes_call (E := fun _ _ _ => False) tk fun _ _ _ _ h => h.elim) hg hm pa hdb he hpl), fun Φ G H σ E D S hp => ?_⟩
  refine sa.goS S hp fun ds E1 G1 H1 vs _ e1 S1 r1 hp => ?_
  by_cases c : (ds.length == (e :: es).length && decide ((e :: es).length ≤ 1000)) = true
  · rw [if_pos c] at hp
    rw [Bool.and_eq_true] at c
    have c1 : ds.length = (e :: es).length := by simpa using c.1
    have c2 : (e :: es).length ≤ 1000 := of_decide_eq_true c.2
    have hlv : vs.length = (e :: es).length := r1.length.trans c1
    cases hF : F ds with
    | none => rw [hF] at hp; exact hp.elim
    | some r =>
      obtain ⟨ns, fs⟩ := r
      rw [hF] at hp
      have hp : PostX X.K W Φ G1 ⟨x, ns, fs⟩ E1 := hp
      refine ⟨by rw [hlv]; exact c2, fun a ha => ?_⟩
      have ga := S1.gh.back ha
      rw [List.append_nil]
      have fla : ∀ b o, lockF G1 H1 b = some o → H1 b = some o ∧ G1 b = none := fun b o h => by
        unfold lockF at h
        cases hg1 : G1 b with
        | none => rw [hg1] at h; exact ⟨h, rfl⟩
        | some u => rw [hg1] at h; cases h
      refine ⟨by rw [List.length_cons, hlv], a, vs, ⟨lockF G1 H1, Φ.io⟩, G1, ds, rfl, upd_same, ga, (lockF_none ga).trans ha, ?_, r1, fun b h1 h2 h3 h4 => ?_, ?_⟩
      · refine ⟨rfl, fun i s h => by simp at h, S1.gh.trans (Ex.new ha), fun b o h => Ex.new ha b o (fla b o h).1, fun b h => ?_, fun i b l p h => by simp at h, fun i j b b' l l' p h => by simp at h⟩
        cases h5 : lockF G1 H1 b with
        | none => exact absurd h5 h
        | some o => exact (fla b o h5).2
      · have h3' : lockF G1 H1 b = none := h3
        rw [lockF_none h2] at h3'
        rw [upd_ne h1] at h4
        exact h4 h3'
      · show PostN X.K _ G1 _ a _ (F ds) _
        rw [hF]
        intro G' H' d us x1 S2 h1 h2 h3 h4 h5 h6 h7 h8 h9
        have hd1 : H1 d = none := by rw [upd_ne h4] at h3; exact h3
        have kp : ∀ b o, H1 b = some o → G1 b = none → H' b = some o ∧ b ≠ a ∧ b ≠ d ∧ G' b = none := fun b o hb hgb => by
          have hl : lockF G1 H1 b = some o := (lockF_none hgb).trans hb
          exact ⟨S2.fh b o hl, (fun z => by rw [z, ha] at hb; cases hb), (fun z => by rw [z, hd1] at hb; cases hb), S2.fg b (by show lockF G1 H1 b ≠ none; rw [hl]; simp)⟩
        have kk : ∀ b o, H' b = some o → b ≠ a → b ≠ d → L2.upd (del H' a) d (.xd (ns.zip us)) b = some o := fun b o hb n1 n2 => by rw [upd_ne n2, del_ne n1]; exact hb
        refine ⟨rfl, d, ns.zip us, h1, h2, hd1, ?_⟩
        have eg : Ex G1 (L2.upd G' d (.xd (ns.zip us))) := x1.trans (Ex.new h7)
        refine hp (L2.upd G' d (.xd (ns.zip us))) _ σ (.ref (He.ga X.K x)) (some d) eg ⟨S1.len, fun i s hs => ?_, fun b o hb => ?_, fun b o hb => ?_, fun b hb => ?_, fun i s b q q1 qb q2 => ?_, S1.di'⟩ ⟨rfl, d, us, rfl, upd_same, h6, h5.mono (Ex.new h7)⟩
        · obtain ⟨y, y1, y2⟩ := S1.sl i s hs
          refine ⟨y, y1, y2.mono eg fun q b qb e3 => ?_⟩
          subst e3
          obtain ⟨o, z3⟩ := S1.has hs qb y1
          obtain ⟨k1, k2, k3, _⟩ := kp q _ z3 (S1.ow' i s b q hs qb y1).1
          rw [z3]; exact kk q _ k1 k2 k3
        · by_cases hbd : b = d
          · subst hbd; rw [upd_same] at hb ⊢; exact hb
          · rw [upd_ne hbd] at hb
            exact kk b o (S2.gh b o hb) (fun z => by rw [z, h9] at hb; cases hb) hbd
        · have gb := S1.fg b (by rw [hb]; simp)
          obtain ⟨k1, k2, k3, _⟩ := kp b o (S1.fh b o hb) gb
          exact kk b o k1 k2 k3
        · cases h0 : Φ.F b with
          | none => exact absurd h0 hb
          | some o =>
            obtain ⟨k1, k2, k3, k4⟩ := kp b o (S1.fh b o h0) (S1.fg b hb)
            rw [upd_ne k3]; exact k4
        · obtain ⟨w1, w2, w3⟩ := S1.ow' i s b q q1 qb q2
          obtain ⟨o, z3⟩ := S1.has q1 qb q2
          obtain ⟨k1, k2, k3, k4⟩ := kp q _ z3 w1
          exact ⟨by rw [upd_ne k3]; exact k4, w2, w3⟩
  · rw [if_neg c] at hp; exact hp.elim
end J

namespace J
open PySem PySem.Spec PyProof.Rows L2

/-! ### try with clauses, named or not -/
abbrev TSx := Addr → Value → Option Addr → TS
/-- the ends behind a named clause -/
def offE (i : Nat) (D : Ends) : Ends := { nx := fun σ H => D.nx (σ.set i none) H, rt := D.rt, bk := fun σ H => D.bk (σ.set i none) H, ct := fun σ H => D.ct (σ.set i none) H }
def wAll (K : PySem.W.Frag) (Wout : WX) (D : Ends) : List (Value × Option Nat × TSx) → WX
  | [] => Wout
  | (c, none, ts) :: r => fun cls d σ H => ∃ b, PySem.W.exmOne K cls c = some b ∧ (b = true → ∀ a, H a = none → ts a cls d D σ H) ∧ (b = false → wAll K Wout D r cls d σ H)
  | (c, some i, ts) :: r => fun cls d σ H => ∃ b, PySem.W.exmOne K cls c = some b ∧ (b = true → ∀ a, H a = none → ts a cls d (offE i D) (σ.set i (some (.ref a))) H) ∧ (b = false → wAll K Wout D r cls d σ H)
def SuOk (X : Cx) (body : List Stmt) (ts : TSx) : Prop := ∀ (a : Addr) (oe : Obj) (cls : Value) (d : Option Addr) (pn : List (Addr × Obj)), L2N.Zn cls d oe → (∃ vs, oe.data = .fields vs) → PSs (X.suite a ((a, oe) :: pn)) body (ts a cls d)
inductive HdsA (X : Cx) : List ExceptHandler → List (Value × Option Nat × TSx) → Prop
  | nil : HdsA X [] []
  | bare {x : Str} {c : Value} {ts : TSx} {b₀ : Stmt} {su : List Stmt} {q1 q2 : Pos} {hds : List ExceptHandler} {l : List (Value × Option Nat × TSx)} (hc : Names X x c) (hsu : SuOk X (b₀ :: su) ts) (r : HdsA X hds l) : HdsA X (.ExceptHandler (some (.Name x q1)) none (b₀ :: su) q2 :: hds) ((c, none, ts) :: l)
  | named {x n : Str} {i : Nat} {c : Value} {ts : TSx} {b₀ : Stmt} {su : List Stmt} {q1 q2 : Pos} {hds : List ExceptHandler} {l : List (Value × Option Nat × TSx)} (hi : X.N[i]? = some n) (hn : X.env.kindOf n = some .local) (hc : Names X x c) (hsu : SuOk X (b₀ :: su) ts) (r : HdsA X hds l) :
      HdsA X (.ExceptHandler (some (.Name x q1)) (some n) (b₀ :: su) q2 :: hds) ((c, some i, ts) :: l)
section
variable {X : Cx} {body : List Stmt} {hd : ExceptHandler} {hds : List ExceptHandler} {l : List (Value × Option Nat × TSx)} {pos : Pos} {tb : WX → TS} {Wo : WX}
theorem ps_try_all (hs : X.stack = X.env :: X.outer) (hf : X.env.frame = some X.env.locals) (hN : X.N.Nodup) (tk : L2N.Takes X Wo)
    (hb : ∀ (W : WX) (pn : List (Addr × Obj)) (xe : Value → Shared → Prop), L2N.Takes (X.tr pn xe) W → PassesOwn (model X.prog X.w) X.A X.env xe → PSs (X.tr pn xe) body (tb W)) (hh : HdsA X (hd :: hds) l) :
    PS X (.Try body (hd :: hds) [] [] pos) (fun D σ H => tb (wAll X.K Wo D l) D σ H) := by
  refine ⟨fun pins s σ H D I wish => ?_⟩
  have ok := I.ok
  have fr : X.A.frames = some (X.env :: X.outer) := by rw [ok.frames, hs]
  refine wpAny_Try_except ?_
  have taken := hb (wAll X.K Wo D l) (X.pn ++ pins) (fun e s₁ => wpAny (model X.prog X.w) X.A (noteFrame e X.env) (fun _ s₂ => wpAny (model X.prog X.w) X.A (setFlight e none) (fun _ s₃ => wpAny (model X.prog X.w) X.A (handleBy e X.env (hd :: hds)) (SP X pins D) X.xe s₃) X.xe s₂) X.xe s₁)
  refine wpAny_mono ((taken (fun u s' caught => ?_) PassesOwn.looking).run [] s σ H D (I.toTry _) wish) (fun f s1 went => ?_) fun _ _ z => z
  · obtain ⟨a, B, sI, pins', σ1, H1, cls, d, rfl, J0, nb, up, sky, na, os, ag, w⟩ := caught
    have J1 : Inv X pins σ1 H1 sI := J0.ofTry ok
    have sky1 : Sky B (X.env :: X.outer) a (L2N.Zn cls d) X.env.locals s'.heap := by rw [← hs]; exact sky
    show wpAny (model X.prog X.w) X.A (noteFrame (.ref a) X.env) _ _ _
    refine L2N.Sky.land L2N.Zn.steady fr hf sky1 fun g3 fly up3 => ?_
    have J3 : Inv X pins σ1 H1 { s' with heap := g3 } := J1.landed nb fly.1 (up.trans up3) os ag
    obtain ⟨oe, vs, e3, z3, d3⟩ := fly.there
    have ground : a ∉ frs (X.env :: X.outer) := fun hm => by
      obtain ⟨_, o', e', hnf⟩ := fly.2.2.1.mem hm
      rw [e3] at e'; cases e'
      exact hnf _ d3
    have offL : a ≠ X.env.locals := fun z => ground (List.mem_filterMap.mpr ⟨X.env, List.mem_cons_self, by rw [hf, z]⟩)
    have offF : a ∉ X.fs := fun hm => by
      obtain ⟨e, he, q⟩ := List.mem_filterMap.mp hm
      exact ground (List.mem_filterMap.mpr ⟨e, List.mem_cons_of_mem _ he, q⟩)
    have S3 := J3.suite e3 d3 na offL offF
    have run : ∀ {hs' : List ExceptHandler} {l' : List (Value × Option Nat × TSx)}, HdsA X hs' l' → wAll X.K Wo D l' cls d σ1 H1 → wpAny (model X.prog X.w) X.A (handleBy (.ref a) X.env hs') (SP X pins D) X.xe { s' with heap := g3 } := by
      intro hs' l' hk
      induction hk with
      | nil =>
        intro w
        refine wpAny_handleBy_nil ?_
        obtain ⟨m1, m2, m3, oe', vs', T, oT, ts', he', hz', hd', h1', hr'⟩ := id fly
        unfold PySem.passOn
        refine wpAny_bind (wpAny_field he' hd' h1' ?_)
        rw [if_neg (show ¬ ((Value.ref T == Value.none) = true) from by simp)]
        have on : wpAny (model X.prog X.w) X.A (setFlight (.ref a) X.env.frame) (fun _ s4 => wpAny (model X.prog X.w) X.A (throw (.ref a) : Sem Flow) (SP X pins D) X.xe s4) X.xe { s' with heap := g3 } := by
          rw [hf]
          exact HandSPX.setFlight_upZ fly fun g4 held up4 => wpAny_throw (tk _ _ ⟨a, B, sI, pins, σ1, H1, cls, d, rfl, J1, nb, (up.trans up3).trans up4, .inr (.inr (by rw [hs]; exact held)), na, os, ag, w⟩)
        first
          | exact wpAny_bind (wpAny_pure (wpAny_bind on))
          | exact wpAny_bind on
      | @bare x c ts b₀ su q1 q2 hds2 l2 hc hsu r ih =>
        intro w
        obtain ⟨b, hb1, yes, no⟩ := w
        refine wpAny_handleBy_cons (codeAny_handlers_test ?_) (by intro q; cases q)
        have LT : PySem.W.Looks (model X.prog X.w) g3 (typeOf (.ref a)) cls := fun A Q E s k q => wpAny_typeOf_ref (k _ _ e3) (by rw [z3.1]; exact q)
        have LM := PySem.W.exm_one (M := model X.prog X.w) (J3.kIn) LT hb1
        have ask : ∀ {Q : Value → Shared → Prop} {E : Value → Shared → Prop}, Q c { s' with heap := g3 } → wpAny (model X.prog X.w) (X.A.mark (some (.ref a))) (eval (.Name x q1) X.env) Q E { s' with heap := g3 } := fun {Q E} q => by
          obtain ⟨hg, hdb, hm | ⟨hm, hv, hnn⟩⟩ := hc
          · exact ld_glob (X := X.suite a ((a, oe) :: (X.pn ++ pins))) S3 hg hm q hdb
          · exact ld_blt (X := X.suite a ((a, oe) :: (X.pn ++ pins))) S3 hg hm hv q hnn hdb
        refine ask (LM.here ?_)
        cases b with
        | false =>
          show wpAny _ X.A (handleBy (.ref a) X.env hds2) _ _ _
          exact ih (no rfl)
        | true =>
          refine codeAny_handlers_suite ?_
          refine HandSPX.lands_againZ fly fun g4 fly4 up4 => ?_
          have J4 : Inv X pins σ1 H1 { s' with heap := g4 } := J1.landed nb fly4.1 ((up.trans up3).trans up4) os ag
          obtain ⟨oe4, vs4, e4, z4, d4⟩ := fly4.there
          have S4 := J4.suite e4 d4 na offL offF
          refine wpAny_mono ((hsu a oe4 cls d (X.pn ++ pins) z4 ⟨_, d4⟩).run [] _ _ H1 _ S4 (yes rfl a na)) (fun f s6 hsp => ?_) (fun _ _ z => False.elim z)
          cases f with
          | next => obtain ⟨σ6, H6, S6, q6⟩ := hsp; exact ⟨_, _, S6.unsuite ok, q6⟩
          | brk => obtain ⟨σ6, H6, S6, q6⟩ := hsp; exact ⟨_, _, S6.unsuite ok, q6⟩
          | cont => obtain ⟨σ6, H6, S6, q6⟩ := hsp; exact ⟨_, _, S6.unsuite ok, q6⟩
          | ret u => obtain ⟨v6, σ6, H6, S6, r6, q6⟩ := hsp; exact ⟨_, _, _, S6.unsuite ok, r6, q6⟩
      | @named x n i c ts b₀ su q1 q2 hds2 l2 hi hn hc hsu r ih =>
        intro w
        obtain ⟨b, hb1, yes, no⟩ := w
        refine wpAny_handleBy_cons (codeAny_handlers_test ?_) (by intro q; cases q)
        have LT : PySem.W.Looks (model X.prog X.w) g3 (typeOf (.ref a)) cls := fun A Q E s k q => wpAny_typeOf_ref (k _ _ e3) (by rw [z3.1]; exact q)
        have LM := PySem.W.exm_one (M := model X.prog X.w) (J3.kIn) LT hb1
        have ask : ∀ {Q : Value → Shared → Prop} {E : Value → Shared → Prop}, Q c { s' with heap := g3 } → wpAny (model X.prog X.w) (X.A.mark (some (.ref a))) (eval (.Name x q1) X.env) Q E { s' with heap := g3 } := fun {Q E} q => by
          obtain ⟨hg, hdb, hm | ⟨hm, hv, hnn⟩⟩ := hc
          · exact ld_glob (X := X.suite a ((a, oe) :: (X.pn ++ pins))) S3 hg hm q hdb
          · exact ld_blt (X := X.suite a ((a, oe) :: (X.pn ++ pins))) S3 hg hm hv q hnn hdb
        refine ask (LM.here ?_)
        cases b with
        | false =>
          show wpAny _ X.A (handleBy (.ref a) X.env hds2) _ _ _
          exact ih (no rfl)
        | true =>
          refine codeAny_handlers_suite_as ?_
          refine HandSPX.lands_againZ fly fun g4 fly4 up4 => ?_
          have J4 : Inv X pins σ1 H1 { s' with heap := g4 } := J1.landed nb fly4.1 ((up.trans up3).trans up4) os ag
          obtain ⟨oe4, vs4, e4, z4, d4⟩ := fly4.there
          have S4 := J4.suite e4 d4 na offL offF
          refine store_ok (X := X.suite a ((a, oe4) :: (X.pn ++ pins))) (v := .ref a) S4 hN hi (.inl hn) rfl (fun s5 S5 => ?_) (.inr hn)
          refine wpAny_mono ((hsu a oe4 cls d (X.pn ++ pins) z4 ⟨_, d4⟩).run [] s5 _ H1 _ S5 (yes rfl a na)) (fun f s6 hsp => ?_) (fun _ _ z => False.elim z)
          have off : ∀ {σ6 : St} {H6 : Hp} {Q : Shared → Prop}, Inv (X.suite a ((a, oe4) :: (X.pn ++ pins))) [] σ6 H6 s6 → (∀ s7, Inv X pins (σ6.set i none) H6 s7 → Q s7) → wpAny (model X.prog X.w) X.A (do bindName X.env n .none; unbindBehindTheSuite X.env n q2) (fun _ s7 => Q s7) X.xe s6 :=
            fun {σ6 H6 Q} S6 hq => gone_ok (S6.unsuite ok) hN hi hn hq
          cases f with
          | next => obtain ⟨σ6, H6, S6, q6⟩ := hsp; exact off S6 fun s7 J7 => ⟨_, _, J7, q6⟩
          | brk => obtain ⟨σ6, H6, S6, q6⟩ := hsp; exact off S6 fun s7 J7 => ⟨_, _, J7, q6⟩
          | cont => obtain ⟨σ6, H6, S6, q6⟩ := hsp; exact off S6 fun s7 J7 => ⟨_, _, J7, q6⟩
          | ret u => obtain ⟨v6, σ6, H6, S6, r6, q6⟩ := hsp; exact off S6 fun s7 J7 => ⟨_, _, _, J7, r6, q6⟩
    exact run hh w
  · cases f with
    | next => obtain ⟨σ', H', J', q⟩ := went; exact wpAny_execs_nil ⟨σ', H', J'.ofTry ok, q⟩
    | brk => obtain ⟨σ', H', J', q⟩ := went; exact ⟨σ', H', J'.ofTry ok, q⟩
    | cont => obtain ⟨σ', H', J', q⟩ := went; exact ⟨σ', H', J'.ofTry ok, q⟩
    | ret u => obtain ⟨v, σ', H', J', r, q⟩ := went; exact ⟨v, σ', H', J'.ofTry ok, r, q⟩
end
end J

namespace J
open PySem PySem.Spec PyProof.Rows L2

def canS (K : PySem.W.Frag) (W : WX) (f : Env → RS) : TS := fun D σ H => ∃ Φ G E, Sat K Φ G H σ E ∧ PostS K W Φ G σ (f E) D
theorem JSs.can {X : Cx} {W : WX} {s : List Stmt} {f : Env → RS} (h : JSs X W s f) : PSs X s (canS X.K W f) := by
  obtain ⟨t, h1, h2⟩ := h
  exact ⟨fun pins s σ H D I ⟨Φ, G, E, S, hp⟩ => h1.run pins s σ H D I (h2 Φ G H σ E D S hp)⟩

/-! ### what is known in an except suite -/
def WS (K : PySem.W.Frag) (oi : Option Nat) (a : Addr) (cls : Value) (d : Option Addr) (x : Exn) : WJ := ⟨fun _ _ _ _ => False, fun G σ => (∀ i, oi = some i → σ[i]? = some (some (.ref a))) ∧ XRp K G cls d x, fun G G' σ e h => ⟨h.1, h.2.mono e⟩⟩
def PostU (K : PySem.W.Frag) (Φ : Fr) (G : Hp) (σ : St) (r : RS) (D : Ends) : Prop := match r with
  | .nx E' => ∀ G' H', Ex G G' → Sat K Φ G' H' σ E' → D.nx σ H'
  | .rt (.v d) E' => ∀ G' H' v, Ex G G' → Sat K Φ G' H' σ E' → Rp K G' v d → D.rt v H'
  | .rt (.l l) E' => ∀ G' H' v, Ex G G' → Sat K Φ G' H' σ E' → relL K Φ σ G' H' E' l v → D.rt v H'
  | .bk E' => ∀ G' H', Ex G G' → Sat K Φ G' H' σ E' → D.bk σ H'
  | .ct E' => ∀ G' H', Ex G G' → Sat K Φ G' H' σ E' → D.ct σ H'
  | .exc _ _ => False
  | .stuck => False
theorem PostU.mono {K : PySem.W.Frag} {Φ : Fr} {G G0 : Hp} {σ : St} {r : RS} {D : Ends} (e : Ex G G0) (h : PostU K Φ G σ r D) : PostU K Φ G0 σ r D := by
  cases r with
  | nx E' => exact fun G' H' e' S => h G' H' (e.trans e') S
  | rt rv E' =>
    cases rv with
    | v d => exact fun G' H' v e' S r => h G' H' v (e.trans e') S r
    | l d => exact fun G' H' v e' S r => h G' H' v (e.trans e') S r
  | bk E' => exact fun G' H' e' S => h G' H' (e.trans e') S
  | ct E' => exact fun G' H' e' S => h G' H' (e.trans e') S
  | exc x E' => exact h
  | stuck => exact h
def SndU (K : PySem.W.Frag) (W : WJ) (t : TS) (f : Env → RS) : Prop := (∀ c d σ H, ¬ W.w c d σ H) → ∀ Φ G H σ E D, SatC K W Φ G H σ E → PostU K Φ G σ (f E) D → t D σ H
def JU (X : Cx) (W : WJ) (s : List Stmt) (f : Env → RS) : Prop := ∃ t, PSs X s t ∧ SndU X.K W t f
def JU1 (X : Cx) (W : WJ) (s : Stmt) (f : Env → RS) : Prop := ∃ t, PS X s t ∧ SndU X.K W t f
def dropX (r : RS) : RS := match r with | .exc _ _ => .stuck | r => r
section
variable {X : Cx} {W : WJ} {e c : Expr} {pos : Pos} {fa : Env → R D} {f g : Env → RS} {st : Stmt} {sts sa sb : List Stmt}
theorem Snd.goU {α β : Type} {K : PySem.W.Frag} {rel : Rel α β} {t : St → Hp → (β → Hp → Prop) → Prop} {f : Env → R α} (h : Snd K W rel t f) {Φ : Fr} {G H : Hp} {σ : St} {E : Env} {k : α → Env → RS} {D : Ends} {Q1 : β → Hp → Prop}
    (S : SatC K W Φ G H σ E) (hp : PostU K Φ G σ ((f E).bindS k) D) (hk : ∀ a E' G' H' b, f E = .ok a E' → Ex G G' → SatC K W Φ G' H' σ E' → rel Φ σ G' H' E' a b → PostU K Φ G' σ (k a E') D → Q1 b H') : t σ H Q1 := by
  refine h Φ G H σ E Q1 S ?_
  cases e : f E with
  | ok a E' =>
    rw [e] at hp
    exact fun G' H' b e' S' q => hk a E' G' H' b e e' ⟨S', W.mono _ _ _ e' S.c⟩ q (PostU.mono e' hp)
  | exc x E' => rw [e] at hp; exact hp.elim
  | stuck => rw [e] at hp; exact hp
theorem ju_nil : JU X W [] sNil := ⟨_, pss_nil, fun _ Φ G H σ E D S hp => hp G H (Ex.refl G) S⟩
theorem ju_cons (h : JU1 X W st f) (h' : JU X W sts g) : JU X W (st :: sts) (sSeq f g) := by
  obtain ⟨t, h1, h2⟩ := h
  obtain ⟨u, h3, h4⟩ := h'
  refine ⟨_, pss_cons h1 h3, fun hw Φ G H σ E D S hp => ?_⟩
  refine h2 hw Φ G H σ E { D with nx := u D } S ?_
  have hp' : PostU X.K Φ G σ ((f E).seq g) D := hp
  cases e : f E with
  | nx E' => rw [e] at hp'; exact fun G' H' e' S' => h4 hw Φ G' H' σ E' D ⟨S', W.mono _ _ _ e' S.c⟩ (PostU.mono e' hp')
  | rt rv E' => rw [e] at hp'; cases rv with | v d => exact hp' | l d => exact hp'
  | bk E' => rw [e] at hp'; exact hp'
  | ct E' => rw [e] at hp'; exact hp'
  | exc x E' => rw [e] at hp'; exact hp'
  | stuck => rw [e] at hp'; exact hp'
theorem ju_ret (h : JE X W e fa) : JU1 X W (.Return (some e) pos) (sRet fa) := by
  obtain ⟨te, h1, h2⟩ := h
  refine ⟨_, ps_ret h1, fun hw Φ G H σ E D S hp => ?_⟩
  exact h2.goU S hp fun a E' G' H' v _ e' S' r hp => hp G' H' v (Ex.refl G') S' r
theorem ju_retN : JU1 X W (.Return none pos) sRetN := ⟨_, ps_retN, fun hw Φ G H σ E D S hp => hp G H .non (Ex.refl G) S .non⟩
theorem ju_pass : JU1 X W (.Pass pos) sNil := ⟨_, ps_pass, fun hw Φ G H σ E D S hp => hp G H (Ex.refl G) S⟩
theorem ju_break : JU1 X W (.Break pos) (fun E => .bk E) := ⟨_, ps_break, fun hw Φ G H σ E D S hp => hp G H (Ex.refl G) S⟩
theorem ju_continue : JU1 X W (.Continue pos) (fun E => .ct E) := ⟨_, ps_continue, fun hw Φ G H σ E D S hp => hp G H (Ex.refl G) S⟩
theorem ju_if {t : Env → R Bool} (ht : JT X W c t) (ha : JU X W sa f) (hb : JU X W sb g) : JU1 X W (.If c sa sb pos) (sIf t f g) := by
  obtain ⟨tt, h1, h2⟩ := ht
  obtain ⟨ta, h3, h4⟩ := ha
  obtain ⟨tb, h5, h6⟩ := hb
  refine ⟨_, ps_if h1 h3 h5, fun hw Φ G H σ E D S hp => ?_⟩
  refine h2.goU S hp fun k E' G' H' v _ e' S' r hp => ?_
  subst r
  cases k with
  | true => exact iteT (h4 hw Φ G' H' σ E' D S' hp)
  | false => exact iteF (h6 hw Φ G' H' σ E' D S' hp)
end

/-! ### the statement -/
structure Cl where
  m : Exn → Option Bool
  i : Option Nat
  s : Exn → Env → RS
def inE : Option Nat → Env → Option Env
  | none, E => some E
  | some i, E => if i < E.length then some (E.set i .no) else none
def outE : Option Nat → RS → RS
  | none, r => r
  | some i, .nx E => .nx (E.set i .no)
  | some i, .bk E => .bk (E.set i .no)
  | some i, .ct E => .ct (E.set i .no)
  | some _, r => r
def clD : List Cl → Exn → Env → RS
  | [], x, E => .exc x E
  | h :: r, x, E => match h.m x with
    | none => .stuck
    | some false => clD r x E
    | some true => (match inE h.i E with
      | none => .stuck
      | some E' => outE h.i (dropX (h.s x E')))
def sTry (fb : Env → RS) (hs : List Cl) : Env → RS := fun E => match fb E with
  | .exc x E' => clD hs x E'
  | r => r
def tsU (K : PySem.W.Frag) (h : Cl) : TSx := fun a cls d D σ H => ∃ x Φ G E, SatC K (WS K h.i a cls d x) Φ G H σ E ∧ PostU K Φ G σ (h.s x E) D
/-- a suite, whatever exception it holds -/
def JSu (X : Cx) (h : Cl) (body : List Stmt) : Prop := ∀ (a : Addr) (oe : Obj) (cls : Value) (d : Option Addr) (pn : List (Addr × Obj)) (x : Exn), L2N.Zn cls d oe → (∃ vs, oe.data = .fields vs) → JU (X.suite a ((a, oe) :: pn)) (WS X.K h.i a cls d x) body (h.s x)
theorem JSu.ok {X : Cx} {h : Cl} {body : List Stmt} (hj : JSu X h body) : SuOk X body (tsU X.K h) := fun a oe cls d pn hz hd => by
  refine ⟨fun pins s σ H D I w => ?_⟩
  obtain ⟨x, Φ, G, E, S, hp⟩ := w
  obtain ⟨t, h1, h2⟩ := hj a oe cls d pn x hz hd
  exact h1.run pins s σ H D I (h2 (fun _ _ _ _ h => h) Φ G H σ E D S hp)
/-- the clauses, as the text has them -/
inductive JHs (X : Cx) : List ExceptHandler → List Cl → Prop
  | nil : JHs X [] []
  | bare {x : Str} {c : Value} {h : Cl} {b₀ : Stmt} {su : List Stmt} {q1 q2 : Pos} {hds : List ExceptHandler} {l : List Cl} (hc : Names X x c) (hm : ∀ y b, h.m y = some b → PySem.W.exmOne X.K (.ref (He.ga X.K y.c)) c = some b) (hi : h.i = none) (hsu : JSu X h (b₀ :: su)) (r : JHs X hds l) : JHs X (.ExceptHandler (some (.Name x q1)) none (b₀ :: su) q2 :: hds) (h :: l)
  | named {x n : Str} {i : Nat} {c : Value} {h : Cl} {b₀ : Stmt} {su : List Stmt} {q1 q2 : Pos} {hds : List ExceptHandler} {l : List Cl} (hx : X.N[i]? = some n) (hn : X.env.kindOf n = some .local) (hc : Names X x c) (hm : ∀ y b, h.m y = some b → PySem.W.exmOne X.K (.ref (He.ga X.K y.c)) c = some b) (hi : h.i = some i) (hsu : JSu X h (b₀ :: su)) (r : JHs X hds l) :
      JHs X (.ExceptHandler (some (.Name x q1)) (some n) (b₀ :: su) q2 :: hds) (h :: l)
theorem JHs.ok {X : Cx} {hds : List ExceptHandler} {l : List Cl} (h : JHs X hds l) : ∃ L, HdsA X hds L ∧ ∀ (Wo : WX) (D : Ends) Φ G σ x E, PostS X.K Wo Φ G σ (clD l x E) D → PostX X.K (wAll X.K Wo D L) Φ G x E := by
  induction h with
  | nil => exact ⟨[], .nil, fun Wo D Φ G σ x E hp => hp⟩
  | @bare x c h b₀ su q1 q2 hds l hc hm hi hsu r ih =>
    obtain ⟨L, h1, h2⟩ := ih
    refine ⟨(c, none, tsU X.K h) :: L, .bare hc hsu.ok h1, fun Wo D Φ G σ y E hp G' H' σ' cl d e S rx => ?_⟩
    simp only [clD] at hp
    cases hmx : h.m y with
    | none => rw [hmx] at hp; exact hp.elim
    | some b =>
      have hcl := rx.cls
      refine ⟨b, by rw [hcl]; exact hm y b hmx, fun hb a ha => ?_, fun hb => ?_⟩
      · subst hb
        rw [hmx, hi] at hp
        have hp : PostS X.K Wo Φ G σ (dropX (h.s y E)) D := hp
        refine ⟨y, Φ, G', E, ⟨S, fun i z => (by rw [hi] at z; cases z), rx⟩, ?_⟩
        cases hs : h.s y E with
        | nx E' => rw [hs] at hp; exact fun G2 H2 e2 S2 => hp G2 H2 σ' (e.trans e2) S2
        | rt rv E' =>
          rw [hs] at hp
          cases rv with
          | v d => exact fun G2 H2 v e2 S2 r => hp G2 H2 σ' v (e.trans e2) S2 r
          | l d => exact fun G2 H2 v e2 S2 r => hp G2 H2 σ' v (e.trans e2) S2 r
        | bk E' => rw [hs] at hp; exact fun G2 H2 e2 S2 => hp G2 H2 σ' (e.trans e2) S2
        | ct E' => rw [hs] at hp; exact fun G2 H2 e2 S2 => hp G2 H2 σ' (e.trans e2) S2
        | exc x E' => rw [hs] at hp; exact hp
        | stuck => rw [hs] at hp; exact hp
      · subst hb
        rw [hmx] at hp
        exact h2 Wo D Φ G σ y E hp G' H' σ' cl d e S rx
  | @named x n i c h b₀ su q1 q2 hds l hx hn hc hm hi hsu r ih =>
    obtain ⟨L, h1, h2⟩ := ih
    refine ⟨(c, some i, tsU X.K h) :: L, .named hx hn hc hsu.ok h1, fun Wo D Φ G σ y E hp G' H' σ' cl d e S rx => ?_⟩
    simp only [clD] at hp
    cases hmx : h.m y with
    | none => rw [hmx] at hp; exact hp.elim
    | some b =>
      have hcl := rx.cls
      refine ⟨b, by rw [hcl]; exact hm y b hmx, fun hb a ha => ?_, fun hb => ?_⟩
      · subst hb
        rw [hmx, hi] at hp
        simp only [inE] at hp
        by_cases hlt : i < E.length
        · rw [if_pos hlt] at hp
          have hp : PostS X.K Wo Φ G σ (outE (some i) (dropX (h.s y (E.set i .no)))) D := hp
          have S3 : Sat X.K Φ G' H' (σ'.set i (some (.ref a))) (E.set i .no) := S.setN
          refine ⟨y, Φ, G', E.set i .no, ⟨S3, fun j z => ?_, rx⟩, ?_⟩
          · rw [hi] at z; cases z
            exact List.getElem?_set_self (by rw [S.len]; exact hlt)
          · cases hs : h.s y (E.set i .no) with
            | nx E' => rw [hs] at hp; exact fun G2 H2 e2 S2 => hp G2 H2 _ (e.trans e2) S2.setN
            | rt rv E' =>
              rw [hs] at hp
              cases rv with
              | v d => exact fun G2 H2 v e2 S2 r => hp G2 H2 _ v (e.trans e2) S2 r
              | l d => exact fun G2 H2 v e2 S2 r => hp G2 H2 _ v (e.trans e2) S2 r
            | bk E' => rw [hs] at hp; exact fun G2 H2 e2 S2 => hp G2 H2 _ (e.trans e2) S2.setN
            | ct E' => rw [hs] at hp; exact fun G2 H2 e2 S2 => hp G2 H2 _ (e.trans e2) S2.setN
            | exc x E' => rw [hs] at hp; exact hp
            | stuck => rw [hs] at hp; exact hp
        · rw [if_neg hlt] at hp; exact hp.elim
      · subst hb
        rw [hmx] at hp
        exact h2 Wo D Φ G σ y E hp G' H' σ' cl d e S rx
theorem js_try {X : Cx} {W : WX} {body : List Stmt} {hd : ExceptHandler} {hds : List ExceptHandler} {l : List Cl} {pos : Pos} {fb : Env → RS} (hs : X.stack = X.env :: X.outer) (hf : X.env.frame = some X.env.locals) (hN : X.N.Nodup) (tk : L2N.Takes X W)
    (hb : ∀ (W : WX) (pn : List (Addr × Obj)) (xe : Value → Shared → Prop), L2N.Takes (X.tr pn xe) W → PassesOwn (model X.prog X.w) X.A X.env xe → JSs (X.tr pn xe) W body fb) (hh : JHs X (hd :: hds) l) : JS X W (.Try body (hd :: hds) [] [] pos) (sTry fb l) := by
  obtain ⟨L, h1, h2⟩ := hh.ok
  refine ⟨_, ps_try_all hs hf hN tk (tb := fun W => canS X.K W fb) (fun W pn xe tk hp => (hb W pn xe tk hp).can) h1, fun Φ G H σ E D S hp => ?_⟩
  refine ⟨Φ, G, E, S, ?_⟩
  unfold sTry at hp
  cases hfe : fb E with
  | nx E' => rw [hfe] at hp; exact hp
  | rt rv E' => rw [hfe] at hp; cases rv with | v d => exact hp | l d => exact hp
  | bk E' => rw [hfe] at hp; exact hp
  | ct E' => rw [hfe] at hp; exact hp
  | exc x E' => rw [hfe] at hp; exact h2 W D Φ G σ x E' hp
  | stuck => rw [hfe] at hp; exact hp

/-! ### in a suite: fields, isinstance -/
section
variable {X : Cx} {a : Addr} {oe : Obj} {cls : Value} {d : Option Addr} {pn : List (Addr × Obj)} {x : Exn} {pos : Pos}
def fXf (okc : Str → Bool) (x : Exn) (f : Str) : Env → R D := fun E => if okc x.c = true then (match (x.ns.zip x.ds).lookup f with
  | some v => .ok v E
  | none => .stuck) else .stuck
theorem RpA.look {K : PySem.W.Frag} {G : Hp} {f : Str} : ∀ {ns : List Str} {vs : List V} {ds : List D} {v : D}, RpA K G vs ds → (ns.zip ds).lookup f = some v → ∃ u, (ns.zip vs).lookup f = some u ∧ Rp K G u v
  | [], _, _, _, _, h => by simp at h
  | n :: ns, _, [], _, r, h => by simp at h
  | n :: ns, _, y :: ds, v, r, h => by
    cases r with
    | @cons w ws _ _ r1 r2 =>
      rw [List.zip_cons_cons, List.lookup_cons] at h ⊢
      split at h
      · cases h; exact ⟨w, rfl, r1⟩
      · exact r2.look h
theorem j_stuck {X : Cx} {W : WJ} {e : Expr} : JE X W e (fun _ => .stuck) := ⟨fun _ _ _ => False, ⟨fun pins s σ H Q I h => h.elim⟩, fun Φ G H σ E Q S hp => hp⟩
theorem j_xf (okc : Str → Bool) {n f : Str} {i : Nat} {p2 : Pos} (hz : L2N.Zn cls d oe) (hd : ∃ vs, oe.data = .fields vs) (hk : ∀ c, okc c = true → XfC X.K (He.ga X.K c) ∧ PySem.W.findIn X.K (.ref (He.ga X.K c)) f = some none) (hN : X.N[i]? = some n := by rfl) (hv : Vis X.env.scope n := by first | exact Or.inl rfl | exact Or.inr (Or.inl rfl) | exact Or.inr (Or.inr rfl)) (hdb : (n == ("__debug__" : Str)) = false := by decide)
    (hcd : (n == ("__classdict__" : Str)) = false := by decide) (hb : attributeBase (.Name n p2) f X.env (eval (.Name n p2) X.env) = eval (.Name n p2) X.env := by rfl) :
    JE (X.suite a ((a, oe) :: pn)) (WS X.K (some i) a cls d x) (.Attribute (.Name n p2) f pos) (fXf okc x f) := by
  by_cases c : okc x.c = true
  · obtain ⟨T, hno⟩ := hk x.c c
    refine ⟨_, pe_xf T hno hz.zc hd (pe_var (X := X.suite a ((a, oe) :: pn)) hN hv hdb hcd) hb, fun Φ G H σ E Q S hp => ?_⟩
    unfold fXf at hp
    rw [if_pos c] at hp
    obtain ⟨s1, s2⟩ := S.c
    obtain ⟨dd, vs, rfl, h1, h2, h3⟩ := s2.dd
    cases hl : (x.ns.zip x.ds).lookup f with
    | none => rw [hl] at hp; exact hp.elim
    | some v =>
      rw [hl] at hp
      obtain ⟨u, hu, ru⟩ := h3.look hl
      exact ⟨.ref a, s1 i rfl, rfl, s2.cls, dd, _, u, rfl, S.gh _ _ h1, hu, hp G H u (Ex.refl G) S ru⟩
  · have e : fXf okc x f = fun _ => R.stuck := by funext E; unfold fXf; rw [if_neg c]
    rw [e]; exact j_stuck
end
end J

namespace J
open PySem PySem.Spec PyProof.Rows L2

/-! ### isinstance of a caught exception that has a dict -/
section
open PySem.W PySem.Calls
variable {prog : Program} {w : World} {A : Around} {E : Value → Shared → Prop} {s : Shared} {K : Frag} {x C : Addr} {ox od : Obj}
theorem cls_of_exc {Q : Option Value → Shared → Prop} (T : ExcC K C) (X : K.In s.heap) (I : InstAt s.heap x ox C (some od)) (fin : Q (some (.ref C)) { s with toks := s.toks + 1 }) : wpAny (model prog w) A (getAttr? (.ref x) "__class__") Q E s := by
  have own : findObj K C (some od) "__class__" = some (.bind (.builtin "getset_descriptor.__get__") (.builtin "object.__class__")) := findObj_data (by obtain ⟨cd, hc, _⟩ := any_some T.hd; rw [hc]; rfl) T.ha T.hn T.ht
  obtain ⟨hp, g, d, t, os⟩ := s
  have M0 := I.type (M := model prog w)
  have M1 := looks_findIn (M := model prog w) X T.hg
  have M2 := looks_findIn (M := model prog w) X T.hk
  have M3 := looks_find (M := model prog w) X I own
  have below : Looks (model prog w) hp (isInstance (.ref x) (.type "BaseException")) true := M0.andThen (looks_subIn X T.hs)
  have b1 : (false && onTheHeap (Value.builtin "BaseException.__getattribute__")) = false := rfl
  have b2 : (onTheHeap (Value.ref C) && Value.builtin "BaseException.__getattribute__" == Value.builtin "object.__getattribute__") = false := by
    rw [show (Value.builtin "BaseException.__getattribute__" == Value.builtin "object.__getattribute__") = false by decide +kernel]; rfl
  unfold getAttr? getAttrBy? getAttrBy
  refine wpAny_bind (wpAny_mkText (wpAny_bind (wpAny_attempt (wpAny_holding (wpAny_bind (M0.at (wpAny_bind (M1.at ?_))))))))
  show wpAny _ _ (if (onTheHeap (Value.ref C) && Value.builtin "BaseException.__getattribute__" == Value.builtin "object.__getattribute__") = true then _ else _) _ _ _
  rw [b2, if_neg Bool.false_ne_true]
  unfold getAttrByItsOwn hookBefore
  refine wpAny_bind ?_
  rw [if_pos (show onTheHeap (Value.ref C) = true from rfl)]
  refine M2.at ?_
  refine wpAny_bind (wpAny_attempt (wpAny_holding ?_))
  unfold callGetattribute
  rw [b1, if_neg Bool.false_ne_true]
  unfold boundAndCalled
  rw [PySem.F.excAttr_ValueError.ga.bind (.ref x)]
  refine wpAny_bind (wpAny_pure ?_)
  show wpAny _ _ (call (.builtin "BaseException.__getattribute__") [.ref x, .str "__class__" t]) _ _ _
  refine wpAny_call (codeAny_call_builtin PySem.F.excAttr_ValueError.ga.plain PySem.F.entry_bexc_ga ?_)
  refine @check_slot (model prog w) _ _ ⟨hp, g, d, t + 1, os⟩ "BaseException.__getattribute__" "BaseException" "__getattribute__" (.ref x) [.str "__class__" t] [] _ (by decide +kernel) (by decide +kernel) below (PySem.F.args_bexc_ga (.ref x) (.str "__class__" t)) ?_
  unfold Builtin.«object.__getattribute__»
  refine wpAny_bind (wpAny_of_eq (a := ((Value.ref x : Value), [Value.str "__class__" t])) (by first | rfl | (simp only [slotArgs]; rfl)) ?_)
  refine wpAny_bind (wpAny_pure (wpAny_bind (M0.at (wpAny_bind (M3.at ?_)))))
  show wpAny _ _ (holding [Value.builtin "object.__class__"] (call (.builtin "getset_descriptor.__get__") [.builtin "object.__class__", .ref x, .ref C]) >>= ret) _ _ _
  refine wpAny_bind (wpAny_holding (wpAny_call (class_get (s := ⟨hp, g, d, t + 1, os⟩) (ox := ox) (od := some od) X I T.hm ?_)))
  refine wpAny_pure ?_
  show wpAny _ _ (handedOut (.ref C)) _ _ _
  rw [handedOut_of (v := .ref C) rfl]
  first
    | exact wpAny_pure (wpAny_pure fin)
    | exact wpAny_pure fin
    | exact wpAny_pure (wpAny_bind (wpAny_pure (wpAny_pure fin)))
theorem kitx_excD (T : ExcC K C) : KitX K (.ref x) (.ref C) (fun h => InstAt h x ox C (some od)) := by
  have N := handS_kitx_exc (x := x) (ox := ox) T.hg T.hk T.hs T.hd T.ha T.hn T.ht T.hm
  refine ⟨fun M h X I => I.type, fun M h X I A' Q' E' s' k q => ?_, N.ne, fun X I k => cls_of_exc T X I k⟩
  · obtain ⟨cdD, hcD, _⟩ := any_some T.hd
    unfold clsIn at hcD
    split at hcD
    · rename_i c' d' cd' sl' ho
      unfold isType loadHead
      exact wpAny_bind (wpAny_loadPart (k _ _ (X _ _ ho)) (wpAny_pure q))
    · cases hcD
end
/-- isinstance(e, c) of the caught exception -/
def rIsD (K : PySem.W.Frag) (C a : Addr) (d : Option Addr) : List V → Hp → VK → Prop := fun xs H Q => ∃ (c : V) (cv : Value) (b : Bool) (dd : Addr) (fs : List (Str × V)), xs = [.ref a, c] ∧ ClsV c cv ∧ PySem.W.kitOne K (.ref C) cv = some b ∧ d = some dd ∧ H dd = some (.xd fs) ∧ Q (.bl b) H
theorem call_isD {X : Cx} {a C : Addr} {oe : Obj} {d : Option Addr} {pn : List (Addr × Obj)} (T : ExcC X.K C) (hz : Zc (.ref C) d oe) (hf : ∃ vs, oe.data = .fields vs) : CallR (X.suite a ((a, oe) :: pn)) (.builtin "isinstance") (rIsD X.K C a d) := by
  intro pins s σ H xs us Q I r h
  obtain ⟨c, cv, b, dd, fs, rfl, hcv, e, rfl, ed, q⟩ := h
  obtain ⟨u1, u2, rfl, r1, r2⟩ := vals2 r
  cases (show u1 = Value.ref a from r1)
  have e2 := hcv.eq r2
  subst e2
  obtain ⟨hget, _⟩ := I.pin (a, oe) (List.mem_append_left _ List.mem_cons_self)
  obtain ⟨mA, hns, hr⟩ := (show ObjOk X.prog X.w H s.heap dd (.xd fs) from I.hok dd _ ed)
  obtain ⟨od, ho, hl⟩ := lookIn_ns hns
  have J : PySem.W.InstAt s.heap a oe C (some od) := ⟨hget, hz.1, by obtain ⟨vs, hv⟩ := hf; unfold PySem.W.notCls; rw [hv] <;> rfl, by rw [hz.2]; exact ho⟩
  exact PySem.W.kia_one (kitx_excD T) I.kIn J e (fun z => nomatch z) fun tk => ⟨.bl b, H, I.tok tk, rfl, q⟩
def rIsDT (K : PySem.W.Frag) (C a : Addr) (d : Option Addr) : List V → Hp → VK → Prop := fun xs H Q => ∃ (tp : Addr) (cs : List V) (cvs : List Value) (b : Bool) (dd : Addr) (fs : List (Str × V)), xs = [.ref a, .ref tp] ∧ H tp = some (.tup cs) ∧ Paired ClsV cs cvs ∧ PySem.W.kitAny K (.ref C) cvs = some b ∧ d = some dd ∧ H dd = some (.xd fs) ∧ Q (.bl b) H
theorem call_isDT {X : Cx} {a C : Addr} {oe : Obj} {d : Option Addr} {pn : List (Addr × Obj)} (T : ExcC X.K C) (hz : Zc (.ref C) d oe) (hf : ∃ vs, oe.data = .fields vs) : CallR (X.suite a ((a, oe) :: pn)) (.builtin "isinstance") (rIsDT X.K C a d) := by
  intro pins s σ H xs us Q I r h
  obtain ⟨tp, cs, cvs, b, dd, fs, rfl, hT, hcv, e, rfl, ed, q⟩ := h
  obtain ⟨u1, u2, rfl, r1, r2⟩ := vals2 r
  cases (show u1 = Value.ref a from r1)
  cases (show u2 = Value.ref tp from r2)
  obtain ⟨hget, _⟩ := I.pin (a, oe) (List.mem_append_left _ List.mem_cons_self)
  obtain ⟨mA, hns, hr⟩ := (show ObjOk X.prog X.w H s.heap dd (.xd fs) from I.hok dd _ ed)
  obtain ⟨od, ho, hl⟩ := lookIn_ns hns
  have J : PySem.W.InstAt s.heap a oe C (some od) := ⟨hget, hz.1, by obtain ⟨vs, hv⟩ := hf; unfold PySem.W.notCls; rw [hv] <;> rfl, by rw [hz.2]; exact ho⟩
  obtain ⟨_, its, rv, o, h1, h2, n, h3⟩ := (show ObjOk X.prog X.w H s.heap tp (.tup cs) from I.hok tp _ hT)
  have e3 := ClsV.all hcv rv
  subst e3
  obtain ⟨oc, od', dt, sl⟩ := o
  simp only at h2 h3
  subst h2 h3
  exact PySem.W.kia_tup (kitx_excD T) I.kIn J h1 e (fun z => nomatch z) fun tk => ⟨.bl b, H, I.tok tk, rfl, q⟩
end J

namespace J
open PySem PySem.Spec PyProof.Rows L2

/-! ### classes named one after the other -/
def JCs (X : Cx) (es : List Expr) (cs : List V) (cvs : List Value) : Prop := Paired ClsV cs cvs ∧ PA X es (fun σ H Q => Q cs H)
section
variable {X : Cx} {es : List Expr} {cs : List V} {cvs : List Value} {p : Pos} {y : Str}
theorem jcs_nil : JCs X [] [] [] := ⟨.nil, ⟨fun pos pins s σ H Q I h => (pa_nil (X := X)).run pos pins s σ H Q I h⟩⟩
theorem jcs_own {C : Addr} (h : JCs X es cs cvs) (hm : X.mg y = some (.ref C)) (hg : Gl X y := by rfl) (hd : (y == ("__debug__" : Str)) = false := by decide) (hs : starEach (.Name y p :: es) X.env = (false, eval (.Name y p) X.env) :: starEach es X.env := by rfl) : JCs X (.Name y p :: es) (.ref C :: cs) (.ref C :: cvs) :=
  ⟨.cons (.own C) h.1, ⟨fun pos pins s σ H Q I hq => (pa_cons (pe_glob (v := .ref C) hg hm rfl hd) h.2 hs).run pos pins s σ H Q I hq⟩⟩
theorem jcs_ty {T : String} (h : JCs X es cs cvs) (hm : X.mg y = none) (hv : bootBuiltins y = some (.type T)) (hg : Gl X y := by rfl) (hn : y ≠ "__name__" := by decide) (hd : (y == ("__debug__" : Str)) = false := by decide) (hs : starEach (.Name y p :: es) X.env = (false, eval (.Name y p) X.env) :: starEach es X.env := by rfl) : JCs X (.Name y p :: es) (.ty T :: cs) (.type T :: cvs) :=
  ⟨.cons (.ty T) h.1, ⟨fun pos pins s σ H Q I hq => (pa_cons (pe_bltn (v := .ty T) hg hm hv rfl hn hd) h.2 hs).run pos pins s σ H Q I hq⟩⟩
end
def fIsE (m : Str → Option Bool) (x : Exn) : Env → R D := fun E => match m x.c with
  | some b => .ok (.bl b) E
  | none => .stuck
section
variable {X : Cx} {a : Addr} {oe : Obj} {cls : Value} {d : Option Addr} {pn : List (Addr × Obj)} {x : Exn} {p p2 pos : Pos}
theorem j_isE (m : Str → Option Bool) {n : Str} {ec : Expr} {cs : List V} {cvs : List Value} {i : Nat} (hz : L2N.Zn cls d oe) (hd : ∃ vs, oe.data = .fields vs) (hC : JCs (X.suite a ((a, oe) :: pn)) [ec] cs cvs) (hk : ∀ c b, m c = some b → ExcC X.K (He.ga X.K c) ∧ ∃ cv, cvs = [cv] ∧ PySem.W.kitOne X.K (.ref (He.ga X.K c)) cv = some b) (hm : X.mg "isinstance" = none)
    (hg : Gl X "isinstance" := by rfl) (hN : X.N[i]? = some n := by rfl) (hv : Vis X.env.scope n := by first | exact Or.inl rfl | exact Or.inr (Or.inl rfl) | exact Or.inr (Or.inr rfl)) (hdb : (n == ("__debug__" : Str)) = false := by decide) (hcd : (n == ("__classdict__" : Str)) = false := by decide)
    (he : starEach [.Name n p2, ec] X.env = (false, eval (.Name n p2) X.env) :: starEach [ec] X.env := by rfl) (hpl : (backTo pos (starEach [ec] X.env)).any (·.1) = false := by rfl) :
    JE (X.suite a ((a, oe) :: pn)) (WS X.K (some i) a cls d x) (.Call (.Name "isinstance" p) [.Name n p2, ec] [] pos) (fIsE m x) := by
  cases c : m x.c with
  | none =>
    have e : fIsE m x = fun _ => R.stuck := by funext E; unfold fIsE; rw [c]
    rw [e]; exact j_stuck
  | some b =>
    obtain ⟨T, cv, rfl, hkit⟩ := hk x.c b c
    by_cases hcls : cls = .ref (He.ga X.K x.c)
    · subst hcls
      refine ⟨_, pe_callB (call_isD T hz.zc hd) hg hm (by decide +kernel) (pa_cons (pe_var (X := X.suite a ((a, oe) :: pn)) hN hv hdb hcd) hC.2 he) (by decide) (by decide) he hpl, fun Φ G H σ E Q S hp => ?_⟩
      unfold fIsE at hp
      rw [c] at hp
      obtain ⟨s1, s2⟩ := S.c
      obtain ⟨dd, vs, rfl, h1, h2, h3⟩ := s2.dd
      have hcs := hC.1
      cases hcs with
      | cons k1 k2 =>
        cases k2
        exact ⟨.ref a, s1 i rfl, _, cv, b, dd, _, rfl, k1, hkit, rfl, S.gh _ _ h1, hp G H _ (Ex.refl G) S (.bl b)⟩
    · refine ⟨fun _ _ _ => False, ⟨fun pins s σ H Q I h => h.elim⟩, fun Φ G H σ E Q S hp => hcls S.c.2.cls⟩
theorem j_isET (m : Str → Option Bool) {n : Str} {ets : List Expr} {kx : Nat} {pt : Pos} {cs : List V} {cvs : List Value} {i : Nat} (hz : L2N.Zn cls d oe) (hd : ∃ vs, oe.data = .fields vs) (hC : JCs (X.suite a ((a, oe) :: pn)) ets cs cvs) (hlen : cs.length ≤ 1000) (hk : ∀ c b, m c = some b → ExcC X.K (He.ga X.K c) ∧ PySem.W.kitAny X.K (.ref (He.ga X.K c)) cvs = some b) (hm : X.mg "isinstance" = none)
    (hg : Gl X "isinstance" := by rfl) (hN : X.N[i]? = some n := by rfl) (hv : Vis X.env.scope n := by first | exact Or.inl rfl | exact Or.inr (Or.inl rfl) | exact Or.inr (Or.inr rfl)) (hdb : (n == ("__debug__" : Str)) = false := by decide) (hcd : (n == ("__classdict__" : Str)) = false := by decide)
    (he : starEach [.Name n p2, .Tuple ets kx pt] X.env = (false, eval (.Name n p2) X.env) :: starEach [.Tuple ets kx pt] X.env := by rfl) (he2 : starEach [.Tuple ets kx pt] X.env = (false, eval (.Tuple ets kx pt) X.env) :: starEach [] X.env := by rfl) (hpl : (backTo pos (starEach [.Tuple ets kx pt] X.env)).any (·.1) = false := by rfl) :
    JE (X.suite a ((a, oe) :: pn)) (WS X.K (some i) a cls d x) (.Call (.Name "isinstance" p) [.Name n p2, .Tuple ets kx pt] [] pos) (fIsE m x) := by
  cases c : m x.c with
  | none =>
    have e : fIsE m x = fun _ => R.stuck := by funext E; unfold fIsE; rw [c]
    rw [e]; exact j_stuck
  | some b =>
    obtain ⟨T, hkit⟩ := hk x.c b c
    by_cases hcls : cls = .ref (He.ga X.K x.c)
    · subst hcls
      refine ⟨_, pe_callB (call_isDT T hz.zc hd) hg hm (by decide +kernel) (pa_cons (pe_var (X := X.suite a ((a, oe) :: pn)) hN hv hdb hcd) (pa_cons (pe_tup hC.2) pa_nil he2) he) (by decide) (by decide) he hpl, fun Φ G H σ E Q S hp => ?_⟩
      unfold fIsE at hp
      rw [c] at hp
      obtain ⟨s1, s2⟩ := S.c
      obtain ⟨dd, vs, rfl, h1, h2, h3⟩ := s2.dd
      refine ⟨.ref a, s1 i rfl, by rw [sizeLine_eq]; omega, fun tp htp => ?_⟩
      have nd : dd ≠ tp := fun z => by have q := S.gh _ _ h1; rw [z, htp] at q; cases q
      exact ⟨tp, cs, cvs, b, dd, _, rfl, upd_same, hC.1, hkit, rfl, by rw [upd_ne nd]; exact S.gh _ _ h1, hp G _ _ (Ex.refl G) (S.toSat.newH htp) (.bl b)⟩
    · refine ⟨fun _ _ _ => False, ⟨fun pins s σ H Q I h => h.elim⟩, fun Φ G H σ E Q S hp => hcls S.c.2.cls⟩
end

/-! ### defs called in a suite -/
theorem fn_JH {P : Program} {w : World} {K : PySem.W.Frag} {mg : Str → Option Value} {base : Heap} {k : Nat} {f : Addr} {name qual : Str} {params : Arguments} {body : List Stmt} {scope : Scope} {dV kV doc pm cdv ct oc : Value} {an od : Option Addr}
    {osl : Array (Option Value)} {N ps : List Str} {fb : Env → RS} (lk : K.lookup f = some ⟨oc, od, .func (PySem.W.fnOf name qual params body scope dV kV doc pm an cdv ct), osl⟩) (hcd : PySem.W.codeIn K cdv qual = true) (S : FnScope N ps scope)
    (hbody : ∀ (A : Around) (outer : List PySem.Env) (s : Shared) (H : Hp) (E : XK) (p : Addr × Obj), L2H.RoomH k (A.deeper (envOfC qual scope s.heap.objs.size f cdv)) → JSs (L2H.cxH (L2N.CX P w) P w K mg base N qual scope f cdv A outer s H E p) (fun c d _ H => E c d H) body fb) :
    L2H.FnH P w K mg base (L2N.CX P w) (k + 1) f (PySem.W.fnOf name qual params body scope dV kV doc pm an cdv ct) ps (spJ K ps.length (runF N.length fb)) := by
  refine L2H.fn_ofH lk hcd S (fun vs H Q E h => h.1) fun A outer s H vs Q E p hot hr hsp => ?_
  obtain ⟨t, h1, h2⟩ := hbody A outer s H E p hr
  refine ⟨t, h1, ?_⟩
  obtain ⟨hl, Φ, G, as, S0, hP⟩ := hsp
  refine h2 Φ G H _ _ _ (S0.begin N) ?_
  unfold runF at hP
  cases hf : fb (as ++ List.replicate (N.length - as.length) .no) with
  | nx E' => rw [hf] at hP; exact fun G' H' σ' e' S' => hP G' H' .non e' S'.toIO .non
  | rt rv E' =>
    rw [hf] at hP
    cases rv with
    | v d => exact fun G' H' σ' v e' S' r => hP G' H' v e' S'.toIO r
    | l d =>
      refine fun G' H' σ' v e' S' r => ?_
      obtain ⟨p, vs, rfl, k1, k2, k3, k4, k5⟩ := r
      refine hP G' H' p vs e' S'.toIO k1 k2 k3 k4 fun i s hi hb z => ?_
      obtain ⟨p', o, q1, _⟩ := S'.ad hi hb
      obtain ⟨q4, q5, q6⟩ := S'.ow' i s true p' hi hb q1
      have := q6 rfl
      subst this
      rw [← z] at q1
      exact k5 i s true hi hb q1
  | bk E' => rw [hf] at hP; exact hP.elim
  | ct E' => rw [hf] at hP; exact hP.elim
  | exc x E' => rw [hf] at hP; exact fun G' H' σ' c d e' S' r => hP G' H' c d e' S'.toIO r
  | stuck => rw [hf] at hP; exact hP.elim
structure FnHJ (P : Program) (w : World) (K : PySem.W.Frag) (mg : Str → Option Value) (base : Heap) (k : Nat) (x : Str) (n : Nat) (F : DF) : Prop where
  ok : ∃ f fd ps, mg x = some (.ref f) ∧ PySem.W.keepIn K (.ref f) = true ∧ ps.length = n ∧ Binds K fd ps [] ∧ L2H.FnH P w K mg base (L2N.CX P w) k f fd ps (spJ K n F)
theorem hot_of {X : Cx} {a : Addr} {oe : Obj} {cls : Value} {d : Option Addr} {pn : List (Addr × Obj)} (hz : L2N.Zn cls d oe) (hd : ∃ vs, oe.data = .fields vs) : L2H.HotC (X.suite a ((a, oe) :: pn)) := by
  obtain ⟨vs, hv⟩ := hd
  exact ⟨(a, oe), ⟨rfl, vs, hv, hz.2.2 vs hv⟩, List.mem_cons_self⟩
section
variable {X : Cx} {W : WJ} {k : Nat} {F : DF} {x : Str} {p pos : Pos} {e : Expr} {es : List Expr} {fa : Env → R (List Ar)}
theorem j_callH (hF : FnHJ X.prog X.w X.K X.mg X.base k x (e :: es).length F) (hr : L2H.RoomH k X.A) (hc : L2H.HotC X) (tk : L2N.Takes X W.w) (ha : JX X W (e :: es) fa) (hg : Gl X x := by rfl) (hdb : (x == ("__debug__" : Str)) = false := by decide)
    (he : starEach (e :: es) X.env = (false, eval e X.env) :: starEach es X.env := by rfl) (hpl : (backTo pos (starEach es X.env)).any (·.1) = false := by rfl) : JE X W (.Call (.Name x p) (e :: es) [] pos) (fCallR (e :: es).length F fa rvD) := by
  obtain ⟨f, fd, ps, h1, h2, h3, h4, h5⟩ := hF
  obtain ⟨ta, pa, sa⟩ := ha
  have sn := snd_call (F := F) (n := (e :: es).length) (rel := relE X.K) (kv := rvD) sa (fun d a hk Φ σ G' H' E' v r _ => by cases hk; exact r) fun l a hk Φ σ G' H' E' p vs S h1 h2 h3 h4 h5 => by cases hk; exact ⟨_, Ex.new h3, S.free h1 h3 h4 h5, .lst upd_same (h2.mono (Ex.new h3))⟩
  refine ⟨_, L2H.pe_callH (E := fun σ => WE W.w σ) h5 hr hc hg h1 h2 h4 (fun σ => L2N.passAt tk σ) pa hdb he hpl, fun Φ G H σ E Q S hp => ?_⟩
  have q := sn Φ G H σ E Q S hp
  unfold tCallSD at q
  unfold tCallS
  simp only [List.append_nil] at q
  exact q
end
theorem takes_su {X : Cx} {a : Addr} {pn : List (Addr × Obj)} {K : PySem.W.Frag} {oi : Option Nat} {b : Addr} {cls : Value} {d : Option Addr} {x : Exn} : L2N.Takes (X.suite a pn) (WS K oi b cls d x).w := fun _ _ ⟨_, _, _, _, _, _, _, _, _, _, _, _, _, _, _, _, w⟩ => w.elim
theorem takes_blk {X : Cx} {s : Shared} {H : Hp} {scope : Scope} {cenv : PySem.Env} {fp : List Addr} : L2N.Takes (X.blk s H scope cenv fp) V0.w := fun _ _ ⟨_, _, _, _, _, _, _, _, _, _, _, _, _, _, _, _, w⟩ => w.elim
end J

namespace J
open PySem PySem.Spec PyProof.Rows L2

/-! ### set(xs), xs a list of ints -/
abbrev mtS (w : World) : Obj := { cls := .type "set", dict := none, data := .set #[] 0 (.fresh 0 0 (!w.params.followText "set-order")) }
section
variable {P : Program} {w : World} {A : Around} {E : Value → Shared → Prop} {s : Shared}
theorem set_of_list {l : Addr} {xs : Array Value} (ns : List Int) {Q : Value → Shared → Prop} (calm : A.handled = none) (isl : s.heap.IsList l xs) (inz : IntsAre xs.toList ns) (few : ns.length + 1 < scanBound)
    (fin : ∀ (h' : Heap) (tk c : Nat), SetR w h' s.heap.objs.size (fun j => decide (j ∈ ns)) c → c ≤ ns.length → (∀ b o, s.heap.get? b = some o → h'.get? b = some o) → Q (.ref s.heap.objs.size) { s with heap := h', toks := tk }) :
    wpAny (model P w) A (call (.type "set") [.ref l]) Q E s := by
  have lenx : xs.size = ns.length := by
    have z := IntsAre.length inz
    rwa [Array.length_toList] at z
  obtain ⟨c0, tl0, mro0⟩ := F.called_set.mro
  have made0 := F.called_set.made
  have sub0 := F.called_set.sub
  refine wpAny_call (codeAny_of_tree ?_)
  show wpAny _ _ (callAny (.type "set") _) _ _ _
  refine wpAny_pure ⟨Code.quiet_builtin _ (by decide +kernel), ?_⟩
  refine codeAny_builtin F.entry_type_call ?_
  rw [Around.under_plain (weight_type_call_type "set" [.ref l] []) rfl]
  have nt0 := F.called_set.notType
  have cc0 := F.called_set.canCreate
  have tc0 := F.typeCall_set_1 (.ref l)
  repeat (any_goals (first | assumption | wp_step))
  refine codeAny_mono (code_set_led1 (.ref l) (E := E) (Q₁ := fun u s1 => u = .ref s.heap.objs.size ∧ s1 = { s with heap := s.heap.push (mtS w) }) ⟨rfl, rfl⟩) fun res s1 got => ?_
  cases res with
  | error e => exact got
  | ok fl =>
    cases fl with
    | next => exact got.elim
    | brk => exact got.elim
    | cont => exact got.elim
    | ret u =>
      obtain ⟨rfl, rfl⟩ := got
      have S0 : (s.heap.push (mtS w)).get? s.heap.objs.size = some (mtS w) := Heap.get?_push_size _ rfl
      have T0 : Shared.TypeIs { s with heap := s.heap.push (mtS w) } (.ref s.heap.objs.size) "set" := ⟨_, S0, rfl⟩
      have li0 := F.called_set.init.lookup
      have bi0 := F.called_set.init.bind (.ref s.heap.objs.size)
      repeat (any_goals (first | assumption | wp_step))
      refine codeAny_mono (codeAny_call_builtin (R := wants (fun r s2 => r = .none ∧ ∃ h' tk c, s2 = { s with heap := h', toks := tk } ∧ SetR w h' s.heap.objs.size (fun j => decide (j ∈ ns)) c ∧ c ≤ ns.length ∧ (∀ b o, s.heap.get? b = some o → h'.get? b = some o)) E)
        F.called_set.init.plain F.entry_set_init (check_set_init_1 T0 ?_)) fun res2 s2 got2 => ?_
      · obtain ⟨ol, hol, hcl, nl, hdl⟩ := isl
        obtain ⟨oc, od, oda, osl⟩ := ol
        simp only at hcl hdl
        subst hcl; subst hdl
        have ol1 : (s.heap.push (mtS w)).get? l = some { cls := .type "list", dict := od, data := .seq xs nl, slots := osl } := Heap.get?_push_of_some _ hol
        have n1 := F.sub_list_set
        have n2 := F.sub_list_frozenset
        have n3 : (Value.type "list" == Value.type "dict") = false := by decide
        have isl1 : (s.heap.push (mtS w)).IsList l xs := ⟨_, ol1, rfl, nl, rfl⟩
        unfold Builtin.«set.__init__» noKeywords Builtin.Frozenset.updateFrom
        generalize hIt : pyIter = IT
        wp_walk
        subst hIt
        refine wpAny_pyIter_list isl1 ?_
        refine wpAny_bind (wpAny_runValue ?_)
        have lt0 : l < s.heap.objs.size := Heap.lt_size hol
        have calm3 : A.in1.in1.in1.handled = none := by simp [calm]
        have ne1 : l ≠ (s.heap.push (mtS w)).objs.size := by rw [Heap.size_push]; exact Nat.ne_of_lt (Nat.lt_succ_of_lt lt0)
        have off : s.heap.objs.size ∉ [(s.heap.push (mtS w)).objs.size, l] := by
          rw [Heap.size_push]
          intro z
          rcases List.mem_cons.mp z with z | z
          · exact absurd z (Nat.ne_of_lt (Nat.lt_succ_self _))
          · have z : s.heap.objs.size = l := by simpa using z
            exact absurd z (Nat.ne_of_gt lt0)
        have each : ∀ (i : Nat) (v : Value), xs[i]? = some v → ∃ k t, ns[i]? = some k ∧ v = .int k t := fun i v hv => by
          have hi : i < ns.length := by rw [← lenx]; exact (Array.getElem?_eq_some_iff.mp hv).1
          obtain ⟨t, e⟩ := PyProof.Rows.IntsAre.int_at inz i v (by rw [Array.getElem?_toList]; exact hv)
          exact ⟨ns[i], t, List.getElem?_eq_getElem hi, by rw [e, List.getD_eq_getElem?_getD, List.getElem?_eq_getElem hi] <;> rfl⟩
        refine set_update_ints ((Walks.list calm3 _ l ne1 xs).toS) s.heap.objs.size off ns lenx few each (xs.size - 0) 0 _ (by omega) (Nat.zero_le _) ⟨⟨_, Heap.get?_push_size _ rfl, rfl, rfl⟩, (isl1.push _)⟩ ?start ?stop
        case start =>
          exact ⟨0, Nat.le_refl 0, setR_new_at (Heap.get?_push_of_some _ S0)⟩
        case stop =>
          intro s3 c3 mv le3 R3
          obtain ⟨h3, g3, d3, t3, o3⟩ := s3
          have eg : g3 = s.gens := mv.gens
          have ed : d3 = s.drawn := mv.drawn
          have eo : o3 = s.os := mv.os
          subst eg ed eo
          show wpAny _ _ _ _ _ _
          refine wpAny_pure ?_
          show wpAny _ _ (ret Value.none) _ _ _
          rw [lenx] at le3
          refine wpAny_pure ⟨rfl, h3, t3, c3, rfl, R3, le3, fun b o e => ?_⟩
          have lb := Heap.lt_size e
          refine mv.heap b o (fun z => ?_) (Heap.get?_push_of_some _ (Heap.get?_push_of_some _ e))
          rcases List.mem_cons.mp z with z | z
          · exact absurd z (Nat.ne_of_lt lb)
          · have z : b = (s.heap.push (mtS w)).objs.size := by simpa using z
            rw [Heap.size_push] at z
            exact absurd z (Nat.ne_of_lt (Nat.lt_succ_of_lt lb))
      · cases res2 with
        | error e => exact got2
        | ok fl2 =>
          cases fl2 with
          | next => exact got2.elim
          | brk => exact got2.elim
          | cont => exact got2.elim
          | ret r =>
            obtain ⟨rfl, h', tk, c', rfl, R4, le4, k4⟩ := got2
            repeat (any_goals (first | assumption | wp_step))
            exact fin _ _ _ R4 le4 k4
end
/-- set(xs), xs a list or a tuple of ints -/
def rSetI (X : Cx) : List V → Hp → VK → Prop := fun vs H Q => ∃ (p : Addr) (ns : List Int), vs = [.ref p] ∧ (SqL X.K H p (ns.map V.int) ∨ SqT X.K H p (ns.map V.int)) ∧ ns.length ≤ 1000 ∧ ∀ (a : Addr) (c : Nat), c ≤ ns.length → H a = none → Q (.ref a) (upd H a (SetO X.w a (fun j => decide (j ∈ ns)) c))
theorem cr_setI {X : Cx} (hc : X.calm = true) : CallR X (.type "set") (rSetI X) := by
  intro pins s σ H vs us Q I r h
  obtain ⟨p, ns, rfl, hq, hl, q⟩ := h
  have e1 := Vals.ref1 r
  subst e1
  have fin : ∀ (h' : Heap) (tk c : Nat), SetR X.w h' s.heap.objs.size (fun j => decide (j ∈ ns)) c → c ≤ ns.length → (∀ b o, s.heap.get? b = some o → h'.get? b = some o) → EP X pins σ Q (.ref s.heap.objs.size) { s with heap := h', toks := tk } := fun h' tk c R le k =>
    ⟨.ref _, _, I.laid (t' := tk) k (Nat.le_refl _) (setO_new R), rfl, q _ c le (I.hok.fresh (Nat.le_refl _))⟩
  rcases hq with hq | hq
  · obtain ⟨its, rv, pt, hz⟩ := I.list hq
    exact set_of_list ns (I.ok.hd hc) pt.isList (ints_of_vals rv) (by unfold scanBound; omega) fin
  · obtain ⟨its, rv, pt, hz⟩ := I.tuple hq
    exact call_set_tupI ns (I.ok.hd hc) (show s.heap.IsTuple p its.toArray from pt) (ints_of_vals rv) (by unfold scanBound; omega) fin
end J

namespace J
open PySem PySem.Spec PyProof.Rows L2

/-! ### sorted(set(xs)) -/
def insU (k : Int) : List Int → List Int
  | [] => [k]
  | x :: xs => if k < x then k :: x :: xs else if k = x then x :: xs else x :: insU k xs
def sortU : List Int → List Int
  | [] => []
  | x :: xs => insU x (sortU xs)
theorem insU_mem {k j : Int} : ∀ {l : List Int}, j ∈ insU k l ↔ j = k ∨ j ∈ l
  | [] => by simp [insU]
  | x :: xs => by
    unfold insU
    split
    · simp
    · split
      · rename_i h1 h2
        subst h2
        simp only [List.mem_cons]
        constructor
        · intro h; exact .inr h
        · rintro (h | h)
          · exact .inl h
          · exact h
      · simp only [List.mem_cons, insU_mem (l := xs)]
        constructor
        · rintro (h | h | h)
          · exact .inr (.inl h)
          · exact .inl h
          · exact .inr (.inr h)
        · rintro (h | h | h)
          · exact .inr (.inl h)
          · exact .inl h
          · exact .inr (.inr h)
theorem insU_pw {k : Int} : ∀ {l : List Int}, l.Pairwise (· < ·) → (insU k l).Pairwise (· < ·)
  | [], _ => by simp [insU]
  | x :: xs, h => by
    obtain ⟨h1, h2⟩ := List.pairwise_cons.mp h
    unfold insU
    split
    · rename_i hk
      refine List.pairwise_cons.mpr ⟨fun y hy => ?_, h⟩
      rcases List.mem_cons.mp hy with rfl | hy
      · exact hk
      · exact Int.lt_trans hk (h1 y hy)
    · split
      · exact h
      · refine List.pairwise_cons.mpr ⟨fun y hy => ?_, insU_pw h2⟩
        rcases insU_mem.mp hy with rfl | hy
        · omega
        · exact h1 y hy
theorem sortU_mem {j : Int} : ∀ {l : List Int}, j ∈ sortU l ↔ j ∈ l
  | [] => by simp [sortU]
  | x :: xs => by unfold sortU; rw [insU_mem, sortU_mem (l := xs), List.mem_cons]
theorem sortU_pw : ∀ {l : List Int}, (sortU l).Pairwise (· < ·)
  | [] => .nil
  | x :: xs => insU_pw sortU_pw
theorem pw_uniq : ∀ {l m : List Int}, l.Pairwise (· < ·) → m.Pairwise (· < ·) → (∀ k, k ∈ l ↔ k ∈ m) → l = m
  | [], [], _, _, _ => rfl
  | [], y :: ys, _, _, h => by have := (h y).mpr (List.mem_cons_self ..); cases this
  | x :: xs, [], _, _, h => by have := (h x).mp (List.mem_cons_self ..); cases this
  | x :: xs, y :: ys, hl, hm, h => by
    obtain ⟨l1, l2⟩ := List.pairwise_cons.mp hl
    obtain ⟨m1, m2⟩ := List.pairwise_cons.mp hm
    have exy : x = y := by
      rcases List.mem_cons.mp ((h x).mp (List.mem_cons_self ..)) with e | e
      · exact e
      · rcases List.mem_cons.mp ((h y).mpr (List.mem_cons_self ..)) with e2 | e2
        · exact e2.symm
        · have a := m1 x e; have b := l1 y e2; omega
    subst exy
    rw [pw_uniq l2 m2 fun k => ?_]
    constructor
    · intro hk
      rcases List.mem_cons.mp ((h k).mp (List.mem_cons_of_mem _ hk)) with e | e
      · subst e; have := l1 k hk; omega
      · exact e
    · intro hk
      rcases List.mem_cons.mp ((h k).mpr (List.mem_cons_of_mem _ hk)) with e | e
      · subst e; have := m1 k hk; omega
      · exact e
def gSS : D → Option (List D) := fun d => (itemsD d).bind fun l => (intsD l).bind fun ns => if ns.length ≤ 63 then some ((sortU ns).map D.int) else none
section
variable {X : Cx} {W : WJ} {a b e : Expr} {p p2 pos pos2 : Pos} {fa fb : Env → R D}
theorem jl_ss (hc : X.calm = true) (hm : X.mg "sorted" = none) (hm2 : X.mg "set" = none) (ha : JO X W a fa) (hg : Gl X "sorted" := by rfl) (hg2 : Gl X "set" := by rfl)
    (he : starEach [a] X.env = (false, eval a X.env) :: starEach [] X.env := by rfl) (hpl : (backTo pos2 (starEach [] X.env)).any (·.1) = false := by rfl)
    (he2 : starEach [.Call (.Name "set" p2) [a] [] pos2] X.env = (false, eval (.Call (.Name "set" p2) [a] [] pos2) X.env) :: starEach [] X.env := by rfl) (hpl2 : (backTo pos (starEach [] X.env)).any (·.1) = false := by rfl) :
    JL X W (.Call (.Name "sorted" p) [.Call (.Name "set" p2) [a] [] pos2] [] pos) (fun1L gSS fa) := by
  obtain ⟨ta, pa, sa⟩ := ha
  refine ⟨_, pe_callB (cr_sortedSet hc) hg hm (by decide +kernel) (pa_cons (pe_callTy (cr_setI hc) hg2 hm2 (by decide +kernel) (pa_cons pa pa_nil he) (by decide) (by decide) he hpl) pa_nil he2) (by decide) (by decide) he2 hpl2, fun Φ G H σ E Q S hp => ?_⟩
  refine sa.go S hp fun d E1 G1 H1 x _ e1 S1 r1 hp => ?_
  cases hd : gSS d with
  | none => rw [hd] at hp; exact hp.elim
  | some l =>
    rw [hd] at hp
    obtain ⟨l0, h1, hd⟩ := Option.bind_eq_some_iff.mp hd
    obtain ⟨ns, h2, hd⟩ := Option.bind_eq_some_iff.mp hd
    obtain ⟨c63, rfl⟩ := if_some hd
    obtain ⟨q, vs, rfl, h4, h5⟩ := r1.items S1.gh h1
    rw [intsD_eq h2] at h5
    have := h5.of_ints
    subst this
    refine ⟨q, ns, rfl, h4, by omega, fun s c hcl hs => ?_⟩
    refine ⟨s, _, c, rfl, upd_same, by omega, fun ms r m1 m2 m3 hr => ?_⟩
    have em : ms = sortU ns := pw_uniq m1 sortU_pw fun k => by rw [m2 k, sortU_mem, decide_eq_true_eq]
    subst em
    have S2 := S1.toSat.newH (o := SetO X.w s (fun j => decide (j ∈ ns)) c) hs
    exact hp _ _ _ (Ex.refl G1) (S2.newH hr) (relL.new S2 hr (RpA.ints _))

/-! ### xs + ys, xs * n: a list of one's own -/
def fopL (g : D → D → Option D) (fa fb : Env → R D) : Env → R (List D) := fun E => (fa E).bind fun a E => (fb E).bind fun b E => match a, g a b with
  | .lst _, some (.lst l) => .ok l E
  | _, _ => .stuck
theorem jl_add (ha : JE X W a fa) (hb : JO X W b fb) : JL X W (.BinOp a .Add b pos) (fopL gAdd fa fb) := by
  obtain ⟨ta, pa, sa⟩ := ha
  obtain ⟨tb, pb, sb⟩ := hb
  refine ⟨_, pe_op op_cat pa pb, fun Φ G H σ E Q S hp => ?_⟩
  refine sa.go S hp fun d E1 G1 H1 x _ e1 S1 r1 hp => ?_
  refine sb.go S1 hp fun d' E2 G2 H2 y _ e2 S2 r2 hp => ?_
  cases d with
  | lst l =>
    cases d' with
    | lst m =>
      have r1 := Rp.mono e2 _ r1
      cases r1 with
      | lst h1 h2 =>
        obtain ⟨q, ws, rfl, h3, h4⟩ := r2
        by_cases c : l.length + m.length ≤ 16777216
        · have hg : gAdd (.lst l) (.lst m) = some (.lst (l ++ m)) := if_pos c
          simp only [hg] at hp
          exact ⟨_, _, _, _, rfl, rfl, S2.gh _ _ h1, h3, sz (by rw [h2.length, h4.length]; exact c), fun r hr => hp _ _ _ (Ex.refl G2) (S2.toSat.newH hr) (relL.new S2.toSat hr (h2.append h4))⟩
        · have hg : gAdd (.lst l) (.lst m) = none := if_neg c
          simp only [hg] at hp
          exact hp.elim
    | _ => exact hp.elim
  | _ => exact hp.elim
theorem jl_mul (ha : JE X W a fa) (hb : JO X W b fb) : JL X W (.BinOp a .Mult b pos) (fopL gMul fa fb) := by
  obtain ⟨ta, pa, sa⟩ := ha
  obtain ⟨tb, pb, sb⟩ := hb
  refine ⟨_, pe_op op_rep pa pb, fun Φ G H σ E Q S hp => ?_⟩
  refine sa.go S hp fun d E1 G1 H1 x _ e1 S1 r1 hp => ?_
  refine sb.go S1 hp fun d' E2 G2 H2 y _ e2 S2 r2 hp => ?_
  cases d with
  | lst l =>
    cases d' with
    | int k =>
      have r1 := Rp.mono e2 _ r1
      cases r2
      cases r1 with
      | lst h1 h2 =>
        by_cases c : 0 ≤ k ∧ k ≤ 1000000 ∧ l.length * k.toNat ≤ 16777216
        · have hg : gMul (.lst l) (.int k) = some (.lst (List.replicate k.toNat l).flatten) := if_pos c
          simp only [hg] at hp
          exact ⟨_, k, _, rfl, rfl, S2.gh _ _ h1, by omega, by omega, sz (by rw [h2.length]; exact c.2.2), fun r hr => hp _ _ _ (Ex.refl G2) (S2.toSat.newH hr) (relL.new S2.toSat hr (h2.flat _))⟩
        · have hg : gMul (.lst l) (.int k) = none := if_neg c
          simp only [hg] at hp
          exact hp.elim
    | _ => exact hp.elim
  | _ => exact hp.elim
end
end J

namespace J
open PySem PySem.Spec PyProof.Rows L2

/-! ### xs[lo:hi] = ys -/
section
variable {prog : Program} {w : World} {A : Around} {E : Value → Shared → Prop} {s : Shared}
theorem put_run {l b sl : Addr} {xs ys : Array Value} {n n2 : Nat} {vl vu : Value} {lo hi : Option Int} {a c : Nat} {Q : Unit → Shared → Prop} (e : s.heap.get? l = some { cls := .type "list", data := .seq xs n }) (e2 : s.heap.get? b = some { cls := .type "list", data := .seq ys n2 }) (apart : l ≠ b)
    (isl : s.heap.IsSliceOf sl vl vu .none) (pl : IsPart vl lo) (pu : IsPart vu hi) (bnd : sliceBounds lo hi none xs.size = ((a : Int), (c : Int), 1)) (hac : a ≤ c) (room : xs.size + ys.size ≤ sizeLine)
    (fin : Q () { s with heap := s.heap.update l (Obj.mapSeq fun zs => zs.extract 0 a ++ ys ++ zs.extract c zs.size) }) : wpAny (model prog w) A (setItem (.ref l) (.ref sl) (.ref b)) Q E s := by
  have Ll : s.heap.IsList l xs := PySem.IsL.isList e
  have Lb : s.heap.IsList b ys := PySem.IsL.isList e2
  obtain ⟨os, o1, o2, o3⟩ := id isl
  have Ts : s.TypeIs (.ref sl) "slice" := ⟨os, o1, o2⟩
  have noStep : ¬ ((rawPart none == rawInt 0) = true) := Bool.false_ne_true
  have other : Builtin.List.listSameRef (.ref l) (.ref b) = false := by unfold Builtin.List.listSameRef; exact beq_eq_false_iff_ne.mpr apart
  have mx : (max (a : Int) (c : Int)).toNat = c := by omega
  have room1 : ((fun zs : Array Value => zs.extract 0 a ++ ys ++ zs.extract c zs.size) xs).size ≤ sizeLine + 1 := by simp only [Array.size_append, Array.size_extract]; omega
  unfold setItem
  try with_reducible refine wpAny_holding ?_
  first | refine wpAny_bind (wpAny_pure ?_) | skip
  refine wpAny_bind (wpAny_sequenceKey Ll.typeIs (by decide) ?_)
  refine wpAny_bind (wpAny_callSpecial?_slot (name := Str.ofString "__setitem__") Ll.typeIs slot_list_setitem (wpAny_call_entry slot_list_setitem Ll.typeIs entry_list_setitem ?_ (args_list_setitem _ _ _)))
  show wpAny _ _ (Builtin.List.listSubscript? (.ref sl) >>= _) _ _ s
  refine wpAny_bind ?_
  unfold Builtin.List.listSubscript?
  refine wpAny_bind (wpAny_specialOf Ts slice_no_index ?_)
  simp only [Option.isNone_none, if_true]
  refine wpAny_pure ?_
  show wpAny _ _ (typeOf (.ref sl) >>= _) _ _ s
  refine wpAny_bind (wpAny_typeOf Ts ?_)
  first
    | rw [if_neg (by decide)]
    | refine PySem.W.KFB.if_not (by decide) ?_
  rw [listSliceParts_eq]
  refine wpAny_bind (wpAny_bind (wpAny_field o1 o3 (x := .none) rfl (wpAny_bind (wpAny_listPart .none ?_))))
  rw [if_neg noStep]
  refine wpAny_bind (wpAny_field o1 o3 (x := vl) rfl (wpAny_bind (wpAny_listPart pl ?_)))
  refine wpAny_bind (wpAny_field o1 o3 (x := vu) rfl (wpAny_bind (wpAny_listPart pu (wpAny_pure ?_))))
  first
    | simp only [other, Bool.false_eq_true, if_false]
    | refine PySem.W.KFB.if_not other ?_
    | (dsimp only
       rw [if_neg (by rw [other]; exact Bool.false_ne_true)])
  refine wpAny_bind (m := Builtin.List.listAllItems (.ref b) "must assign iterable to extended slice") ?_
  unfold Builtin.List.listAllItems
  refine wpAny_bind (wpAny_typeOf Lb.typeIs ?_)
  first
    | refine PySem.W.KFB.if_so (by decide) ?_
    | rw [if_pos (by decide)]
    | simp only [beq_self_eq_true, Bool.true_or, if_true]
  unfold Builtin.List.listItems
  refine wpAny_bind (wpAny_seqItems e2 rfl (wpAny_pure ?_))
  refine wpAny_bind (wpAny_bind (wpAny_seqItems e rfl (wpAny_pure ?_)))
  have raw := (sliceIndices_raw lo hi none xs.size (by simp)).trans (congrArg (pure : Int × Int × Int → Sem (Int × Int × Int)) bnd)
  refine wpAny_bind (wpAny_of_eq raw ?_)
  show wpAny _ _ (if ((1 : Int) == 1) = true then _ else _) _ _ s
  rw [if_pos (by decide)]
  refine wpAny_bind (wpAny_rule ?_)
  first
    | simp only [notLongL room, Bool.false_eq_true, if_false]
    | refine PySem.W.KFB.if_not (notLongL room) ?_
  first | refine wpAny_bind (wpAny_pure ?_) | skip
  show wpAny _ _ (updateSeq l (fun zs => zs.extract 0 ((a : Int)).toNat ++ ys ++ zs.extract (max (a : Int) (c : Int)).toNat zs.size) >>= _) _ _ s
  rw [mx, Int.toNat_natCast]
  refine wpAny_bind (wpAny_updateSeq (hz := Nat.le_trans (Nat.le_add_right _ _) room) (_hz' := room1) e rfl ?_)
  refine wpAny_bind (wpAny_letGo ?_)
  first
    | exact wpAny_bind (wpAny_pure (wpAny_pure ⟨.none, rfl, wpAny_pure fin⟩))
    | exact wpAny_pure ⟨.none, rfl, wpAny_pure fin⟩
end
/-- where the bounds lie -/
def cutB (lo hi : Option Int) (n : Nat) : Option (Nat × Nat) :=
  if 0 ≤ (sliceBounds lo hi none n).1 ∧ (sliceBounds lo hi none n).1 ≤ (sliceBounds lo hi none n).2.1 ∧ (sliceBounds lo hi none n).2.1 ≤ n ∧ (sliceBounds lo hi none n).2.2 = 1 then some ((sliceBounds lo hi none n).1.toNat, (sliceBounds lo hi none n).2.1.toNat) else none
theorem cutB_is {lo hi : Option Int} {n a c : Nat} (h : cutB lo hi n = some (a, c)) : sliceBounds lo hi none n = ((a : Int), (c : Int), 1) ∧ a ≤ c ∧ c ≤ n := by
  unfold cutB at h
  obtain ⟨⟨h1, h2, h3, h4⟩, e⟩ := if_some h
  generalize sliceBounds lo hi none n = t at h1 h2 h3 h4 e
  obtain ⟨x, y, z⟩ := t
  simp only at h1 h2 h3 h4 e
  obtain ⟨rfl, rfl⟩ := Prod.mk.inj e
  subst h4
  exact ⟨by rw [Int.toNat_of_nonneg h1, Int.toNat_of_nonneg (Int.le_trans h1 h2)], by omega, by omega⟩
/-- x[lo:hi] = e, x one's own list -/
def sSetCut (i : Nat) (fl fh : Env → Option (Option Int)) (fa : Env → R D) : Env → RS := fun E => (fa E).bindS fun d E => match d, E[i]? with
  | .lst ys, some (.own b l) => (match (fl E).bind fun x => (fh E).bind fun y => cutB x y l.length with
    | some (a, c) => if l.length + ys.length ≤ 16777216 then .nx (E.set i (.own b (l.take a ++ ys ++ l.drop c))) else .stuck
    | none => .stuck)
  | _, _ => .stuck
def gSubCut (to : TE) (tl th : TO) (r : V → V → Option Int → Option Int → Hp → (Hp → Prop) → Prop) : TG := fun v σ H Q => to σ H fun x H1 => tl σ H1 fun l H2 => th σ H2 fun u H3 => r x v l u H3 fun H4 => Q σ H4
def rPut : V → V → Option Int → Option Int → Hp → (Hp → Prop) → Prop := fun x v lo hi H Q => ∃ (l b : Addr) (xs ys : List V) (a c : Nat), x = .ref l ∧ v = .ref b ∧ l ≠ b ∧ H l = some (.lst xs) ∧ H b = some (.lst ys) ∧ cutB lo hi xs.length = some (a, c) ∧ xs.length + ys.length ≤ sizeLine ∧ Q (upd H l (.lst (xs.take a ++ ys ++ xs.drop c)))
theorem pg_cut {X : Cx} {o : Expr} {lo hi : Option Expr} {to : TE} {tl th : TO} {p2 pos : Pos} (ho : PE X o to) (hl : PO X lo tl) (hh : PO X hi th)
    (ha : ∀ v, assign (.Subscript o (.Slice lo hi none p2) pos) X.env v = (do
      let ov ← holding [v] (eval o X.env)
      let iv ← holding [v, ov] (eval (.Slice lo hi none p2) X.env)
      standAt pos
      holding [v, ov, iv] (setItem ov iv v)
      release [iv, v, ov] []) := by intro _; rfl) : PG X (.Subscript o (.Slice lo hi none p2) pos) (gSubCut to tl th rPut) := by
  refine ⟨fun pins s σ H v u Q I r h => ?_⟩
  rw [ha]
  refine wpAny_bind (wpAny_holding (thn (ho.run pins s σ H _ I h) fun ov s1 ⟨x, H1, I1, r1, q1⟩ => ?_))
  refine wpAny_bind (wpAny_holding ?_)
  refine wpAny_Slice (thn (hl.run pins s1 σ H1 _ I1 q1) fun vl s2 ⟨y, H2, I2, pl, q2⟩ => thn (hh.run pins s2 σ H2 _ I2 q2) fun vu s3 ⟨z, H3, I3, pu, q3⟩ => ?_)
  rw [evalPart_none]
  refine wpAny_pure ?_
  have I4 : Inv X pins σ H3 { s3 with heap := s3.heap.push { cls := .type "slice", data := .fields #[vl, vu, .none] } } := I3.kept (t' := s3.toks) fun b ob q => Heap.get?_push_of_some _ q
  obtain ⟨l, b, xs, ys, a, c, rfl, rfl, hne, hl1, hb1, hcut, hz, q⟩ := q3
  cases (show ov = Value.ref l from r1)
  cases (show u = Value.ref b from r)
  obtain ⟨z1, its, n, rv, hlen, e⟩ := I4.lstM hl1
  obtain ⟨z2, its2, n2, rv2, hlen2, e2⟩ := I4.lstM hb1
  have hsz : its.toArray.size = xs.length := by rw [List.size_toArray]; exact hlen.symm
  have hsz2 : its2.toArray.size = ys.length := by rw [List.size_toArray]; exact hlen2.symm
  obtain ⟨bb, hac, hcn⟩ := cutB_is hcut
  refine wpAny_bind (wpAny_standAt (wpAny_bind (wpAny_holding ?_)))
  refine put_run (a := a) (c := c) e e2 hne (Heap.IsSliceOf.new ..) pl pu (by rw [hsz]; exact bb) hac (by rw [hsz, hsz2]; exact hz) (wpAny_release ⟨σ, _, ?_, q⟩)
  refine I4.lset (its' := its.take a ++ its2 ++ its.drop c) (t' := s3.toks) hl1 e ?_ (Vals.append (Vals.append (rv.take _) rv2) (rv.drop _)) ?_
  · exact splice_eq its its2 a c
  · rw [List.length_append, List.length_append, List.length_take, List.length_drop]; omega
theorem js_setCut {X : Cx} {W : WX} (i : Nat) {x : Str} {e : Expr} {lo hi : Option Expr} {p1 p2 tp pos : Pos} {fa : Env → R D} {fl fh : Env → Option (Option Int)} (h : JE X (pw W) e fa) (hl : JPq X lo fl) (hh : JPq X hi fh) (hN : X.N[i]? = some x := by rfl) (hv : Vis X.env.scope x := by first | exact Or.inl rfl | exact Or.inr (Or.inl rfl) | exact Or.inr (Or.inr rfl)) (hd : (x == ("__debug__" : Str)) = false := by decide)
    (hcd : (x == ("__classdict__" : Str)) = false := by decide)
    (ha : ∀ v, assign (.Subscript (.Name x p1) (.Slice lo hi none p2) tp) X.env v = (do
      let ov ← holding [v] (eval (.Name x p1) X.env)
      let iv ← holding [v, ov] (eval (.Slice lo hi none p2) X.env)
      standAt tp
      holding [v, ov, iv] (setItem ov iv v)
      release [iv, v, ov] []) := by intro _; rfl)
    (hs : swapsWithSole [.Subscript (.Name x p1) (.Slice lo hi none p2) tp] e pos.line X.env = pure false := by rfl) (hw : swappedStores [.Subscript (.Name x p1) (.Slice lo hi none p2) tp] e X.env = pure none := by rfl)
    (h1 : (assignEach [.Subscript (.Name x p1) (.Slice lo hi none p2) tp] X.env).map (·.2) = [assign (.Subscript (.Name x p1) (.Slice lo hi none p2) tp) X.env] := by rfl) :
    JS X W (.Assign [.Subscript (.Name x p1) (.Slice lo hi none p2) tp] e pos) (sSetCut i fl fh fa) := by
  obtain ⟨te, q1, s1⟩ := h
  obtain ⟨tl, q2, s2⟩ := hl
  obtain ⟨th, q3, s3⟩ := hh
  refine ⟨_, ps_asg q1 (pg_cut (pe_var hN hv hd hcd) q2 q3 ha) hs hw h1, fun Φ G H σ E D S hp => ?_⟩
  refine s1.goS S hp fun d E1 G1 H1 v _ x1 S1 r1 hp => ?_
  cases d with
  | lst ys =>
    cases ee : E1[i]? with
    | none => simp only [ee] at hp; exact hp.elim
    | some sl =>
      cases sl with
      | no => simp only [ee] at hp; exact hp.elim
      | obj _ _ _ _ => simp only [ee] at hp; exact hp.elim
      | val _ => simp only [ee] at hp; exact hp.elim
      | own b l =>
        simp only [ee] at hp
        cases hc : (fl E1).bind fun x => (fh E1).bind fun y => cutB x y l.length with
        | none => rw [hc] at hp; exact hp.elim
        | some ac =>
          obtain ⟨a, c⟩ := ac
          rw [hc] at hp
          simp only at hp
          by_cases cz : l.length + ys.length ≤ 16777216
          · rw [if_pos cz] at hp
            obtain ⟨lo', k1, hc⟩ := Option.bind_eq_some_iff.mp hc
            obtain ⟨hi', k2, hc⟩ := Option.bind_eq_some_iff.mp hc
            obtain ⟨w, hw', q, vs, rfl, h3, h4⟩ := S1.sl i _ ee
            refine ⟨.ref q, hw', ?_⟩
            refine s2 Φ G1 H1 σ E1 _ lo' S1 k1 fun G2 H2 e2 f2 S2 => ?_
            refine s3 Φ G2 H2 σ E1 _ hi' S2 k2 fun G3 H3 e3 f3 S3 => ?_
            obtain ⟨w2, hw2, q2', vs2, e5, h5, h6⟩ := S3.sl i _ ee
            rw [hw'] at hw2
            cases hw2
            cases e5
            cases r1 with
            | lst g1 g2 =>
              have g3 := S3.gh _ _ ((e2.trans e3) _ _ g1)
              obtain ⟨o1, o2, o3⟩ := S3.ow i b l q ee hw'
              refine ⟨q, _, vs2, _, a, c, rfl, rfl, fun z => ?_, h5, g3, by rw [h6.length]; exact hc, sz (by rw [h6.length, g2.length]; exact cz), ?_⟩
              · rw [z, (e2.trans e3) _ _ g1] at o1; cases o1
              · exact hp G3 _ σ (e2.trans e3) (S3.write ee hw' (((h6.take a).append (g2.mono (e2.trans e3))).append (h6.drop c)))
          · rw [if_neg cz] at hp; exact hp.elim
  | _ => exact hp.elim
/-- x.reverse(), x one's own list -/
def sRev (i : Nat) : Env → RS := fun E => match E[i]? with
  | some (.own b l) => .nx (E.set i (.own b l.reverse))
  | _ => .stuck
theorem js_rev {X : Cx} {W : WX} (i : Nat) {x : Str} {p2 apos cpos pos : Pos} (hN : X.N[i]? = some x := by rfl) (hv : Vis X.env.scope x := by first | exact Or.inl rfl | exact Or.inr (Or.inl rfl) | exact Or.inr (Or.inr rfl)) (hd : (x == ("__debug__" : Str)) = false := by decide)
    (hcd : (x == ("__classdict__" : Str)) = false := by decide) (hbase : attributeBase (.Name x p2) "reverse" X.env (eval (.Name x p2) X.env) = eval (.Name x p2) X.env := by rfl) (hline : (apos.endLine == cpos.line) = true := by rfl)
    (hsw : swapsWith (.Call (.Attribute (.Name x p2) "reverse" apos) [] [] cpos) none pos.line X.env = pure false := by rfl) :
    JS X W (.Expr (.Call (.Attribute (.Name x p2) "reverse" apos) [] [] cpos) pos) (sRev i) := by
  refine ⟨_, ps_expr (pe_bm0 PySem.F.plainAttrs_list PySem.F.slot_list_reverse PySem.F.type_list_reverse mt_reverse (pe_var hN hv hd hcd) hbase hline) hsw, fun Φ G H σ E D S hp => ?_⟩
  unfold sRev at hp
  cases e : E[i]? with
  | none => rw [e] at hp; exact hp.elim
  | some s =>
    rw [e] at hp
    cases s with
    | no => exact hp.elim
    | obj _ _ _ _ => exact hp.elim
    | val d => exact hp.elim
    | own b l =>
      obtain ⟨x, hx, q, vs, rfl, h1, h2⟩ := S.sl i _ e
      exact ⟨.ref q, hx, .inl ⟨rfl, vs, SqL.of h1⟩, q, vs, rfl, rfl, h1, hp G _ σ (Ex.refl G) (S.write e hx h2.reverse)⟩
end J

namespace J
open PySem PySem.Spec PyProof.Rows L2

/-! ### [f for g in ds if t for g1 in es if t1] -/
def lcD2 (vs : List Nat) (g : D → Env → Option Env) (t : Env → R Bool) (fi1 : Env → R (List D)) (vs1 : List Nat) (g1 : D → Env → Option Env) (t1 : Env → R Bool) (f : Env → R D) : List D → List D → Env → R (List D)
  | [], acc, E => .ok acc E
  | d :: ds, acc, E => match g d (wipeE vs E) with
    | none => .stuck
    | some E1 => match t E1 with
      | .ok true E2 => (match fi1 E2 with
        | .ok es E3 => (match lcD vs1 g1 t1 f es acc E3 with
          | .ok acc' E4 => lcD2 vs g t fi1 vs1 g1 t1 f ds acc' (wipeE vs E4)
          | _ => .stuck)
        | _ => .stuck)
      | .ok false E2 => lcD2 vs g t fi1 vs1 g1 t1 f ds acc (wipeE vs E2)
      | _ => .stuck
def fLc2 (vs : List Nat) (fi : Env → R (List D)) (g : D → Env → Option Env) (t : Env → R Bool) (fi1 : Env → R (List D)) (vs1 : List Nat) (g1 : D → Env → Option Env) (t1 : Env → R Bool) (f : Env → R D) : Env → R (List D) := fun E => (fi E).bind fun ds E => lcD2 vs g t fi1 vs1 g1 t1 f ds [] E
structure Lc2W (K : PySem.W.Frag) (W : WX) (Φ : Fr) (G1 : Hp) (σ : St) (P : Addr) (Q : V → Hp → Prop) (L : List D → List D → Env → R (List D)) (ds : List D) (i m : Nat) (H : Hp) : Prop where
  le : i ≤ ds.length
  m : m = ds.length - i
  at' : ∃ G E xs acc, Ex G1 G ∧ Sat K Φ G H σ E ∧ H P = some (.lst xs) ∧ RpA K G xs acc ∧ G P = none ∧ Φ.F P = none ∧ NotOwn σ E P ∧ Post K W (relL K) Φ G σ (L (ds.drop i) acc E) Q
theorem NotOwn.unwipe {σ σ' : St} {E : Env} {p : Addr} {vs : List Nat} (n : NotOwn σ' E p) (h : L2.wipe σ' vs = L2.wipe σ vs) : NotOwn σ (wipeE vs E) p := fun i s b h1 hb h2 => by
  have n1 := n.wipe vs
  rw [h] at n1
  have hi : i ∉ vs := fun z => by
    rcases wipeE_in (E := E) z with q | q
    · rw [q] at h1; cases h1; cases hb
    · rw [q] at h1; cases h1
  exact n1 i s b h1 hb (by rw [wipe_out hi]; exact h2)
theorem lc2_snd {K : PySem.W.Frag} {W : WJ} {vs is vs1 is1 : List Nat} {fi fi1 : Env → R (List D)} {g g1 : D → Env → Option Env} {t t1 : Env → R Bool} {f : Env → R D} {wi wi1 : TI} {tg tg1 : TG} {tt tt1 : TT} {te : TE} (hi : Snd K W (relW K) wi fi) (hg : GGo K is g tg) (hvs : ∀ i ∈ is, i ∈ vs) (ht : Snd K V0 relT tt t)
    (hi1 : Snd K V0 (relW K) wi1 fi1) (hg1 : GGo K is1 g1 tg1) (hvs1 : ∀ i ∈ is1, i ∈ vs1) (ht1 : Snd K V0 relT tt1 t1) (he : Snd K V0 (relE K) te f) : Snd K W (relL K) (tLc2 wi tg tt wi1 tg1 tt1 te vs vs1) (fLc2 vs fi g t fi1 vs1 g1 t1 f) := by
  intro Φ G H σ E Q S hP
  refine hi.go S hP fun ds E1 G1 H1 J _ e1 S1 wk hP => ?_
  intro P hPn
  refine ⟨Lc2W K W.w Φ G1 σ P Q (lcD2 vs g t fi1 vs1 g1 t1 f) ds, ⟨_, Nat.zero_le _, rfl, G1, E1, [], [], Ex.refl G1, S1.newH hPn, upd_same, .nil, S1.gh.back hPn, S1.fh.back hPn, S1.notOwn hPn, hP⟩, fun i m H2 w => ?_⟩
  obtain ⟨hle, rfl, G2, E2, xs, acc, x2, S2, hD, ra, gD, fD, nD, hP2⟩ := w
  obtain ⟨ws, wg⟩ := wk Φ G2 H2 σ E2 x2 S2 i hle
  by_cases hi' : i = ds.length
  · refine .inl ⟨ws hi', ?_⟩
    rw [hi', List.drop_length] at hP2
    exact hP2 G2 H2 (.ref P) (Ex.refl G2) S2 ⟨P, xs, rfl, hD, ra, gD, fD, nD⟩
  · have hlt : i < ds.length := by omega
    have hd : ds[i]? = some ds[i] := List.getElem?_eq_getElem hlt
    rw [List.drop_eq_getElem_cons hlt] at hP2
    obtain ⟨go, _⟩ := wg _ hd
    refine .inr ⟨go, fun H' => ∃ m', m' < ds.length - i ∧ Lc2W K W.w Φ G1 σ P Q (lcD2 vs g t fi1 vs1 g1 t1 f) ds (i + 1) m' H', fun H' h => h, fun x H' hy => ?_⟩
    have S2l := S2.lk hD gD nD
    obtain ⟨_, wg2⟩ := wk (Φ.lk P xs) G2 H2 σ E2 x2 S2l i hle
    obtain ⟨G3, x3, S3, r3⟩ := (wg2 _ hd).2 x H' hy
    simp only [lcD2] at hP2
    cases hgd : g ds[i] (wipeE vs E2) with
    | none => rw [hgd] at hP2; exact hP2.elim
    | some E3 =>
      rw [hgd] at hP2
      refine hg (Φ.lk P xs) G3 H' _ (wipeE vs E2) x _ E3 _ (S3.wipe vs) r3 hgd fun G4 H4 σ4 x4 S4 c4 => ?_
      have hw := wipe_of c4 hvs
      refine ⟨hw, ?_⟩
      refine ht (Φ.lk P xs) G4 H4 σ4 E3 _ S4.pw ?_
      cases hte : t E3 with
      | exc x E5 => simp only [hte] at hP2; exact hP2.elim
      | stuck => simp only [hte] at hP2; exact hP2.elim
      | ok b E5 =>
        simp only [hte] at hP2
        intro G5 H5 b' x5 S5 hb
        have hb' : b = b' := hb
        subst hb'
        have again : ∀ {ys : List V} {ac : List D} {G6 : Hp} {H6 : Hp} {E6 : Env}, Ex G2 G6 → Sat K Φ G6 H6 σ (wipeE vs E6) → H6 P = some (.lst ys) → RpA K G6 ys ac → G6 P = none → NotOwn σ (wipeE vs E6) P → Post K W.w (relL K) Φ G2 σ (lcD2 vs g t fi1 vs1 g1 t1 f (ds.drop (i + 1)) ac (wipeE vs E6)) Q →
            ∃ m', m' < ds.length - i ∧ Lc2W K W.w Φ G1 σ P Q (lcD2 vs g t fi1 vs1 g1 t1 f) ds (i + 1) m' H6 := fun x6 S6 h6 r6 g6 n6 p6 => ⟨ds.length - (i + 1), by omega, by omega, rfl, _, _, _, _, x2.trans x6, S6, h6, r6, g6, fD, n6, Post.mono x6 p6⟩
        cases b with
        | false =>
          refine iteF ?_
          obtain ⟨U1, U2, U3, U4⟩ := S5.unlk fD
          exact again (x3.trans (x4.trans x5)) (U1.unwipe hw) U2 (ra.mono (x3.trans (x4.trans x5))) U3 (U4.unwipe hw) hP2
        | true =>
          refine iteT ?_
          refine hi1 (Φ.lk P xs) G5 H5 σ4 E5 _ S5.pw ?_
          cases hfi : fi1 E5 with
          | exc x E6 => simp only [hfi] at hP2; exact hP2.elim
          | stuck => simp only [hfi] at hP2; exact hP2.elim
          | ok es E6 =>
            simp only [hfi] at hP2
            intro G6 H6 J1 x6 S6 wk1
            obtain ⟨U1, U2, U3, U4⟩ := S6.unlk fD
            have xx := x3.trans (x4.trans (x5.trans x6))
            refine ⟨_, ⟨_, Nat.zero_le _, rfl, G6, E6, xs, acc, Ex.refl G6, U1, U2, ra.mono xx, U3, fD, U4, ?_⟩, lc_loop (W := W0) (P := P) (vs := vs1) (t := t1) (f := f) (Fin := fun H' => ∃ m', m' < ds.length - i ∧ Lc2W K W.w Φ G1 σ P Q (lcD2 vs g t fi1 vs1 g1 t1 f) ds (i + 1) m' H') wk1 hg1 hvs1 ht1 he⟩
            show Post K W0 (relL K) Φ G6 σ4 (lcD vs1 g1 t1 f es acc E6) _
            cases hl : lcD vs1 g1 t1 f es acc E6 with
            | exc x E7 => simp only [hl] at hP2; exact hP2.elim
            | stuck => simp only [hl] at hP2; exact hP2.elim
            | ok ac E7 =>
              simp only [hl] at hP2
              intro G7 H7 v x7 S7 rl hv
              obtain ⟨p, ys, rfl, l1, l2, l3, l4, l5⟩ := rl
              cases hv
              exact again (xx.trans x7) (S7.unwipe hw) l1 l2 l3 (l5.unwipe hw) hP2
section
variable {X : Cx} {elt tg iter tg1 iter1 : Expr} {ifs ifs1 : List Expr} {scope : Scope} {pos : Pos} {is is1 : List Nat} {fi fi1 : Env → R (List D)} {g g1 : D → Env → Option Env} {t t1 : Env → R Bool} {f : Env → R D}
theorem jl_lc2 {W : WJ} (own : List (Str × Nat)) (vs1 : List Nat) (hc : X.calm = true) (hN : X.N.Nodup) (hi : JI X W tg iter fi) (ok : BlkOk X.N X.env.scope scope own) (hv : ∀ i ∈ vs1, i ∈ own.map (·.2))
    (hg : ∀ (s : Shared) (H : Hp) (C : Addr) (cl : List (Str × Addr)) (fp : List Addr), JG (X.blk s H scope (compEnvC scope cl C X.env) fp) tg is g) (hvs : ∀ i ∈ is, i ∈ own.map (·.2)) (ht : ∀ (s : Shared) (H : Hp) (C : Addr) (cl : List (Str × Addr)) (fp : List Addr), JTs (X.blk s H scope (compEnvC scope cl C X.env) fp) V0 ifs t)
    (hi1 : ∀ (s : Shared) (H : Hp) (C : Addr) (cl : List (Str × Addr)) (fp : List Addr), JI (X.blk s H scope (compEnvC scope cl C X.env) fp) V0 tg1 iter1 fi1)
    (hg1 : ∀ (s : Shared) (H : Hp) (C : Addr) (cl : List (Str × Addr)) (fp : List Addr), JG (X.blk s H scope (compEnvC scope cl C X.env) fp) tg1 is1 g1) (hvs1 : ∀ i ∈ is1, i ∈ vs1) (ht1 : ∀ (s : Shared) (H : Hp) (C : Addr) (cl : List (Str × Addr)) (fp : List Addr), JTs (X.blk s H scope (compEnvC scope cl C X.env) fp) V0 ifs1 t1)
    (he : ∀ (s : Shared) (H : Hp) (C : Addr) (cl : List (Str × Addr)) (fp : List Addr), JE (X.blk s H scope (compEnvC scope cl C X.env) fp) V0 elt f) (hs : ∀ x, foldedSetIterable iter X.env x = pure x := by intro _; rfl) (hs1 : ∀ env x, foldedSetIterable iter1 env x = pure x := by intro _ _; rfl) :
    JL X W (.ListComp elt [⟨tg, iter, ifs, 0⟩, ⟨tg1, iter1, ifs1, 0⟩] scope pos) (fLc2 (own.map (·.2)) fi g t fi1 vs1 g1 t1 f) := by
  obtain ⟨wi, p1, s1⟩ := hi
  exact ⟨_, pe_lc2 hc hN p1 ok hv (fun s H C cl fp => (hg s H C cl fp).can) (fun s H C cl fp => (ht s H C cl fp).can) (fun s H C cl fp => (hi1 s H C cl fp).can) (fun s H C cl fp => (hg1 s H C cl fp).can) (fun s H C cl fp => (ht1 s H C cl fp).can) (fun s H C cl fp => (he s H C cl fp).can) hs hs1,
    lc2_snd s1 canG.go hvs canE.snd canE.snd canG.go hvs1 canE.snd canE.snd⟩
theorem js_setLc2 {W : WX} (i : Nat) {y : Str} {py spos : Pos} (own : List (Str × Nat)) (vs1 : List Nat) (hc : X.calm = true) (hN : X.N.Nodup) (hi : JI X (pw W) tg iter fi) (ok : BlkOk X.N X.env.scope scope own) (hv : ∀ i ∈ vs1, i ∈ own.map (·.2))
    (hg : ∀ (s : Shared) (H : Hp) (C : Addr) (cl : List (Str × Addr)) (fp : List Addr), JG (X.blk s H scope (compEnvC scope cl C X.env) fp) tg is g) (hvs : ∀ i ∈ is, i ∈ own.map (·.2)) (ht : ∀ (s : Shared) (H : Hp) (C : Addr) (cl : List (Str × Addr)) (fp : List Addr), JTs (X.blk s H scope (compEnvC scope cl C X.env) fp) V0 ifs t)
    (hi1 : ∀ (s : Shared) (H : Hp) (C : Addr) (cl : List (Str × Addr)) (fp : List Addr), JI (X.blk s H scope (compEnvC scope cl C X.env) fp) V0 tg1 iter1 fi1)
    (hg1 : ∀ (s : Shared) (H : Hp) (C : Addr) (cl : List (Str × Addr)) (fp : List Addr), JG (X.blk s H scope (compEnvC scope cl C X.env) fp) tg1 is1 g1) (hvs1 : ∀ i ∈ is1, i ∈ vs1) (ht1 : ∀ (s : Shared) (H : Hp) (C : Addr) (cl : List (Str × Addr)) (fp : List Addr), JTs (X.blk s H scope (compEnvC scope cl C X.env) fp) V0 ifs1 t1)
    (he : ∀ (s : Shared) (H : Hp) (C : Addr) (cl : List (Str × Addr)) (fp : List Addr), JE (X.blk s H scope (compEnvC scope cl C X.env) fp) V0 elt f)
    (hy : X.N[i]? = some y := by rfl) (hyl : X.env.scope.names.lookup y = some .local := by rfl) (hk : X.env.scope.kind = .function := by rfl) (hl3 : (py.line == pos.line) = true := by rfl)
    (ha : (scope.names.any fun (n, k) => n == y && (k == .local || k == .cell)) = false := by decide +kernel) (hs : ∀ x, foldedSetIterable iter X.env x = pure x := by intro _; rfl) (hs1 : ∀ env x, foldedSetIterable iter1 env x = pure x := by intro _ _; rfl) :
    JS X W (.Assign [.Name y py] (.ListComp elt [⟨tg, iter, ifs, 0⟩, ⟨tg1, iter1, ifs1, 0⟩] scope pos) spos) (sSetL i (fLc2 (own.map (·.2)) fi g t fi1 vs1 g1 t1 f)) := by
  obtain ⟨wi, p1, s1⟩ := hi
  refine ⟨_, ps_setLc2 (g := canG X.K is g) (tt := canE X.K V0 relT t) (wi1 := canE X.K V0 (relW X.K) fi1) (g1 := canG X.K is1 g1) (tt1 := canE X.K V0 relT t1) (te := canE X.K V0 (relE X.K) f) hc hN hy hyl (sw_true hk hyl hl3 ha) p1 ok hv (fun s H C cl fp => (hg s H C cl fp).can) (fun s H C cl fp => (ht s H C cl fp).can) (fun s H C cl fp => (hi1 s H C cl fp).can)
    (fun s H C cl fp => (hg1 s H C cl fp).can) (fun s H C cl fp => (ht1 s H C cl fp).can) (fun s H C cl fp => (he s H C cl fp).can) hs hs1, fun Φ G H σ E D S hp => ?_⟩
  have sn : Snd X.K (pw W) (relL X.K) _ (fLc2 (own.map (·.2)) fi g t fi1 vs1 g1 t1 f) := lc2_snd s1 (canG.go (K := X.K) (is := is) (g := g)) hvs (canE.snd (K := X.K) (W := V0) (rel := relT) (f := t)) (canE.snd (K := X.K) (W := V0) (rel := relW X.K) (f := fi1)) (canG.go (K := X.K) (is := is1) (g := g1)) hvs1 (canE.snd (K := X.K) (W := V0) (rel := relT) (f := t1)) (canE.snd (K := X.K) (W := V0) (rel := relE X.K) (f := f))
  refine sn.goS S hp fun l E' G' H' v _ e' S' r hp => ?_
  obtain ⟨q, vs, rfl, h1, h2, h3, h4, h5⟩ := r
  exact hp G' H' _ (Ex.refl G') (S'.setO h1 h2 h3 h4 h5)
end
end J

namespace J
open PySem PySem.Spec PyProof.Rows L2

/-! ### x <= y of ints and tuples of such -/
mutual
def numP : PyData → Bool
  | .int _ => true
  | .tuple xs => numPs xs
  | _ => false
def numPs : List PyData → Bool
  | [] => true
  | x :: xs => numP x && numPs xs
end
mutual
def leP : PyData → PyData → Bool
  | .int i, y => match y with | .int j => decide (i ≤ j) | _ => false
  | .tuple xs, y => match y with | .tuple ys => lePs xs ys | _ => false
  | _, _ => false
def lePs : List PyData → List PyData → Bool
  | [], _ => true
  | x :: xs, ys => match ys with
    | [] => false
    | y :: ys => if PyData.eqv x y = true then lePs xs ys else leP x y
end
theorem lexAt_up {e r : Nat → Bool} {z : Bool} : ∀ (k i : Nat), Ob.lexAt (fun j => e (j + 1)) (fun j => r (j + 1)) z i k = Ob.lexAt e r z (i + 1) k
  | 0, i => rfl
  | k + 1, i => by rw [Ob.lexAt_succ, Ob.lexAt_succ, lexAt_up k (i + 1)]
theorem lePs_lex : ∀ (xs ys : List PyData), lePs xs ys = Ob.lexAt (fun j => PyData.eqv (xs.getD j .none) (ys.getD j .none)) (fun j => leP (xs.getD j .none) (ys.getD j .none)) (decide (xs.length ≤ ys.length)) 0 (min xs.length ys.length)
  | [], ys => by simp [lePs, Ob.lexAt]
  | x :: xs, [] => by simp [lePs, Ob.lexAt]
  | x :: xs, y :: ys => by
    have h := lePs_lex xs ys
    have hm : min (x :: xs).length (y :: ys).length = min xs.length ys.length + 1 := by simp only [List.length_cons]; omega
    have hd : decide ((x :: xs).length ≤ (y :: ys).length) = decide (xs.length ≤ ys.length) := by simp
    rw [hm, hd, Ob.lexAt_succ, lePs, ← lexAt_up, h]
    rfl
open PySem.W in
mutual
theorem rc_le : ∀ (x y : PyData) (A : Around) (s : Shared) (a b : Value) (as bs : List Addr), Reads s.heap a x as → Reads s.heap b y bs → alike x y = true → numP x = true → A.units + min x.depth y.depth < cLine → Ob.RcOp .LtE A s a b (leP x y)
  | .int i, y, A, s, a, b, as, bs, ra, rb, h, hn, hu => by
    cases y with
    | int j => cases ra; cases rb; exact Ob.RcOp.le_int _ _ _ _
    | _ => simp [alike] at h
  | .tuple xs, y, A, s, a, b, as, bs, ra, rb, h, hn, hu => by
    cases y with
    | tuple ys =>
      have hal : alikeAll xs ys = true := by simpa [alike] using h
      have hns : numPs xs = true := by simpa [numP] using hn
      cases ra with
      | @tuple l o vs n _ as₁ h1 h2 h3 h4 =>
        cases rb with
        | @tuple l' o' vs' n' _ bs₁ k1 k2 k3 k4 =>
          have n1 : vs.size = xs.length := by simpa using SeqAt.ReadsAll.length _ _ _ h4
          have n2 : vs'.size = ys.length := by simpa using SeqAt.ReadsAll.length _ _ _ k4
          have e : leP (.tuple xs) (.tuple ys) = Ob.lexAt (fun j => PyData.eqv (xs.getD j .none) (ys.getD j .none)) (fun j => leP (xs.getD j .none) (ys.getD j .none)) (decide (vs.size ≤ vs'.size)) 0 (min vs.size vs'.size) := by rw [n1, n2, ← lePs_lex]; rfl
          rw [e]
          refine Ob.RcOp.tuples_le ⟨_, h1, h2, _, h3⟩ ⟨_, k1, k2, _, k3⟩ (SeqAt.room_here hu) (fun j j1 j2 => ?_) fun j j1 j2 hj => ?_
          · have q := eqAt_alikeAll xs ys A.in1 s vs.toList vs'.toList _ _ h4 k4 hal (SeqAt.room_in hu) j (by simpa using j1) (by simpa using j2)
            have e3 : SeqAt.pairEq xs ys j = PyData.eqv (xs.getD j .none) (ys.getD j .none) := rfl
            rw [← e3]
            simpa using q
          · have q := rc_les xs ys A.in1 s vs.toList vs'.toList _ _ h4 k4 hal hns (SeqAt.room_in hu) j (by simpa using j1) (by simpa using j2)
            simpa using q
    | _ => simp [alike] at h
  | .none, y, A, s, a, b, as, bs, ra, rb, h, hn, hu => by simp [numP] at hn
  | .bool _, y, A, s, a, b, as, bs, ra, rb, h, hn, hu => by simp [numP] at hn
  | .str _, y, A, s, a, b, as, bs, ra, rb, h, hn, hu => by simp [numP] at hn
  | .list _, y, A, s, a, b, as, bs, ra, rb, h, hn, hu => by simp [numP] at hn
  | .dict _, y, A, s, a, b, as, bs, ra, rb, h, hn, hu => by simp [numP] at hn
theorem rc_les : ∀ (xs ys : List PyData) (A : Around) (s : Shared) (vs ws : List Value) (as bs : List Addr), ReadsAll s.heap vs xs as → ReadsAll s.heap ws ys bs → alikeAll xs ys = true → numPs xs = true → A.units + min (PyData.depthAll xs) (PyData.depthAll ys) < cLine →
    ∀ j (h1 : j < vs.length) (h2 : j < ws.length), Ob.RcOp .LtE A s vs[j] ws[j] (leP (xs.getD j .none) (ys.getD j .none))
  | [], _, _, _, _, _, _, _, ra, _, _, _, _, j, h1, _ => by cases ra; exact absurd h1 (Nat.not_lt_zero _)
  | _ :: _, [], _, _, _, _, _, _, _, rb, _, _, _, j, _, h2 => by cases rb; exact absurd h2 (Nat.not_lt_zero _)
  | x :: xs, y :: ys, A, s, _, _, _, _, ra, rb, h, hn, hu, j, h1, h2 => by
    have hn' : numP x = true ∧ numPs xs = true := by simpa [numPs] using hn
    cases ra with
    | cons r rs =>
      cases rb with
      | cons r' rs' =>
        cases j with
        | zero => exact rc_le x y A s _ _ _ _ r r' (alike_all_cons h).1 hn'.1 (SeqAt.room_head hu)
        | succ j => exact rc_les xs ys A s _ _ _ _ rs rs' (alike_all_cons h).2 hn'.2 (SeqAt.room_tail hu) j (Nat.lt_of_succ_lt_succ h1) (Nat.lt_of_succ_lt_succ h2)
end
abbrev rLeP (K : PySem.W.Frag) : R2 := fun x y H Q => ∃ d e, Dp K H x d ∧ Dp K H y e ∧ PySem.W.alike d e = true ∧ numP d = true ∧ d.depth ≤ 60 ∧ Q (.bl (leP d e)) H
theorem op_leP {X : Cx} (hu : X.A.units + 64 < cLine) : OpR X (compareOp .LtE) (rLeP X.K) := by
  intro pins s σ H x y v u Q I rx ry h
  obtain ⟨d, e, hd, he, ha, hn, hz, q⟩ := h
  obtain ⟨as, r1⟩ := Dp.reads I d x v hd rx
  obtain ⟨bs, r2⟩ := Dp.reads I e y u he ry
  have R := rc_le d e X.A s v u as bs r1 r2 ha hn (by omega)
  exact R X.prog X.w X.xe (EP X pins σ Q) ⟨.bl _, H, I, rfl, q⟩
def gLeP : D → D → Option D := fun a b => if (plain a && plain b && PySem.W.alike (toPy a) (toPy b) && numP (toPy a) && decide ((toPy a).depth ≤ 60)) = true then some (.bl (leP (toPy a) (toPy b))) else none
theorem opS_leP {K : PySem.W.Frag} : OpS K (rLeP K) gLeP := by
  intro Φ G H σ E x y a b d Q S ha hb hd k
  obtain ⟨c, rfl⟩ := if_some hd
  simp only [Bool.and_eq_true, decide_eq_true_eq] at c
  obtain ⟨⟨⟨⟨c1, c2⟩, c3⟩, c4⟩, c5⟩ := c
  exact ⟨_, _, ha.dp c1 S.gh, hb.dp c2 S.gh, c3, c4, c5, k G H _ (Ex.refl G) (Ex.refl H) S (.bl _)⟩
end J

namespace J
open PySem PySem.Spec PyProof.Rows L2

/-! ### the head's facts: own exception classes too -/
def oexB (K : PySem.W.Frag) (C : Addr) : Bool := match K.lookup C with
  | some ⟨.type "type", _, .cls cd, sl⟩ => (match cd.mro, sl.toList with
    | .ref C' :: bm, [_, _, _, _, some (.builtin n), _] => C' == C && (n == "ValueError.__new__" && (!cd.hasDel && (cd.hasDict && PySem.HandSPX.refsVE bm)))
    | _, _ => false)
  | _ => false
theorem oexB_ok {K : PySem.W.Frag} {C : Addr} (h : oexB K C = true) : ∃ nm q N bs bm sn sub ab col dd k0 k1 k2 k3 k5, K.lookup C = some (excClassObj nm q C N bs bm true sn sub ab col dd k0 k1 k2 k3 k5 "ValueError.__new__") ∧ PySem.HandSPX.refsVE bm = true := by
  unfold oexB at h
  split at h
  · rename_i dd cd sl ho
    split at h
    · rename_i C' bm k0 k1 k2 k3 n k5 hm hs
      simp only [Bool.and_eq_true, beq_iff_eq, Bool.not_eq_true'] at h
      obtain ⟨rfl, rfl, hdel, hdct, hbm⟩ := h
      obtain ⟨nm, bs, mro, ns, qn, hd, sn, sub, ab, col, del⟩ := cd
      dsimp only at hm hdel hdct
      subst hm hdel hdct
      obtain ⟨l⟩ := sl
      simp only at hs
      subst hs
      exact ⟨nm, qn, ns, bs, bm, sn, sub, ab, col, dd, k0, k1, k2, k3, k5, ho, hbm⟩
    · cases h
  · cases h
inductive Cn where
  | own (c : Str)
  | ty (t : String)
def Cn.v (K : PySem.W.Frag) : Cn → Value
  | .own c => .ref (He.ga K c)
  | .ty t => .type t
inductive Fb where
  | any
  | exc (c : Str)
  | sup (c : Str)
  | noat (c f : Str)
  | exm (a b : Str) (r : Bool)
  | kit1 (a : Str) (c : Cn) (r : Bool)
  | kitN (a : Str) (cs : List Cn) (r : Bool)
def excB (K : PySem.W.Frag) (C : Addr) : Bool := oexB K C && (He.eqO (PySem.W.findIn K (.ref C) "__setattr__") (some (some (.builtin "object.__setattr__"))) && (decide (PySem.W.subIn K (.ref C) (.type "BaseException") = some true) && (decide (PySem.W.typeIn K (.ref C) = some (.type "type")) && (PySem.W.keepIn K (.ref C) &&
  (He.eqO (PySem.W.findIn K (.ref C) "__getattribute__") (some (some (.builtin "BaseException.__getattribute__"))) && (He.eqO (PySem.W.findIn K (.ref C) "__getattr__") (some none) && (PySem.W.hasDictIn K C && (He.eqO (PySem.W.findIn K (.ref C) "__class__") (some (some (.builtin "object.__class__"))) &&
  (He.eqO (PySem.W.specialIn K (.builtin "object.__class__") "__get__") (some (some (.builtin "getset_descriptor.__get__"))) && (decide (PySem.W.takesIn K (.builtin "object.__class__") = some true) && decide (PySem.W.mroIn K C (.type "object") = some true)))))))))))
def supB (K : PySem.W.Frag) (C : Addr) : Bool := He.eqO (PySem.W.ks_superIn K C C "__init__") (some (some (.builtin "ValueError.__init__"))) && (decide (PySem.W.subIn K (.ref C) (.type "ValueError") = some true) && (decide (PySem.W.mroIn K C (.ref C) = some true) &&
  (He.eqO (PySem.W.findIn K (.ref C) "__init__") (some (some (.ref (He.ma K C "__init__")))) && decide (PySem.W.typeIn K (.ref (He.ma K C "__init__")) = some (.type "function")))))
def Fb.ok (K : PySem.W.Frag) : Fb → Bool
  | .any => He.eqO (PySem.W.nsIn K PySem.cStatics "thirdparty.any") (some none)
  | .exc c => excB K (He.ga K c)
  | .sup c => supB K (He.ga K c)
  | .noat c f => He.eqO (PySem.W.findIn K (.ref (He.ga K c)) f) (some none)
  | .exm a b r => decide (PySem.W.exmOne K (.ref (He.ga K a)) (.ref (He.ga K b)) = some r)
  | .kit1 a c r => decide (PySem.W.kitOne K (.ref (He.ga K a)) (c.v K) = some r)
  | .kitN a cs r => decide (PySem.W.kitAny K (.ref (He.ga K a)) (cs.map (Cn.v K)) = some r)
section
variable {K : PySem.W.Frag} {C : Addr}
theorem excB_oex (h : excB K C = true) : OexC K C := by
  unfold excB at h
  simp only [Bool.and_eq_true] at h
  obtain ⟨h1, h2, h3, h4, h5, _⟩ := h
  exact ⟨oexB_ok h1, He.eqO_ok h2, of_decide_eq_true h3, of_decide_eq_true h4, h5⟩
theorem excB_exc (h : excB K C = true) : ExcC K C := by
  unfold excB at h
  simp only [Bool.and_eq_true] at h
  obtain ⟨h1, h2, h3, h4, h5, h6, h7, h8, h9, h10, h11, h12⟩ := h
  exact ⟨He.eqO_ok h6, He.eqO_ok h7, of_decide_eq_true h3, h8, He.eqO_ok h9, He.eqO_ok h10, of_decide_eq_true h11, of_decide_eq_true h12⟩
theorem excB_xf (h : excB K C = true) : XfC K C := by
  have T := excB_exc h
  exact ⟨T.hg, T.hk, T.hs, T.hd⟩
end

/-! ### an __init__ that closes over __class__ -/
structure DefS where
  c : Str
  name : Str
  qual : Str
  params : Arguments
  body : List Stmt
  scope : Scope
  file : Str
abbrev FnS : Type := Option (Str × Str × Arguments × FuncBody × Scope × Addr × List Str × Addr)
def fnS (K : PySem.W.Frag) (c : Str) : FnS := match K.lookup (He.ma K (He.ga K c) "__init__") with
  | some ⟨_, _, .func fd, _⟩ => some (fd.name, fd.qualname, fd.params, fd.body, fd.scope, fd.globals, fd.closure.map (·.1), fd.builtins)
  | _ => none
def DefS.val (d : DefS) : FnS := some (d.name, d.qual, d.params, .stmts d.body, d.scope, mainGlobals, ["__class__"], builtinsNs)
def cellB (K : PySem.W.Frag) (C : Addr) (cl : List (Str × Addr)) : Bool := match cl with
  | [(_, cc)] => (match K.lookup cc with
    | some ⟨_, _, .cell (some (.ref D)), _⟩ => decide (D = C)
    | _ => false)
  | _ => false
def fileB (K : PySem.W.Frag) (file : Str) (cd : Value) : Bool := match cd with
  | .ref a => (match K.lookup a with
    | some ⟨_, _, Data.fields vs, _⟩ => (match vs[2]? with
      | some (Value.str f _) => (file : Str) == f
      | _ => false)
    | _ => false)
  | _ => false
def noneB : Value → Bool
  | .none => true
  | _ => false
def DefS.ok (K : PySem.W.Frag) (d : DefS) : Bool := match K.lookup (He.ma K (He.ga K d.c) "__init__") with
  | some ⟨_, _, .func fd, _⟩ => PySem.W.codeIn K fd.code d.qual && (cellB K (He.ga K d.c) fd.closure && (fileB K d.file fd.code && noneB fd.defaults))
  | _ => false
structure FunS (K : PySem.W.Frag) (d : DefS) (f : Addr) (fd : FuncData) : Prop where
  ex : ∃ (oc : Value) (od : Option Addr) (kV doc pm ct cl : Value) (an cld : Option Addr) (cda cc : Addr) (osl csl : Array (Option Value)) (ccl : Value) (cdd : Option Addr) (vs : Array Value) (ccs : Array (Option Value)) (file : Str) (tf : Tok),
    fd = PySem.W.ksFn d.name d.qual d.params d.body d.scope .none kV doc pm an (.ref cda) ct cc ∧ K.lookup f = some ⟨oc, od, .func fd, osl⟩ ∧ PySem.W.codeIn K (.ref cda) d.qual = true ∧ K.lookup cc = some ⟨cl, cld, .cell (some (.ref (He.ga K d.c))), csl⟩ ∧
      K.lookup cda = some ⟨ccl, cdd, .fields vs, ccs⟩ ∧ vs[2]? = some (.str file tf) ∧ ((d.file : Str) == file) = true
theorem DefS.funS {K : PySem.W.Frag} {d : DefS} (e : fnS K d.c = d.val) (c : d.ok K = true) : ∃ fd, FunS K d (He.ma K (He.ga K d.c) "__init__") fd := by
  unfold DefS.ok at c
  unfold fnS at e
  cases q : K.lookup (He.ma K (He.ga K d.c) "__init__") with
  | none => rw [q] at c; cases c
  | some o =>
    obtain ⟨oc, od, dt, osl⟩ := o
    rw [q] at c e
    cases dt with
    | func fd =>
      obtain ⟨n1, n2, n3, n4, n5, n6, n7, n8, n9, n10, n11, n12, n13, n14, n15⟩ := fd
      have e2 : (some (n1, n2, n3, n4, n5, n6, n7.map (·.1), n15) : FnS) = (some (d.name, d.qual, d.params, .stmts d.body, d.scope, mainGlobals, ["__class__"], builtinsNs) : FnS) := e
      simp only [Option.some.injEq, Prod.mk.injEq] at e2
      obtain ⟨h1, h2, h3, h4, h5, h6, h7, h8⟩ := e2
      subst h1 h2 h3 h4 h5 h6 h8
      have c3 : (PySem.W.codeIn K n13 d.qual && (cellB K (He.ga K d.c) n7 && (fileB K d.file n13 && noneB n8))) = true := c
      simp only [Bool.and_eq_true] at c3
      obtain ⟨k1, k2, k3, k4⟩ := c3
      cases n7 with
      | nil => simp at h7
      | cons p r =>
        cases r with
        | cons _ _ => simp at h7
        | nil =>
          obtain ⟨x, cc⟩ := p
          have hx : x = "__class__" := by simpa using h7
          subst hx
          have k2' : (match K.lookup cc with
            | some ⟨_, _, .cell (some (.ref D)), _⟩ => decide (D = He.ga K d.c)
            | _ => false) = true := k2
          split at k2'
          · rename_i cl cld D csl hc
            have hD : D = He.ga K d.c := of_decide_eq_true k2'
            subst hD
            cases n13 with
            | ref cda =>
              have k3' : (match K.lookup cda with
                | some ⟨_, _, Data.fields vs, _⟩ => (match vs[2]? with
                  | some (Value.str f _) => (d.file : Str) == f
                  | _ => false)
                | _ => false) = true := k3
              split at k3'
              · rename_i ccl cdd vs ccs hcd
                split at k3'
                · rename_i file tf hv
                  cases n8 with
                  | none => exact ⟨_, oc, od, n9, n10, n11, n14, cl, n12, cld, cda, cc, osl, csl, ccl, cdd, vs, ccs, file, tf, rfl, q, k1, hc, hcd, hv, k3'⟩
                  | _ => cases k4
                · cases k3'
              · cases k3'
            | _ => cases k3
          · cases k2'
    | _ => cases c
theorem FunS.binds {K : PySem.W.Frag} {d : DefS} {f : Addr} {fd : FuncData} {ps : List Str} (F : FunS K d f fd)
    (h : ∀ (kV doc pm ct : Value) (an : Option Addr) (cda cc : Addr) (us : List Value), us.length = ps.length → bindArgs (PySem.W.ksFn d.name d.qual d.params d.body d.scope .none kV doc pm an (.ref cda) ct cc) ⟨us, []⟩ = pure (ps.zip us)) : Binds K fd ps [] := by
  obtain ⟨oc, od, kV, doc, pm, ct, cl, an, cld, cda, cc, osl, csl, ccl, cdd, vs, ccs, file, tf, rfl, _⟩ := F.ex
  exact .all (h kV doc pm ct an cda cc)

/-! ### the Hook -/
abbrev AlJ : Type := Bool × List He.FnW × List FnS
def obsJ (fa : List He.Fa) (fb : List Fb) (fn : List He.DefD) (fs : List DefS) (K : PySem.W.Frag) : AlJ := ((fa.all fun f => f.ok K) && ((fb.all fun f => f.ok K) && ((fn.all fun d => d.ok K) && fs.all fun d => d.ok K)), fn.map fun d => He.fnW K d.at_, fs.map fun d => fnS K d.c)
def valJ (fn : List He.DefD) (fs : List DefS) : AlJ := (true, fn.map He.DefD.val, fs.map DefS.val)
def SaysJ (fa : List He.Fa) (fb : List Fb) (fn : List He.DefD) (fs : List DefS) (K : PySem.W.Frag) : Prop := obsJ fa fb fn fs K = valJ fn fs
def asJ (g : Addr → Option Obj) (n : Nat) : List Addr := He.growD g (PySem.cStatics :: He.asD g n)
def obsJG (n : Nat) (fa : List He.Fa) (fb : List Fb) (fn : List He.DefD) (fs : List DefS) (g : Addr → Option Obj) : AlJ := obsJ fa fb fn fs (He.frG g (asJ g n))
def hookJ (n : Nat) (fa : List He.Fa) (fb : List Fb) (fn : List He.DefD) (fs : List DefS) : PySem.W.Hook where
  α := AlJ
  obs := fun s => obsJG n fa fb fn fs s.heap.get?
  val := fun _ => valJ fn fs
  says := fun _ h => ∃ K : PySem.W.Frag, K.In h ∧ SaysJ fa fb fn fs K
  of := fun _ _ e => ⟨_, He.frG_in, e⟩
  keeps := fun _ _ _ ⟨K, hK, c⟩ k => ⟨K, PySem.W.Frag.In.keeps hK k, c⟩
theorem obsJG_eq {n : Nat} {fa : List He.Fa} {fb : List Fb} {fn : List He.DefD} {fs : List DefS} {g : Addr → Option Obj} {s : Shared} (h : ∀ a, g a = s.heap.get? a) : obsJG n fa fb fn fs g = (hookJ n fa fb fn fs).obs s := by
  have e : g = s.heap.get? := funext h
  rw [e] <;> rfl
section
variable {fa : List He.Fa} {fb : List Fb} {fn : List He.DefD} {fs : List DefS} {K : PySem.W.Frag}
theorem SaysJ.alls (c : SaysJ fa fb fn fs K) : (∀ f ∈ fa, f.ok K = true) ∧ (∀ f ∈ fb, f.ok K = true) ∧ (∀ d ∈ fn, d.ok K = true) ∧ ∀ d ∈ fs, d.ok K = true := by
  have c1 : ((fa.all fun f => f.ok K) && ((fb.all fun f => f.ok K) && ((fn.all fun d => d.ok K) && fs.all fun d => d.ok K))) = true := congrArg (fun z : AlJ => z.1) c
  simp only [Bool.and_eq_true, List.all_eq_true] at c1
  exact c1
theorem SaysJ.fact (c : SaysJ fa fb fn fs K) (i : Nat) {f : He.Fa} (h : fa[i]? = some f := by rfl) : f.ok K = true := c.alls.1 f (List.mem_of_getElem? h)
theorem SaysJ.factB (c : SaysJ fa fb fn fs K) (i : Nat) {f : Fb} (h : fb[i]? = some f := by rfl) : f.ok K = true := c.alls.2.1 f (List.mem_of_getElem? h)
theorem SaysJ.def_ (c : SaysJ fa fb fn fs K) (i : Nat) {d : He.DefD} (h : fn[i]? = some d := by rfl) : ∃ fd, FunD K d.name d.qual d.params d.body d.scope (d.dvs K) (d.kws K) (He.fAd K d.at_) fd := by
  have e : fn.map (fun d => He.fnW K d.at_) = fn.map He.DefD.val := congrArg (fun z : AlJ => z.2.1) c
  have e2 : (fn.map fun d => He.fnW K d.at_)[i]? = (fn.map He.DefD.val)[i]? := by rw [e]
  rw [List.getElem?_map, List.getElem?_map, h] at e2
  exact He.DefD.funD (Option.some.inj e2) (c.alls.2.2.1 d (List.mem_of_getElem? h))
theorem SaysJ.ini (c : SaysJ fa fb fn fs K) (i : Nat) {d : DefS} (h : fs[i]? = some d := by rfl) : ∃ fd, FunS K d (He.ma K (He.ga K d.c) "__init__") fd := by
  have e : fs.map (fun d => fnS K d.c) = fs.map DefS.val := congrArg (fun z : AlJ => z.2.2) c
  have e2 : (fs.map fun d => fnS K d.c)[i]? = (fs.map DefS.val)[i]? := by rw [e]
  rw [List.getElem?_map, List.getElem?_map, h] at e2
  exact DefS.funS (Option.some.inj e2) (c.alls.2.2.2 d (List.mem_of_getElem? h))
end
end J

namespace J
open PySem PySem.Spec PyProof.Rows L2

/-! ### fields by name -/
def fldD (f : Str) : List Str → List D → Option D
  | n :: ns, d :: ds => if f == n then some d else fldD f ns ds
  | _, _ => none
def putN (f : Str) : List Str → List Str
  | [] => [f]
  | n :: ns => if n = f then n :: ns else n :: putN f ns
def putL {α : Type} (f : Str) (x : α) : List Str → List α → List α
  | [], _ => [x]
  | n :: ns, d :: ds => if n = f then x :: ds else d :: putL f x ns ds
  | _ :: _, [] => []
section
variable {K : PySem.W.Frag} {G : Hp}
theorem fld_zip {f : Str} : ∀ {ns : List Str} {vs : List V} {ds : List D} {d : D}, RpA K G vs ds → vs.length = ns.length → fldD f ns ds = some d → ∃ v, (ns.zip vs).lookup f = some v ∧ Rp K G v d
  | [], _, _, _, _, _, e => by cases e
  | n :: ns, [], _, _, _, hl, _ => by simp at hl
  | n :: ns, v :: vs, _, _, .cons r rs, hl, e => by
    unfold fldD at e
    by_cases h : (f == n) = true
    · rw [if_pos h] at e; cases e
      exact ⟨v, by simp only [List.zip_cons_cons, List.lookup, h], r⟩
    · rw [if_neg h] at e
      obtain ⟨w, h1, h2⟩ := fld_zip rs (by simpa using hl) e
      exact ⟨w, by simp only [List.zip_cons_cons, List.lookup, Bool.eq_false_iff.mpr h]; exact h1, h2⟩
theorem fld_no {f : Str} : ∀ {ns : List Str} {vs : List V}, ns.contains f = false → (ns.zip vs).lookup f = none
  | [], vs, _ => by cases vs <;> rfl
  | n :: ns, [], _ => rfl
  | n :: ns, v :: vs, h => by
    rw [List.contains_cons, Bool.or_eq_false_iff] at h
    simp only [List.zip_cons_cons, List.lookup, h.1]
    exact fld_no h.2
theorem put_zip {f : Str} {v : V} : ∀ {ns : List Str} {vs : List V}, vs.length = ns.length → L2.putF f v (ns.zip vs) = (putN f ns).zip (putL f v ns vs)
  | [], [], _ => rfl
  | [], _ :: _, h => by simp at h
  | _ :: _, [], h => by simp at h
  | n :: ns, x :: vs, h => by
    simp only [List.zip_cons_cons, L2.putF, putN, putL]
    by_cases e : n = f
    · simp only [if_pos e, List.zip_cons_cons]
    · simp only [if_neg e, List.zip_cons_cons]
      rw [put_zip (by simpa using h)]
theorem put_len {α : Type} {f : Str} {x : α} : ∀ {ns : List Str} {vs : List α}, vs.length = ns.length → (putL f x ns vs).length = (putN f ns).length
  | [], [], _ => rfl
  | [], _ :: _, h => by simp at h
  | _ :: _, [], h => by simp at h
  | n :: ns, y :: vs, h => by
    simp only [putN, putL]
    by_cases e : n = f
    · simp only [if_pos e, List.length_cons]; simpa using h
    · simp only [if_neg e, List.length_cons]; rw [put_len (by simpa using h)]
theorem put_rp {f : Str} {v : V} {d : D} (r : Rp K G v d) : ∀ {ns : List Str} {vs : List V} {ds : List D}, RpA K G vs ds → vs.length = ns.length → RpA K G (putL f v ns vs) (putL f d ns ds)
  | [], [], _, .nil, _ => .cons r .nil
  | [], _ :: _, _, _, h => by simp at h
  | _ :: _, [], _, _, h => by simp at h
  | n :: ns, y :: vs, _, .cons q qs, h => by
    simp only [putL]
    by_cases e : n = f
    · simp only [if_pos e]; exact .cons r qs
    · simp only [if_neg e]; exact .cons q (put_rp r qs (by simpa using h))
end
/-- the classes named by ok have instances with a plain attribute f -/
def FldOk (K : PySem.W.Frag) (ok : Str → Bool) (f : Str) : Prop := ∀ c, ok c = true → Cls K (He.ga K c) ∧ NoAttr K (He.ga K c) f

/-! ### o.f -/
section
variable {X : Cx} {W : WJ} {e o : Expr} {fa : Env → R D} {f : Str} {pos p2 p3 : Pos} {ok : Str → Bool}
def insF (ok : Str → Bool) (f : Str) : D → Option D
  | .ins c ns ds => if ok c = true then fldD f ns ds else none
  | _ => none
def fFld (ok : Str → Bool) (f : Str) (fa : Env → R D) : Env → R D := fun1 (insF ok f) fa
theorem j_fld (hf : FldOk X.K ok f) (h : JE X W e fa) (hb : attributeBase e f X.env (eval e X.env) = eval e X.env := by rfl) : JE X W (.Attribute e f pos) (fFld ok f fa) := by
  obtain ⟨ta, pa, sa⟩ := h
  refine ⟨_, pe_fld pa hb, fun Φ G H σ E Q S hp => ?_⟩
  have hp' : Post X.K W.w (relE X.K) Φ G σ ((fa E).bind fun x E => match insF ok f x with | some d => .ok d E | none => .stuck) Q := hp
  refine sa.go S hp' fun d E1 G1 H1 v _ e1 S1 r1 hp => ?_
  cases hi : insF ok f d with
  | none => rw [hi] at hp; exact hp.elim
  | some x =>
    rw [hi] at hp
    cases d with
    | ins c ns ds =>
      have hi' : (if ok c = true then fldD f ns ds else none) = some x := hi
      cases r1 with
      | ins h1 h2 h3 =>
        by_cases hc : ok c = true
        · rw [if_pos hc] at hi'
          obtain ⟨w, k1, k2⟩ := fld_zip h3 h2 hi'
          exact ⟨_, _, _, _, w, rfl, S1.gh _ _ h1, (hf c hc).1, (hf c hc).2, k1, hp G1 H1 w (Ex.refl G1) S1 k2⟩
        · rw [if_neg hc] at hi'; cases hi'
    | _ => cases hi
/-- self.f in a def that has self for its own -/
def fFldO (ok : Str → Bool) (i : Nat) (f : Str) : Env → R D := fun E => match E[i]? with
  | some (.obj _ c ns ds) => (match insF ok f (.ins c ns ds) with | some x => .ok x E | none => .stuck)
  | _ => .stuck
theorem j_fldO (i : Nat) {x : Str} (hf : FldOk X.K ok f) (hN : X.N[i]? = some x := by rfl) (hv : Vis X.env.scope x := by first | exact Or.inl rfl | exact Or.inr (Or.inl rfl) | exact Or.inr (Or.inr rfl)) (hd : (x == ("__debug__" : Str)) = false := by decide)
    (hcd : (x == ("__classdict__" : Str)) = false := by decide) (hb : attributeBase (.Name x p2) f X.env (eval (.Name x p2) X.env) = eval (.Name x p2) X.env := by rfl) : JE X W (.Attribute (.Name x p2) f pos) (fFldO ok i f) := by
  refine ⟨_, pe_fld (pe_var hN hv hd hcd) hb, fun Φ G H σ E Q S hp => ?_⟩
  unfold fFldO at hp
  cases ee : E[i]? with
  | none => rw [ee] at hp; exact hp.elim
  | some s =>
    rw [ee] at hp
    cases s with
    | no => exact hp.elim
    | val _ => exact hp.elim
    | own _ _ => exact hp.elim
    | obj b c ns ds =>
      obtain ⟨x, hx, p, dx, vs, rfl, k1, k2, k3⟩ := S.sl i _ ee
      cases hi : insF ok f (.ins c ns ds) with
      | none => simp only [hi] at hp; exact hp.elim
      | some x =>
        simp only [hi] at hp
        have hi' : (if ok c = true then fldD f ns ds else none) = some x := hi
        by_cases hc : ok c = true
        · rw [if_pos hc] at hi'
          obtain ⟨w, q1, q2⟩ := fld_zip k3 k2 hi'
          exact ⟨_, hx, _, _, _, _, w, rfl, k1, (hf c hc).1, (hf c hc).2, q1, hp G H w (Ex.refl G) S q2⟩
        · rw [if_neg hc] at hi'; cases hi'
/-- self.f = e in a def that has self for its own -/
def sPut (ok : Str → Bool) (i : Nat) (f : Str) (fa : Env → R D) : Env → RS := fun E => (fa E).bindS fun d E => match E[i]? with
  | some (.obj b c ns ds) => if (ok c && decide (ns.length < 900)) = true then .nx (E.set i (.obj b c (putN f ns) (putL f d ns ds))) else .stuck
  | _ => .stuck
theorem js_put {W : WX} (i : Nat) {x : Str} (hf : FldOk X.K ok f) (h : JE X (pw W) e fa) (hN : X.N[i]? = some x := by rfl) (hv : Vis X.env.scope x := by first | exact Or.inl rfl | exact Or.inr (Or.inl rfl) | exact Or.inr (Or.inr rfl)) (hd : (x == ("__debug__" : Str)) = false := by decide)
    (hcd : (x == ("__classdict__" : Str)) = false := by decide) (hs : swapsWith e (some (.Attribute (.Name x p2) f p3)) pos.line X.env = pure false := by rfl) : JS X W (.Assign [.Attribute (.Name x p2) f p3] e pos) (sPut ok i f fa) := by
  obtain ⟨ta, pa, sa⟩ := h
  refine ⟨_, ps_fld (pe_var hN hv hd hcd) pa hs, fun Φ G H σ E D S hp => ?_⟩
  refine sa.goS S hp fun d E1 G1 H1 v _ e1 S1 r1 hp => ?_
  cases ee : E1[i]? with
  | none => simp only [ee] at hp; exact hp.elim
  | some s =>
    cases s with
    | no => simp only [ee] at hp; exact hp.elim
    | val _ => simp only [ee] at hp; exact hp.elim
    | own _ _ => simp only [ee] at hp; exact hp.elim
    | obj b c ns ds =>
      simp only [ee] at hp
      obtain ⟨x, hx, p, dx, vs, rfl, k1, k2, k3⟩ := S1.sl i _ ee
      by_cases hc : (ok c && decide (ns.length < 900)) = true
      · rw [if_pos hc] at hp
        rw [Bool.and_eq_true, decide_eq_true_eq] at hc
        have hl : (ns.zip vs).length < 1000 := by rw [List.length_zip]; omega
        refine ⟨_, hx, p, _, dx, ns.zip vs, rfl, k1, (hf c hc.1).1, (hf c hc.1).2, hl, ?_⟩
        have hok : SlOk X.K G1 (L2.upd H1 p (.ins (He.ga X.K c) dx (L2.putF f v (ns.zip vs)))) (some (.ref p)) (.obj b c (putN f ns) (putL f d ns ds)) := ⟨p, dx, putL f v ns vs, rfl, by rw [upd_same, put_zip k2], put_len k2, put_rp r1 k3 k2⟩
        exact hp G1 _ σ (Ex.refl G1) (S1.writeW (b0 := b) ee rfl rfl hx hok)
      · rw [if_neg hc] at hp; exact hp.elim
end

/-! ### a call with data -/
def callD {α : Type} (n : Nat) (F : DF) (as : List Ar) (k : RV → Option α) (E1 : Env) : R α := match (if (ndA (ownsA as) && as.length == n) = true then argS E1 as else none) with
  | none => .stuck
  | some ss => match F ss with
    | .ok rv Ec => (match k rv with | some d => .ok d (backE Ec 0 as E1) | none => .stuck)
    | .exc x Ec => .exc x (backE Ec 0 as E1)
    | .stuck => .stuck
section
variable {K : PySem.W.Frag} {Φ : Fr} {G G1 H H1 : Hp} {σ : St} {E E1 : Env}
theorem ArOk.append {as bs : List Ar} {vs ws : List V} (h : ArOk K σ G as vs) (k : ArOk K σ G bs ws) : ArOk K σ G (as ++ bs) (vs ++ ws) := by
  induction h with
  | nil => exact k
  | v h1 _ ih => exact .v h1 ih
  | o h1 _ ih => exact .o h1 ih
theorem ArOk.vals {ds : List D} {vs : List V} (h : RpA K G vs ds) : ArOk K σ G (ds.map .v) vs := by
  induction ds generalizing vs with
  | nil => cases h; exact .nil
  | cons d ds ih => cases h with | cons h1 h2 => exact .v h1 (ih h2)
theorem callD_ok {α : Type} {W : WX} {rel : Rel α V} {kv : RV → Option α} {n : Nat} {F : DF} {as : List Ar} {vs : List V} {Q : VK} (S1 : Sat K Φ G1 H1 σ E1) (r1 : ArOk K σ G1 as vs) (hp : Post K W rel Φ G1 σ (callD n F as kv E1) Q)
    (hv : ∀ d a, kv (.v d) = some a → ∀ Φ σ G' H' E' v, Rp K G' v d → Sat K Φ G' H' σ E' → rel Φ σ G' H' E' a v)
    (hl : ∀ l a, kv (.l l) = some a → ∀ (Φ : Fr) (σ : St) (G' H' : Hp) (E' : Env) (p : Addr) (vs : List V), Sat K Φ G' H' σ E' → H' p = some (.lst vs) → RpA K G' vs l → G' p = none → Φ.F p = none → NotOwn σ E' p → ∃ G2, Ex G' G2 ∧ Sat K Φ G2 H' σ E' ∧ rel Φ σ G2 H' E' a (.ref p)) :
    spJ K n F vs H1 Q (WE W σ) := by
  unfold callD at hp
  by_cases c : (ndA (ownsA as) && as.length == n) = true
  · rw [if_pos c] at hp
    rw [Bool.and_eq_true] at c
    have nd := c.1
    have hn : as.length = n := by simpa using c.2
    cases hs : argS E1 as with
    | none => rw [hs] at hp; exact hp.elim
    | some ss =>
      simp only [hs] at hp
      refine ⟨r1.len.symm.trans hn, _, G1, ss, S1.toCall r1 hs nd, ?_⟩
      cases hF : F ss with
      | stuck => rw [hF] at hp; exact hp.elim
      | exc x Ec =>
        simp only [hF] at hp
        exact fun G' H' c d e I r => hp G' H' σ c d e (S1.fromCall r1 hs nd e I) r
      | ok rv Ec =>
        simp only [hF] at hp
        cases hk : kv rv with
        | none => rw [hk] at hp; exact hp.elim
        | some a =>
          simp only [hk] at hp
          cases rv with
          | v d =>
            intro G' H' v e I r
            have S2 := S1.fromCall r1 hs nd e I
            exact hp G' H' v e S2 (hv d a hk Φ σ G' H' _ v r S2)
          | l l =>
            intro G' H' p vs' e I h1 h2 h3 h4 h5
            have S2 := S1.fromCall r1 hs nd e I
            have n2 := NotOwn.fromCall (Ec := Ec) S1 r1 nd h4 h5
            obtain ⟨G2, e2, S3, q⟩ := hl l a hk Φ σ G' H' _ p vs' S2 h1 h2 h3 (Fc_none S1 h4) n2
            exact hp G2 H' (.ref p) (e.trans e2) S3 q
  · rw [if_neg c] at hp; exact hp.elim
/-- the value form -/
theorem callE_ok {W : WX} {n : Nat} {F : DF} {as : List Ar} {vs : List V} {Q : VK} (S1 : Sat K Φ G1 H1 σ E1) (r1 : ArOk K σ G1 as vs) (hp : Post K W (relE K) Φ G1 σ (callD n F as rvD E1) Q) : spJ K n F vs H1 Q (WE W σ) :=
  callD_ok S1 r1 hp (fun d a hk Φ σ G' H' E' v r _ => by cases hk; exact r) fun l a hk Φ σ G' H' E' p vs S h1 h2 h3 h4 h5 => by
    cases hk; exact ⟨_, Ex.new h3, S.free h1 h3 h4 h5, .lst upd_same (h2.mono (Ex.new h3))⟩
theorem callL_ok {W : WX} {n : Nat} {F : DF} {as : List Ar} {vs : List V} {Q : VK} (S1 : Sat K Φ G1 H1 σ E1) (r1 : ArOk K σ G1 as vs) (hp : Post K W (relL K) Φ G1 σ (callD n F as rvL E1) Q) : spJ K n F vs H1 Q (WE W σ) :=
  callD_ok S1 r1 hp (fun d a hk => by cases hk) fun l a hk Φ σ G' H' E' p vs S h1 h2 h3 h4 h5 => by
    cases hk; exact ⟨G', Ex.refl G', S, p, vs, rfl, h1, h2, h3, h4, h5⟩
end

/-! ### o.m(..) -/
section
variable {X : Cx} {CX : CXT} {k : Nat} {f C : Addr} {fd : FuncData} {ps : List Str} {sp : Sp} {dvs : List V} {ds : List Value} {Es : St → XK} {x m : Str} {p pos apos : Pos} {e o : Expr} {es : List Expr} {ta : TE} {t : TA}
def tMethD (C : Addr) (m : Str) (sp : Sp) (dvs : List V) (Es : St → XK) (ta : TE) (t : TA) : TE := fun σ H Q => ta σ H fun x H1 => ∃ a dx fs, x = .ref a ∧ H1 a = some (.ins C dx fs) ∧ fs.lookup m = none ∧ t σ H1 fun vs H2 => sp (x :: (vs ++ dvs)) H2 Q (Es σ)
theorem pe_methD {pl : Sem Bool} (he : PE X o ta) (c : Cls X.K C) (hm : Meth X.K C m f) (F : FnOk X.prog X.w X.K X.mg X.base CX k f fd ps sp) (hr : Room k X.A) (hb : Binds X.K fd ps ds) (hd : Vals dvs ds) (hx : ∀ σ, PassesAt CX X σ (Es σ)) (ha : PA X (e :: es) t)
    (hst : starEach (e :: es) X.env = (false, eval e X.env) :: starEach es X.env := by rfl) (hpl : (backTo pos (starEach es X.env)).any (·.1) = false := by rfl)
    (ht : eval (.Call (.Attribute o m apos) (e :: es) [] pos) X.env = (do
      let ov ← eval o X.env
      standAt apos.atName
      let (f, first) ← holding [ov] (getMethod ov m pl)
      callWith pos f first (backTo pos (starEach (e :: es) X.env)) (backToKw pos (keywordEach [] X.env))) := by rfl) :
    PE X (.Call (.Attribute o m apos) (e :: es) [] pos) (tMethD C m sp dvs Es ta t) := by
  refine ⟨fun pins s σ H Q I h => ?_⟩
  refine PySem.W.methodCall_KW (pl := pl) (thn (he.run pins s σ H _ I h) fun u s1 ⟨x, H1, I1, rx, a, dx, fs, ex, ea, l, q⟩ => ?_) ht
  subst ex
  obtain rfl : u = Value.ref a := rx
  refine getmeth_ok I1 ea c hm l ?_
  refine PySem.W.callWith_K (first := [.ref a]) (h₀ := X.base) I.ok.mod.kin hm.kp (thn (ha.run pos pins s1 σ H1 _ I1 q) fun us s2 ⟨vs, H2, I2, r, q2⟩ => ⟨I2.kIn, ?_⟩) hst hpl
  exact run_fnSD (us := .ref a :: us) (vs := .ref a :: vs) F hr hb hd (hx σ) I2 (.cons rfl r) q2
theorem pe_methD0 {pl : Sem Bool} (he : PE X o ta) (c : Cls X.K C) (hm : Meth X.K C m f) (F : FnOk X.prog X.w X.K X.mg X.base CX k f fd ps sp) (hr : Room k X.A) (hb : Binds X.K fd ps ds) (hd : Vals dvs ds) (hx : ∀ σ, PassesAt CX X σ (Es σ))
    (ht : eval (.Call (.Attribute o m apos) [] [] pos) X.env = (do
      let ov ← eval o X.env
      standAt apos.atName
      let (f, first) ← holding [ov] (getMethod ov m pl)
      callWith pos f first (backTo pos (starEach [] X.env)) (backToKw pos (keywordEach [] X.env))) := by rfl) :
    PE X (.Call (.Attribute o m apos) [] [] pos) (tMethD C m sp dvs Es ta tNil) := by
  refine ⟨fun pins s σ H Q I h => ?_⟩
  refine PySem.W.methodCall_KW (pl := pl) (thn (he.run pins s σ H _ I h) fun u s1 ⟨x, H1, I1, rx, a, dx, fs, ex, ea, l, q⟩ => ?_) ht
  subst ex
  obtain rfl : u = Value.ref a := rx
  refine getmeth_ok I1 ea c hm l ?_
  exact PySem.W.callWith_K0 (first := [.ref a]) I1.kIn hm.kp (run_fnSD (us := [.ref a]) (vs := [.ref a]) F hr hb hd (hx σ) I1 (.cons rfl .nil) q)
theorem pe_any {ι : Type} {e : Expr} {t : ι → TE} (h : ∀ i, PE X e (t i)) : PE X e (fun σ H Q => ∃ i, t i σ H Q) := ⟨fun pins s σ H Q I ⟨i, q⟩ => (h i).run pins s σ H Q I q⟩
end
/-- a method of the class named c (with the defaults dd) -/
structure MtJ (P : Program) (w : World) (K : PySem.W.Frag) (mg : Str → Option Value) (base : Heap) (k : Nat) (m : Str) (n : Nat) (dd : List D) (c : Str) (F : DF) : Prop where
  ok : ∃ f fd ps ds dvs, Cls K (He.ga K c) ∧ Meth K (He.ga K c) m f ∧ Binds K fd ps ds ∧ Vals dvs ds ∧ (∀ G, RpA K G dvs dd) ∧ FnOk P w K mg base (L2N.CX P w) k f fd ps (spJ K n F)
theorem MtJ.mono {P : Program} {w : World} {K : PySem.W.Frag} {mg : Str → Option Value} {base : Heap} {j k : Nat} {m : Str} {n : Nat} {dd : List D} {c : Str} {F : DF} (h : MtJ P w K mg base j m n dd c F) (hk : j ≤ k) : MtJ P w K mg base k m n dd c F := by
  obtain ⟨f, fd, ps, ds, dvs, h1, h2, h3, h4, h5, h6⟩ := h
  exact ⟨f, fd, ps, ds, dvs, h1, h2, h3, h4, h5, h6.mono hk⟩
section
variable {X : Cx} {W : WJ} {k n : Nat} {m : Str} {pos apos : Pos} {e o : Expr} {es : List Expr} {fo : Env → R D} {fa : Env → R (List Ar)} {tbl : Str → Option DF} {dd : List D}
def fMeth (m : Str) (n : Nat) (tbl : Str → Option DF) (dd : List D) (fo : Env → R D) (fa : Env → R (List Ar)) : Env → R D := fun E => (fo E).bind fun d E => match d with
  | .ins c ns es => (match tbl c with
    | some F => if ns.contains m = true then .stuck else (fa E).bind fun as E => callD n F (.v (.ins c ns es) :: (as ++ dd.map .v)) rvD E
    | none => .stuck)
  | _ => .stuck
theorem meth_snd {ts : {p : Str × DF // tbl p.1 = some p.2} → TE} {to : TE} {ta : TA} {dv : {p : Str × DF // tbl p.1 = some p.2} → List V} (hts : ∀ i, ts i = tMethD (He.ga X.K i.1.1) m (spJ X.K n i.1.2) (dv i) (fun σ => WE W.w σ) to ta) (hdv : ∀ i G, RpA X.K G (dv i) dd)
    (i0 : {p : Str × DF // tbl p.1 = some p.2}) (so : Snd X.K W (relE X.K) to fo) (sa : Snd X.K W (relAr X.K) ta fa) : Snd X.K W (relE X.K) (fun σ H Q => ∃ i, ts i σ H Q) (fMeth m n tbl dd fo fa) := by
  intro Φ G H σ E Q S hp
  have hp' : Post X.K W.w (relE X.K) Φ G σ ((fo E).bind fun d E => match d with
    | .ins c ns es => (match tbl c with
      | some F => if ns.contains m = true then .stuck else (fa E).bind fun as E => callD n F (.v (.ins c ns es) :: (as ++ dd.map .v)) rvD E
      | none => .stuck)
    | _ => .stuck) Q := hp
  cases ef : fo E with
  | stuck => rw [ef] at hp'; exact hp'.elim
  | exc x E' =>
    refine ⟨i0, ?_⟩
    rw [hts i0]
    refine so Φ G H σ E _ S ?_
    rw [ef] at hp' ⊢
    exact hp'
  | ok d E' =>
    cases d with
    | ins c ns es =>
      cases ht : tbl c with
      | none => rw [ef] at hp'; simp only [R.bind_ok, ht] at hp'; exact hp'.elim
      | some F =>
        refine ⟨⟨(c, F), ht⟩, ?_⟩
        rw [hts]
        refine so.go S hp' fun d E1 G1 H1 v e0 e1 S1 r1 hp => ?_
        rw [ef] at e0
        cases e0
        simp only [ht] at hp
        by_cases hc : ns.contains m = true
        · rw [if_pos hc] at hp; exact hp.elim
        · rw [if_neg hc] at hp
          have r0 := r1
          cases r1 with
          | ins h1 h2 h3 =>
            refine ⟨_, _, _, rfl, S1.gh _ _ h1, fld_no (Bool.eq_false_iff.mpr hc), ?_⟩
            refine sa.go S1 hp fun as E2 G2 H2 us _ e2 S2 r2 hp => ?_
            exact callE_ok S2.toSat (.v (Rp.mono e2 _ r0) (r2.append (.vals (hdv _ G2)))) hp
    | _ => rw [ef] at hp'; exact hp'.elim
theorem j_meth (hF : ∀ c F, tbl c = some F → MtJ X.prog X.w X.K X.mg X.base k m n dd c F) {c0 : Str} {F0 : DF} (h0 : tbl c0 = some F0) (hr : Room k X.A) (tk : L2N.Takes X W.w) (ho : JE X W o fo) (ha : JX X W (e :: es) fa) {pl : Sem Bool}
    (hst : starEach (e :: es) X.env = (false, eval e X.env) :: starEach es X.env := by rfl) (hpl : (backTo pos (starEach es X.env)).any (·.1) = false := by rfl)
    (ht : eval (.Call (.Attribute o m apos) (e :: es) [] pos) X.env = (do
      let ov ← eval o X.env
      standAt apos.atName
      let (f, first) ← holding [ov] (getMethod ov m pl)
      callWith pos f first (backTo pos (starEach (e :: es) X.env)) (backToKw pos (keywordEach [] X.env))) := by rfl) : JE X W (.Call (.Attribute o m apos) (e :: es) [] pos) (fMeth m n tbl dd fo fa) := by
  obtain ⟨to, po, so⟩ := ho
  obtain ⟨ta, pa, sa⟩ := ha
  have key : ∀ i : {p : Str × DF // tbl p.1 = some p.2}, ∃ dv : List V, (∀ G, RpA X.K G dv dd) ∧ PE X (.Call (.Attribute o m apos) (e :: es) [] pos) (tMethD (He.ga X.K i.1.1) m (spJ X.K n i.1.2) dv (fun σ => WE W.w σ) to ta) := fun i => by
    obtain ⟨f, fd, ps, ds, dvs, h1, h2, h3, h4, h5, h6⟩ := hF _ _ i.2
    exact ⟨dvs, h5, pe_methD (pl := pl) po h1 h2 h6 hr h3 h4 (fun σ => L2N.passAt tk σ) pa hst hpl ht⟩
  exact ⟨_, pe_any fun i => (key i).choose_spec.2, meth_snd (dv := fun i => (key i).choose) (fun i => rfl) (fun i => (key i).choose_spec.1) ⟨(c0, F0), h0⟩ so sa⟩
theorem j_meth0 (hF : ∀ c F, tbl c = some F → MtJ X.prog X.w X.K X.mg X.base k m n dd c F) {c0 : Str} {F0 : DF} (h0 : tbl c0 = some F0) (hr : Room k X.A) (tk : L2N.Takes X W.w) (ho : JE X W o fo) {pl : Sem Bool}
    (ht : eval (.Call (.Attribute o m apos) [] [] pos) X.env = (do
      let ov ← eval o X.env
      standAt apos.atName
      let (f, first) ← holding [ov] (getMethod ov m pl)
      callWith pos f first (backTo pos (starEach [] X.env)) (backToKw pos (keywordEach [] X.env))) := by rfl) : JE X W (.Call (.Attribute o m apos) [] [] pos) (fMeth m n tbl dd fo xNil) := by
  obtain ⟨to, po, so⟩ := ho
  have key : ∀ i : {p : Str × DF // tbl p.1 = some p.2}, ∃ dv : List V, (∀ G, RpA X.K G dv dd) ∧ PE X (.Call (.Attribute o m apos) [] [] pos) (tMethD (He.ga X.K i.1.1) m (spJ X.K n i.1.2) dv (fun σ => WE W.w σ) to tNil) := fun i => by
    obtain ⟨f, fd, ps, ds, dvs, h1, h2, h3, h4, h5, h6⟩ := hF _ _ i.2
    exact ⟨dvs, h5, pe_methD0 (pl := pl) po h1 h2 h6 hr h3 h4 (fun σ => L2N.passAt tk σ) ht⟩
  exact ⟨_, pe_any fun i => (key i).choose_spec.2, meth_snd (dv := fun i => (key i).choose) (fun i => rfl) (fun i => (key i).choose_spec.1) ⟨(c0, F0), h0⟩ so (fun Φ G H σ E Q S hp => hp G H [] (Ex.refl G) S.toSat .nil)⟩
end
end J

namespace J
open PySem PySem.Spec PyProof.Rows L2

/-! ### C(..) : a new instance, its __init__ with self for its own -/
def consI (x : Addr) (io : Nat → Addr) : Nat → Addr
  | 0 => x
  | j + 1 => io j
section
variable {K : PySem.W.Frag} {Φ : Fr} {F G H G' H' : Hp} {io : Nat → Addr} {us σ : St} {ss E Ec : Env} {x : Addr} {s0 : Sl}
theorem Sat.consO (S : Sat K ⟨F, io⟩ G H us ss) (hk : SlOk K G H (some (.ref x)) s0) (h0 : s0.ow = some true) (g : G x = none) (f : F x = none) (n : NotOwn us ss x) : Sat K ⟨F, consI x io⟩ G H (some (.ref x) :: us) (s0 :: ss) := by
  refine ⟨by simp [S.len], fun i s hs => ?_, S.gh, S.fh, S.fg, fun i s b p h1 hb h2 => ?_, fun i j s s' b b' p h1 hb h2 hb' h3 h4 => ?_⟩
  · cases i with
    | zero => simp at hs; subst hs; exact ⟨_, rfl, hk⟩
    | succ i => simpa using S.sl i s (by simpa using hs)
  · cases i with
    | zero =>
      simp at h2; subst h2
      exact ⟨g, f, fun _ => rfl⟩
    | succ i => exact S.ow' i s b p (by simpa using h1) hb (by simpa using h2)
  · cases i with
    | zero =>
      simp at h3; subst h3
      cases j with
      | zero => rfl
      | succ j => exact absurd (by simpa using h4) (n j s' b' (by simpa using h2) hb')
    | succ i =>
      cases j with
      | zero => simp at h4; subst h4; exact absurd (by simpa using h3) (n i s b (by simpa using h1) hb)
      | succ j => rw [S.di' i j s s' b b' p (by simpa using h1) hb (by simpa using h2) hb' (by simpa using h3) (by simpa using h4)]
theorem Sat.appV (S : Sat K Φ G H us ss) {ws : List V} {ds : List D} (r : RpA K G ws ds) : Sat K Φ G H (us ++ ws.map some) (ss ++ ds.map .val) := by
  have key : ∀ (i : Nat) (s : Sl), (ss ++ ds.map Sl.val)[i]? = some s → (i < ss.length ∧ ss[i]? = some s ∧ (us ++ ws.map some)[i]? = us[i]?) ∨ ∃ d v, s = .val d ∧ (us ++ ws.map some)[i]? = some (some v) ∧ Rp K G v d := fun i s h => by
    by_cases hi : i < ss.length
    · rw [List.getElem?_append_left hi] at h
      exact .inl ⟨hi, h, by rw [List.getElem?_append_left (by rw [S.len]; exact hi)]⟩
    · rw [List.getElem?_append_right (by omega), List.getElem?_map] at h
      obtain ⟨d, h1, rfl⟩ := Option.map_eq_some_iff.mp h
      obtain ⟨v, h2, h3⟩ := r.get h1
      refine .inr ⟨d, v, rfl, ?_, h3⟩
      rw [List.getElem?_append_right (by rw [S.len]; omega), List.getElem?_map, S.len, h2]; rfl
  refine ⟨by simp [S.len, r.length], fun i s hs => ?_, S.gh, S.fh, S.fg, fun i s b p h1 hb h2 => ?_, fun i j s s' b b' p h1 hb h2 hb' h3 h4 => ?_⟩
  · rcases key i s hs with ⟨_, h1, h2⟩ | ⟨d, v, rfl, h1, h2⟩
    · rw [h2]; exact S.sl i s h1
    · exact ⟨_, h1, v, rfl, h2⟩
  · rcases key i s h1 with ⟨_, h3, h4⟩ | ⟨d, v, rfl, _⟩
    · rw [h4] at h2; exact S.ow' i s b p h3 hb h2
    · cases hb
  · rcases key i s h1 with ⟨_, k1, k2⟩ | ⟨d, v, rfl, _⟩
    · rcases key j s' h2 with ⟨_, k3, k4⟩ | ⟨d, v, rfl, _⟩
      · rw [k2] at h3; rw [k4] at h4; exact S.di' i j s s' b b' p k1 hb k3 hb' h3 h4
      · cases hb'
    · cases hb
theorem IO.tail (I : IO K ⟨F, consI x io⟩ G H Ec) : IO K ⟨F, io⟩ G H (Ec.drop 1) :=
  ⟨I.gh, I.fh, I.fg, fun i s h hb => by
    rw [List.getElem?_drop, Nat.add_comm] at h
    exact I.io (i + 1) s h hb⟩
theorem NotOwn.back (n : NotOwn σ E x) {as : List Ar} (nd : ndA (ownsA as) = true) : NotOwn σ (backE Ec 0 as E) x := fun i s b h1 hb h2 => by
  by_cases hm : i ∈ ownsA as
  · obtain ⟨j, hj⟩ := mem_ownsA.mp hm
    rcases backE_in as 0 E j _ nd hj h1 with z | ⟨s1, s', k1, k2, k3⟩
    · subst z; cases hb
    · subst k3
      exact n i s1 b k1 (Sl.bk_ow hb).1 h2
  · rw [backE_out as 0 E hm] at h1
    exact n i s b h1 hb h2
theorem Fc_free (S : Sat K Φ G H σ E) {is : List Nat} (h : H x = none) : FcOf Φ H σ E is x = none := by
  unfold FcOf
  split
  · exact h
  · exact S.fh.back h
end
def fMake (c : Str) (n : Nat) (F : DF) (dd : List D) (fa : Env → R (List Ar)) : Env → R D := fun E => (fa E).bind fun as E1 => match (if (ndA (ownsA as) && as.length + dd.length + 1 == n) = true then argS E1 as else none) with
  | none => .stuck
  | some ss => match F (.obj true c [] [] :: (ss ++ dd.map .val)) with
    | .ok (.v .non) Ec => (match (Ec[0]? : Option Sl) with
      | some (.obj true c' ns ds) => if c' = c then .ok (.ins c ns ds) (backE (Ec.drop 1) 0 as E1) else .stuck
      | _ => .stuck)
    | .exc x Ec => .exc x (backE (Ec.drop 1) 0 as E1)
    | _ => .stuck
section
variable {X : Cx} {CX : CXT} {k : Nat} {f C : Addr} {fd : FuncData} {ps : List Str} {sp : Sp} {dvs : List V} {ds : List Value} {Es : St → XK} {x : Str} {p pos : Pos} {e : Expr} {es : List Expr} {t : TA}
def tMakeJ (C : Addr) (sp : Sp) (dvs : List V) (Es : St → XK) (t : TA) : TE := fun σ H Q => t σ H fun vs H1 => ∀ x dx, H1 x = none → H1 dx = none → dx ≠ x →
  sp (.ref x :: (vs ++ dvs)) (upd (upd H1 dx (.own x)) x (.ins C dx [])) (fun v H2 => v = .non ∧ Q (.ref x) H2) (Es σ)
theorem run_makeJ {pins : List (Addr × Obj)} {σ : St} {H : Hp} {s : Shared} {Q : VK} {us : List Value} {vs : List V} {E : XK} (M : Mk X.K C f) (F : FnOk X.prog X.w X.K X.mg X.base CX k f fd ps sp) (hr : Room (k + 1) X.A) (hb : Binds X.K fd ps ds) (hd : Vals dvs ds)
    (hx : PassesAt CX X σ E) (I : Inv X pins σ H s) (r : Vals vs us)
    (h : ∀ x dx, H x = none → H dx = none → dx ≠ x → sp (.ref x :: (vs ++ dvs)) (upd (upd H dx (.own x)) x (.ins C dx [])) (fun v H2 => v = .non ∧ Q (.ref x) H2) E) :
    wpAny (model X.prog X.w) X.A (call (.ref C) us) (EP X pins σ Q) X.xe s := by
  have hq := h (s.heap.objs.size + 1) s.heap.objs.size (I.hok.fresh (Nat.le_succ _)) (I.hok.fresh (Nat.le_refl _)) (Nat.ne_of_lt (Nat.lt_succ_self _))
  have I2 := Inv.made (C := C) I
  have r2 : Vals (V.ref (s.heap.objs.size + 1) :: (vs ++ dvs)) (Value.ref (s.heap.objs.size + 1) :: (us ++ ds)) := .cons rfl (r.append hd)
  have hl : (Value.ref (s.heap.objs.size + 1) :: us ++ ds).length = ps.length := by
    have e := r2.length
    rw [F.len _ _ _ _ hq] at e
    exact e.symm
  refine wpAny_call (make_map (f := f) I.kIn M.makes M.init (beq_iff_eq.mp M.fn) (codeAny_mono (F.run _ X.stack _ _ ⟨Value.ref (s.heap.objs.size + 1) :: us, []⟩ (Value.ref (s.heap.objs.size + 1) :: (us ++ ds)) _ _ E (hr.make C us [])
    (I2.env0.make C us []) (hb _ (Value.ref (s.heap.objs.size + 1) :: us) I2.kIn hl) r2 hq) fun r s' hq' => ?_))
  cases r with
  | error e => exact hx pins _ _ e s' I2 hq'
  | ok fl =>
    cases fl with
    | ret u =>
      obtain ⟨v, H', I3, rv, ev, q3⟩ := I2.after hq'
      subst ev
      exact ⟨rv, ⟨V.ref (s.heap.objs.size + 1), H', I3, rfl, q3⟩⟩
    | next => exact False.elim hq'
    | brk => exact False.elim hq'
    | cont => exact False.elim hq'
theorem pe_makeJ (M : Mk X.K C f) (F : FnOk X.prog X.w X.K X.mg X.base CX k f fd ps sp) (hr : Room (k + 1) X.A) (hg : Gl X x) (hm : X.mg x = some (.ref C)) (hb : Binds X.K fd ps ds) (hd : Vals dvs ds) (hx : ∀ σ, PassesAt CX X σ (Es σ))
    (ha : PA X (e :: es) t) (hdb : (x == ("__debug__" : Str)) = false := by decide) (he : starEach (e :: es) X.env = (false, eval e X.env) :: starEach es X.env := by rfl) (hpl : (backTo pos (starEach es X.env)).any (·.1) = false := by rfl) :
    PE X (.Call (.Name x p) (e :: es) [] pos) (tMakeJ C sp dvs Es t) := by
  refine ⟨fun pins s σ H Q I h => ?_⟩
  refine wpAny_Call_Name_kw (ld_glob I hg hm ?_ hdb)
  refine PySem.W.callWith_K (h₀ := X.base) I.ok.mod.kin M.kp (thn (ha.run pos pins s σ H _ I h) fun us s1 ⟨vs, H1, I1, r, q⟩ => ⟨I1.kIn, ?_⟩) he hpl
  exact run_makeJ M F hr hb hd (hx σ) I1 r q
end
/-- the class named c as it is made (with the defaults dd) -/
structure MkJ (P : Program) (w : World) (K : PySem.W.Frag) (mg : Str → Option Value) (base : Heap) (k : Nat) (c : Str) (n : Nat) (dd : List D) (F : DF) : Prop where
  ok : ∃ f fd ps ds dvs, Mk K (He.ga K c) f ∧ mg c = some (.ref (He.ga K c)) ∧ Binds K fd ps ds ∧ Vals dvs ds ∧ (∀ G, RpA K G dvs dd) ∧ FnOk P w K mg base (L2N.CX P w) k f fd ps (spJ K n F)
theorem MkJ.mono {P : Program} {w : World} {K : PySem.W.Frag} {mg : Str → Option Value} {base : Heap} {j k : Nat} {n : Nat} {dd : List D} {c : Str} {F : DF} (h : MkJ P w K mg base j c n dd F) (hk : j ≤ k) : MkJ P w K mg base k c n dd F := by
  obtain ⟨f, fd, ps, ds, dvs, h1, h2, h3, h4, h5, h6⟩ := h
  exact ⟨f, fd, ps, ds, dvs, h1, h2, h3, h4, h5, h6.mono hk⟩
theorem j_make {X : Cx} {W : WJ} {k n : Nat} {c : Str} {p pos : Pos} {e : Expr} {es : List Expr} {fa : Env → R (List Ar)} {dd : List D} {F : DF} (hF : MkJ X.prog X.w X.K X.mg X.base k c n dd F) (hr : Room (k + 1) X.A) (tk : L2N.Takes X W.w) (ha : JX X W (e :: es) fa) (hg : Gl X c := by rfl) (hdb : (c == ("__debug__" : Str)) = false := by decide)
    (he : starEach (e :: es) X.env = (false, eval e X.env) :: starEach es X.env := by rfl) (hpl : (backTo pos (starEach es X.env)).any (·.1) = false := by rfl) : JE X W (.Call (.Name c p) (e :: es) [] pos) (fMake c n F dd fa) := by
  obtain ⟨f, fd, ps, ds, dvs, h1, h2, h3, h4, h5, h6⟩ := hF
  obtain ⟨ta, pa, sa⟩ := ha
  refine ⟨_, pe_makeJ (Es := fun σ => WE W.w σ) h1 h6 hr hg h2 h3 h4 (fun σ => L2N.passAt tk σ) pa hdb he hpl, fun Φ G H σ E Q S hp => ?_⟩
  have hp' : Post X.K W.w (relE X.K) Φ G σ ((fa E).bind fun as E1 => match (if (ndA (ownsA as) && as.length + dd.length + 1 == n) = true then argS E1 as else none) with
    | none => .stuck
    | some ss => match F (.obj true c [] [] :: (ss ++ dd.map .val)) with
      | .ok (.v .non) Ec => (match (Ec[0]? : Option Sl) with
        | some (.obj true c' ns ds) => if c' = c then .ok (.ins c ns ds) (backE (Ec.drop 1) 0 as E1) else .stuck
        | _ => .stuck)
      | .exc x Ec => .exc x (backE (Ec.drop 1) 0 as E1)
      | _ => .stuck) Q := hp
  refine sa.go S hp' fun as E1 G1 H1 vs _ e1 S1 r1 hp => ?_
  intro x dx hx hdx hne
  by_cases c0 : (ndA (ownsA as) && as.length + dd.length + 1 == n) = true
  · rw [if_pos c0] at hp
    rw [Bool.and_eq_true] at c0
    have nd := c0.1
    have hn : as.length + dd.length + 1 = n := by simpa using c0.2
    cases hs : argS E1 as with
    | none => rw [hs] at hp; exact hp.elim
    | some ss =>
      simp only [hs] at hp
      have Sd := S1.toSat.newH (o := .own x) hdx
      have hx' : upd H1 dx (.own x) x = none := by rw [upd_ne (Ne.symm hne)]; exact hx
      have SC := (Sd.toCall r1 hs nd).appV (h5 G1)
      have nS := SC.notOwn hx'
      have SC2 := SC.newH (o := .ins (He.ga X.K c) dx []) hx'
      have fx : FcOf Φ (upd H1 dx (.own x)) σ E1 (ownsA as) x = none := Fc_free Sd hx'
      have gx : G1 x = none := Sd.gh.back hx'
      have SC3 := SC2.consO (x := x) (s0 := .obj true c [] []) ⟨x, dx, [], rfl, upd_same, rfl, .nil⟩ rfl gx fx nS
      have em : some (V.ref x) :: (vs.map some ++ dvs.map some) = (V.ref x :: (vs ++ dvs)).map some := by simp
      rw [em] at SC3
      have hlen : (V.ref x :: (vs ++ dvs)).length = n := by
        have := r1.len
        have := (h5 G1).length
        simp only [List.length_cons, List.length_append]; omega
      refine ⟨hlen, _, G1, _, SC3, ?_⟩
      have nX : NotOwn σ E1 x := S1.toSat.notOwn hx
      cases hF : F (.obj true c [] [] :: (ss ++ dd.map .val)) with
      | stuck => rw [hF] at hp; exact hp.elim
      | exc y Ec =>
        simp only [hF] at hp
        exact fun G' H' cc d e I r => hp G' H' σ cc d e (Sd.fromCall r1 hs nd e I.tail) r
      | ok rv Ec =>
        simp only [hF] at hp
        cases rv with
        | l l => exact hp.elim
        | v d =>
          cases d with
          | non =>
            simp only at hp
            cases e0 : Ec[0]? with
            | none => rw [e0] at hp; exact hp.elim
            | some s =>
              rw [e0] at hp
              cases s with
              | obj b c' ns ds =>
                cases b with
                | true =>
                  simp only at hp
                  by_cases hcc : c' = c
                  · rw [if_pos hcc] at hp
                    subst hcc
                    intro G' H' v e I r
                    cases r
                    refine ⟨rfl, ?_⟩
                    have S2 := Sd.fromCall r1 hs nd e I.tail
                    obtain ⟨⟨q, dx', vs', q1, q2, q3, q4⟩, g2, f2⟩ := I.io 0 _ e0 rfl
                    have q1' : some (V.ref x) = some (.ref q) := q1
                    cases q1'
                    have g3 : G' x = none := g2
                    have S3 := S2.free q2 g3 (Fc_none Sd f2) (nX.back nd)
                    exact hp _ H' (.ref x) (e.trans (Ex.new g3)) S3 (.ins upd_same q3 (q4.mono (Ex.new g3)))
                  · rw [if_neg hcc] at hp; exact hp.elim
                | false => exact hp.elim
              | no => exact hp.elim
              | val _ => exact hp.elim
              | own _ _ => exact hp.elim
          | _ => exact hp.elim
  · rw [if_neg c0] at hp; exact hp.elim
end J

namespace J
open PySem PySem.Spec PyProof.Rows L2

/-! ### operators that an own class has -/
abbrev R3 := V → V → St → Hp → VK → Prop
/-- a two-place operation whose exception is wished for at the slots -/
def OpR3 (X : Cx) (f : Value → Value → Sem Value) (r : R3) : Prop :=
  ∀ (pins : List (Addr × Obj)) (s : Shared) (σ : St) (H : Hp) (x y : V) (v u : Value) (Q : VK), Inv X pins σ H s → RelV x v → RelV y u → r x y σ H Q → wpAny (model X.prog X.w) X.A (f v u) (EP X pins σ Q) X.xe s
def tOp3 (r : R3) (ta tb : TE) : TE := fun σ H Q => ta σ H fun x H1 => tb σ H1 fun y H2 => r x y σ H2 Q
theorem _root_.L2.OpR.or' {X : Cx} {f : Value → Value → Sem Value} {r : R2} {r' : R3} (h : L2.OpR X f r) (h' : OpR3 X f r') : OpR3 X f (fun x y σ H Q => r x y H Q ∨ r' x y σ H Q) := fun pins s σ H x y v u Q I rx ry q => q.elim (h pins s σ H x y v u Q I rx ry) (h' pins s σ H x y v u Q I rx ry)
section
variable {X : Cx} {a b : Expr} {ta tb : TE} {pos : Pos}
theorem pe_op3 {op : Operator} {r : R3} (ho : OpR3 X (binaryOp op) r) (ha : PE X a ta) (hb : PE X b tb) : PE X (.BinOp a op b pos) (tOp3 r ta tb) := by
  refine ⟨fun pins s σ H Q I h => ?_⟩
  exact wpAny_BinOp (binT ha hb (R := fun x y H => r x y σ H Q) I h fun v u s2 x y H2 I2 rx ry q => ho pins s2 σ H2 x y v u Q I2 rx ry q)
theorem pe_cmp3 {op : CmpOp} {r : R3} (ho : OpR3 X (compareOp op) r) (ha : PE X a ta) (hb : PE X b tb) (hm : behindInMarks op b = false) : PE X (.Compare a [op] [b] pos) (tOp3 r ta tb) := by
  refine ⟨fun pins s σ H Q I h => ?_⟩
  refine wpAny_Compare1 ?_ hm
  exact binT ha hb (R := fun x y H => r x y σ H Q) I h fun v u s2 x y H2 I2 rx ry q => ho pins s2 σ H2 x y v u Q I2 rx ry q
theorem EP.back {pins : List (Addr × Obj)} {σ : St} {Q : VK} {v : Value} {s' : Shared} (h : EP X pins σ Q v s') : PySem.W.CmpBack (EP X pins σ Q) v s' := by
  have h0 := h
  obtain ⟨x, H', I', rx, q⟩ := h
  cases x with
  | non => cases rx; exact h0
  | bl b => cases rx; exact h0
  | int i => obtain ⟨t, rfl⟩ := rx; exact h0
  | str i => obtain ⟨t, rfl⟩ := rx; exact h0
  | byt i => obtain ⟨t, rfl⟩ := rx; exact h0
  | flt i => obtain ⟨t, rfl⟩ := rx; exact h0
  | ref i => cases rx; exact h0
  | ty i => cases rx; exact h0
end
/-- what stands on the right: one of the class, or an int -/
def RightV (C : Addr) (H : Hp) (y : V) : Prop := (∃ b dy gs, y = .ref b ∧ H b = some (.ins C dy gs)) ∨ ∃ i, y = .int i
def rOwn (C : Addr) (sp : Sp) (Es : St → XK) : R3 := fun x y σ H Q => ∃ a dx fs, x = .ref a ∧ H a = some (.ins C dx fs) ∧ RightV C H y ∧ sp [x, y] H Q (Es σ)
def opB (K : PySem.W.Frag) (C : Addr) (nm : String) : Bool := PySem.W.selfFirst K C && (He.eqO (PySem.W.findIn K (.ref C) (PySem.dunder nm)) (some (some (.ref (He.ma K C (PySem.dunder nm))))) && (PySem.W.isFn K (.ref (He.ma K C (PySem.dunder nm))) &&
  (He.eqO (PySem.W.findIn K (.ref C) (PySem.dunderR nm)) (some none) && ((PySem.W.findIn K (.type "int") (PySem.dunder nm)).isSome && ((PySem.W.findIn K (.type "int") (PySem.dunderR nm)).isSome && decide (PySem.W.subIn K (.type "int") (.ref C) = some false))))))
def cmB (K : PySem.W.Frag) (C : Addr) (m : Str) : Bool := He.eqO (PySem.W.findIn K (.ref C) m) (some (some (.ref (He.ma K C m)))) && (PySem.W.isFn K (.ref (He.ma K C m)) && PySem.W.notFirst K C (.type "int"))
section
variable {X : Cx} {CX : CXT} {k : Nat} {C : Addr} {fd : FuncData} {ps : List Str} {sp : Sp} {Es : St → XK}
theorem op_own {op : Operator} (hB : opB X.K C op.info.2 = true) (F : FnOk X.prog X.w X.K X.mg X.base CX k (He.ma X.K C (PySem.dunder op.info.2)) fd ps sp) (hr : Room k X.A) (hb : Binds X.K fd ps []) (hx : ∀ σ, PassesAt CX X σ (Es σ)) : OpR3 X (binaryOp op) (rOwn C sp Es) := by
  unfold opB at hB
  simp only [Bool.and_eq_true] at hB
  obtain ⟨h1, h2, h3, h4, h5, h6, h7⟩ := hB
  obtain ⟨fo, h5⟩ := Option.isSome_iff_exists.mp h5
  obtain ⟨ro, h6⟩ := Option.isSome_iff_exists.mp h6
  intro pins s σ H x y v u Q I rx ry ⟨a, dx, fs, ex, ha, hy, hsp⟩
  subst ex
  obtain rfl : v = Value.ref a := rx
  obtain ⟨mA, J0, _⟩ := ins_get I.hok ha
  obtain ⟨od, J1, _⟩ := J0.look
  obtain ⟨m, hF⟩ := I.fr
  have run : wpAny (model X.prog X.w) X.A (call (.ref (He.ma X.K C (PySem.dunder op.info.2))) [.ref a, u]) (PySem.W.CmpBack (EP X pins σ Q)) X.xe s := by
    have r2 : Vals [V.ref a, y] [Value.ref a, u] := .cons rfl (.cons ry .nil)
    exact wpAny_mono (run_fnSD (dvs := []) (ds := []) F hr hb .nil (hx σ) I r2 (by simpa using hsp)) (fun _ _ h => J.EP.back h) fun _ _ e => e
  rcases hy with ⟨b, dy, gs, rfl, hb2⟩ | ⟨i, rfl⟩
  · obtain rfl : u = Value.ref b := ry
    obtain ⟨mB, J2, _⟩ := ins_get I.hok hb2
    obtain ⟨od', J3, _⟩ := J2.look
    exact PySem.W.binop_K hF I.ok.mod.kin J1 J3.type h1 (He.eqO_ok h2) h3 run
  · obtain ⟨t, rfl⟩ := ry
    exact PySem.W.ksp_binT (T := "int") hF I.ok.mod.kin J1 rfl h1 (He.eqO_ok h2) h3 (He.eqO_ok h4) (.inl rfl) h5 h6 (of_decide_eq_true h7) run
theorem cm_own {op : CmpOp} (hop : op = .Eq) (hB : cmB X.K C (cmpInfo op).2.1 = true) (F : FnOk X.prog X.w X.K X.mg X.base CX k (He.ma X.K C (cmpInfo op).2.1) fd ps sp) (hr : Room k X.A) (hb : Binds X.K fd ps []) (hx : ∀ σ, PassesAt CX X σ (Es σ)) : OpR3 X (compareOp op) (rOwn C sp Es) := by
  unfold cmB at hB
  simp only [Bool.and_eq_true] at hB
  obtain ⟨h1, h2, h3⟩ := hB
  intro pins s σ H x y v u Q I rx ry ⟨a, dx, fs, ex, ha, hy, hsp⟩
  subst ex
  obtain rfl : v = Value.ref a := rx
  obtain ⟨mA, J0, _⟩ := ins_get I.hok ha
  obtain ⟨od, J1, _⟩ := J0.look
  obtain ⟨m, hF⟩ := I.fr
  have run : wpAny (model X.prog X.w) X.A (call (.ref (He.ma X.K C (cmpInfo op).2.1)) [.ref a, u]) (PySem.W.CmpBack (EP X pins σ Q)) X.xe s := by
    have r2 : Vals [V.ref a, y] [Value.ref a, u] := .cons rfl (.cons ry .nil)
    exact wpAny_mono (run_fnSD (dvs := []) (ds := []) F hr hb .nil (hx σ) I r2 (by simpa using hsp)) (fun _ _ h => J.EP.back h) fun _ _ e => e
  subst hop
  show wpAny (model X.prog X.w) X.A (richCompare .Eq _ u) (EP X pins σ Q) X.xe s
  rcases hy with ⟨b, dy, gs, rfl, hb2⟩ | ⟨i, rfl⟩
  · obtain rfl : u = Value.ref b := ry
    obtain ⟨mB, J2, _⟩ := ins_get I.hok hb2
    obtain ⟨od', J3, _⟩ := J2.look
    exact PySem.W.cmp_K (op := .Eq) (tb := .ref C) hr.units0 hF I.ok.mod.kin J1 J3.type (by simp [PySem.W.notFirst]) (He.eqO_ok h1) h2 run
  · obtain ⟨t, rfl⟩ := ry
    exact PySem.W.cmp_K (op := .Eq) (tb := .type "int") hr.units0 hF I.ok.mod.kin J1 (PySem.W.Looks.of_pure rfl) h3 (He.eqO_ok h1) h2 run
end
end J
namespace J
open PySem PySem.Spec PyProof.Rows L2
theorem OpR3.any {X : Cx} {f : Value → Value → Sem Value} {ι : Type} {r : ι → R3} (h : ∀ i, OpR3 X f (r i)) : OpR3 X f (fun x y σ H Q => ∃ i, r i x y σ H Q) := fun pins s σ H x y v u Q I rx ry ⟨i, q⟩ => h i pins s σ H x y v u Q I rx ry q
/-- an own operator of the class named c -/
structure OpJ (P : Program) (w : World) (K : PySem.W.Frag) (mg : Str → Option Value) (base : Heap) (k : Nat) (op : Operator) (c : Str) (F : DF) : Prop where
  ok : opB K (He.ga K c) op.info.2 = true ∧ ∃ fd ps, Binds K fd ps [] ∧ FnOk P w K mg base (L2N.CX P w) k (He.ma K (He.ga K c) (PySem.dunder op.info.2)) fd ps (spJ K 2 F)
structure EqJ (P : Program) (w : World) (K : PySem.W.Frag) (mg : Str → Option Value) (base : Heap) (k : Nat) (c : Str) (F : DF) : Prop where
  ok : cmB K (He.ga K c) "__eq__" = true ∧ ∃ fd ps, Binds K fd ps [] ∧ FnOk P w K mg base (L2N.CX P w) k (He.ma K (He.ga K c) "__eq__") fd ps (spJ K 2 F)
theorem OpJ.mono {P : Program} {w : World} {K : PySem.W.Frag} {mg : Str → Option Value} {base : Heap} {j k : Nat} {op : Operator} {c : Str} {F : DF} (h : OpJ P w K mg base j op c F) (hk : j ≤ k) : OpJ P w K mg base k op c F := by
  obtain ⟨h0, fd, ps, h1, h2⟩ := h
  exact ⟨h0, fd, ps, h1, h2.mono hk⟩
theorem EqJ.mono {P : Program} {w : World} {K : PySem.W.Frag} {mg : Str → Option Value} {base : Heap} {j k : Nat} {c : Str} {F : DF} (h : EqJ P w K mg base j c F) (hk : j ≤ k) : EqJ P w K mg base k c F := by
  obtain ⟨h0, fd, ps, h1, h2⟩ := h
  exact ⟨h0, fd, ps, h1, h2.mono hk⟩
def rightD (c : Str) : D → Bool
  | .ins c' _ _ => c' == c
  | .int _ => true
  | _ => false
/-- an operator: the class's own one where the left side is an instance, otherwise g -/
def ownR (tbl : Str → Option DF) (g : D → D → Option D) (x y : D) (E : Env) : R D := match x with
  | .ins c ns es => (match tbl c with
    | some F => if rightD c y = true then callD 2 F [.v (.ins c ns es), .v y] rvD E else .stuck
    | none => .stuck)
  | x => (match g x y with | some d => .ok d E | none => .stuck)
def fBin (tbl : Str → Option DF) (g : D → D → Option D) (fa fb : Env → R D) : Env → R D := fun E => (fa E).bind fun x E => (fb E).bind fun y E => ownR tbl g x y E
abbrev Tb (tbl : Str → Option DF) : Type := {p : Str × DF // tbl p.1 = some p.2}
section
variable {X : Cx} {W : WJ} {k : Nat} {a b : Expr} {fa fb : Env → R D} {tbl : Str → Option DF} {g : D → D → Option D} {r : R2} {pos : Pos}
theorem own_snd (hs : OpS X.K r g) {ta tb : TE} (sa : Snd X.K W (relE X.K) ta fa) (sb : Snd X.K W (relE X.K) tb fb) :
    Snd X.K W (relE X.K) (tOp3 (fun x y σ H Q => r x y H Q ∨ ∃ i : Tb tbl, rOwn (He.ga X.K i.1.1) (spJ X.K 2 i.1.2) (fun σ => WE W.w σ) x y σ H Q) ta tb) (fBin tbl g fa fb) := by
  intro Φ G H σ E Q S hp
  have hp' : Post X.K W.w (relE X.K) Φ G σ ((fa E).bind fun x E => (fb E).bind fun y E => ownR tbl g x y E) Q := hp
  refine sa.go S hp' fun x E1 G1 H1 v _ e1 S1 r1 hp => ?_
  refine sb.go S1 hp fun y E2 G2 H2 u _ e2 S2 r2 hp => ?_
  have r1 := Rp.mono e2 _ r1
  cases x with
  | ins c ns es =>
    have hp : Post X.K W.w (relE X.K) Φ G2 σ (match tbl c with
      | some F => if rightD c y = true then callD 2 F [.v (.ins c ns es), .v y] rvD E2 else .stuck
      | none => .stuck) Q := hp
    cases ht : tbl c with
    | none => rw [ht] at hp; exact hp.elim
    | some F =>
      rw [ht] at hp
      simp only at hp
      by_cases hy : rightD c y = true
      · rw [if_pos hy] at hp
        have hsp := callE_ok S2.toSat (.v r1 (.v r2 .nil)) hp
        cases r1 with
        | ins h1 h2 h3 =>
          refine .inr ⟨⟨(c, F), ht⟩, _, _, _, rfl, S2.gh _ _ h1, ?_, hsp⟩
          cases y with
          | ins c' ns' es' =>
            obtain rfl : c' = c := beq_iff_eq.mp hy
            cases r2 with
            | ins k1 k2 k3 => exact .inl ⟨_, _, _, rfl, S2.gh _ _ k1⟩
          | int i => cases r2; exact .inr ⟨i, rfl⟩
          | _ => cases hy
      · rw [if_neg hy] at hp; exact hp.elim
  | _ =>
    refine .inl ?_
    obtain ⟨d, hd, hq⟩ := Post.opt (o := g _ y) hp
    exact hs Φ G2 H2 σ E2 _ _ _ y d Q S2 (Rp.sh S2.gh r1) (Rp.sh S2.gh r2) hd fun G' H' v e1 e2 S' r => hq G' H' v e1 S' r
theorem j_bin {op : Operator} (ho : OpR X (binaryOp op) r) (hs : OpS X.K r g) (hF : ∀ c F, tbl c = some F → OpJ X.prog X.w X.K X.mg X.base k op c F) (hr : Room k X.A) (tk : L2N.Takes X W.w) (ha : JE X W a fa) (hb : JE X W b fb) : JE X W (.BinOp a op b pos) (fBin tbl g fa fb) := by
  obtain ⟨ta, pa, sa⟩ := ha
  obtain ⟨tb, pb, sb⟩ := hb
  refine ⟨_, pe_op3 (ho.or' ?_) pa pb, own_snd hs sa sb⟩
  exact OpR3.any fun i => by
    obtain ⟨h0, fd, ps, h1, h2⟩ := hF _ _ i.2
    exact op_own h0 h2 hr h1 fun σ => L2N.passAt tk σ
theorem j_eqO {op : CmpOp} (hop : op = .Eq) (ho : OpR X (compareOp op) r) (hs : OpS X.K r g) (hF : ∀ c F, tbl c = some F → EqJ X.prog X.w X.K X.mg X.base k c F) (hr : Room k X.A) (tk : L2N.Takes X W.w) (ha : JE X W a fa) (hb : JE X W b fb) (hm : behindInMarks op b = false) : JE X W (.Compare a [op] [b] pos) (fBin tbl g fa fb) := by
  obtain ⟨ta, pa, sa⟩ := ha
  obtain ⟨tb, pb, sb⟩ := hb
  refine ⟨_, pe_cmp3 (ho.or' ?_) pa pb hm, own_snd hs sa sb⟩
  exact OpR3.any fun i => by
    obtain ⟨h0, fd, ps, h1, h2⟩ := hF _ _ i.2
    subst hop
    exact cm_own rfl h0 h2 hr h1 fun σ => L2N.passAt tk σ
end
end J

namespace J
open PySem PySem.Spec PyProof.Rows L2

/-! ### the callee runs at a deeper place -/
section
variable {X : Cx} {CX : CXT} {k : Nat} {f : Addr} {fd : FuncData} {ps : List Str} {sp : Sp} {A : Around} {E : XK}
theorem run_fnA {pins : List (Addr × Obj)} {σ : St} {H : Hp} {s : Shared} {Q : VK} {us : List Value} {vs : List V} (F : FnOk X.prog X.w X.K X.mg X.base CX k f fd ps sp) (hr : Room k A) (hfr : A.frames = X.A.frames) (hb : Binds X.K fd ps []) (hx : PassesAt CX X σ E)
    (I : Inv X pins σ H s) (r : Vals vs us) (h : sp vs H Q E) : wpAny (model X.prog X.w) A (call (.ref f) us) (EP X pins σ Q) X.xe s := by
  have hl : us.length = ps.length := by rw [← r.length]; exact F.len _ _ _ _ h
  have e0 : Env0 X.prog X.w X.K X.mg X.base A X.stack s H := by
    have e := I.env0
    exact ⟨by rw [hfr]; exact e.frames, e.mod, e.bs, e.bsz, e.funs, e.frf, e.hok, e.bare⟩
  refine wpAny_call (codeAny_mono (F.run A X.stack s H ⟨us, []⟩ us vs Q E hr e0 (by have := hb s us I.kIn (by simpa using hl); simpa using this) r h) fun r s' hq => ?_)
  cases r with
  | error e => exact hx pins H s e s' I hq
  | ok fl =>
    cases fl with
    | ret u => exact I.after hq
    | next => exact False.elim hq
    | brk => exact False.elim hq
    | cont => exact False.elim hq
end

/-! ### -x, abs(x), bool(x) -/
abbrev R1 := V → St → Hp → VK → Prop
def UnR1 (X : Cx) (f : Value → Sem Value) (r : R1) : Prop :=
  ∀ (pins : List (Addr × Obj)) (s : Shared) (σ : St) (H : Hp) (x : V) (v : Value) (Q : VK), Inv X pins σ H s → RelV x v → r x σ H Q → wpAny (model X.prog X.w) X.A (f v) (EP X pins σ Q) X.xe s
def tUn1 (r : R1) (ta : TE) : TE := fun σ H Q => ta σ H fun x H1 => r x σ H1 Q
def rOwn1 (C : Addr) (sp : Sp) (Es : St → XK) : R1 := fun x σ H Q => ∃ a dx fs, x = .ref a ∧ H a = some (.ins C dx fs) ∧ sp [x] H Q (Es σ)
def unB (K : PySem.W.Frag) (C : Addr) (m : Str) : Bool := He.eqO (PySem.W.findIn K (.ref C) m) (some (some (.ref (He.ma K C m)))) && PySem.W.isFn K (.ref (He.ma K C m))
/-- a special method without a second operand of the class named c -/
structure UnJ (P : Program) (w : World) (K : PySem.W.Frag) (mg : Str → Option Value) (base : Heap) (k : Nat) (m c : Str) (F : DF) : Prop where
  ok : unB K (He.ga K c) m = true ∧ ∃ fd ps, Binds K fd ps [] ∧ FnOk P w K mg base (L2N.CX P w) k (He.ma K (He.ga K c) m) fd ps (spJ K 1 F)
theorem UnJ.mono {P : Program} {w : World} {K : PySem.W.Frag} {mg : Str → Option Value} {base : Heap} {j k : Nat} {m c : Str} {F : DF} (h : UnJ P w K mg base j m c F) (hk : j ≤ k) : UnJ P w K mg base k m c F := by
  obtain ⟨h0, fd, ps, h1, h2⟩ := h
  exact ⟨h0, fd, ps, h1, h2.mono hk⟩
def own1 (tbl : Str → Option DF) (g : D → Option D) (x : D) (E : Env) : R D := match x with
  | .ins c ns es => (match tbl c with
    | some F => callD 1 F [.v (.ins c ns es)] rvD E
    | none => .stuck)
  | x => (match g x with | some d => .ok d E | none => .stuck)
def fUn (tbl : Str → Option DF) (g : D → Option D) (fa : Env → R D) : Env → R D := fun E => (fa E).bind fun x E => own1 tbl g x E
section
variable {X : Cx} {W : WJ} {k : Nat} {a : Expr} {fa : Env → R D} {tbl : Str → Option DF} {pos p : Pos} {m : Str}
/-- the two ways of a one-place operation -/
theorem un_snd {g : D → Option D} {r : R1} {ta : TE} (hs : ∀ Φ G H σ E x (v : V) d Q, Sat X.K Φ G H σ E → Rp X.K G v x → g x = some d → (∀ G' H' u, Ex G G' → Sat X.K Φ G' H' σ E → Rp X.K G' u d → Q u H') → r v σ H Q) (sa : Snd X.K W (relE X.K) ta fa) :
    Snd X.K W (relE X.K) (tUn1 (fun x σ H Q => r x σ H Q ∨ ∃ i : Tb tbl, rOwn1 (He.ga X.K i.1.1) (spJ X.K 1 i.1.2) (fun σ => WE W.w σ) x σ H Q) ta) (fUn tbl g fa) := by
  intro Φ G H σ E Q S hp
  have hp' : Post X.K W.w (relE X.K) Φ G σ ((fa E).bind fun x E => own1 tbl g x E) Q := hp
  refine sa.go S hp' fun x E1 G1 H1 v _ e1 S1 r1 hp => ?_
  cases x with
  | ins c ns es =>
    have hp : Post X.K W.w (relE X.K) Φ G1 σ (match tbl c with
      | some F => callD 1 F [.v (.ins c ns es)] rvD E1
      | none => .stuck) Q := hp
    cases ht : tbl c with
    | none => rw [ht] at hp; exact hp.elim
    | some F =>
      rw [ht] at hp
      have hsp := callE_ok S1.toSat (.v r1 .nil) hp
      cases r1 with
      | ins h1 h2 h3 => exact .inr ⟨⟨(c, F), ht⟩, _, _, _, rfl, S1.gh _ _ h1, hsp⟩
  | _ =>
    refine .inl ?_
    obtain ⟨d, hd, hq⟩ := Post.opt (o := g _) hp
    exact hs Φ G1 H1 σ E1 _ v d Q S1 r1 hd fun G' H' v e1 S' r => hq G' H' v e1 S' r
theorem neg_own {C : Addr} {fd : FuncData} {ps : List Str} {sp : Sp} {Es : St → XK} {CX : CXT} (hB : unB X.K C "__neg__" = true) (F : FnOk X.prog X.w X.K X.mg X.base CX k (He.ma X.K C "__neg__") fd ps sp) (hr : Room k X.A) (hb : Binds X.K fd ps []) (hx : ∀ σ, PassesAt CX X σ (Es σ)) : UnR1 X (unaryOp .USub) (rOwn1 C sp Es) := by
  unfold unB at hB
  simp only [Bool.and_eq_true] at hB
  intro pins s σ H x v Q I rx ⟨a, dx, fs, ex, ha, hsp⟩
  subst ex
  obtain rfl : v = Value.ref a := rx
  obtain ⟨mA, J0, _⟩ := ins_get I.hok ha
  obtain ⟨od, J1, _⟩ := J0.look
  obtain ⟨m, hF⟩ := I.fr
  exact PySem.W.ksp_neg hF I.ok.mod.kin J1 (He.eqO_ok hB.1) hB.2 (run_fnA (us := [.ref a]) (vs := [.ref a]) F hr rfl hb (hx σ) I (.cons rfl .nil) hsp)
theorem pe_un1 {op : UnaryOp} {r : R1} {ta : TE} (ho : UnR1 X (unaryOp op) r) (ha : PE X a ta) : PE X (.UnaryOp op a pos) (tUn1 r ta) := by
  refine ⟨fun pins s σ H Q I h => ?_⟩
  exact UnaryOp_ (thn (ha.run pins s σ H _ I h) fun v s1 ⟨x, H1, I1, r1, q1⟩ => ho pins s1 σ H1 x v Q I1 r1 q1)
theorem j_negO (hF : ∀ c F, tbl c = some F → UnJ X.prog X.w X.K X.mg X.base k "__neg__" c F) (hr : Room k X.A) (tk : L2N.Takes X W.w) (ha : JE X W a fa) : JE X W (.UnaryOp .USub a pos) (fUn tbl gNeg fa) := by
  obtain ⟨ta, pa, sa⟩ := ha
  refine ⟨_, pe_un1 (fun pins s σ H x v Q I rx q => ?_) pa, un_snd (r := fun x σ H Q => rU (fun i => .int (-i)) x H Q) (fun Φ G H σ E x v d Q S r hd k => ?_) sa⟩
  · rcases q with q | ⟨i, q⟩
    · exact un_neg pins s σ H x v Q I rx q
    · obtain ⟨h0, fd, ps, h1, h2⟩ := hF _ _ i.2
      exact neg_own h0 h2 hr h1 (fun σ => L2N.passAt tk σ) pins s σ H x v Q I rx q
  · cases x with
    | int i => cases hd; cases r; exact ⟨i, rfl, k G H _ (Ex.refl G) S (.int _)⟩
    | _ => cases hd
/-- a call of a built-in with one value -/
theorem pe_callB1 {id : String} {r : R1} {ta : TE} {x : Str} (hc : UnR1 X (fun v => call (.builtin id) [v]) r) (hg : Gl X x) (hm : X.mg x = none) (hv : bootBuiltins x = some (.builtin id)) (ha : PE X a ta) (hn : x ≠ "__name__" := by decide) (hdb : (x == ("__debug__" : Str)) = false := by decide)
    (he : starEach [a] X.env = (false, eval a X.env) :: starEach [] X.env := by rfl) (hpl : (backTo pos (starEach [] X.env)).any (·.1) = false := by rfl) : PE X (.Call (.Name x p) [a] [] pos) (tUn1 r ta) := by
  refine ⟨fun pins s σ H Q I h => ?_⟩
  refine wpAny_Call_Name_kw (ld_blt I hg hm hv ?_ hn hdb)
  have hA : PA X [a] (tCons ta tNil) := pa_cons ha pa_nil he
  refine PyProof.Rows.callWith_builtin1 (thn (hA.run pos pins s σ H (fun vs H1 => match vs with | [v] => r v σ H1 Q | _ => False) I h) fun us s1 ⟨vs, H1, I1, r1, q⟩ => ?_) he hpl
  cases r1 with
  | nil => exact q.elim
  | cons k1 k2 =>
    cases k2 with
    | nil => exact hc pins s1 σ H1 _ _ Q I1 k1 q
    | cons _ _ => exact q.elim
theorem pe_callT1 {T : String} {r : R1} {ta : TE} {x : Str} (hc : UnR1 X (fun v => call (.type T) [v]) r) (hg : Gl X x) (hm : X.mg x = none) (hv : bootBuiltins x = some (.type T)) (ha : PE X a ta) (hn : x ≠ "__name__" := by decide) (hdb : (x == ("__debug__" : Str)) = false := by decide)
    (he : starEach [a] X.env = (false, eval a X.env) :: starEach [] X.env := by rfl) (hpl : (backTo pos (starEach [] X.env)).any (·.1) = false := by rfl) : PE X (.Call (.Name x p) [a] [] pos) (tUn1 r ta) := by
  refine ⟨fun pins s σ H Q I h => ?_⟩
  refine wpAny_Call_Name_kw (ld_blt I hg hm hv ?_ hn hdb)
  have hA : PA X [a] (tCons ta tNil) := pa_cons ha pa_nil he
  refine PyProof.Rows.callWith_type1 (thn (hA.run pos pins s σ H (fun vs H1 => match vs with | [v] => r v σ H1 Q | _ => False) I h) fun us s1 ⟨vs, H1, I1, r1, q⟩ => ?_) he hpl
  cases r1 with
  | nil => exact q.elim
  | cons k1 k2 =>
    cases k2 with
    | nil => exact hc pins s1 σ H1 _ _ Q I1 k1 q
    | cons _ _ => exact q.elim
theorem abs_own {C : Addr} {fd : FuncData} {ps : List Str} {sp : Sp} {Es : St → XK} {CX : CXT} (hB : unB X.K C "__abs__" = true) (F : FnOk X.prog X.w X.K X.mg X.base CX k (He.ma X.K C "__abs__") fd ps sp) (hr : Room (k + 1) X.A) (hb : Binds X.K fd ps []) (hx : ∀ σ, PassesAt CX X σ (Es σ)) : UnR1 X (fun v => call (.builtin "abs") [v]) (rOwn1 C sp Es) := by
  unfold unB at hB
  simp only [Bool.and_eq_true] at hB
  intro pins s σ H x v Q I rx ⟨a, dx, fs, ex, ha, hsp⟩
  subst ex
  obtain rfl : v = Value.ref a := rx
  obtain ⟨mA, J0, _⟩ := ins_get I.hok ha
  obtain ⟨od, J1, _⟩ := J0.look
  refine Calls.call_function_entry PyProof.Rows.kind_abs PyProof.Rows.plain_abs PyProof.Rows.entry_abs (PyProof.Rows.args_abs _) ?_
  unfold Builtin.«abs»
  refine wpAny_bind (m := oneArg "abs" _) (wpAny_pure ?_)
  have run := run_fnA (us := [.ref a]) (vs := [.ref a]) (A := X.A.in1) F hr.in1 rfl hb (hx σ) I (.cons rfl .nil) hsp
  refine wpAny_bind (m := callSpecial? (.ref a) (Str.ofString "__abs__") []) (PySem.W.special_fn I.kIn J1 (He.eqO_ok hB.1) (beq_iff_eq.mp hB.2) (wpAny_mono run (fun r s' q => ?_) fun _ _ e => e))
  exact wpAny_pure ⟨_, rfl, q⟩
theorem j_absO (hF : ∀ c F, tbl c = some F → UnJ X.prog X.w X.K X.mg X.base k "__abs__" c F) (hr : Room (k + 1) X.A) (tk : L2N.Takes X W.w) (hm : X.mg "abs" = none) (ha : JE X W a fa) (hg : Gl X "abs" := by rfl)
    (he : starEach [a] X.env = (false, eval a X.env) :: starEach [] X.env := by rfl) (hpl : (backTo pos (starEach [] X.env)).any (·.1) = false := by rfl) : JE X W (.Call (.Name "abs" p) [a] [] pos) (fUn tbl gAbs fa) := by
  obtain ⟨ta, pa, sa⟩ := ha
  refine ⟨_, pe_callB1 (id := "abs") (fun pins s σ H x v Q I rx q => ?_) hg hm (by decide +kernel) pa (by decide) (by decide) he hpl, un_snd (r := fun x σ H Q => ∃ i, x = .int i ∧ Q (.int (if i < 0 then -i else i)) H) (fun Φ G H σ E x v d Q S r hd k => ?_) sa⟩
  · rcases q with ⟨i, rfl, q⟩ | ⟨i, q⟩
    · exact call_abs pins s σ H [.int i] [v] Q I (.cons rx .nil) ⟨i, rfl, q⟩
    · obtain ⟨h0, fd, ps, h1, h2⟩ := hF _ _ i.2
      exact abs_own h0 h2 hr h1 (fun σ => L2N.passAt tk σ) pins s σ H x v Q I rx q
  · cases x with
    | int i => cases hd; cases r; exact ⟨i, rfl, k G H _ (Ex.refl G) S (.int _)⟩
    | _ => cases hd
end
end J

namespace J
open PySem PySem.Spec PyProof.Rows L2

/-! ### great powers, great divisions -/
section
variable {X : Cx} {W : WJ} {a b : Expr} {fa fb : Env → R D} {pos : Pos}
def gPowP : D → D → Option D := g2I fun i j => if 0 ≤ j ∧ (Builtin.Int.intBits i : Int) * j ≤ 2 ^ 27 then some (i ^ j.toNat) else none
theorem op_powP : OpR X (binaryOp .Pow) (rI (fun i j => 0 ≤ j ∧ (Builtin.Int.intBits i : Int) * j ≤ 2 ^ 27) fun i j => .int (i ^ j.toNat)) := opI fun _ _ _ _ _ _ _ hc q => pow_int hc.1 hc.2 q
theorem opS_powP {K : PySem.W.Frag} : OpS K (rI (fun i j => 0 ≤ j ∧ (Builtin.Int.intBits i : Int) * j ≤ 2 ^ 27) fun i j => .int (i ^ j.toNat)) gPowP := opS_I fun i j k h => if_some (c := 0 ≤ j ∧ (Builtin.Int.intBits i : Int) * j ≤ 2 ^ 27) h
theorem j_powP (ha : JE X W a fa) (hb : JO X W b fb) : JE X W (.BinOp a .Pow b pos) (fop gPowP fa fb) := j_op op_powP opS_powP ha hb
def gDivP : D → D → Option D := g2I fun i j => if 0 < j ∧ Builtin.divisionGoesByPylong i j = false then some (i / j) else none
theorem op_divP : OpR X (binaryOp .FloorDiv) (rI (fun i j => 0 < j ∧ Builtin.divisionGoesByPylong i j = false) fun i j => .int (i / j)) := opI fun i j _ _ _ _ _ hc q => by
  have h1 : (0 : Int) < j := hc.1
  exact floordiv_int (by omega) (by rw [Int.fdiv_eq_ediv_of_nonneg i (by omega)]; exact q) (.inl hc.2)
theorem opS_divP {K : PySem.W.Frag} : OpS K (rI (fun i j => 0 < j ∧ Builtin.divisionGoesByPylong i j = false) fun i j => .int (i / j)) gDivP := opS_I fun i j k h => if_some (c := 0 < j ∧ Builtin.divisionGoesByPylong i j = false) h
theorem j_divP (ha : JE X W a fa) (hb : JO X W b fb) : JE X W (.BinOp a .FloorDiv b pos) (fop gDivP fa fb) := j_op op_divP opS_divP ha hb
end

/-! ### e is True, e is False -/
section
variable {X : Cx} {W : WJ} {a : Expr} {fa : Env → R D} {pos pos' : Pos} {j : Nat}
def isBl (c neg : Bool) : D → Option D
  | .bl b => some (.bl (if neg then b != c else b == c))
  | .ins _ _ _ => some (.bl neg)
  | .int _ => some (.bl neg)
  | .non => some (.bl neg)
  | _ => none
theorem pc_isB {c : Bool} {ta : TE} (ha : PE X a ta) : PC X .Is a (.Constant (.bool c) j pos') (fun σ H Q => ta σ H fun x H1 => ∃ k, x = .bl k ∧ Q (.bl (k == c)) H1 ∨ ((∃ i, x = .int i) ∨ x = .non ∨ ∃ p, x = .ref p) ∧ Q (.bl false) H1) := by
  refine ⟨fun pins s σ H Q I h => ?_⟩
  refine thn (ha.run pins s σ H _ I h) fun v s1 ⟨x, H1, I1, r1, k, q1⟩ => ?_
  refine Constant_bool ?_
  rcases q1 with ⟨rfl, q⟩ | ⟨hx, q⟩
  · cases r1
    refine wpAny_is_plain rfl ⟨.bl (k == c), H1, I1, ?_, q⟩
    cases k <;> cases c <;> rfl
  · rcases hx with ⟨i, rfl⟩ | rfl | ⟨p, rfl⟩
    · obtain ⟨t, rfl⟩ := r1
      exact wpAny_is_plain rfl ⟨.bl false, H1, I1, rfl, q⟩
    · cases r1
      exact wpAny_is_plain rfl ⟨.bl false, H1, I1, rfl, q⟩
    · cases r1
      exact wpAny_is_plain rfl ⟨.bl false, H1, I1, rfl, q⟩
theorem pc_notB {c : Bool} {ta : TE} (ha : PE X a ta) : PC X .IsNot a (.Constant (.bool c) j pos') (fun σ H Q => ta σ H fun x H1 => ∃ k, x = .bl k ∧ Q (.bl (k != c)) H1 ∨ ((∃ i, x = .int i) ∨ x = .non ∨ ∃ p, x = .ref p) ∧ Q (.bl true) H1) := by
  refine ⟨fun pins s σ H Q I h => ?_⟩
  refine thn (ha.run pins s σ H _ I h) fun v s1 ⟨x, H1, I1, r1, k, q1⟩ => ?_
  refine Constant_bool ?_
  rcases q1 with ⟨rfl, q⟩ | ⟨hx, q⟩
  · cases r1
    refine wpAny_isNot_plain rfl ⟨.bl (k != c), H1, I1, ?_, q⟩
    cases k <;> cases c <;> rfl
  · rcases hx with ⟨i, rfl⟩ | rfl | ⟨p, rfl⟩
    · obtain ⟨t, rfl⟩ := r1
      exact wpAny_isNot_plain rfl ⟨.bl true, H1, I1, rfl, q⟩
    · cases r1
      exact wpAny_isNot_plain rfl ⟨.bl true, H1, I1, rfl, q⟩
    · cases r1
      exact wpAny_isNot_plain rfl ⟨.bl true, H1, I1, rfl, q⟩
theorem isB_snd {ta : TE} {c neg : Bool} (sa : Snd X.K W (relE X.K) ta fa) : Snd X.K W (relE X.K) (fun σ H Q => ta σ H fun x H1 => ∃ k, x = .bl k ∧ Q (.bl (if neg then k != c else k == c)) H1 ∨ ((∃ i, x = .int i) ∨ x = .non ∨ ∃ p, x = .ref p) ∧ Q (.bl neg) H1) (fun1 (isBl c neg) fa) := by
  intro Φ G H σ E Q S hp
  have hp' : Post X.K W.w (relE X.K) Φ G σ ((fa E).bind fun x E => match isBl c neg x with | some d => .ok d E | none => .stuck) Q := hp
  refine sa.go S hp' fun x E1 G1 H1 v _ e1 S1 r1 hp => ?_
  obtain ⟨d, hd, hq⟩ := Post.opt (o := isBl c neg x) hp
  cases x with
  | bl b => cases hd; cases r1; exact ⟨b, .inl ⟨rfl, hq G1 H1 _ (Ex.refl G1) S1 (.bl _)⟩⟩
  | int i => cases hd; cases r1; exact ⟨true, .inr ⟨.inl ⟨i, rfl⟩, hq G1 H1 _ (Ex.refl G1) S1 (.bl _)⟩⟩
  | non => cases hd; cases r1; exact ⟨true, .inr ⟨.inr (.inl rfl), hq G1 H1 _ (Ex.refl G1) S1 (.bl _)⟩⟩
  | ins c ns es => cases hd; cases r1; exact ⟨true, .inr ⟨.inr (.inr ⟨_, rfl⟩), hq G1 H1 _ (Ex.refl G1) S1 (.bl _)⟩⟩
  | _ => cases hd
theorem j_isB {c : Bool} (ha : JE X W a fa) : JE X W (.Compare a [.Is] [.Constant (.bool c) j pos'] pos) (fun1 (isBl c false) fa) := by
  obtain ⟨ta, pa, sa⟩ := ha
  exact ⟨_, pe_cmp (pc_isB pa), isB_snd (neg := false) sa⟩
theorem j_notB {c : Bool} (ha : JE X W a fa) : JE X W (.Compare a [.IsNot] [.Constant (.bool c) j pos'] pos) (fun1 (isBl c true) fa) := by
  obtain ⟨ta, pa, sa⟩ := ha
  exact ⟨_, pe_cmp (pc_notB pa), isB_snd (neg := true) sa⟩
theorem jt_isB {c : Bool} (ha : JE X W a fa) : JT X W (.Compare a [.Is] [.Constant (.bool c) j pos'] pos) (fTest (fun1 (isBl c false) fa)) := by
  obtain ⟨ta, pa, sa⟩ := ha
  exact ⟨_, pt_cmp (pc_isB pa), snd_test (isB_snd (neg := false) sa)⟩
theorem jt_notB {c : Bool} (ha : JE X W a fa) : JT X W (.Compare a [.IsNot] [.Constant (.bool c) j pos'] pos) (fTest (fun1 (isBl c true) fa)) := by
  obtain ⟨ta, pa, sa⟩ := ha
  exact ⟨_, pt_cmp (pc_notB pa), snd_test (isB_snd (neg := true) sa)⟩
end
end J

namespace J
open PySem PySem.Spec PyProof.Rows L2

/-! ### isinstance(x, C), C an own class -/
/-- what isinstance asks of an instance's class -/
def insB (K : PySem.W.Frag) (C : Addr) : Bool := PySem.W.plainGet K C Str.empty && (PySem.W.hasDictIn K C && (PySem.W.plainOver K C && (He.eqO (PySem.W.findIn K (.ref C) "__setattr__") (some (some (.builtin "object.__setattr__"))) && (He.eqO (PySem.W.findIn K (.ref C) "__class__") (some (some (.builtin "object.__class__"))) &&
  (He.eqO (PySem.W.specialIn K (.builtin "object.__class__") "__get__") (some (some (.builtin "getset_descriptor.__get__"))) && (decide (PySem.W.takesIn K (.builtin "object.__class__") = some true) && decide (PySem.W.mroIn K C (.type "object") = some true)))))))
structure IsJ (K : PySem.W.Frag) (C : Str) (T : Str → Option Bool) (ts : List String) : Prop where
  ins : ∀ c b, T c = some b → insB K (He.ga K c) = true ∧ PySem.W.kitOne K (.ref (He.ga K c)) (.ref (He.ga K C)) = some b
  ty : ∀ t ∈ ts, PySem.W.kitOne K (.type t) (.ref (He.ga K C)) = some false
def gIsO (T : Str → Option Bool) (ts : List String) : D → Option D := fun d => match d with
  | .ins c _ _ => (T c).map D.bl
  | d => (tyName d).bind fun n => if n ∈ ts then some (.bl false) else none
section
variable {X : Cx} {W : WJ} {a : Expr} {fa : Env → R D} {pos p p2 : Pos} {C : Str} {T : Str → Option Bool} {ts : List String}
theorem ins_tyx {K : PySem.W.Frag} {H : Hp} {q : Addr} {Ca dx : Addr} {fs : List (Str × V)} (h : insB K Ca = true) (e : H q = some (.ins Ca dx fs)) : TyX K H (.ref q) (.ref Ca) := by
  unfold insB at h
  simp only [Bool.and_eq_true] at h
  obtain ⟨h1, h2, h3, h4, h5, h6, h7, h8⟩ := h
  exact .base (.ins e ⟨h1, h2, h3, He.eqO_ok h4⟩ (He.eqO_ok h5) (He.eqO_ok h6) (of_decide_eq_true h7) (of_decide_eq_true h8))
theorem j_isO (hI : IsJ X.K C T ts) (hm : X.mg "isinstance" = none) (hC : X.mg C = some (.ref (He.ga X.K C))) (ha : JE X W a fa) (hg : Gl X "isinstance" := by rfl) (hg2 : Gl X C := by rfl) (hd2 : (C == ("__debug__" : Str)) = false := by decide)
    (he : starEach [a, .Name C p2] X.env = (false, eval a X.env) :: starEach [.Name C p2] X.env := by rfl) (he2 : starEach [.Name C p2] X.env = (false, eval (.Name C p2) X.env) :: starEach [] X.env := by rfl) (hpl : (backTo pos (starEach [.Name C p2] X.env)).any (·.1) = false := by rfl) :
    JE X W (.Call (.Name "isinstance" p) [a, .Name C p2] [] pos) (fun1 (gIsO T ts) fa) := by
  obtain ⟨ta, pa, sa⟩ := ha
  refine ⟨_, pe_callB call_isi hg hm (by decide +kernel) (pa_cons pa (pa_cons (pe_glob (v := .ref (He.ga X.K C)) hg2 hC rfl hd2) pa_nil he2) he) (by decide) (by decide) he hpl, fun Φ G H σ E Q S hp => ?_⟩
  have hp' : Post X.K W.w (relE X.K) Φ G σ ((fa E).bind fun x E => match gIsO T ts x with | some d => .ok d E | none => .stuck) Q := hp
  refine sa.go S hp' fun d E1 G1 H1 x _ e1 S1 r1 hp => ?_
  obtain ⟨y, hd, hq⟩ := Post.opt (o := gIsO T ts d) hp
  have other : ∀ n, tyName d = some n → n ∈ ts → y = .bl false → ∃ (x' c : V) (t u : Value) (b : Bool), [x, .ref (He.ga X.K C)] = [x', c] ∧ ClsV c u ∧ TyX X.K H1 x' t ∧ PySem.W.kitOne X.K t u = some b ∧ Q (.bl b) H1 := fun n h1 h2 h3 => by
    subst h3
    exact ⟨x, _, .type n, _, false, rfl, .own _, (Rp.sh S1.gh r1).tyx S1.gh h1, hI.ty n h2, hq G1 H1 _ (Ex.refl G1) S1 (.bl _)⟩
  cases d with
  | ins c ns es =>
    obtain ⟨b, hb, rfl⟩ := Option.map_eq_some_iff.mp (show (T c).map D.bl = some y from hd)
    obtain ⟨k1, k2⟩ := hI.ins c b hb
    cases r1 with
    | ins h1 h2 h3 => exact ⟨_, _, .ref _, _, b, rfl, .own _, ins_tyx k1 (S1.gh _ _ h1), k2, hq G1 H1 _ (Ex.refl G1) S1 (.bl _)⟩
  | non => obtain ⟨n, h1, h2⟩ := Option.bind_eq_some_iff.mp (show (tyName .non).bind (fun n => if n ∈ ts then some (D.bl false) else none) = some y from hd); obtain ⟨h3, h4⟩ := if_some h2; exact other n h1 h3 h4
  | bl b => obtain ⟨n, h1, h2⟩ := Option.bind_eq_some_iff.mp (show (tyName (.bl b)).bind (fun n => if n ∈ ts then some (D.bl false) else none) = some y from hd); obtain ⟨h3, h4⟩ := if_some h2; exact other n h1 h3 h4
  | int b => obtain ⟨n, h1, h2⟩ := Option.bind_eq_some_iff.mp (show (tyName (.int b)).bind (fun n => if n ∈ ts then some (D.bl false) else none) = some y from hd); obtain ⟨h3, h4⟩ := if_some h2; exact other n h1 h3 h4
  | str b => obtain ⟨n, h1, h2⟩ := Option.bind_eq_some_iff.mp (show (tyName (.str b)).bind (fun n => if n ∈ ts then some (D.bl false) else none) = some y from hd); obtain ⟨h3, h4⟩ := if_some h2; exact other n h1 h3 h4
  | tup b => obtain ⟨n, h1, h2⟩ := Option.bind_eq_some_iff.mp (show (tyName (.tup b)).bind (fun n => if n ∈ ts then some (D.bl false) else none) = some y from hd); obtain ⟨h3, h4⟩ := if_some h2; exact other n h1 h3 h4
  | lst b => obtain ⟨n, h1, h2⟩ := Option.bind_eq_some_iff.mp (show (tyName (.lst b)).bind (fun n => if n ∈ ts then some (D.bl false) else none) = some y from hd); obtain ⟨h3, h4⟩ := if_some h2; exact other n h1 h3 h4
  | rol b => cases hd

/-! ### xs.count(i) -/
def gCntL (l : List D) : D → Option D
  | .int k => (intsD l).map fun ns => .int (ns.count k : Nat)
  | _ => none
def fCnt (fo fe : Env → R D) : Env → R D := fun E => (fo E).bind fun x E => match listD x with
  | some l => (fe E).bind fun y E => (match gCntL l y with | some d => .ok d E | none => .stuck)
  | none => .stuck
theorem j_count {o e : Expr} {fo fe : Env → R D} {apos : Pos} (ho : JE X W o fo) (hv : JE X W e fe) (hbase : attributeBase o "count" X.env (eval o X.env) = eval o X.env := by rfl)
    (hfew : ((backTo pos (starEach [e] X.env)).all (fun x => !x.1) && (backToKw pos (keywordEach [] X.env)).all (fun x => x.1.isSome) && decide ([e].length + ([] : List Keyword).length + (if ([] : List Keyword).isEmpty then 0 else 1) < 30)) = true := by rfl) (hline : (apos.endLine == pos.line) = true := by rfl)
    (hs : starEach [e] X.env = (false, eval e X.env) :: starEach [] X.env := by rfl) (hplain : (backTo pos (starEach [] X.env)).any (·.1) = false := by rfl) : JE X W (.Call (.Attribute o "count" apos) [e] [] pos) (fCnt fo fe) := by
  obtain ⟨to, po, so⟩ := ho
  obtain ⟨te, pe, se⟩ := hv
  refine ⟨_, pe_bm PySem.F.plainAttrs_list PySem.F.slot_list_count PySem.F.type_list_count mt_lcount po (pa_cons pe pa_nil hs) hbase hfew hline hs hplain, fun Φ G H σ E Q S hp => ?_⟩
  have hp' : Post X.K W.w (relE X.K) Φ G σ ((fo E).bind fun x E => match listD x with
    | some l => (fe E).bind fun y E => (match gCntL l y with | some d => .ok d E | none => .stuck)
    | none => .stuck) Q := hp
  refine so.go S hp' fun x E1 G1 H1 v _ e1 S1 r1 hp => ?_
  have tyl : ∀ l, listD x = some l → ∃ q vs, v = .ref q ∧ SqL X.K G1 q vs ∧ RpA X.K G1 vs l := fun l h => by
    cases x with
    | lst l' => cases h; cases r1 with | lst h1 h2 => exact ⟨_, _, rfl, SqL.of h1, h2⟩
    | rol l' => cases h; cases r1 with | rol h1 h2 => exact ⟨_, _, rfl, h1, h2⟩
    | _ => cases h
  obtain ⟨l, hl⟩ : ∃ l, listD x = some l := by
    cases hx : listD x with
    | some l => exact ⟨l, rfl⟩
    | none => rw [hx] at hp; exact hp.elim
  rw [hl] at hp
  obtain ⟨q, vs, rfl, h1, h2⟩ := tyl l hl
  refine ⟨.inl ⟨rfl, vs, S1.gh.sl h1⟩, ?_⟩
  refine se.go S1 hp fun y E2 G2 H2 u _ e2 S2 r2 hp => ?_
  obtain ⟨d, hd, hq⟩ := Post.opt (o := gCntL l y) hp
  cases y with
  | int k =>
    obtain ⟨ns, hn, rfl⟩ := Option.map_eq_some_iff.mp (show (intsD l).map (fun ns => D.int (ns.count k : Nat)) = some d from hd)
    have := intsD_eq hn
    subst this
    have hv := RpA.of_ints h2
    subst hv
    cases r2
    exact ⟨q, ns, k, rfl, rfl, S2.gh.sl (e2.sl h1), hq G2 H2 _ (Ex.refl G2) S2 (.int _)⟩
  | _ => cases hd
end

/-! ### gcd, lcm -/
section
variable {X : Cx} {W : WJ} {a b : Expr} {fa fb : Env → R D} {pos p : Pos} {x : Str}
def gGcd : D → D → Option D := g2I fun i j => some ((Nat.gcd i.natAbs j.natAbs : Nat) : Int)
def lcmOk (i j : Int) : Prop := (max 1 i.natAbs).log2 / 30 + 1 ≤ 450 ∧ (max i.natAbs j.natAbs).log2 / 30 + 1 ≤ 450
instance (i j : Int) : Decidable (lcmOk i j) := by unfold lcmOk; infer_instance
def gLcm : D → D → Option D := g2I fun i j => if lcmOk i j then some ((Nat.lcm i.natAbs j.natAbs : Nat) : Int) else none
def rI2 (C : Int → Int → Prop) (h : Int → Int → Int) : List V → Hp → VK → Prop := fun xs H Q => ∃ i j, xs = [.int i, .int j] ∧ C i j ∧ Q (.int (h i j)) H
theorem j_mod2 {id : String} {C : Int → Int → Prop} {h : Int → Int → Int} {g : Int → Int → Option Int} (hc : CallR X (.builtin id) (rI2 C h)) (hg' : ∀ i j k, g i j = some k → C i j ∧ k = h i j) (hm : X.mg x = some (.builtin id)) (ha : JE X W a fa) (hb : JE X W b fb) (hg : Gl X x := by rfl) (hdb : (x == ("__debug__" : Str)) = false := by decide)
    (he : starEach [a, b] X.env = (false, eval a X.env) :: starEach [b] X.env := by rfl) (he2 : starEach [b] X.env = (false, eval b X.env) :: starEach [] X.env := by rfl) (hpl : (backTo pos (starEach [b] X.env)).any (·.1) = false := by rfl) : JE X W (.Call (.Name x p) [a, b] [] pos) (fop (g2I g) fa fb) := by
  obtain ⟨ta, pa, sa⟩ := ha
  obtain ⟨tb, pb, sb⟩ := hb
  refine ⟨_, pe_callBfun hc hg hm (pa_cons pa (pa_cons pb pa_nil he2) he) hdb he hpl, fun Φ G H σ E Q S hp => ?_⟩
  have hp' : Post X.K W.w (relE X.K) Φ G σ ((fa E).bind fun x E => (fb E).bind fun y E => match g2I g x y with | some d => .ok d E | none => .stuck) Q := hp
  refine sa.go S hp' fun x E1 G1 H1 v _ e1 S1 r1 hp => ?_
  refine sb.go S1 hp fun y E2 G2 H2 u _ e2 S2 r2 hp => ?_
  obtain ⟨d, hd, hq⟩ := Post.opt (o := g2I g x y) hp
  cases x with
  | int i =>
    cases y with
    | int j =>
      obtain ⟨k, hk, rfl⟩ := Option.map_eq_some_iff.mp (show (g i j).map D.int = some d from hd)
      obtain ⟨h1, rfl⟩ := hg' i j k hk
      cases r1
      cases r2
      exact ⟨i, j, rfl, h1, hq G2 H2 _ (Ex.refl G2) S2 (.int _)⟩
    | _ => cases hd
  | _ => cases hd
theorem cr_gcd2 : CallR X (.builtin "math.gcd") (rI2 (fun _ _ => True) fun i j => ((Nat.gcd i.natAbs j.natAbs : Nat) : Int)) := fun pins s σ H xs us Q I r ⟨i, j, hx, _, q⟩ => cr_gcd pins s σ H xs us Q I r ⟨i, j, hx, q⟩
theorem lt_of_log {n k : Nat} (h : n.log2 < k) : n < 2 ^ k := by
  by_cases h0 : n = 0
  · subst h0; exact Nat.pow_pos (by decide)
  · exact (Nat.log2_lt h0).mp h
theorem log_of_lt {n k : Nat} (h : n < 2 ^ k) (hk : 0 < k) : n.log2 < k := by
  by_cases h0 : n = 0
  · subst h0; rw [Nat.log2_zero]; exact hk
  · exact (Nat.log2_lt h0).mpr h
theorem lcm_fits {i j : Int} (h : lcmOk i j) : ((((Nat.lcm 1 i.natAbs).lcm j.natAbs : Nat) : Int)).natAbs.log2 < bitsLine := by
  have h1 : i.natAbs < 2 ^ 13500 := Nat.lt_of_le_of_lt (Nat.le_max_right 1 _) (lt_of_log (by have := h.1; omega))
  have h2 : j.natAbs < 2 ^ 13500 := Nat.lt_of_le_of_lt (Nat.le_max_right i.natAbs _) (lt_of_log (by have := h.2; omega))
  rw [show Nat.lcm 1 i.natAbs = i.natAbs by simp [Nat.lcm], Int.natAbs_natCast]
  have h3 : i.natAbs.lcm j.natAbs < 2 ^ 27000 := by
    have : (2 : Nat) ^ 27000 = 2 ^ 13500 * 2 ^ 13500 := by rw [← Nat.pow_add]
    rw [this]
    refine Nat.lt_of_le_of_lt (show i.natAbs.lcm j.natAbs ≤ i.natAbs * j.natAbs from Nat.div_le_self _ _) ?_
    exact Nat.mul_lt_mul_of_lt_of_le h1 (Nat.le_of_lt h2) (Nat.pow_pos (by decide))
  exact Nat.lt_trans (log_of_lt h3 (by decide)) (by decide)
theorem cr_lcm2 : CallR X (.builtin "math.lcm") (rI2 lcmOk fun i j => ((Nat.lcm i.natAbs j.natAbs : Nat) : Int)) := by
  intro pins s σ H vs us Q I r ⟨i, j, hx, hc, q⟩
  subst hx
  obtain ⟨t, u, rfl⟩ := Vals.int2 r
  have hs := lcm_fits hc
  have g := PySem.W.mg_run_lcm i t j u (by have := hc.1; omega) (by have := hc.2; omega) hs
  rw [show Nat.lcm 1 i.natAbs = i.natAbs by simp [Nat.lcm]] at g
  exact PySem.call_function_meets PySem.W.MGF.kind_lcm PySem.W.MGF.plain_lcm PySem.W.MGF.entry_lcm (PySem.W.MGF.args_lcm _ _) g.meets ⟨.int _, H, I.tok _, ⟨_, rfl⟩, q⟩
theorem j_gcd (hm : X.mg x = some (.builtin "math.gcd")) (ha : JE X W a fa) (hb : JE X W b fb) (hg : Gl X x := by rfl) (hdb : (x == ("__debug__" : Str)) = false := by decide)
    (he : starEach [a, b] X.env = (false, eval a X.env) :: starEach [b] X.env := by rfl) (he2 : starEach [b] X.env = (false, eval b X.env) :: starEach [] X.env := by rfl) (hpl : (backTo pos (starEach [b] X.env)).any (·.1) = false := by rfl) : JE X W (.Call (.Name x p) [a, b] [] pos) (fop gGcd fa fb) :=
  j_mod2 cr_gcd2 (fun i j k h => ⟨trivial, (Option.some.inj h).symm⟩) hm ha hb hg hdb he he2 hpl
theorem j_lcm (hm : X.mg x = some (.builtin "math.lcm")) (ha : JE X W a fa) (hb : JE X W b fb) (hg : Gl X x := by rfl) (hdb : (x == ("__debug__" : Str)) = false := by decide)
    (he : starEach [a, b] X.env = (false, eval a X.env) :: starEach [b] X.env := by rfl) (he2 : starEach [b] X.env = (false, eval b X.env) :: starEach [] X.env := by rfl) (hpl : (backTo pos (starEach [b] X.env)).any (·.1) = false := by rfl) : JE X W (.Call (.Name x p) [a, b] [] pos) (fop gLcm fa fb) :=
  j_mod2 cr_lcm2 (fun i j k h => if_some h) hm ha hb hg hdb he he2 hpl
end
end J

namespace J
open PySem PySem.Spec PyProof.Rows L2

/-! ### C.m(..), m a staticmethod -/
def stB (K : PySem.W.Frag) (C : Addr) (m : Str) (g : Addr) : Bool := PySem.W.readsIn K C (.type "type") && (He.eqO (PySem.W.specialIn K (.ref C) "__getattribute__") (some (some (.builtin "type.__getattribute__"))) && ((match PySem.W.findCls K (.ref C) (.type "type") m with
  | some (.get (.builtin i) (.ref p) .none (.ref D)) => decide (i = "staticmethod.__get__") && (decide (p = He.ma K C m) && decide (D = C))
  | _ => false) && ((match PySem.W.recIn K (He.ma K C m) "staticmethod" with
  | some (.ref f :: _) => decide (f = g)
  | _ => false) && (PySem.W.keepIn K (.ref g) && PySem.W.isFn K (.ref g)))))
/-- the staticmethod's def -/
def sfA (K : PySem.W.Frag) (C : Addr) (m : Str) : Addr := match PySem.W.recIn K (He.ma K C m) "staticmethod" with
  | some (.ref f :: _) => f
  | _ => 0
theorem stB_ok {K : PySem.W.Frag} {C g : Addr} {m : Str} (h : stB K C m g = true) : PySem.W.readsIn K C (.type "type") = true ∧ PySem.W.specialIn K (.ref C) "__getattribute__" = some (some (.builtin "type.__getattribute__")) ∧
    PySem.W.findCls K (.ref C) (.type "type") m = some (.get (.builtin "staticmethod.__get__") (.ref (He.ma K C m)) .none (.ref C)) ∧ (∃ rest, PySem.W.recIn K (He.ma K C m) "staticmethod" = some (.ref g :: rest)) ∧ PySem.W.keepIn K (.ref g) = true ∧ PySem.W.isFn K (.ref g) = true := by
  unfold stB at h
  simp only [Bool.and_eq_true] at h
  obtain ⟨h1, h2, h3, h4, h5, h6⟩ := h
  refine ⟨h1, He.eqO_ok h2, ?_, ?_, h5, h6⟩
  · clear h4
    split at h3
    · rename_i i p D e
      simp only [Bool.and_eq_true, decide_eq_true_eq] at h3
      obtain ⟨rfl, rfl, rfl⟩ := h3
      exact e
    · cases h3
  · split at h4
    · rename_i f r e
      have := of_decide_eq_true h4
      subst this
      exact ⟨r, e⟩
    · cases h4
section
variable {X : Cx} {CX : CXT} {k : Nat} {C g : Addr} {fd : FuncData} {ps : List Str} {sp : Sp} {dvs : List V} {ds : List Value} {Es : St → XK} {x m : Str} {p pos apos : Pos} {e o : Expr} {es : List Expr} {ta : TE} {t : TA}
def tStat (C : Addr) (sp : Sp) (dvs : List V) (Es : St → XK) (ta : TE) (t : TA) : TE := fun σ H Q => ta σ H fun x H1 => x = .ref C ∧ t σ H1 fun vs H2 => sp (vs ++ dvs) H2 Q (Es σ)
theorem pe_stat {pl : Sem Bool} (he : PE X o ta) (hB : stB X.K C m g = true) (F : FnOk X.prog X.w X.K X.mg X.base CX k g fd ps sp) (hr : Room k X.A) (hb : Binds X.K fd ps ds) (hd : Vals dvs ds) (hx : ∀ σ, PassesAt CX X σ (Es σ)) (ha : PA X (e :: es) t)
    (hst : starEach (e :: es) X.env = (false, eval e X.env) :: starEach es X.env := by rfl) (hpl : (backTo pos (starEach es X.env)).any (·.1) = false := by rfl)
    (ht : eval (.Call (.Attribute o m apos) (e :: es) [] pos) X.env = (do
      let ov ← eval o X.env
      standAt apos.atName
      let (f, first) ← holding [ov] (getMethod ov m pl)
      callWith pos f first (backTo pos (starEach (e :: es) X.env)) (backToKw pos (keywordEach [] X.env))) := by rfl) :
    PE X (.Call (.Attribute o m apos) (e :: es) [] pos) (tStat C sp dvs Es ta t) := by
  obtain ⟨h1, h2, h3, ⟨rest, h4⟩, h5, h6⟩ := stB_ok hB
  refine ⟨fun pins s σ H Q I h => ?_⟩
  refine PySem.W.methodCall_KW (pl := pl) (thn (he.run pins s σ H _ I h) fun u s1 ⟨x, H1, I1, rx, ex, q⟩ => ?_) ht
  subst ex
  obtain rfl : u = Value.ref C := rx
  refine PySem.W.method_cls I1.kIn h2 (PySem.W.cls_bind I1.kIn h1 h3 ?_)
  refine wpAny_call (PySem.W.sm_get (s := { s1 with toks := s1.toks + 1 }) I1.kIn h4 (PySem.W.handed_on rfl ?_))
  have I2 := I1.tok (s1.toks + 1)
  refine PySem.W.callWith_K (first := []) (h₀ := X.base) I2.ok.mod.kin h5 (thn (ha.run pos pins _ σ H1 _ I2 q) fun us s2 ⟨vs, H2, I3, r, q2⟩ => ⟨I3.kIn, ?_⟩) hst hpl
  exact run_fnSD F hr hb hd (hx σ) I3 r q2
end
/-- a staticmethod of the class named c -/
structure StJ (P : Program) (w : World) (K : PySem.W.Frag) (mg : Str → Option Value) (base : Heap) (k : Nat) (c m : Str) (n : Nat) (F : DF) : Prop where
  ok : mg c = some (.ref (He.ga K c)) ∧ ∃ g fd ps, stB K (He.ga K c) m g = true ∧ Binds K fd ps [] ∧ FnOk P w K mg base (L2N.CX P w) k g fd ps (spJ K n F)
theorem StJ.mono {P : Program} {w : World} {K : PySem.W.Frag} {mg : Str → Option Value} {base : Heap} {j k : Nat} {c m : Str} {n : Nat} {F : DF} (h : StJ P w K mg base j c m n F) (hk : j ≤ k) : StJ P w K mg base k c m n F := by
  obtain ⟨h0, g, fd, ps, h1, h2, h3⟩ := h
  exact ⟨h0, g, fd, ps, h1, h2, h3.mono hk⟩
theorem j_stat {X : Cx} {W : WJ} {k n : Nat} {c m : Str} {p pos apos : Pos} {e : Expr} {es : List Expr} {fa : Env → R (List Ar)} {F : DF} (hF : StJ X.prog X.w X.K X.mg X.base k c m n F) (hr : Room k X.A) (tk : L2N.Takes X W.w) (ha : JX X W (e :: es) fa) (hg : Gl X c := by rfl) (hd : (c == ("__debug__" : Str)) = false := by decide) {pl : Sem Bool}
    (hst : starEach (e :: es) X.env = (false, eval e X.env) :: starEach es X.env := by rfl) (hpl : (backTo pos (starEach es X.env)).any (·.1) = false := by rfl)
    (ht : eval (.Call (.Attribute (.Name c p) m apos) (e :: es) [] pos) X.env = (do
      let ov ← eval (.Name c p) X.env
      standAt apos.atName
      let (f, first) ← holding [ov] (getMethod ov m pl)
      callWith pos f first (backTo pos (starEach (e :: es) X.env)) (backToKw pos (keywordEach [] X.env))) := by rfl) : JE X W (.Call (.Attribute (.Name c p) m apos) (e :: es) [] pos) (fCallR n F fa rvD) := by
  obtain ⟨h0, g, fd, ps, h1, h2, h3⟩ := hF
  obtain ⟨ta, pa, sa⟩ := ha
  refine ⟨_, pe_stat (pl := pl) (dvs := []) (ds := []) (Es := fun σ => WE W.w σ) (pe_glob (v := .ref (He.ga X.K c)) hg h0 rfl hd) h1 h3 hr h2 .nil (fun σ => L2N.passAt tk σ) pa hst hpl ht, fun Φ G H σ E Q S hp => ⟨rfl, ?_⟩⟩
  have hp' : Post X.K W.w (relE X.K) Φ G σ ((fa E).bind fun as E1 => callD n F as rvD E1) Q := hp
  refine sa.go S hp' fun as E1 G1 H1 vs _ e1 S1 r1 hp => ?_
  show spJ X.K n F (vs ++ []) H1 Q (WE W.w σ)
  rw [List.append_nil]
  exact callE_ok S1.toSat r1 hp

/-! ### bool(x) of an instance -/
section
variable {X : Cx} {W : WJ} {k : Nat} {a : Expr} {fa : Env → R D} {tbl : Str → Option DF} {pos p : Pos}
/-- what a __bool__ gives back: a bool -/
def rOwnB (C : Addr) (sp : Sp) (Es : St → XK) : R1 := fun x σ H Q => ∃ a dx fs, x = .ref a ∧ H a = some (.ins C dx fs) ∧ sp [x] H (fun v H' => (∃ b, v = .bl b) ∧ Q v H') (Es σ)
theorem bool_own {C : Addr} {fd : FuncData} {ps : List Str} {sp : Sp} {Es : St → XK} {CX : CXT} (hB : unB X.K C "__bool__" = true) (F : FnOk X.prog X.w X.K X.mg X.base CX k (He.ma X.K C "__bool__") fd ps sp) (hr : Room (k + 2) X.A) (hb : Binds X.K fd ps []) (hx : ∀ σ, PassesAt CX X σ (Es σ)) : UnR1 X (fun v => call (.type "bool") [v]) (rOwnB C sp Es) := by
  unfold unB at hB
  simp only [Bool.and_eq_true] at hB
  intro pins s σ H x v Q I rx ⟨a, dx, fs, ex, ha, hsp⟩
  subst ex
  obtain rfl : v = Value.ref a := rx
  obtain ⟨mA, J0, _⟩ := ins_get I.hok ha
  obtain ⟨od, J1, _⟩ := J0.look
  obtain ⟨m, hF⟩ := I.fr
  have run := run_fnA (us := [.ref a]) (vs := [.ref a]) (A := X.A.in1.in1) F hr.in1.in1 rfl hb (hx σ) I (.cons rfl .nil) hsp
  have tru : wpAny (model X.prog X.w) X.A.in1.in1 (truthy (.ref a)) (fun b s' => ∃ H', Inv X pins σ H' s' ∧ Q (.bl b) H') X.xe s := by
    refine PySem.W.truthy_K hF I.ok.mod.kin J1 (He.eqO_ok hB.1) hB.2 (wpAny_mono run (fun r s' q => ?_) fun _ _ e => e)
    obtain ⟨z, H', I', rz, ⟨b, rfl⟩, q⟩ := q
    cases rz
    exact ⟨H', I', q⟩
  have nw : wpAny (model X.prog X.w) X.A.in1.in1 (Builtin.«bool.__new__» ⟨[.type "bool", .ref a], []⟩) (fun fin s' => ∃ b H', fin = .done (.ret (.bool b)) ∧ Inv X pins σ H' s' ∧ Q (.bl b) H') X.xe s := by
    unfold Builtin.«bool.__new__»
    refine wpAny_bind (wpAny_of_eq (a := true) rfl ?_)
    refine PySem.W.KFB.if_not rfl ?_
    refine wpAny_bind (wpAny_of_eq (a := true) PySem.F.conv_sub_bool ?_)
    refine PySem.W.KFB.if_not rfl ?_
    refine wpAny_bind (wpAny_of_eq (a := [Value.ref a]) rfl ?_)
    refine wpAny_bind (wpAny_mono tru (fun b s' q => ?_) fun _ _ e => e)
    obtain ⟨H', I', q⟩ := q
    exact wpAny_pure ⟨b, H', rfl, I', q⟩
  refine callType_codes (Q₁ := fun obj s1 => ∃ b H', obj = .bool b ∧ Inv X pins σ H' s1 ∧ Q (.bl b) H') PySem.F.called_bool (PySem.F.typeCall_bool_1 _) PySem.F.entry_object_init ?_ ?_
  · refine codeAny_call_builtin PySem.F.called_bool.plain PySem.F.entry_bool_new (wpAny_of_eq (PySem.F.newCall_bool_1 _) ?_)
    refine wpAny_mono nw (fun fin s' q => ?_) fun _ _ e => e
    obtain ⟨b, H', rfl, I', q⟩ := q
    exact ⟨b, H', rfl, I', q⟩
  · rintro obj s1 ⟨b, H', rfl, I', q⟩
    refine ⟨rfl, PySem.F.args_object_init_2 _ _, ?_⟩
    exact object_init_meets PySem.F.called_bool.init.lookup PySem.F.called_bool.made PySem.F.newNe_bool X.prog X.w X.A.in1 _ s1 ⟨rfl, rfl, ⟨.bl b, H', I', rfl, q⟩⟩
def blO (d : D) (E : Env) : R D := match d with
  | .bl b => .ok (.bl b) E
  | _ => .stuck
def fUnB (tbl : Str → Option DF) (g : D → Option D) (fa : Env → R D) : Env → R D := fun E => (fUn tbl g fa E).bind blO
theorem Post.blO {K : PySem.W.Frag} {W : WX} {Φ : Fr} {G : Hp} {σ : St} {r : R D} {Q : VK} (h : Post K W (relE K) Φ G σ (r.bind J.blO) Q) : Post K W (relE K) Φ G σ r (fun v H' => (∃ b, v = .bl b) ∧ Q v H') := by
  cases r with
  | stuck => exact h
  | exc x E => exact h
  | ok d E =>
    cases d with
    | bl b => intro G' H' v e S r; cases r; exact ⟨⟨b, rfl⟩, h G' H' _ e S (.bl b)⟩
    | _ => exact h.elim
theorem j_boolO (hF : ∀ c F, tbl c = some F → UnJ X.prog X.w X.K X.mg X.base k "__bool__" c F) (hr : Room (k + 2) X.A) (tk : L2N.Takes X W.w) (hm : X.mg "bool" = none) (ha : JE X W a fa) (hg : Gl X "bool" := by rfl)
    (he : starEach [a] X.env = (false, eval a X.env) :: starEach [] X.env := by rfl) (hpl : (backTo pos (starEach [] X.env)).any (·.1) = false := by rfl) : JE X W (.Call (.Name "bool" p) [a] [] pos) (fUnB tbl gBoolF fa) := by
  obtain ⟨ta, pa, sa⟩ := ha
  refine ⟨_, pe_callT1 (T := "bool") (r := fun x σ H Q => ((∃ i, x = .int i ∧ Q (.bl (i != 0)) H) ∨ ∃ k, x = .bl k ∧ Q (.bl k) H) ∨ ∃ i : Tb tbl, rOwnB (He.ga X.K i.1.1) (spJ X.K 1 i.1.2) (fun σ => WE W.w σ) x σ H Q) (fun pins s σ H x v Q I rx q => ?_) hg hm (by decide +kernel) pa (by decide) (by decide) he hpl, fun Φ G H σ E Q S hp => ?_⟩
  · rcases q with q | ⟨i, q⟩
    · refine call_bool1 pins s σ H [x] [v] Q I (.cons rx .nil) ?_
      rcases q with ⟨i, rfl, q⟩ | ⟨b, rfl, q⟩
      · exact .inl ⟨i, rfl, q⟩
      · exact .inr ⟨b, rfl, q⟩
    · obtain ⟨h0, fd, ps, h1, h2⟩ := hF _ _ i.2
      exact bool_own h0 h2 hr h1 (fun σ => L2N.passAt tk σ) pins s σ H x v Q I rx q
  · have hp' : Post X.K W.w (relE X.K) Φ G σ ((fa E).bind fun x E => (own1 tbl gBoolF x E).bind J.blO) Q := by
      have h : Post X.K W.w (relE X.K) Φ G σ (((fa E).bind fun x E => own1 tbl gBoolF x E).bind J.blO) Q := hp
      rw [R.bind_assoc] at h
      exact h
    refine sa.go S hp' fun x E1 G1 H1 v _ e1 S1 r1 hp => ?_
    have hp := Post.blO hp
    cases x with
    | ins c ns es =>
      have hp : Post X.K W.w (relE X.K) Φ G1 σ (match tbl c with
        | some F => callD 1 F [.v (.ins c ns es)] rvD E1
        | none => .stuck) (fun v H' => (∃ b, v = .bl b) ∧ Q v H') := hp
      cases ht : tbl c with
      | none => rw [ht] at hp; exact hp.elim
      | some F =>
        rw [ht] at hp
        have hsp := callE_ok S1.toSat (.v r1 .nil) hp
        cases r1 with
        | ins h1 h2 h3 => exact .inr ⟨⟨(c, F), ht⟩, _, _, _, rfl, S1.gh _ _ h1, hsp⟩
    | int i =>
      cases r1
      exact .inl (.inl ⟨i, rfl, (hp G1 H1 _ (Ex.refl G1) S1.toSat (.bl _)).2⟩)
    | bl b =>
      cases r1
      exact .inl (.inr ⟨b, rfl, (hp G1 H1 _ (Ex.refl G1) S1.toSat (.bl _)).2⟩)
    | _ => exact hp.elim
end
end J

namespace J
open PySem PySem.Spec PyProof.Rows L2

/-! ### the head's facts, with own classes -/
inductive Fc where
  | old (f : Fb)
  | op (c : Str) (nm : String)
  | cm (c m : Str)
  | un (c m : Str)
  | ins (c : Str)
  | kitT (t : String) (c : Str) (r : Bool)
  | blt (x : Str) (id : String)
  | st (c m : Str)
  | dig
  | seer
/-- nobody has set another bound for the digits of a text -/
def digB (K : PySem.W.Frag) : Bool := PySem.W.nsOkIn K cStatics && (match PySem.W.nsIn K cStatics "sys.int_max_str_digits" with
  | some none => true
  | _ => false)
/-- nobody sees the import of _pylong -/
def seerB (K : PySem.W.Frag) : Bool := PySem.W.nsOkIn K cStatics && (decide (PySem.W.nsIn K cStatics "sys.audit-hooks" = some none) && (decide (PySem.W.nsIn K cStatics "sys.dict" = some none) && (PySem.W.nsOkIn K sysModules && (decide (PySem.W.nsIn K sysModules "_pylong" = some none) &&
  (match PySem.W.nsIn K mainGlobals "__builtins__" with
  | some (some (.ref b)) => (match K.lookup b with
    | some o => decide (o.cls = .type "module") && decide (o.dict = some builtinsNs)
    | none => false)
  | _ => false)))))
def bltB (K : PySem.W.Frag) (x : Str) (id : String) : Bool := match PySem.W.nsIn K mainGlobals x with
  | some (some (.builtin i)) => decide (i = id)
  | _ => false
def Fc.ok (K : PySem.W.Frag) : Fc → Bool
  | .old f => f.ok K
  | .op c nm => opB K (He.ga K c) nm
  | .cm c m => cmB K (He.ga K c) m
  | .un c m => unB K (He.ga K c) m
  | .ins c => insB K (He.ga K c)
  | .kitT t c r => decide (PySem.W.kitOne K (.type t) (.ref (He.ga K c)) = some r)
  | .blt x id => bltB K x id
  | .st c m => stB K (He.ga K c) m (sfA K (He.ga K c) m)
  | .dig => digB K
  | .seer => seerB K
theorem blt_ok {K : PySem.W.Frag} {h : Heap} {mg : Str → Option Value} (X : K.In h) (G : h.Ns mainGlobals mg) {x : Str} {id : String} (c : bltB K x id = true) : mg x = some (.builtin id) := by
  unfold bltB at c
  split at c
  · rename_i i e
    rw [of_decide_eq_true c] at e
    exact PySem.W.mg_of X G e
  · cases c
/-- where a def stands -/
def atG (x : Str) : PySem.W.Frag → Addr := fun K => He.ga K x
def atM (c m : Str) : PySem.W.Frag → Addr := fun K => He.ma K (He.ga K c) m
def atS (c m : Str) : PySem.W.Frag → Addr := fun K => sfA K (He.ga K c) m

abbrev AlK : Type := Bool × List He.FnW × List FnS
def obsK (fa : List He.Fa) (fb : List Fc) (fn : List He5.DefA) (fs : List DefS) (K : PySem.W.Frag) : AlK := ((fa.all fun f => f.ok K) && ((fb.all fun f => f.ok K) && ((fn.all fun d => d.ok K) && fs.all fun d => d.ok K)), fn.map fun d => He5.fnA K (d.at_ K), fs.map fun d => fnS K d.c)
def valK (fn : List He5.DefA) (fs : List DefS) : AlK := (true, fn.map He5.DefA.val, fs.map DefS.val)
def SaysK (fa : List He.Fa) (fb : List Fc) (fn : List He5.DefA) (fs : List DefS) (K : PySem.W.Frag) : Prop := obsK fa fb fn fs K = valK fn fs
def asK (g : Addr → Option Obj) (n : Nat) : List Addr := sysModules :: asJ g n
def obsKG (n : Nat) (fa : List He.Fa) (fb : List Fc) (fn : List He5.DefA) (fs : List DefS) (g : Addr → Option Obj) : AlK := obsK fa fb fn fs (He.frG g (asK g n))
def hookK (n : Nat) (fa : List He.Fa) (fb : List Fc) (fn : List He5.DefA) (fs : List DefS) : PySem.W.Hook where
  α := AlK
  obs := fun s => obsKG n fa fb fn fs s.heap.get?
  val := fun _ => valK fn fs
  says := fun _ h => ∃ K : PySem.W.Frag, K.In h ∧ SaysK fa fb fn fs K
  of := fun _ _ e => ⟨_, He.frG_in, e⟩
  keeps := fun _ _ _ ⟨K, hK, c⟩ k => ⟨K, PySem.W.Frag.In.keeps hK k, c⟩
theorem obsKG_eq {n : Nat} {fa : List He.Fa} {fb : List Fc} {fn : List He5.DefA} {fs : List DefS} {g : Addr → Option Obj} {s : Shared} (h : ∀ a, g a = s.heap.get? a) : obsKG n fa fb fn fs g = (hookK n fa fb fn fs).obs s := by
  have e : g = s.heap.get? := funext h
  rw [e] <;> rfl
section
variable {fa : List He.Fa} {fb : List Fc} {fn : List He5.DefA} {fs : List DefS} {K : PySem.W.Frag}
theorem SaysK.alls (c : SaysK fa fb fn fs K) : (∀ f ∈ fa, f.ok K = true) ∧ (∀ f ∈ fb, f.ok K = true) ∧ (∀ d ∈ fn, d.ok K = true) ∧ ∀ d ∈ fs, d.ok K = true := by
  have c1 : ((fa.all fun f => f.ok K) && ((fb.all fun f => f.ok K) && ((fn.all fun d => d.ok K) && fs.all fun d => d.ok K))) = true := congrArg (fun z : AlK => z.1) c
  simp only [Bool.and_eq_true, List.all_eq_true] at c1
  exact c1
theorem SaysK.factB (c : SaysK fa fb fn fs K) (i : Nat) {f : Fc} (h : fb[i]? = some f := by rfl) : f.ok K = true := c.alls.2.1 f (List.mem_of_getElem? h)
theorem SaysK.def_ (c : SaysK fa fb fn fs K) (i : Nat) {d : He5.DefA} (h : fn[i]? = some d := by rfl) : ∃ fd, FunD K d.name d.qual d.params d.body d.scope (d.dvs K) (d.kws K) (d.at_ K) fd := by
  have e : fn.map (fun d => He5.fnA K (d.at_ K)) = fn.map He5.DefA.val := congrArg (fun z : AlK => z.2.1) c
  have e2 : (fn.map fun d => He5.fnA K (d.at_ K))[i]? = (fn.map He5.DefA.val)[i]? := by rw [e]
  rw [List.getElem?_map, List.getElem?_map, h] at e2
  exact He5.DefA.funD (Option.some.inj e2) (c.alls.2.2.1 d (List.mem_of_getElem? h))
theorem SaysK.ini (c : SaysK fa fb fn fs K) (i : Nat) {d : DefS} (h : fs[i]? = some d := by rfl) : ∃ fd, FunS K d (He.ma K (He.ga K d.c) "__init__") fd := by
  have e : fs.map (fun d => fnS K d.c) = fs.map DefS.val := congrArg (fun z : AlK => z.2.2) c
  have e2 : (fs.map fun d => fnS K d.c)[i]? = (fs.map DefS.val)[i]? := by rw [e]
  rw [List.getElem?_map, List.getElem?_map, h] at e2
  exact DefS.funS (Option.some.inj e2) (c.alls.2.2.2 d (List.mem_of_getElem? h))
end
end J
namespace J
open PySem PySem.Spec PyProof.Rows L2
theorem OpJ.of {P : Program} {w : World} {K : PySem.W.Frag} {mg : Str → Option Value} {base : Heap} {k : Nat} {op : Operator} {c m : Str} {F : DF} (e : PySem.dunder op.info.2 = m) (h : opB K (He.ga K c) op.info.2 = true) {fd : FuncData} {ps : List Str} (b : Binds K fd ps []) (f : FnOk P w K mg base (L2N.CX P w) k (He.ma K (He.ga K c) m) fd ps (spJ K 2 F)) : OpJ P w K mg base k op c F := by
  subst e
  exact ⟨h, fd, ps, b, f⟩
theorem opS_sub {K : PySem.W.Frag} : OpS K (rI0 fun i j => .int (i - j)) gSub := opS_I0
end J
namespace J
/-- fuel by the size of the int in slot i -/
def fuelAt (i : Nat) : Env → Nat := fun E => match E[i]? with
  | some (.val (.int k)) => k.natAbs + 1
  | _ => 0
end J

namespace J
open PySem PySem.Spec PyProof.Rows L2

/-! ### methods of texts with one text as the argument -/
/-- o.m(e): o is asked for before e is reckoned -/
def fSM (g : Str → Str → D) (fo fe : Env → R D) : Env → R D := fun E => (fo E).bind fun x E => match x with
  | .str a => (fe E).bind fun y E => (match y with
    | .str b => .ok (g a b) E
    | _ => .stuck)
  | _ => .stuck
def sFind : Str → Str → D := fun a b => .int (Txt.find a b)
def sStarts : Str → Str → D := fun a b => .bl (Txt.startswith a b)
/-- v is the value of the plain datum d in any heap -/
def RpZ (K : PySem.W.Frag) (v : V) (d : D) : Prop := ∀ G : Hp, Rp K G v d
section
variable {X : Cx} {W : WJ} {o e : Expr} {fo fe : Env → R D} {pos apos : Pos} {name : Str} {id : String} {g : Str → Str → D} {h : Str → Str → V}
theorem j_sm1 (slot : Slot "str" name id) (hty : typeOf (.builtin id) = pure (.type "method_descriptor")) (hm : MtR X id (fun x xs H Q => ∃ a b, x = .str a ∧ xs = [.str b] ∧ Q (h a b) H)) (hr : ∀ a b, RpZ X.K (h a b) (g a b)) (ho : JE X W o fo) (hv : JE X W e fe) (hbase : attributeBase o name X.env (eval o X.env) = eval o X.env := by rfl)
    (hfew : ((backTo pos (starEach [e] X.env)).all (fun x => !x.1) && (backToKw pos (keywordEach [] X.env)).all (fun x => x.1.isSome) && decide ([e].length + ([] : List Keyword).length + (if ([] : List Keyword).isEmpty then 0 else 1) < 30)) = true := by rfl) (hline : (apos.endLine == pos.line) = true := by rfl)
    (hs : starEach [e] X.env = (false, eval e X.env) :: starEach [] X.env := by rfl) (hplain : (backTo pos (starEach [] X.env)).any (·.1) = false := by rfl) : JE X W (.Call (.Attribute o name apos) [e] [] pos) (fSM g fo fe) := by
  obtain ⟨to, po, so⟩ := ho
  obtain ⟨te, pe, se⟩ := hv
  refine ⟨_, pe_bm PySem.F.plainAttrs_str slot hty hm po (pa_cons pe pa_nil hs) hbase hfew hline hs hplain, fun Φ G H σ E Q S hp => ?_⟩
  have hp' : Post X.K W.w (relE X.K) Φ G σ ((fo E).bind fun x E => match x with
    | .str a => (fe E).bind fun y E => (match y with
      | .str b => .ok (g a b) E
      | _ => .stuck)
    | _ => .stuck) Q := hp
  refine so.go S hp' fun x E1 G1 H1 v _ e1 S1 r1 hp => ?_
  cases x with
  | str a =>
    cases r1
    refine ⟨rfl, ?_⟩
    refine se.go S1 hp fun y E2 G2 H2 u _ e2 S2 r2 hp => ?_
    cases y with
    | str b =>
      cases r2
      exact ⟨a, b, rfl, rfl, hp G2 H2 _ (Ex.refl G2) S2 (hr a b G2)⟩
    | _ => exact hp.elim
  | _ => exact hp.elim
end
section
variable {X : Cx} {W : WJ} {o e : Expr} {fo fe : Env → R D} {pos apos : Pos}
theorem j_startswith (ho : JE X W o fo) (hv : JE X W e fe) (hbase : attributeBase o "startswith" X.env (eval o X.env) = eval o X.env := by rfl)
    (hfew : ((backTo pos (starEach [e] X.env)).all (fun x => !x.1) && (backToKw pos (keywordEach [] X.env)).all (fun x => x.1.isSome) && decide ([e].length + ([] : List Keyword).length + (if ([] : List Keyword).isEmpty then 0 else 1) < 30)) = true := by rfl) (hline : (apos.endLine == pos.line) = true := by rfl)
    (hs : starEach [e] X.env = (false, eval e X.env) :: starEach [] X.env := by rfl) (hplain : (backTo pos (starEach [] X.env)).any (·.1) = false := by rfl) : JE X W (.Call (.Attribute o "startswith" apos) [e] [] pos) (fSM sStarts fo fe) :=
  j_sm1 PySem.F.slot_str_startswith PySem.F.type_str_startswith mt_startswith (fun _ _ _ => .bl _) ho hv hbase hfew hline hs hplain
theorem j_find (ho : JE X W o fo) (hv : JE X W e fe) (hbase : attributeBase o "find" X.env (eval o X.env) = eval o X.env := by rfl)
    (hfew : ((backTo pos (starEach [e] X.env)).all (fun x => !x.1) && (backToKw pos (keywordEach [] X.env)).all (fun x => x.1.isSome) && decide ([e].length + ([] : List Keyword).length + (if ([] : List Keyword).isEmpty then 0 else 1) < 30)) = true := by rfl) (hline : (apos.endLine == pos.line) = true := by rfl)
    (hs : starEach [e] X.env = (false, eval e X.env) :: starEach [] X.env := by rfl) (hplain : (backTo pos (starEach [] X.env)).any (·.1) = false := by rfl) : JE X W (.Call (.Attribute o "find" apos) [e] [] pos) (fSM sFind fo fe) :=
  j_sm1 PySem.F.slot_str_find PySem.F.type_str_find mt_find (fun _ _ _ => .int _) ho hv hbase hfew hline hs hplain
end
end J

namespace J
open PySem PySem.Spec PyProof.Rows L2

/-! ### str(x) of an int (below 10 ** 4300) or of an instance with __str__ -/
theorem dig_ok {K : PySem.W.Frag} {h : Heap} (X : K.In h) (c : digB K = true) : h.NoDigits := by
  unfold digB at c
  simp only [Bool.and_eq_true] at c
  obtain ⟨c1, c2⟩ := c
  have e : PySem.W.nsIn K cStatics "sys.int_max_str_digits" = some none := by
    split at c2
    · assumption
    · cases c2
  exact ⟨_, .of_isNs (PySem.W.isNs_of_in X c1), PySem.W.nsMap_none_of_in X c1 e⟩
def gStrI : D → Option D
  | .int i => if i.natAbs < 10 ^ 4300 then some (.str (Str.ofString (toString i))) else none
  | _ => none
section
variable {X : Cx} {W : WJ} {k : Nat} {a : Expr} {fa : Env → R D} {tbl : Str → Option DF} {pos p : Pos}
theorem str_int {pins : List (Addr × Obj)} {s : Shared} {σ : St} {H : Hp} {i : Int} {v : Value} {Q : VK} (hd : digB X.K = true) (hr : Room k X.A) (I : Inv X pins σ H s) (rx : RelV (.int i) v) (hi : i.natAbs < 10 ^ 4300) (q : Q (.str (Str.ofString (toString i))) H) : wpAny (model X.prog X.w) X.A (call (.type "str") [v]) (fun v s' => ∃ y H', Inv X pins σ H' s' ∧ RelV y v ∧ Q y H') X.xe s := by
  obtain ⟨t, rfl⟩ := rx
  exact str_of_int_or hr.hd (dig_ok I.kIn hd) (fun _ => ⟨.str _, H, I.tok _, ⟨_, rfl⟩, q⟩) (fun h => absurd hi (by omega))
/-- what a __str__ gives back: a text -/
def rOwnS (C : Addr) (sp : Sp) (Es : St → XK) : R1 := fun x σ H Q => ∃ a dx fs, x = .ref a ∧ H a = some (.ins C dx fs) ∧ sp [x] H (fun v H' => (∃ b, v = .str b) ∧ Q v H') (Es σ)
theorem str_own {C : Addr} {fd : FuncData} {ps : List Str} {sp : Sp} {Es : St → XK} {CX : CXT} (hB : unB X.K C "__str__" = true) (F : FnOk X.prog X.w X.K X.mg X.base CX k (He.ma X.K C "__str__") fd ps sp) (hr : Room (k + 2) X.A) (hb : Binds X.K fd ps []) (hx : ∀ σ, PassesAt CX X σ (Es σ)) : UnR1 X (fun v => call (.type "str") [v]) (rOwnS C sp Es) := by
  unfold unB at hB
  simp only [Bool.and_eq_true] at hB
  intro pins s σ H x v Q I rx ⟨a, dx, fs, ex, ha, hsp⟩
  subst ex
  obtain rfl : v = Value.ref a := rx
  obtain ⟨mA, J0, _⟩ := ins_get I.hok ha
  obtain ⟨od, J1, _⟩ := J0.look
  have run := run_fnA (us := [.ref a]) (vs := [.ref a]) (A := X.A.in1.in1) F hr.in1.in1 rfl hb (hx σ) I (.cons rfl .nil) hsp
  refine PySem.W.kso_call hr.in1.in1.units0 I.kIn J1 (He.eqO_ok hB.1) hB.2 (wpAny_mono run (fun r s' q => ?_) fun _ _ e => e)
  obtain ⟨z, H', I', rz, ⟨b, rfl⟩, q⟩ := q
  obtain ⟨t, rfl⟩ := rz
  exact ⟨.str b, H', I', ⟨t, rfl⟩, q⟩
def stO (d : D) (E : Env) : R D := match d with
  | .str b => .ok (.str b) E
  | _ => .stuck
def fStr (tbl : Str → Option DF) (fa : Env → R D) : Env → R D := fun E => (fUn tbl gStrI fa E).bind stO
theorem Post.stO {K : PySem.W.Frag} {W : WX} {Φ : Fr} {G : Hp} {σ : St} {r : R D} {Q : VK} (h : Post K W (relE K) Φ G σ (r.bind J.stO) Q) : Post K W (relE K) Φ G σ r (fun v H' => (∃ b, v = .str b) ∧ Q v H') := by
  cases r with
  | stuck => exact h
  | exc x E => exact h
  | ok d E =>
    cases d with
    | str b => intro G' H' v e S r; cases r; exact ⟨⟨b, rfl⟩, h G' H' _ e S (.str b)⟩
    | _ => exact h.elim
theorem j_strO (hF : ∀ c F, tbl c = some F → UnJ X.prog X.w X.K X.mg X.base k "__str__" c F) (hd : digB X.K = true) (hr : Room (k + 2) X.A) (tk : L2N.Takes X W.w) (hm : X.mg "str" = none) (ha : JE X W a fa) (hg : Gl X "str" := by rfl)
    (he : starEach [a] X.env = (false, eval a X.env) :: starEach [] X.env := by rfl) (hpl : (backTo pos (starEach [] X.env)).any (·.1) = false := by rfl) : JE X W (.Call (.Name "str" p) [a] [] pos) (fStr tbl fa) := by
  obtain ⟨ta, pa, sa⟩ := ha
  refine ⟨_, pe_callT1 (T := "str") (r := fun x σ H Q => (∃ i, x = .int i ∧ i.natAbs < 10 ^ 4300 ∧ Q (.str (Str.ofString (toString i))) H) ∨ ∃ i : Tb tbl, rOwnS (He.ga X.K i.1.1) (spJ X.K 1 i.1.2) (fun σ => WE W.w σ) x σ H Q) (fun pins s σ H x v Q I rx q => ?_) hg hm (by decide +kernel) pa (by decide) (by decide) he hpl, fun Φ G H σ E Q S hp => ?_⟩
  · rcases q with q | ⟨i, q⟩
    · obtain ⟨i, rfl, hi, q⟩ := q
      refine wpAny_mono (str_int hd hr I rx hi q) (fun r s' q => ?_) fun _ _ e => e
      obtain ⟨y, H', I', ry, q⟩ := q
      exact ⟨y, H', I', ry, q⟩
    · obtain ⟨h0, fd, ps, h1, h2⟩ := hF _ _ i.2
      exact str_own h0 h2 hr h1 (fun σ => L2N.passAt tk σ) pins s σ H x v Q I rx q
  · have hp' : Post X.K W.w (relE X.K) Φ G σ ((fa E).bind fun x E => (own1 tbl gStrI x E).bind J.stO) Q := by
      have h : Post X.K W.w (relE X.K) Φ G σ (((fa E).bind fun x E => own1 tbl gStrI x E).bind J.stO) Q := hp
      rw [R.bind_assoc] at h
      exact h
    refine sa.go S hp' fun x E1 G1 H1 v _ e1 S1 r1 hp => ?_
    have hp := Post.stO hp
    cases x with
    | ins c ns es =>
      have hp : Post X.K W.w (relE X.K) Φ G1 σ (match tbl c with
        | some F => callD 1 F [.v (.ins c ns es)] rvD E1
        | none => .stuck) (fun v H' => (∃ b, v = .str b) ∧ Q v H') := hp
      cases ht : tbl c with
      | none => rw [ht] at hp; exact hp.elim
      | some F =>
        rw [ht] at hp
        have hsp := callE_ok S1.toSat (.v r1 .nil) hp
        cases r1 with
        | ins h1 h2 h3 => exact .inr ⟨⟨(c, F), ht⟩, _, _, _, rfl, S1.gh _ _ h1, hsp⟩
    | int i =>
      cases r1
      by_cases hi : i.natAbs < 10 ^ 4300
      · have hp : Post X.K W.w (relE X.K) Φ G1 σ (match (if i.natAbs < 10 ^ 4300 then some (D.str (Str.ofString (toString i))) else none) with | some d => .ok d E1 | none => .stuck) (fun v H' => (∃ b, v = .str b) ∧ Q v H') := hp
        rw [if_pos hi] at hp
        exact .inl ⟨i, rfl, hi, (hp G1 H1 _ (Ex.refl G1) S1.toSat (.str _)).2⟩
      · have hp : Post X.K W.w (relE X.K) Φ G1 σ (match (if i.natAbs < 10 ^ 4300 then some (D.str (Str.ofString (toString i))) else none) with | some d => .ok d E1 | none => .stuck) (fun v H' => (∃ b, v = .str b) ∧ Q v H') := hp
        rw [if_neg hi] at hp
        exact hp.elim
    | _ => exact hp.elim
end
/-- str of ints alone -/
abbrev rStrG : List V → Hp → VK → Prop := fun xs H Q => ∃ i, xs = [.int i] ∧ i.natAbs < 10 ^ 4300 ∧ Q (.str (Str.ofString (toString i))) H
theorem c1_strG {K : PySem.W.Frag} : C1S K rStrG gStrI := by
  intro Φ G H σ E x a d Q S ha hd k
  cases a with
  | int i =>
    cases ha
    have hd : (if i.natAbs < 10 ^ 4300 then some (D.str (Str.ofString (toString i))) else none) = some d := hd
    by_cases hi : i.natAbs < 10 ^ 4300
    · rw [if_pos hi] at hd
      cases hd
      exact ⟨i, rfl, hi, k G H _ (Ex.refl G) (Ex.refl H) S (.str _)⟩
    · rw [if_neg hi] at hd; cases hd
  | _ => cases hd
theorem call_strG {X : Cx} {k : Nat} (hd : digB X.K = true) (hr : Room k X.A) : CallR X (.type "str") rStrG := by
  intro pins s σ H xs us Q I r h
  obtain ⟨i, rfl, hi, q⟩ := h
  obtain ⟨u, rfl, r1⟩ := vals1 r
  refine wpAny_mono (str_int hd hr I r1 hi q) (fun r s' q => ?_) fun _ _ e => e
  obtain ⟨y, H', I', ry, q⟩ := q
  exact ⟨y, H', I', ry, q⟩
end J

namespace J
open PySem PySem.Spec PyProof.Rows L2 PySem.NumText

/-! ### int(text), of any length -/
section
variable {M : Model} {A : Around} {E : Value → Shared → Prop} {s : Shared}
theorem wp_digs {Q : Nat → Shared → Prop} (hn : s.heap.NoDigits) (h : Q 4300 s) : wpAny M A Builtin.intMaxStrDigits Q E s := by
  obtain ⟨mc, hns, hnone⟩ := hn
  unfold Builtin.intMaxStrDigits
  refine wpAny_bind (wpAny_nsGet hns ?_)
  rw [hnone]
  exact wpAny_pure h
theorem wp_textL {Q : Value → Shared → Prop} {v : Value} {text : List Nat} {n : Int} (hn : s.heap.NoDigits)
    (hs : ¬ (text.takeWhile (· != 0)).length ≤ 640) (hr : (int_private% "readNumeral") 4300 10 (text.takeWhile (· != 0)) = (int_private% "Numeral.value") n)
    (ha : ((text.takeWhile (· != 0)).length == text.length) = true) (h : Q (.int n s.toks) { s with toks := s.toks + 1 }) :
    wpAny M A ((int_private% "intFromText") v text 10) Q E s := by
  obtain ⟨hp, g, d, tk, os⟩ := s
  repeat (any_goals (first
    | assumption
    | (with_reducible refine wpAny_ite_false (decide_eq_false hs) ?_)
    | (with_reducible refine wpAny_ite_true (decide_eq_true ha) ?_)
    | ((with_reducible show wpAny _ _ Builtin.intMaxStrDigits _ _ _); refine wp_digs hn ?_)
    | wp_step))
  all_goals (try rw [hr])
  all_goals (try dsimp only)
  repeat (any_goals (first
    | assumption
    | (with_reducible refine wpAny_ite_false (decide_eq_false hs) ?_)
    | (with_reducible refine wpAny_ite_true (decide_eq_true ha) ?_)
    | wp_step))
end
theorem int_reads {x : Str} {n : Int} (hn : PySem.intText? x = some n) (hx : x.length ≤ sizeLine) : ((numSeenOf x).length == (numTextOf x).length) = true ∧ (int_private% "readNumeral") (numLimitOf x) 10 (numSeenOf x) = (int_private% "Numeral.value") n := by
  rcases readAny x hx with ⟨m, h1, h2, h3⟩ | ⟨h1, _⟩
  · rw [hn] at h1
    injection h1 with h1
    subst h1
    exact ⟨h2, h3⟩
  · rw [hn] at h1
    cases h1
theorem wp_textA {M : Model} {A : Around} {E : Value → Shared → Prop} {s : Shared} {Q : Value → Shared → Prop} {v : Value} {x : Str} {n : Int} (hn : s.heap.NoDigits) (hi : PySem.intText? x = some n) (hx : x.length ≤ sizeLine) (h : Q (.int n s.toks) { s with toks := s.toks + 1 }) :
    wpAny M A ((int_private% "intFromText") v (numTextOf x) 10) Q E s := by
  obtain ⟨h1, h2⟩ := int_reads hi hx
  by_cases hs : (numSeenOf x).length ≤ 640
  · rw [show numLimitOf x = 0 from if_pos hs] at h2
    exact PySem.W.KIN.wp_text hs h2 h1 h
  · rw [show numLimitOf x = 4300 from if_neg hs] at h2
    exact wp_textL hn hs h2 h1 h
theorem new_text {M : Model} {A : Around} {E : Value → Shared → Prop} {s : Shared} {Q : Value → Shared → Prop} {x : Str} {u : Tok} {n : Int} (hn : s.heap.NoDigits) (hi : PySem.intText? x = some n) (hx : x.length ≤ sizeLine) (h : Q (.int n s.toks) { s with toks := s.toks + 1 }) :
    wpAny M A (Builtin.«int.__new__» ⟨[.type "int", .str x u], []⟩) (fun fin s' => ∃ v, fin = .done (.ret v) ∧ Q v s') E s := by
  obtain ⟨hp, g, d, tk, os⟩ := s
  have f1 := F.conv_sub_int
  have f2 := F.madeHere_int
  have f3 := PySem.W.KIN.str_int
  have f4 := PySem.W.KIN.str_idx
  have f5 := PySem.W.KIN.str_trunc
  have f6 : typeOf (.str x u) = pure (.type "str") := rfl
  have hk := PySem.W.KIN.Hid.mk (And.intro hn (And.intro hi hx))
  clear hn hi hx
  repeat (any_goals (first
    | assumption
    | ((with_reducible show wpAny _ _ ((int_private% "intFromText") _ _ _) _ _ _); refine wp_textA hk.out.1 hk.out.2.1 hk.out.2.2 ?_)
    | wp_step))
  all_goals first | exact ⟨_, rfl, h⟩ | skip
theorem call_textA {prog : Program} {w : World} {A : Around} {E : Value → Shared → Prop} {s : Shared} {Q : Value → Shared → Prop} {x : Str} {t : Tok} {n : Int} (hd : s.heap.NoDigits) (hi : PySem.intText? x = some n) (hx : x.length ≤ sizeLine) (h : Q (.int n s.toks) { s with toks := s.toks + 1 }) : wpAny (model prog w) A (call (.type "int") [.str x t]) Q E s :=
  call_int_1 (S := fun A R s => s.heap.NoDigits ∧ R (.ok (.ret (.int n s.toks))) { s with toks := s.toks + 1 })
    (fun _ _ _ R _ hq => wpAny_mono (new_text (Q := fun v s' => R (.ok (.ret v)) s') hq.1 hi hx hq.2) (fun _ _ h' => by obtain ⟨v, rfl, hv⟩ := h'; exact hv) fun _ _ e => e)
    ⟨hd, typeIs_int _ _ _, h⟩
/-- int(x): of an int, a bool or a text that reads as an int -/
def gIntT : D → Option D
  | .int i => some (.int i)
  | .bl b => some (.int (if b then 1 else 0))
  | .str a => if a.length ≤ 16777216 then (PySem.intText? a).map D.int else none
  | _ => none
abbrev rIntT : List V → Hp → VK → Prop := fun xs H Q => ((∃ i, xs = [.int i] ∧ Q (.int i) H) ∨ ∃ k, xs = [.bl k] ∧ Q (.int (if k then 1 else 0)) H) ∨ ∃ a n, xs = [.str a] ∧ PySem.intText? a = some n ∧ a.length ≤ 16777216 ∧ Q (.int n) H
theorem c1_intT {K : PySem.W.Frag} : C1S K rIntT gIntT := by
  intro Φ G H σ E x a d Q S ha hd k
  cases a with
  | int i => cases ha; cases hd; exact .inl (.inl ⟨i, rfl, k G H _ (Ex.refl G) (Ex.refl H) S (.int _)⟩)
  | bl i => cases ha; cases hd; exact .inl (.inr ⟨i, rfl, k G H _ (Ex.refl G) (Ex.refl H) S (.int _)⟩)
  | str z =>
    cases ha
    have hd : (if z.length ≤ 16777216 then (PySem.intText? z).map D.int else none) = some d := hd
    have c : z.length ≤ 16777216 := by
      by_cases c : z.length ≤ 16777216
      · exact c
      · rw [if_neg c] at hd; cases hd
    rw [if_pos c] at hd
    obtain ⟨n, hn, rfl⟩ := Option.map_eq_some_iff.mp hd
    exact .inr ⟨z, n, rfl, hn, c, k G H _ (Ex.refl G) (Ex.refl H) S (.int _)⟩
  | _ => cases hd
theorem call_intT {X : Cx} (hd : digB X.K = true) : CallR X (.type "int") rIntT := by
  intro pins s σ H xs us Q I r h
  rcases h with h | ⟨a, n, rfl, hn, hl, q⟩
  · exact call_int1 pins s σ H xs us Q I r h
  · obtain ⟨u, rfl, t, rfl⟩ := vals1 r
    exact call_textA (dig_ok I.kIn hd) hn (by rw [sizeLine_eq]; exact hl) ⟨.int n, H, I.tok _, ⟨_, rfl⟩, q⟩
end J

namespace J
open PySem PySem.Spec PyProof.Rows L2

/-! ### f-strings of texts and ints -/
section
variable {X : Cx} {W : WJ} {k : Nat} {e : Expr} {es : List Expr} {fa : Env → R D} {te : TE} {pos : Pos}
def tFmtG (te : TE) : TE := fun σ H Q => te σ H fun x H1 => (∃ y : Str, x = .str y ∧ y.length ≤ sizeLine ∧ Q (.str y) H1) ∨ ∃ i : Int, x = .int i ∧ i.natAbs < 10 ^ 4300 ∧ Q (.str (Str.ofString (toString i))) H1
theorem pe_fmtG (hd : digB X.K = true) (hr : Room k X.A) (he : PE X e te) : PE X (.FormattedValue e (-1) none pos) (tFmtG te) := by
  refine ⟨fun pins s σ H Q I h => ?_⟩
  refine wpAny_FormattedValue_plain (thn (he.run pins s σ H _ I h) fun v s1 hv => ?_)
  obtain ⟨x, H1, I1, r1, q⟩ := hv
  rcases q with ⟨y, rfl, hz, q⟩ | ⟨i, rfl, hz, q⟩
  · obtain ⟨t, rfl⟩ := r1
    exact wpAny_formatField_str ⟨.str y, H1, I1, ⟨t, rfl⟩, q⟩ ⟨.str y, H1, I1.tok _, ⟨_, rfl⟩, q⟩ hz
  · obtain ⟨t, rfl⟩ := r1
    exact formatField_int hr.hd (dig_ok I1.kIn hd) (fun _ => ⟨.str _, H1, I1.tok _, ⟨_, rfl⟩, q⟩) (fun h => absurd hz (by omega))
def gFmt : D → Option D
  | .str y => if y.length ≤ 16777216 then some (.str y) else none
  | .int i => gStrI (.int i)
  | _ => none
theorem gStrI_ok {i : Int} {d : D} (h : gStrI (.int i) = some d) : i.natAbs < 10 ^ 4300 ∧ d = .str (Str.ofString (toString i)) := by
  by_cases hi : i.natAbs < 10 ^ 4300
  · have h : (if i.natAbs < 10 ^ 4300 then some (D.str (Str.ofString (toString i))) else none) = some d := h
    rw [if_pos hi] at h
    cases h
    exact ⟨hi, rfl⟩
  · have h : (if i.natAbs < 10 ^ 4300 then some (D.str (Str.ofString (toString i))) else none) = some d := h
    rw [if_neg hi] at h
    cases h
theorem j_fmt (hd : digB X.K = true) (hr : Room k X.A) (ha : JE X W e fa) : JE X W (.FormattedValue e (-1) none pos) (fun1 gFmt fa) := by
  obtain ⟨ta, pa, sa⟩ := ha
  refine ⟨_, pe_fmtG hd hr pa, fun Φ G H σ E Q S hp => ?_⟩
  refine sa.go S hp fun x E1 G1 H1 v _ e1 S1 r1 hp => ?_
  obtain ⟨d, hg, hq⟩ := Post.opt (o := gFmt x) hp
  cases x with
  | str y =>
    cases r1
    have hg : (if y.length ≤ 16777216 then some (D.str y) else none) = some d := hg
    by_cases c : y.length ≤ 16777216
    · rw [if_pos c] at hg
      cases hg
      exact .inl ⟨y, rfl, by rw [sizeLine_eq]; exact c, hq G1 H1 _ (Ex.refl G1) S1.toSat (.str y)⟩
    · rw [if_neg c] at hg; cases hg
  | int i =>
    cases r1
    obtain ⟨h1, rfl⟩ := gStrI_ok hg
    exact .inr ⟨i, rfl, h1, hq G1 H1 _ (Ex.refl G1) S1.toSat (.str _)⟩
  | _ => cases hg
/-- the parts of an f-string -/
def JJ (X : Cx) (W : WJ) (es : List Expr) (r : Str → Env → R D) : Prop := ∃ ts, PJ X es ts ∧ ∀ acc Φ G H σ E Q, SatC X.K W Φ G H σ E → Post X.K W.w (relE X.K) Φ G σ (r acc E) Q → tJs ts acc σ H fun out H1 => Q (.str out) H1
def fJN : Str → Env → R D := fun acc E => .ok (.str acc) E
def fJC (f : Env → R D) (r : Str → Env → R D) : Str → Env → R D := fun acc E => (f E).bind fun x E => match x with
  | .str y => if (acc ++ y).length ≤ 16777216 then r (acc ++ y) E else .stuck
  | _ => .stuck
def fJS (r : Str → Env → R D) : Env → R D := r Str.empty
theorem jj_nil : JJ X W [] fJN := ⟨[], .nil, fun acc Φ G H σ E Q S hp => hp G H _ (Ex.refl G) S.toSat (.str acc)⟩
theorem jj_cons {r : Str → Env → R D} (ha : JE X W e fa) (hr : JJ X W es r) : JJ X W (e :: es) (fJC fa r) := by
  obtain ⟨ta, pa, sa⟩ := ha
  obtain ⟨ts, ps, ss⟩ := hr
  refine ⟨ta :: ts, .cons pa ps, fun acc Φ G H σ E Q S hp => ?_⟩
  refine sa.go S hp fun x E1 G1 H1 v _ e1 S1 r1 hp => ?_
  cases x with
  | str y =>
    cases r1
    have hp : Post X.K W.w (relE X.K) Φ G1 σ (if (acc ++ y).length ≤ 16777216 then r (acc ++ y) E1 else .stuck) Q := hp
    by_cases c : (acc ++ y).length ≤ 16777216
    · rw [if_pos c] at hp
      exact ⟨y, rfl, by rw [sizeLine_eq]; exact c, ss _ Φ G1 H1 σ E1 Q S1 hp⟩
    · rw [if_neg c] at hp; exact hp.elim
  | _ => exact hp.elim
theorem j_joined {v1 v2 : Expr} {rest : List Expr} {r : Str → Env → R D} (h : JJ X W (v1 :: v2 :: rest) r) : JE X W (.JoinedStr (v1 :: v2 :: rest) pos) (fJS r) := by
  obtain ⟨ts, ps, ss⟩ := h
  exact ⟨_, pe_joined ps, fun Φ G H σ E Q S hp => ss Str.empty Φ G H σ E Q S hp⟩
end
end J

namespace J
open PySem PySem.Spec PyProof.Rows L2

/-! ### text * int; one text in another -/
def rRepS : R2 := fun x y H Q => ∃ z k, x = .str z ∧ y = .int k ∧ MulOk z k ∧ Q (.str (Txt.mul z k)) H
theorem op_repS {X : Cx} : OpR X (binaryOp .Mult) rRepS := by
  intro pins s σ H x y v u Q I rx ry h
  obtain ⟨z, k, rfl, rfl, c, q⟩ := h
  obtain ⟨t, rfl⟩ := rx
  obtain ⟨t', rfl⟩ := ry
  exact SB.mul c fun t k' => ⟨.str (Txt.mul z k), H, I.tok _, ⟨_, rfl⟩, q⟩
def gRepS : D → D → Option D := fun a b => match a, b with
  | .str z, .int k => if 0 ≤ k ∧ k ≤ 16777216 ∧ z.length * k.toNat ≤ 16777216 then some (.str (Txt.mul z k)) else none
  | _, _ => none
theorem repS_ok {z : Str} {k : Int} (c : 0 ≤ k ∧ k ≤ 16777216 ∧ z.length * k.toNat ≤ 16777216) : MulOk z k := by
  obtain ⟨h0, h1, h2⟩ := c
  refine ⟨?_, fun c1 _ => ?_, fun c1 _ => ?_⟩
  · have a1 : ¬ k < -(2 ^ 63 : Int) := by omega
    have a2 : ¬ k ≥ (2 ^ 63 : Int) := by omega
    rw [decide_eq_false a1, decide_eq_false a2]; rfl
  · have hpos : 0 < k := by omega
    have e : ((z.length * k.toNat : Nat) : Int) = (z.length : Int) * k := by
      rw [Int.natCast_mul, Int.toNat_of_nonneg (by omega)]
    have h3 : (z.length : Int) * k ≤ 2 ^ 63 - 1 := by rw [← e]; omega
    have h4 : (z.length : Int) ≤ (2 ^ 63 - 1) / k := (Int.le_ediv_iff_mul_le hpos).mpr h3
    omega
  · exact short24 h2
section
variable {K : PySem.W.Frag}
theorem opS_repS : OpS K rRepS gRepS := by
  intro Φ G H σ E x y a b d Q S ha hb hd k
  cases a with
  | str z =>
    cases b with
    | int j =>
      cases ha; cases hb
      obtain ⟨c, rfl⟩ := if_some hd
      exact ⟨z, j, rfl, rfl, repS_ok c, k G H _ (Ex.refl G) (Ex.refl H) S (.str _)⟩
    | _ => cases hd
  | _ => cases b <;> cases hd
abbrev rMulT : R2 := fun x y H Q => rMul2 x y H Q ∨ rRepS x y H Q
theorem op_mulT {X : Cx} : OpR X (binaryOp .Mult) rMulT := OpR.or op_mul2 op_repS
def gMulT : D → D → Option D := fun a b => match gMul a b with | some d => some d | none => gRepS a b
theorem opS_mulT : OpS K rMulT gMulT := OpS.or opS_mul opS_repS
/-- y in x -/
def inT (x y : Str) : Bool := !(Builtin.Str.occurrences x y 0 x.length 1).isEmpty
theorem inT_one (x : Str) (c : Nat) : inT x ⟨#[c]⟩ = decide (c ∈ x.cps.toList) := PySem.StrLaws.found_one x c
def gInS (neg : Bool) : D → D → Option D := fun a b => match a, b with
  | .str i, .str j => some (.bl (if neg then !inT j i else inT j i))
  | _, _ => none
def rInS (neg : Bool) : R2 := fun x y H Q => ∃ i j, x = .str i ∧ y = .str j ∧ Q (.bl (if neg then !inT j i else inT j i)) H
theorem op_inS {X : Cx} : OpR X (compareOp .In) (rInS false) := fun pins s σ H x y v u Q I rx ry h => by
  obtain ⟨i, j, a, b, q⟩ := h
  exact op_in_str pins s σ H x y v u Q I rx ry ⟨i, j, a, b, q⟩
theorem op_notInS {X : Cx} : OpR X (compareOp .NotIn) (rInS true) := fun pins s σ H x y v u Q I rx ry h => by
  obtain ⟨i, j, a, b, q⟩ := h
  exact op_notIn_str pins s σ H x y v u Q I rx ry ⟨i, j, a, b, q⟩
theorem opS_inS (neg : Bool) : OpS K (rInS neg) (gInS neg) := by
  intro Φ G H σ E x y a b d Q S ha hb hd k
  cases a with
  | str z =>
    cases b with
    | str j =>
      cases ha; cases hb; cases hd
      exact ⟨z, j, rfl, rfl, k G H _ (Ex.refl G) (Ex.refl H) S (.bl _)⟩
    | _ => cases hd
  | _ => cases b <;> cases hd
abbrev rInT (K : PySem.W.Frag) (neg : Bool) : R2 := fun x y H Q => rIn K neg x y H Q ∨ rInS neg x y H Q
def gInT (neg : Bool) : D → D → Option D := fun a b => match gInB neg a b with | some d => some d | none => gInS neg a b
theorem opS_inT (neg : Bool) : OpS K (rInT K neg) (gInT neg) := OpS.or (opS_in neg) (opS_inS neg)
theorem op_inT {X : Cx} : OpR X (compareOp .In) (rInT X.K false) := OpR.or op_in_seq op_inS
theorem op_notInT {X : Cx} : OpR X (compareOp .NotIn) (rInT X.K true) := OpR.or op_notIn_seq op_notInS
end
section
variable {X : Cx} {W : WJ} {a b : Expr} {pos : Pos} {fa fb : Env → R D}
theorem j_mulT (ha : JE X W a fa) (hb : JO X W b fb) : JE X W (.BinOp a .Mult b pos) (fop gMulT fa fb) := j_op op_mulT opS_mulT ha hb
end
end J

namespace J
open PySem PySem.Spec PyProof.Rows L2

/-! ### lcm of great ints: nobody sees the import of _pylong -/
theorem seer_ok {K : PySem.W.Frag} {mg : Str → Option Value} {h : Heap} (m : Mod K mg h) (c : seerB K = true) : h.NoSeer := by
  unfold seerB at c
  simp only [Bool.and_eq_true, decide_eq_true_eq] at c
  obtain ⟨c1, c2, c3, c4, c5, c6⟩ := c
  refine ⟨⟨_, .of_isNs (PySem.W.isNs_of_in m.kin c1), PySem.W.nsMap_none_of_in m.kin c1 c2, PySem.W.nsMap_none_of_in m.kin c1 c3⟩, ⟨_, .of_isNs (PySem.W.isNs_of_in m.kin c4), PySem.W.nsMap_none_of_in m.kin c4 c5⟩, m.blt, ?_⟩
  split at c6
  · rename_i b e
    split at c6
    · rename_i o e2
      simp only [Bool.and_eq_true, decide_eq_true_eq] at c6
      exact ⟨mg, b, o, m.glob, PySem.W.mg_of m.kin m.glob e, m.kin b o e2, c6.1, c6.2⟩
    · cases c6
  · cases c6
theorem wp_roomInv {M : Model} {A : Around} {E : Value → Shared → Prop} {s : Shared} {n : Nat} {Q : Unit → Shared → Prop} (hl : s.heap.NoLimit) (hd : A.depth + Builtin.pylongFrames < recursionLimit) (hs : SeerAt M A s.heap) (h : Q () s) : wpAny M A (Builtin.roomForPylongsInverse n) Q E s := by
  unfold Builtin.roomForPylongsInverse
  by_cases hb : n.log2 / 30 + 1 > 450
  · rw [if_pos hb]
    exact wpAny_bind (hs A.units s E _ rfl (wpAny_pylongFrames hl hd h))
  · rw [if_neg hb]
    exact wpAny_pure h
theorem run_lcm {M : Model} {A : Around} {E : Value → Shared → Prop} {s : Shared} {i j : Int} {t u : Tok} {Q : Fin → Shared → Prop} (hl : s.heap.NoLimit) (hd : A.depth + Builtin.pylongFrames < recursionLimit) (hs : SeerAt M A s.heap) (hsz : ((Nat.lcm i.natAbs j.natAbs : Nat) : Int).natAbs.log2 < bitsLine)
    (h : Q (.done (.ret (.int ((Nat.lcm i.natAbs j.natAbs : Nat) : Int) s.toks))) { s with toks := s.toks + 1 }) : wpAny M A (Builtin.«math.lcm» ⟨[.int i t, .int j u], []⟩) Q E s := by
  unfold Builtin.«math.lcm»
  refine wpAny_bind ?_
  unfold noKeywords
  rw [if_pos (show (([] : List (Str × Value)).isEmpty) = true from rfl)]
  refine wpAny_pure ?_
  dsimp only
  simp only [List.forIn_cons, List.forIn_nil]
  have hA : asIndex (.int i t) = pure i := rfl
  have hB : asIndex (.int j u) = pure j := rfl
  refine wpAny_bind (wpAny_bind (wpAny_bind ?_))
  unfold Builtin.Math.mathIndex
  rw [hA]
  refine wpAny_pure (wpAny_bind (wp_roomInv hl hd hs (wpAny_pure ?_)))
  dsimp only
  refine wpAny_bind (wpAny_bind ?_)
  rw [hB]
  refine wpAny_pure (wpAny_bind (wp_roomInv hl hd hs (wpAny_pure ?_)))
  dsimp only
  refine wpAny_pure ?_
  unfold retIntGrown mkIntGrown
  rw [show Nat.lcm 1 i.natAbs = i.natAbs by simp [Nat.lcm]]
  refine wpAny_bind ?_
  rw [if_neg (Nat.not_le.mpr hsz)]
  exact wpAny_mkInt (wpAny_pure h)
def lcmOkW (i j : Int) : Prop := i.natAbs.log2 + j.natAbs.log2 < 1000000
instance (i j : Int) : Decidable (lcmOkW i j) := by unfold lcmOkW; infer_instance
theorem lcm_fitsW {i j : Int} (h : lcmOkW i j) : ((Nat.lcm i.natAbs j.natAbs : Nat) : Int).natAbs.log2 < bitsLine := by
  unfold lcmOkW at h
  have h1 : i.natAbs < 2 ^ (i.natAbs.log2 + 1) := lt_of_log (Nat.lt_succ_self _)
  have h2 : j.natAbs < 2 ^ (j.natAbs.log2 + 1) := lt_of_log (Nat.lt_succ_self _)
  rw [Int.natAbs_natCast]
  have h3 : i.natAbs.lcm j.natAbs < 2 ^ ((i.natAbs.log2 + 1) + (j.natAbs.log2 + 1)) := by
    rw [Nat.pow_add]
    refine Nat.lt_of_le_of_lt (show i.natAbs.lcm j.natAbs ≤ i.natAbs * j.natAbs from Nat.div_le_self _ _) ?_
    exact Nat.mul_lt_mul_of_lt_of_le h1 (Nat.le_of_lt h2) (Nat.pow_pos (by decide))
  have h4 := log_of_lt h3 (by omega)
  have : bitsLine = 134217728 := by decide
  omega
def gLcmW : D → D → Option D := g2I fun i j => if lcmOkW i j then some ((Nat.lcm i.natAbs j.natAbs : Nat) : Int) else none
section
variable {X : Cx} {W : WJ} {a b : Expr} {fa fb : Env → R D} {x : Str} {k : Nat} {pos p : Pos}
theorem cr_lcmW (hs : seerB X.K = true) (ht : X.prog.given.tree = none) (hr : Room (k + 32) X.A) (hst : X.stack = X.env :: X.outer) (hge : X.env.scope.isGenerator = false) (hco : X.env.scope.isCoroutine = false) : CallR X (.builtin "math.lcm") (rI2 lcmOkW fun i j => ((Nat.lcm i.natAbs j.natAbs : Nat) : Int)) := by
  intro pins s σ H vs us Q I r ⟨i, j, hx, hc, q⟩
  subst hx
  obtain ⟨t, u, rfl⟩ := Vals.int2 r
  have ns : s.heap.NoSeer := (seer_ok I.ok.mod hs).keeps I.bk
  have hfr : X.A.in1.frames = some (X.env :: X.outer) := by rw [← hst]; exact I.ok.frames
  have sa : SeerAt (model X.prog X.w) X.A.in1 s.heap := SeerAt.of ns ht hfr hge hco I.ok.blt I.ok.glob
  refine PySem.Calls.call_function_entry PySem.W.MGF.kind_lcm PySem.W.MGF.plain_lcm PySem.W.MGF.entry_lcm (PySem.W.MGF.args_lcm _ _) ?_
  refine run_lcm I.nolimit (by have := hr.dp; show X.A.depth + 100 < _; omega) sa (lcm_fitsW hc) ⟨_, rfl, ⟨.int _, H, I.tok _, ⟨_, rfl⟩, q⟩⟩
theorem j_lcmW (hs : seerB X.K = true) (ht : X.prog.given.tree = none) (hr : Room (k + 32) X.A) (hm : X.mg x = some (.builtin "math.lcm")) (ha : JE X W a fa) (hb : JE X W b fb) (hst : X.stack = X.env :: X.outer := by rfl) (hge : X.env.scope.isGenerator = false := by rfl) (hco : X.env.scope.isCoroutine = false := by rfl) (hg : Gl X x := by rfl) (hdb : (x == ("__debug__" : Str)) = false := by decide)
    (he : starEach [a, b] X.env = (false, eval a X.env) :: starEach [b] X.env := by rfl) (he2 : starEach [b] X.env = (false, eval b X.env) :: starEach [] X.env := by rfl) (hpl : (backTo pos (starEach [b] X.env)).any (·.1) = false := by rfl) : JE X W (.Call (.Name x p) [a, b] [] pos) (fop gLcmW fa fb) :=
  j_mod2 (cr_lcmW hs ht hr hst hge hco) (fun i j k h => if_some h) hm ha hb hg hdb he he2 hpl
end
end J

namespace Lw
open PySem PySem.Spec PyProof.Rows L2 J
def top (i : Nat) : Stmt := PySem.Challenge.pw_nodearer_k02_ratio_text_and_bounds.main.body.getD i (.Pass ⟨0, 0, 0, 0⟩)
def memOf (j : Nat) : Stmt → Stmt
  | .ClassDef _ _ _ b _ _ _ _ _ _ _ => b.getD j (.Pass ⟨0, 0, 0, 0⟩)
  | s => s
def fl_NumberError : List (Str × (J.Env → R D)) := [("number", fVar 1)]
def Fx_NumberError : List D → Option (List Str × List D) := initF 2 fl_NumberError
def fl_SizeError : List (Str × (J.Env → R D)) := [("count", fVar 1)]
def Fx_SizeError : List D → Option (List Str × List D) := initF 2 fl_SizeError
def fl_TextError : List (Str × (J.Env → R D)) := [("line", fVar 1), ("column", fVar 2)]
def Fx_TextError : List D → Option (List Str × List D) := initF 3 fl_TextError
def tb_TextError : List (Str × Bool) := [("NumberError", false), ("SizeError", false), ("TextError", true)]
def exm_TextError : Exn → Option Bool := fun y => tb_TextError.lookup y.c
def tb_SizeError : List (Str × Bool) := [("NumberError", false), ("SizeError", true), ("TextError", false)]
def exm_SizeError : Exn → Option Bool := fun y => tb_SizeError.lookup y.c
def tb_NumberError : List (Str × Bool) := [("NumberError", true), ("SizeError", false), ("TextError", false)]
def exm_NumberError : Exn → Option Bool := fun y => tb_NumberError.lookup y.c
def okf_NumberError_number : Str → Bool := fun c => c == "NumberError"
def okf_SizeError_count : Str → Bool := fun c => c == "SizeError"
def okf_TextError_column : Str → Bool := fun c => c == "TextError"
def okf_TextError_line : Str → Bool := fun c => c == "TextError"
def isx_0 : Str → Option Bool := fun c => if c = "TextError" then some true else none
def isx_1 : Str → Option Bool := fun c => if c = "TextError" then some false else none
def isx_2 : Str → Option Bool := fun c => if c = "SizeError" then some true else none
def isx_3 : Str → Option Bool := fun c => if c = "SizeError" then some false else none
def isx_4 : Str → Option Bool := fun c => if c = "NumberError" then some true else none
def isx_5 : Str → Option Bool := fun c => if c = "NumberError" then some true else none
def gi_MOST : Int := ((10 ^ 2000 : Nat) : Int)
def gi_MOST_DIGITS : Int := 2001
def gi_MOST_SIGNS : Int := 5000
def gi_MOST_TOTAL : Int := 1000
def gi_MOST_TOTAL_DEN : Int := ((10 ^ 10000 : Nat) : Int)
def okc_den : Str → Bool := fun c => c == "Ratio"
def okc_num : Str → Bool := fun c => c == "Ratio"
def isTs : List String := ["NoneType", "bool", "int", "str", "tuple", "list"]
def isT_Ratio : Str → Option Bool := fun c => if c = "Ratio" then some true else none
def fu_L_common_1 : J.Env → Nat := fuelAt 1
def fu_P_behind_digits_1 : J.Env → Nat := fun _ => 100000
abbrev s_L_tape : Stmt := top 23
def N_L_tape : List Str := ["_law_script", "_law_digits", "_law_cell", "_law_rest", "_law_k"]
def ps_L_tape : List Str := ["_law_script"]
def f_L_tape : J.Env → RS := (sSeq (sSetL 1 (fLst fNil)) (sSeq (sFor (fun1L itemsD (fCut (fVar 0) (fun _ => some none) (fun E => intP ((fun _ => some (.int 63)) E)))) (gNm 2) (sSeq (sSet 3 (fun1 gAbs (fVar 2))) (sFor (fRng1 (fC (.int 14))) (gNm 4) (sIf (fTest (fop gGt (fVar 3) (fC (.int 0)))) (sSeq (sApp 1 (fop gMod (fun1 gIntF (fVar 3)) (fC (.int 12)))) (sSet 3 (fop gDivP (fVar 3) (fC (.int 12))))) sNil)))) (sRetL (fun1L gRev (fBor 1)))))
def F_L_tape : DF := runF 5 f_L_tape
abbrev s_L_take : Stmt := top 24
def N_L_take : List Str := ["_law_tape_here", "_law_many", "_law_salt", "_law_digit"]
def ps_L_take : List Str := ["_law_tape_here", "_law_many", "_law_salt"]
def f_L_take : J.Env → RS := (sSeq (sSet 3 (fC (.int 0))) (sSeq (sIf (fTest (fop gGt (fun1 gLen (fBor 0)) (fC (.int 0)))) (sSet 3 (fPop 0)) sNil) (sRet (fop gMod (fun1 gIntF (fop gAdd (fVar 3) (fVar 2))) (fVar 1)))))
def F_L_take : DF := runF 4 f_L_take
abbrev s_L_int : Stmt := top 26
def N_L_int : List Str := ["_law_told_here"]
def ps_L_int : List Str := ["_law_told_here"]
def f_L_int : J.Env → RS := (sRet (fAndV (fun1 (gIsi "int") (fVar 0)) (fun1 gNot (fun1 (gIsi "bool") (fVar 0)))))
def F_L_int : DF := runF 1 f_L_int
abbrev s_L_common : Stmt := top 27
def N_L_common : List Str := ["_law_one", "_law_other", "_law_rest"]
def ps_L_common : List Str := ["_law_one", "_law_other"]
def f_L_common : J.Env → RS := (sSeq (fun E => whileD (fTest (fop gNe (fVar 1) (fC (.int 0)))) (sSeq (sSet 2 (fop gMod (fun1 gIntF (fVar 0)) (fVar 1))) (sSeq (sSet 0 (fVar 1)) (sSet 1 (fVar 2)))) (fu_L_common_1 E) E) (sRet (fVar 0)))
def F_L_common : DF := runF 3 f_L_common
abbrev s_L_text : Stmt := top 29
def N_L_text : List Str := ["_law_top", "_law_bottom"]
def ps_L_text : List Str := ["_law_top", "_law_bottom"]
def f_L_text : J.Env → RS := (sSeq (sIf (fTest (fop gEq (fVar 1) (fC (.int 1)))) (sRet (fun1 gStrI (fVar 0))) sNil) (sRet (fop gAdd (fop gAdd (fun1 gStrI (fVar 0)) (fC (.str "/"))) (fun1 gStrI (fVar 1)))))
def F_L_text : DF := runF 2 f_L_text
abbrev s_L_class : Stmt := top 32
def N_L_class : List Str := ["_law_char"]
def ps_L_class : List Str := ["_law_char"]
def f_L_class : J.Env → RS := (sSeq (sIf (fTest (fop gEq (fVar 0) (fC (.str "0")))) (sRet (fC (.int 0))) sNil) (sSeq (sIf (fTest (fop (gInT false) (fVar 0) (fC (.str "123456789")))) (sRet (fC (.int 1))) sNil) (sSeq (sIf (fTest (fop gEq (fVar 0) (fC (.str "/")))) (sRet (fC (.int 2))) sNil) (sSeq (sIf (fTest (fop gEq (fVar 0) (fC (.str "-")))) (sRet (fC (.int 3))) sNil) (sRet (fC (.int 4)))))))
def F_L_class : DF := runF 1 f_L_class
abbrev s_L_bounded : Stmt := top 34
def N_L_bounded : List Str := ["_law_num", "_law_den"]
def ps_L_bounded : List Str := ["_law_num", "_law_den"]
def f_L_bounded : J.Env → RS := (sSeq (sIf (fTest (fop gGt (fun1 gAbs (fVar 0)) (fop gPowP (fop gPowP (fC (.int 10)) (fC (.int 50))) (fC (.int 40))))) (sRet (fTup (fCons (fC (.str "number")) (fCons (fVar 0) fNil)))) sNil) (sSeq (sIf (fTest (fop gGt (fVar 1) (fop gPowP (fop gPowP (fC (.int 10)) (fC (.int 50))) (fC (.int 40))))) (sRet (fTup (fCons (fC (.str "number")) (fCons (fVar 1) fNil)))) sNil) (sRet (fTup (fCons (fC (.str "ratio")) (fCons (fVar 0) (fCons (fVar 1) fNil)))))))
def F_L_bounded : DF := runF 2 f_L_bounded
abbrev s_L_edge : Stmt := top 37
def N_L_edge : List Str := ["_law_kind", "_law_digit", "_law_most", "_law_char", "_law_top"]
def ps_L_edge : List Str := ["_law_kind", "_law_digit"]
def f_L_edge : J.Env → RS := (sSeq (sSet 2 (fop gPowP (fop gPowP (fC (.int 10)) (fC (.int 50))) (fC (.int 40)))) (sSeq (sSet 3 (fun1 gStrI (fVar 1))) (sSeq (sIf (fTest (fop gEq (fVar 0) (fC (.int 0)))) (sRet (fTup (fCons (fop gAdd (fC (.str "1")) (fop gMulT (fC (.str "0")) (fC (.int 2000)))) (fCons (fTup (fCons (fC (.str "ratio")) (fCons (fVar 2) (fCons (fC (.int 1)) fNil)))) fNil)))) sNil) (sSeq (sIf (fTest (fop gEq (fVar 0) (fC (.int 1)))) (sRet (fTup (fCons (fop gAdd (fC (.str "-1")) (fop gMulT (fC (.str "0")) (fC (.int 2000)))) (fCons (fTup (fCons (fC (.str "ratio")) (fCons (fun1 gNeg (fVar 2)) (fCons (fC (.int 1)) fNil)))) fNil)))) sNil) (sSeq (sIf (fTest (fop gEq (fVar 0) (fC (.int 2)))) (sRet (fTup (fCons (fop gAdd (fop gAdd (fC (.str "1")) (fop gMulT (fC (.str "0")) (fC (.int 1999)))) (fVar 3)) (fCons (fTup (fCons (fC (.str "number")) (fCons (fop gAdd (fVar 2) (fVar 1)) fNil))) fNil)))) sNil) (sSeq (sIf (fTest (fop gEq (fVar 0) (fC (.int 3)))) (sRet (fTup (fCons (fop gAdd (fop gAdd (fC (.str "-1")) (fop gMulT (fC (.str "0")) (fC (.int 1999)))) (fVar 3)) (fCons (fTup (fCons (fC (.str "number")) (fCons (fop gSub (fun1 gNeg (fVar 2)) (fVar 1)) fNil))) fNil)))) sNil) (sSeq (sIf (fTest (fop gEq (fVar 0) (fC (.int 4)))) (sRet (fTup (fCons (fop gMulT (fVar 3) (fC (.int 2002))) (fCons (fTup (fCons (fC (.str "text")) (fCons (fC (.int 1)) (fCons (fC (.int 2002)) fNil)))) fNil)))) sNil) (sSeq (sIf (fTest (fop gEq (fVar 0) (fC (.int 5)))) (sRet (fTup (fCons (fop gAdd (fC (.str "-")) (fop gMulT (fVar 3) (fC (.int 2002)))) (fCons (fTup (fCons (fC (.str "text")) (fCons (fC (.int 1)) (fCons (fC (.int 2003)) fNil)))) fNil)))) sNil) (sSeq (sIf (fTest (fop gEq (fVar 0) (fC (.int 6)))) (sRet (fTup (fCons (fop gAdd (fC (.str "1/")) (fop gMulT (fVar 3) (fC (.int 2001)))) (fCons (fTup (fCons (fC (.str "number")) (fCons (fop gDivP (fop gMulT (fVar 1) (fop gSub (fop gMulT (fVar 2) (fC (.int 10))) (fC (.int 1)))) (fC (.int 9))) fNil))) fNil)))) sNil) (sSeq (sIf (fTest (fop gEq (fVar 0) (fC (.int 7)))) (sRet (fTup (fCons (fop gAdd (fC (.str "1/")) (fop gMulT (fVar 3) (fC (.int 2002)))) (fCons (fTup (fCons (fC (.str "text")) (fCons (fC (.int 1)) (fCons (fC (.int 2004)) fNil)))) fNil)))) sNil) (sSeq (sIf (fTest (fop gEq (fVar 0) (fC (.int 8)))) (sRet (fTup (fCons (fop gMulT (fVar 3) (fC (.int 5000))) (fCons (fTup (fCons (fC (.str "text")) (fCons (fC (.int 1)) (fCons (fC (.int 2002)) fNil)))) fNil)))) sNil) (sSeq (sIf (fTest (fop gEq (fVar 0) (fC (.int 9)))) (sRet (fTup (fCons (fop gMulT (fVar 3) (fC (.int 5001))) (fCons (fTup (fCons (fC (.str "size")) (fCons (fC (.int 5001)) fNil))) fNil)))) sNil) (sSeq (sIf (fTest (fop gEq (fVar 0) (fC (.int 10)))) (sRet (fTup (fCons (fop gMulT (fC (.str "-")) (fC (.int 5000))) (fCons (fTup (fCons (fC (.str "text")) (fCons (fC (.int 1)) (fCons (fC (.int 2)) fNil)))) fNil)))) sNil) (sSeq (sSet 4 (fop gSub (fop gAdd (fVar 2) (fC (.int 1))) (fVar 1))) (sRet (fTup (fCons (fop gAdd (fop gAdd (fun1 gStrI (fVar 4)) (fC (.str "/"))) (fun1 gStrI (fop gSub (fVar 4) (fC (.int 1))))) (fCons (fTup (fCons (fC (.str "ratio")) (fCons (fVar 4) (fCons (fop gSub (fVar 4) (fC (.int 1))) fNil)))) fNil))))))))))))))))))
def F_L_edge : DF := runF 5 f_L_edge
abbrev s_M_Ratio_eq : Stmt := memOf 6 (top 17)
def N_M_Ratio_eq : List Str := ["self", "other"]
def ps_M_Ratio_eq : List Str := ["self", "other"]
def f_M_Ratio_eq : J.Env → RS := (sRet (fAndV (fun1 (gIsO isT_Ratio isTs) (fVar 1)) (fAndV (fop gEq (fFld okc_num "num" (fVar 0)) (fFld okc_num "num" (fVar 1))) (fop gEq (fFld okc_den "den" (fVar 0)) (fFld okc_den "den" (fVar 1))))))
def F_M_Ratio_eq : DF := runF 2 f_M_Ratio_eq
abbrev s_M_Ratio_str : Stmt := memOf 8 (top 17)
def N_M_Ratio_str : List Str := ["self"]
def ps_M_Ratio_str : List Str := ["self"]
def f_M_Ratio_str : J.Env → RS := (sSeq (sIf (fTest (fop gEq (fFld okc_den "den" (fVar 0)) (fC (.int 1)))) (sRet (fun1 gStrI (fFld okc_num "num" (fVar 0)))) sNil) (sRet (fJS (fJC (fun1 gFmt (fFld okc_num "num" (fVar 0))) (fJC (fC (.str "/")) (fJC (fun1 gFmt (fFld okc_den "den" (fVar 0))) fJN))))))
def F_M_Ratio_str : DF := runF 1 f_M_Ratio_str
abbrev s_L_number : Stmt := top 25
def N_L_number : List Str := ["_law_tape_here", "_law_salt", "_law_kind", "_law_value", "_law_k"]
def ps_L_number : List Str := ["_law_tape_here", "_law_salt"]
def f_L_number : J.Env → RS := (sSeq (sSet 2 (fCallR 3 F_L_take (xO 0 (xV (fC (.int 12)) (xV (fVar 1) xNil))) rvD)) (sSeq (sSet 3 (fC (.int 0))) (sSeq (sFor (fRng1 (fop gIx (fPub (fLst (fCons (fC (.int 1)) (fCons (fC (.int 2)) (fCons (fC (.int 6)) (fCons (fC (.int 1)) (fCons (fC (.int 3)) (fCons (fC (.int 2)) (fCons (fC (.int 1)) (fCons (fC (.int 40)) (fCons (fC (.int 12)) (fCons (fC (.int 2)) (fCons (fC (.int 2)) (fCons (fC (.int 2)) fNil)))))))))))))) (fVar 2))) (gNm 4) (sSet 3 (fop gAdd (fop gMulT (fVar 3) (fC (.int 12))) (fCallR 3 F_L_take (xO 0 (xV (fC (.int 12)) (xV (fop gAdd (fVar 1) (fop gMulT (fC (.int 5)) (fVar 4))) xNil))) rvD)))) (sSeq (sIf (fTest (fop gEq (fVar 2) (fC (.int 9)))) (sRet (fop gSub (fop gPowP (fop gPowP (fC (.int 10)) (fC (.int 50))) (fC (.int 40))) (fVar 3))) sNil) (sSeq (sIf (fTest (fop gEq (fVar 2) (fC (.int 10)))) (sRet (fop gAdd (fop gPowP (fop gPowP (fC (.int 10)) (fC (.int 50))) (fC (.int 20))) (fVar 3))) sNil) (sSeq (sIf (fTest (fop gEq (fVar 2) (fC (.int 11)))) (sRet (fop gSub (fop gPowP (fop gPowP (fC (.int 10)) (fC (.int 50))) (fC (.int 20))) (fVar 3))) sNil) (sRet (fVar 3))))))))
def F_L_number : DF := runF 5 f_L_number
abbrev s_L_lowest : Stmt := top 28
def N_L_lowest : List Str := ["_law_num", "_law_den", "_law_divisor"]
def ps_L_lowest : List Str := ["_law_num", "_law_den"]
def f_L_lowest : J.Env → RS := (sSeq (sSet 2 (fCallR 2 F_L_common (xV (fun1 gAbs (fVar 0)) (xV (fVar 1) xNil)) rvD)) (sRet (fTup (fCons (fop gDivP (fVar 0) (fVar 2)) (fCons (fop gDivP (fVar 1) (fVar 2)) fNil)))))
def F_L_lowest : DF := runF 3 f_L_lowest
abbrev s_L_character : Stmt := top 30
def N_L_character : List Str := ["_law_tape_here", "_law_salt", "_law_code", "_law_chars"]
def ps_L_character : List Str := ["_law_tape_here", "_law_salt"]
def f_L_character : J.Env → RS := (sSeq (sIf (fTest (fop gEq (fCallR 3 F_L_take (xO 0 (xV (fC (.int 2)) (xV (fVar 1) xNil))) rvD) (fC (.int 0)))) (sRet (fop gIx (fC (.str "0123456789/-")) (fCallR 3 F_L_take (xO 0 (xV (fC (.int 12)) (xV (fVar 1) xNil))) rvD))) sNil) (sSeq (sSet 2 (fop gMulT (fCallR 3 F_L_take (xO 0 (xV (fC (.int 12)) (xV (fVar 1) xNil))) rvD) (fC (.int 12)))) (sSeq (sSet 2 (fop gAdd (fVar 2) (fCallR 3 F_L_take (xO 0 (xV (fC (.int 12)) (xV (fVar 1) xNil))) rvD))) (sSeq (sSet 3 (fC (.str " !\"#$&'()*+,-./0123456789:;<=>?@ABCDEFGHIJKLMNOPQRSTUVWXYZ[\\]^_`"))) (sSeq (sSet 3 (fop gAdd (fVar 3) (fC (.str "abcdefghijklmnopqrstuvwxyz{|}~")))) (sRet (fop gIx (fVar 3) (fop gMod (fun1 gIntF (fVar 2)) (fC (.int 94))))))))))
def F_L_character : DF := runF 4 f_L_character
abbrev s_L_reading : Stmt := top 33
def N_L_reading : List Str := ["_law_text_here", "_law_after", "_law_state", "_law_sign", "_law_values", "_law_digits", "_law_at", "_law_k"]
def ps_L_reading : List Str := ["_law_text_here"]
def f_L_reading : J.Env → RS := (sSeq (sSet 1 (fPub (fLst (fCons (fPub (fLst (fCons (fC (.int 2)) (fCons (fC (.int 3)) (fCons (fun1 gNeg (fC (.int 1))) (fCons (fC (.int 1)) (fCons (fun1 gNeg (fC (.int 1))) fNil))))))) (fCons (fPub (fLst (fCons (fun1 gNeg (fC (.int 1))) (fCons (fC (.int 3)) (fCons (fun1 gNeg (fC (.int 1))) (fCons (fun1 gNeg (fC (.int 1))) (fCons (fun1 gNeg (fC (.int 1))) fNil))))))) (fCons (fPub (fLst (fCons (fun1 gNeg (fC (.int 1))) (fCons (fun1 gNeg (fC (.int 1))) (fCons (fun1 gNeg (fC (.int 1))) (fCons (fun1 gNeg (fC (.int 1))) (fCons (fun1 gNeg (fC (.int 1))) fNil))))))) fNil)))))) (sSeq (sSet 1 (fop gAdd (fVar 1) (fPub (fLst (fCons (fPub (fLst (fCons (fC (.int 3)) (fCons (fC (.int 3)) (fCons (fC (.int 4)) (fCons (fun1 gNeg (fC (.int 1))) (fCons (fun1 gNeg (fC (.int 1))) fNil))))))) (fCons (fPub (fLst (fCons (fun1 gNeg (fC (.int 1))) (fCons (fC (.int 5)) (fCons (fun1 gNeg (fC (.int 1))) (fCons (fun1 gNeg (fC (.int 1))) (fCons (fun1 gNeg (fC (.int 1))) fNil))))))) (fCons (fPub (fLst (fCons (fC (.int 5)) (fCons (fC (.int 5)) (fCons (fun1 gNeg (fC (.int 1))) (fCons (fun1 gNeg (fC (.int 1))) (fCons (fun1 gNeg (fC (.int 1))) fNil))))))) fNil))))))) (sSeq (sSet 2 (fC (.int 0))) (sSeq (sSet 3 (fC (.int 1))) (sSeq (sSetL 4 (fLst (fCons (fC (.int 0)) (fCons (fC (.int 0)) fNil)))) (sSeq (sSetL 5 (fLst (fCons (fC (.int 0)) (fCons (fC (.int 0)) fNil)))) (sSeq (sFor (fRng1 (fun1 gLen (fVar 0))) (gNm 6) (sSeq (sSet 2 (fop gIx (fop gIx (fVar 1) (fVar 2)) (fCallR 1 F_L_class (xV (fop gIx (fVar 0) (fVar 6)) xNil) rvD))) (sSeq (sIf (fTest (fop gEq (fVar 2) (fC (.int 1)))) (sSet 3 (fun1 gNeg (fC (.int 1)))) sNil) (sSeq (sIf (fOr (fTest (fop gEq (fVar 2) (fC (.int 2)))) (fOr (fTest (fop gEq (fVar 2) (fC (.int 3)))) (fTest (fop gEq (fVar 2) (fC (.int 5)))))) (sSeq (sSet 7 (fun1 gIntF (fop gEq (fVar 2) (fC (.int 5))))) (sSeq (sSetIx 4 (fVar 7) (fop gAdd (fop gMulT (fopB gIx (fBor 4) (getV 7)) (fC (.int 10))) (fSM sFind (fC (.str "0123456789")) (fop gIx (fVar 0) (fVar 6))))) (sSetIx 5 (fVar 7) (fop gAdd (fopB gIx (fBor 5) (getV 7)) (fC (.int 1)))))) sNil) (sIf (fOr (fTest (fop gLt (fVar 2) (fC (.int 0)))) (fOr (fTest (fop gGt (fopB gIx (fBor 5) (fun _ => some (.int 0))) (fC (.int 2001)))) (fTest (fop gGt (fopB gIx (fBor 5) (fun _ => some (.int 1))) (fC (.int 2001)))))) (sRet (fTup (fCons (fC (.str "text")) (fCons (fC (.int 1)) (fCons (fop gAdd (fVar 6) (fC (.int 1))) fNil))))) sNil))))) (sSeq (sIf (fOr (fTest (fop gEq (fVar 2) (fC (.int 2)))) (fTest (fop gEq (fVar 2) (fC (.int 3))))) (sRet (fCallR 2 F_L_bounded (xV (fop gMulT (fVar 3) (fopB gIx (fBor 4) (fun _ => some (.int 0)))) (xV (fC (.int 1)) xNil)) rvD)) sNil) (sSeq (sIf (fAnd (fTest (fop gEq (fVar 2) (fC (.int 5)))) (fTest (fop gGt (fopB gIx (fBor 4) (fun _ => some (.int 1))) (fC (.int 1))))) (sIf (fTest (fop gEq (fCallR 2 F_L_common (xV (fopB gIx (fBor 4) (fun _ => some (.int 0))) (xV (fopB gIx (fBor 4) (fun _ => some (.int 1))) xNil)) rvD) (fC (.int 1)))) (sRet (fCallR 2 F_L_bounded (xV (fop gMulT (fVar 3) (fopB gIx (fBor 4) (fun _ => some (.int 0)))) (xV (fopB gIx (fBor 4) (fun _ => some (.int 1))) xNil)) rvD)) sNil) sNil) (sRet (fTup (fCons (fC (.str "text")) (fCons (fC (.int 1)) (fCons (fop gAdd (fun1 gLen (fVar 0)) (fC (.int 1))) fNil))))))))))))))
def F_L_reading : DF := runF 8 f_L_reading
abbrev s_L_pair : Stmt := top 35
def N_L_pair : List Str := ["_law_told_here"]
def ps_L_pair : List Str := ["_law_told_here"]
def f_L_pair : J.Env → RS := (sSeq (sIf (fNot (fTru (fun1 (gIsO isT_Ratio isTs) (fVar 0)))) (sRet (fTup (fCons (fC (.str "odd")) fNil))) sNil) (sSeq (sIf (fOr (fNot (fTru (fCallR 1 F_L_int (xV (fFld okc_num "num" (fVar 0)) xNil) rvD))) (fNot (fTru (fCallR 1 F_L_int (xV (fFld okc_den "den" (fVar 0)) xNil) rvD)))) (sRet (fTup (fCons (fC (.str "odd")) fNil))) sNil) (sRet (fTup (fCons (fC (.str "ratio")) (fCons (fFld okc_num "num" (fVar 0)) (fCons (fFld okc_den "den" (fVar 0)) fNil)))))))
def F_L_pair : DF := runF 1 f_L_pair
abbrev s_look_number : Stmt := top 8
def N_look_number : List Str := ["number", "low", "high"]
def ps_look_number : List Str := ["number", "low", "high"]
def f_look_number : J.Env → RS := (sSeq (sIf (fOr (fTest (fop gLt (fVar 0) (fVar 1))) (fTest (fop gGt (fVar 0) (fVar 2)))) (sRaise "NumberError" 1 Fx_NumberError (fCons (fVar 0) fNil)) sNil) (sRet (fVar 0)))
def F_look_number : DF := runF 3 f_look_number
abbrev s_look_size : Stmt := top 9
def N_look_size : List Str := ["entries", "low", "high", "count"]
def ps_look_size : List Str := ["entries", "low", "high"]
def f_look_size : J.Env → RS := (sSeq (sSet 3 (fun1 gLen (fVar 0))) (sSeq (sIf (fOr (fTest (fop gLt (fVar 3) (fVar 1))) (fTest (fop gGt (fVar 3) (fVar 2)))) (sRaise "SizeError" 1 Fx_SizeError (fCons (fVar 3) fNil)) sNil) (sRet (fVar 0))))
def F_look_size : DF := runF 4 f_look_size
abbrev s_P_behind_digits : Stmt := top 20
def N_P_behind_digits : List Str := ["text", "at", "end"]
def ps_P_behind_digits : List Str := ["text", "at"]
def f_P_behind_digits : J.Env → RS := (sSeq (sIf (fOr (fTest (fop gEq (fVar 1) (fun1 gLen (fVar 0)))) (fTest (fop (gInT true) (fop gIx (fVar 0) (fVar 1)) (fC (.str "0123456789"))))) (sRaise "TextError" 2 Fx_TextError (fCons (fC (.int 1)) (fCons (fop gAdd (fVar 1) (fC (.int 1))) fNil))) sNil) (sSeq (sIf (fTest (fop gEq (fop gIx (fVar 0) (fVar 1)) (fC (.str "0")))) (sRet (fop gAdd (fVar 1) (fC (.int 1)))) sNil) (sSeq (sSet 2 (fop gAdd (fVar 1) (fC (.int 1)))) (sSeq (fun E => whileD (fAnd (fTest (fop gLt (fVar 2) (fun1 gLen (fVar 0)))) (fAnd (fTest (fop gLt (fop gSub (fVar 2) (fVar 1)) (fC (.int gi_MOST_DIGITS)))) (fTest (fop (gInT false) (fop gIx (fVar 0) (fVar 2)) (fC (.str "0123456789")))))) (sAug 2 (g2I fun i j => some (i + j)) (fC (.int 1))) (fu_P_behind_digits_1 E) E) (sRet (fVar 2))))))
def F_P_behind_digits : DF := runF 3 f_P_behind_digits
abbrev s_L_spoilt : Stmt := top 31
def N_L_spoilt : List Str := ["_law_tape_here", "_law_text_here", "_law_salt", "_law_kind", "_law_at", "_law_char"]
def ps_L_spoilt : List Str := ["_law_tape_here", "_law_text_here", "_law_salt"]
def f_L_spoilt : J.Env → RS := (sSeq (sSet 3 (fCallR 3 F_L_take (xO 0 (xV (fC (.int 4)) (xV (fVar 2) xNil))) rvD)) (sSeq (sSet 4 (fCallR 3 F_L_take (xO 0 (xV (fC (.int 12)) (xV (fop gAdd (fVar 2) (fC (.int 1))) xNil))) rvD)) (sSeq (sIf (fTest (fop gLt (fun1 gLen (fVar 1)) (fC (.int 12)))) (sSet 4 (fop gMod (fun1 gIntF (fVar 4)) (fop gAdd (fun1 gLen (fVar 1)) (fC (.int 1))))) (sSet 4 (fop gMax2 (fC (.int 0)) (fop gSub (fop gDivP (fop gMulT (fun1 gLen (fVar 1)) (fVar 4)) (fC (.int 11))) (fCallR 3 F_L_take (xO 0 (xV (fC (.int 4)) (xV (fVar 2) xNil))) rvD))))) (sSeq (sSet 5 (fCallR 2 F_L_character (xO 0 (xV (fVar 2) xNil)) rvD)) (sSeq (sIf (fTest (fop gEq (fVar 3) (fC (.int 0)))) (sRet (fop gAdd (fop gAdd (fCut (fVar 1) (fun _ => some none) (fun E => intP ((getV 4) E))) (fVar 5)) (fCut (fVar 1) (fun E => intP ((getV 4) E)) (fun _ => some none)))) sNil) (sSeq (sIf (fTest (fop gEq (fVar 3) (fC (.int 1)))) (sRet (fop gAdd (fop gAdd (fCut (fVar 1) (fun _ => some none) (fun E => intP ((getV 4) E))) (fVar 5)) (fCut (fVar 1) (fun E => intP ((fun E => ((getV 4) E).bind fun x => ((fun _ => some (.int 1)) E).bind fun y => gAdd x y) E)) (fun _ => some none)))) sNil) (sSeq (sIf (fTest (fop gEq (fVar 3) (fC (.int 2)))) (sRet (fop gAdd (fCut (fVar 1) (fun _ => some none) (fun E => intP ((getV 4) E))) (fCut (fVar 1) (fun E => intP ((fun E => ((getV 4) E).bind fun x => ((fun _ => some (.int 1)) E).bind fun y => gAdd x y) E)) (fun _ => some none)))) sNil) (sRet (fCut (fVar 1) (fun _ => some none) (fun E => intP ((getV 4) E)))))))))))
def F_L_spoilt : DF := runF 6 f_L_spoilt
abbrev s_P_ratio_parts : Stmt := top 18
def N_P_ratio_parts : List Str := ["other"]
def ps_P_ratio_parts : List Str := ["other"]
def f_P_ratio_parts : J.Env → RS := (sSeq (sIf (fTru (fun1 (gIsO isT_Ratio isTs) (fVar 0))) (sRet (fTup (fCons (fFld okc_num "num" (fVar 0)) (fCons (fFld okc_den "den" (fVar 0)) fNil)))) sNil) (sRet (fTup (fCons (fCallR 3 F_look_number (xV (fVar 0) (xV (fun1 gNeg (fC (.int gi_MOST))) (xV (fC (.int gi_MOST)) xNil))) rvD) (fCons (fC (.int 1)) fNil)))))
def F_P_ratio_parts : DF := runF 1 f_P_ratio_parts
abbrev s_P_read_parts : Stmt := top 21
def N_P_read_parts : List Str := ["text", "begin", "end", "num", "last", "den"]
def ps_P_read_parts : List Str := ["text"]
def f_P_read_parts : J.Env → RS := (sSeq (sSet 1 (fIf (fTru (fSM sStarts (fVar 0) (fC (.str "-")))) (fC (.int 1)) (fC (.int 0)))) (sSeq (sSet 2 (fCallR 2 F_P_behind_digits (xV (fVar 0) (xV (fVar 1) xNil)) rvD)) (sSeq (sSet 3 (fun1 gIntT (fCut (fVar 0) (fun _ => some none) (fun E => intP ((getV 2) E))))) (sSeq (sIf (fAnd (fTest (fop gEq (fVar 3) (fC (.int 0)))) (fTest (fop gEq (fVar 1) (fC (.int 1))))) (sRaise "TextError" 2 Fx_TextError (fCons (fC (.int 1)) (fCons (fVar 2) fNil))) sNil) (sSeq (sIf (fTest (fop gEq (fVar 2) (fun1 gLen (fVar 0)))) (sRet (fTup (fCons (fVar 3) (fCons (fC (.int 1)) fNil)))) sNil) (sSeq (sIf (fOr (fTest (fop gEq (fVar 3) (fC (.int 0)))) (fTest (fop gNe (fop gIx (fVar 0) (fVar 2)) (fC (.str "/"))))) (sRaise "TextError" 2 Fx_TextError (fCons (fC (.int 1)) (fCons (fop gAdd (fVar 2) (fC (.int 1))) fNil))) sNil) (sSeq (sSet 4 (fCallR 2 F_P_behind_digits (xV (fVar 0) (xV (fop gAdd (fVar 2) (fC (.int 1))) xNil)) rvD)) (sSeq (sSet 5 (fun1 gIntT (fCut (fVar 0) (fun E => intP ((fun E => ((getV 2) E).bind fun x => ((fun _ => some (.int 1)) E).bind fun y => gAdd x y) E)) (fun E => intP ((getV 4) E))))) (sSeq (sIf (fTest (fop gEq (fVar 5) (fC (.int 0)))) (sRaise "TextError" 2 Fx_TextError (fCons (fC (.int 1)) (fCons (fVar 4) fNil))) sNil) (sSeq (sIf (fOr (fTest (fop gLt (fVar 4) (fun1 gLen (fVar 0)))) (fOr (fTest (fop gEq (fVar 5) (fC (.int 1)))) (fTest (fop gGt (fop gGcd (fVar 3) (fVar 5)) (fC (.int 1)))))) (sRaise "TextError" 2 Fx_TextError (fCons (fC (.int 1)) (fCons (fop gAdd (fVar 4) (fC (.int 1))) fNil))) sNil) (sRet (fTup (fCons (fVar 3) (fCons (fVar 5) fNil))))))))))))))
def F_P_read_parts : DF := runF 6 f_P_read_parts
abbrev s_M_Ratio_init : Stmt := memOf 0 (top 17)
def N_M_Ratio_init : List Str := ["self", "num", "den", "divisor"]
def ps_M_Ratio_init : List Str := ["self", "num", "den"]
def f_M_Ratio_init : J.Env → RS := (sSeq (sExpr (fCallR 3 F_look_number (xV (fVar 1) (xV (fun1 gNeg (fC (.int gi_MOST))) (xV (fC (.int gi_MOST)) xNil))) rvD)) (sSeq (sExpr (fCallR 3 F_look_number (xV (fVar 2) (xV (fC (.int 1)) (xV (fC (.int gi_MOST)) xNil))) rvD)) (sSeq (sSet 3 (fop gGcd (fVar 1) (fVar 2))) (sSeq (sPut okc_num 0 "num" (fop gDivP (fVar 1) (fVar 3))) (sPut okc_den 0 "den" (fop gDivP (fVar 2) (fVar 3)))))))
def F_M_Ratio_init : DF := runF 4 f_M_Ratio_init
abbrev s_P_ratio_lowest : Stmt := top 19
def N_P_ratio_lowest : List Str := ["num", "den", "divisor"]
def ps_P_ratio_lowest : List Str := ["num", "den"]
def f_P_ratio_lowest : J.Env → RS := (sSeq (sSet 2 (fop gGcd (fVar 0) (fVar 1))) (sRet (fMake "Ratio" 3 F_M_Ratio_init [] (xV (fop gDivP (fVar 0) (fVar 2)) (xV (fop gDivP (fVar 1) (fVar 2)) xNil)))))
def F_P_ratio_lowest : DF := runF 3 f_P_ratio_lowest
abbrev s_M_Ratio_neg : Stmt := memOf 4 (top 17)
def N_M_Ratio_neg : List Str := ["self"]
def ps_M_Ratio_neg : List Str := ["self"]
def f_M_Ratio_neg : J.Env → RS := (sRet (fMake "Ratio" 3 F_M_Ratio_init [] (xV (fun1 gNeg (fFld okc_num "num" (fVar 0))) (xV (fFld okc_den "den" (fVar 0)) xNil))))
def F_M_Ratio_neg : DF := runF 1 f_M_Ratio_neg
abbrev s_M_Ratio_read : Stmt := memOf 13 (top 17)
def N_M_Ratio_read : List Str := ["text", "num", "den"]
def ps_M_Ratio_read : List Str := ["text"]
def f_M_Ratio_read : J.Env → RS := (sSeq (sExpr (fCallR 3 F_look_size (xV (fVar 0) (xV (fC (.int 0)) (xV (fC (.int gi_MOST_SIGNS)) xNil))) rvD)) (sSeq (sAsg (fCallR 1 F_P_read_parts (xV (fVar 0) xNil) rvD) (gTup2 (gsCons (gNm 1) (gsCons (gNm 2) gsNil)))) (sRet (fMake "Ratio" 3 F_M_Ratio_init [] (xV (fVar 1) (xV (fVar 2) xNil))))))
def F_M_Ratio_read : DF := runF 3 f_M_Ratio_read
abbrev s_M_Ratio_add : Stmt := memOf 1 (top 17)
def N_M_Ratio_add : List Str := ["self", "other", "num", "den"]
def ps_M_Ratio_add : List Str := ["self", "other"]
def f_M_Ratio_add : J.Env → RS := (sSeq (sAsg (fCallR 1 F_P_ratio_parts (xV (fVar 1) xNil) rvD) (gTup2 (gsCons (gNm 2) (gsCons (gNm 3) gsNil)))) (sRet (fCallR 2 F_P_ratio_lowest (xV (fop gAdd (fop gMulT (fFld okc_num "num" (fVar 0)) (fVar 3)) (fop gMulT (fVar 2) (fFld okc_den "den" (fVar 0)))) (xV (fop gMulT (fFld okc_den "den" (fVar 0)) (fVar 3)) xNil)) rvD)))
def F_M_Ratio_add : DF := runF 4 f_M_Ratio_add
abbrev s_M_Ratio_sub : Stmt := memOf 2 (top 17)
def N_M_Ratio_sub : List Str := ["self", "other", "num", "den"]
def ps_M_Ratio_sub : List Str := ["self", "other"]
def f_M_Ratio_sub : J.Env → RS := (sSeq (sAsg (fCallR 1 F_P_ratio_parts (xV (fVar 1) xNil) rvD) (gTup2 (gsCons (gNm 2) (gsCons (gNm 3) gsNil)))) (sRet (fCallR 2 F_P_ratio_lowest (xV (fop gSub (fop gMulT (fFld okc_num "num" (fVar 0)) (fVar 3)) (fop gMulT (fVar 2) (fFld okc_den "den" (fVar 0)))) (xV (fop gMulT (fFld okc_den "den" (fVar 0)) (fVar 3)) xNil)) rvD)))
def F_M_Ratio_sub : DF := runF 4 f_M_Ratio_sub
abbrev s_M_Ratio_mul : Stmt := memOf 3 (top 17)
def N_M_Ratio_mul : List Str := ["self", "other", "num", "den"]
def ps_M_Ratio_mul : List Str := ["self", "other"]
def f_M_Ratio_mul : J.Env → RS := (sSeq (sAsg (fCallR 1 F_P_ratio_parts (xV (fVar 1) xNil) rvD) (gTup2 (gsCons (gNm 2) (gsCons (gNm 3) gsNil)))) (sRet (fCallR 2 F_P_ratio_lowest (xV (fop gMulT (fFld okc_num "num" (fVar 0)) (fVar 2)) (xV (fop gMulT (fFld okc_den "den" (fVar 0)) (fVar 3)) xNil)) rvD)))
def F_M_Ratio_mul : DF := runF 4 f_M_Ratio_mul
abbrev s_M_Ratio_over : Stmt := memOf 9 (top 17)
def N_M_Ratio_over : List Str := ["self", "other"]
def ps_M_Ratio_over : List Str := ["self", "other"]
def f_M_Ratio_over : J.Env → RS := (sSeq (sIf (fTest (fop gEq (fFld okc_num "num" (fVar 1)) (fC (.int 0)))) (sRaise "NumberError" 1 Fx_NumberError (fCons (fC (.int 0)) fNil)) sNil) (sSeq (sIf (fTest (fop gLt (fFld okc_num "num" (fVar 1)) (fC (.int 0)))) (sRet (fCallR 2 F_P_ratio_lowest (xV (fop gMulT (fun1 gNeg (fFld okc_num "num" (fVar 0))) (fFld okc_den "den" (fVar 1))) (xV (fop gMulT (fun1 gNeg (fFld okc_den "den" (fVar 0))) (fFld okc_num "num" (fVar 1))) xNil)) rvD)) sNil) (sRet (fCallR 2 F_P_ratio_lowest (xV (fop gMulT (fFld okc_num "num" (fVar 0)) (fFld okc_den "den" (fVar 1))) (xV (fop gMulT (fFld okc_den "den" (fVar 0)) (fFld okc_num "num" (fVar 1))) xNil)) rvD))))
def F_M_Ratio_over : DF := runF 2 f_M_Ratio_over
abbrev s_M_Ratio_total : Stmt := memOf 14 (top 17)
def N_M_Ratio_total : List Str := ["ratios", "den", "ratio"]
def ps_M_Ratio_total : List Str := ["ratios"]
def f_M_Ratio_total : J.Env → RS := (sSeq (sExpr (fCallR 3 F_look_size (xV (fVar 0) (xV (fC (.int 0)) (xV (fC (.int gi_MOST_TOTAL)) xNil))) rvD)) (sSeq (sSet 1 (fC (.int 1))) (sSeq (sFor (fun1L itemsD (fVar 0)) (gNm 2) (sSet 1 (fCallR 3 F_look_number (xV (fop gLcmW (fVar 1) (fFld okc_den "den" (fVar 2))) (xV (fC (.int 1)) (xV (fC (.int gi_MOST_TOTAL_DEN)) xNil))) rvD))) (sRet (fCallR 2 F_P_ratio_lowest (xV (fun1 gSum (fPub (fLc [2] (fun1L itemsD (fVar 0)) (gNm 2) fYes (fop gMulT (fFld okc_num "num" (fVar 2)) (fop gDivP (fVar 1) (fFld okc_den "den" (fVar 2))))))) (xV (fVar 1) xNil)) rvD)))))
def F_M_Ratio_total : DF := runF 3 f_M_Ratio_total
def T_op_add : Str → Option DF := fun c => if c = "Ratio" then some F_M_Ratio_add else none
def T_op_sub : Str → Option DF := fun c => if c = "Ratio" then some F_M_Ratio_sub else none
def T_op_mul : Str → Option DF := fun c => if c = "Ratio" then some F_M_Ratio_mul else none
def T_mt_over : Str → Option DF := fun c => if c = "Ratio" then some F_M_Ratio_over else none
abbrev s_L_told : Stmt := top 36
def N_L_told : List Str := ["_law_kind", "_law_one", "_law_other", "e", "f", "g", "_law_told_here"]
def ps_L_told : List Str := ["_law_kind", "_law_one", "_law_other"]
def f_L_told : J.Env → RS := (sSeq (sTry (sIf (fTest (fop gEq (fVar 0) (fC (.str "read")))) (sSet 6 (fCallR 1 F_M_Ratio_read (xV (fVar 1) xNil) rvD)) (sIf (fTest (fop gEq (fVar 0) (fC (.str "made")))) (sSet 6 (fMake "Ratio" 3 F_M_Ratio_init [] (xV (fVar 1) (xV (fVar 2) xNil)))) (sIf (fTest (fop gEq (fVar 0) (fC (.str "total")))) (sSet 6 (fCallR 1 F_M_Ratio_total (xV (fVar 1) xNil) rvD)) (sIf (fTest (fop gEq (fVar 0) (fC (.str "+")))) (sSet 6 (fBin T_op_add gAdd (fVar 1) (fVar 2))) (sIf (fTest (fop gEq (fVar 0) (fC (.str "-")))) (sSet 6 (fBin T_op_sub gSub (fVar 1) (fVar 2))) (sIf (fTest (fop gEq (fVar 0) (fC (.str "*")))) (sSet 6 (fBin T_op_mul gMulT (fVar 1) (fVar 2))) (sSet 6 (fMeth "over" 2 T_mt_over [] (fVar 1) (xV (fVar 2) xNil))))))))) [⟨exm_TextError, some 3, fun y => (sSeq (sIf (fOr (fNot (fTru (fIsE isx_0 y))) (fTru (fIsE isx_1 y))) (sSeq (sRet (fTup (fCons (fC (.str "odd")) fNil))) sNil) sNil) (sSeq (sIf (fOr (fNot (fTru (fCallR 1 F_L_int (xV (fXf okf_TextError_line y "line") xNil) rvD))) (fNot (fTru (fCallR 1 F_L_int (xV (fXf okf_TextError_column y "column") xNil) rvD)))) (sSeq (sRet (fTup (fCons (fC (.str "odd")) fNil))) sNil) sNil) (sSeq (sRet (fTup (fCons (fC (.str "text")) (fCons (fXf okf_TextError_line y "line") (fCons (fXf okf_TextError_column y "column") fNil))))) sNil)))⟩, ⟨exm_SizeError, some 4, fun y => (sSeq (sIf (fOr (fNot (fTru (fIsE isx_2 y))) (fTru (fIsE isx_3 y))) (sSeq (sRet (fTup (fCons (fC (.str "odd")) fNil))) sNil) sNil) (sSeq (sIf (fNot (fTru (fCallR 1 F_L_int (xV (fXf okf_SizeError_count y "count") xNil) rvD))) (sSeq (sRet (fTup (fCons (fC (.str "odd")) fNil))) sNil) sNil) (sSeq (sRet (fTup (fCons (fC (.str "size")) (fCons (fXf okf_SizeError_count y "count") fNil)))) sNil)))⟩, ⟨exm_NumberError, some 5, fun y => (sSeq (sIf (fOr (fNot (fTru (fIsE isx_4 y))) (fNot (fTru (fIsE isx_5 y)))) (sSeq (sRet (fTup (fCons (fC (.str "odd")) fNil))) sNil) sNil) (sSeq (sIf (fNot (fTru (fCallR 1 F_L_int (xV (fXf okf_NumberError_number y "number") xNil) rvD))) (sSeq (sRet (fTup (fCons (fC (.str "odd")) fNil))) sNil) sNil) (sSeq (sRet (fTup (fCons (fC (.str "number")) (fCons (fXf okf_NumberError_number y "number") fNil)))) sNil)))⟩]) (sRet (fCallR 1 F_L_pair (xV (fVar 6) xNil) rvD)))
def F_L_told : DF := runF 7 f_L_told
abbrev s_L_made : Stmt := top 38
def N_L_made : List Str := ["_law_beyond", "_law_most", "_law_over", "_law_cases", "_law_num", "_law_den", "_law_due"]
def ps_L_made : List Str := ["_law_beyond"]
def f_L_made : J.Env → RS := (sSeq (sSet 1 (fop gPowP (fop gPowP (fC (.int 10)) (fC (.int 50))) (fC (.int 40)))) (sSeq (sSet 2 (fop gAdd (fVar 1) (fVar 0))) (sSeq (sSetL 3 (fLst (fCons (fTup (fCons (fVar 1) (fCons (fC (.int 1)) (fCons (fTup (fCons (fC (.str "ratio")) (fCons (fVar 1) (fCons (fC (.int 1)) fNil)))) fNil)))) fNil))) (sSeq (sApp 3 (fTup (fCons (fun1 gNeg (fVar 1)) (fCons (fVar 1) (fCons (fTup (fCons (fC (.str "ratio")) (fCons (fun1 gNeg (fC (.int 1))) (fCons (fC (.int 1)) fNil)))) fNil))))) (sSeq (sApp 3 (fTup (fCons (fC (.int 0)) (fCons (fVar 1) (fCons (fTup (fCons (fC (.str "ratio")) (fCons (fC (.int 0)) (fCons (fC (.int 1)) fNil)))) fNil))))) (sSeq (sApp 3 (fTup (fCons (fop gSub (fC (.int 1)) (fVar 1)) (fCons (fVar 1) (fCons (fTup (fCons (fC (.str "ratio")) (fCons (fop gSub (fC (.int 1)) (fVar 1)) (fCons (fVar 1) fNil)))) fNil))))) (sSeq (sApp 3 (fTup (fCons (fVar 2) (fCons (fC (.int 1)) (fCons (fTup (fCons (fC (.str "number")) (fCons (fVar 2) fNil))) fNil))))) (sSeq (sApp 3 (fTup (fCons (fun1 gNeg (fVar 2)) (fCons (fC (.int 1)) (fCons (fTup (fCons (fC (.str "number")) (fCons (fun1 gNeg (fVar 2)) fNil))) fNil))))) (sSeq (sApp 3 (fTup (fCons (fC (.int 1)) (fCons (fVar 2) (fCons (fTup (fCons (fC (.str "number")) (fCons (fVar 2) fNil))) fNil))))) (sSeq (sApp 3 (fTup (fCons (fVar 0) (fCons (fC (.int 0)) (fCons (fTup (fCons (fC (.str "number")) (fCons (fC (.int 0)) fNil))) fNil))))) (sSeq (sApp 3 (fTup (fCons (fC (.int 0)) (fCons (fun1 gNeg (fVar 0)) (fCons (fTup (fCons (fC (.str "number")) (fCons (fun1 gNeg (fVar 0)) fNil))) fNil))))) (sSeq (sApp 3 (fTup (fCons (fVar 2) (fCons (fC (.int 0)) (fCons (fTup (fCons (fC (.str "number")) (fCons (fVar 2) fNil))) fNil))))) (sSeq (sApp 3 (fTup (fCons (fop gAdd (fVar 1) (fC (.int 1))) (fCons (fVar 2) (fCons (fTup (fCons (fC (.str "number")) (fCons (fop gAdd (fVar 1) (fC (.int 1))) fNil))) fNil))))) (fun E => (sSeq (sFor (fun1L itemsD (fVar 3)) (gTup2 (gsCons (gNm 4) (gsCons (gNm 5) (gsCons (gNm 6) gsNil)))) (sIf (fTest (fop gNe (fCallR 3 F_L_told (xV (fC (.str "made")) (xV (fVar 4) (xV (fVar 5) xNil))) rvD) (fVar 6))) (sRet (fC (.bl false))) sNil)) (sRet (fC (.bl true)))) (pubE 3 E)))))))))))))))
def F_L_made : DF := runF 7 f_L_made
abbrev s_L_results : Stmt := top 39
def N_L_results : List Str := ["_law_beyond", "_law_most", "_law_over", "_law_great", "_law_least", "_law_fine", "_law_cases", "_law_third", "_law_twice", "_law_kind", "_law_one", "_law_other", "_law_due"]
def ps_L_results : List Str := ["_law_beyond"]
def f_L_results : J.Env → RS := (sSeq (sSet 1 (fop gPowP (fop gPowP (fC (.int 10)) (fC (.int 50))) (fC (.int 40)))) (sSeq (sSet 2 (fop gAdd (fVar 1) (fVar 0))) (sSeq (sSet 3 (fMake "Ratio" 3 F_M_Ratio_init [.int 1] (xV (fVar 1) xNil))) (sSeq (sSet 4 (fMake "Ratio" 3 F_M_Ratio_init [.int 1] (xV (fun1 gNeg (fVar 1)) xNil))) (sSeq (sSet 5 (fMake "Ratio" 3 F_M_Ratio_init [] (xV (fC (.int 1)) (xV (fVar 1) xNil)))) (sSeq (sSetL 6 (fLst (fCons (fTup (fCons (fC (.str "+")) (fCons (fVar 3) (fCons (fVar 0) (fCons (fTup (fCons (fC (.str "number")) (fCons (fVar 2) fNil))) fNil))))) fNil))) (sSeq (sApp 6 (fTup (fCons (fC (.str "-")) (fCons (fVar 4) (fCons (fVar 0) (fCons (fTup (fCons (fC (.str "number")) (fCons (fun1 gNeg (fVar 2)) fNil))) fNil)))))) (sSeq (sApp 6 (fTup (fCons (fC (.str "+")) (fCons (fVar 4) (fCons (fVar 3) (fCons (fTup (fCons (fC (.str "ratio")) (fCons (fC (.int 0)) (fCons (fC (.int 1)) fNil)))) fNil)))))) (sSeq (sApp 6 (fTup (fCons (fC (.str "-")) (fCons (fVar 3) (fCons (fVar 0) (fCons (fTup (fCons (fC (.str "ratio")) (fCons (fop gSub (fVar 1) (fVar 0)) (fCons (fC (.int 1)) fNil)))) fNil)))))) (sSeq (sApp 6 (fTup (fCons (fC (.str "*")) (fCons (fVar 3) (fCons (fun1 gNeg (fC (.int 2))) (fCons (fTup (fCons (fC (.str "number")) (fCons (fop gMulT (fun1 gNeg (fC (.int 2))) (fVar 1)) fNil))) fNil)))))) (sSeq (sApp 6 (fTup (fCons (fC (.str "*")) (fCons (fVar 3) (fCons (fVar 5) (fCons (fTup (fCons (fC (.str "ratio")) (fCons (fC (.int 1)) (fCons (fC (.int 1)) fNil)))) fNil)))))) (sSeq (sApp 6 (fTup (fCons (fC (.str "*")) (fCons (fVar 5) (fCons (fMake "Ratio" 3 F_M_Ratio_init [] (xV (fC (.int 1)) (xV (fC (.int 7)) xNil))) (fCons (fTup (fCons (fC (.str "number")) (fCons (fop gMulT (fC (.int 7)) (fVar 1)) fNil))) fNil)))))) (sSeq (sApp 6 (fTup (fCons (fC (.str "/")) (fCons (fVar 3) (fCons (fMake "Ratio" 3 F_M_Ratio_init [] (xV (fun1 gNeg (fC (.int 1))) (xV (fC (.int 7)) xNil))) (fCons (fTup (fCons (fC (.str "number")) (fCons (fop gMulT (fun1 gNeg (fC (.int 7))) (fVar 1)) fNil))) fNil)))))) (sSeq (sApp 6 (fTup (fCons (fC (.str "/")) (fCons (fVar 5) (fCons (fMake "Ratio" 3 F_M_Ratio_init [] (xV (fC (.int 7)) (xV (fC (.int 2)) xNil))) (fCons (fTup (fCons (fC (.str "number")) (fCons (fop gDivP (fop gMulT (fC (.int 7)) (fVar 1)) (fC (.int 2))) fNil))) fNil)))))) (sSeq (sSet 7 (fMake "Ratio" 3 F_M_Ratio_init [] (xV (fVar 1) (xV (fC (.int 3)) xNil)))) (sSeq (sApp 6 (fTup (fCons (fC (.str "*")) (fCons (fVar 7) (fCons (fMake "Ratio" 3 F_M_Ratio_init [] (xV (fC (.int 7)) (xV (fop gSub (fVar 1) (fC (.int 1))) xNil))) (fCons (fTup (fCons (fC (.str "number")) (fCons (fop gMulT (fC (.int 7)) (fVar 1)) fNil))) fNil)))))) (sSeq (sApp 6 (fTup (fCons (fC (.str "/")) (fCons (fVar 3) (fCons (fMake "Ratio" 3 F_M_Ratio_init [] (xV (fC (.int 0)) (xV (fVar 0) xNil))) (fCons (fTup (fCons (fC (.str "number")) (fCons (fC (.int 0)) fNil))) fNil)))))) (sSeq (sApp 6 (fTup (fCons (fC (.str "+")) (fCons (fMake "Ratio" 3 F_M_Ratio_init [.int 1] (xV (fVar 0) xNil)) (fCons (fVar 2) (fCons (fTup (fCons (fC (.str "number")) (fCons (fVar 2) fNil))) fNil)))))) (sSeq (sApp 6 (fTup (fCons (fC (.str "-")) (fCons (fMake "Ratio" 3 F_M_Ratio_init [.int 1] (xV (fVar 0) xNil)) (fCons (fun1 gNeg (fVar 2)) (fCons (fTup (fCons (fC (.str "number")) (fCons (fun1 gNeg (fVar 2)) fNil))) fNil)))))) (sSeq (sApp 6 (fTup (fCons (fC (.str "*")) (fCons (fMake "Ratio" 3 F_M_Ratio_init [.int 1] (xV (fC (.int 0)) xNil)) (fCons (fVar 2) (fCons (fTup (fCons (fC (.str "number")) (fCons (fVar 2) fNil))) fNil)))))) (sSeq (sApp 6 (fTup (fCons (fC (.str "total")) (fCons (fPub (fLst (fCons (fVar 3) (fCons (fVar 3) (fCons (fVar 4) fNil))))) (fCons (fC .non) (fCons (fTup (fCons (fC (.str "ratio")) (fCons (fVar 1) (fCons (fC (.int 1)) fNil)))) fNil)))))) (sSeq (sSet 8 (fop gAdd (fop gMulT (fop gMulT (fC (.int 2)) (fVar 1)) (fVar 1)) (fC (.int 1)))) (sSeq (sApp 6 (fTup (fCons (fC (.str "total")) (fCons (fPub (fLst (fCons (fVar 3) (fCons (fVar 5) (fCons (fVar 3) fNil))))) (fCons (fC .non) (fCons (fTup (fCons (fC (.str "number")) (fCons (fVar 8) fNil))) fNil)))))) (sSeq (sApp 6 (fTup (fCons (fC (.str "total")) (fCons (fop gMulT (fPub (fLst (fCons (fVar 5) fNil))) (fC (.int 1001))) (fCons (fC .non) (fCons (fTup (fCons (fC (.str "size")) (fCons (fC (.int 1001)) fNil))) fNil)))))) (fun E => (sSeq (sFor (fun1L itemsD (fVar 6)) (gTup2 (gsCons (gNm 9) (gsCons (gNm 10) (gsCons (gNm 11) (gsCons (gNm 12) gsNil))))) (sIf (fTest (fop gNe (fCallR 3 F_L_told (xV (fVar 9) (xV (fVar 10) (xV (fVar 11) xNil))) rvD) (fVar 12))) (sRet (fC (.bl false))) sNil)) (sRet (fC (.bl true)))) (pubE 6 E))))))))))))))))))))))))))
def F_L_results : DF := runF 13 f_L_results
def T_un_neg : Str → Option DF := fun c => if c = "Ratio" then some F_M_Ratio_neg else none
def T_eq_eq : Str → Option DF := fun c => if c = "Ratio" then some F_M_Ratio_eq else none
abbrev s_L_wide_totals : Stmt := top 40
def N_L_wide_totals : List Str := ["_law_beyond", "_law_most", "_law_bound", "_law_dens", "_law_whole", "_law_den", "_law_passed", "_law_k", "_law_part"]
def ps_L_wide_totals : List Str := ["_law_beyond"]
def f_L_wide_totals : J.Env → RS := (sSeq (sSet 1 (fop gPowP (fop gPowP (fC (.int 10)) (fC (.int 50))) (fC (.int 40)))) (sSeq (sSet 2 (fop gPowP (fop gPowP (fop gPowP (fC (.int 10)) (fC (.int 50))) (fC (.int 20))) (fC (.int 10)))) (sSeq (sSet 3 (fBin T_op_add gAdd (fPub (fLc [7] (fun1L itemsD (fPub (fLst (fCons (fC (.int 1)) (fCons (fC (.int 3)) (fCons (fC (.int 5)) (fCons (fC (.int 9)) (fCons (fC (.int 11)) fNil)))))))) (gNm 7) fYes (fBin T_op_sub gSub (fVar 1) (fVar 7)))) (fPub (fLst (fCons (fBin T_op_add gAdd (fC (.int 1)) (fVar 0)) (fCons (fVar 1) fNil)))))) (sSeq (sSet 4 (fC (.int 1))) (sSeq (sFor (fun1L itemsD (fVar 3)) (gNm 5) (sIf (fTest (fop gLe (fVar 4) (fVar 2))) (sSet 4 (fBin T_op_mul gMulT (fop gDivP (fVar 4) (fCallR 2 F_L_common (xV (fVar 4) (xV (fVar 5) xNil)) rvD)) (fVar 5))) sNil)) (sSeq (sSetL 6 (fLc [5] (fun1L itemsD (fVar 3)) (gNm 5) fYes (fMake "Ratio" 3 F_M_Ratio_init [] (xV (fC (.int 1)) (xV (fVar 5) xNil))))) (fun E => (sSeq (sIf (fTest (fop gNe (fCallR 3 F_L_told (xV (fC (.str "total")) (xV (fVar 6) (xV (fC .non) xNil))) rvD) (fTup (fCons (fC (.str "number")) (fCons (fVar 4) fNil))))) (sRet (fC (.bl false))) sNil) (sSeq (sIf (fTest (fop gNe (fCallR 3 F_L_told (xV (fC (.str "total")) (xV (fBin T_op_mul gMulT (fVar 6) (fC (.int 150))) (xV (fC .non) xNil))) rvD) (fTup (fCons (fC (.str "size")) (fCons (fC (.int 1050)) fNil))))) (sRet (fC (.bl false))) sNil) (sSeq (sIf (fTest (fop gLt (fVar 0) (fC (.int 9)))) (sRet (fC (.bl true))) sNil) (sSeq (sSet 6 (fBin T_op_add gAdd (fCut (fVar 6) (fun _ => some none) (fun E => intP ((fun _ => some (.int 5)) E))) (fPub (fLc [8] (fun1L itemsD (fCut (fVar 6) (fun _ => some none) (fun E => intP ((fun _ => some (.int 5)) E)))) (gNm 8) fYes (fUn T_un_neg gNeg (fVar 8)))))) (sRet (fBin T_eq_eq gEq (fCallR 3 F_L_told (xV (fC (.str "total")) (xV (fVar 6) (xV (fC .non) xNil))) rvD) (fTup (fCons (fC (.str "ratio")) (fCons (fC (.int 0)) (fCons (fC (.int 1)) fNil)))))))))) (pubE 6 E))))))))
def F_L_wide_totals : DF := runF 9 f_L_wide_totals
def T_un_str : Str → Option DF := fun c => if c = "Ratio" then some F_M_Ratio_str else none
abbrev s_L_both_ways : Stmt := top 41
def N_L_both_ways : List Str := ["_law_num", "_law_den", "_law_one", "_law_text_here", "_law_told_here"]
def ps_L_both_ways : List Str := ["_law_num", "_law_den"]
def f_L_both_ways : J.Env → RS := (sSeq (sSet 2 (fMake "Ratio" 3 F_M_Ratio_init [] (xV (fVar 0) (xV (fVar 1) xNil)))) (sSeq (sSet 3 (fCallR 2 F_L_text (xV (fVar 0) (xV (fVar 1) xNil)) rvD)) (sSeq (sSet 4 (fStr T_un_str (fVar 2))) (sSeq (sIf (fOr (fNot (fTru (fun1 (gIsi "str") (fVar 4)))) (fTest (fop gNe (fVar 4) (fVar 3)))) (sRet (fC (.bl false))) sNil) (sSeq (sIf (fTest (fop gNe (fCallR 3 F_L_told (xV (fC (.str "read")) (xV (fVar 3) (xV (fC .non) xNil))) rvD) (fTup (fCons (fC (.str "ratio")) (fCons (fVar 0) (fCons (fVar 1) fNil)))))) (sRet (fC (.bl false))) sNil) (sRet (fAndV (fBin T_eq_eq gEq (fCallR 1 F_L_pair (xV (fVar 2) xNil) rvD) (fTup (fCons (fC (.str "ratio")) (fCons (fVar 0) (fCons (fVar 1) fNil))))) (fBin T_eq_eq gEq (fStr T_un_str (fVar 2)) (fVar 3)))))))))
def F_L_both_ways : DF := runF 5 f_L_both_ways
abbrev s_law : Stmt := top 42
def N_law : List Str := ["_law_script", "_law_tape_here", "_law_top", "_law_num", "_law_den", "_law_long", "_law_texts", "_law_sign", "_law_bottom", "_law_base", "_law_k", "_law_text_here", "_law_kind", "_law_due", "_law_beyond"]
def ps_law : List Str := ["_law_script"]
def f_law : J.Env → RS := (sSeq (sSetL 1 (fCallR 1 F_L_tape (xV (fVar 0) xNil) rvL)) (sSeq (sSet 2 (fop gMulT (fop gIx (fPub (fLst (fCons (fC (.int 1)) (fCons (fun1 gNeg (fC (.int 1))) fNil)))) (fCallR 3 F_L_take (xO 1 (xV (fC (.int 2)) (xV (fC (.int 1)) xNil))) rvD)) (fCallR 2 F_L_number (xO 1 (xV (fC (.int 2)) xNil)) rvD))) (sSeq (sAsg (fCallR 2 F_L_lowest (xV (fVar 2) (xV (fop gMax2 (fC (.int 1)) (fCallR 2 F_L_number (xO 1 (xV (fC (.int 4)) xNil)) rvD)) xNil)) rvD) (gTup2 (gsCons (gNm 3) (gsCons (gNm 4) gsNil)))) (sSeq (sIf (fNot (fTru (fCallR 2 F_L_both_ways (xV (fVar 3) (xV (fVar 4) xNil)) rvD))) (sRet (fC (.bl false))) sNil) (sSeq (sSet 5 (fCallR 2 F_L_text (xV (fVar 3) (xV (fVar 4) xNil)) rvD)) (sSeq (sSetL 6 (fLst (fCons (fCallR 3 F_L_spoilt (xO 1 (xV (fVar 5) (xV (fC (.int 3)) xNil))) rvD) (fCons (fCallR 3 F_L_spoilt (xO 1 (xV (fVar 5) (xV (fC (.int 0)) xNil))) rvD) (fCons (fVar 5) fNil))))) (sSeq (sSet 7 (fop gIx (fPub (fLst (fCons (fC (.int 1)) (fCons (fun1 gNeg (fC (.int 1))) fNil)))) (fCallR 3 F_L_take (xO 1 (xV (fC (.int 2)) (xV (fC (.int 1)) xNil))) rvD))) (sSeq (sSet 2 (fop gMulT (fCallR 3 F_L_take (xO 1 (xV (fC (.int 12)) (xV (fC (.int 1)) xNil))) rvD) (fC (.int 12)))) (sSeq (sSet 2 (fop gAdd (fVar 2) (fCallR 3 F_L_take (xO 1 (xV (fC (.int 12)) (xV (fC (.int 2)) xNil))) rvD))) (sSeq (sSet 8 (fop gAdd (fC (.int 1)) (fop gMulT (fCallR 3 F_L_take (xO 1 (xV (fC (.int 12)) (xV (fC (.int 0)) xNil))) rvD) (fC (.int 12))))) (sSeq (sSet 8 (fop gAdd (fVar 8) (fCallR 3 F_L_take (xO 1 (xV (fC (.int 12)) (xV (fC (.int 3)) xNil))) rvD))) (sSeq (sAsg (fCallR 2 F_L_lowest (xV (fop gMulT (fVar 7) (fVar 2)) (xV (fVar 8) xNil)) rvD) (gTup2 (gsCons (gNm 3) (gsCons (gNm 4) gsNil)))) (sSeq (sIf (fNot (fTru (fCallR 2 F_L_both_ways (xV (fVar 3) (xV (fVar 4) xNil)) rvD))) (sRet (fC (.bl false))) sNil) (sSeq (sSet 9 (fCallR 2 F_L_text (xV (fVar 3) (xV (fVar 4) xNil)) rvD)) (sSeq (sApp 6 (fVar 9)) (sSeq (sFor (fRng1 (fC (.int 3))) (gNm 10) (sApp 6 (fCallR 3 F_L_spoilt (xO 1 (xV (fVar 9) (xV (fop gMulT (fC (.int 5)) (fVar 10)) xNil))) rvD))) (sSeq (sApp 6 (fCallR 3 F_L_spoilt (xO 1 (xV (fopB gIx (fBor 6) (fun E => ((fun _ => some (.int 1)) E).bind gNeg)) (xV (fC (.int 7)) xNil))) rvD)) (sSeq (sApp 6 (fVar 9)) (fun E => (sSeq (sFor (fun1L itemsD (fVar 6)) (gNm 11) (sIf (fTest (fop gNe (fCallR 3 F_L_told (xV (fC (.str "read")) (xV (fVar 11) (xV (fC .non) xNil))) rvD) (fCallR 1 F_L_reading (xV (fVar 11) xNil) rvD))) (sRet (fC (.bl false))) sNil)) (sSeq (sSet 12 (fCallR 3 F_L_take (xO 1 (xV (fC (.int 12)) (xV (fC (.int 0)) xNil))) rvD)) (sSeq (sAsg (fCallR 2 F_L_edge (xV (fVar 12) (xV (fop gAdd (fC (.int 1)) (fCallR 3 F_L_take (xO 1 (xV (fC (.int 9)) (xV (fC (.int 0)) xNil))) rvD)) xNil)) rvD) (gTup2 (gsCons (gNm 11) (gsCons (gNm 13) gsNil)))) (sSeq (sIf (fTest (fop gNe (fCallR 3 F_L_told (xV (fC (.str "read")) (xV (fVar 11) (xV (fC .non) xNil))) rvD) (fVar 13))) (sRet (fC (.bl false))) sNil) (sSeq (sSet 14 (fop gAdd (fC (.int 1)) (fCallR 3 F_L_take (xO 1 (xV (fC (.int 12)) (xV (fC (.int 0)) xNil))) rvD))) (sSeq (sIf (fOr (fNot (fTru (fCallR 1 F_L_made (xV (fVar 14) xNil) rvD))) (fNot (fTru (fCallR 1 F_L_results (xV (fVar 14) xNil) rvD)))) (sRet (fC (.bl false))) sNil) (sSeq (sIf (fNot (fTru (fCallR 1 F_L_wide_totals (xV (fVar 14) xNil) rvD))) (sRet (fC (.bl false))) sNil) (sRet (fop gEq (fCallR 3 F_L_told (xV (fC (.str "read")) (xV (fVar 9) (xV (fC .non) xNil))) rvD) (fTup (fCons (fC (.str "ratio")) (fCons (fVar 3) (fCons (fVar 4) fNil))))))))))))) (pubE 6 E))))))))))))))))))))
def F_law : DF := runF 15 f_law
def frs : List Str := (["ValueError", "abs", "bool", "int", "isinstance", "len", "max", "range", "str", "sum", "super"] : List PySem.Str)
structure MF (K : PySem.W.Frag) (mg : Str → Option Value) : Prop where
  fr : ∀ x ∈ frs, mg x = none
  i_MOST : ∃ t, mg "MOST" = some (.int gi_MOST t)
  i_MOST_DIGITS : ∃ t, mg "MOST_DIGITS" = some (.int gi_MOST_DIGITS t)
  i_MOST_SIGNS : ∃ t, mg "MOST_SIGNS" = some (.int gi_MOST_SIGNS t)
  i_MOST_TOTAL : ∃ t, mg "MOST_TOTAL" = some (.int gi_MOST_TOTAL t)
  i_MOST_TOTAL_DEN : ∃ t, mg "MOST_TOTAL_DEN" = some (.int gi_MOST_TOTAL_DEN t)
  s_DIGITS : ∃ t, mg "DIGITS" = some (.str "0123456789" t)
  cl_NodearerError : mg "NodearerError" = some (.ref (He.ga K "NodearerError"))
  cl_NumberError : mg "NumberError" = some (.ref (He.ga K "NumberError"))
  cl_SizeError : mg "SizeError" = some (.ref (He.ga K "SizeError"))
  cl_TextError : mg "TextError" = some (.ref (He.ga K "TextError"))
  exm_TextError : ∀ p ∈ tb_TextError, PySem.W.exmOne K (.ref (He.ga K p.1)) (.ref (He.ga K "TextError")) = some p.2
  exm_SizeError : ∀ p ∈ tb_SizeError, PySem.W.exmOne K (.ref (He.ga K p.1)) (.ref (He.ga K "SizeError")) = some p.2
  exm_NumberError : ∀ p ∈ tb_NumberError, PySem.W.exmOne K (.ref (He.ga K p.1)) (.ref (He.ga K "NumberError")) = some p.2
  fld_NumberError_number : XfC K (He.ga K "NumberError") ∧ PySem.W.findIn K (.ref (He.ga K "NumberError")) "number" = some none
  fld_SizeError_count : XfC K (He.ga K "SizeError") ∧ PySem.W.findIn K (.ref (He.ga K "SizeError")) "count" = some none
  fld_TextError_column : XfC K (He.ga K "TextError") ∧ PySem.W.findIn K (.ref (He.ga K "TextError")) "column" = some none
  fld_TextError_line : XfC K (He.ga K "TextError") ∧ PySem.W.findIn K (.ref (He.ga K "TextError")) "line" = some none
  exc_NumberError : ExcC K (He.ga K "NumberError")
  exc_SizeError : ExcC K (He.ga K "SizeError")
  exc_TextError : ExcC K (He.ga K "TextError")
  kit_0 : PySem.W.kitOne K (.ref (He.ga K "TextError")) (.ref (He.ga K "NodearerError")) = some true
  kit_1 : PySem.W.kitAny K (.ref (He.ga K "TextError")) [.ref (He.ga K "SizeError"), .ref (He.ga K "NumberError")] = some false
  kit_2 : PySem.W.kitOne K (.ref (He.ga K "SizeError")) (.ref (He.ga K "NodearerError")) = some true
  kit_3 : PySem.W.kitOne K (.ref (He.ga K "SizeError")) (.ref (He.ga K "NumberError")) = some false
  kit_4 : PySem.W.kitOne K (.ref (He.ga K "NumberError")) (.ref (He.ga K "NodearerError")) = some true
  kit_5 : PySem.W.kitOne K (.ref (He.ga K "NumberError")) (.type "ValueError") = some true
  dig : digB K = true
  seer : seerB K = true
  fld_den : FldOk K okc_den "den"
  fld_num : FldOk K okc_num "num"
  is_Ratio : IsJ K "Ratio" isT_Ratio isTs
  mgc_Ratio : mg "Ratio" = some (.ref (He.ga K "Ratio"))
  b_gcd : mg "gcd" = some (.builtin "math.gcd")
  b_lcm : mg "lcm" = some (.builtin "math.lcm")
section
variable {P : Program} {w : World} {K : PySem.W.Frag} {mg : Str → Option Value} {base : Heap}
theorem fld_NumberError_number (M : MF K mg) : ∀ c, okf_NumberError_number c = true → XfC K (He.ga K c) ∧ PySem.W.findIn K (.ref (He.ga K c)) "number" = some none := fun c e => by
  have e : c = "NumberError" := by simpa [okf_NumberError_number] using e
  subst e; exact M.fld_NumberError_number
theorem fld_SizeError_count (M : MF K mg) : ∀ c, okf_SizeError_count c = true → XfC K (He.ga K c) ∧ PySem.W.findIn K (.ref (He.ga K c)) "count" = some none := fun c e => by
  have e : c = "SizeError" := by simpa [okf_SizeError_count] using e
  subst e; exact M.fld_SizeError_count
theorem fld_TextError_column (M : MF K mg) : ∀ c, okf_TextError_column c = true → XfC K (He.ga K c) ∧ PySem.W.findIn K (.ref (He.ga K c)) "column" = some none := fun c e => by
  have e : c = "TextError" := by simpa [okf_TextError_column] using e
  subst e; exact M.fld_TextError_column
theorem fld_TextError_line (M : MF K mg) : ∀ c, okf_TextError_line c = true → XfC K (He.ga K c) ∧ PySem.W.findIn K (.ref (He.ga K c)) "line" = some none := fun c e => by
  have e : c = "TextError" := by simpa [okf_TextError_line] using e
  subst e; exact M.fld_TextError_line
theorem isx_0_ok (M : MF K mg) : ∀ c b, isx_0 c = some b → ExcC K (He.ga K c) ∧ ∃ cv, [.ref (He.ga K "NodearerError")] = [cv] ∧ PySem.W.kitOne K (.ref (He.ga K c)) cv = some b := fun c b e => by
  obtain ⟨rfl, rfl⟩ := if_some e
  exact ⟨M.exc_TextError, _, rfl, M.kit_0⟩
theorem isx_1_ok (M : MF K mg) : ∀ c b, isx_1 c = some b → ExcC K (He.ga K c) ∧ PySem.W.kitAny K (.ref (He.ga K c)) [.ref (He.ga K "SizeError"), .ref (He.ga K "NumberError")] = some b := fun c b e => by
  obtain ⟨rfl, rfl⟩ := if_some e
  exact ⟨M.exc_TextError, M.kit_1⟩
theorem isx_2_ok (M : MF K mg) : ∀ c b, isx_2 c = some b → ExcC K (He.ga K c) ∧ ∃ cv, [.ref (He.ga K "NodearerError")] = [cv] ∧ PySem.W.kitOne K (.ref (He.ga K c)) cv = some b := fun c b e => by
  obtain ⟨rfl, rfl⟩ := if_some e
  exact ⟨M.exc_SizeError, _, rfl, M.kit_2⟩
theorem isx_3_ok (M : MF K mg) : ∀ c b, isx_3 c = some b → ExcC K (He.ga K c) ∧ ∃ cv, [.ref (He.ga K "NumberError")] = [cv] ∧ PySem.W.kitOne K (.ref (He.ga K c)) cv = some b := fun c b e => by
  obtain ⟨rfl, rfl⟩ := if_some e
  exact ⟨M.exc_SizeError, _, rfl, M.kit_3⟩
theorem isx_4_ok (M : MF K mg) : ∀ c b, isx_4 c = some b → ExcC K (He.ga K c) ∧ ∃ cv, [.ref (He.ga K "NodearerError")] = [cv] ∧ PySem.W.kitOne K (.ref (He.ga K c)) cv = some b := fun c b e => by
  obtain ⟨rfl, rfl⟩ := if_some e
  exact ⟨M.exc_NumberError, _, rfl, M.kit_4⟩
theorem isx_5_ok (M : MF K mg) : ∀ c b, isx_5 c = some b → ExcC K (He.ga K c) ∧ ∃ cv, [.type "ValueError"] = [cv] ∧ PySem.W.kitOne K (.ref (He.ga K c)) cv = some b := fun c b e => by
  obtain ⟨rfl, rfl⟩ := if_some e
  exact ⟨M.exc_NumberError, _, rfl, M.kit_5⟩
theorem T_op_add_ok {k : Nat} (h_op_Ratio_add : OpJ P w K mg base 7 .Add "Ratio" F_M_Ratio_add) (hk : 7 ≤ k) : ∀ c F, T_op_add c = some F → OpJ P w K mg base k .Add c F := fun c F e => by
  unfold T_op_add at e
  split at e
  · rename_i z; cases e; subst z; exact h_op_Ratio_add.mono (Nat.le_trans (by decide) hk)
  cases e
theorem T_op_sub_ok {k : Nat} (h_op_Ratio_sub : OpJ P w K mg base 7 .Sub "Ratio" F_M_Ratio_sub) (hk : 7 ≤ k) : ∀ c F, T_op_sub c = some F → OpJ P w K mg base k .Sub c F := fun c F e => by
  unfold T_op_sub at e
  split at e
  · rename_i z; cases e; subst z; exact h_op_Ratio_sub.mono (Nat.le_trans (by decide) hk)
  cases e
theorem T_op_mul_ok {k : Nat} (h_op_Ratio_mul : OpJ P w K mg base 7 .Mult "Ratio" F_M_Ratio_mul) (hk : 7 ≤ k) : ∀ c F, T_op_mul c = some F → OpJ P w K mg base k .Mult c F := fun c F e => by
  unfold T_op_mul at e
  split at e
  · rename_i z; cases e; subst z; exact h_op_Ratio_mul.mono (Nat.le_trans (by decide) hk)
  cases e
theorem T_mt_over_ok {k : Nat} (h_mt_Ratio_over_0 : MtJ P w K mg base 7 "over" 2 [] "Ratio" F_M_Ratio_over) (hk : 7 ≤ k) : ∀ c F, T_mt_over c = some F → MtJ P w K mg base k "over" 2 [] c F := fun c F e => by
  unfold T_mt_over at e
  split at e
  · rename_i z; cases e; subst z; exact h_mt_Ratio_over_0.mono (Nat.le_trans (by decide) hk)
  cases e
theorem T_un_neg_ok {k : Nat} (h_un_Ratio_neg : UnJ P w K mg base 6 "__neg__" "Ratio" F_M_Ratio_neg) (hk : 6 ≤ k) : ∀ c F, T_un_neg c = some F → UnJ P w K mg base k "__neg__" c F := fun c F e => by
  unfold T_un_neg at e
  split at e
  · rename_i z; cases e; subst z; exact h_un_Ratio_neg.mono (Nat.le_trans (by decide) hk)
  cases e
theorem T_eq_eq_ok {k : Nat} (h_eq_Ratio : EqJ P w K mg base 1 "Ratio" F_M_Ratio_eq) (hk : 1 ≤ k) : ∀ c F, T_eq_eq c = some F → EqJ P w K mg base k c F := fun c F e => by
  unfold T_eq_eq at e
  split at e
  · rename_i z; cases e; subst z; exact h_eq_Ratio.mono (Nat.le_trans (by decide) hk)
  cases e
theorem T_un_str_ok {k : Nat} (h_un_Ratio_str : UnJ P w K mg base 1 "__str__" "Ratio" F_M_Ratio_str) (hk : 1 ≤ k) : ∀ c F, T_un_str c = some F → UnJ P w K mg base k "__str__" c F := fun c F e => by
  unfold T_un_str at e
  split at e
  · rename_i z; cases e; subst z; exact h_un_Ratio_str.mono (Nat.le_trans (by decide) hk)
  cases e
theorem sc_L_tape : FnScope N_L_tape ps_L_tape (defScope s_L_tape) := ⟨rfl, rfl, rfl, by decide +kernel, rfl, by decide +kernel, by decide +kernel⟩
theorem b_L_tape {fa : Addr} {cdv : Value} {A : Around} {outer : List PySem.Env} {s : Shared} {H : Hp} {E : XK} (M : MF K mg)  (hr : Room 0 (A.deeper (envOfC "_law_tape" (defScope s_L_tape) s.heap.objs.size fa cdv))) (tk : L2N.Takes (cxOf (L2N.CX P w) P w K mg base N_L_tape "_law_tape" (defScope s_L_tape) fa cdv A outer s H E) (fun c d _ H => E c d H)) (hp : PassesOwn (model P w) (cxOf (L2N.CX P w) P w K mg base N_L_tape "_law_tape" (defScope s_L_tape) fa cdv A outer s H E).A (cxOf (L2N.CX P w) P w K mg base N_L_tape "_law_tape" (defScope s_L_tape) fa cdv A outer s H E).env (cxOf (L2N.CX P w) P w K mg base N_L_tape "_law_tape" (defScope s_L_tape) fa cdv A outer s H E).xe) :
    JSs (cxOf (L2N.CX P w) P w K mg base N_L_tape "_law_tape" (defScope s_L_tape) fa cdv A outer s H E) (fun c d _ H => E c d H) (defBody s_L_tape) f_L_tape := by
  have hc : (cxOf (L2N.CX P w) P w K mg base N_L_tape "_law_tape" (defScope s_L_tape) fa cdv A outer s H E).calm = true := rfl
  have hN : (cxOf (L2N.CX P w) P w K mg base N_L_tape "_law_tape" (defScope s_L_tape) fa cdv A outer s H E).N.Nodup := sc_L_tape.nd
  have hu := hr.units
  exact (jss_cons (js_setL 1 hN (jl_lst ja_nil)) (jss_cons (js_for hp hc (ji_seq (j_cut (JE.toO (j_var 0)) jp_none (jp_some jq_int))) (jg_name 2 hN) (jss_cons (js_set 3 hN (j_b1 call_abs c1_abs (M.fr "abs" (by decide +kernel)) (by decide +kernel) (JE.toO (j_var 2)))) (jss_one (js_for hp hc (ji_range1 (M.fr "range" (by decide +kernel)) j_int) (jg_name 4 hN) (jss_one (js_if (jt_cmp op_gt opS_B0 (j_var 3) (JE.toO j_int) (nomark _)) (jss_cons (js_app 1 (j_mod (j_t1 call_int1 c1_int (M.fr "int" (by decide +kernel)) (by decide +kernel) (JE.toO (j_var 3))) (JE.toO j_int))) (jss_one (js_set 3 hN (j_divP (j_var 3) (JE.toO j_int))))) jss_nil)))))) (jss_one (js_retL (jl_rev (j_bor 1))))))
theorem fo_L_tape {fa : Addr} {fd : FuncData} {dvs : List V} (F : FunD K "_law_tape" "_law_tape" (defArgs s_L_tape) (defBody s_L_tape) (defScope s_L_tape) dvs [] fa fd) (M : MF K mg)  : FnOk P w K mg base (L2N.CX P w) 1 fa fd ps_L_tape (spJ K 1 F_L_tape) := by
  obtain ⟨oc, od, dV, kV, doc, pm, an, cdv, ct, osl, rfl, lk, hcd, _, _⟩ := F.ex
  exact fn_J lk hcd sc_L_tape fun A outer s H E hr tk hp => b_L_tape M  hr tk hp
theorem bn_L_tape {fa : Addr} {fd : FuncData} (F : FunD K "_law_tape" "_law_tape" (defArgs s_L_tape) (defBody s_L_tape) (defScope s_L_tape) [] [] fa fd) : Binds K fd ps_L_tape [] := F.bindsN fun _ _ _ _ _ _ us hl => match us, hl with | [_], _ => rfl
theorem sc_L_take : FnScope N_L_take ps_L_take (defScope s_L_take) := ⟨rfl, rfl, rfl, by decide +kernel, rfl, by decide +kernel, by decide +kernel⟩
theorem b_L_take {fa : Addr} {cdv : Value} {A : Around} {outer : List PySem.Env} {s : Shared} {H : Hp} {E : XK} (M : MF K mg)  (hr : Room 0 (A.deeper (envOfC "_law_take" (defScope s_L_take) s.heap.objs.size fa cdv))) (tk : L2N.Takes (cxOf (L2N.CX P w) P w K mg base N_L_take "_law_take" (defScope s_L_take) fa cdv A outer s H E) (fun c d _ H => E c d H)) (hp : PassesOwn (model P w) (cxOf (L2N.CX P w) P w K mg base N_L_take "_law_take" (defScope s_L_take) fa cdv A outer s H E).A (cxOf (L2N.CX P w) P w K mg base N_L_take "_law_take" (defScope s_L_take) fa cdv A outer s H E).env (cxOf (L2N.CX P w) P w K mg base N_L_take "_law_take" (defScope s_L_take) fa cdv A outer s H E).xe) :
    JSs (cxOf (L2N.CX P w) P w K mg base N_L_take "_law_take" (defScope s_L_take) fa cdv A outer s H E) (fun c d _ H => E c d H) (defBody s_L_take) f_L_take := by
  have hc : (cxOf (L2N.CX P w) P w K mg base N_L_take "_law_take" (defScope s_L_take) fa cdv A outer s H E).calm = true := rfl
  have hN : (cxOf (L2N.CX P w) P w K mg base N_L_take "_law_take" (defScope s_L_take) fa cdv A outer s H E).N.Nodup := sc_L_take.nd
  have hu := hr.units
  exact (jss_cons (js_set 3 hN j_int) (jss_cons (js_if (jt_cmp op_gt opS_B0 (j_b1 call_len c1_len (M.fr "len" (by decide +kernel)) (by decide +kernel) (j_bor 0)) (JE.toO j_int) (nomark _)) (jss_one (js_set 3 hN (j_pop 0))) jss_nil) (jss_one (js_ret (j_mod (j_t1 call_int1 c1_int (M.fr "int" (by decide +kernel)) (by decide +kernel) (JE.toO (j_add (j_var 3) (JE.toO (j_var 2))))) (JE.toO (j_var 1)))))))
theorem fo_L_take {fa : Addr} {fd : FuncData} {dvs : List V} (F : FunD K "_law_take" "_law_take" (defArgs s_L_take) (defBody s_L_take) (defScope s_L_take) dvs [] fa fd) (M : MF K mg)  : FnOk P w K mg base (L2N.CX P w) 1 fa fd ps_L_take (spJ K 3 F_L_take) := by
  obtain ⟨oc, od, dV, kV, doc, pm, an, cdv, ct, osl, rfl, lk, hcd, _, _⟩ := F.ex
  exact fn_J lk hcd sc_L_take fun A outer s H E hr tk hp => b_L_take M  hr tk hp
theorem bn_L_take {fa : Addr} {fd : FuncData} (F : FunD K "_law_take" "_law_take" (defArgs s_L_take) (defBody s_L_take) (defScope s_L_take) [] [] fa fd) : Binds K fd ps_L_take [] := F.bindsN fun _ _ _ _ _ _ us hl => match us, hl with | [_, _, _], _ => rfl
theorem sc_L_int : FnScope N_L_int ps_L_int (defScope s_L_int) := ⟨rfl, rfl, rfl, by decide +kernel, rfl, by decide +kernel, by decide +kernel⟩
theorem b_L_int {fa : Addr} {cdv : Value} {A : Around} {outer : List PySem.Env} {s : Shared} {H : Hp} {E : XK} (M : MF K mg)  (hr : Room 0 (A.deeper (envOfC "_law_int" (defScope s_L_int) s.heap.objs.size fa cdv))) (tk : L2N.Takes (cxOf (L2N.CX P w) P w K mg base N_L_int "_law_int" (defScope s_L_int) fa cdv A outer s H E) (fun c d _ H => E c d H)) (hp : PassesOwn (model P w) (cxOf (L2N.CX P w) P w K mg base N_L_int "_law_int" (defScope s_L_int) fa cdv A outer s H E).A (cxOf (L2N.CX P w) P w K mg base N_L_int "_law_int" (defScope s_L_int) fa cdv A outer s H E).env (cxOf (L2N.CX P w) P w K mg base N_L_int "_law_int" (defScope s_L_int) fa cdv A outer s H E).xe) :
    JSs (cxOf (L2N.CX P w) P w K mg base N_L_int "_law_int" (defScope s_L_int) fa cdv A outer s H E) (fun c d _ H => E c d H) (defBody s_L_int) f_L_int := by
  have hc : (cxOf (L2N.CX P w) P w K mg base N_L_int "_law_int" (defScope s_L_int) fa cdv A outer s H E).calm = true := rfl
  have hN : (cxOf (L2N.CX P w) P w K mg base N_L_int "_law_int" (defScope s_L_int) fa cdv A outer s H E).N.Nodup := sc_L_int.nd
  have hu := hr.units
  exact (jss_one (js_ret (j_and (j_isi (T := "int") (M.fr "isinstance" (by decide +kernel)) (M.fr "int" (by decide +kernel)) (by decide +kernel) (JE.toO (j_var 0))) (j_one (j_not (j_isi (T := "bool") (M.fr "isinstance" (by decide +kernel)) (M.fr "bool" (by decide +kernel)) (by decide +kernel) (JE.toO (j_var 0))))))))
theorem fo_L_int {fa : Addr} {fd : FuncData} {dvs : List V} (F : FunD K "_law_int" "_law_int" (defArgs s_L_int) (defBody s_L_int) (defScope s_L_int) dvs [] fa fd) (M : MF K mg)  : FnOk P w K mg base (L2N.CX P w) 1 fa fd ps_L_int (spJ K 1 F_L_int) := by
  obtain ⟨oc, od, dV, kV, doc, pm, an, cdv, ct, osl, rfl, lk, hcd, _, _⟩ := F.ex
  exact fn_J lk hcd sc_L_int fun A outer s H E hr tk hp => b_L_int M  hr tk hp
theorem bn_L_int {fa : Addr} {fd : FuncData} (F : FunD K "_law_int" "_law_int" (defArgs s_L_int) (defBody s_L_int) (defScope s_L_int) [] [] fa fd) : Binds K fd ps_L_int [] := F.bindsN fun _ _ _ _ _ _ us hl => match us, hl with | [_], _ => rfl
theorem bH_L_int {fa : Addr} {cdv : Value} {A : Around} {outer : List PySem.Env} {s : Shared} {H : Hp} {E : XK} {p : Addr × Obj} (M : MF K mg) : JSs (L2H.cxH (L2N.CX P w) P w K mg base N_L_int "_law_int" (defScope s_L_int) fa cdv A outer s H E p) (fun c d _ H => E c d H) (defBody s_L_int) f_L_int := by
  have hN : (L2H.cxH (L2N.CX P w) P w K mg base N_L_int "_law_int" (defScope s_L_int) fa cdv A outer s H E p).N.Nodup := sc_L_int.nd
  exact (jss_one (js_ret (j_and (j_isi (T := "int") (M.fr "isinstance" (by decide +kernel)) (M.fr "int" (by decide +kernel)) (by decide +kernel) (JE.toO (j_var 0))) (j_one (j_not (j_isi (T := "bool") (M.fr "isinstance" (by decide +kernel)) (M.fr "bool" (by decide +kernel)) (by decide +kernel) (JE.toO (j_var 0))))))))
theorem okH_L_int {fa : Addr} {fd : FuncData} (F : FunD K "_law_int" "_law_int" (defArgs s_L_int) (defBody s_L_int) (defScope s_L_int) [] [] fa fd) (gm : mg "_law_int" = some (.ref fa)) (M : MF K mg) : FnHJ P w K mg base 1 "_law_int" 1 F_L_int := by
  have bn := bn_L_int F
  have kp := F.kp
  obtain ⟨oc, od, dV, kV, doc, pm, an, cdv, ct, osl, rfl, lk, hcd, _, _⟩ := F.ex
  exact ⟨fa, _, ps_L_int, gm, kp, rfl, bn, fn_JH lk hcd sc_L_int fun A outer s H E p hr => bH_L_int M⟩
theorem sc_L_common : FnScope N_L_common ps_L_common (defScope s_L_common) := ⟨rfl, rfl, rfl, by decide +kernel, rfl, by decide +kernel, by decide +kernel⟩
theorem b_L_common {fa : Addr} {cdv : Value} {A : Around} {outer : List PySem.Env} {s : Shared} {H : Hp} {E : XK} (M : MF K mg)  (hr : Room 0 (A.deeper (envOfC "_law_common" (defScope s_L_common) s.heap.objs.size fa cdv))) (tk : L2N.Takes (cxOf (L2N.CX P w) P w K mg base N_L_common "_law_common" (defScope s_L_common) fa cdv A outer s H E) (fun c d _ H => E c d H)) (hp : PassesOwn (model P w) (cxOf (L2N.CX P w) P w K mg base N_L_common "_law_common" (defScope s_L_common) fa cdv A outer s H E).A (cxOf (L2N.CX P w) P w K mg base N_L_common "_law_common" (defScope s_L_common) fa cdv A outer s H E).env (cxOf (L2N.CX P w) P w K mg base N_L_common "_law_common" (defScope s_L_common) fa cdv A outer s H E).xe) :
    JSs (cxOf (L2N.CX P w) P w K mg base N_L_common "_law_common" (defScope s_L_common) fa cdv A outer s H E) (fun c d _ H => E c d H) (defBody s_L_common) f_L_common := by
  have hc : (cxOf (L2N.CX P w) P w K mg base N_L_common "_law_common" (defScope s_L_common) fa cdv A outer s H E).calm = true := rfl
  have hN : (cxOf (L2N.CX P w) P w K mg base N_L_common "_law_common" (defScope s_L_common) fa cdv A outer s H E).N.Nodup := sc_L_common.nd
  have hu := hr.units
  exact (jss_cons (js_while fu_L_common_1 hp (jt_cmp (op_neD hu) opS_ne (j_var 1) (JE.toO j_int) (nomark _)) (jss_cons (js_set 2 hN (j_mod (j_t1 call_int1 c1_int (M.fr "int" (by decide +kernel)) (by decide +kernel) (JE.toO (j_var 0))) (JE.toO (j_var 1)))) (jss_cons (js_set 0 hN (j_var 1)) (jss_one (js_set 1 hN (j_var 2)))))) (jss_one (js_ret (j_var 0))))
theorem fo_L_common {fa : Addr} {fd : FuncData} {dvs : List V} (F : FunD K "_law_common" "_law_common" (defArgs s_L_common) (defBody s_L_common) (defScope s_L_common) dvs [] fa fd) (M : MF K mg)  : FnOk P w K mg base (L2N.CX P w) 1 fa fd ps_L_common (spJ K 2 F_L_common) := by
  obtain ⟨oc, od, dV, kV, doc, pm, an, cdv, ct, osl, rfl, lk, hcd, _, _⟩ := F.ex
  exact fn_J lk hcd sc_L_common fun A outer s H E hr tk hp => b_L_common M  hr tk hp
theorem bn_L_common {fa : Addr} {fd : FuncData} (F : FunD K "_law_common" "_law_common" (defArgs s_L_common) (defBody s_L_common) (defScope s_L_common) [] [] fa fd) : Binds K fd ps_L_common [] := F.bindsN fun _ _ _ _ _ _ us hl => match us, hl with | [_, _], _ => rfl
theorem sc_L_text : FnScope N_L_text ps_L_text (defScope s_L_text) := ⟨rfl, rfl, rfl, by decide +kernel, rfl, by decide +kernel, by decide +kernel⟩
theorem b_L_text {fa : Addr} {cdv : Value} {A : Around} {outer : List PySem.Env} {s : Shared} {H : Hp} {E : XK} (M : MF K mg)  (hr : Room 0 (A.deeper (envOfC "_law_text" (defScope s_L_text) s.heap.objs.size fa cdv))) (tk : L2N.Takes (cxOf (L2N.CX P w) P w K mg base N_L_text "_law_text" (defScope s_L_text) fa cdv A outer s H E) (fun c d _ H => E c d H)) (hp : PassesOwn (model P w) (cxOf (L2N.CX P w) P w K mg base N_L_text "_law_text" (defScope s_L_text) fa cdv A outer s H E).A (cxOf (L2N.CX P w) P w K mg base N_L_text "_law_text" (defScope s_L_text) fa cdv A outer s H E).env (cxOf (L2N.CX P w) P w K mg base N_L_text "_law_text" (defScope s_L_text) fa cdv A outer s H E).xe) :
    JSs (cxOf (L2N.CX P w) P w K mg base N_L_text "_law_text" (defScope s_L_text) fa cdv A outer s H E) (fun c d _ H => E c d H) (defBody s_L_text) f_L_text := by
  have hc : (cxOf (L2N.CX P w) P w K mg base N_L_text "_law_text" (defScope s_L_text) fa cdv A outer s H E).calm = true := rfl
  have hN : (cxOf (L2N.CX P w) P w K mg base N_L_text "_law_text" (defScope s_L_text) fa cdv A outer s H E).N.Nodup := sc_L_text.nd
  have hu := hr.units
  exact (jss_cons (js_if (jt_cmp (op_eqD hu) opS_eq (j_var 1) (JE.toO j_int) (nomark _)) (jss_one (js_ret (j_t1 (call_strG M.dig hr) c1_strG (M.fr "str" (by decide +kernel)) (by decide +kernel) (JE.toO (j_var 0))))) jss_nil) (jss_one (js_ret (j_add (j_add (j_t1 (call_strG M.dig hr) c1_strG (M.fr "str" (by decide +kernel)) (by decide +kernel) (JE.toO (j_var 0))) (JE.toO j_str)) (JE.toO (j_t1 (call_strG M.dig hr) c1_strG (M.fr "str" (by decide +kernel)) (by decide +kernel) (JE.toO (j_var 1))))))))
theorem fo_L_text {fa : Addr} {fd : FuncData} {dvs : List V} (F : FunD K "_law_text" "_law_text" (defArgs s_L_text) (defBody s_L_text) (defScope s_L_text) dvs [] fa fd) (M : MF K mg)  : FnOk P w K mg base (L2N.CX P w) 1 fa fd ps_L_text (spJ K 2 F_L_text) := by
  obtain ⟨oc, od, dV, kV, doc, pm, an, cdv, ct, osl, rfl, lk, hcd, _, _⟩ := F.ex
  exact fn_J lk hcd sc_L_text fun A outer s H E hr tk hp => b_L_text M  hr tk hp
theorem bn_L_text {fa : Addr} {fd : FuncData} (F : FunD K "_law_text" "_law_text" (defArgs s_L_text) (defBody s_L_text) (defScope s_L_text) [] [] fa fd) : Binds K fd ps_L_text [] := F.bindsN fun _ _ _ _ _ _ us hl => match us, hl with | [_, _], _ => rfl
theorem sc_L_class : FnScope N_L_class ps_L_class (defScope s_L_class) := ⟨rfl, rfl, rfl, by decide +kernel, rfl, by decide +kernel, by decide +kernel⟩
theorem b_L_class {fa : Addr} {cdv : Value} {A : Around} {outer : List PySem.Env} {s : Shared} {H : Hp} {E : XK} (M : MF K mg)  (hr : Room 0 (A.deeper (envOfC "_law_class" (defScope s_L_class) s.heap.objs.size fa cdv))) (tk : L2N.Takes (cxOf (L2N.CX P w) P w K mg base N_L_class "_law_class" (defScope s_L_class) fa cdv A outer s H E) (fun c d _ H => E c d H)) (hp : PassesOwn (model P w) (cxOf (L2N.CX P w) P w K mg base N_L_class "_law_class" (defScope s_L_class) fa cdv A outer s H E).A (cxOf (L2N.CX P w) P w K mg base N_L_class "_law_class" (defScope s_L_class) fa cdv A outer s H E).env (cxOf (L2N.CX P w) P w K mg base N_L_class "_law_class" (defScope s_L_class) fa cdv A outer s H E).xe) :
    JSs (cxOf (L2N.CX P w) P w K mg base N_L_class "_law_class" (defScope s_L_class) fa cdv A outer s H E) (fun c d _ H => E c d H) (defBody s_L_class) f_L_class := by
  have hc : (cxOf (L2N.CX P w) P w K mg base N_L_class "_law_class" (defScope s_L_class) fa cdv A outer s H E).calm = true := rfl
  have hN : (cxOf (L2N.CX P w) P w K mg base N_L_class "_law_class" (defScope s_L_class) fa cdv A outer s H E).N.Nodup := sc_L_class.nd
  have hu := hr.units
  exact (jss_cons (js_if (jt_cmp (op_eqD hu) opS_eq (j_var 0) (JE.toO j_str) (nomark _)) (jss_one (js_ret j_int)) jss_nil) (jss_cons (js_if (jt_cmp op_inT (opS_inT false) (j_var 0) (JE.toO j_str) rfl) (jss_one (js_ret j_int)) jss_nil) (jss_cons (js_if (jt_cmp (op_eqD hu) opS_eq (j_var 0) (JE.toO j_str) (nomark _)) (jss_one (js_ret j_int)) jss_nil) (jss_cons (js_if (jt_cmp (op_eqD hu) opS_eq (j_var 0) (JE.toO j_str) (nomark _)) (jss_one (js_ret j_int)) jss_nil) (jss_one (js_ret j_int))))))
theorem fo_L_class {fa : Addr} {fd : FuncData} {dvs : List V} (F : FunD K "_law_class" "_law_class" (defArgs s_L_class) (defBody s_L_class) (defScope s_L_class) dvs [] fa fd) (M : MF K mg)  : FnOk P w K mg base (L2N.CX P w) 1 fa fd ps_L_class (spJ K 1 F_L_class) := by
  obtain ⟨oc, od, dV, kV, doc, pm, an, cdv, ct, osl, rfl, lk, hcd, _, _⟩ := F.ex
  exact fn_J lk hcd sc_L_class fun A outer s H E hr tk hp => b_L_class M  hr tk hp
theorem bn_L_class {fa : Addr} {fd : FuncData} (F : FunD K "_law_class" "_law_class" (defArgs s_L_class) (defBody s_L_class) (defScope s_L_class) [] [] fa fd) : Binds K fd ps_L_class [] := F.bindsN fun _ _ _ _ _ _ us hl => match us, hl with | [_], _ => rfl
theorem sc_L_bounded : FnScope N_L_bounded ps_L_bounded (defScope s_L_bounded) := ⟨rfl, rfl, rfl, by decide +kernel, rfl, by decide +kernel, by decide +kernel⟩
theorem b_L_bounded {fa : Addr} {cdv : Value} {A : Around} {outer : List PySem.Env} {s : Shared} {H : Hp} {E : XK} (M : MF K mg)  (hr : Room 0 (A.deeper (envOfC "_law_bounded" (defScope s_L_bounded) s.heap.objs.size fa cdv))) (tk : L2N.Takes (cxOf (L2N.CX P w) P w K mg base N_L_bounded "_law_bounded" (defScope s_L_bounded) fa cdv A outer s H E) (fun c d _ H => E c d H)) (hp : PassesOwn (model P w) (cxOf (L2N.CX P w) P w K mg base N_L_bounded "_law_bounded" (defScope s_L_bounded) fa cdv A outer s H E).A (cxOf (L2N.CX P w) P w K mg base N_L_bounded "_law_bounded" (defScope s_L_bounded) fa cdv A outer s H E).env (cxOf (L2N.CX P w) P w K mg base N_L_bounded "_law_bounded" (defScope s_L_bounded) fa cdv A outer s H E).xe) :
    JSs (cxOf (L2N.CX P w) P w K mg base N_L_bounded "_law_bounded" (defScope s_L_bounded) fa cdv A outer s H E) (fun c d _ H => E c d H) (defBody s_L_bounded) f_L_bounded := by
  have hc : (cxOf (L2N.CX P w) P w K mg base N_L_bounded "_law_bounded" (defScope s_L_bounded) fa cdv A outer s H E).calm = true := rfl
  have hN : (cxOf (L2N.CX P w) P w K mg base N_L_bounded "_law_bounded" (defScope s_L_bounded) fa cdv A outer s H E).N.Nodup := sc_L_bounded.nd
  have hu := hr.units
  exact (jss_cons (js_if (jt_cmp op_gt opS_B0 (j_b1 call_abs c1_abs (M.fr "abs" (by decide +kernel)) (by decide +kernel) (JE.toO (j_var 0))) (JE.toO (j_powP (j_powP j_int (JE.toO j_int)) (JE.toO j_int))) (nomark _)) (jss_one (js_ret (j_tup (ja_cons j_str (ja_cons (j_var 0) ja_nil))))) jss_nil) (jss_cons (js_if (jt_cmp op_gt opS_B0 (j_var 1) (JE.toO (j_powP (j_powP j_int (JE.toO j_int)) (JE.toO j_int))) (nomark _)) (jss_one (js_ret (j_tup (ja_cons j_str (ja_cons (j_var 1) ja_nil))))) jss_nil) (jss_one (js_ret (j_tup (ja_cons j_str (ja_cons (j_var 0) (ja_cons (j_var 1) ja_nil))))))))
theorem fo_L_bounded {fa : Addr} {fd : FuncData} {dvs : List V} (F : FunD K "_law_bounded" "_law_bounded" (defArgs s_L_bounded) (defBody s_L_bounded) (defScope s_L_bounded) dvs [] fa fd) (M : MF K mg)  : FnOk P w K mg base (L2N.CX P w) 1 fa fd ps_L_bounded (spJ K 2 F_L_bounded) := by
  obtain ⟨oc, od, dV, kV, doc, pm, an, cdv, ct, osl, rfl, lk, hcd, _, _⟩ := F.ex
  exact fn_J lk hcd sc_L_bounded fun A outer s H E hr tk hp => b_L_bounded M  hr tk hp
theorem bn_L_bounded {fa : Addr} {fd : FuncData} (F : FunD K "_law_bounded" "_law_bounded" (defArgs s_L_bounded) (defBody s_L_bounded) (defScope s_L_bounded) [] [] fa fd) : Binds K fd ps_L_bounded [] := F.bindsN fun _ _ _ _ _ _ us hl => match us, hl with | [_, _], _ => rfl
theorem sc_L_edge : FnScope N_L_edge ps_L_edge (defScope s_L_edge) := ⟨rfl, rfl, rfl, by decide +kernel, rfl, by decide +kernel, by decide +kernel⟩
theorem b_L_edge {fa : Addr} {cdv : Value} {A : Around} {outer : List PySem.Env} {s : Shared} {H : Hp} {E : XK} (M : MF K mg)  (hr : Room 0 (A.deeper (envOfC "_law_edge" (defScope s_L_edge) s.heap.objs.size fa cdv))) (tk : L2N.Takes (cxOf (L2N.CX P w) P w K mg base N_L_edge "_law_edge" (defScope s_L_edge) fa cdv A outer s H E) (fun c d _ H => E c d H)) (hp : PassesOwn (model P w) (cxOf (L2N.CX P w) P w K mg base N_L_edge "_law_edge" (defScope s_L_edge) fa cdv A outer s H E).A (cxOf (L2N.CX P w) P w K mg base N_L_edge "_law_edge" (defScope s_L_edge) fa cdv A outer s H E).env (cxOf (L2N.CX P w) P w K mg base N_L_edge "_law_edge" (defScope s_L_edge) fa cdv A outer s H E).xe) :
    JSs (cxOf (L2N.CX P w) P w K mg base N_L_edge "_law_edge" (defScope s_L_edge) fa cdv A outer s H E) (fun c d _ H => E c d H) (defBody s_L_edge) f_L_edge := by
  have hc : (cxOf (L2N.CX P w) P w K mg base N_L_edge "_law_edge" (defScope s_L_edge) fa cdv A outer s H E).calm = true := rfl
  have hN : (cxOf (L2N.CX P w) P w K mg base N_L_edge "_law_edge" (defScope s_L_edge) fa cdv A outer s H E).N.Nodup := sc_L_edge.nd
  have hu := hr.units
  exact (jss_cons (js_set 2 hN (j_powP (j_powP j_int (JE.toO j_int)) (JE.toO j_int))) (jss_cons (js_set 3 hN (j_t1 (call_strG M.dig hr) c1_strG (M.fr "str" (by decide +kernel)) (by decide +kernel) (JE.toO (j_var 1)))) (jss_cons (js_if (jt_cmp (op_eqD hu) opS_eq (j_var 0) (JE.toO j_int) (nomark _)) (jss_one (js_ret (j_tup (ja_cons (j_add j_str (JE.toO (j_mulT j_str (JE.toO j_int)))) (ja_cons (j_tup (ja_cons j_str (ja_cons (j_var 2) (ja_cons j_int ja_nil)))) ja_nil))))) jss_nil) (jss_cons (js_if (jt_cmp (op_eqD hu) opS_eq (j_var 0) (JE.toO j_int) (nomark _)) (jss_one (js_ret (j_tup (ja_cons (j_add j_str (JE.toO (j_mulT j_str (JE.toO j_int)))) (ja_cons (j_tup (ja_cons j_str (ja_cons (j_neg (j_var 2)) (ja_cons j_int ja_nil)))) ja_nil))))) jss_nil) (jss_cons (js_if (jt_cmp (op_eqD hu) opS_eq (j_var 0) (JE.toO j_int) (nomark _)) (jss_one (js_ret (j_tup (ja_cons (j_add (j_add j_str (JE.toO (j_mulT j_str (JE.toO j_int)))) (JE.toO (j_var 3))) (ja_cons (j_tup (ja_cons j_str (ja_cons (j_add (j_var 2) (JE.toO (j_var 1))) ja_nil))) ja_nil))))) jss_nil) (jss_cons (js_if (jt_cmp (op_eqD hu) opS_eq (j_var 0) (JE.toO j_int) (nomark _)) (jss_one (js_ret (j_tup (ja_cons (j_add (j_add j_str (JE.toO (j_mulT j_str (JE.toO j_int)))) (JE.toO (j_var 3))) (ja_cons (j_tup (ja_cons j_str (ja_cons (j_sub (j_neg (j_var 2)) (JE.toO (j_var 1))) ja_nil))) ja_nil))))) jss_nil) (jss_cons (js_if (jt_cmp (op_eqD hu) opS_eq (j_var 0) (JE.toO j_int) (nomark _)) (jss_one (js_ret (j_tup (ja_cons (j_mulT (j_var 3) (JE.toO j_int)) (ja_cons (j_tup (ja_cons j_str (ja_cons j_int (ja_cons j_int ja_nil)))) ja_nil))))) jss_nil) (jss_cons (js_if (jt_cmp (op_eqD hu) opS_eq (j_var 0) (JE.toO j_int) (nomark _)) (jss_one (js_ret (j_tup (ja_cons (j_add j_str (JE.toO (j_mulT (j_var 3) (JE.toO j_int)))) (ja_cons (j_tup (ja_cons j_str (ja_cons j_int (ja_cons j_int ja_nil)))) ja_nil))))) jss_nil) (jss_cons (js_if (jt_cmp (op_eqD hu) opS_eq (j_var 0) (JE.toO j_int) (nomark _)) (jss_one (js_ret (j_tup (ja_cons (j_add j_str (JE.toO (j_mulT (j_var 3) (JE.toO j_int)))) (ja_cons (j_tup (ja_cons j_str (ja_cons (j_divP (j_mulT (j_var 1) (JE.toO (j_sub (j_mulT (j_var 2) (JE.toO j_int)) (JE.toO j_int)))) (JE.toO j_int)) ja_nil))) ja_nil))))) jss_nil) (jss_cons (js_if (jt_cmp (op_eqD hu) opS_eq (j_var 0) (JE.toO j_int) (nomark _)) (jss_one (js_ret (j_tup (ja_cons (j_add j_str (JE.toO (j_mulT (j_var 3) (JE.toO j_int)))) (ja_cons (j_tup (ja_cons j_str (ja_cons j_int (ja_cons j_int ja_nil)))) ja_nil))))) jss_nil) (jss_cons (js_if (jt_cmp (op_eqD hu) opS_eq (j_var 0) (JE.toO j_int) (nomark _)) (jss_one (js_ret (j_tup (ja_cons (j_mulT (j_var 3) (JE.toO j_int)) (ja_cons (j_tup (ja_cons j_str (ja_cons j_int (ja_cons j_int ja_nil)))) ja_nil))))) jss_nil) (jss_cons (js_if (jt_cmp (op_eqD hu) opS_eq (j_var 0) (JE.toO j_int) (nomark _)) (jss_one (js_ret (j_tup (ja_cons (j_mulT (j_var 3) (JE.toO j_int)) (ja_cons (j_tup (ja_cons j_str (ja_cons j_int ja_nil))) ja_nil))))) jss_nil) (jss_cons (js_if (jt_cmp (op_eqD hu) opS_eq (j_var 0) (JE.toO j_int) (nomark _)) (jss_one (js_ret (j_tup (ja_cons (j_mulT j_str (JE.toO j_int)) (ja_cons (j_tup (ja_cons j_str (ja_cons j_int (ja_cons j_int ja_nil)))) ja_nil))))) jss_nil) (jss_cons (js_set 4 hN (j_sub (j_add (j_var 2) (JE.toO j_int)) (JE.toO (j_var 1)))) (jss_one (js_ret (j_tup (ja_cons (j_add (j_add (j_t1 (call_strG M.dig hr) c1_strG (M.fr "str" (by decide +kernel)) (by decide +kernel) (JE.toO (j_var 4))) (JE.toO j_str)) (JE.toO (j_t1 (call_strG M.dig hr) c1_strG (M.fr "str" (by decide +kernel)) (by decide +kernel) (JE.toO (j_sub (j_var 4) (JE.toO j_int)))))) (ja_cons (j_tup (ja_cons j_str (ja_cons (j_var 4) (ja_cons (j_sub (j_var 4) (JE.toO j_int)) ja_nil)))) ja_nil)))))))))))))))))))
theorem fo_L_edge {fa : Addr} {fd : FuncData} {dvs : List V} (F : FunD K "_law_edge" "_law_edge" (defArgs s_L_edge) (defBody s_L_edge) (defScope s_L_edge) dvs [] fa fd) (M : MF K mg)  : FnOk P w K mg base (L2N.CX P w) 1 fa fd ps_L_edge (spJ K 2 F_L_edge) := by
  obtain ⟨oc, od, dV, kV, doc, pm, an, cdv, ct, osl, rfl, lk, hcd, _, _⟩ := F.ex
  exact fn_J lk hcd sc_L_edge fun A outer s H E hr tk hp => b_L_edge M  hr tk hp
theorem bn_L_edge {fa : Addr} {fd : FuncData} (F : FunD K "_law_edge" "_law_edge" (defArgs s_L_edge) (defBody s_L_edge) (defScope s_L_edge) [] [] fa fd) : Binds K fd ps_L_edge [] := F.bindsN fun _ _ _ _ _ _ us hl => match us, hl with | [_, _], _ => rfl
theorem sc_M_Ratio_eq : FnScope N_M_Ratio_eq ps_M_Ratio_eq (defScope s_M_Ratio_eq) := ⟨rfl, rfl, rfl, by decide +kernel, rfl, by decide +kernel, by decide +kernel⟩
theorem b_M_Ratio_eq {fa : Addr} {cdv : Value} {A : Around} {outer : List PySem.Env} {s : Shared} {H : Hp} {E : XK} (M : MF K mg)  (hr : Room 0 (A.deeper (envOfC "Ratio.__eq__" (defScope s_M_Ratio_eq) s.heap.objs.size fa cdv))) (tk : L2N.Takes (cxOf (L2N.CX P w) P w K mg base N_M_Ratio_eq "Ratio.__eq__" (defScope s_M_Ratio_eq) fa cdv A outer s H E) (fun c d _ H => E c d H)) (hp : PassesOwn (model P w) (cxOf (L2N.CX P w) P w K mg base N_M_Ratio_eq "Ratio.__eq__" (defScope s_M_Ratio_eq) fa cdv A outer s H E).A (cxOf (L2N.CX P w) P w K mg base N_M_Ratio_eq "Ratio.__eq__" (defScope s_M_Ratio_eq) fa cdv A outer s H E).env (cxOf (L2N.CX P w) P w K mg base N_M_Ratio_eq "Ratio.__eq__" (defScope s_M_Ratio_eq) fa cdv A outer s H E).xe) :
    JSs (cxOf (L2N.CX P w) P w K mg base N_M_Ratio_eq "Ratio.__eq__" (defScope s_M_Ratio_eq) fa cdv A outer s H E) (fun c d _ H => E c d H) (defBody s_M_Ratio_eq) f_M_Ratio_eq := by
  have hc : (cxOf (L2N.CX P w) P w K mg base N_M_Ratio_eq "Ratio.__eq__" (defScope s_M_Ratio_eq) fa cdv A outer s H E).calm = true := rfl
  have hN : (cxOf (L2N.CX P w) P w K mg base N_M_Ratio_eq "Ratio.__eq__" (defScope s_M_Ratio_eq) fa cdv A outer s H E).N.Nodup := sc_M_Ratio_eq.nd
  have hu := hr.units
  exact (jss_one (js_ret (j_and (j_isO M.is_Ratio (M.fr "isinstance" (by decide +kernel)) M.mgc_Ratio (j_var 1)) (j_and (j_cmp (op_eqD hu) opS_eq (j_fld M.fld_num (j_var 0)) (JE.toO (j_fld M.fld_num (j_var 1))) (nomark _)) (j_one (j_cmp (op_eqD hu) opS_eq (j_fld M.fld_den (j_var 0)) (JE.toO (j_fld M.fld_den (j_var 1))) (nomark _)))))))
theorem fo_M_Ratio_eq {fa : Addr} {fd : FuncData} {dvs : List V} (F : FunD K "__eq__" "Ratio.__eq__" (defArgs s_M_Ratio_eq) (defBody s_M_Ratio_eq) (defScope s_M_Ratio_eq) dvs [] fa fd) (M : MF K mg)  : FnOk P w K mg base (L2N.CX P w) 1 fa fd ps_M_Ratio_eq (spJ K 2 F_M_Ratio_eq) := by
  obtain ⟨oc, od, dV, kV, doc, pm, an, cdv, ct, osl, rfl, lk, hcd, _, _⟩ := F.ex
  exact fn_J lk hcd sc_M_Ratio_eq fun A outer s H E hr tk hp => b_M_Ratio_eq M  hr tk hp
theorem bn_M_Ratio_eq {fa : Addr} {fd : FuncData} (F : FunD K "__eq__" "Ratio.__eq__" (defArgs s_M_Ratio_eq) (defBody s_M_Ratio_eq) (defScope s_M_Ratio_eq) [] [] fa fd) : Binds K fd ps_M_Ratio_eq [] := F.bindsN fun _ _ _ _ _ _ us hl => match us, hl with | [_, _], _ => rfl
theorem sc_M_Ratio_str : FnScope N_M_Ratio_str ps_M_Ratio_str (defScope s_M_Ratio_str) := ⟨rfl, rfl, rfl, by decide +kernel, rfl, by decide +kernel, by decide +kernel⟩
theorem b_M_Ratio_str {fa : Addr} {cdv : Value} {A : Around} {outer : List PySem.Env} {s : Shared} {H : Hp} {E : XK} (M : MF K mg)  (hr : Room 0 (A.deeper (envOfC "Ratio.__str__" (defScope s_M_Ratio_str) s.heap.objs.size fa cdv))) (tk : L2N.Takes (cxOf (L2N.CX P w) P w K mg base N_M_Ratio_str "Ratio.__str__" (defScope s_M_Ratio_str) fa cdv A outer s H E) (fun c d _ H => E c d H)) (hp : PassesOwn (model P w) (cxOf (L2N.CX P w) P w K mg base N_M_Ratio_str "Ratio.__str__" (defScope s_M_Ratio_str) fa cdv A outer s H E).A (cxOf (L2N.CX P w) P w K mg base N_M_Ratio_str "Ratio.__str__" (defScope s_M_Ratio_str) fa cdv A outer s H E).env (cxOf (L2N.CX P w) P w K mg base N_M_Ratio_str "Ratio.__str__" (defScope s_M_Ratio_str) fa cdv A outer s H E).xe) :
    JSs (cxOf (L2N.CX P w) P w K mg base N_M_Ratio_str "Ratio.__str__" (defScope s_M_Ratio_str) fa cdv A outer s H E) (fun c d _ H => E c d H) (defBody s_M_Ratio_str) f_M_Ratio_str := by
  have hc : (cxOf (L2N.CX P w) P w K mg base N_M_Ratio_str "Ratio.__str__" (defScope s_M_Ratio_str) fa cdv A outer s H E).calm = true := rfl
  have hN : (cxOf (L2N.CX P w) P w K mg base N_M_Ratio_str "Ratio.__str__" (defScope s_M_Ratio_str) fa cdv A outer s H E).N.Nodup := sc_M_Ratio_str.nd
  have hu := hr.units
  exact (jss_cons (js_if (jt_cmp (op_eqD hu) opS_eq (j_fld M.fld_den (j_var 0)) (JE.toO j_int) (nomark _)) (jss_one (js_ret (j_t1 (call_strG M.dig hr) c1_strG (M.fr "str" (by decide +kernel)) (by decide +kernel) (JE.toO (j_fld M.fld_num (j_var 0)))))) jss_nil) (jss_one (js_ret (j_joined (jj_cons (j_fmt M.dig hr (j_fld M.fld_num (j_var 0))) (jj_cons j_str (jj_cons (j_fmt M.dig hr (j_fld M.fld_den (j_var 0))) jj_nil)))))))
theorem fo_M_Ratio_str {fa : Addr} {fd : FuncData} {dvs : List V} (F : FunD K "__str__" "Ratio.__str__" (defArgs s_M_Ratio_str) (defBody s_M_Ratio_str) (defScope s_M_Ratio_str) dvs [] fa fd) (M : MF K mg)  : FnOk P w K mg base (L2N.CX P w) 1 fa fd ps_M_Ratio_str (spJ K 1 F_M_Ratio_str) := by
  obtain ⟨oc, od, dV, kV, doc, pm, an, cdv, ct, osl, rfl, lk, hcd, _, _⟩ := F.ex
  exact fn_J lk hcd sc_M_Ratio_str fun A outer s H E hr tk hp => b_M_Ratio_str M  hr tk hp
theorem bn_M_Ratio_str {fa : Addr} {fd : FuncData} (F : FunD K "__str__" "Ratio.__str__" (defArgs s_M_Ratio_str) (defBody s_M_Ratio_str) (defScope s_M_Ratio_str) [] [] fa fd) : Binds K fd ps_M_Ratio_str [] := F.bindsN fun _ _ _ _ _ _ us hl => match us, hl with | [_], _ => rfl
theorem sc_L_number : FnScope N_L_number ps_L_number (defScope s_L_number) := ⟨rfl, rfl, rfl, by decide +kernel, rfl, by decide +kernel, by decide +kernel⟩
theorem b_L_number {fa : Addr} {cdv : Value} {A : Around} {outer : List PySem.Env} {s : Shared} {H : Hp} {E : XK} (M : MF K mg) (h_L_take : FnJ P w K mg base 1 "_law_take" 3 F_L_take) (hr : Room 1 (A.deeper (envOfC "_law_number" (defScope s_L_number) s.heap.objs.size fa cdv))) (tk : L2N.Takes (cxOf (L2N.CX P w) P w K mg base N_L_number "_law_number" (defScope s_L_number) fa cdv A outer s H E) (fun c d _ H => E c d H)) (hp : PassesOwn (model P w) (cxOf (L2N.CX P w) P w K mg base N_L_number "_law_number" (defScope s_L_number) fa cdv A outer s H E).A (cxOf (L2N.CX P w) P w K mg base N_L_number "_law_number" (defScope s_L_number) fa cdv A outer s H E).env (cxOf (L2N.CX P w) P w K mg base N_L_number "_law_number" (defScope s_L_number) fa cdv A outer s H E).xe) :
    JSs (cxOf (L2N.CX P w) P w K mg base N_L_number "_law_number" (defScope s_L_number) fa cdv A outer s H E) (fun c d _ H => E c d H) (defBody s_L_number) f_L_number := by
  have hc : (cxOf (L2N.CX P w) P w K mg base N_L_number "_law_number" (defScope s_L_number) fa cdv A outer s H E).calm = true := rfl
  have hN : (cxOf (L2N.CX P w) P w K mg base N_L_number "_law_number" (defScope s_L_number) fa cdv A outer s H E).N.Nodup := sc_L_number.nd
  have hu := hr.units
  exact (jss_cons (js_set 2 hN (j_call (h_L_take.mono (by decide : 1 ≤ 1)) hr tk (jx_o 0 (jx_v j_int (jx_v (j_var 1) jx_nil))))) (jss_cons (js_set 3 hN j_int) (jss_cons (js_for hp hc (ji_range1 (M.fr "range" (by decide +kernel)) (j_ix (JL.toE (jl_lst (ja_cons j_int (ja_cons j_int (ja_cons j_int (ja_cons j_int (ja_cons j_int (ja_cons j_int (ja_cons j_int (ja_cons j_int (ja_cons j_int (ja_cons j_int (ja_cons j_int (ja_cons j_int ja_nil)))))))))))))) (JE.toO (j_var 2)))) (jg_name 4 hN) (jss_one (js_set 3 hN (j_add (j_mulT (j_var 3) (JE.toO j_int)) (JE.toO (j_call (h_L_take.mono (by decide : 1 ≤ 1)) hr tk (jx_o 0 (jx_v j_int (jx_v (j_add (j_var 1) (JE.toO (j_mulT j_int (JE.toO (j_var 4))))) jx_nil))))))))) (jss_cons (js_if (jt_cmp (op_eqD hu) opS_eq (j_var 2) (JE.toO j_int) (nomark _)) (jss_one (js_ret (j_sub (j_powP (j_powP j_int (JE.toO j_int)) (JE.toO j_int)) (JE.toO (j_var 3))))) jss_nil) (jss_cons (js_if (jt_cmp (op_eqD hu) opS_eq (j_var 2) (JE.toO j_int) (nomark _)) (jss_one (js_ret (j_add (j_powP (j_powP j_int (JE.toO j_int)) (JE.toO j_int)) (JE.toO (j_var 3))))) jss_nil) (jss_cons (js_if (jt_cmp (op_eqD hu) opS_eq (j_var 2) (JE.toO j_int) (nomark _)) (jss_one (js_ret (j_sub (j_powP (j_powP j_int (JE.toO j_int)) (JE.toO j_int)) (JE.toO (j_var 3))))) jss_nil) (jss_one (js_ret (j_var 3)))))))))
theorem fo_L_number {fa : Addr} {fd : FuncData} {dvs : List V} (F : FunD K "_law_number" "_law_number" (defArgs s_L_number) (defBody s_L_number) (defScope s_L_number) dvs [] fa fd) (M : MF K mg) (h_L_take : FnJ P w K mg base 1 "_law_take" 3 F_L_take) : FnOk P w K mg base (L2N.CX P w) 2 fa fd ps_L_number (spJ K 2 F_L_number) := by
  obtain ⟨oc, od, dV, kV, doc, pm, an, cdv, ct, osl, rfl, lk, hcd, _, _⟩ := F.ex
  exact fn_J lk hcd sc_L_number fun A outer s H E hr tk hp => b_L_number M h_L_take hr tk hp
theorem bn_L_number {fa : Addr} {fd : FuncData} (F : FunD K "_law_number" "_law_number" (defArgs s_L_number) (defBody s_L_number) (defScope s_L_number) [] [] fa fd) : Binds K fd ps_L_number [] := F.bindsN fun _ _ _ _ _ _ us hl => match us, hl with | [_, _], _ => rfl
theorem sc_L_lowest : FnScope N_L_lowest ps_L_lowest (defScope s_L_lowest) := ⟨rfl, rfl, rfl, by decide +kernel, rfl, by decide +kernel, by decide +kernel⟩
theorem b_L_lowest {fa : Addr} {cdv : Value} {A : Around} {outer : List PySem.Env} {s : Shared} {H : Hp} {E : XK} (M : MF K mg) (h_L_common : FnJ P w K mg base 1 "_law_common" 2 F_L_common) (hr : Room 1 (A.deeper (envOfC "_law_lowest" (defScope s_L_lowest) s.heap.objs.size fa cdv))) (tk : L2N.Takes (cxOf (L2N.CX P w) P w K mg base N_L_lowest "_law_lowest" (defScope s_L_lowest) fa cdv A outer s H E) (fun c d _ H => E c d H)) (hp : PassesOwn (model P w) (cxOf (L2N.CX P w) P w K mg base N_L_lowest "_law_lowest" (defScope s_L_lowest) fa cdv A outer s H E).A (cxOf (L2N.CX P w) P w K mg base N_L_lowest "_law_lowest" (defScope s_L_lowest) fa cdv A outer s H E).env (cxOf (L2N.CX P w) P w K mg base N_L_lowest "_law_lowest" (defScope s_L_lowest) fa cdv A outer s H E).xe) :
    JSs (cxOf (L2N.CX P w) P w K mg base N_L_lowest "_law_lowest" (defScope s_L_lowest) fa cdv A outer s H E) (fun c d _ H => E c d H) (defBody s_L_lowest) f_L_lowest := by
  have hc : (cxOf (L2N.CX P w) P w K mg base N_L_lowest "_law_lowest" (defScope s_L_lowest) fa cdv A outer s H E).calm = true := rfl
  have hN : (cxOf (L2N.CX P w) P w K mg base N_L_lowest "_law_lowest" (defScope s_L_lowest) fa cdv A outer s H E).N.Nodup := sc_L_lowest.nd
  have hu := hr.units
  exact (jss_cons (js_set 2 hN (j_call (h_L_common.mono (by decide : 1 ≤ 1)) hr tk (jx_v (j_b1 call_abs c1_abs (M.fr "abs" (by decide +kernel)) (by decide +kernel) (JE.toO (j_var 0))) (jx_v (j_var 1) jx_nil)))) (jss_one (js_ret (j_tup (ja_cons (j_divP (j_var 0) (JE.toO (j_var 2))) (ja_cons (j_divP (j_var 1) (JE.toO (j_var 2))) ja_nil))))))
theorem fo_L_lowest {fa : Addr} {fd : FuncData} {dvs : List V} (F : FunD K "_law_lowest" "_law_lowest" (defArgs s_L_lowest) (defBody s_L_lowest) (defScope s_L_lowest) dvs [] fa fd) (M : MF K mg) (h_L_common : FnJ P w K mg base 1 "_law_common" 2 F_L_common) : FnOk P w K mg base (L2N.CX P w) 2 fa fd ps_L_lowest (spJ K 2 F_L_lowest) := by
  obtain ⟨oc, od, dV, kV, doc, pm, an, cdv, ct, osl, rfl, lk, hcd, _, _⟩ := F.ex
  exact fn_J lk hcd sc_L_lowest fun A outer s H E hr tk hp => b_L_lowest M h_L_common hr tk hp
theorem bn_L_lowest {fa : Addr} {fd : FuncData} (F : FunD K "_law_lowest" "_law_lowest" (defArgs s_L_lowest) (defBody s_L_lowest) (defScope s_L_lowest) [] [] fa fd) : Binds K fd ps_L_lowest [] := F.bindsN fun _ _ _ _ _ _ us hl => match us, hl with | [_, _], _ => rfl
theorem sc_L_character : FnScope N_L_character ps_L_character (defScope s_L_character) := ⟨rfl, rfl, rfl, by decide +kernel, rfl, by decide +kernel, by decide +kernel⟩
theorem b_L_character {fa : Addr} {cdv : Value} {A : Around} {outer : List PySem.Env} {s : Shared} {H : Hp} {E : XK} (M : MF K mg) (h_L_take : FnJ P w K mg base 1 "_law_take" 3 F_L_take) (hr : Room 1 (A.deeper (envOfC "_law_character" (defScope s_L_character) s.heap.objs.size fa cdv))) (tk : L2N.Takes (cxOf (L2N.CX P w) P w K mg base N_L_character "_law_character" (defScope s_L_character) fa cdv A outer s H E) (fun c d _ H => E c d H)) (hp : PassesOwn (model P w) (cxOf (L2N.CX P w) P w K mg base N_L_character "_law_character" (defScope s_L_character) fa cdv A outer s H E).A (cxOf (L2N.CX P w) P w K mg base N_L_character "_law_character" (defScope s_L_character) fa cdv A outer s H E).env (cxOf (L2N.CX P w) P w K mg base N_L_character "_law_character" (defScope s_L_character) fa cdv A outer s H E).xe) :
    JSs (cxOf (L2N.CX P w) P w K mg base N_L_character "_law_character" (defScope s_L_character) fa cdv A outer s H E) (fun c d _ H => E c d H) (defBody s_L_character) f_L_character := by
  have hc : (cxOf (L2N.CX P w) P w K mg base N_L_character "_law_character" (defScope s_L_character) fa cdv A outer s H E).calm = true := rfl
  have hN : (cxOf (L2N.CX P w) P w K mg base N_L_character "_law_character" (defScope s_L_character) fa cdv A outer s H E).N.Nodup := sc_L_character.nd
  have hu := hr.units
  exact (jss_cons (js_if (jt_cmp (op_eqD hu) opS_eq (j_call (h_L_take.mono (by decide : 1 ≤ 1)) hr tk (jx_o 0 (jx_v j_int (jx_v (j_var 1) jx_nil)))) (JE.toO j_int) (nomark _)) (jss_one (js_ret (j_ix j_str (JE.toO (j_call (h_L_take.mono (by decide : 1 ≤ 1)) hr tk (jx_o 0 (jx_v j_int (jx_v (j_var 1) jx_nil)))))))) jss_nil) (jss_cons (js_set 2 hN (j_mulT (j_call (h_L_take.mono (by decide : 1 ≤ 1)) hr tk (jx_o 0 (jx_v j_int (jx_v (j_var 1) jx_nil)))) (JE.toO j_int))) (jss_cons (js_set 2 hN (j_add (j_var 2) (JE.toO (j_call (h_L_take.mono (by decide : 1 ≤ 1)) hr tk (jx_o 0 (jx_v j_int (jx_v (j_var 1) jx_nil))))))) (jss_cons (js_set 3 hN j_str) (jss_cons (js_set 3 hN (j_add (j_var 3) (JE.toO j_str))) (jss_one (js_ret (j_ix (j_var 3) (JE.toO (j_mod (j_t1 call_int1 c1_int (M.fr "int" (by decide +kernel)) (by decide +kernel) (JE.toO (j_var 2))) (JE.toO j_int)))))))))))
theorem fo_L_character {fa : Addr} {fd : FuncData} {dvs : List V} (F : FunD K "_law_character" "_law_character" (defArgs s_L_character) (defBody s_L_character) (defScope s_L_character) dvs [] fa fd) (M : MF K mg) (h_L_take : FnJ P w K mg base 1 "_law_take" 3 F_L_take) : FnOk P w K mg base (L2N.CX P w) 2 fa fd ps_L_character (spJ K 2 F_L_character) := by
  obtain ⟨oc, od, dV, kV, doc, pm, an, cdv, ct, osl, rfl, lk, hcd, _, _⟩ := F.ex
  exact fn_J lk hcd sc_L_character fun A outer s H E hr tk hp => b_L_character M h_L_take hr tk hp
theorem bn_L_character {fa : Addr} {fd : FuncData} (F : FunD K "_law_character" "_law_character" (defArgs s_L_character) (defBody s_L_character) (defScope s_L_character) [] [] fa fd) : Binds K fd ps_L_character [] := F.bindsN fun _ _ _ _ _ _ us hl => match us, hl with | [_, _], _ => rfl
theorem sc_L_reading : FnScope N_L_reading ps_L_reading (defScope s_L_reading) := ⟨rfl, rfl, rfl, by decide +kernel, rfl, by decide +kernel, by decide +kernel⟩
theorem b_L_reading {fa : Addr} {cdv : Value} {A : Around} {outer : List PySem.Env} {s : Shared} {H : Hp} {E : XK} (M : MF K mg) (h_L_bounded : FnJ P w K mg base 1 "_law_bounded" 2 F_L_bounded) (h_L_class : FnJ P w K mg base 1 "_law_class" 1 F_L_class) (h_L_common : FnJ P w K mg base 1 "_law_common" 2 F_L_common) (hr : Room 1 (A.deeper (envOfC "_law_reading" (defScope s_L_reading) s.heap.objs.size fa cdv))) (tk : L2N.Takes (cxOf (L2N.CX P w) P w K mg base N_L_reading "_law_reading" (defScope s_L_reading) fa cdv A outer s H E) (fun c d _ H => E c d H)) (hp : PassesOwn (model P w) (cxOf (L2N.CX P w) P w K mg base N_L_reading "_law_reading" (defScope s_L_reading) fa cdv A outer s H E).A (cxOf (L2N.CX P w) P w K mg base N_L_reading "_law_reading" (defScope s_L_reading) fa cdv A outer s H E).env (cxOf (L2N.CX P w) P w K mg base N_L_reading "_law_reading" (defScope s_L_reading) fa cdv A outer s H E).xe) :
    JSs (cxOf (L2N.CX P w) P w K mg base N_L_reading "_law_reading" (defScope s_L_reading) fa cdv A outer s H E) (fun c d _ H => E c d H) (defBody s_L_reading) f_L_reading := by
  have hc : (cxOf (L2N.CX P w) P w K mg base N_L_reading "_law_reading" (defScope s_L_reading) fa cdv A outer s H E).calm = true := rfl
  have hN : (cxOf (L2N.CX P w) P w K mg base N_L_reading "_law_reading" (defScope s_L_reading) fa cdv A outer s H E).N.Nodup := sc_L_reading.nd
  have hu := hr.units
  exact (jss_cons (js_set 1 hN (JL.toE (jl_lst (ja_cons (JL.toE (jl_lst (ja_cons j_int (ja_cons j_int (ja_cons (j_neg j_int) (ja_cons j_int (ja_cons (j_neg j_int) ja_nil))))))) (ja_cons (JL.toE (jl_lst (ja_cons (j_neg j_int) (ja_cons j_int (ja_cons (j_neg j_int) (ja_cons (j_neg j_int) (ja_cons (j_neg j_int) ja_nil))))))) (ja_cons (JL.toE (jl_lst (ja_cons (j_neg j_int) (ja_cons (j_neg j_int) (ja_cons (j_neg j_int) (ja_cons (j_neg j_int) (ja_cons (j_neg j_int) ja_nil))))))) ja_nil)))))) (jss_cons (js_set 1 hN (j_add (j_var 1) (JE.toO (JL.toE (jl_lst (ja_cons (JL.toE (jl_lst (ja_cons j_int (ja_cons j_int (ja_cons j_int (ja_cons (j_neg j_int) (ja_cons (j_neg j_int) ja_nil))))))) (ja_cons (JL.toE (jl_lst (ja_cons (j_neg j_int) (ja_cons j_int (ja_cons (j_neg j_int) (ja_cons (j_neg j_int) (ja_cons (j_neg j_int) ja_nil))))))) (ja_cons (JL.toE (jl_lst (ja_cons j_int (ja_cons j_int (ja_cons (j_neg j_int) (ja_cons (j_neg j_int) (ja_cons (j_neg j_int) ja_nil))))))) ja_nil)))))))) (jss_cons (js_set 2 hN j_int) (jss_cons (js_set 3 hN j_int) (jss_cons (js_setL 4 hN (jl_lst (ja_cons j_int (ja_cons j_int ja_nil)))) (jss_cons (js_setL 5 hN (jl_lst (ja_cons j_int (ja_cons j_int ja_nil)))) (jss_cons (js_for hp hc (ji_range1 (M.fr "range" (by decide +kernel)) (j_b1 call_len c1_len (M.fr "len" (by decide +kernel)) (by decide +kernel) (JE.toO (j_var 0)))) (jg_name 6 hN) (jss_cons (js_set 2 hN (j_ix (j_ix (j_var 1) (JE.toO (j_var 2))) (JE.toO (j_call (h_L_class.mono (by decide : 1 ≤ 1)) hr tk (jx_v (j_ix (j_var 0) (JE.toO (j_var 6))) jx_nil))))) (jss_cons (js_if (jt_cmp (op_eqD hu) opS_eq (j_var 2) (JE.toO j_int) (nomark _)) (jss_one (js_set 3 hN (j_neg j_int))) jss_nil) (jss_cons (js_if (JW.t (jw_or (jt_cmp (op_eqD hu) opS_eq (j_var 2) (JE.toO j_int) (nomark _)) (jw_or (jt_cmp (op_eqD hu) opS_eq (j_var 2) (JE.toO j_int) (nomark _)) (jw_or1 (jt_cmp (op_eqD hu) opS_eq (j_var 2) (JE.toO j_int) (nomark _)))))) (jss_cons (js_set 7 hN (j_t1 call_int1 c1_int (M.fr "int" (by decide +kernel)) (by decide +kernel) (JE.toO (j_cmp (op_eqD hu) opS_eq (j_var 2) (JE.toO j_int) (nomark _))))) (jss_cons (js_setIx 4 (j_add (j_mulT (j_ixB (j_bor 4) (jq_var 7)) (JE.toO j_int)) (JE.toO (j_find j_str (j_ix (j_var 0) (JE.toO (j_var 6)))))) (j_var 7)) (jss_one (js_setIx 5 (j_add (j_ixB (j_bor 5) (jq_var 7)) (JE.toO j_int)) (j_var 7))))) jss_nil) (jss_one (js_if (JW.t (jw_or (jt_cmp op_lt opS_B0 (j_var 2) (JE.toO j_int) (nomark _)) (jw_or (jt_cmp op_gt opS_B0 (j_ixB (j_bor 5) jq_int) (JE.toO j_int) (nomark _)) (jw_or1 (jt_cmp op_gt opS_B0 (j_ixB (j_bor 5) jq_int) (JE.toO j_int) (nomark _)))))) (jss_one (js_ret (j_tup (ja_cons j_str (ja_cons j_int (ja_cons (j_add (j_var 6) (JE.toO j_int)) ja_nil)))))) jss_nil)))))) (jss_cons (js_if (JW.t (jw_or (jt_cmp (op_eqD hu) opS_eq (j_var 2) (JE.toO j_int) (nomark _)) (jw_or1 (jt_cmp (op_eqD hu) opS_eq (j_var 2) (JE.toO j_int) (nomark _))))) (jss_one (js_ret (j_call (h_L_bounded.mono (by decide : 1 ≤ 1)) hr tk (jx_v (j_mulT (j_var 3) (JE.toO (j_ixB (j_bor 4) jq_int))) (jx_v j_int jx_nil))))) jss_nil) (jss_cons (js_if (JW.t (jw_and (jt_cmp (op_eqD hu) opS_eq (j_var 2) (JE.toO j_int) (nomark _)) (jw_and1 (jt_cmp op_gt opS_B0 (j_ixB (j_bor 4) jq_int) (JE.toO j_int) (nomark _))))) (jss_one (js_if (jt_cmp (op_eqD hu) opS_eq (j_call (h_L_common.mono (by decide : 1 ≤ 1)) hr tk (jx_v (j_ixB (j_bor 4) jq_int) (jx_v (j_ixB (j_bor 4) jq_int) jx_nil))) (JE.toO j_int) (nomark _)) (jss_one (js_ret (j_call (h_L_bounded.mono (by decide : 1 ≤ 1)) hr tk (jx_v (j_mulT (j_var 3) (JE.toO (j_ixB (j_bor 4) jq_int))) (jx_v (j_ixB (j_bor 4) jq_int) jx_nil))))) jss_nil)) jss_nil) (jss_one (js_ret (j_tup (ja_cons j_str (ja_cons j_int (ja_cons (j_add (j_b1 call_len c1_len (M.fr "len" (by decide +kernel)) (by decide +kernel) (JE.toO (j_var 0))) (JE.toO j_int)) ja_nil)))))))))))))))
theorem fo_L_reading {fa : Addr} {fd : FuncData} {dvs : List V} (F : FunD K "_law_reading" "_law_reading" (defArgs s_L_reading) (defBody s_L_reading) (defScope s_L_reading) dvs [] fa fd) (M : MF K mg) (h_L_bounded : FnJ P w K mg base 1 "_law_bounded" 2 F_L_bounded) (h_L_class : FnJ P w K mg base 1 "_law_class" 1 F_L_class) (h_L_common : FnJ P w K mg base 1 "_law_common" 2 F_L_common) : FnOk P w K mg base (L2N.CX P w) 2 fa fd ps_L_reading (spJ K 1 F_L_reading) := by
  obtain ⟨oc, od, dV, kV, doc, pm, an, cdv, ct, osl, rfl, lk, hcd, _, _⟩ := F.ex
  exact fn_J lk hcd sc_L_reading fun A outer s H E hr tk hp => b_L_reading M h_L_bounded h_L_class h_L_common hr tk hp
theorem bn_L_reading {fa : Addr} {fd : FuncData} (F : FunD K "_law_reading" "_law_reading" (defArgs s_L_reading) (defBody s_L_reading) (defScope s_L_reading) [] [] fa fd) : Binds K fd ps_L_reading [] := F.bindsN fun _ _ _ _ _ _ us hl => match us, hl with | [_], _ => rfl
theorem sc_L_pair : FnScope N_L_pair ps_L_pair (defScope s_L_pair) := ⟨rfl, rfl, rfl, by decide +kernel, rfl, by decide +kernel, by decide +kernel⟩
theorem b_L_pair {fa : Addr} {cdv : Value} {A : Around} {outer : List PySem.Env} {s : Shared} {H : Hp} {E : XK} (M : MF K mg) (h_L_int : FnJ P w K mg base 1 "_law_int" 1 F_L_int) (hH_L_int : FnHJ P w K mg base 1 "_law_int" 1 F_L_int) (hr : Room 1 (A.deeper (envOfC "_law_pair" (defScope s_L_pair) s.heap.objs.size fa cdv))) (tk : L2N.Takes (cxOf (L2N.CX P w) P w K mg base N_L_pair "_law_pair" (defScope s_L_pair) fa cdv A outer s H E) (fun c d _ H => E c d H)) (hp : PassesOwn (model P w) (cxOf (L2N.CX P w) P w K mg base N_L_pair "_law_pair" (defScope s_L_pair) fa cdv A outer s H E).A (cxOf (L2N.CX P w) P w K mg base N_L_pair "_law_pair" (defScope s_L_pair) fa cdv A outer s H E).env (cxOf (L2N.CX P w) P w K mg base N_L_pair "_law_pair" (defScope s_L_pair) fa cdv A outer s H E).xe) :
    JSs (cxOf (L2N.CX P w) P w K mg base N_L_pair "_law_pair" (defScope s_L_pair) fa cdv A outer s H E) (fun c d _ H => E c d H) (defBody s_L_pair) f_L_pair := by
  have hc : (cxOf (L2N.CX P w) P w K mg base N_L_pair "_law_pair" (defScope s_L_pair) fa cdv A outer s H E).calm = true := rfl
  have hN : (cxOf (L2N.CX P w) P w K mg base N_L_pair "_law_pair" (defScope s_L_pair) fa cdv A outer s H E).N.Nodup := sc_L_pair.nd
  have hu := hr.units
  exact (jss_cons (js_if (jt_not (jt_tru (JE.toO (j_isO M.is_Ratio (M.fr "isinstance" (by decide +kernel)) M.mgc_Ratio (j_var 0))))) (jss_one (js_ret (j_tup (ja_cons j_str ja_nil)))) jss_nil) (jss_cons (js_if (JW.t (jw_or (jt_not (jt_tru (JE.toO (j_call (h_L_int.mono (by decide : 1 ≤ 1)) hr tk (jx_v (j_fld M.fld_num (j_var 0)) jx_nil))))) (jw_or1 (jt_not (jt_tru (JE.toO (j_call (h_L_int.mono (by decide : 1 ≤ 1)) hr tk (jx_v (j_fld M.fld_den (j_var 0)) jx_nil)))))))) (jss_one (js_ret (j_tup (ja_cons j_str ja_nil)))) jss_nil) (jss_one (js_ret (j_tup (ja_cons j_str (ja_cons (j_fld M.fld_num (j_var 0)) (ja_cons (j_fld M.fld_den (j_var 0)) ja_nil))))))))
theorem fo_L_pair {fa : Addr} {fd : FuncData} {dvs : List V} (F : FunD K "_law_pair" "_law_pair" (defArgs s_L_pair) (defBody s_L_pair) (defScope s_L_pair) dvs [] fa fd) (M : MF K mg) (h_L_int : FnJ P w K mg base 1 "_law_int" 1 F_L_int) (hH_L_int : FnHJ P w K mg base 1 "_law_int" 1 F_L_int) : FnOk P w K mg base (L2N.CX P w) 2 fa fd ps_L_pair (spJ K 1 F_L_pair) := by
  obtain ⟨oc, od, dV, kV, doc, pm, an, cdv, ct, osl, rfl, lk, hcd, _, _⟩ := F.ex
  exact fn_J lk hcd sc_L_pair fun A outer s H E hr tk hp => b_L_pair M h_L_int hH_L_int hr tk hp
theorem bn_L_pair {fa : Addr} {fd : FuncData} (F : FunD K "_law_pair" "_law_pair" (defArgs s_L_pair) (defBody s_L_pair) (defScope s_L_pair) [] [] fa fd) : Binds K fd ps_L_pair [] := F.bindsN fun _ _ _ _ _ _ us hl => match us, hl with | [_], _ => rfl
theorem sc_look_number : FnScope N_look_number ps_look_number (defScope s_look_number) := ⟨rfl, rfl, rfl, by decide +kernel, rfl, by decide +kernel, by decide +kernel⟩
theorem b_look_number {fa : Addr} {cdv : Value} {A : Around} {outer : List PySem.Env} {s : Shared} {H : Hp} {E : XK} (M : MF K mg) (e_NumberError : ExcJ P w K mg base 1 "NumberError" 1 Fx_NumberError) (hr : Room 2 (A.deeper (envOfC "look_number" (defScope s_look_number) s.heap.objs.size fa cdv))) (tk : L2N.Takes (cxOf (L2N.CX P w) P w K mg base N_look_number "look_number" (defScope s_look_number) fa cdv A outer s H E) (fun c d _ H => E c d H)) (hp : PassesOwn (model P w) (cxOf (L2N.CX P w) P w K mg base N_look_number "look_number" (defScope s_look_number) fa cdv A outer s H E).A (cxOf (L2N.CX P w) P w K mg base N_look_number "look_number" (defScope s_look_number) fa cdv A outer s H E).env (cxOf (L2N.CX P w) P w K mg base N_look_number "look_number" (defScope s_look_number) fa cdv A outer s H E).xe) :
    JSs (cxOf (L2N.CX P w) P w K mg base N_look_number "look_number" (defScope s_look_number) fa cdv A outer s H E) (fun c d _ H => E c d H) (defBody s_look_number) f_look_number := by
  have hc : (cxOf (L2N.CX P w) P w K mg base N_look_number "look_number" (defScope s_look_number) fa cdv A outer s H E).calm = true := rfl
  have hN : (cxOf (L2N.CX P w) P w K mg base N_look_number "look_number" (defScope s_look_number) fa cdv A outer s H E).N.Nodup := sc_look_number.nd
  have hu := hr.units
  exact (jss_cons (js_if (JW.t (jw_or (jt_cmp op_lt opS_B0 (j_var 0) (JE.toO (j_var 1)) (nomark _)) (jw_or1 (jt_cmp op_gt opS_B0 (j_var 0) (JE.toO (j_var 2)) (nomark _))))) (jss_one (js_raise hc tk e_NumberError (hr.mono (by decide)) (ja_cons (j_var 0) ja_nil))) jss_nil) (jss_one (js_ret (j_var 0))))
theorem fo_look_number {fa : Addr} {fd : FuncData} {dvs : List V} (F : FunD K "look_number" "look_number" (defArgs s_look_number) (defBody s_look_number) (defScope s_look_number) dvs [] fa fd) (M : MF K mg) (e_NumberError : ExcJ P w K mg base 1 "NumberError" 1 Fx_NumberError) : FnOk P w K mg base (L2N.CX P w) 3 fa fd ps_look_number (spJ K 3 F_look_number) := by
  obtain ⟨oc, od, dV, kV, doc, pm, an, cdv, ct, osl, rfl, lk, hcd, _, _⟩ := F.ex
  exact fn_J lk hcd sc_look_number fun A outer s H E hr tk hp => b_look_number M e_NumberError hr tk hp
theorem bn_look_number {fa : Addr} {fd : FuncData} (F : FunD K "look_number" "look_number" (defArgs s_look_number) (defBody s_look_number) (defScope s_look_number) [] [] fa fd) : Binds K fd ps_look_number [] := F.bindsN fun _ _ _ _ _ _ us hl => match us, hl with | [_, _, _], _ => rfl
theorem sc_look_size : FnScope N_look_size ps_look_size (defScope s_look_size) := ⟨rfl, rfl, rfl, by decide +kernel, rfl, by decide +kernel, by decide +kernel⟩
theorem b_look_size {fa : Addr} {cdv : Value} {A : Around} {outer : List PySem.Env} {s : Shared} {H : Hp} {E : XK} (M : MF K mg) (e_SizeError : ExcJ P w K mg base 1 "SizeError" 1 Fx_SizeError) (hr : Room 2 (A.deeper (envOfC "look_size" (defScope s_look_size) s.heap.objs.size fa cdv))) (tk : L2N.Takes (cxOf (L2N.CX P w) P w K mg base N_look_size "look_size" (defScope s_look_size) fa cdv A outer s H E) (fun c d _ H => E c d H)) (hp : PassesOwn (model P w) (cxOf (L2N.CX P w) P w K mg base N_look_size "look_size" (defScope s_look_size) fa cdv A outer s H E).A (cxOf (L2N.CX P w) P w K mg base N_look_size "look_size" (defScope s_look_size) fa cdv A outer s H E).env (cxOf (L2N.CX P w) P w K mg base N_look_size "look_size" (defScope s_look_size) fa cdv A outer s H E).xe) :
    JSs (cxOf (L2N.CX P w) P w K mg base N_look_size "look_size" (defScope s_look_size) fa cdv A outer s H E) (fun c d _ H => E c d H) (defBody s_look_size) f_look_size := by
  have hc : (cxOf (L2N.CX P w) P w K mg base N_look_size "look_size" (defScope s_look_size) fa cdv A outer s H E).calm = true := rfl
  have hN : (cxOf (L2N.CX P w) P w K mg base N_look_size "look_size" (defScope s_look_size) fa cdv A outer s H E).N.Nodup := sc_look_size.nd
  have hu := hr.units
  exact (jss_cons (js_set 3 hN (j_b1 call_len c1_len (M.fr "len" (by decide +kernel)) (by decide +kernel) (JE.toO (j_var 0)))) (jss_cons (js_if (JW.t (jw_or (jt_cmp op_lt opS_B0 (j_var 3) (JE.toO (j_var 1)) (nomark _)) (jw_or1 (jt_cmp op_gt opS_B0 (j_var 3) (JE.toO (j_var 2)) (nomark _))))) (jss_one (js_raise hc tk e_SizeError (hr.mono (by decide)) (ja_cons (j_var 3) ja_nil))) jss_nil) (jss_one (js_ret (j_var 0)))))
theorem fo_look_size {fa : Addr} {fd : FuncData} {dvs : List V} (F : FunD K "look_size" "look_size" (defArgs s_look_size) (defBody s_look_size) (defScope s_look_size) dvs [] fa fd) (M : MF K mg) (e_SizeError : ExcJ P w K mg base 1 "SizeError" 1 Fx_SizeError) : FnOk P w K mg base (L2N.CX P w) 3 fa fd ps_look_size (spJ K 3 F_look_size) := by
  obtain ⟨oc, od, dV, kV, doc, pm, an, cdv, ct, osl, rfl, lk, hcd, _, _⟩ := F.ex
  exact fn_J lk hcd sc_look_size fun A outer s H E hr tk hp => b_look_size M e_SizeError hr tk hp
theorem bn_look_size {fa : Addr} {fd : FuncData} (F : FunD K "look_size" "look_size" (defArgs s_look_size) (defBody s_look_size) (defScope s_look_size) [] [] fa fd) : Binds K fd ps_look_size [] := F.bindsN fun _ _ _ _ _ _ us hl => match us, hl with | [_, _, _], _ => rfl
theorem sc_P_behind_digits : FnScope N_P_behind_digits ps_P_behind_digits (defScope s_P_behind_digits) := ⟨rfl, rfl, rfl, by decide +kernel, rfl, by decide +kernel, by decide +kernel⟩
theorem b_P_behind_digits {fa : Addr} {cdv : Value} {A : Around} {outer : List PySem.Env} {s : Shared} {H : Hp} {E : XK} (M : MF K mg) (e_TextError : ExcJ P w K mg base 1 "TextError" 2 Fx_TextError) (hr : Room 2 (A.deeper (envOfC "_behind_digits" (defScope s_P_behind_digits) s.heap.objs.size fa cdv))) (tk : L2N.Takes (cxOf (L2N.CX P w) P w K mg base N_P_behind_digits "_behind_digits" (defScope s_P_behind_digits) fa cdv A outer s H E) (fun c d _ H => E c d H)) (hp : PassesOwn (model P w) (cxOf (L2N.CX P w) P w K mg base N_P_behind_digits "_behind_digits" (defScope s_P_behind_digits) fa cdv A outer s H E).A (cxOf (L2N.CX P w) P w K mg base N_P_behind_digits "_behind_digits" (defScope s_P_behind_digits) fa cdv A outer s H E).env (cxOf (L2N.CX P w) P w K mg base N_P_behind_digits "_behind_digits" (defScope s_P_behind_digits) fa cdv A outer s H E).xe) :
    JSs (cxOf (L2N.CX P w) P w K mg base N_P_behind_digits "_behind_digits" (defScope s_P_behind_digits) fa cdv A outer s H E) (fun c d _ H => E c d H) (defBody s_P_behind_digits) f_P_behind_digits := by
  have hc : (cxOf (L2N.CX P w) P w K mg base N_P_behind_digits "_behind_digits" (defScope s_P_behind_digits) fa cdv A outer s H E).calm = true := rfl
  have hN : (cxOf (L2N.CX P w) P w K mg base N_P_behind_digits "_behind_digits" (defScope s_P_behind_digits) fa cdv A outer s H E).N.Nodup := sc_P_behind_digits.nd
  have hu := hr.units
  exact (jss_cons (js_if (JW.t (jw_or (jt_cmp (op_eqD hu) opS_eq (j_var 1) (JE.toO (j_b1 call_len c1_len (M.fr "len" (by decide +kernel)) (by decide +kernel) (JE.toO (j_var 0)))) (nomark _)) (jw_or1 (jt_cmp op_notInT (opS_inT true) (j_ix (j_var 0) (JE.toO (j_var 1))) (JE.toO (j_gstr M.s_DIGITS)) rfl)))) (jss_one (js_raise hc tk e_TextError (hr.mono (by decide)) (ja_cons j_int (ja_cons (j_add (j_var 1) (JE.toO j_int)) ja_nil)))) jss_nil) (jss_cons (js_if (jt_cmp (op_eqD hu) opS_eq (j_ix (j_var 0) (JE.toO (j_var 1))) (JE.toO j_str) (nomark _)) (jss_one (js_ret (j_add (j_var 1) (JE.toO j_int)))) jss_nil) (jss_cons (js_set 2 hN (j_add (j_var 1) (JE.toO j_int))) (jss_cons (js_while fu_P_behind_digits_1 hp (JW.t (jw_and (jt_cmp op_lt opS_B0 (j_var 2) (JE.toO (j_b1 call_len c1_len (M.fr "len" (by decide +kernel)) (by decide +kernel) (JE.toO (j_var 0)))) (nomark _)) (jw_and (jt_cmp op_lt opS_B0 (j_sub (j_var 2) (JE.toO (j_var 1))) (JE.toO (j_gint M.i_MOST_DIGITS)) (nomark _)) (jw_and1 (jt_cmp op_inT (opS_inT false) (j_ix (j_var 0) (JE.toO (j_var 2))) (JE.toO (j_gstr M.s_DIGITS)) rfl))))) (jss_one (js_augI 2 ip_add hN j_int))) (jss_one (js_ret (j_var 2)))))))
theorem fo_P_behind_digits {fa : Addr} {fd : FuncData} {dvs : List V} (F : FunD K "_behind_digits" "_behind_digits" (defArgs s_P_behind_digits) (defBody s_P_behind_digits) (defScope s_P_behind_digits) dvs [] fa fd) (M : MF K mg) (e_TextError : ExcJ P w K mg base 1 "TextError" 2 Fx_TextError) : FnOk P w K mg base (L2N.CX P w) 3 fa fd ps_P_behind_digits (spJ K 2 F_P_behind_digits) := by
  obtain ⟨oc, od, dV, kV, doc, pm, an, cdv, ct, osl, rfl, lk, hcd, _, _⟩ := F.ex
  exact fn_J lk hcd sc_P_behind_digits fun A outer s H E hr tk hp => b_P_behind_digits M e_TextError hr tk hp
theorem bn_P_behind_digits {fa : Addr} {fd : FuncData} (F : FunD K "_behind_digits" "_behind_digits" (defArgs s_P_behind_digits) (defBody s_P_behind_digits) (defScope s_P_behind_digits) [] [] fa fd) : Binds K fd ps_P_behind_digits [] := F.bindsN fun _ _ _ _ _ _ us hl => match us, hl with | [_, _], _ => rfl
theorem sc_L_spoilt : FnScope N_L_spoilt ps_L_spoilt (defScope s_L_spoilt) := ⟨rfl, rfl, rfl, by decide +kernel, rfl, by decide +kernel, by decide +kernel⟩
theorem b_L_spoilt {fa : Addr} {cdv : Value} {A : Around} {outer : List PySem.Env} {s : Shared} {H : Hp} {E : XK} (M : MF K mg) (h_L_take : FnJ P w K mg base 1 "_law_take" 3 F_L_take) (h_L_character : FnJ P w K mg base 2 "_law_character" 2 F_L_character) (hr : Room 2 (A.deeper (envOfC "_law_spoilt" (defScope s_L_spoilt) s.heap.objs.size fa cdv))) (tk : L2N.Takes (cxOf (L2N.CX P w) P w K mg base N_L_spoilt "_law_spoilt" (defScope s_L_spoilt) fa cdv A outer s H E) (fun c d _ H => E c d H)) (hp : PassesOwn (model P w) (cxOf (L2N.CX P w) P w K mg base N_L_spoilt "_law_spoilt" (defScope s_L_spoilt) fa cdv A outer s H E).A (cxOf (L2N.CX P w) P w K mg base N_L_spoilt "_law_spoilt" (defScope s_L_spoilt) fa cdv A outer s H E).env (cxOf (L2N.CX P w) P w K mg base N_L_spoilt "_law_spoilt" (defScope s_L_spoilt) fa cdv A outer s H E).xe) :
    JSs (cxOf (L2N.CX P w) P w K mg base N_L_spoilt "_law_spoilt" (defScope s_L_spoilt) fa cdv A outer s H E) (fun c d _ H => E c d H) (defBody s_L_spoilt) f_L_spoilt := by
  have hc : (cxOf (L2N.CX P w) P w K mg base N_L_spoilt "_law_spoilt" (defScope s_L_spoilt) fa cdv A outer s H E).calm = true := rfl
  have hN : (cxOf (L2N.CX P w) P w K mg base N_L_spoilt "_law_spoilt" (defScope s_L_spoilt) fa cdv A outer s H E).N.Nodup := sc_L_spoilt.nd
  have hu := hr.units
  exact (jss_cons (js_set 3 hN (j_call (h_L_take.mono (by decide : 1 ≤ 2)) hr tk (jx_o 0 (jx_v j_int (jx_v (j_var 2) jx_nil))))) (jss_cons (js_set 4 hN (j_call (h_L_take.mono (by decide : 1 ≤ 2)) hr tk (jx_o 0 (jx_v j_int (jx_v (j_add (j_var 2) (JE.toO j_int)) jx_nil))))) (jss_cons (js_if (jt_cmp op_lt opS_B0 (j_b1 call_len c1_len (M.fr "len" (by decide +kernel)) (by decide +kernel) (JE.toO (j_var 1))) (JE.toO j_int) (nomark _)) (jss_one (js_set 4 hN (j_mod (j_t1 call_int1 c1_int (M.fr "int" (by decide +kernel)) (by decide +kernel) (JE.toO (j_var 4))) (JE.toO (j_add (j_b1 call_len c1_len (M.fr "len" (by decide +kernel)) (by decide +kernel) (JE.toO (j_var 1))) (JE.toO j_int)))))) (jss_one (js_set 4 hN (j_b2 (call_max2 hc) c2_I (M.fr "max" (by decide +kernel)) (by decide +kernel) j_int (JE.toO (j_sub (j_divP (j_mulT (j_b1 call_len c1_len (M.fr "len" (by decide +kernel)) (by decide +kernel) (JE.toO (j_var 1))) (JE.toO (j_var 4))) (JE.toO j_int)) (JE.toO (j_call (h_L_take.mono (by decide : 1 ≤ 2)) hr tk (jx_o 0 (jx_v j_int (jx_v (j_var 2) jx_nil))))))))))) (jss_cons (js_set 5 hN (j_call (h_L_character.mono (by decide : 2 ≤ 2)) hr tk (jx_o 0 (jx_v (j_var 2) jx_nil)))) (jss_cons (js_if (jt_cmp (op_eqD hu) opS_eq (j_var 3) (JE.toO j_int) (nomark _)) (jss_one (js_ret (j_add (j_add (j_cut (JE.toO (j_var 1)) jp_none (jp_some (jq_var 4))) (JE.toO (j_var 5))) (JE.toO (j_cut (JE.toO (j_var 1)) (jp_some (jq_var 4)) jp_none))))) jss_nil) (jss_cons (js_if (jt_cmp (op_eqD hu) opS_eq (j_var 3) (JE.toO j_int) (nomark _)) (jss_one (js_ret (j_add (j_add (j_cut (JE.toO (j_var 1)) jp_none (jp_some (jq_var 4))) (JE.toO (j_var 5))) (JE.toO (j_cut (JE.toO (j_var 1)) (jp_some (jq_add (jq_var 4) jq_int)) jp_none))))) jss_nil) (jss_cons (js_if (jt_cmp (op_eqD hu) opS_eq (j_var 3) (JE.toO j_int) (nomark _)) (jss_one (js_ret (j_add (j_cut (JE.toO (j_var 1)) jp_none (jp_some (jq_var 4))) (JE.toO (j_cut (JE.toO (j_var 1)) (jp_some (jq_add (jq_var 4) jq_int)) jp_none))))) jss_nil) (jss_one (js_ret (j_cut (JE.toO (j_var 1)) jp_none (jp_some (jq_var 4))))))))))))
theorem fo_L_spoilt {fa : Addr} {fd : FuncData} {dvs : List V} (F : FunD K "_law_spoilt" "_law_spoilt" (defArgs s_L_spoilt) (defBody s_L_spoilt) (defScope s_L_spoilt) dvs [] fa fd) (M : MF K mg) (h_L_take : FnJ P w K mg base 1 "_law_take" 3 F_L_take) (h_L_character : FnJ P w K mg base 2 "_law_character" 2 F_L_character) : FnOk P w K mg base (L2N.CX P w) 3 fa fd ps_L_spoilt (spJ K 3 F_L_spoilt) := by
  obtain ⟨oc, od, dV, kV, doc, pm, an, cdv, ct, osl, rfl, lk, hcd, _, _⟩ := F.ex
  exact fn_J lk hcd sc_L_spoilt fun A outer s H E hr tk hp => b_L_spoilt M h_L_take h_L_character hr tk hp
theorem bn_L_spoilt {fa : Addr} {fd : FuncData} (F : FunD K "_law_spoilt" "_law_spoilt" (defArgs s_L_spoilt) (defBody s_L_spoilt) (defScope s_L_spoilt) [] [] fa fd) : Binds K fd ps_L_spoilt [] := F.bindsN fun _ _ _ _ _ _ us hl => match us, hl with | [_, _, _], _ => rfl
theorem sc_P_ratio_parts : FnScope N_P_ratio_parts ps_P_ratio_parts (defScope s_P_ratio_parts) := ⟨rfl, rfl, rfl, by decide +kernel, rfl, by decide +kernel, by decide +kernel⟩
theorem b_P_ratio_parts {fa : Addr} {cdv : Value} {A : Around} {outer : List PySem.Env} {s : Shared} {H : Hp} {E : XK} (M : MF K mg) (h_look_number : FnJ P w K mg base 3 "look_number" 3 F_look_number) (hr : Room 3 (A.deeper (envOfC "_ratio_parts" (defScope s_P_ratio_parts) s.heap.objs.size fa cdv))) (tk : L2N.Takes (cxOf (L2N.CX P w) P w K mg base N_P_ratio_parts "_ratio_parts" (defScope s_P_ratio_parts) fa cdv A outer s H E) (fun c d _ H => E c d H)) (hp : PassesOwn (model P w) (cxOf (L2N.CX P w) P w K mg base N_P_ratio_parts "_ratio_parts" (defScope s_P_ratio_parts) fa cdv A outer s H E).A (cxOf (L2N.CX P w) P w K mg base N_P_ratio_parts "_ratio_parts" (defScope s_P_ratio_parts) fa cdv A outer s H E).env (cxOf (L2N.CX P w) P w K mg base N_P_ratio_parts "_ratio_parts" (defScope s_P_ratio_parts) fa cdv A outer s H E).xe) :
    JSs (cxOf (L2N.CX P w) P w K mg base N_P_ratio_parts "_ratio_parts" (defScope s_P_ratio_parts) fa cdv A outer s H E) (fun c d _ H => E c d H) (defBody s_P_ratio_parts) f_P_ratio_parts := by
  have hc : (cxOf (L2N.CX P w) P w K mg base N_P_ratio_parts "_ratio_parts" (defScope s_P_ratio_parts) fa cdv A outer s H E).calm = true := rfl
  have hN : (cxOf (L2N.CX P w) P w K mg base N_P_ratio_parts "_ratio_parts" (defScope s_P_ratio_parts) fa cdv A outer s H E).N.Nodup := sc_P_ratio_parts.nd
  have hu := hr.units
  exact (jss_cons (js_if (jt_tru (JE.toO (j_isO M.is_Ratio (M.fr "isinstance" (by decide +kernel)) M.mgc_Ratio (j_var 0)))) (jss_one (js_ret (j_tup (ja_cons (j_fld M.fld_num (j_var 0)) (ja_cons (j_fld M.fld_den (j_var 0)) ja_nil))))) jss_nil) (jss_one (js_ret (j_tup (ja_cons (j_call (h_look_number.mono (by decide : 3 ≤ 3)) hr tk (jx_v (j_var 0) (jx_v (j_neg (j_gint M.i_MOST)) (jx_v (j_gint M.i_MOST) jx_nil)))) (ja_cons j_int ja_nil))))))
theorem fo_P_ratio_parts {fa : Addr} {fd : FuncData} {dvs : List V} (F : FunD K "_ratio_parts" "_ratio_parts" (defArgs s_P_ratio_parts) (defBody s_P_ratio_parts) (defScope s_P_ratio_parts) dvs [] fa fd) (M : MF K mg) (h_look_number : FnJ P w K mg base 3 "look_number" 3 F_look_number) : FnOk P w K mg base (L2N.CX P w) 4 fa fd ps_P_ratio_parts (spJ K 1 F_P_ratio_parts) := by
  obtain ⟨oc, od, dV, kV, doc, pm, an, cdv, ct, osl, rfl, lk, hcd, _, _⟩ := F.ex
  exact fn_J lk hcd sc_P_ratio_parts fun A outer s H E hr tk hp => b_P_ratio_parts M h_look_number hr tk hp
theorem bn_P_ratio_parts {fa : Addr} {fd : FuncData} (F : FunD K "_ratio_parts" "_ratio_parts" (defArgs s_P_ratio_parts) (defBody s_P_ratio_parts) (defScope s_P_ratio_parts) [] [] fa fd) : Binds K fd ps_P_ratio_parts [] := F.bindsN fun _ _ _ _ _ _ us hl => match us, hl with | [_], _ => rfl
theorem sc_P_read_parts : FnScope N_P_read_parts ps_P_read_parts (defScope s_P_read_parts) := ⟨rfl, rfl, rfl, by decide +kernel, rfl, by decide +kernel, by decide +kernel⟩
theorem b_P_read_parts {fa : Addr} {cdv : Value} {A : Around} {outer : List PySem.Env} {s : Shared} {H : Hp} {E : XK} (M : MF K mg) (h_P_behind_digits : FnJ P w K mg base 3 "_behind_digits" 2 F_P_behind_digits) (e_TextError : ExcJ P w K mg base 1 "TextError" 2 Fx_TextError) (hr : Room 3 (A.deeper (envOfC "_read_parts" (defScope s_P_read_parts) s.heap.objs.size fa cdv))) (tk : L2N.Takes (cxOf (L2N.CX P w) P w K mg base N_P_read_parts "_read_parts" (defScope s_P_read_parts) fa cdv A outer s H E) (fun c d _ H => E c d H)) (hp : PassesOwn (model P w) (cxOf (L2N.CX P w) P w K mg base N_P_read_parts "_read_parts" (defScope s_P_read_parts) fa cdv A outer s H E).A (cxOf (L2N.CX P w) P w K mg base N_P_read_parts "_read_parts" (defScope s_P_read_parts) fa cdv A outer s H E).env (cxOf (L2N.CX P w) P w K mg base N_P_read_parts "_read_parts" (defScope s_P_read_parts) fa cdv A outer s H E).xe) :
    JSs (cxOf (L2N.CX P w) P w K mg base N_P_read_parts "_read_parts" (defScope s_P_read_parts) fa cdv A outer s H E) (fun c d _ H => E c d H) (defBody s_P_read_parts) f_P_read_parts := by
  have hc : (cxOf (L2N.CX P w) P w K mg base N_P_read_parts "_read_parts" (defScope s_P_read_parts) fa cdv A outer s H E).calm = true := rfl
  have hN : (cxOf (L2N.CX P w) P w K mg base N_P_read_parts "_read_parts" (defScope s_P_read_parts) fa cdv A outer s H E).N.Nodup := sc_P_read_parts.nd
  have hu := hr.units
  exact (jss_cons (js_set 1 hN (j_if (jt_tru (JE.toO (j_startswith (j_var 0) j_str))) j_int j_int)) (jss_cons (js_set 2 hN (j_call (h_P_behind_digits.mono (by decide : 3 ≤ 3)) hr tk (jx_v (j_var 0) (jx_v (j_var 1) jx_nil)))) (jss_cons (js_set 3 hN (j_t1 (call_intT M.dig) c1_intT (M.fr "int" (by decide +kernel)) (by decide +kernel) (JE.toO (j_cut (JE.toO (j_var 0)) jp_none (jp_some (jq_var 2)))))) (jss_cons (js_if (JW.t (jw_and (jt_cmp (op_eqD hu) opS_eq (j_var 3) (JE.toO j_int) (nomark _)) (jw_and1 (jt_cmp (op_eqD hu) opS_eq (j_var 1) (JE.toO j_int) (nomark _))))) (jss_one (js_raise hc tk e_TextError (hr.mono (by decide)) (ja_cons j_int (ja_cons (j_var 2) ja_nil)))) jss_nil) (jss_cons (js_if (jt_cmp (op_eqD hu) opS_eq (j_var 2) (JE.toO (j_b1 call_len c1_len (M.fr "len" (by decide +kernel)) (by decide +kernel) (JE.toO (j_var 0)))) (nomark _)) (jss_one (js_ret (j_tup (ja_cons (j_var 3) (ja_cons j_int ja_nil))))) jss_nil) (jss_cons (js_if (JW.t (jw_or (jt_cmp (op_eqD hu) opS_eq (j_var 3) (JE.toO j_int) (nomark _)) (jw_or1 (jt_cmp (op_neD hu) opS_ne (j_ix (j_var 0) (JE.toO (j_var 2))) (JE.toO j_str) (nomark _))))) (jss_one (js_raise hc tk e_TextError (hr.mono (by decide)) (ja_cons j_int (ja_cons (j_add (j_var 2) (JE.toO j_int)) ja_nil)))) jss_nil) (jss_cons (js_set 4 hN (j_call (h_P_behind_digits.mono (by decide : 3 ≤ 3)) hr tk (jx_v (j_var 0) (jx_v (j_add (j_var 2) (JE.toO j_int)) jx_nil)))) (jss_cons (js_set 5 hN (j_t1 (call_intT M.dig) c1_intT (M.fr "int" (by decide +kernel)) (by decide +kernel) (JE.toO (j_cut (JE.toO (j_var 0)) (jp_some (jq_add (jq_var 2) jq_int)) (jp_some (jq_var 4)))))) (jss_cons (js_if (jt_cmp (op_eqD hu) opS_eq (j_var 5) (JE.toO j_int) (nomark _)) (jss_one (js_raise hc tk e_TextError (hr.mono (by decide)) (ja_cons j_int (ja_cons (j_var 4) ja_nil)))) jss_nil) (jss_cons (js_if (JW.t (jw_or (jt_cmp op_lt opS_B0 (j_var 4) (JE.toO (j_b1 call_len c1_len (M.fr "len" (by decide +kernel)) (by decide +kernel) (JE.toO (j_var 0)))) (nomark _)) (jw_or (jt_cmp (op_eqD hu) opS_eq (j_var 5) (JE.toO j_int) (nomark _)) (jw_or1 (jt_cmp op_gt opS_B0 (j_gcd M.b_gcd (j_var 3) (j_var 5)) (JE.toO j_int) (nomark _)))))) (jss_one (js_raise hc tk e_TextError (hr.mono (by decide)) (ja_cons j_int (ja_cons (j_add (j_var 4) (JE.toO j_int)) ja_nil)))) jss_nil) (jss_one (js_ret (j_tup (ja_cons (j_var 3) (ja_cons (j_var 5) ja_nil)))))))))))))))
theorem fo_P_read_parts {fa : Addr} {fd : FuncData} {dvs : List V} (F : FunD K "_read_parts" "_read_parts" (defArgs s_P_read_parts) (defBody s_P_read_parts) (defScope s_P_read_parts) dvs [] fa fd) (M : MF K mg) (h_P_behind_digits : FnJ P w K mg base 3 "_behind_digits" 2 F_P_behind_digits) (e_TextError : ExcJ P w K mg base 1 "TextError" 2 Fx_TextError) : FnOk P w K mg base (L2N.CX P w) 4 fa fd ps_P_read_parts (spJ K 1 F_P_read_parts) := by
  obtain ⟨oc, od, dV, kV, doc, pm, an, cdv, ct, osl, rfl, lk, hcd, _, _⟩ := F.ex
  exact fn_J lk hcd sc_P_read_parts fun A outer s H E hr tk hp => b_P_read_parts M h_P_behind_digits e_TextError hr tk hp
theorem bn_P_read_parts {fa : Addr} {fd : FuncData} (F : FunD K "_read_parts" "_read_parts" (defArgs s_P_read_parts) (defBody s_P_read_parts) (defScope s_P_read_parts) [] [] fa fd) : Binds K fd ps_P_read_parts [] := F.bindsN fun _ _ _ _ _ _ us hl => match us, hl with | [_], _ => rfl
theorem sc_M_Ratio_init : FnScope N_M_Ratio_init ps_M_Ratio_init (defScope s_M_Ratio_init) := ⟨rfl, rfl, rfl, by decide +kernel, rfl, by decide +kernel, by decide +kernel⟩
theorem b_M_Ratio_init {fa : Addr} {cdv : Value} {A : Around} {outer : List PySem.Env} {s : Shared} {H : Hp} {E : XK} (M : MF K mg) (h_look_number : FnJ P w K mg base 3 "look_number" 3 F_look_number) (hr : Room 3 (A.deeper (envOfC "Ratio.__init__" (defScope s_M_Ratio_init) s.heap.objs.size fa cdv))) (tk : L2N.Takes (cxOf (L2N.CX P w) P w K mg base N_M_Ratio_init "Ratio.__init__" (defScope s_M_Ratio_init) fa cdv A outer s H E) (fun c d _ H => E c d H)) (hp : PassesOwn (model P w) (cxOf (L2N.CX P w) P w K mg base N_M_Ratio_init "Ratio.__init__" (defScope s_M_Ratio_init) fa cdv A outer s H E).A (cxOf (L2N.CX P w) P w K mg base N_M_Ratio_init "Ratio.__init__" (defScope s_M_Ratio_init) fa cdv A outer s H E).env (cxOf (L2N.CX P w) P w K mg base N_M_Ratio_init "Ratio.__init__" (defScope s_M_Ratio_init) fa cdv A outer s H E).xe) :
    JSs (cxOf (L2N.CX P w) P w K mg base N_M_Ratio_init "Ratio.__init__" (defScope s_M_Ratio_init) fa cdv A outer s H E) (fun c d _ H => E c d H) (defBody s_M_Ratio_init) f_M_Ratio_init := by
  have hc : (cxOf (L2N.CX P w) P w K mg base N_M_Ratio_init "Ratio.__init__" (defScope s_M_Ratio_init) fa cdv A outer s H E).calm = true := rfl
  have hN : (cxOf (L2N.CX P w) P w K mg base N_M_Ratio_init "Ratio.__init__" (defScope s_M_Ratio_init) fa cdv A outer s H E).N.Nodup := sc_M_Ratio_init.nd
  have hu := hr.units
  exact (jss_cons (js_expr (j_call (h_look_number.mono (by decide : 3 ≤ 3)) hr tk (jx_v (j_var 1) (jx_v (j_neg (j_gint M.i_MOST)) (jx_v (j_gint M.i_MOST) jx_nil))))) (jss_cons (js_expr (j_call (h_look_number.mono (by decide : 3 ≤ 3)) hr tk (jx_v (j_var 2) (jx_v j_int (jx_v (j_gint M.i_MOST) jx_nil))))) (jss_cons (js_set 3 hN (j_gcd M.b_gcd (j_var 1) (j_var 2))) (jss_cons (js_put 0 M.fld_num (j_divP (j_var 1) (JE.toO (j_var 3)))) (jss_one (js_put 0 M.fld_den (j_divP (j_var 2) (JE.toO (j_var 3)))))))))
theorem fo_M_Ratio_init {fa : Addr} {fd : FuncData} {dvs : List V} (F : FunD K "__init__" "Ratio.__init__" (defArgs s_M_Ratio_init) (defBody s_M_Ratio_init) (defScope s_M_Ratio_init) dvs [] fa fd) (M : MF K mg) (h_look_number : FnJ P w K mg base 3 "look_number" 3 F_look_number) : FnOk P w K mg base (L2N.CX P w) 4 fa fd ps_M_Ratio_init (spJ K 3 F_M_Ratio_init) := by
  obtain ⟨oc, od, dV, kV, doc, pm, an, cdv, ct, osl, rfl, lk, hcd, _, _⟩ := F.ex
  exact fn_J lk hcd sc_M_Ratio_init fun A outer s H E hr tk hp => b_M_Ratio_init M h_look_number hr tk hp
theorem bn_M_Ratio_init_0 {fa : Addr} {fd : FuncData} (F : FunD K "__init__" "Ratio.__init__" (defArgs s_M_Ratio_init) (defBody s_M_Ratio_init) (defScope s_M_Ratio_init) [.int 1] [] fa fd) : ∃ ds, Vals (([.int 1] : List V).drop 1) ds ∧ Binds K fd ps_M_Ratio_init ds := F.binds1 3 1 (by simp) (by decide) fun _ _ _ _ _ _ _ us its h1 h2 => match us, its, h1, h2 with | [_, _, _], [_], _, _ => ⟨_, rfl, rfl⟩
theorem bn_M_Ratio_init_1 {fa : Addr} {fd : FuncData} (F : FunD K "__init__" "Ratio.__init__" (defArgs s_M_Ratio_init) (defBody s_M_Ratio_init) (defScope s_M_Ratio_init) [.int 1] [] fa fd) : ∃ ds, Vals (([.int 1] : List V).drop 0) ds ∧ Binds K fd ps_M_Ratio_init ds := F.binds1 2 0 (by simp) (by decide) fun _ _ _ _ _ _ _ us its h1 h2 => match us, its, h1, h2 with | [_, _], [_], _, _ => ⟨_, rfl, rfl⟩
theorem sc_P_ratio_lowest : FnScope N_P_ratio_lowest ps_P_ratio_lowest (defScope s_P_ratio_lowest) := ⟨rfl, rfl, rfl, by decide +kernel, rfl, by decide +kernel, by decide +kernel⟩
theorem b_P_ratio_lowest {fa : Addr} {cdv : Value} {A : Around} {outer : List PySem.Env} {s : Shared} {H : Hp} {E : XK} (M : MF K mg) (h_mk_Ratio_0 : MkJ P w K mg base 4 "Ratio" 3 [] F_M_Ratio_init) (hr : Room 5 (A.deeper (envOfC "_ratio_lowest" (defScope s_P_ratio_lowest) s.heap.objs.size fa cdv))) (tk : L2N.Takes (cxOf (L2N.CX P w) P w K mg base N_P_ratio_lowest "_ratio_lowest" (defScope s_P_ratio_lowest) fa cdv A outer s H E) (fun c d _ H => E c d H)) (hp : PassesOwn (model P w) (cxOf (L2N.CX P w) P w K mg base N_P_ratio_lowest "_ratio_lowest" (defScope s_P_ratio_lowest) fa cdv A outer s H E).A (cxOf (L2N.CX P w) P w K mg base N_P_ratio_lowest "_ratio_lowest" (defScope s_P_ratio_lowest) fa cdv A outer s H E).env (cxOf (L2N.CX P w) P w K mg base N_P_ratio_lowest "_ratio_lowest" (defScope s_P_ratio_lowest) fa cdv A outer s H E).xe) :
    JSs (cxOf (L2N.CX P w) P w K mg base N_P_ratio_lowest "_ratio_lowest" (defScope s_P_ratio_lowest) fa cdv A outer s H E) (fun c d _ H => E c d H) (defBody s_P_ratio_lowest) f_P_ratio_lowest := by
  have hc : (cxOf (L2N.CX P w) P w K mg base N_P_ratio_lowest "_ratio_lowest" (defScope s_P_ratio_lowest) fa cdv A outer s H E).calm = true := rfl
  have hN : (cxOf (L2N.CX P w) P w K mg base N_P_ratio_lowest "_ratio_lowest" (defScope s_P_ratio_lowest) fa cdv A outer s H E).N.Nodup := sc_P_ratio_lowest.nd
  have hu := hr.units
  exact (jss_cons (js_set 2 hN (j_gcd M.b_gcd (j_var 0) (j_var 1))) (jss_one (js_ret (j_make (h_mk_Ratio_0.mono (by decide : 4 ≤ 4)) hr tk (jx_v (j_divP (j_var 0) (JE.toO (j_var 2))) (jx_v (j_divP (j_var 1) (JE.toO (j_var 2))) jx_nil))))))
theorem fo_P_ratio_lowest {fa : Addr} {fd : FuncData} {dvs : List V} (F : FunD K "_ratio_lowest" "_ratio_lowest" (defArgs s_P_ratio_lowest) (defBody s_P_ratio_lowest) (defScope s_P_ratio_lowest) dvs [] fa fd) (M : MF K mg) (h_mk_Ratio_0 : MkJ P w K mg base 4 "Ratio" 3 [] F_M_Ratio_init) : FnOk P w K mg base (L2N.CX P w) 6 fa fd ps_P_ratio_lowest (spJ K 2 F_P_ratio_lowest) := by
  obtain ⟨oc, od, dV, kV, doc, pm, an, cdv, ct, osl, rfl, lk, hcd, _, _⟩ := F.ex
  exact fn_J lk hcd sc_P_ratio_lowest fun A outer s H E hr tk hp => b_P_ratio_lowest M h_mk_Ratio_0 hr tk hp
theorem bn_P_ratio_lowest {fa : Addr} {fd : FuncData} (F : FunD K "_ratio_lowest" "_ratio_lowest" (defArgs s_P_ratio_lowest) (defBody s_P_ratio_lowest) (defScope s_P_ratio_lowest) [] [] fa fd) : Binds K fd ps_P_ratio_lowest [] := F.bindsN fun _ _ _ _ _ _ us hl => match us, hl with | [_, _], _ => rfl
theorem sc_M_Ratio_neg : FnScope N_M_Ratio_neg ps_M_Ratio_neg (defScope s_M_Ratio_neg) := ⟨rfl, rfl, rfl, by decide +kernel, rfl, by decide +kernel, by decide +kernel⟩
theorem b_M_Ratio_neg {fa : Addr} {cdv : Value} {A : Around} {outer : List PySem.Env} {s : Shared} {H : Hp} {E : XK} (M : MF K mg) (h_mk_Ratio_0 : MkJ P w K mg base 4 "Ratio" 3 [] F_M_Ratio_init) (hr : Room 5 (A.deeper (envOfC "Ratio.__neg__" (defScope s_M_Ratio_neg) s.heap.objs.size fa cdv))) (tk : L2N.Takes (cxOf (L2N.CX P w) P w K mg base N_M_Ratio_neg "Ratio.__neg__" (defScope s_M_Ratio_neg) fa cdv A outer s H E) (fun c d _ H => E c d H)) (hp : PassesOwn (model P w) (cxOf (L2N.CX P w) P w K mg base N_M_Ratio_neg "Ratio.__neg__" (defScope s_M_Ratio_neg) fa cdv A outer s H E).A (cxOf (L2N.CX P w) P w K mg base N_M_Ratio_neg "Ratio.__neg__" (defScope s_M_Ratio_neg) fa cdv A outer s H E).env (cxOf (L2N.CX P w) P w K mg base N_M_Ratio_neg "Ratio.__neg__" (defScope s_M_Ratio_neg) fa cdv A outer s H E).xe) :
    JSs (cxOf (L2N.CX P w) P w K mg base N_M_Ratio_neg "Ratio.__neg__" (defScope s_M_Ratio_neg) fa cdv A outer s H E) (fun c d _ H => E c d H) (defBody s_M_Ratio_neg) f_M_Ratio_neg := by
  have hc : (cxOf (L2N.CX P w) P w K mg base N_M_Ratio_neg "Ratio.__neg__" (defScope s_M_Ratio_neg) fa cdv A outer s H E).calm = true := rfl
  have hN : (cxOf (L2N.CX P w) P w K mg base N_M_Ratio_neg "Ratio.__neg__" (defScope s_M_Ratio_neg) fa cdv A outer s H E).N.Nodup := sc_M_Ratio_neg.nd
  have hu := hr.units
  exact (jss_one (js_ret (j_make (h_mk_Ratio_0.mono (by decide : 4 ≤ 4)) hr tk (jx_v (j_neg (j_fld M.fld_num (j_var 0))) (jx_v (j_fld M.fld_den (j_var 0)) jx_nil)))))
theorem fo_M_Ratio_neg {fa : Addr} {fd : FuncData} {dvs : List V} (F : FunD K "__neg__" "Ratio.__neg__" (defArgs s_M_Ratio_neg) (defBody s_M_Ratio_neg) (defScope s_M_Ratio_neg) dvs [] fa fd) (M : MF K mg) (h_mk_Ratio_0 : MkJ P w K mg base 4 "Ratio" 3 [] F_M_Ratio_init) : FnOk P w K mg base (L2N.CX P w) 6 fa fd ps_M_Ratio_neg (spJ K 1 F_M_Ratio_neg) := by
  obtain ⟨oc, od, dV, kV, doc, pm, an, cdv, ct, osl, rfl, lk, hcd, _, _⟩ := F.ex
  exact fn_J lk hcd sc_M_Ratio_neg fun A outer s H E hr tk hp => b_M_Ratio_neg M h_mk_Ratio_0 hr tk hp
theorem bn_M_Ratio_neg {fa : Addr} {fd : FuncData} (F : FunD K "__neg__" "Ratio.__neg__" (defArgs s_M_Ratio_neg) (defBody s_M_Ratio_neg) (defScope s_M_Ratio_neg) [] [] fa fd) : Binds K fd ps_M_Ratio_neg [] := F.bindsN fun _ _ _ _ _ _ us hl => match us, hl with | [_], _ => rfl
theorem sc_M_Ratio_read : FnScope N_M_Ratio_read ps_M_Ratio_read (defScope s_M_Ratio_read) := ⟨rfl, rfl, rfl, by decide +kernel, rfl, by decide +kernel, by decide +kernel⟩
theorem b_M_Ratio_read {fa : Addr} {cdv : Value} {A : Around} {outer : List PySem.Env} {s : Shared} {H : Hp} {E : XK} (M : MF K mg) (h_look_size : FnJ P w K mg base 3 "look_size" 3 F_look_size) (h_P_read_parts : FnJ P w K mg base 4 "_read_parts" 1 F_P_read_parts) (h_mk_Ratio_0 : MkJ P w K mg base 4 "Ratio" 3 [] F_M_Ratio_init) (hr : Room 5 (A.deeper (envOfC "Ratio.read" (defScope s_M_Ratio_read) s.heap.objs.size fa cdv))) (tk : L2N.Takes (cxOf (L2N.CX P w) P w K mg base N_M_Ratio_read "Ratio.read" (defScope s_M_Ratio_read) fa cdv A outer s H E) (fun c d _ H => E c d H)) (hp : PassesOwn (model P w) (cxOf (L2N.CX P w) P w K mg base N_M_Ratio_read "Ratio.read" (defScope s_M_Ratio_read) fa cdv A outer s H E).A (cxOf (L2N.CX P w) P w K mg base N_M_Ratio_read "Ratio.read" (defScope s_M_Ratio_read) fa cdv A outer s H E).env (cxOf (L2N.CX P w) P w K mg base N_M_Ratio_read "Ratio.read" (defScope s_M_Ratio_read) fa cdv A outer s H E).xe) :
    JSs (cxOf (L2N.CX P w) P w K mg base N_M_Ratio_read "Ratio.read" (defScope s_M_Ratio_read) fa cdv A outer s H E) (fun c d _ H => E c d H) (defBody s_M_Ratio_read) f_M_Ratio_read := by
  have hc : (cxOf (L2N.CX P w) P w K mg base N_M_Ratio_read "Ratio.read" (defScope s_M_Ratio_read) fa cdv A outer s H E).calm = true := rfl
  have hN : (cxOf (L2N.CX P w) P w K mg base N_M_Ratio_read "Ratio.read" (defScope s_M_Ratio_read) fa cdv A outer s H E).N.Nodup := sc_M_Ratio_read.nd
  have hu := hr.units
  exact (jss_cons (js_expr (j_call (h_look_size.mono (by decide : 3 ≤ 5)) hr tk (jx_v (j_var 0) (jx_v j_int (jx_v (j_gint M.i_MOST_SIGNS) jx_nil))))) (jss_cons (js_asg (j_call (h_P_read_parts.mono (by decide : 4 ≤ 5)) hr tk (jx_v (j_var 0) jx_nil)) (jg_tup hc (jgs_cons (jg_name 1 hN) (jgs_cons (jg_name 2 hN) jgs_nil)) (gs_lenS (gs_lenS gs_len0)))) (jss_one (js_ret (j_make (h_mk_Ratio_0.mono (by decide : 4 ≤ 4)) hr tk (jx_v (j_var 1) (jx_v (j_var 2) jx_nil)))))))
theorem fo_M_Ratio_read {fa : Addr} {fd : FuncData} {dvs : List V} (F : FunD K "read" "Ratio.read" (defArgs s_M_Ratio_read) (defBody s_M_Ratio_read) (defScope s_M_Ratio_read) dvs [] fa fd) (M : MF K mg) (h_look_size : FnJ P w K mg base 3 "look_size" 3 F_look_size) (h_P_read_parts : FnJ P w K mg base 4 "_read_parts" 1 F_P_read_parts) (h_mk_Ratio_0 : MkJ P w K mg base 4 "Ratio" 3 [] F_M_Ratio_init) : FnOk P w K mg base (L2N.CX P w) 6 fa fd ps_M_Ratio_read (spJ K 1 F_M_Ratio_read) := by
  obtain ⟨oc, od, dV, kV, doc, pm, an, cdv, ct, osl, rfl, lk, hcd, _, _⟩ := F.ex
  exact fn_J lk hcd sc_M_Ratio_read fun A outer s H E hr tk hp => b_M_Ratio_read M h_look_size h_P_read_parts h_mk_Ratio_0 hr tk hp
theorem bn_M_Ratio_read {fa : Addr} {fd : FuncData} (F : FunD K "read" "Ratio.read" (defArgs s_M_Ratio_read) (defBody s_M_Ratio_read) (defScope s_M_Ratio_read) [] [] fa fd) : Binds K fd ps_M_Ratio_read [] := F.bindsN fun _ _ _ _ _ _ us hl => match us, hl with | [_], _ => rfl
theorem sc_M_Ratio_add : FnScope N_M_Ratio_add ps_M_Ratio_add (defScope s_M_Ratio_add) := ⟨rfl, rfl, rfl, by decide +kernel, rfl, by decide +kernel, by decide +kernel⟩
theorem b_M_Ratio_add {fa : Addr} {cdv : Value} {A : Around} {outer : List PySem.Env} {s : Shared} {H : Hp} {E : XK} (M : MF K mg) (h_P_ratio_parts : FnJ P w K mg base 4 "_ratio_parts" 1 F_P_ratio_parts) (h_P_ratio_lowest : FnJ P w K mg base 6 "_ratio_lowest" 2 F_P_ratio_lowest) (hr : Room 6 (A.deeper (envOfC "Ratio.__add__" (defScope s_M_Ratio_add) s.heap.objs.size fa cdv))) (tk : L2N.Takes (cxOf (L2N.CX P w) P w K mg base N_M_Ratio_add "Ratio.__add__" (defScope s_M_Ratio_add) fa cdv A outer s H E) (fun c d _ H => E c d H)) (hp : PassesOwn (model P w) (cxOf (L2N.CX P w) P w K mg base N_M_Ratio_add "Ratio.__add__" (defScope s_M_Ratio_add) fa cdv A outer s H E).A (cxOf (L2N.CX P w) P w K mg base N_M_Ratio_add "Ratio.__add__" (defScope s_M_Ratio_add) fa cdv A outer s H E).env (cxOf (L2N.CX P w) P w K mg base N_M_Ratio_add "Ratio.__add__" (defScope s_M_Ratio_add) fa cdv A outer s H E).xe) :
    JSs (cxOf (L2N.CX P w) P w K mg base N_M_Ratio_add "Ratio.__add__" (defScope s_M_Ratio_add) fa cdv A outer s H E) (fun c d _ H => E c d H) (defBody s_M_Ratio_add) f_M_Ratio_add := by
  have hc : (cxOf (L2N.CX P w) P w K mg base N_M_Ratio_add "Ratio.__add__" (defScope s_M_Ratio_add) fa cdv A outer s H E).calm = true := rfl
  have hN : (cxOf (L2N.CX P w) P w K mg base N_M_Ratio_add "Ratio.__add__" (defScope s_M_Ratio_add) fa cdv A outer s H E).N.Nodup := sc_M_Ratio_add.nd
  have hu := hr.units
  exact (jss_cons (js_asg (j_call (h_P_ratio_parts.mono (by decide : 4 ≤ 6)) hr tk (jx_v (j_var 1) jx_nil)) (jg_tup hc (jgs_cons (jg_name 2 hN) (jgs_cons (jg_name 3 hN) jgs_nil)) (gs_lenS (gs_lenS gs_len0)))) (jss_one (js_ret (j_call (h_P_ratio_lowest.mono (by decide : 6 ≤ 6)) hr tk (jx_v (j_add (j_mulT (j_fld M.fld_num (j_var 0)) (JE.toO (j_var 3))) (JE.toO (j_mulT (j_var 2) (JE.toO (j_fld M.fld_den (j_var 0)))))) (jx_v (j_mulT (j_fld M.fld_den (j_var 0)) (JE.toO (j_var 3))) jx_nil))))))
theorem fo_M_Ratio_add {fa : Addr} {fd : FuncData} {dvs : List V} (F : FunD K "__add__" "Ratio.__add__" (defArgs s_M_Ratio_add) (defBody s_M_Ratio_add) (defScope s_M_Ratio_add) dvs [] fa fd) (M : MF K mg) (h_P_ratio_parts : FnJ P w K mg base 4 "_ratio_parts" 1 F_P_ratio_parts) (h_P_ratio_lowest : FnJ P w K mg base 6 "_ratio_lowest" 2 F_P_ratio_lowest) : FnOk P w K mg base (L2N.CX P w) 7 fa fd ps_M_Ratio_add (spJ K 2 F_M_Ratio_add) := by
  obtain ⟨oc, od, dV, kV, doc, pm, an, cdv, ct, osl, rfl, lk, hcd, _, _⟩ := F.ex
  exact fn_J lk hcd sc_M_Ratio_add fun A outer s H E hr tk hp => b_M_Ratio_add M h_P_ratio_parts h_P_ratio_lowest hr tk hp
theorem bn_M_Ratio_add {fa : Addr} {fd : FuncData} (F : FunD K "__add__" "Ratio.__add__" (defArgs s_M_Ratio_add) (defBody s_M_Ratio_add) (defScope s_M_Ratio_add) [] [] fa fd) : Binds K fd ps_M_Ratio_add [] := F.bindsN fun _ _ _ _ _ _ us hl => match us, hl with | [_, _], _ => rfl
theorem sc_M_Ratio_sub : FnScope N_M_Ratio_sub ps_M_Ratio_sub (defScope s_M_Ratio_sub) := ⟨rfl, rfl, rfl, by decide +kernel, rfl, by decide +kernel, by decide +kernel⟩
theorem b_M_Ratio_sub {fa : Addr} {cdv : Value} {A : Around} {outer : List PySem.Env} {s : Shared} {H : Hp} {E : XK} (M : MF K mg) (h_P_ratio_parts : FnJ P w K mg base 4 "_ratio_parts" 1 F_P_ratio_parts) (h_P_ratio_lowest : FnJ P w K mg base 6 "_ratio_lowest" 2 F_P_ratio_lowest) (hr : Room 6 (A.deeper (envOfC "Ratio.__sub__" (defScope s_M_Ratio_sub) s.heap.objs.size fa cdv))) (tk : L2N.Takes (cxOf (L2N.CX P w) P w K mg base N_M_Ratio_sub "Ratio.__sub__" (defScope s_M_Ratio_sub) fa cdv A outer s H E) (fun c d _ H => E c d H)) (hp : PassesOwn (model P w) (cxOf (L2N.CX P w) P w K mg base N_M_Ratio_sub "Ratio.__sub__" (defScope s_M_Ratio_sub) fa cdv A outer s H E).A (cxOf (L2N.CX P w) P w K mg base N_M_Ratio_sub "Ratio.__sub__" (defScope s_M_Ratio_sub) fa cdv A outer s H E).env (cxOf (L2N.CX P w) P w K mg base N_M_Ratio_sub "Ratio.__sub__" (defScope s_M_Ratio_sub) fa cdv A outer s H E).xe) :
    JSs (cxOf (L2N.CX P w) P w K mg base N_M_Ratio_sub "Ratio.__sub__" (defScope s_M_Ratio_sub) fa cdv A outer s H E) (fun c d _ H => E c d H) (defBody s_M_Ratio_sub) f_M_Ratio_sub := by
  have hc : (cxOf (L2N.CX P w) P w K mg base N_M_Ratio_sub "Ratio.__sub__" (defScope s_M_Ratio_sub) fa cdv A outer s H E).calm = true := rfl
  have hN : (cxOf (L2N.CX P w) P w K mg base N_M_Ratio_sub "Ratio.__sub__" (defScope s_M_Ratio_sub) fa cdv A outer s H E).N.Nodup := sc_M_Ratio_sub.nd
  have hu := hr.units
  exact (jss_cons (js_asg (j_call (h_P_ratio_parts.mono (by decide : 4 ≤ 6)) hr tk (jx_v (j_var 1) jx_nil)) (jg_tup hc (jgs_cons (jg_name 2 hN) (jgs_cons (jg_name 3 hN) jgs_nil)) (gs_lenS (gs_lenS gs_len0)))) (jss_one (js_ret (j_call (h_P_ratio_lowest.mono (by decide : 6 ≤ 6)) hr tk (jx_v (j_sub (j_mulT (j_fld M.fld_num (j_var 0)) (JE.toO (j_var 3))) (JE.toO (j_mulT (j_var 2) (JE.toO (j_fld M.fld_den (j_var 0)))))) (jx_v (j_mulT (j_fld M.fld_den (j_var 0)) (JE.toO (j_var 3))) jx_nil))))))
theorem fo_M_Ratio_sub {fa : Addr} {fd : FuncData} {dvs : List V} (F : FunD K "__sub__" "Ratio.__sub__" (defArgs s_M_Ratio_sub) (defBody s_M_Ratio_sub) (defScope s_M_Ratio_sub) dvs [] fa fd) (M : MF K mg) (h_P_ratio_parts : FnJ P w K mg base 4 "_ratio_parts" 1 F_P_ratio_parts) (h_P_ratio_lowest : FnJ P w K mg base 6 "_ratio_lowest" 2 F_P_ratio_lowest) : FnOk P w K mg base (L2N.CX P w) 7 fa fd ps_M_Ratio_sub (spJ K 2 F_M_Ratio_sub) := by
  obtain ⟨oc, od, dV, kV, doc, pm, an, cdv, ct, osl, rfl, lk, hcd, _, _⟩ := F.ex
  exact fn_J lk hcd sc_M_Ratio_sub fun A outer s H E hr tk hp => b_M_Ratio_sub M h_P_ratio_parts h_P_ratio_lowest hr tk hp
theorem bn_M_Ratio_sub {fa : Addr} {fd : FuncData} (F : FunD K "__sub__" "Ratio.__sub__" (defArgs s_M_Ratio_sub) (defBody s_M_Ratio_sub) (defScope s_M_Ratio_sub) [] [] fa fd) : Binds K fd ps_M_Ratio_sub [] := F.bindsN fun _ _ _ _ _ _ us hl => match us, hl with | [_, _], _ => rfl
theorem sc_M_Ratio_mul : FnScope N_M_Ratio_mul ps_M_Ratio_mul (defScope s_M_Ratio_mul) := ⟨rfl, rfl, rfl, by decide +kernel, rfl, by decide +kernel, by decide +kernel⟩
theorem b_M_Ratio_mul {fa : Addr} {cdv : Value} {A : Around} {outer : List PySem.Env} {s : Shared} {H : Hp} {E : XK} (M : MF K mg) (h_P_ratio_parts : FnJ P w K mg base 4 "_ratio_parts" 1 F_P_ratio_parts) (h_P_ratio_lowest : FnJ P w K mg base 6 "_ratio_lowest" 2 F_P_ratio_lowest) (hr : Room 6 (A.deeper (envOfC "Ratio.__mul__" (defScope s_M_Ratio_mul) s.heap.objs.size fa cdv))) (tk : L2N.Takes (cxOf (L2N.CX P w) P w K mg base N_M_Ratio_mul "Ratio.__mul__" (defScope s_M_Ratio_mul) fa cdv A outer s H E) (fun c d _ H => E c d H)) (hp : PassesOwn (model P w) (cxOf (L2N.CX P w) P w K mg base N_M_Ratio_mul "Ratio.__mul__" (defScope s_M_Ratio_mul) fa cdv A outer s H E).A (cxOf (L2N.CX P w) P w K mg base N_M_Ratio_mul "Ratio.__mul__" (defScope s_M_Ratio_mul) fa cdv A outer s H E).env (cxOf (L2N.CX P w) P w K mg base N_M_Ratio_mul "Ratio.__mul__" (defScope s_M_Ratio_mul) fa cdv A outer s H E).xe) :
    JSs (cxOf (L2N.CX P w) P w K mg base N_M_Ratio_mul "Ratio.__mul__" (defScope s_M_Ratio_mul) fa cdv A outer s H E) (fun c d _ H => E c d H) (defBody s_M_Ratio_mul) f_M_Ratio_mul := by
  have hc : (cxOf (L2N.CX P w) P w K mg base N_M_Ratio_mul "Ratio.__mul__" (defScope s_M_Ratio_mul) fa cdv A outer s H E).calm = true := rfl
  have hN : (cxOf (L2N.CX P w) P w K mg base N_M_Ratio_mul "Ratio.__mul__" (defScope s_M_Ratio_mul) fa cdv A outer s H E).N.Nodup := sc_M_Ratio_mul.nd
  have hu := hr.units
  exact (jss_cons (js_asg (j_call (h_P_ratio_parts.mono (by decide : 4 ≤ 6)) hr tk (jx_v (j_var 1) jx_nil)) (jg_tup hc (jgs_cons (jg_name 2 hN) (jgs_cons (jg_name 3 hN) jgs_nil)) (gs_lenS (gs_lenS gs_len0)))) (jss_one (js_ret (j_call (h_P_ratio_lowest.mono (by decide : 6 ≤ 6)) hr tk (jx_v (j_mulT (j_fld M.fld_num (j_var 0)) (JE.toO (j_var 2))) (jx_v (j_mulT (j_fld M.fld_den (j_var 0)) (JE.toO (j_var 3))) jx_nil))))))
theorem fo_M_Ratio_mul {fa : Addr} {fd : FuncData} {dvs : List V} (F : FunD K "__mul__" "Ratio.__mul__" (defArgs s_M_Ratio_mul) (defBody s_M_Ratio_mul) (defScope s_M_Ratio_mul) dvs [] fa fd) (M : MF K mg) (h_P_ratio_parts : FnJ P w K mg base 4 "_ratio_parts" 1 F_P_ratio_parts) (h_P_ratio_lowest : FnJ P w K mg base 6 "_ratio_lowest" 2 F_P_ratio_lowest) : FnOk P w K mg base (L2N.CX P w) 7 fa fd ps_M_Ratio_mul (spJ K 2 F_M_Ratio_mul) := by
  obtain ⟨oc, od, dV, kV, doc, pm, an, cdv, ct, osl, rfl, lk, hcd, _, _⟩ := F.ex
  exact fn_J lk hcd sc_M_Ratio_mul fun A outer s H E hr tk hp => b_M_Ratio_mul M h_P_ratio_parts h_P_ratio_lowest hr tk hp
theorem bn_M_Ratio_mul {fa : Addr} {fd : FuncData} (F : FunD K "__mul__" "Ratio.__mul__" (defArgs s_M_Ratio_mul) (defBody s_M_Ratio_mul) (defScope s_M_Ratio_mul) [] [] fa fd) : Binds K fd ps_M_Ratio_mul [] := F.bindsN fun _ _ _ _ _ _ us hl => match us, hl with | [_, _], _ => rfl
theorem sc_M_Ratio_over : FnScope N_M_Ratio_over ps_M_Ratio_over (defScope s_M_Ratio_over) := ⟨rfl, rfl, rfl, by decide +kernel, rfl, by decide +kernel, by decide +kernel⟩
theorem b_M_Ratio_over {fa : Addr} {cdv : Value} {A : Around} {outer : List PySem.Env} {s : Shared} {H : Hp} {E : XK} (M : MF K mg) (h_P_ratio_lowest : FnJ P w K mg base 6 "_ratio_lowest" 2 F_P_ratio_lowest) (e_NumberError : ExcJ P w K mg base 1 "NumberError" 1 Fx_NumberError) (hr : Room 6 (A.deeper (envOfC "Ratio.over" (defScope s_M_Ratio_over) s.heap.objs.size fa cdv))) (tk : L2N.Takes (cxOf (L2N.CX P w) P w K mg base N_M_Ratio_over "Ratio.over" (defScope s_M_Ratio_over) fa cdv A outer s H E) (fun c d _ H => E c d H)) (hp : PassesOwn (model P w) (cxOf (L2N.CX P w) P w K mg base N_M_Ratio_over "Ratio.over" (defScope s_M_Ratio_over) fa cdv A outer s H E).A (cxOf (L2N.CX P w) P w K mg base N_M_Ratio_over "Ratio.over" (defScope s_M_Ratio_over) fa cdv A outer s H E).env (cxOf (L2N.CX P w) P w K mg base N_M_Ratio_over "Ratio.over" (defScope s_M_Ratio_over) fa cdv A outer s H E).xe) :
    JSs (cxOf (L2N.CX P w) P w K mg base N_M_Ratio_over "Ratio.over" (defScope s_M_Ratio_over) fa cdv A outer s H E) (fun c d _ H => E c d H) (defBody s_M_Ratio_over) f_M_Ratio_over := by
  have hc : (cxOf (L2N.CX P w) P w K mg base N_M_Ratio_over "Ratio.over" (defScope s_M_Ratio_over) fa cdv A outer s H E).calm = true := rfl
  have hN : (cxOf (L2N.CX P w) P w K mg base N_M_Ratio_over "Ratio.over" (defScope s_M_Ratio_over) fa cdv A outer s H E).N.Nodup := sc_M_Ratio_over.nd
  have hu := hr.units
  exact (jss_cons (js_if (jt_cmp (op_eqD hu) opS_eq (j_fld M.fld_num (j_var 1)) (JE.toO j_int) (nomark _)) (jss_one (js_raise hc tk e_NumberError (hr.mono (by decide)) (ja_cons j_int ja_nil))) jss_nil) (jss_cons (js_if (jt_cmp op_lt opS_B0 (j_fld M.fld_num (j_var 1)) (JE.toO j_int) (nomark _)) (jss_one (js_ret (j_call (h_P_ratio_lowest.mono (by decide : 6 ≤ 6)) hr tk (jx_v (j_mulT (j_neg (j_fld M.fld_num (j_var 0))) (JE.toO (j_fld M.fld_den (j_var 1)))) (jx_v (j_mulT (j_neg (j_fld M.fld_den (j_var 0))) (JE.toO (j_fld M.fld_num (j_var 1)))) jx_nil))))) jss_nil) (jss_one (js_ret (j_call (h_P_ratio_lowest.mono (by decide : 6 ≤ 6)) hr tk (jx_v (j_mulT (j_fld M.fld_num (j_var 0)) (JE.toO (j_fld M.fld_den (j_var 1)))) (jx_v (j_mulT (j_fld M.fld_den (j_var 0)) (JE.toO (j_fld M.fld_num (j_var 1)))) jx_nil)))))))
theorem fo_M_Ratio_over {fa : Addr} {fd : FuncData} {dvs : List V} (F : FunD K "over" "Ratio.over" (defArgs s_M_Ratio_over) (defBody s_M_Ratio_over) (defScope s_M_Ratio_over) dvs [] fa fd) (M : MF K mg) (h_P_ratio_lowest : FnJ P w K mg base 6 "_ratio_lowest" 2 F_P_ratio_lowest) (e_NumberError : ExcJ P w K mg base 1 "NumberError" 1 Fx_NumberError) : FnOk P w K mg base (L2N.CX P w) 7 fa fd ps_M_Ratio_over (spJ K 2 F_M_Ratio_over) := by
  obtain ⟨oc, od, dV, kV, doc, pm, an, cdv, ct, osl, rfl, lk, hcd, _, _⟩ := F.ex
  exact fn_J lk hcd sc_M_Ratio_over fun A outer s H E hr tk hp => b_M_Ratio_over M h_P_ratio_lowest e_NumberError hr tk hp
theorem bn_M_Ratio_over {fa : Addr} {fd : FuncData} (F : FunD K "over" "Ratio.over" (defArgs s_M_Ratio_over) (defBody s_M_Ratio_over) (defScope s_M_Ratio_over) [] [] fa fd) : Binds K fd ps_M_Ratio_over [] := F.bindsN fun _ _ _ _ _ _ us hl => match us, hl with | [_, _], _ => rfl
theorem sc_M_Ratio_total : FnScope N_M_Ratio_total ps_M_Ratio_total (defScope s_M_Ratio_total) := ⟨rfl, rfl, rfl, by decide +kernel, rfl, by decide +kernel, by decide +kernel⟩
theorem b_M_Ratio_total {fa : Addr} {cdv : Value} {A : Around} {outer : List PySem.Env} {s : Shared} {H : Hp} {E : XK} (M : MF K mg) (h_look_size : FnJ P w K mg base 3 "look_size" 3 F_look_size) (h_P_ratio_lowest : FnJ P w K mg base 6 "_ratio_lowest" 2 F_P_ratio_lowest) (h_look_number : FnJ P w K mg base 3 "look_number" 3 F_look_number) (hTr : P.given.tree = none) (hr : Room 32 (A.deeper (envOfC "Ratio.total" (defScope s_M_Ratio_total) s.heap.objs.size fa cdv))) (tk : L2N.Takes (cxOf (L2N.CX P w) P w K mg base N_M_Ratio_total "Ratio.total" (defScope s_M_Ratio_total) fa cdv A outer s H E) (fun c d _ H => E c d H)) (hp : PassesOwn (model P w) (cxOf (L2N.CX P w) P w K mg base N_M_Ratio_total "Ratio.total" (defScope s_M_Ratio_total) fa cdv A outer s H E).A (cxOf (L2N.CX P w) P w K mg base N_M_Ratio_total "Ratio.total" (defScope s_M_Ratio_total) fa cdv A outer s H E).env (cxOf (L2N.CX P w) P w K mg base N_M_Ratio_total "Ratio.total" (defScope s_M_Ratio_total) fa cdv A outer s H E).xe) :
    JSs (cxOf (L2N.CX P w) P w K mg base N_M_Ratio_total "Ratio.total" (defScope s_M_Ratio_total) fa cdv A outer s H E) (fun c d _ H => E c d H) (defBody s_M_Ratio_total) f_M_Ratio_total := by
  have hc : (cxOf (L2N.CX P w) P w K mg base N_M_Ratio_total "Ratio.total" (defScope s_M_Ratio_total) fa cdv A outer s H E).calm = true := rfl
  have hN : (cxOf (L2N.CX P w) P w K mg base N_M_Ratio_total "Ratio.total" (defScope s_M_Ratio_total) fa cdv A outer s H E).N.Nodup := sc_M_Ratio_total.nd
  have hu := hr.units
  exact (jss_cons (js_expr (j_call (h_look_size.mono (by decide : 3 ≤ 32)) hr tk (jx_v (j_var 0) (jx_v j_int (jx_v (j_gint M.i_MOST_TOTAL) jx_nil))))) (jss_cons (js_set 1 hN j_int) (jss_cons (js_for hp hc (ji_seq (j_var 0)) (jg_name 2 hN) (jss_one (js_set 1 hN (j_call (h_look_number.mono (by decide : 3 ≤ 32)) hr tk (jx_v (j_lcmW (k := 0) M.seer hTr (hr.mono (by decide : 32 ≤ 32)) M.b_lcm (j_var 1) (j_fld M.fld_den (j_var 2))) (jx_v j_int (jx_v (j_gint M.i_MOST_TOTAL_DEN) jx_nil))))))) (jss_one (js_ret (j_call (h_P_ratio_lowest.mono (by decide : 6 ≤ 32)) hr tk (jx_v (j_b1 (cr_sum hc) c1_sum (M.fr "sum" (by decide +kernel)) (by decide +kernel) (JE.toO (JL.toE (jl_lc [("ratio", 2)] hc hN (ji_seq (j_var 0)) (blkOk_by (N := N_M_Ratio_total) (sc := defScope s_M_Ratio_total) (by decide +kernel)) (fun _ _ _ _ _ => (jg_name 2 hN)) (by decide) (fun _ _ _ _ _ => jts_nil) (fun _ _ _ _ _ => (j_mulT (j_fld M.fld_num (j_var 2)) (JE.toO (j_divP (j_var 1) (JE.toO (j_fld M.fld_den (j_var 2))))))) )))) (jx_v (j_var 1) jx_nil))))))))
theorem fo_M_Ratio_total {fa : Addr} {fd : FuncData} {dvs : List V} (F : FunD K "total" "Ratio.total" (defArgs s_M_Ratio_total) (defBody s_M_Ratio_total) (defScope s_M_Ratio_total) dvs [] fa fd) (M : MF K mg) (h_look_size : FnJ P w K mg base 3 "look_size" 3 F_look_size) (h_P_ratio_lowest : FnJ P w K mg base 6 "_ratio_lowest" 2 F_P_ratio_lowest) (h_look_number : FnJ P w K mg base 3 "look_number" 3 F_look_number) (hTr : P.given.tree = none) : FnOk P w K mg base (L2N.CX P w) 33 fa fd ps_M_Ratio_total (spJ K 1 F_M_Ratio_total) := by
  obtain ⟨oc, od, dV, kV, doc, pm, an, cdv, ct, osl, rfl, lk, hcd, _, _⟩ := F.ex
  exact fn_J lk hcd sc_M_Ratio_total fun A outer s H E hr tk hp => b_M_Ratio_total M h_look_size h_P_ratio_lowest h_look_number hTr hr tk hp
theorem bn_M_Ratio_total {fa : Addr} {fd : FuncData} (F : FunD K "total" "Ratio.total" (defArgs s_M_Ratio_total) (defBody s_M_Ratio_total) (defScope s_M_Ratio_total) [] [] fa fd) : Binds K fd ps_M_Ratio_total [] := F.bindsN fun _ _ _ _ _ _ us hl => match us, hl with | [_], _ => rfl
theorem sc_L_told : FnScope N_L_told ps_L_told (defScope s_L_told) := ⟨rfl, rfl, rfl, by decide +kernel, rfl, by decide +kernel, by decide +kernel⟩
theorem b_L_told {fa : Addr} {cdv : Value} {A : Around} {outer : List PySem.Env} {s : Shared} {H : Hp} {E : XK} (M : MF K mg) (h_L_pair : FnJ P w K mg base 2 "_law_pair" 1 F_L_pair) (h_eq_Ratio : EqJ P w K mg base 1 "Ratio" F_M_Ratio_eq) (h_st_Ratio_read : StJ P w K mg base 6 "Ratio" "read" 1 F_M_Ratio_read) (h_mk_Ratio_0 : MkJ P w K mg base 4 "Ratio" 3 [] F_M_Ratio_init) (h_L_int : FnJ P w K mg base 1 "_law_int" 1 F_L_int) (h_st_Ratio_total : StJ P w K mg base 33 "Ratio" "total" 1 F_M_Ratio_total) (h_op_Ratio_add : OpJ P w K mg base 7 .Add "Ratio" F_M_Ratio_add) (h_op_Ratio_sub : OpJ P w K mg base 7 .Sub "Ratio" F_M_Ratio_sub) (h_op_Ratio_mul : OpJ P w K mg base 7 .Mult "Ratio" F_M_Ratio_mul) (h_mt_Ratio_over_0 : MtJ P w K mg base 7 "over" 2 [] "Ratio" F_M_Ratio_over) (hH_L_int : FnHJ P w K mg base 1 "_law_int" 1 F_L_int) (hr : Room 33 (A.deeper (envOfC "_law_told" (defScope s_L_told) s.heap.objs.size fa cdv))) (tk : L2N.Takes (cxOf (L2N.CX P w) P w K mg base N_L_told "_law_told" (defScope s_L_told) fa cdv A outer s H E) (fun c d _ H => E c d H)) (hp : PassesOwn (model P w) (cxOf (L2N.CX P w) P w K mg base N_L_told "_law_told" (defScope s_L_told) fa cdv A outer s H E).A (cxOf (L2N.CX P w) P w K mg base N_L_told "_law_told" (defScope s_L_told) fa cdv A outer s H E).env (cxOf (L2N.CX P w) P w K mg base N_L_told "_law_told" (defScope s_L_told) fa cdv A outer s H E).xe) :
    JSs (cxOf (L2N.CX P w) P w K mg base N_L_told "_law_told" (defScope s_L_told) fa cdv A outer s H E) (fun c d _ H => E c d H) (defBody s_L_told) f_L_told := by
  have hc : (cxOf (L2N.CX P w) P w K mg base N_L_told "_law_told" (defScope s_L_told) fa cdv A outer s H E).calm = true := rfl
  have hN : (cxOf (L2N.CX P w) P w K mg base N_L_told "_law_told" (defScope s_L_told) fa cdv A outer s H E).N.Nodup := sc_L_told.nd
  have hu := hr.units
  exact (jss_cons (js_try rfl rfl hN tk (fun W pn xe tk hp => (jss_one (js_if (jt_cmp (op_eqD hu) opS_eq (j_var 0) (JE.toO j_str) (nomark _)) (jss_one (js_set 6 hN (j_stat (h_st_Ratio_read.mono (by decide : 6 ≤ 33)) hr tk (jx_v (j_var 1) jx_nil)))) (jss_one (js_if (jt_cmp (op_eqD hu) opS_eq (j_var 0) (JE.toO j_str) (nomark _)) (jss_one (js_set 6 hN (j_make (h_mk_Ratio_0.mono (by decide : 4 ≤ 32)) hr tk (jx_v (j_var 1) (jx_v (j_var 2) jx_nil))))) (jss_one (js_if (jt_cmp (op_eqD hu) opS_eq (j_var 0) (JE.toO j_str) (nomark _)) (jss_one (js_set 6 hN (j_stat (h_st_Ratio_total.mono (by decide : 33 ≤ 33)) hr tk (jx_v (j_var 1) jx_nil)))) (jss_one (js_if (jt_cmp (op_eqD hu) opS_eq (j_var 0) (JE.toO j_str) (nomark _)) (jss_one (js_set 6 hN (j_bin op_add4 opS_add (T_op_add_ok h_op_Ratio_add (by decide)) hr tk (j_var 1) (j_var 2)))) (jss_one (js_if (jt_cmp (op_eqD hu) opS_eq (j_var 0) (JE.toO j_str) (nomark _)) (jss_one (js_set 6 hN (j_bin op_sub opS_sub (T_op_sub_ok h_op_Ratio_sub (by decide)) hr tk (j_var 1) (j_var 2)))) (jss_one (js_if (jt_cmp (op_eqD hu) opS_eq (j_var 0) (JE.toO j_str) (nomark _)) (jss_one (js_set 6 hN (j_bin op_mulT opS_mulT (T_op_mul_ok h_op_Ratio_mul (by decide)) hr tk (j_var 1) (j_var 2)))) (jss_one (js_set 6 hN (j_meth (T_mt_over_ok h_mt_Ratio_over_0 (by decide)) (c0 := "Ratio") rfl hr tk (j_var 1) (jx_v (j_var 2) jx_nil))))))))))))))))) (.named (i := 3) (h := ⟨exm_TextError, some 3, fun y => (sSeq (sIf (fOr (fNot (fTru (fIsE isx_0 y))) (fTru (fIsE isx_1 y))) (sSeq (sRet (fTup (fCons (fC (.str "odd")) fNil))) sNil) sNil) (sSeq (sIf (fOr (fNot (fTru (fCallR 1 F_L_int (xV (fXf okf_TextError_line y "line") xNil) rvD))) (fNot (fTru (fCallR 1 F_L_int (xV (fXf okf_TextError_column y "column") xNil) rvD)))) (sSeq (sRet (fTup (fCons (fC (.str "odd")) fNil))) sNil) sNil) (sSeq (sRet (fTup (fCons (fC (.str "text")) (fCons (fXf okf_TextError_line y "line") (fCons (fXf okf_TextError_column y "column") fNil))))) sNil)))⟩) rfl rfl ⟨rfl, by decide, .inl M.cl_TextError⟩ (fun y b e => M.exm_TextError _ (PySem.mem_of_lookup e)) rfl (fun a oe cls d pn y hz hd => (ju_cons (ju_if (JW.t (jw_or (jt_not (jt_tru (JE.toO (j_isE isx_0 hz hd (jcs_own jcs_nil (M.cl_NodearerError)) (isx_0_ok M) (M.fr "isinstance" (by decide +kernel)))))) (jw_or1 (jt_tru (JE.toO (j_isET isx_1 hz hd (jcs_own (jcs_own jcs_nil (M.cl_NumberError)) (M.cl_SizeError)) (by simp) (isx_1_ok M) (M.fr "isinstance" (by decide +kernel)))))))) (ju_cons (ju_ret (j_tup (ja_cons j_str ja_nil))) ju_nil) ju_nil) (ju_cons (ju_if (JW.t (jw_or (jt_not (jt_tru (JE.toO (j_callH (hH_L_int) (L2H.roomH_mark (hr.mono (by decide)) _) (hot_of hz hd) takes_su (jx_v (j_xf okf_TextError_line hz hd (fld_TextError_line M)) jx_nil))))) (jw_or1 (jt_not (jt_tru (JE.toO (j_callH (hH_L_int) (L2H.roomH_mark (hr.mono (by decide)) _) (hot_of hz hd) takes_su (jx_v (j_xf okf_TextError_column hz hd (fld_TextError_column M)) jx_nil)))))))) (ju_cons (ju_ret (j_tup (ja_cons j_str ja_nil))) ju_nil) ju_nil) (ju_cons (ju_ret (j_tup (ja_cons j_str (ja_cons (j_xf okf_TextError_line hz hd (fld_TextError_line M)) (ja_cons (j_xf okf_TextError_column hz hd (fld_TextError_column M)) ja_nil))))) ju_nil)))) (.named (i := 4) (h := ⟨exm_SizeError, some 4, fun y => (sSeq (sIf (fOr (fNot (fTru (fIsE isx_2 y))) (fTru (fIsE isx_3 y))) (sSeq (sRet (fTup (fCons (fC (.str "odd")) fNil))) sNil) sNil) (sSeq (sIf (fNot (fTru (fCallR 1 F_L_int (xV (fXf okf_SizeError_count y "count") xNil) rvD))) (sSeq (sRet (fTup (fCons (fC (.str "odd")) fNil))) sNil) sNil) (sSeq (sRet (fTup (fCons (fC (.str "size")) (fCons (fXf okf_SizeError_count y "count") fNil)))) sNil)))⟩) rfl rfl ⟨rfl, by decide, .inl M.cl_SizeError⟩ (fun y b e => M.exm_SizeError _ (PySem.mem_of_lookup e)) rfl (fun a oe cls d pn y hz hd => (ju_cons (ju_if (JW.t (jw_or (jt_not (jt_tru (JE.toO (j_isE isx_2 hz hd (jcs_own jcs_nil (M.cl_NodearerError)) (isx_2_ok M) (M.fr "isinstance" (by decide +kernel)))))) (jw_or1 (jt_tru (JE.toO (j_isE isx_3 hz hd (jcs_own jcs_nil (M.cl_NumberError)) (isx_3_ok M) (M.fr "isinstance" (by decide +kernel)))))))) (ju_cons (ju_ret (j_tup (ja_cons j_str ja_nil))) ju_nil) ju_nil) (ju_cons (ju_if (jt_not (jt_tru (JE.toO (j_callH (hH_L_int) (L2H.roomH_mark (hr.mono (by decide)) _) (hot_of hz hd) takes_su (jx_v (j_xf okf_SizeError_count hz hd (fld_SizeError_count M)) jx_nil))))) (ju_cons (ju_ret (j_tup (ja_cons j_str ja_nil))) ju_nil) ju_nil) (ju_cons (ju_ret (j_tup (ja_cons j_str (ja_cons (j_xf okf_SizeError_count hz hd (fld_SizeError_count M)) ja_nil)))) ju_nil)))) (.named (i := 5) (h := ⟨exm_NumberError, some 5, fun y => (sSeq (sIf (fOr (fNot (fTru (fIsE isx_4 y))) (fNot (fTru (fIsE isx_5 y)))) (sSeq (sRet (fTup (fCons (fC (.str "odd")) fNil))) sNil) sNil) (sSeq (sIf (fNot (fTru (fCallR 1 F_L_int (xV (fXf okf_NumberError_number y "number") xNil) rvD))) (sSeq (sRet (fTup (fCons (fC (.str "odd")) fNil))) sNil) sNil) (sSeq (sRet (fTup (fCons (fC (.str "number")) (fCons (fXf okf_NumberError_number y "number") fNil)))) sNil)))⟩) rfl rfl ⟨rfl, by decide, .inl M.cl_NumberError⟩ (fun y b e => M.exm_NumberError _ (PySem.mem_of_lookup e)) rfl (fun a oe cls d pn y hz hd => (ju_cons (ju_if (JW.t (jw_or (jt_not (jt_tru (JE.toO (j_isE isx_4 hz hd (jcs_own jcs_nil (M.cl_NodearerError)) (isx_4_ok M) (M.fr "isinstance" (by decide +kernel)))))) (jw_or1 (jt_not (jt_tru (JE.toO (j_isE isx_5 hz hd (jcs_ty (T := "ValueError") jcs_nil (M.fr "ValueError" (by decide +kernel)) (by decide +kernel)) (isx_5_ok M) (M.fr "isinstance" (by decide +kernel))))))))) (ju_cons (ju_ret (j_tup (ja_cons j_str ja_nil))) ju_nil) ju_nil) (ju_cons (ju_if (jt_not (jt_tru (JE.toO (j_callH (hH_L_int) (L2H.roomH_mark (hr.mono (by decide)) _) (hot_of hz hd) takes_su (jx_v (j_xf okf_NumberError_number hz hd (fld_NumberError_number M)) jx_nil))))) (ju_cons (ju_ret (j_tup (ja_cons j_str ja_nil))) ju_nil) ju_nil) (ju_cons (ju_ret (j_tup (ja_cons j_str (ja_cons (j_xf okf_NumberError_number hz hd (fld_NumberError_number M)) ja_nil)))) ju_nil)))) .nil)))) (jss_one (js_ret (j_call (h_L_pair.mono (by decide : 2 ≤ 33)) hr tk (jx_v (j_var 6) jx_nil)))))
theorem fo_L_told {fa : Addr} {fd : FuncData} {dvs : List V} (F : FunD K "_law_told" "_law_told" (defArgs s_L_told) (defBody s_L_told) (defScope s_L_told) dvs [] fa fd) (M : MF K mg) (h_L_pair : FnJ P w K mg base 2 "_law_pair" 1 F_L_pair) (h_eq_Ratio : EqJ P w K mg base 1 "Ratio" F_M_Ratio_eq) (h_st_Ratio_read : StJ P w K mg base 6 "Ratio" "read" 1 F_M_Ratio_read) (h_mk_Ratio_0 : MkJ P w K mg base 4 "Ratio" 3 [] F_M_Ratio_init) (h_L_int : FnJ P w K mg base 1 "_law_int" 1 F_L_int) (h_st_Ratio_total : StJ P w K mg base 33 "Ratio" "total" 1 F_M_Ratio_total) (h_op_Ratio_add : OpJ P w K mg base 7 .Add "Ratio" F_M_Ratio_add) (h_op_Ratio_sub : OpJ P w K mg base 7 .Sub "Ratio" F_M_Ratio_sub) (h_op_Ratio_mul : OpJ P w K mg base 7 .Mult "Ratio" F_M_Ratio_mul) (h_mt_Ratio_over_0 : MtJ P w K mg base 7 "over" 2 [] "Ratio" F_M_Ratio_over) (hH_L_int : FnHJ P w K mg base 1 "_law_int" 1 F_L_int) : FnOk P w K mg base (L2N.CX P w) 34 fa fd ps_L_told (spJ K 3 F_L_told) := by
  obtain ⟨oc, od, dV, kV, doc, pm, an, cdv, ct, osl, rfl, lk, hcd, _, _⟩ := F.ex
  exact fn_J lk hcd sc_L_told fun A outer s H E hr tk hp => b_L_told M h_L_pair h_eq_Ratio h_st_Ratio_read h_mk_Ratio_0 h_L_int h_st_Ratio_total h_op_Ratio_add h_op_Ratio_sub h_op_Ratio_mul h_mt_Ratio_over_0 hH_L_int hr tk hp
theorem bn_L_told {fa : Addr} {fd : FuncData} (F : FunD K "_law_told" "_law_told" (defArgs s_L_told) (defBody s_L_told) (defScope s_L_told) [] [] fa fd) : Binds K fd ps_L_told [] := F.bindsN fun _ _ _ _ _ _ us hl => match us, hl with | [_, _, _], _ => rfl
theorem sc_L_made : FnScope N_L_made ps_L_made (defScope s_L_made) := ⟨rfl, rfl, rfl, by decide +kernel, rfl, by decide +kernel, by decide +kernel⟩
theorem b_L_made {fa : Addr} {cdv : Value} {A : Around} {outer : List PySem.Env} {s : Shared} {H : Hp} {E : XK} (M : MF K mg) (h_L_told : FnJ P w K mg base 34 "_law_told" 3 F_L_told) (hr : Room 34 (A.deeper (envOfC "_law_made" (defScope s_L_made) s.heap.objs.size fa cdv))) (tk : L2N.Takes (cxOf (L2N.CX P w) P w K mg base N_L_made "_law_made" (defScope s_L_made) fa cdv A outer s H E) (fun c d _ H => E c d H)) (hp : PassesOwn (model P w) (cxOf (L2N.CX P w) P w K mg base N_L_made "_law_made" (defScope s_L_made) fa cdv A outer s H E).A (cxOf (L2N.CX P w) P w K mg base N_L_made "_law_made" (defScope s_L_made) fa cdv A outer s H E).env (cxOf (L2N.CX P w) P w K mg base N_L_made "_law_made" (defScope s_L_made) fa cdv A outer s H E).xe) :
    JSs (cxOf (L2N.CX P w) P w K mg base N_L_made "_law_made" (defScope s_L_made) fa cdv A outer s H E) (fun c d _ H => E c d H) (defBody s_L_made) f_L_made := by
  have hc : (cxOf (L2N.CX P w) P w K mg base N_L_made "_law_made" (defScope s_L_made) fa cdv A outer s H E).calm = true := rfl
  have hN : (cxOf (L2N.CX P w) P w K mg base N_L_made "_law_made" (defScope s_L_made) fa cdv A outer s H E).N.Nodup := sc_L_made.nd
  have hu := hr.units
  exact (jss_cons (js_set 1 hN (j_powP (j_powP j_int (JE.toO j_int)) (JE.toO j_int))) (jss_cons (js_set 2 hN (j_add (j_var 1) (JE.toO (j_var 0)))) (jss_cons (js_setL 3 hN (jl_lst (ja_cons (j_tup (ja_cons (j_var 1) (ja_cons j_int (ja_cons (j_tup (ja_cons j_str (ja_cons (j_var 1) (ja_cons j_int ja_nil)))) ja_nil)))) ja_nil))) (jss_cons (js_app 3 (j_tup (ja_cons (j_neg (j_var 1)) (ja_cons (j_var 1) (ja_cons (j_tup (ja_cons j_str (ja_cons (j_neg j_int) (ja_cons j_int ja_nil)))) ja_nil))))) (jss_cons (js_app 3 (j_tup (ja_cons j_int (ja_cons (j_var 1) (ja_cons (j_tup (ja_cons j_str (ja_cons j_int (ja_cons j_int ja_nil)))) ja_nil))))) (jss_cons (js_app 3 (j_tup (ja_cons (j_sub j_int (JE.toO (j_var 1))) (ja_cons (j_var 1) (ja_cons (j_tup (ja_cons j_str (ja_cons (j_sub j_int (JE.toO (j_var 1))) (ja_cons (j_var 1) ja_nil)))) ja_nil))))) (jss_cons (js_app 3 (j_tup (ja_cons (j_var 2) (ja_cons j_int (ja_cons (j_tup (ja_cons j_str (ja_cons (j_var 2) ja_nil))) ja_nil))))) (jss_cons (js_app 3 (j_tup (ja_cons (j_neg (j_var 2)) (ja_cons j_int (ja_cons (j_tup (ja_cons j_str (ja_cons (j_neg (j_var 2)) ja_nil))) ja_nil))))) (jss_cons (js_app 3 (j_tup (ja_cons j_int (ja_cons (j_var 2) (ja_cons (j_tup (ja_cons j_str (ja_cons (j_var 2) ja_nil))) ja_nil))))) (jss_cons (js_app 3 (j_tup (ja_cons (j_var 0) (ja_cons j_int (ja_cons (j_tup (ja_cons j_str (ja_cons j_int ja_nil))) ja_nil))))) (jss_cons (js_app 3 (j_tup (ja_cons j_int (ja_cons (j_neg (j_var 0)) (ja_cons (j_tup (ja_cons j_str (ja_cons (j_neg (j_var 0)) ja_nil))) ja_nil))))) (jss_cons (js_app 3 (j_tup (ja_cons (j_var 2) (ja_cons j_int (ja_cons (j_tup (ja_cons j_str (ja_cons (j_var 2) ja_nil))) ja_nil))))) (jss_cons (js_app 3 (j_tup (ja_cons (j_add (j_var 1) (JE.toO j_int)) (ja_cons (j_var 2) (ja_cons (j_tup (ja_cons j_str (ja_cons (j_add (j_var 1) (JE.toO j_int)) ja_nil))) ja_nil))))) (JSs.pub 3 (jss_cons (js_for hp hc (ji_seq (j_var 3)) (jg_tup hc (jgs_cons (jg_name 4 hN) (jgs_cons (jg_name 5 hN) (jgs_cons (jg_name 6 hN) jgs_nil))) (gs_lenS (gs_lenS (gs_lenS gs_len0)))) (jss_one (js_if (jt_cmp (op_neD hu) opS_ne (j_call (h_L_told.mono (by decide : 34 ≤ 34)) hr tk (jx_v j_str (jx_v (j_var 4) (jx_v (j_var 5) jx_nil)))) (JE.toO (j_var 6)) (nomark _)) (jss_one (js_ret j_bl)) jss_nil))) (jss_one (js_ret j_bl)))))))))))))))))
theorem fo_L_made {fa : Addr} {fd : FuncData} {dvs : List V} (F : FunD K "_law_made" "_law_made" (defArgs s_L_made) (defBody s_L_made) (defScope s_L_made) dvs [] fa fd) (M : MF K mg) (h_L_told : FnJ P w K mg base 34 "_law_told" 3 F_L_told) : FnOk P w K mg base (L2N.CX P w) 35 fa fd ps_L_made (spJ K 1 F_L_made) := by
  obtain ⟨oc, od, dV, kV, doc, pm, an, cdv, ct, osl, rfl, lk, hcd, _, _⟩ := F.ex
  exact fn_J lk hcd sc_L_made fun A outer s H E hr tk hp => b_L_made M h_L_told hr tk hp
theorem bn_L_made {fa : Addr} {fd : FuncData} (F : FunD K "_law_made" "_law_made" (defArgs s_L_made) (defBody s_L_made) (defScope s_L_made) [] [] fa fd) : Binds K fd ps_L_made [] := F.bindsN fun _ _ _ _ _ _ us hl => match us, hl with | [_], _ => rfl
theorem sc_L_results : FnScope N_L_results ps_L_results (defScope s_L_results) := ⟨rfl, rfl, rfl, by decide +kernel, rfl, by decide +kernel, by decide +kernel⟩
theorem b_L_results {fa : Addr} {cdv : Value} {A : Around} {outer : List PySem.Env} {s : Shared} {H : Hp} {E : XK} (M : MF K mg) (h_mk_Ratio_1 : MkJ P w K mg base 4 "Ratio" 3 [.int 1] F_M_Ratio_init) (h_mk_Ratio_0 : MkJ P w K mg base 4 "Ratio" 3 [] F_M_Ratio_init) (h_L_told : FnJ P w K mg base 34 "_law_told" 3 F_L_told) (hr : Room 34 (A.deeper (envOfC "_law_results" (defScope s_L_results) s.heap.objs.size fa cdv))) (tk : L2N.Takes (cxOf (L2N.CX P w) P w K mg base N_L_results "_law_results" (defScope s_L_results) fa cdv A outer s H E) (fun c d _ H => E c d H)) (hp : PassesOwn (model P w) (cxOf (L2N.CX P w) P w K mg base N_L_results "_law_results" (defScope s_L_results) fa cdv A outer s H E).A (cxOf (L2N.CX P w) P w K mg base N_L_results "_law_results" (defScope s_L_results) fa cdv A outer s H E).env (cxOf (L2N.CX P w) P w K mg base N_L_results "_law_results" (defScope s_L_results) fa cdv A outer s H E).xe) :
    JSs (cxOf (L2N.CX P w) P w K mg base N_L_results "_law_results" (defScope s_L_results) fa cdv A outer s H E) (fun c d _ H => E c d H) (defBody s_L_results) f_L_results := by
  have hc : (cxOf (L2N.CX P w) P w K mg base N_L_results "_law_results" (defScope s_L_results) fa cdv A outer s H E).calm = true := rfl
  have hN : (cxOf (L2N.CX P w) P w K mg base N_L_results "_law_results" (defScope s_L_results) fa cdv A outer s H E).N.Nodup := sc_L_results.nd
  have hu := hr.units
  exact (jss_cons (js_set 1 hN (j_powP (j_powP j_int (JE.toO j_int)) (JE.toO j_int))) (jss_cons (js_set 2 hN (j_add (j_var 1) (JE.toO (j_var 0)))) (jss_cons (js_set 3 hN (j_make (h_mk_Ratio_1.mono (by decide : 4 ≤ 33)) hr tk (jx_v (j_var 1) jx_nil))) (jss_cons (js_set 4 hN (j_make (h_mk_Ratio_1.mono (by decide : 4 ≤ 33)) hr tk (jx_v (j_neg (j_var 1)) jx_nil))) (jss_cons (js_set 5 hN (j_make (h_mk_Ratio_0.mono (by decide : 4 ≤ 33)) hr tk (jx_v j_int (jx_v (j_var 1) jx_nil)))) (jss_cons (js_setL 6 hN (jl_lst (ja_cons (j_tup (ja_cons j_str (ja_cons (j_var 3) (ja_cons (j_var 0) (ja_cons (j_tup (ja_cons j_str (ja_cons (j_var 2) ja_nil))) ja_nil))))) ja_nil))) (jss_cons (js_app 6 (j_tup (ja_cons j_str (ja_cons (j_var 4) (ja_cons (j_var 0) (ja_cons (j_tup (ja_cons j_str (ja_cons (j_neg (j_var 2)) ja_nil))) ja_nil)))))) (jss_cons (js_app 6 (j_tup (ja_cons j_str (ja_cons (j_var 4) (ja_cons (j_var 3) (ja_cons (j_tup (ja_cons j_str (ja_cons j_int (ja_cons j_int ja_nil)))) ja_nil)))))) (jss_cons (js_app 6 (j_tup (ja_cons j_str (ja_cons (j_var 3) (ja_cons (j_var 0) (ja_cons (j_tup (ja_cons j_str (ja_cons (j_sub (j_var 1) (JE.toO (j_var 0))) (ja_cons j_int ja_nil)))) ja_nil)))))) (jss_cons (js_app 6 (j_tup (ja_cons j_str (ja_cons (j_var 3) (ja_cons (j_neg j_int) (ja_cons (j_tup (ja_cons j_str (ja_cons (j_mulT (j_neg j_int) (JE.toO (j_var 1))) ja_nil))) ja_nil)))))) (jss_cons (js_app 6 (j_tup (ja_cons j_str (ja_cons (j_var 3) (ja_cons (j_var 5) (ja_cons (j_tup (ja_cons j_str (ja_cons j_int (ja_cons j_int ja_nil)))) ja_nil)))))) (jss_cons (js_app 6 (j_tup (ja_cons j_str (ja_cons (j_var 5) (ja_cons (j_make (h_mk_Ratio_0.mono (by decide : 4 ≤ 33)) hr tk (jx_v j_int (jx_v j_int jx_nil))) (ja_cons (j_tup (ja_cons j_str (ja_cons (j_mulT j_int (JE.toO (j_var 1))) ja_nil))) ja_nil)))))) (jss_cons (js_app 6 (j_tup (ja_cons j_str (ja_cons (j_var 3) (ja_cons (j_make (h_mk_Ratio_0.mono (by decide : 4 ≤ 33)) hr tk (jx_v (j_neg j_int) (jx_v j_int jx_nil))) (ja_cons (j_tup (ja_cons j_str (ja_cons (j_mulT (j_neg j_int) (JE.toO (j_var 1))) ja_nil))) ja_nil)))))) (jss_cons (js_app 6 (j_tup (ja_cons j_str (ja_cons (j_var 5) (ja_cons (j_make (h_mk_Ratio_0.mono (by decide : 4 ≤ 33)) hr tk (jx_v j_int (jx_v j_int jx_nil))) (ja_cons (j_tup (ja_cons j_str (ja_cons (j_divP (j_mulT j_int (JE.toO (j_var 1))) (JE.toO j_int)) ja_nil))) ja_nil)))))) (jss_cons (js_set 7 hN (j_make (h_mk_Ratio_0.mono (by decide : 4 ≤ 33)) hr tk (jx_v (j_var 1) (jx_v j_int jx_nil)))) (jss_cons (js_app 6 (j_tup (ja_cons j_str (ja_cons (j_var 7) (ja_cons (j_make (h_mk_Ratio_0.mono (by decide : 4 ≤ 33)) hr tk (jx_v j_int (jx_v (j_sub (j_var 1) (JE.toO j_int)) jx_nil))) (ja_cons (j_tup (ja_cons j_str (ja_cons (j_mulT j_int (JE.toO (j_var 1))) ja_nil))) ja_nil)))))) (jss_cons (js_app 6 (j_tup (ja_cons j_str (ja_cons (j_var 3) (ja_cons (j_make (h_mk_Ratio_0.mono (by decide : 4 ≤ 33)) hr tk (jx_v j_int (jx_v (j_var 0) jx_nil))) (ja_cons (j_tup (ja_cons j_str (ja_cons j_int ja_nil))) ja_nil)))))) (jss_cons (js_app 6 (j_tup (ja_cons j_str (ja_cons (j_make (h_mk_Ratio_1.mono (by decide : 4 ≤ 33)) hr tk (jx_v (j_var 0) jx_nil)) (ja_cons (j_var 2) (ja_cons (j_tup (ja_cons j_str (ja_cons (j_var 2) ja_nil))) ja_nil)))))) (jss_cons (js_app 6 (j_tup (ja_cons j_str (ja_cons (j_make (h_mk_Ratio_1.mono (by decide : 4 ≤ 33)) hr tk (jx_v (j_var 0) jx_nil)) (ja_cons (j_neg (j_var 2)) (ja_cons (j_tup (ja_cons j_str (ja_cons (j_neg (j_var 2)) ja_nil))) ja_nil)))))) (jss_cons (js_app 6 (j_tup (ja_cons j_str (ja_cons (j_make (h_mk_Ratio_1.mono (by decide : 4 ≤ 33)) hr tk (jx_v j_int jx_nil)) (ja_cons (j_var 2) (ja_cons (j_tup (ja_cons j_str (ja_cons (j_var 2) ja_nil))) ja_nil)))))) (jss_cons (js_app 6 (j_tup (ja_cons j_str (ja_cons (JL.toE (jl_lst (ja_cons (j_var 3) (ja_cons (j_var 3) (ja_cons (j_var 4) ja_nil))))) (ja_cons j_non (ja_cons (j_tup (ja_cons j_str (ja_cons (j_var 1) (ja_cons j_int ja_nil)))) ja_nil)))))) (jss_cons (js_set 8 hN (j_add (j_mulT (j_mulT j_int (JE.toO (j_var 1))) (JE.toO (j_var 1))) (JE.toO j_int))) (jss_cons (js_app 6 (j_tup (ja_cons j_str (ja_cons (JL.toE (jl_lst (ja_cons (j_var 3) (ja_cons (j_var 5) (ja_cons (j_var 3) ja_nil))))) (ja_cons j_non (ja_cons (j_tup (ja_cons j_str (ja_cons (j_var 8) ja_nil))) ja_nil)))))) (jss_cons (js_app 6 (j_tup (ja_cons j_str (ja_cons (j_mulT (JL.toE (jl_lst (ja_cons (j_var 5) ja_nil))) (JE.toO j_int)) (ja_cons j_non (ja_cons (j_tup (ja_cons j_str (ja_cons j_int ja_nil))) ja_nil)))))) (JSs.pub 6 (jss_cons (js_for hp hc (ji_seq (j_var 6)) (jg_tup hc (jgs_cons (jg_name 9 hN) (jgs_cons (jg_name 10 hN) (jgs_cons (jg_name 11 hN) (jgs_cons (jg_name 12 hN) jgs_nil)))) (gs_lenS (gs_lenS (gs_lenS (gs_lenS gs_len0))))) (jss_one (js_if (jt_cmp (op_neD hu) opS_ne (j_call (h_L_told.mono (by decide : 34 ≤ 34)) hr tk (jx_v (j_var 9) (jx_v (j_var 10) (jx_v (j_var 11) jx_nil)))) (JE.toO (j_var 12)) (nomark _)) (jss_one (js_ret j_bl)) jss_nil))) (jss_one (js_ret j_bl))))))))))))))))))))))))))))
theorem fo_L_results {fa : Addr} {fd : FuncData} {dvs : List V} (F : FunD K "_law_results" "_law_results" (defArgs s_L_results) (defBody s_L_results) (defScope s_L_results) dvs [] fa fd) (M : MF K mg) (h_mk_Ratio_1 : MkJ P w K mg base 4 "Ratio" 3 [.int 1] F_M_Ratio_init) (h_mk_Ratio_0 : MkJ P w K mg base 4 "Ratio" 3 [] F_M_Ratio_init) (h_L_told : FnJ P w K mg base 34 "_law_told" 3 F_L_told) : FnOk P w K mg base (L2N.CX P w) 35 fa fd ps_L_results (spJ K 1 F_L_results) := by
  obtain ⟨oc, od, dV, kV, doc, pm, an, cdv, ct, osl, rfl, lk, hcd, _, _⟩ := F.ex
  exact fn_J lk hcd sc_L_results fun A outer s H E hr tk hp => b_L_results M h_mk_Ratio_1 h_mk_Ratio_0 h_L_told hr tk hp
theorem bn_L_results {fa : Addr} {fd : FuncData} (F : FunD K "_law_results" "_law_results" (defArgs s_L_results) (defBody s_L_results) (defScope s_L_results) [] [] fa fd) : Binds K fd ps_L_results [] := F.bindsN fun _ _ _ _ _ _ us hl => match us, hl with | [_], _ => rfl
theorem sc_L_wide_totals : FnScope N_L_wide_totals ps_L_wide_totals (defScope s_L_wide_totals) := ⟨rfl, rfl, rfl, by decide +kernel, rfl, by decide +kernel, by decide +kernel⟩
theorem b_L_wide_totals {fa : Addr} {cdv : Value} {A : Around} {outer : List PySem.Env} {s : Shared} {H : Hp} {E : XK} (M : MF K mg) (h_op_Ratio_add : OpJ P w K mg base 7 .Add "Ratio" F_M_Ratio_add) (h_eq_Ratio : EqJ P w K mg base 1 "Ratio" F_M_Ratio_eq) (h_mk_Ratio_0 : MkJ P w K mg base 4 "Ratio" 3 [] F_M_Ratio_init) (h_L_told : FnJ P w K mg base 34 "_law_told" 3 F_L_told) (h_op_Ratio_sub : OpJ P w K mg base 7 .Sub "Ratio" F_M_Ratio_sub) (h_op_Ratio_mul : OpJ P w K mg base 7 .Mult "Ratio" F_M_Ratio_mul) (h_un_Ratio_neg : UnJ P w K mg base 6 "__neg__" "Ratio" F_M_Ratio_neg) (h_L_common : FnJ P w K mg base 1 "_law_common" 2 F_L_common) (hr : Room 34 (A.deeper (envOfC "_law_wide_totals" (defScope s_L_wide_totals) s.heap.objs.size fa cdv))) (tk : L2N.Takes (cxOf (L2N.CX P w) P w K mg base N_L_wide_totals "_law_wide_totals" (defScope s_L_wide_totals) fa cdv A outer s H E) (fun c d _ H => E c d H)) (hp : PassesOwn (model P w) (cxOf (L2N.CX P w) P w K mg base N_L_wide_totals "_law_wide_totals" (defScope s_L_wide_totals) fa cdv A outer s H E).A (cxOf (L2N.CX P w) P w K mg base N_L_wide_totals "_law_wide_totals" (defScope s_L_wide_totals) fa cdv A outer s H E).env (cxOf (L2N.CX P w) P w K mg base N_L_wide_totals "_law_wide_totals" (defScope s_L_wide_totals) fa cdv A outer s H E).xe) :
    JSs (cxOf (L2N.CX P w) P w K mg base N_L_wide_totals "_law_wide_totals" (defScope s_L_wide_totals) fa cdv A outer s H E) (fun c d _ H => E c d H) (defBody s_L_wide_totals) f_L_wide_totals := by
  have hc : (cxOf (L2N.CX P w) P w K mg base N_L_wide_totals "_law_wide_totals" (defScope s_L_wide_totals) fa cdv A outer s H E).calm = true := rfl
  have hN : (cxOf (L2N.CX P w) P w K mg base N_L_wide_totals "_law_wide_totals" (defScope s_L_wide_totals) fa cdv A outer s H E).N.Nodup := sc_L_wide_totals.nd
  have hu := hr.units
  exact (jss_cons (js_set 1 hN (j_powP (j_powP j_int (JE.toO j_int)) (JE.toO j_int))) (jss_cons (js_set 2 hN (j_powP (j_powP (j_powP j_int (JE.toO j_int)) (JE.toO j_int)) (JE.toO j_int))) (jss_cons (js_set 3 hN (j_bin op_add4 opS_add (T_op_add_ok h_op_Ratio_add (by decide)) hr tk (JL.toE (jl_lc [("_law_k", 7)] hc hN (ji_seq (JL.toE (jl_lst (ja_cons j_int (ja_cons j_int (ja_cons j_int (ja_cons j_int (ja_cons j_int ja_nil)))))))) (blkOk_by (N := N_L_wide_totals) (sc := defScope s_L_wide_totals) (by decide +kernel)) (fun _ _ _ _ _ => (jg_name 7 hN)) (by decide) (fun _ _ _ _ _ => jts_nil) (fun _ _ _ _ _ => (j_bin op_sub opS_sub (T_op_sub_ok h_op_Ratio_sub (by decide)) hr takes_blk (j_var 1) (j_var 7))) )) (JL.toE (jl_lst (ja_cons (j_bin op_add4 opS_add (T_op_add_ok h_op_Ratio_add (by decide)) hr tk j_int (j_var 0)) (ja_cons (j_var 1) ja_nil)))))) (jss_cons (js_set 4 hN j_int) (jss_cons (js_for hp hc (ji_seq (j_var 3)) (jg_name 5 hN) (jss_one (js_if (jt_cmp op_le opS_B0 (j_var 4) (JE.toO (j_var 2)) (nomark _)) (jss_one (js_set 4 hN (j_bin op_mulT opS_mulT (T_op_mul_ok h_op_Ratio_mul (by decide)) hr tk (j_divP (j_var 4) (JE.toO (j_call (h_L_common.mono (by decide : 1 ≤ 34)) hr tk (jx_v (j_var 4) (jx_v (j_var 5) jx_nil))))) (j_var 5)))) jss_nil))) (jss_cons (js_setLc 6 [("_law_den", 5)] hc hN (ji_seq (j_var 3)) (blkOk_by (N := N_L_wide_totals) (sc := defScope s_L_wide_totals) (by decide +kernel)) (fun _ _ _ _ _ => (jg_name 5 hN)) (by decide) (fun _ _ _ _ _ => jts_nil) (fun _ _ _ _ _ => (j_make (h_mk_Ratio_0.mono (by decide : 4 ≤ 33)) hr takes_blk (jx_v j_int (jx_v (j_var 5) jx_nil))))) (JSs.pub 6 (jss_cons (js_if (jt_cmp (op_neD hu) opS_ne (j_call (h_L_told.mono (by decide : 34 ≤ 34)) hr tk (jx_v j_str (jx_v (j_var 6) (jx_v j_non jx_nil)))) (JE.toO (j_tup (ja_cons j_str (ja_cons (j_var 4) ja_nil)))) (nomark _)) (jss_one (js_ret j_bl)) jss_nil) (jss_cons (js_if (jt_cmp (op_neD hu) opS_ne (j_call (h_L_told.mono (by decide : 34 ≤ 34)) hr tk (jx_v j_str (jx_v (j_bin op_mulT opS_mulT (T_op_mul_ok h_op_Ratio_mul (by decide)) hr tk (j_var 6) j_int) (jx_v j_non jx_nil)))) (JE.toO (j_tup (ja_cons j_str (ja_cons j_int ja_nil)))) (nomark _)) (jss_one (js_ret j_bl)) jss_nil) (jss_cons (js_if (jt_cmp op_lt opS_B0 (j_var 0) (JE.toO j_int) (nomark _)) (jss_one (js_ret j_bl)) jss_nil) (jss_cons (js_set 6 hN (j_bin op_add4 opS_add (T_op_add_ok h_op_Ratio_add (by decide)) hr tk (j_cut (JE.toO (j_var 6)) jp_none (jp_some jq_int)) (JL.toE (jl_lc [("_law_part", 8)] hc hN (ji_seq (j_cut (JE.toO (j_var 6)) jp_none (jp_some jq_int))) (blkOk_by (N := N_L_wide_totals) (sc := defScope s_L_wide_totals) (by decide +kernel)) (fun _ _ _ _ _ => (jg_name 8 hN)) (by decide) (fun _ _ _ _ _ => jts_nil) (fun _ _ _ _ _ => (j_negO (T_un_neg_ok h_un_Ratio_neg (by decide)) hr takes_blk (j_var 8))) )))) (jss_one (js_ret (j_eqO rfl (op_eqD hu) opS_eq (T_eq_eq_ok h_eq_Ratio (by decide)) hr tk (j_call (h_L_told.mono (by decide : 34 ≤ 34)) hr tk (jx_v j_str (jx_v (j_var 6) (jx_v j_non jx_nil)))) (j_tup (ja_cons j_str (ja_cons j_int (ja_cons j_int ja_nil)))) (nomark _)))))))))))))))
theorem fo_L_wide_totals {fa : Addr} {fd : FuncData} {dvs : List V} (F : FunD K "_law_wide_totals" "_law_wide_totals" (defArgs s_L_wide_totals) (defBody s_L_wide_totals) (defScope s_L_wide_totals) dvs [] fa fd) (M : MF K mg) (h_op_Ratio_add : OpJ P w K mg base 7 .Add "Ratio" F_M_Ratio_add) (h_eq_Ratio : EqJ P w K mg base 1 "Ratio" F_M_Ratio_eq) (h_mk_Ratio_0 : MkJ P w K mg base 4 "Ratio" 3 [] F_M_Ratio_init) (h_L_told : FnJ P w K mg base 34 "_law_told" 3 F_L_told) (h_op_Ratio_sub : OpJ P w K mg base 7 .Sub "Ratio" F_M_Ratio_sub) (h_op_Ratio_mul : OpJ P w K mg base 7 .Mult "Ratio" F_M_Ratio_mul) (h_un_Ratio_neg : UnJ P w K mg base 6 "__neg__" "Ratio" F_M_Ratio_neg) (h_L_common : FnJ P w K mg base 1 "_law_common" 2 F_L_common) : FnOk P w K mg base (L2N.CX P w) 35 fa fd ps_L_wide_totals (spJ K 1 F_L_wide_totals) := by
  obtain ⟨oc, od, dV, kV, doc, pm, an, cdv, ct, osl, rfl, lk, hcd, _, _⟩ := F.ex
  exact fn_J lk hcd sc_L_wide_totals fun A outer s H E hr tk hp => b_L_wide_totals M h_op_Ratio_add h_eq_Ratio h_mk_Ratio_0 h_L_told h_op_Ratio_sub h_op_Ratio_mul h_un_Ratio_neg h_L_common hr tk hp
theorem bn_L_wide_totals {fa : Addr} {fd : FuncData} (F : FunD K "_law_wide_totals" "_law_wide_totals" (defArgs s_L_wide_totals) (defBody s_L_wide_totals) (defScope s_L_wide_totals) [] [] fa fd) : Binds K fd ps_L_wide_totals [] := F.bindsN fun _ _ _ _ _ _ us hl => match us, hl with | [_], _ => rfl
theorem sc_L_both_ways : FnScope N_L_both_ways ps_L_both_ways (defScope s_L_both_ways) := ⟨rfl, rfl, rfl, by decide +kernel, rfl, by decide +kernel, by decide +kernel⟩
theorem b_L_both_ways {fa : Addr} {cdv : Value} {A : Around} {outer : List PySem.Env} {s : Shared} {H : Hp} {E : XK} (M : MF K mg) (h_mk_Ratio_0 : MkJ P w K mg base 4 "Ratio" 3 [] F_M_Ratio_init) (h_L_text : FnJ P w K mg base 1 "_law_text" 2 F_L_text) (h_un_Ratio_str : UnJ P w K mg base 1 "__str__" "Ratio" F_M_Ratio_str) (h_L_told : FnJ P w K mg base 34 "_law_told" 3 F_L_told) (h_eq_Ratio : EqJ P w K mg base 1 "Ratio" F_M_Ratio_eq) (h_L_pair : FnJ P w K mg base 2 "_law_pair" 1 F_L_pair) (hr : Room 34 (A.deeper (envOfC "_law_both_ways" (defScope s_L_both_ways) s.heap.objs.size fa cdv))) (tk : L2N.Takes (cxOf (L2N.CX P w) P w K mg base N_L_both_ways "_law_both_ways" (defScope s_L_both_ways) fa cdv A outer s H E) (fun c d _ H => E c d H)) (hp : PassesOwn (model P w) (cxOf (L2N.CX P w) P w K mg base N_L_both_ways "_law_both_ways" (defScope s_L_both_ways) fa cdv A outer s H E).A (cxOf (L2N.CX P w) P w K mg base N_L_both_ways "_law_both_ways" (defScope s_L_both_ways) fa cdv A outer s H E).env (cxOf (L2N.CX P w) P w K mg base N_L_both_ways "_law_both_ways" (defScope s_L_both_ways) fa cdv A outer s H E).xe) :
    JSs (cxOf (L2N.CX P w) P w K mg base N_L_both_ways "_law_both_ways" (defScope s_L_both_ways) fa cdv A outer s H E) (fun c d _ H => E c d H) (defBody s_L_both_ways) f_L_both_ways := by
  have hc : (cxOf (L2N.CX P w) P w K mg base N_L_both_ways "_law_both_ways" (defScope s_L_both_ways) fa cdv A outer s H E).calm = true := rfl
  have hN : (cxOf (L2N.CX P w) P w K mg base N_L_both_ways "_law_both_ways" (defScope s_L_both_ways) fa cdv A outer s H E).N.Nodup := sc_L_both_ways.nd
  have hu := hr.units
  exact (jss_cons (js_set 2 hN (j_make (h_mk_Ratio_0.mono (by decide : 4 ≤ 33)) hr tk (jx_v (j_var 0) (jx_v (j_var 1) jx_nil)))) (jss_cons (js_set 3 hN (j_call (h_L_text.mono (by decide : 1 ≤ 34)) hr tk (jx_v (j_var 0) (jx_v (j_var 1) jx_nil)))) (jss_cons (js_set 4 hN (j_strO (T_un_str_ok h_un_Ratio_str (by decide)) M.dig hr tk (M.fr "str" (by decide +kernel)) (j_var 2))) (jss_cons (js_if (JW.t (jw_or (jt_not (jt_tru (JE.toO (j_isi (T := "str") (M.fr "isinstance" (by decide +kernel)) (M.fr "str" (by decide +kernel)) (by decide +kernel) (JE.toO (j_var 4)))))) (jw_or1 (jt_cmp (op_neD hu) opS_ne (j_var 4) (JE.toO (j_var 3)) (nomark _))))) (jss_one (js_ret j_bl)) jss_nil) (jss_cons (js_if (jt_cmp (op_neD hu) opS_ne (j_call (h_L_told.mono (by decide : 34 ≤ 34)) hr tk (jx_v j_str (jx_v (j_var 3) (jx_v j_non jx_nil)))) (JE.toO (j_tup (ja_cons j_str (ja_cons (j_var 0) (ja_cons (j_var 1) ja_nil))))) (nomark _)) (jss_one (js_ret j_bl)) jss_nil) (jss_one (js_ret (j_and (j_eqO rfl (op_eqD hu) opS_eq (T_eq_eq_ok h_eq_Ratio (by decide)) hr tk (j_call (h_L_pair.mono (by decide : 2 ≤ 34)) hr tk (jx_v (j_var 2) jx_nil)) (j_tup (ja_cons j_str (ja_cons (j_var 0) (ja_cons (j_var 1) ja_nil)))) (nomark _)) (j_one (j_eqO rfl (op_eqD hu) opS_eq (T_eq_eq_ok h_eq_Ratio (by decide)) hr tk (j_strO (T_un_str_ok h_un_Ratio_str (by decide)) M.dig hr tk (M.fr "str" (by decide +kernel)) (j_var 2)) (j_var 3) (nomark _)))))))))))
theorem fo_L_both_ways {fa : Addr} {fd : FuncData} {dvs : List V} (F : FunD K "_law_both_ways" "_law_both_ways" (defArgs s_L_both_ways) (defBody s_L_both_ways) (defScope s_L_both_ways) dvs [] fa fd) (M : MF K mg) (h_mk_Ratio_0 : MkJ P w K mg base 4 "Ratio" 3 [] F_M_Ratio_init) (h_L_text : FnJ P w K mg base 1 "_law_text" 2 F_L_text) (h_un_Ratio_str : UnJ P w K mg base 1 "__str__" "Ratio" F_M_Ratio_str) (h_L_told : FnJ P w K mg base 34 "_law_told" 3 F_L_told) (h_eq_Ratio : EqJ P w K mg base 1 "Ratio" F_M_Ratio_eq) (h_L_pair : FnJ P w K mg base 2 "_law_pair" 1 F_L_pair) : FnOk P w K mg base (L2N.CX P w) 35 fa fd ps_L_both_ways (spJ K 2 F_L_both_ways) := by
  obtain ⟨oc, od, dV, kV, doc, pm, an, cdv, ct, osl, rfl, lk, hcd, _, _⟩ := F.ex
  exact fn_J lk hcd sc_L_both_ways fun A outer s H E hr tk hp => b_L_both_ways M h_mk_Ratio_0 h_L_text h_un_Ratio_str h_L_told h_eq_Ratio h_L_pair hr tk hp
theorem bn_L_both_ways {fa : Addr} {fd : FuncData} (F : FunD K "_law_both_ways" "_law_both_ways" (defArgs s_L_both_ways) (defBody s_L_both_ways) (defScope s_L_both_ways) [] [] fa fd) : Binds K fd ps_L_both_ways [] := F.bindsN fun _ _ _ _ _ _ us hl => match us, hl with | [_, _], _ => rfl
theorem sc_law : FnScope N_law ps_law (defScope s_law) := ⟨rfl, rfl, rfl, by decide +kernel, rfl, by decide +kernel, by decide +kernel⟩
theorem b_law {fa : Addr} {cdv : Value} {A : Around} {outer : List PySem.Env} {s : Shared} {H : Hp} {E : XK} (M : MF K mg) (h_L_tape : FnJ P w K mg base 1 "_law_tape" 1 F_L_tape) (h_L_lowest : FnJ P w K mg base 2 "_law_lowest" 2 F_L_lowest) (h_L_text : FnJ P w K mg base 1 "_law_text" 2 F_L_text) (h_L_take : FnJ P w K mg base 1 "_law_take" 3 F_L_take) (h_L_edge : FnJ P w K mg base 1 "_law_edge" 2 F_L_edge) (h_L_number : FnJ P w K mg base 2 "_law_number" 2 F_L_number) (h_L_both_ways : FnJ P w K mg base 35 "_law_both_ways" 2 F_L_both_ways) (h_L_spoilt : FnJ P w K mg base 3 "_law_spoilt" 3 F_L_spoilt) (h_L_told : FnJ P w K mg base 34 "_law_told" 3 F_L_told) (h_L_wide_totals : FnJ P w K mg base 35 "_law_wide_totals" 1 F_L_wide_totals) (h_L_reading : FnJ P w K mg base 2 "_law_reading" 1 F_L_reading) (h_L_made : FnJ P w K mg base 35 "_law_made" 1 F_L_made) (h_L_results : FnJ P w K mg base 35 "_law_results" 1 F_L_results) (hr : Room 35 (A.deeper (envOfC "law" (defScope s_law) s.heap.objs.size fa cdv))) (tk : L2N.Takes (cxOf (L2N.CX P w) P w K mg base N_law "law" (defScope s_law) fa cdv A outer s H E) (fun c d _ H => E c d H)) (hp : PassesOwn (model P w) (cxOf (L2N.CX P w) P w K mg base N_law "law" (defScope s_law) fa cdv A outer s H E).A (cxOf (L2N.CX P w) P w K mg base N_law "law" (defScope s_law) fa cdv A outer s H E).env (cxOf (L2N.CX P w) P w K mg base N_law "law" (defScope s_law) fa cdv A outer s H E).xe) :
    JSs (cxOf (L2N.CX P w) P w K mg base N_law "law" (defScope s_law) fa cdv A outer s H E) (fun c d _ H => E c d H) (defBody s_law) f_law := by
  have hc : (cxOf (L2N.CX P w) P w K mg base N_law "law" (defScope s_law) fa cdv A outer s H E).calm = true := rfl
  have hN : (cxOf (L2N.CX P w) P w K mg base N_law "law" (defScope s_law) fa cdv A outer s H E).N.Nodup := sc_law.nd
  have hu := hr.units
  exact (jss_cons (js_setL 1 hN (jl_call (h_L_tape.mono (by decide : 1 ≤ 35)) hr tk (jx_v (j_var 0) jx_nil))) (jss_cons (js_set 2 hN (j_mulT (j_ix (JL.toE (jl_lst (ja_cons j_int (ja_cons (j_neg j_int) ja_nil)))) (JE.toO (j_call (h_L_take.mono (by decide : 1 ≤ 35)) hr tk (jx_o 1 (jx_v j_int (jx_v j_int jx_nil)))))) (JE.toO (j_call (h_L_number.mono (by decide : 2 ≤ 35)) hr tk (jx_o 1 (jx_v j_int jx_nil)))))) (jss_cons (js_asg (j_call (h_L_lowest.mono (by decide : 2 ≤ 35)) hr tk (jx_v (j_var 2) (jx_v (j_b2 (call_max2 hc) c2_I (M.fr "max" (by decide +kernel)) (by decide +kernel) j_int (JE.toO (j_call (h_L_number.mono (by decide : 2 ≤ 35)) hr tk (jx_o 1 (jx_v j_int jx_nil))))) jx_nil))) (jg_tup hc (jgs_cons (jg_name 3 hN) (jgs_cons (jg_name 4 hN) jgs_nil)) (gs_lenS (gs_lenS gs_len0)))) (jss_cons (js_if (jt_not (jt_tru (JE.toO (j_call (h_L_both_ways.mono (by decide : 35 ≤ 35)) hr tk (jx_v (j_var 3) (jx_v (j_var 4) jx_nil)))))) (jss_one (js_ret j_bl)) jss_nil) (jss_cons (js_set 5 hN (j_call (h_L_text.mono (by decide : 1 ≤ 35)) hr tk (jx_v (j_var 3) (jx_v (j_var 4) jx_nil)))) (jss_cons (js_setL 6 hN (jl_lst (ja_cons (j_call (h_L_spoilt.mono (by decide : 3 ≤ 35)) hr tk (jx_o 1 (jx_v (j_var 5) (jx_v j_int jx_nil)))) (ja_cons (j_call (h_L_spoilt.mono (by decide : 3 ≤ 35)) hr tk (jx_o 1 (jx_v (j_var 5) (jx_v j_int jx_nil)))) (ja_cons (j_var 5) ja_nil))))) (jss_cons (js_set 7 hN (j_ix (JL.toE (jl_lst (ja_cons j_int (ja_cons (j_neg j_int) ja_nil)))) (JE.toO (j_call (h_L_take.mono (by decide : 1 ≤ 35)) hr tk (jx_o 1 (jx_v j_int (jx_v j_int jx_nil))))))) (jss_cons (js_set 2 hN (j_mulT (j_call (h_L_take.mono (by decide : 1 ≤ 35)) hr tk (jx_o 1 (jx_v j_int (jx_v j_int jx_nil)))) (JE.toO j_int))) (jss_cons (js_set 2 hN (j_add (j_var 2) (JE.toO (j_call (h_L_take.mono (by decide : 1 ≤ 35)) hr tk (jx_o 1 (jx_v j_int (jx_v j_int jx_nil))))))) (jss_cons (js_set 8 hN (j_add j_int (JE.toO (j_mulT (j_call (h_L_take.mono (by decide : 1 ≤ 35)) hr tk (jx_o 1 (jx_v j_int (jx_v j_int jx_nil)))) (JE.toO j_int))))) (jss_cons (js_set 8 hN (j_add (j_var 8) (JE.toO (j_call (h_L_take.mono (by decide : 1 ≤ 35)) hr tk (jx_o 1 (jx_v j_int (jx_v j_int jx_nil))))))) (jss_cons (js_asg (j_call (h_L_lowest.mono (by decide : 2 ≤ 35)) hr tk (jx_v (j_mulT (j_var 7) (JE.toO (j_var 2))) (jx_v (j_var 8) jx_nil))) (jg_tup hc (jgs_cons (jg_name 3 hN) (jgs_cons (jg_name 4 hN) jgs_nil)) (gs_lenS (gs_lenS gs_len0)))) (jss_cons (js_if (jt_not (jt_tru (JE.toO (j_call (h_L_both_ways.mono (by decide : 35 ≤ 35)) hr tk (jx_v (j_var 3) (jx_v (j_var 4) jx_nil)))))) (jss_one (js_ret j_bl)) jss_nil) (jss_cons (js_set 9 hN (j_call (h_L_text.mono (by decide : 1 ≤ 35)) hr tk (jx_v (j_var 3) (jx_v (j_var 4) jx_nil)))) (jss_cons (js_app 6 (j_var 9)) (jss_cons (js_for hp hc (ji_range1 (M.fr "range" (by decide +kernel)) j_int) (jg_name 10 hN) (jss_one (js_app 6 (j_call (h_L_spoilt.mono (by decide : 3 ≤ 35)) hr tk (jx_o 1 (jx_v (j_var 9) (jx_v (j_mulT j_int (JE.toO (j_var 10))) jx_nil))))))) (jss_cons (js_app 6 (j_call (h_L_spoilt.mono (by decide : 3 ≤ 35)) hr tk (jx_o 1 (jx_v (j_ixB (j_bor 6) (jq_neg jq_int)) (jx_v j_int jx_nil))))) (jss_cons (js_app 6 (j_var 9)) (JSs.pub 6 (jss_cons (js_for hp hc (ji_seq (j_var 6)) (jg_name 11 hN) (jss_one (js_if (jt_cmp (op_neD hu) opS_ne (j_call (h_L_told.mono (by decide : 34 ≤ 35)) hr tk (jx_v j_str (jx_v (j_var 11) (jx_v j_non jx_nil)))) (JE.toO (j_call (h_L_reading.mono (by decide : 2 ≤ 35)) hr tk (jx_v (j_var 11) jx_nil))) (nomark _)) (jss_one (js_ret j_bl)) jss_nil))) (jss_cons (js_set 12 hN (j_call (h_L_take.mono (by decide : 1 ≤ 35)) hr tk (jx_o 1 (jx_v j_int (jx_v j_int jx_nil))))) (jss_cons (js_asg (j_call (h_L_edge.mono (by decide : 1 ≤ 35)) hr tk (jx_v (j_var 12) (jx_v (j_add j_int (JE.toO (j_call (h_L_take.mono (by decide : 1 ≤ 35)) hr tk (jx_o 1 (jx_v j_int (jx_v j_int jx_nil)))))) jx_nil))) (jg_tup hc (jgs_cons (jg_name 11 hN) (jgs_cons (jg_name 13 hN) jgs_nil)) (gs_lenS (gs_lenS gs_len0)))) (jss_cons (js_if (jt_cmp (op_neD hu) opS_ne (j_call (h_L_told.mono (by decide : 34 ≤ 35)) hr tk (jx_v j_str (jx_v (j_var 11) (jx_v j_non jx_nil)))) (JE.toO (j_var 13)) (nomark _)) (jss_one (js_ret j_bl)) jss_nil) (jss_cons (js_set 14 hN (j_add j_int (JE.toO (j_call (h_L_take.mono (by decide : 1 ≤ 35)) hr tk (jx_o 1 (jx_v j_int (jx_v j_int jx_nil))))))) (jss_cons (js_if (JW.t (jw_or (jt_not (jt_tru (JE.toO (j_call (h_L_made.mono (by decide : 35 ≤ 35)) hr tk (jx_v (j_var 14) jx_nil))))) (jw_or1 (jt_not (jt_tru (JE.toO (j_call (h_L_results.mono (by decide : 35 ≤ 35)) hr tk (jx_v (j_var 14) jx_nil)))))))) (jss_one (js_ret j_bl)) jss_nil) (jss_cons (js_if (jt_not (jt_tru (JE.toO (j_call (h_L_wide_totals.mono (by decide : 35 ≤ 35)) hr tk (jx_v (j_var 14) jx_nil))))) (jss_one (js_ret j_bl)) jss_nil) (jss_one (js_ret (j_cmp (op_eqD hu) opS_eq (j_call (h_L_told.mono (by decide : 34 ≤ 35)) hr tk (jx_v j_str (jx_v (j_var 9) (jx_v j_non jx_nil)))) (JE.toO (j_tup (ja_cons j_str (ja_cons (j_var 3) (ja_cons (j_var 4) ja_nil))))) (nomark _))))))))))))))))))))))))))))))
theorem fo_law {fa : Addr} {fd : FuncData} {dvs : List V} (F : FunD K "law" "law" (defArgs s_law) (defBody s_law) (defScope s_law) dvs [] fa fd) (M : MF K mg) (h_L_tape : FnJ P w K mg base 1 "_law_tape" 1 F_L_tape) (h_L_lowest : FnJ P w K mg base 2 "_law_lowest" 2 F_L_lowest) (h_L_text : FnJ P w K mg base 1 "_law_text" 2 F_L_text) (h_L_take : FnJ P w K mg base 1 "_law_take" 3 F_L_take) (h_L_edge : FnJ P w K mg base 1 "_law_edge" 2 F_L_edge) (h_L_number : FnJ P w K mg base 2 "_law_number" 2 F_L_number) (h_L_both_ways : FnJ P w K mg base 35 "_law_both_ways" 2 F_L_both_ways) (h_L_spoilt : FnJ P w K mg base 3 "_law_spoilt" 3 F_L_spoilt) (h_L_told : FnJ P w K mg base 34 "_law_told" 3 F_L_told) (h_L_wide_totals : FnJ P w K mg base 35 "_law_wide_totals" 1 F_L_wide_totals) (h_L_reading : FnJ P w K mg base 2 "_law_reading" 1 F_L_reading) (h_L_made : FnJ P w K mg base 35 "_law_made" 1 F_L_made) (h_L_results : FnJ P w K mg base 35 "_law_results" 1 F_L_results) : FnOk P w K mg base (L2N.CX P w) 36 fa fd ps_law (spJ K 1 F_law) := by
  obtain ⟨oc, od, dV, kV, doc, pm, an, cdv, ct, osl, rfl, lk, hcd, _, _⟩ := F.ex
  exact fn_J lk hcd sc_law fun A outer s H E hr tk hp => b_law M h_L_tape h_L_lowest h_L_text h_L_take h_L_edge h_L_number h_L_both_ways h_L_spoilt h_L_told h_L_wide_totals h_L_reading h_L_made h_L_results hr tk hp
theorem bn_law {fa : Addr} {fd : FuncData} (F : FunD K "law" "law" (defArgs s_law) (defBody s_law) (defScope s_law) [] [] fa fd) : Binds K fd ps_law [] := F.bindsN fun _ _ _ _ _ _ us hl => match us, hl with | [_], _ => rfl
abbrev si_NumberError : Stmt := memOf 0 (top 5)
def ds_NumberError : DefS := ⟨"NumberError", "__init__", "NumberError.__init__", defArgs si_NumberError, defBody si_NumberError, defScope si_NumberError, PySem.Challenge.pw_nodearer_k02_ratio_text_and_bounds.main.file⟩
abbrev si_SizeError : Stmt := memOf 0 (top 4)
def ds_SizeError : DefS := ⟨"SizeError", "__init__", "SizeError.__init__", defArgs si_SizeError, defBody si_SizeError, defScope si_SizeError, PySem.Challenge.pw_nodearer_k02_ratio_text_and_bounds.main.file⟩
abbrev si_TextError : Stmt := memOf 0 (top 6)
def ds_TextError : DefS := ⟨"TextError", "__init__", "TextError.__init__", defArgs si_TextError, defBody si_TextError, defScope si_TextError, PySem.Challenge.pw_nodearer_k02_ratio_text_and_bounds.main.file⟩
def d_L_tape : He5.DefA := ⟨atG "_law_tape", "_law_tape", "_law_tape", defArgs s_L_tape, defBody s_L_tape, defScope s_L_tape, [], []⟩
def d_L_take : He5.DefA := ⟨atG "_law_take", "_law_take", "_law_take", defArgs s_L_take, defBody s_L_take, defScope s_L_take, [], []⟩
def d_L_int : He5.DefA := ⟨atG "_law_int", "_law_int", "_law_int", defArgs s_L_int, defBody s_L_int, defScope s_L_int, [], []⟩
def d_L_common : He5.DefA := ⟨atG "_law_common", "_law_common", "_law_common", defArgs s_L_common, defBody s_L_common, defScope s_L_common, [], []⟩
def d_L_text : He5.DefA := ⟨atG "_law_text", "_law_text", "_law_text", defArgs s_L_text, defBody s_L_text, defScope s_L_text, [], []⟩
def d_L_class : He5.DefA := ⟨atG "_law_class", "_law_class", "_law_class", defArgs s_L_class, defBody s_L_class, defScope s_L_class, [], []⟩
def d_L_bounded : He5.DefA := ⟨atG "_law_bounded", "_law_bounded", "_law_bounded", defArgs s_L_bounded, defBody s_L_bounded, defScope s_L_bounded, [], []⟩
def d_L_edge : He5.DefA := ⟨atG "_law_edge", "_law_edge", "_law_edge", defArgs s_L_edge, defBody s_L_edge, defScope s_L_edge, [], []⟩
def d_M_Ratio_eq : He5.DefA := ⟨atM "Ratio" "__eq__", "__eq__", "Ratio.__eq__", defArgs s_M_Ratio_eq, defBody s_M_Ratio_eq, defScope s_M_Ratio_eq, [], []⟩
def d_M_Ratio_str : He5.DefA := ⟨atM "Ratio" "__str__", "__str__", "Ratio.__str__", defArgs s_M_Ratio_str, defBody s_M_Ratio_str, defScope s_M_Ratio_str, [], []⟩
def d_L_number : He5.DefA := ⟨atG "_law_number", "_law_number", "_law_number", defArgs s_L_number, defBody s_L_number, defScope s_L_number, [], []⟩
def d_L_lowest : He5.DefA := ⟨atG "_law_lowest", "_law_lowest", "_law_lowest", defArgs s_L_lowest, defBody s_L_lowest, defScope s_L_lowest, [], []⟩
def d_L_character : He5.DefA := ⟨atG "_law_character", "_law_character", "_law_character", defArgs s_L_character, defBody s_L_character, defScope s_L_character, [], []⟩
def d_L_reading : He5.DefA := ⟨atG "_law_reading", "_law_reading", "_law_reading", defArgs s_L_reading, defBody s_L_reading, defScope s_L_reading, [], []⟩
def d_L_pair : He5.DefA := ⟨atG "_law_pair", "_law_pair", "_law_pair", defArgs s_L_pair, defBody s_L_pair, defScope s_L_pair, [], []⟩
def d_look_number : He5.DefA := ⟨atG "look_number", "look_number", "look_number", defArgs s_look_number, defBody s_look_number, defScope s_look_number, [], []⟩
def d_look_size : He5.DefA := ⟨atG "look_size", "look_size", "look_size", defArgs s_look_size, defBody s_look_size, defScope s_look_size, [], []⟩
def d_P_behind_digits : He5.DefA := ⟨atG "_behind_digits", "_behind_digits", "_behind_digits", defArgs s_P_behind_digits, defBody s_P_behind_digits, defScope s_P_behind_digits, [], []⟩
def d_L_spoilt : He5.DefA := ⟨atG "_law_spoilt", "_law_spoilt", "_law_spoilt", defArgs s_L_spoilt, defBody s_L_spoilt, defScope s_L_spoilt, [], []⟩
def d_P_ratio_parts : He5.DefA := ⟨atG "_ratio_parts", "_ratio_parts", "_ratio_parts", defArgs s_P_ratio_parts, defBody s_P_ratio_parts, defScope s_P_ratio_parts, [], []⟩
def d_P_read_parts : He5.DefA := ⟨atG "_read_parts", "_read_parts", "_read_parts", defArgs s_P_read_parts, defBody s_P_read_parts, defScope s_P_read_parts, [], []⟩
def d_M_Ratio_init : He5.DefA := ⟨atM "Ratio" "__init__", "__init__", "Ratio.__init__", defArgs s_M_Ratio_init, defBody s_M_Ratio_init, defScope s_M_Ratio_init, [.int 1], []⟩
def d_P_ratio_lowest : He5.DefA := ⟨atG "_ratio_lowest", "_ratio_lowest", "_ratio_lowest", defArgs s_P_ratio_lowest, defBody s_P_ratio_lowest, defScope s_P_ratio_lowest, [], []⟩
def d_M_Ratio_neg : He5.DefA := ⟨atM "Ratio" "__neg__", "__neg__", "Ratio.__neg__", defArgs s_M_Ratio_neg, defBody s_M_Ratio_neg, defScope s_M_Ratio_neg, [], []⟩
def d_M_Ratio_read : He5.DefA := ⟨atS "Ratio" "read", "read", "Ratio.read", defArgs s_M_Ratio_read, defBody s_M_Ratio_read, defScope s_M_Ratio_read, [], []⟩
def d_M_Ratio_add : He5.DefA := ⟨atM "Ratio" "__add__", "__add__", "Ratio.__add__", defArgs s_M_Ratio_add, defBody s_M_Ratio_add, defScope s_M_Ratio_add, [], []⟩
def d_M_Ratio_sub : He5.DefA := ⟨atM "Ratio" "__sub__", "__sub__", "Ratio.__sub__", defArgs s_M_Ratio_sub, defBody s_M_Ratio_sub, defScope s_M_Ratio_sub, [], []⟩
def d_M_Ratio_mul : He5.DefA := ⟨atM "Ratio" "__mul__", "__mul__", "Ratio.__mul__", defArgs s_M_Ratio_mul, defBody s_M_Ratio_mul, defScope s_M_Ratio_mul, [], []⟩
def d_M_Ratio_over : He5.DefA := ⟨atM "Ratio" "over", "over", "Ratio.over", defArgs s_M_Ratio_over, defBody s_M_Ratio_over, defScope s_M_Ratio_over, [], []⟩
def d_M_Ratio_total : He5.DefA := ⟨atS "Ratio" "total", "total", "Ratio.total", defArgs s_M_Ratio_total, defBody s_M_Ratio_total, defScope s_M_Ratio_total, [], []⟩
def d_L_told : He5.DefA := ⟨atG "_law_told", "_law_told", "_law_told", defArgs s_L_told, defBody s_L_told, defScope s_L_told, [], []⟩
def d_L_made : He5.DefA := ⟨atG "_law_made", "_law_made", "_law_made", defArgs s_L_made, defBody s_L_made, defScope s_L_made, [], []⟩
def d_L_results : He5.DefA := ⟨atG "_law_results", "_law_results", "_law_results", defArgs s_L_results, defBody s_L_results, defScope s_L_results, [], []⟩
def d_L_wide_totals : He5.DefA := ⟨atG "_law_wide_totals", "_law_wide_totals", "_law_wide_totals", defArgs s_L_wide_totals, defBody s_L_wide_totals, defScope s_L_wide_totals, [], []⟩
def d_L_both_ways : He5.DefA := ⟨atG "_law_both_ways", "_law_both_ways", "_law_both_ways", defArgs s_L_both_ways, defBody s_L_both_ways, defScope s_L_both_ways, [], []⟩
def d_law : He5.DefA := ⟨atG "law", "law", "law", defArgs s_law, defBody s_law, defScope s_law, [], []⟩
def fn : List He5.DefA := [d_L_tape, d_L_take, d_L_int, d_L_common, d_L_text, d_L_class, d_L_bounded, d_L_edge, d_M_Ratio_eq, d_M_Ratio_str, d_L_number, d_L_lowest, d_L_character, d_L_reading, d_L_pair, d_look_number, d_look_size, d_P_behind_digits, d_L_spoilt, d_P_ratio_parts, d_P_read_parts, d_M_Ratio_init, d_P_ratio_lowest, d_M_Ratio_neg, d_M_Ratio_read, d_M_Ratio_add, d_M_Ratio_sub, d_M_Ratio_mul, d_M_Ratio_over, d_M_Ratio_total, d_L_told, d_L_made, d_L_results, d_L_wide_totals, d_L_both_ways, d_law]
def fs : List DefS := [ds_NumberError, ds_SizeError, ds_TextError]
def glos : List Str := (["_law_tape", "_law_take", "_law_int", "_law_common", "_law_text", "_law_class", "_law_bounded", "_law_edge", "_law_number", "_law_lowest", "_law_character", "_law_reading", "_law_pair", "look_number", "look_size"] : List PySem.Str) ++ (["_behind_digits", "_law_spoilt", "_ratio_parts", "_read_parts", "_ratio_lowest", "_law_told", "_law_made", "_law_results", "_law_wide_totals", "_law_both_ways", "law", "NodearerError", "NumberError", "SizeError", "TextError"] : List PySem.Str) ++ (["Ratio"] : List PySem.Str)
def fis : List He.Fa := [.int "MOST" gi_MOST, .int "MOST_DIGITS" gi_MOST_DIGITS, .int "MOST_SIGNS" gi_MOST_SIGNS, .int "MOST_TOTAL" gi_MOST_TOTAL, .int "MOST_TOTAL_DEN" gi_MOST_TOTAL_DEN, .str "DIGITS" "0123456789"]
def fas : List He.Fa := [.cls "Ratio", .noat "Ratio" "den", .noat "Ratio" "num", .mkr "Ratio", .meth "Ratio" "over"]
def fa : List He.Fa := glos.map .glo ++ (frs.map .free ++ (fis ++ fas))
def fx_TextError : List Fc := tb_TextError.map fun p => .old (.exm p.1 "TextError" p.2)
def fx_SizeError : List Fc := tb_SizeError.map fun p => .old (.exm p.1 "SizeError" p.2)
def fx_NumberError : List Fc := tb_NumberError.map fun p => .old (.exm p.1 "NumberError" p.2)
def fb0 : List Fc := [.old .any, .old (.exc "NumberError"), .old (.exc "SizeError"), .old (.exc "TextError"), .old (.sup "NumberError"), .old (.sup "SizeError"), .old (.sup "TextError"), .old (.noat "NumberError" "number"), .old (.noat "SizeError" "count"), .old (.noat "TextError" "line"), .old (.noat "TextError" "column"), .old (.kit1 "TextError" (.own "NodearerError") true), .old (.kitN "TextError" [.own "SizeError", .own "NumberError"] false), .old (.kit1 "SizeError" (.own "NodearerError") true), .old (.kit1 "SizeError" (.own "NumberError") false), .old (.kit1 "NumberError" (.own "NodearerError") true), .old (.kit1 "NumberError" (.ty "ValueError") true), .ins "Ratio", .old (.kit1 "Ratio" (.own "Ratio") true), .kitT "NoneType" "Ratio" false, .kitT "bool" "Ratio" false, .kitT "int" "Ratio" false, .kitT "str" "Ratio" false, .kitT "tuple" "Ratio" false, .kitT "list" "Ratio" false, .blt "gcd" "math.gcd", .blt "lcm" "math.lcm", .cm "Ratio" "__eq__", .st "Ratio" "read", .st "Ratio" "total", .op "Ratio" "add", .op "Ratio" "sub", .op "Ratio" "mul", .un "Ratio" "__neg__", .un "Ratio" "__str__", .dig, .seer]
def fb : List Fc := fb0 ++ fx_TextError ++ fx_SizeError ++ fx_NumberError
def loose : List PySem.Str := (["gcd", "lcm", "_wall", "NodearerError", "SizeError", "NumberError", "TextError", "look_number", "look_size", "MOST", "MOST_DIGITS", "MOST_SIGNS", "MOST_TOTAL", "MOST_TOTAL_DEN", "DIGITS"] : List PySem.Str) ++ (["Ratio", "_ratio_parts", "_ratio_lowest", "_behind_digits", "_read_parts", "_law_tape", "_law_take", "_law_number", "_law_int", "_law_common", "_law_lowest", "_law_text", "_law_character", "_law_spoilt", "_law_class"] : List PySem.Str) ++ (["_law_reading", "_law_bounded", "_law_pair", "_law_told", "_law_edge", "_law_made", "_law_results", "_law_wide_totals", "_law_both_ways"] : List PySem.Str)
abbrev R : PySem.W.OpenRow := PySem.W.OpenLaw.row PySem.Challenge.rw_nodearer_k02_ratio_text_and_bounds
abbrev hk : PySem.W.Hook := hookK 7 fa fb fn fs
def ob (s : PySem.W.SharedT) : AlK := obsKG 7 fa fb fn fs (HandSHeadRun.getT s)
theorem ob_eq (s : PySem.W.SharedT) : ob s = hk.obs s.abs := obsKG_eq (HandSHeadRun.getT_eq s)
theorem run (w : World) : HandSHeadRun.RunEqI R (PySem.W.view R.prog [0, 42]) hk ob 4000 loose w := by
  unfold HandSHeadRun.RunEqI
  kernel_rfl
theorem gfact (c : SaysK fa fb fn fs K) {x : Str} (h : x ∈ glos) : (He.Fa.glo x).ok K = true := c.alls.1 _ (List.mem_append_left _ (List.mem_map_of_mem h))
theorem ffact (c : SaysK fa fb fn fs K) {x : Str} (h : x ∈ frs) : (He.Fa.free x).ok K = true := c.alls.1 _ (List.mem_append_right _ (List.mem_append_left _ (List.mem_map_of_mem h)))
theorem ifact (c : SaysK fa fb fn fs K) (i : Nat) {f : He.Fa} (h : fis[i]? = some f := by rfl) : f.ok K = true := c.alls.1 _ (List.mem_append_right _ (List.mem_append_right _ (List.mem_append_left _ (List.mem_of_getElem? h))))
theorem afact (c : SaysK fa fb fn fs K) (i : Nat) {f : He.Fa} (h : fas[i]? = some f := by rfl) : f.ok K = true := c.alls.1 _ (List.mem_append_right _ (List.mem_append_right _ (List.mem_append_right _ (List.mem_of_getElem? h))))
theorem bfact (c : SaysK fa fb fn fs K) (i : Nat) {f : Fc} (h : fb0[i]? = some f := by rfl) : f.ok K = true := c.alls.2.1 f (List.mem_append_left _ (List.mem_append_left _ (List.mem_append_left _ (List.mem_of_getElem? h))))
theorem xfact_TextError (c : SaysK fa fb fn fs K) : ∀ p ∈ tb_TextError, PySem.W.exmOne K (.ref (He.ga K p.1)) (.ref (He.ga K "TextError")) = some p.2 := fun p hp => of_decide_eq_true (c.alls.2.1 (.old (.exm p.1 "TextError" p.2)) (List.mem_append_left _ (List.mem_append_left _ (List.mem_append_right _ (List.mem_map_of_mem hp)))))
theorem xfact_SizeError (c : SaysK fa fb fn fs K) : ∀ p ∈ tb_SizeError, PySem.W.exmOne K (.ref (He.ga K p.1)) (.ref (He.ga K "SizeError")) = some p.2 := fun p hp => of_decide_eq_true (c.alls.2.1 (.old (.exm p.1 "SizeError" p.2)) (List.mem_append_left _ (List.mem_append_right _ (List.mem_map_of_mem hp))))
theorem xfact_NumberError (c : SaysK fa fb fn fs K) : ∀ p ∈ tb_NumberError, PySem.W.exmOne K (.ref (He.ga K p.1)) (.ref (He.ga K "NumberError")) = some p.2 := fun p hp => of_decide_eq_true (c.alls.2.1 (.old (.exm p.1 "NumberError" p.2)) (List.mem_append_right _ (List.mem_map_of_mem hp)))
theorem mf {h : Heap} (KX : K.In h) (G : h.Ns mainGlobals mg) (c : SaysK fa fb fn fs K) : MF K mg where
  fr := fun x hx => He.free_ok KX G (ffact c hx)
  i_MOST := He.int_ok KX G (ifact c 0 (f := .int "MOST" gi_MOST))
  i_MOST_DIGITS := He.int_ok KX G (ifact c 1 (f := .int "MOST_DIGITS" gi_MOST_DIGITS))
  i_MOST_SIGNS := He.int_ok KX G (ifact c 2 (f := .int "MOST_SIGNS" gi_MOST_SIGNS))
  i_MOST_TOTAL := He.int_ok KX G (ifact c 3 (f := .int "MOST_TOTAL" gi_MOST_TOTAL))
  i_MOST_TOTAL_DEN := He.int_ok KX G (ifact c 4 (f := .int "MOST_TOTAL_DEN" gi_MOST_TOTAL_DEN))
  s_DIGITS := He.str_ok KX G (ifact c 5 (f := .str "DIGITS" "0123456789"))
  cl_NodearerError := He.glo_ok KX G (gfact c (by decide +kernel))
  cl_NumberError := He.glo_ok KX G (gfact c (by decide +kernel))
  cl_SizeError := He.glo_ok KX G (gfact c (by decide +kernel))
  cl_TextError := He.glo_ok KX G (gfact c (by decide +kernel))
  exm_TextError := xfact_TextError c
  exm_SizeError := xfact_SizeError c
  exm_NumberError := xfact_NumberError c
  fld_NumberError_number := ⟨excB_xf (bfact c 1 (f := .old (.exc "NumberError"))), He.eqO_ok (bfact c 7 (f := .old (.noat "NumberError" "number")))⟩
  fld_SizeError_count := ⟨excB_xf (bfact c 2 (f := .old (.exc "SizeError"))), He.eqO_ok (bfact c 8 (f := .old (.noat "SizeError" "count")))⟩
  fld_TextError_column := ⟨excB_xf (bfact c 3 (f := .old (.exc "TextError"))), He.eqO_ok (bfact c 10 (f := .old (.noat "TextError" "column")))⟩
  fld_TextError_line := ⟨excB_xf (bfact c 3 (f := .old (.exc "TextError"))), He.eqO_ok (bfact c 9 (f := .old (.noat "TextError" "line")))⟩
  exc_NumberError := excB_exc (bfact c 1 (f := .old (.exc "NumberError")))
  exc_SizeError := excB_exc (bfact c 2 (f := .old (.exc "SizeError")))
  exc_TextError := excB_exc (bfact c 3 (f := .old (.exc "TextError")))
  kit_0 := of_decide_eq_true (bfact c 11 (f := .old (.kit1 "TextError" (.own "NodearerError") true)))
  kit_1 := of_decide_eq_true (bfact c 12 (f := .old (.kitN "TextError" [.own "SizeError", .own "NumberError"] false)))
  kit_2 := of_decide_eq_true (bfact c 13 (f := .old (.kit1 "SizeError" (.own "NodearerError") true)))
  kit_3 := of_decide_eq_true (bfact c 14 (f := .old (.kit1 "SizeError" (.own "NumberError") false)))
  kit_4 := of_decide_eq_true (bfact c 15 (f := .old (.kit1 "NumberError" (.own "NodearerError") true)))
  kit_5 := of_decide_eq_true (bfact c 16 (f := .old (.kit1 "NumberError" (.ty "ValueError") true)))
  dig := bfact c 35 (f := .dig)
  seer := bfact c 36 (f := .seer)
  fld_den := fun c e => by
    simp only [okc_den, Bool.or_eq_true, beq_iff_eq] at e
    rcases e with rfl
    · exact ⟨He.cls_ok (afact c 0 (f := .cls "Ratio")), He.noat_ok (afact c 1 (f := .noat "Ratio" "den"))⟩
  fld_num := fun c e => by
    simp only [okc_num, Bool.or_eq_true, beq_iff_eq] at e
    rcases e with rfl
    · exact ⟨He.cls_ok (afact c 0 (f := .cls "Ratio")), He.noat_ok (afact c 2 (f := .noat "Ratio" "num"))⟩
  is_Ratio := by
    refine ⟨fun c b e => ?_, fun t h => ?_⟩
    · unfold isT_Ratio at e
      split at e
      · rename_i z; cases e; subst z; exact ⟨bfact c 17 (f := .ins "Ratio"), of_decide_eq_true (bfact c 18 (f := .old (.kit1 "Ratio" (.own "Ratio") true)))⟩
      cases e
    · simp only [isTs, List.mem_cons, List.not_mem_nil, or_false] at h
      rcases h with rfl | rfl | rfl | rfl | rfl | rfl
      · exact of_decide_eq_true (bfact c 19 (f := .kitT "NoneType" "Ratio" false))
      · exact of_decide_eq_true (bfact c 20 (f := .kitT "bool" "Ratio" false))
      · exact of_decide_eq_true (bfact c 21 (f := .kitT "int" "Ratio" false))
      · exact of_decide_eq_true (bfact c 22 (f := .kitT "str" "Ratio" false))
      · exact of_decide_eq_true (bfact c 23 (f := .kitT "tuple" "Ratio" false))
      · exact of_decide_eq_true (bfact c 24 (f := .kitT "list" "Ratio" false))
  mgc_Ratio := He.glo_ok KX G (gfact c (by decide +kernel))
  b_gcd := blt_ok KX G (bfact c 25 (f := .blt "gcd" "math.gcd"))
  b_lcm := blt_ok KX G (bfact c 26 (f := .blt "lcm" "math.lcm"))
theorem ei_NumberError {h : Heap} (KX : K.In h) (G : h.Ns mainGlobals mg) (c : SaysK fa fb fn fs K) (hP : P.main.file = PySem.Challenge.pw_nodearer_k02_ratio_text_and_bounds.main.file) (hT : (P.main.scope.names.lookup ("super" : Str)).isSome = false) : ExcJ P w K mg base 1 "NumberError" 1 Fx_NumberError := by
  have T : OexC K (He.ga K "NumberError") := excB_oex (bfact c 1 (f := .old (.exc "NumberError")))
  have S0 := bfact c 4 (f := .old (.sup "NumberError"))
  have S1 : supB K (He.ga K "NumberError") = true := S0
  unfold supB at S1
  simp only [Bool.and_eq_true] at S1
  obtain ⟨u1, u2, u3, u4, u5⟩ := S1
  obtain ⟨fd, F⟩ := c.ini 0 (d := ds_NumberError) rfl
  have bn : Binds K fd ["self", "number"] [] := F.binds fun _ _ _ _ _ _ _ us hl => match us, hl with | [_, _], _ => rfl
  obtain ⟨oc, od, kV, doc, pm, ct, cl, an, cld, cda, cc, osl, csl, ccl, cdd, vs, ccs, file, tf, rfl, lk, hcd, hcell, hcode, hvs, hfile⟩ := F.ex
  have any : PySem.W.nsIn K PySem.cStatics "thirdparty.any" = some none := He.eqO_ok (bfact c 0 (f := .old .any))
  have SF : SupF P K mg (He.ga K "NumberError") cda := ⟨any, He.eqO_ok u1, of_decide_eq_true u2, of_decide_eq_true u3, ⟨ccl, cdd, vs, ccs, file, tf, hcode, hvs, by rw [hP]; exact hfile⟩, He.free_ok KX G (ffact c (by decide +kernel)), hT⟩
  refine ⟨_, _, ["self", "number"], He.glo_ok KX G (gfact c (by decide +kernel)), T, He.eqO_ok u4, of_decide_eq_true u5, rfl, bn, ?_⟩
  refine fn_initJ (N := ["self", "number"]) (ps := ["self", "number"]) (fl := fl_NumberError) lk (fun L => rfl) (fun L => rfl) (fun L => rfl) hcd ⟨rfl, rfl, rfl, by decide +kernel, rfl, by decide +kernel, by decide +kernel, by decide +kernel, rfl, rfl⟩ T SF hcell rfl rfl (by simp [fl_NumberError]) (by simp [fl_NumberError]) (fun p hp => ?_) (fun A outer s H E => (jput_cons (j_var 1) jput_nil rfl))
  simp only [fl_NumberError, List.mem_cons, List.not_mem_nil, or_false] at hp
  rcases hp with rfl
  · exact He.eqO_ok (bfact c 7 (f := .old (.noat "NumberError" "number")))
theorem ei_SizeError {h : Heap} (KX : K.In h) (G : h.Ns mainGlobals mg) (c : SaysK fa fb fn fs K) (hP : P.main.file = PySem.Challenge.pw_nodearer_k02_ratio_text_and_bounds.main.file) (hT : (P.main.scope.names.lookup ("super" : Str)).isSome = false) : ExcJ P w K mg base 1 "SizeError" 1 Fx_SizeError := by
  have T : OexC K (He.ga K "SizeError") := excB_oex (bfact c 2 (f := .old (.exc "SizeError")))
  have S0 := bfact c 5 (f := .old (.sup "SizeError"))
  have S1 : supB K (He.ga K "SizeError") = true := S0
  unfold supB at S1
  simp only [Bool.and_eq_true] at S1
  obtain ⟨u1, u2, u3, u4, u5⟩ := S1
  obtain ⟨fd, F⟩ := c.ini 1 (d := ds_SizeError) rfl
  have bn : Binds K fd ["self", "count"] [] := F.binds fun _ _ _ _ _ _ _ us hl => match us, hl with | [_, _], _ => rfl
  obtain ⟨oc, od, kV, doc, pm, ct, cl, an, cld, cda, cc, osl, csl, ccl, cdd, vs, ccs, file, tf, rfl, lk, hcd, hcell, hcode, hvs, hfile⟩ := F.ex
  have any : PySem.W.nsIn K PySem.cStatics "thirdparty.any" = some none := He.eqO_ok (bfact c 0 (f := .old .any))
  have SF : SupF P K mg (He.ga K "SizeError") cda := ⟨any, He.eqO_ok u1, of_decide_eq_true u2, of_decide_eq_true u3, ⟨ccl, cdd, vs, ccs, file, tf, hcode, hvs, by rw [hP]; exact hfile⟩, He.free_ok KX G (ffact c (by decide +kernel)), hT⟩
  refine ⟨_, _, ["self", "count"], He.glo_ok KX G (gfact c (by decide +kernel)), T, He.eqO_ok u4, of_decide_eq_true u5, rfl, bn, ?_⟩
  refine fn_initJ (N := ["self", "count"]) (ps := ["self", "count"]) (fl := fl_SizeError) lk (fun L => rfl) (fun L => rfl) (fun L => rfl) hcd ⟨rfl, rfl, rfl, by decide +kernel, rfl, by decide +kernel, by decide +kernel, by decide +kernel, rfl, rfl⟩ T SF hcell rfl rfl (by simp [fl_SizeError]) (by simp [fl_SizeError]) (fun p hp => ?_) (fun A outer s H E => (jput_cons (j_var 1) jput_nil rfl))
  simp only [fl_SizeError, List.mem_cons, List.not_mem_nil, or_false] at hp
  rcases hp with rfl
  · exact He.eqO_ok (bfact c 8 (f := .old (.noat "SizeError" "count")))
theorem ei_TextError {h : Heap} (KX : K.In h) (G : h.Ns mainGlobals mg) (c : SaysK fa fb fn fs K) (hP : P.main.file = PySem.Challenge.pw_nodearer_k02_ratio_text_and_bounds.main.file) (hT : (P.main.scope.names.lookup ("super" : Str)).isSome = false) : ExcJ P w K mg base 1 "TextError" 2 Fx_TextError := by
  have T : OexC K (He.ga K "TextError") := excB_oex (bfact c 3 (f := .old (.exc "TextError")))
  have S0 := bfact c 6 (f := .old (.sup "TextError"))
  have S1 : supB K (He.ga K "TextError") = true := S0
  unfold supB at S1
  simp only [Bool.and_eq_true] at S1
  obtain ⟨u1, u2, u3, u4, u5⟩ := S1
  obtain ⟨fd, F⟩ := c.ini 2 (d := ds_TextError) rfl
  have bn : Binds K fd ["self", "line", "column"] [] := F.binds fun _ _ _ _ _ _ _ us hl => match us, hl with | [_, _, _], _ => rfl
  obtain ⟨oc, od, kV, doc, pm, ct, cl, an, cld, cda, cc, osl, csl, ccl, cdd, vs, ccs, file, tf, rfl, lk, hcd, hcell, hcode, hvs, hfile⟩ := F.ex
  have any : PySem.W.nsIn K PySem.cStatics "thirdparty.any" = some none := He.eqO_ok (bfact c 0 (f := .old .any))
  have SF : SupF P K mg (He.ga K "TextError") cda := ⟨any, He.eqO_ok u1, of_decide_eq_true u2, of_decide_eq_true u3, ⟨ccl, cdd, vs, ccs, file, tf, hcode, hvs, by rw [hP]; exact hfile⟩, He.free_ok KX G (ffact c (by decide +kernel)), hT⟩
  refine ⟨_, _, ["self", "line", "column"], He.glo_ok KX G (gfact c (by decide +kernel)), T, He.eqO_ok u4, of_decide_eq_true u5, rfl, bn, ?_⟩
  refine fn_initJ (N := ["self", "line", "column"]) (ps := ["self", "line", "column"]) (fl := fl_TextError) lk (fun L => rfl) (fun L => rfl) (fun L => rfl) hcd ⟨rfl, rfl, rfl, by decide +kernel, rfl, by decide +kernel, by decide +kernel, by decide +kernel, rfl, rfl⟩ T SF hcell rfl rfl (by simp [fl_TextError]) (by simp [fl_TextError]) (fun p hp => ?_) (fun A outer s H E => (jput_cons (j_var 1) (jput_cons (j_var 2) jput_nil rfl) rfl))
  simp only [fl_TextError, List.mem_cons, List.not_mem_nil, or_false] at hp
  rcases hp with rfl | rfl
  · exact He.eqO_ok (bfact c 9 (f := .old (.noat "TextError" "line")))
  · exact He.eqO_ok (bfact c 10 (f := .old (.noat "TextError" "column")))
theorem facts {h : Heap} {fL : Addr} (KX : K.In h) (G : h.Ns mainGlobals mg) (hl : mg ("law" : Str) = some (.ref fL)) (c : SaysK fa fb fn fs K) (hP : P.main.file = PySem.Challenge.pw_nodearer_k02_ratio_text_and_bounds.main.file) (hT : (P.main.scope.names.lookup ("super" : Str)).isSome = false) (hTr : P.given.tree = none) :
    ∃ fd : FuncData, (∀ (s : Shared) (v : Value), BindsTo s fd ⟨[v], []⟩ [("_law_script", v)]) ∧ ∀ base : Heap, FnOk P w K mg base (L2N.CX P w) 36 fL fd ps_law (spJ K 1 F_law) := by
  have M := mf KX G c
  obtain ⟨fd_L_tape, D_L_tape⟩ := c.def_ 0 (d := d_L_tape) rfl
  obtain ⟨fd_L_take, D_L_take⟩ := c.def_ 1 (d := d_L_take) rfl
  obtain ⟨fd_L_int, D_L_int⟩ := c.def_ 2 (d := d_L_int) rfl
  obtain ⟨fd_L_common, D_L_common⟩ := c.def_ 3 (d := d_L_common) rfl
  obtain ⟨fd_L_text, D_L_text⟩ := c.def_ 4 (d := d_L_text) rfl
  obtain ⟨fd_L_class, D_L_class⟩ := c.def_ 5 (d := d_L_class) rfl
  obtain ⟨fd_L_bounded, D_L_bounded⟩ := c.def_ 6 (d := d_L_bounded) rfl
  obtain ⟨fd_L_edge, D_L_edge⟩ := c.def_ 7 (d := d_L_edge) rfl
  obtain ⟨fd_M_Ratio_eq, D_M_Ratio_eq⟩ := c.def_ 8 (d := d_M_Ratio_eq) rfl
  obtain ⟨fd_M_Ratio_str, D_M_Ratio_str⟩ := c.def_ 9 (d := d_M_Ratio_str) rfl
  obtain ⟨fd_L_number, D_L_number⟩ := c.def_ 10 (d := d_L_number) rfl
  obtain ⟨fd_L_lowest, D_L_lowest⟩ := c.def_ 11 (d := d_L_lowest) rfl
  obtain ⟨fd_L_character, D_L_character⟩ := c.def_ 12 (d := d_L_character) rfl
  obtain ⟨fd_L_reading, D_L_reading⟩ := c.def_ 13 (d := d_L_reading) rfl
  obtain ⟨fd_L_pair, D_L_pair⟩ := c.def_ 14 (d := d_L_pair) rfl
  obtain ⟨fd_look_number, D_look_number⟩ := c.def_ 15 (d := d_look_number) rfl
  obtain ⟨fd_look_size, D_look_size⟩ := c.def_ 16 (d := d_look_size) rfl
  obtain ⟨fd_P_behind_digits, D_P_behind_digits⟩ := c.def_ 17 (d := d_P_behind_digits) rfl
  obtain ⟨fd_L_spoilt, D_L_spoilt⟩ := c.def_ 18 (d := d_L_spoilt) rfl
  obtain ⟨fd_P_ratio_parts, D_P_ratio_parts⟩ := c.def_ 19 (d := d_P_ratio_parts) rfl
  obtain ⟨fd_P_read_parts, D_P_read_parts⟩ := c.def_ 20 (d := d_P_read_parts) rfl
  obtain ⟨fd_M_Ratio_init, D_M_Ratio_init⟩ := c.def_ 21 (d := d_M_Ratio_init) rfl
  obtain ⟨fd_P_ratio_lowest, D_P_ratio_lowest⟩ := c.def_ 22 (d := d_P_ratio_lowest) rfl
  obtain ⟨fd_M_Ratio_neg, D_M_Ratio_neg⟩ := c.def_ 23 (d := d_M_Ratio_neg) rfl
  obtain ⟨fd_M_Ratio_read, D_M_Ratio_read⟩ := c.def_ 24 (d := d_M_Ratio_read) rfl
  obtain ⟨fd_M_Ratio_add, D_M_Ratio_add⟩ := c.def_ 25 (d := d_M_Ratio_add) rfl
  obtain ⟨fd_M_Ratio_sub, D_M_Ratio_sub⟩ := c.def_ 26 (d := d_M_Ratio_sub) rfl
  obtain ⟨fd_M_Ratio_mul, D_M_Ratio_mul⟩ := c.def_ 27 (d := d_M_Ratio_mul) rfl
  obtain ⟨fd_M_Ratio_over, D_M_Ratio_over⟩ := c.def_ 28 (d := d_M_Ratio_over) rfl
  obtain ⟨fd_M_Ratio_total, D_M_Ratio_total⟩ := c.def_ 29 (d := d_M_Ratio_total) rfl
  obtain ⟨fd_L_told, D_L_told⟩ := c.def_ 30 (d := d_L_told) rfl
  obtain ⟨fd_L_made, D_L_made⟩ := c.def_ 31 (d := d_L_made) rfl
  obtain ⟨fd_L_results, D_L_results⟩ := c.def_ 32 (d := d_L_results) rfl
  obtain ⟨fd_L_wide_totals, D_L_wide_totals⟩ := c.def_ 33 (d := d_L_wide_totals) rfl
  obtain ⟨fd_L_both_ways, D_L_both_ways⟩ := c.def_ 34 (d := d_L_both_ways) rfl
  obtain ⟨fd_law, D_law⟩ := c.def_ 35 (d := d_law) rfl
  have e := hl.symm.trans (He.glo_ok KX G (gfact c (x := "law") (by decide +kernel)))
  cases e
  have b := FunD.bindsA (ps := ps_law) D_law fun _ _ _ _ _ _ us hl => match us, hl with | [_], _ => rfl
  refine ⟨fd_law, fun s v => b s [v] rfl, fun base => ?_⟩
  have e_NumberError : ExcJ P w K mg base 1 "NumberError" 1 Fx_NumberError := ei_NumberError KX G c hP hT
  have e_SizeError : ExcJ P w K mg base 1 "SizeError" 1 Fx_SizeError := ei_SizeError KX G c hP hT
  have e_TextError : ExcJ P w K mg base 1 "TextError" 2 Fx_TextError := ei_TextError KX G c hP hT
  have fo_L_tape : FnOk P w K mg base (L2N.CX P w) 1 _ fd_L_tape ps_L_tape (spJ K 1 F_L_tape) := fo_L_tape D_L_tape M 
  have h_L_tape : FnJ P w K mg base 1 "_law_tape" 1 F_L_tape := ⟨_, fd_L_tape, ps_L_tape, He.glo_ok KX G (gfact c (x := "_law_tape") (by decide +kernel)), D_L_tape.kp, rfl, bn_L_tape D_L_tape, fo_L_tape⟩
  have fo_L_take : FnOk P w K mg base (L2N.CX P w) 1 _ fd_L_take ps_L_take (spJ K 3 F_L_take) := fo_L_take D_L_take M 
  have h_L_take : FnJ P w K mg base 1 "_law_take" 3 F_L_take := ⟨_, fd_L_take, ps_L_take, He.glo_ok KX G (gfact c (x := "_law_take") (by decide +kernel)), D_L_take.kp, rfl, bn_L_take D_L_take, fo_L_take⟩
  have fo_L_int : FnOk P w K mg base (L2N.CX P w) 1 _ fd_L_int ps_L_int (spJ K 1 F_L_int) := fo_L_int D_L_int M 
  have hH_L_int : FnHJ P w K mg base 1 "_law_int" 1 F_L_int := okH_L_int D_L_int (He.glo_ok KX G (gfact c (by decide +kernel))) M
  have h_L_int : FnJ P w K mg base 1 "_law_int" 1 F_L_int := ⟨_, fd_L_int, ps_L_int, He.glo_ok KX G (gfact c (x := "_law_int") (by decide +kernel)), D_L_int.kp, rfl, bn_L_int D_L_int, fo_L_int⟩
  have fo_L_common : FnOk P w K mg base (L2N.CX P w) 1 _ fd_L_common ps_L_common (spJ K 2 F_L_common) := fo_L_common D_L_common M 
  have h_L_common : FnJ P w K mg base 1 "_law_common" 2 F_L_common := ⟨_, fd_L_common, ps_L_common, He.glo_ok KX G (gfact c (x := "_law_common") (by decide +kernel)), D_L_common.kp, rfl, bn_L_common D_L_common, fo_L_common⟩
  have fo_L_text : FnOk P w K mg base (L2N.CX P w) 1 _ fd_L_text ps_L_text (spJ K 2 F_L_text) := fo_L_text D_L_text M 
  have h_L_text : FnJ P w K mg base 1 "_law_text" 2 F_L_text := ⟨_, fd_L_text, ps_L_text, He.glo_ok KX G (gfact c (x := "_law_text") (by decide +kernel)), D_L_text.kp, rfl, bn_L_text D_L_text, fo_L_text⟩
  have fo_L_class : FnOk P w K mg base (L2N.CX P w) 1 _ fd_L_class ps_L_class (spJ K 1 F_L_class) := fo_L_class D_L_class M 
  have h_L_class : FnJ P w K mg base 1 "_law_class" 1 F_L_class := ⟨_, fd_L_class, ps_L_class, He.glo_ok KX G (gfact c (x := "_law_class") (by decide +kernel)), D_L_class.kp, rfl, bn_L_class D_L_class, fo_L_class⟩
  have fo_L_bounded : FnOk P w K mg base (L2N.CX P w) 1 _ fd_L_bounded ps_L_bounded (spJ K 2 F_L_bounded) := fo_L_bounded D_L_bounded M 
  have h_L_bounded : FnJ P w K mg base 1 "_law_bounded" 2 F_L_bounded := ⟨_, fd_L_bounded, ps_L_bounded, He.glo_ok KX G (gfact c (x := "_law_bounded") (by decide +kernel)), D_L_bounded.kp, rfl, bn_L_bounded D_L_bounded, fo_L_bounded⟩
  have fo_L_edge : FnOk P w K mg base (L2N.CX P w) 1 _ fd_L_edge ps_L_edge (spJ K 2 F_L_edge) := fo_L_edge D_L_edge M 
  have h_L_edge : FnJ P w K mg base 1 "_law_edge" 2 F_L_edge := ⟨_, fd_L_edge, ps_L_edge, He.glo_ok KX G (gfact c (x := "_law_edge") (by decide +kernel)), D_L_edge.kp, rfl, bn_L_edge D_L_edge, fo_L_edge⟩
  have fo_M_Ratio_eq : FnOk P w K mg base (L2N.CX P w) 1 _ fd_M_Ratio_eq ps_M_Ratio_eq (spJ K 2 F_M_Ratio_eq) := fo_M_Ratio_eq D_M_Ratio_eq M 
  have h_eq_Ratio : EqJ P w K mg base 1 "Ratio" F_M_Ratio_eq := ⟨bfact c 27 (f := .cm "Ratio" "__eq__"), fd_M_Ratio_eq, ps_M_Ratio_eq, bn_M_Ratio_eq D_M_Ratio_eq, fo_M_Ratio_eq⟩
  have fo_M_Ratio_str : FnOk P w K mg base (L2N.CX P w) 1 _ fd_M_Ratio_str ps_M_Ratio_str (spJ K 1 F_M_Ratio_str) := fo_M_Ratio_str D_M_Ratio_str M 
  have h_un_Ratio_str : UnJ P w K mg base 1 "__str__" "Ratio" F_M_Ratio_str := ⟨bfact c 34 (f := .un "Ratio" "__str__"), fd_M_Ratio_str, ps_M_Ratio_str, bn_M_Ratio_str D_M_Ratio_str, fo_M_Ratio_str⟩
  have fo_L_number : FnOk P w K mg base (L2N.CX P w) 2 _ fd_L_number ps_L_number (spJ K 2 F_L_number) := fo_L_number D_L_number M h_L_take
  have h_L_number : FnJ P w K mg base 2 "_law_number" 2 F_L_number := ⟨_, fd_L_number, ps_L_number, He.glo_ok KX G (gfact c (x := "_law_number") (by decide +kernel)), D_L_number.kp, rfl, bn_L_number D_L_number, fo_L_number⟩
  have fo_L_lowest : FnOk P w K mg base (L2N.CX P w) 2 _ fd_L_lowest ps_L_lowest (spJ K 2 F_L_lowest) := fo_L_lowest D_L_lowest M h_L_common
  have h_L_lowest : FnJ P w K mg base 2 "_law_lowest" 2 F_L_lowest := ⟨_, fd_L_lowest, ps_L_lowest, He.glo_ok KX G (gfact c (x := "_law_lowest") (by decide +kernel)), D_L_lowest.kp, rfl, bn_L_lowest D_L_lowest, fo_L_lowest⟩
  have fo_L_character : FnOk P w K mg base (L2N.CX P w) 2 _ fd_L_character ps_L_character (spJ K 2 F_L_character) := fo_L_character D_L_character M h_L_take
  have h_L_character : FnJ P w K mg base 2 "_law_character" 2 F_L_character := ⟨_, fd_L_character, ps_L_character, He.glo_ok KX G (gfact c (x := "_law_character") (by decide +kernel)), D_L_character.kp, rfl, bn_L_character D_L_character, fo_L_character⟩
  have fo_L_reading : FnOk P w K mg base (L2N.CX P w) 2 _ fd_L_reading ps_L_reading (spJ K 1 F_L_reading) := fo_L_reading D_L_reading M h_L_bounded h_L_class h_L_common
  have h_L_reading : FnJ P w K mg base 2 "_law_reading" 1 F_L_reading := ⟨_, fd_L_reading, ps_L_reading, He.glo_ok KX G (gfact c (x := "_law_reading") (by decide +kernel)), D_L_reading.kp, rfl, bn_L_reading D_L_reading, fo_L_reading⟩
  have fo_L_pair : FnOk P w K mg base (L2N.CX P w) 2 _ fd_L_pair ps_L_pair (spJ K 1 F_L_pair) := fo_L_pair D_L_pair M h_L_int hH_L_int
  have h_L_pair : FnJ P w K mg base 2 "_law_pair" 1 F_L_pair := ⟨_, fd_L_pair, ps_L_pair, He.glo_ok KX G (gfact c (x := "_law_pair") (by decide +kernel)), D_L_pair.kp, rfl, bn_L_pair D_L_pair, fo_L_pair⟩
  have fo_look_number : FnOk P w K mg base (L2N.CX P w) 3 _ fd_look_number ps_look_number (spJ K 3 F_look_number) := fo_look_number D_look_number M e_NumberError
  have h_look_number : FnJ P w K mg base 3 "look_number" 3 F_look_number := ⟨_, fd_look_number, ps_look_number, He.glo_ok KX G (gfact c (x := "look_number") (by decide +kernel)), D_look_number.kp, rfl, bn_look_number D_look_number, fo_look_number⟩
  have fo_look_size : FnOk P w K mg base (L2N.CX P w) 3 _ fd_look_size ps_look_size (spJ K 3 F_look_size) := fo_look_size D_look_size M e_SizeError
  have h_look_size : FnJ P w K mg base 3 "look_size" 3 F_look_size := ⟨_, fd_look_size, ps_look_size, He.glo_ok KX G (gfact c (x := "look_size") (by decide +kernel)), D_look_size.kp, rfl, bn_look_size D_look_size, fo_look_size⟩
  have fo_P_behind_digits : FnOk P w K mg base (L2N.CX P w) 3 _ fd_P_behind_digits ps_P_behind_digits (spJ K 2 F_P_behind_digits) := fo_P_behind_digits D_P_behind_digits M e_TextError
  have h_P_behind_digits : FnJ P w K mg base 3 "_behind_digits" 2 F_P_behind_digits := ⟨_, fd_P_behind_digits, ps_P_behind_digits, He.glo_ok KX G (gfact c (x := "_behind_digits") (by decide +kernel)), D_P_behind_digits.kp, rfl, bn_P_behind_digits D_P_behind_digits, fo_P_behind_digits⟩
  have fo_L_spoilt : FnOk P w K mg base (L2N.CX P w) 3 _ fd_L_spoilt ps_L_spoilt (spJ K 3 F_L_spoilt) := fo_L_spoilt D_L_spoilt M h_L_take h_L_character
  have h_L_spoilt : FnJ P w K mg base 3 "_law_spoilt" 3 F_L_spoilt := ⟨_, fd_L_spoilt, ps_L_spoilt, He.glo_ok KX G (gfact c (x := "_law_spoilt") (by decide +kernel)), D_L_spoilt.kp, rfl, bn_L_spoilt D_L_spoilt, fo_L_spoilt⟩
  have fo_P_ratio_parts : FnOk P w K mg base (L2N.CX P w) 4 _ fd_P_ratio_parts ps_P_ratio_parts (spJ K 1 F_P_ratio_parts) := fo_P_ratio_parts D_P_ratio_parts M h_look_number
  have h_P_ratio_parts : FnJ P w K mg base 4 "_ratio_parts" 1 F_P_ratio_parts := ⟨_, fd_P_ratio_parts, ps_P_ratio_parts, He.glo_ok KX G (gfact c (x := "_ratio_parts") (by decide +kernel)), D_P_ratio_parts.kp, rfl, bn_P_ratio_parts D_P_ratio_parts, fo_P_ratio_parts⟩
  have fo_P_read_parts : FnOk P w K mg base (L2N.CX P w) 4 _ fd_P_read_parts ps_P_read_parts (spJ K 1 F_P_read_parts) := fo_P_read_parts D_P_read_parts M h_P_behind_digits e_TextError
  have h_P_read_parts : FnJ P w K mg base 4 "_read_parts" 1 F_P_read_parts := ⟨_, fd_P_read_parts, ps_P_read_parts, He.glo_ok KX G (gfact c (x := "_read_parts") (by decide +kernel)), D_P_read_parts.kp, rfl, bn_P_read_parts D_P_read_parts, fo_P_read_parts⟩
  have fo_M_Ratio_init : FnOk P w K mg base (L2N.CX P w) 4 _ fd_M_Ratio_init ps_M_Ratio_init (spJ K 3 F_M_Ratio_init) := fo_M_Ratio_init D_M_Ratio_init M h_look_number
  obtain ⟨ds_M_Ratio_init_0, v_M_Ratio_init_0, b_M_Ratio_init_0⟩ := bn_M_Ratio_init_0 D_M_Ratio_init
  cases v_M_Ratio_init_0
  have h_mk_Ratio_0 : MkJ P w K mg base 4 "Ratio" 3 [] F_M_Ratio_init := ⟨_, fd_M_Ratio_init, ps_M_Ratio_init, [], [], He.mkr_ok (afact c 3 (f := .mkr "Ratio")), M.mgc_Ratio, b_M_Ratio_init_0, .nil, fun _ => .nil, fo_M_Ratio_init⟩
  obtain ⟨ds_M_Ratio_init_1, v_M_Ratio_init_1, b_M_Ratio_init_1⟩ := bn_M_Ratio_init_1 D_M_Ratio_init
  have h_mk_Ratio_1 : MkJ P w K mg base 4 "Ratio" 3 [.int 1] F_M_Ratio_init := ⟨_, fd_M_Ratio_init, ps_M_Ratio_init, _, _, He.mkr_ok (afact c 3 (f := .mkr "Ratio")), M.mgc_Ratio, b_M_Ratio_init_1, v_M_Ratio_init_1, fun _ => .cons (.int _) (.nil), fo_M_Ratio_init⟩
  have fo_P_ratio_lowest : FnOk P w K mg base (L2N.CX P w) 6 _ fd_P_ratio_lowest ps_P_ratio_lowest (spJ K 2 F_P_ratio_lowest) := fo_P_ratio_lowest D_P_ratio_lowest M h_mk_Ratio_0
  have h_P_ratio_lowest : FnJ P w K mg base 6 "_ratio_lowest" 2 F_P_ratio_lowest := ⟨_, fd_P_ratio_lowest, ps_P_ratio_lowest, He.glo_ok KX G (gfact c (x := "_ratio_lowest") (by decide +kernel)), D_P_ratio_lowest.kp, rfl, bn_P_ratio_lowest D_P_ratio_lowest, fo_P_ratio_lowest⟩
  have fo_M_Ratio_neg : FnOk P w K mg base (L2N.CX P w) 6 _ fd_M_Ratio_neg ps_M_Ratio_neg (spJ K 1 F_M_Ratio_neg) := fo_M_Ratio_neg D_M_Ratio_neg M h_mk_Ratio_0
  have h_un_Ratio_neg : UnJ P w K mg base 6 "__neg__" "Ratio" F_M_Ratio_neg := ⟨bfact c 33 (f := .un "Ratio" "__neg__"), fd_M_Ratio_neg, ps_M_Ratio_neg, bn_M_Ratio_neg D_M_Ratio_neg, fo_M_Ratio_neg⟩
  have fo_M_Ratio_read : FnOk P w K mg base (L2N.CX P w) 6 _ fd_M_Ratio_read ps_M_Ratio_read (spJ K 1 F_M_Ratio_read) := fo_M_Ratio_read D_M_Ratio_read M h_look_size h_P_read_parts h_mk_Ratio_0
  have h_st_Ratio_read : StJ P w K mg base 6 "Ratio" "read" 1 F_M_Ratio_read := ⟨M.mgc_Ratio, _, fd_M_Ratio_read, ps_M_Ratio_read, bfact c 28 (f := .st "Ratio" "read"), bn_M_Ratio_read D_M_Ratio_read, fo_M_Ratio_read⟩
  have fo_M_Ratio_add : FnOk P w K mg base (L2N.CX P w) 7 _ fd_M_Ratio_add ps_M_Ratio_add (spJ K 2 F_M_Ratio_add) := fo_M_Ratio_add D_M_Ratio_add M h_P_ratio_parts h_P_ratio_lowest
  have h_op_Ratio_add : OpJ P w K mg base 7 .Add "Ratio" F_M_Ratio_add := OpJ.of (m := "__add__") rfl (bfact c 30 (f := .op "Ratio" "add")) (bn_M_Ratio_add D_M_Ratio_add) fo_M_Ratio_add
  have fo_M_Ratio_sub : FnOk P w K mg base (L2N.CX P w) 7 _ fd_M_Ratio_sub ps_M_Ratio_sub (spJ K 2 F_M_Ratio_sub) := fo_M_Ratio_sub D_M_Ratio_sub M h_P_ratio_parts h_P_ratio_lowest
  have h_op_Ratio_sub : OpJ P w K mg base 7 .Sub "Ratio" F_M_Ratio_sub := OpJ.of (m := "__sub__") rfl (bfact c 31 (f := .op "Ratio" "sub")) (bn_M_Ratio_sub D_M_Ratio_sub) fo_M_Ratio_sub
  have fo_M_Ratio_mul : FnOk P w K mg base (L2N.CX P w) 7 _ fd_M_Ratio_mul ps_M_Ratio_mul (spJ K 2 F_M_Ratio_mul) := fo_M_Ratio_mul D_M_Ratio_mul M h_P_ratio_parts h_P_ratio_lowest
  have h_op_Ratio_mul : OpJ P w K mg base 7 .Mult "Ratio" F_M_Ratio_mul := OpJ.of (m := "__mul__") rfl (bfact c 32 (f := .op "Ratio" "mul")) (bn_M_Ratio_mul D_M_Ratio_mul) fo_M_Ratio_mul
  have fo_M_Ratio_over : FnOk P w K mg base (L2N.CX P w) 7 _ fd_M_Ratio_over ps_M_Ratio_over (spJ K 2 F_M_Ratio_over) := fo_M_Ratio_over D_M_Ratio_over M h_P_ratio_lowest e_NumberError
  have h_mt_Ratio_over_0 : MtJ P w K mg base 7 "over" 2 [] "Ratio" F_M_Ratio_over := ⟨_, fd_M_Ratio_over, ps_M_Ratio_over, [], [], He.cls_ok (afact c 0 (f := .cls "Ratio")), He.meth_ok (afact c 4 (f := .meth "Ratio" "over")), bn_M_Ratio_over D_M_Ratio_over, .nil, fun _ => .nil, fo_M_Ratio_over⟩
  have fo_M_Ratio_total : FnOk P w K mg base (L2N.CX P w) 33 _ fd_M_Ratio_total ps_M_Ratio_total (spJ K 1 F_M_Ratio_total) := fo_M_Ratio_total D_M_Ratio_total M h_look_size h_P_ratio_lowest h_look_number hTr
  have h_st_Ratio_total : StJ P w K mg base 33 "Ratio" "total" 1 F_M_Ratio_total := ⟨M.mgc_Ratio, _, fd_M_Ratio_total, ps_M_Ratio_total, bfact c 29 (f := .st "Ratio" "total"), bn_M_Ratio_total D_M_Ratio_total, fo_M_Ratio_total⟩
  have fo_L_told : FnOk P w K mg base (L2N.CX P w) 34 _ fd_L_told ps_L_told (spJ K 3 F_L_told) := fo_L_told D_L_told M h_L_pair h_eq_Ratio h_st_Ratio_read h_mk_Ratio_0 h_L_int h_st_Ratio_total h_op_Ratio_add h_op_Ratio_sub h_op_Ratio_mul h_mt_Ratio_over_0 hH_L_int
  have h_L_told : FnJ P w K mg base 34 "_law_told" 3 F_L_told := ⟨_, fd_L_told, ps_L_told, He.glo_ok KX G (gfact c (x := "_law_told") (by decide +kernel)), D_L_told.kp, rfl, bn_L_told D_L_told, fo_L_told⟩
  have fo_L_made : FnOk P w K mg base (L2N.CX P w) 35 _ fd_L_made ps_L_made (spJ K 1 F_L_made) := fo_L_made D_L_made M h_L_told
  have h_L_made : FnJ P w K mg base 35 "_law_made" 1 F_L_made := ⟨_, fd_L_made, ps_L_made, He.glo_ok KX G (gfact c (x := "_law_made") (by decide +kernel)), D_L_made.kp, rfl, bn_L_made D_L_made, fo_L_made⟩
  have fo_L_results : FnOk P w K mg base (L2N.CX P w) 35 _ fd_L_results ps_L_results (spJ K 1 F_L_results) := fo_L_results D_L_results M h_mk_Ratio_1 h_mk_Ratio_0 h_L_told
  have h_L_results : FnJ P w K mg base 35 "_law_results" 1 F_L_results := ⟨_, fd_L_results, ps_L_results, He.glo_ok KX G (gfact c (x := "_law_results") (by decide +kernel)), D_L_results.kp, rfl, bn_L_results D_L_results, fo_L_results⟩
  have fo_L_wide_totals : FnOk P w K mg base (L2N.CX P w) 35 _ fd_L_wide_totals ps_L_wide_totals (spJ K 1 F_L_wide_totals) := fo_L_wide_totals D_L_wide_totals M h_op_Ratio_add h_eq_Ratio h_mk_Ratio_0 h_L_told h_op_Ratio_sub h_op_Ratio_mul h_un_Ratio_neg h_L_common
  have h_L_wide_totals : FnJ P w K mg base 35 "_law_wide_totals" 1 F_L_wide_totals := ⟨_, fd_L_wide_totals, ps_L_wide_totals, He.glo_ok KX G (gfact c (x := "_law_wide_totals") (by decide +kernel)), D_L_wide_totals.kp, rfl, bn_L_wide_totals D_L_wide_totals, fo_L_wide_totals⟩
  have fo_L_both_ways : FnOk P w K mg base (L2N.CX P w) 35 _ fd_L_both_ways ps_L_both_ways (spJ K 2 F_L_both_ways) := fo_L_both_ways D_L_both_ways M h_mk_Ratio_0 h_L_text h_un_Ratio_str h_L_told h_eq_Ratio h_L_pair
  have h_L_both_ways : FnJ P w K mg base 35 "_law_both_ways" 2 F_L_both_ways := ⟨_, fd_L_both_ways, ps_L_both_ways, He.glo_ok KX G (gfact c (x := "_law_both_ways") (by decide +kernel)), D_L_both_ways.kp, rfl, bn_L_both_ways D_L_both_ways, fo_L_both_ways⟩
  exact fo_law D_law M h_L_tape h_L_lowest h_L_text h_L_take h_L_edge h_L_number h_L_both_ways h_L_spoilt h_L_told h_L_wide_totals h_L_reading h_L_made h_L_results
end
end Lw

namespace J
open PySem PySem.Spec PyProof.Rows L2
section
variable {α : Type} (E : J.Env)
@[simp] theorem u_fVar (i : Nat) : fVar i E = (match E[i]? with | some (.val d) => .ok d E | _ => .stuck) := rfl
@[simp] theorem u_fBor (i : Nat) : fBor i E = (match E[i]? with | some (.own _ l) => .ok (.lst l) E | some (.val d) => .ok d E | _ => .stuck) := rfl
@[simp] theorem u_fC (d : D) : fC d E = .ok d E := rfl
@[simp] theorem u_getV (i : Nat) : getV i E = (match E[i]? with | some (.val d) => some d | _ => none) := rfl
@[simp] theorem u_fop (g : D → D → Option D) (a b : J.Env → R D) : fop g a b E = (a E).bind fun x E => (b E).bind fun y E => match g x y with | some d => .ok d E | none => .stuck := rfl
@[simp] theorem u_fopB (g : D → D → Option D) (a : J.Env → R D) (b : J.Env → Option D) : fopB g a b E = (a E).bind fun x E => match (b E).bind (g x) with | some d => .ok d E | none => .stuck := rfl
@[simp] theorem u_fopL (g : D → D → Option D) (a b : J.Env → R D) : fopL g a b E = (a E).bind fun a E => (b E).bind fun b E => match a, g a b with | .lst _, some (.lst l) => .ok l E | _, _ => .stuck := rfl
@[simp] theorem u_fun1 (g : D → Option D) (a : J.Env → R D) : fun1 g a E = (a E).bind fun x E => match g x with | some d => .ok d E | none => .stuck := rfl
@[simp] theorem u_fun1L (g : D → Option (List D)) (a : J.Env → R D) : fun1L g a E = (a E).bind fun x E => match g x with | some d => .ok d E | none => .stuck := rfl
@[simp] theorem u_fTest (a : J.Env → R D) : fTest a E = (a E).bind fun d E => match d with | .bl k => .ok k E | _ => .stuck := rfl
@[simp] theorem u_fTru (a : J.Env → R D) : fTru a E = (a E).bind fun d E => match truD d with | some k => .ok k E | none => .stuck := rfl
@[simp] theorem u_fAnd (f g : J.Env → R Bool) : fAnd f g E = (f E).bind fun a E => if a = true then g E else .ok false E := rfl
@[simp] theorem u_fOr (f g : J.Env → R Bool) : fOr f g E = (f E).bind fun a E => if a = true then .ok true E else g E := rfl
@[simp] theorem u_fNot (f : J.Env → R Bool) : fNot f E = (f E).bind fun a E => .ok (!a) E := rfl
@[simp] theorem u_fAndV (f g : J.Env → R D) : fAndV f g E = (f E).bind fun a E => match a with | .bl true => g E | .bl false => .ok (.bl false) E | _ => .stuck := rfl
@[simp] theorem u_fNil : fNil E = .ok [] E := rfl
@[simp] theorem u_fCons (a : J.Env → R D) (r : J.Env → R (List D)) : fCons a r E = (a E).bind fun a E => (r E).bind fun r E => .ok (a :: r) E := rfl
@[simp] theorem u_fTup (r : J.Env → R (List D)) : fTup r E = (r E).bind fun l E => if l.length ≤ 16777216 then .ok (.tup l) E else .stuck := rfl
@[simp] theorem u_fLst (r : J.Env → R (List D)) : fLst r E = (r E).bind fun l E => if l.length ≤ 16777216 then .ok l E else .stuck := rfl
@[simp] theorem u_fPub (r : J.Env → R (List D)) : fPub r E = (r E).bind fun l E => .ok (.lst l) E := rfl
@[simp] theorem u_fGive (i : Nat) : fGive i E = (match E[i]? with | some (.own false l) => .ok l (E.set i .no) | _ => .stuck) := rfl
@[simp] theorem u_fPop (i : Nat) : fPop i E = (match E[i]? with | some (.own b l) => (match l[l.length - 1]? with | some d => .ok d (E.set i (.own b l.dropLast)) | none => .stuck) | _ => .stuck) := rfl
@[simp] theorem u_fChain (g g' : D → D → Option D) (fa fb fc : J.Env → R D) : fChain g g' fa fb fc E = (fa E).bind fun a E => (fb E).bind fun b E => match g a b with | some (.bl true) => ((fc E).bind fun c E => match g' b c with | some d => .ok d E | none => .stuck) | some (.bl false) => .ok (.bl false) E | _ => .stuck := rfl
@[simp] theorem u_fCut (a : J.Env → R D) (lo hi : J.Env → Option (Option Int)) : fCut a lo hi E = (a E).bind fun a E => match (lo E).bind fun l => (hi E).bind fun h => gCut a l h with | some d => .ok d E | none => .stuck := rfl
@[simp] theorem u_fCutL (a : J.Env → R D) (lo hi : J.Env → Option (Option Int)) : fCutL a lo hi E = (a E).bind fun a E => match (lo E).bind fun l => (hi E).bind fun h => (listD a).map fun xs => cutD xs l h with | some d => .ok d E | none => .stuck := rfl
@[simp] theorem u_fRng1 (a : J.Env → R D) : fRng1 a E = (a E).bind fun a E => match a with | .int j => if smI j = true then .ok (upD 0 j.toNat) E else .stuck | _ => .stuck := rfl
@[simp] theorem u_fRng2 (a b : J.Env → R D) : fRng2 a b E = (a E).bind fun a E => (b E).bind fun b E => match a, b with | .int i, .int j => if (smI i && smI j) = true then .ok (upD i (j - i).toNat) E else .stuck | _, _ => .stuck := rfl
@[simp] theorem u_xNil : xNil E = .ok [] E := rfl
@[simp] theorem u_xV (a : J.Env → R D) (r : J.Env → R (List Ar)) : xV a r E = (a E).bind fun a E => (r E).bind fun r E => .ok (.v a :: r) E := rfl
@[simp] theorem u_xO (i : Nat) (r : J.Env → R (List Ar)) : xO i r E = (match E[i]? with
  | some (.own _ _) => (r E).bind fun r E => .ok (.o i :: r) E
  | some (.obj _ _ _ _) => (r E).bind fun r E => .ok (.o i :: r) E
  | _ => .stuck) := rfl
@[simp] theorem u_fCallR (n : Nat) (F : DF) (fa : J.Env → R (List Ar)) (k : RV → Option α) : fCallR n F fa k E = (fa E).bind fun as E1 => match (if (ndA (ownsA as) && as.length == n) = true then argS E1 as else none) with
  | none => .stuck
  | some ss => match F ss with
    | .ok rv Ec => (match k rv with | some d => .ok d (backE Ec 0 as E1) | none => .stuck)
    | .exc x Ec => .exc x (backE Ec 0 as E1)
    | .stuck => .stuck := rfl
@[simp] theorem u_rvDv (d : D) : rvD (.v d) = some d := rfl
@[simp] theorem u_rvDl (d : List D) : rvD (.l d) = some (.lst d) := rfl
@[simp] theorem u_rvLl (d : List D) : rvL (.l d) = some d := rfl
@[simp] theorem u_sNil : sNil E = .nx E := rfl
@[simp] theorem u_sSeq (f g : J.Env → RS) : sSeq f g E = (f E).seq g := rfl
@[simp] theorem u_sExpr (f : J.Env → R D) : sExpr f E = (f E).bindS fun _ E => .nx E := rfl
@[simp] theorem u_sRet (f : J.Env → R D) : sRet f E = (f E).bindS fun d E => .rt (.v d) E := rfl
@[simp] theorem u_sRetL (f : J.Env → R (List D)) : sRetL f E = (f E).bindS fun d E => .rt (.l d) E := rfl
@[simp] theorem u_sIf (t : J.Env → R Bool) (f g : J.Env → RS) : sIf t f g E = (t E).bindS fun k E => if k = true then f E else g E := rfl
@[simp] theorem u_sSet (i : Nat) (f : J.Env → R D) : sSet i f E = (f E).bindS fun d E => .nx (E.set i (.val d)) := rfl
@[simp] theorem u_sSetL (i : Nat) (f : J.Env → R (List D)) : sSetL i f E = (f E).bindS fun l E => .nx (E.set i (.own false l)) := rfl
@[simp] theorem u_sAsg (f : J.Env → R D) (g : D → J.Env → Option J.Env) : sAsg f g E = (f E).bindS fun d E => match g d E with | some E' => .nx E' | none => .stuck := rfl
@[simp] theorem u_sApp (i : Nat) (f : J.Env → R D) : sApp i f E = (match E[i]? with | some (.own _ _) => (f E).bindS fun d E => (match E[i]? with | some (.own b l) => if l.length < 16777216 then .nx (E.set i (.own b (l ++ [d]))) else .stuck | _ => .stuck) | _ => .stuck) := rfl
@[simp] theorem u_sSetIx (i : Nat) (fk fa : J.Env → R D) : sSetIx i fk fa E = (fa E).bindS fun d E => match E[i]? with
  | some (.own _ _) => (fk E).bindS fun k E => (match k, E[i]? with
    | .int k, some (.own b l) => (match ixN l.length k with | some j => .nx (E.set i (.own b (l.set j d))) | none => .stuck)
    | _, _ => .stuck)
  | _ => .stuck := rfl
@[simp] theorem u_sRev (i : Nat) : sRev i E = (match E[i]? with | some (.own b l) => .nx (E.set i (.own b l.reverse)) | _ => .stuck) := rfl
@[simp] theorem u_sFor (fi : J.Env → R (List D)) (g : D → J.Env → Option J.Env) (f : J.Env → RS) : sFor fi g f E = (fi E).bindS fun ds E => forD g f ds E := rfl
@[simp] theorem u_pubE (i : Nat) : pubE i E = (match E[i]? with | some (.own _ l) => E.set i (.val (.lst l)) | some (.obj _ c ns ds) => E.set i (.val (.ins c ns ds)) | _ => E) := rfl
@[simp] theorem u_fBin (tbl : Str → Option DF) (g : D → D → Option D) (fa fb : J.Env → R D) : fBin tbl g fa fb E = (fa E).bind fun x E => (fb E).bind fun y E => ownR tbl g x y E := rfl
@[simp] theorem u_fUn (tbl : Str → Option DF) (g : D → Option D) (fa : J.Env → R D) : fUn tbl g fa E = (fa E).bind fun x E => own1 tbl g x E := rfl
@[simp] theorem u_fUnB (tbl : Str → Option DF) (g : D → Option D) (fa : J.Env → R D) : fUnB tbl g fa E = ((fa E).bind fun x E => own1 tbl g x E).bind blO := rfl
@[simp] theorem u_ownI (tbl : Str → Option DF) (g : D → D → Option D) (i : Int) (y : D) : ownR tbl g (.int i) y E = (match g (.int i) y with | some d => .ok d E | none => .stuck) := rfl
@[simp] theorem u_ownB (tbl : Str → Option DF) (g : D → D → Option D) (i : Bool) (y : D) : ownR tbl g (.bl i) y E = (match g (.bl i) y with | some d => .ok d E | none => .stuck) := rfl
@[simp] theorem u_ownT (tbl : Str → Option DF) (g : D → D → Option D) (i : List D) (y : D) : ownR tbl g (.tup i) y E = (match g (.tup i) y with | some d => .ok d E | none => .stuck) := rfl
@[simp] theorem u_own1I (tbl : Str → Option DF) (g : D → Option D) (i : Int) : own1 tbl g (.int i) E = (match g (.int i) with | some d => .ok d E | none => .stuck) := rfl
@[simp] theorem u_fFld (ok : Str → Bool) (f : Str) (fa : J.Env → R D) : fFld ok f fa E = (fa E).bind fun x E => match insF ok f x with | some d => .ok d E | none => .stuck := rfl
@[simp] theorem u_sPut (ok : Str → Bool) (i : Nat) (f : Str) (fa : J.Env → R D) : sPut ok i f fa E = (fa E).bindS fun d E => match E[i]? with
  | some (.obj b c ns ds) => if (ok c && decide (ns.length < 900)) = true then .nx (E.set i (.obj b c (putN f ns) (putL f d ns ds))) else .stuck
  | _ => .stuck := rfl
@[simp] theorem u_fCnt (fo fe : J.Env → R D) : fCnt fo fe E = (fo E).bind fun x E => match listD x with
  | some l => (fe E).bind fun y E => (match gCntL l y with | some d => .ok d E | none => .stuck)
  | none => .stuck := rfl
@[simp] theorem u_gNm (i : Nat) (d : D) : gNm i d E = some (E.set i (.val d)) := rfl
@[simp] theorem u_gTup2 (g : List D → J.Env → Option J.Env) (l : List D) : gTup2 g (.tup l) E = g l E := rfl
@[simp] theorem u_gsCons (g : D → J.Env → Option J.Env) (r : List D → J.Env → Option J.Env) (d : D) (ds : List D) : gsCons g r (d :: ds) E = (g d E).bind (r ds) := rfl
@[simp] theorem u_gsNil : gsNil [] E = some E := rfl
@[simp] theorem u_fLc (vs : List Nat) (fi : J.Env → R (List D)) (g : D → J.Env → Option J.Env) (t : J.Env → R Bool) (f : J.Env → R D) : fLc vs fi g t f E = (fi E).bind fun ds E => lcD vs g t f ds [] E := rfl
@[simp] theorem u_fLc2 (vs : List Nat) (fi : J.Env → R (List D)) (g : D → J.Env → Option J.Env) (t : J.Env → R Bool) (fi1 : J.Env → R (List D)) (vs1 : List Nat) (g1 : D → J.Env → Option J.Env) (t1 : J.Env → R Bool) (f : J.Env → R D) : fLc2 vs fi g t fi1 vs1 g1 t1 f E = (fi E).bind fun ds E => lcD2 vs g t fi1 vs1 g1 t1 f ds [] E := rfl
@[simp] theorem u_fYes : fYes E = .ok true E := rfl
@[simp] theorem u_forNil (g : D → J.Env → Option J.Env) (f : J.Env → RS) : forD g f [] E = .nx E := rfl
@[simp] theorem u_sRaise (c : Str) (n : Nat) (F : List D → Option (List Str × List D)) (fa : J.Env → R (List D)) : sRaise c n F fa E = (fa E).bindS fun ds E1 => if (ds.length == n && decide (n ≤ 1000)) = true then (match F ds with | some (ns, es) => .exc ⟨c, ns, es⟩ E1 | none => .stuck) else .stuck := rfl
end
@[simp] theorem g_add (i j : Int) : gAdd (.int i) (.int j) = some (.int (i + j)) := rfl
@[simp] theorem g_sub (i j : Int) : gSub (.int i) (.int j) = some (.int (i - j)) := rfl
@[simp] theorem g_lt (i j : Int) : gLt (.int i) (.int j) = some (.bl (decide (i < j))) := rfl
@[simp] theorem g_le (i j : Int) : gLe (.int i) (.int j) = some (.bl (decide (i ≤ j))) := rfl
@[simp] theorem g_gt (i j : Int) : gGt (.int i) (.int j) = some (.bl (decide (j < i))) := rfl
@[simp] theorem g_ge (i j : Int) : gGe (.int i) (.int j) = some (.bl (decide (j ≤ i))) := rfl
@[simp] theorem g_intF (i : Int) : gIntF (.int i) = some (.int i) := rfl
@[simp] theorem g_lenL (l : List D) : gLen (.lst l) = some (.int (l.length : Nat)) := rfl
@[simp] theorem g_lenR (l : List D) : gLen (.rol l) = some (.int (l.length : Nat)) := rfl
@[simp] theorem g_lenT (l : List D) : gLen (.tup l) = some (.int (l.length : Nat)) := rfl
@[simp] theorem g_isiI (i : Int) : gIsi "int" (.int i) = some (.bl true) := rfl
@[simp] theorem g_isiB (i : Int) : gIsi "bool" (.int i) = some (.bl false) := rfl
@[simp] theorem g_isiT (l : List D) : gIsi "tuple" (.tup l) = some (.bl true) := rfl
@[simp] theorem g_isiL (l : List D) : gIsi "list" (.lst l) = some (.bl true) := rfl
@[simp] theorem g_not (b : Bool) : gNot (.bl b) = some (.bl (!b)) := rfl
@[simp] theorem g_neg (i : Int) : gNeg (.int i) = some (.int (-i)) := rfl
@[simp] theorem g_itL (l : List D) : itemsD (.lst l) = some l := rfl
@[simp] theorem g_itT (l : List D) : itemsD (.tup l) = some l := rfl
@[simp] theorem g_itR (l : List D) : itemsD (.rol l) = some l := rfl
@[simp] theorem g_truB (b : Bool) : truD (.bl b) = some b := rfl
@[simp] theorem g_tupL (l : List D) : gTuple (.lst l) = some (.tup l) := rfl
@[simp] theorem g_tupT (l : List D) : gTuple (.tup l) = some (.tup l) := rfl
theorem g_mod (i j : Int) (h : 0 < j) : gMod (.int i) (.int j) = some (.int (i % j)) := by show (gModI i j).map D.int = _; unfold gModI; rw [if_pos h]; rfl
@[simp] theorem g_mulT (i j : Int) : gMulT (.int i) (.int j) = gMul (.int i) (.int j) := by
  unfold gMulT
  cases h : gMul (.int i) (.int j) with
  | some d => rfl
  | none => rfl
@[simp] theorem g_mulTL (l : List D) (j : Int) : gMulT (.lst l) (.int j) = gMul (.lst l) (.int j) := by
  unfold gMulT
  cases h : gMul (.lst l) (.int j) with
  | some d => rfl
  | none => rfl
@[simp] theorem g_mulTS (z : Str) (j : Int) : gMulT (.str z) (.int j) = gRepS (.str z) (.int j) := rfl
@[simp] theorem g_inT (neg : Bool) (x y : Str) : gInT neg (.str x) (.str y) = some (.bl (if neg then !inT y x else inT y x)) := rfl
@[simp] theorem u_ownS (tbl : Str → Option DF) (g : D → D → Option D) (i : Str) (y : D) (E : J.Env) : ownR tbl g (.str i) y E = (match g (.str i) y with | some d => .ok d E | none => .stuck) := rfl
@[simp] theorem u_ownL (tbl : Str → Option DF) (g : D → D → Option D) (i : List D) (y : D) (E : J.Env) : ownR tbl g (.lst i) y E = (match g (.lst i) y with | some d => .ok d E | none => .stuck) := rfl
@[simp] theorem u_fSM (g : Str → Str → D) (fo fe : J.Env → R D) (E : J.Env) : fSM g fo fe E = (fo E).bind fun x E => match x with
  | .str a => (fe E).bind fun y E => (match y with
    | .str b => .ok (g a b) E
    | _ => .stuck)
  | _ => .stuck := rfl
end J
namespace Lw
open PySem PySem.Spec PyProof.Rows L2 J
theorem p_int (i : Int) : F_L_int [.val (.int i)] = .ok (.v (.bl true)) [.val (.int i)] := by
  simp [F_L_int, runF, f_L_int]
/-- the tape's last digit, or 0 -/
def lastD (ds : List Int) : Int := (ds.getLast?).getD 0
theorem p_take (ds : List Int) (m s : Int) (hm : 0 < m) : ∃ E', F_L_take [.own true (ds.map D.int), .val (.int m), .val (.int s)] = .ok (.v (.int ((lastD ds + s) % m))) (.own true (ds.dropLast.map D.int) :: E') := by
  unfold lastD
  rcases List.eq_nil_or_concat ds with rfl | ⟨xs, x, rfl⟩
  · simp [F_L_take, runF, f_L_take, g_mod _ _ hm]
  · have hp : (0 : Int) < (xs.length : Int) + 1 := by omega
    simp [F_L_take, runF, f_L_take, g_mod _ _ hm, hp]
def stF (g : D → J.Env → Option J.Env) (f : J.Env → RS) (d : D) (E : J.Env) : RS := match g d E with
  | none => .stuck
  | some E1 => f E1
def stL (g : D → J.Env → Option J.Env) (t : J.Env → J.R Bool) (d : D) (E : J.Env) : J.R Bool := match g d E with
  | none => .stuck
  | some E1 => t E1
theorem stF_nx {g : D → J.Env → Option J.Env} {f : J.Env → RS} {d : D} {E E2 : J.Env} (h : stF g f d E = .nx E2) : ∃ E1, g d E = some E1 ∧ f E1 = .nx E2 := by
  unfold stF at h
  cases e : g d E with
  | none => rw [e] at h; cases h
  | some E1 => rw [e] at h; exact ⟨E1, rfl, h⟩
theorem stL_ok {g : D → J.Env → Option J.Env} {t : J.Env → J.R Bool} {d : D} {E E2 : J.Env} {b : Bool} (h : stL g t d E = .ok b E2) : ∃ E1, g d E = some E1 ∧ t E1 = .ok b E2 := by
  unfold stL at h
  cases e : g d E with
  | none => rw [e] at h; cases h
  | some E1 => rw [e] at h; exact ⟨E1, rfl, h⟩
theorem forD_ok {g : D → J.Env → Option J.Env} {f : J.Env → RS} (I : Nat → J.Env → Prop) (ds : List D) : ∀ (n : Nat) (xs : List D) (E : J.Env), n + xs.length = ds.length → xs = ds.drop n → I n E →
    (∀ i (h : i < ds.length) E, I i E → ∃ E2, stF g f ds[i] E = .nx E2 ∧ I (i + 1) E2) → ∃ E', forD g f xs E = .nx E' ∧ I ds.length E'
  | n, [], E, hl, _, h0, _ => ⟨E, rfl, by simp at hl; subst hl; exact h0⟩
  | n, x :: xs, E, hl, hx, h0, hs => by
    have hn : n < ds.length := by simp at hl; omega
    rw [List.drop_eq_getElem_cons hn] at hx
    obtain ⟨rfl, hx2⟩ := List.cons.inj hx
    obtain ⟨E2, h1, h3⟩ := hs n hn E h0
    obtain ⟨E1, h1, h2⟩ := stF_nx h1
    obtain ⟨E', h4, h5⟩ := forD_ok I ds (n + 1) xs E2 (by simp at hl; omega) hx2 h3 hs
    exact ⟨E', by simp only [forD, h1, h2]; exact h4, h5⟩
theorem for_ok {g : D → J.Env → Option J.Env} {f : J.Env → RS} {ds : List D} {E : J.Env} (I : Nat → J.Env → Prop) (h0 : I 0 E)
    (hs : ∀ i (h : i < ds.length) E, I i E → ∃ E2, stF g f ds[i] E = .nx E2 ∧ I (i + 1) E2) : ∃ E', forD g f ds E = .nx E' ∧ I ds.length E' := forD_ok I ds 0 ds E (by simp) (by simp) h0 hs
theorem lcD_ok {vs : List Nat} {g : D → J.Env → Option J.Env} {t : J.Env → J.R Bool} {f : J.Env → J.R D} (I : Nat → List D → J.Env → Prop) (ds : List D) : ∀ (n : Nat) (xs acc : List D) (E : J.Env), n + xs.length = ds.length → xs = ds.drop n → I n acc E →
    (∀ i (h : i < ds.length) acc E, I i acc E → ∃ b E2, stL g t ds[i] (wipeE vs E) = .ok b E2 ∧ (b = true → ∃ y E3, f E2 = .ok y E3 ∧ acc.length < 16777216 ∧ I (i + 1) (acc ++ [y]) (wipeE vs E3)) ∧ (b = false → I (i + 1) acc (wipeE vs E2))) →
    ∃ acc' E', lcD vs g t f xs acc E = .ok acc' E' ∧ I ds.length acc' E'
  | n, [], acc, E, hl, _, h0, _ => ⟨acc, E, rfl, by simp at hl; subst hl; exact h0⟩
  | n, x :: xs, acc, E, hl, hx, h0, hs => by
    have hn : n < ds.length := by simp at hl; omega
    rw [List.drop_eq_getElem_cons hn] at hx
    obtain ⟨rfl, hx2⟩ := List.cons.inj hx
    obtain ⟨b, E2, h1, h3, h4⟩ := hs n hn acc E h0
    obtain ⟨E1, hg, h2⟩ := stL_ok h1
    cases b with
    | true =>
      obtain ⟨y, E3, h5, h6, h7⟩ := h3 rfl
      obtain ⟨acc', E', h8, h9⟩ := lcD_ok I ds (n + 1) xs _ _ (by simp at hl; omega) hx2 h7 hs
      exact ⟨acc', E', by unfold lcD; rw [hg]; simp only [h2, h5, h6, if_true]; exact h8, h9⟩
    | false =>
      obtain ⟨acc', E', h8, h9⟩ := lcD_ok I ds (n + 1) xs _ _ (by simp at hl; omega) hx2 (h4 rfl) hs
      exact ⟨acc', E', by unfold lcD; rw [hg]; simp only [h2]; exact h8, h9⟩
theorem lc_ok {vs : List Nat} {g : D → J.Env → Option J.Env} {t : J.Env → J.R Bool} {f : J.Env → J.R D} {ds : List D} {E : J.Env} (I : Nat → List D → J.Env → Prop) (h0 : I 0 [] E)
    (hs : ∀ i (h : i < ds.length) acc E, I i acc E → ∃ b E2, stL g t ds[i] (wipeE vs E) = .ok b E2 ∧ (b = true → ∃ y E3, f E2 = .ok y E3 ∧ acc.length < 16777216 ∧ I (i + 1) (acc ++ [y]) (wipeE vs E3)) ∧ (b = false → I (i + 1) acc (wipeE vs E2))) :
    ∃ acc' E', lcD vs g t f ds [] E = .ok acc' E' ∧ I ds.length acc' E' := lcD_ok I ds 0 ds [] E (by simp) (by simp) h0 hs
theorem g_divP (i j : Int) (h : 0 < j) (hp : Builtin.divisionGoesByPylong i j = false) : gDivP (.int i) (.int j) = some (.int (i / j)) := by show (if _ then _ else _ : Option Int).map D.int = _; rw [if_pos ⟨h, hp⟩]; rfl
theorem g_div12 (i : Int) : gDivP (.int i) (.int 12) = some (.int (i / 12)) := g_divP _ _ (by decide) (PyProof.noPylong_small (by decide))
@[simp] theorem g_abs (i : Int) : gAbs (.int i) = some (.int (if i < 0 then -i else i)) := rfl
theorem cut63 (ns : List Int) : ∃ ms : List Int, J.cutD (ns.map D.int) none (some 63) = ms.map D.int ∧ ms.length ≤ 63 := by
  unfold J.cutD
  refine ⟨(ns.drop _).take _, by rw [← List.map_drop, ← List.map_take], ?_⟩
  rw [List.length_take]
  have : HT.sIx (ns.map D.int).length (ns.map D.int).length (some 63) ≤ 63 := by
    unfold HT.sIx; simp; omega
  omega
theorem use_for {g : D → J.Env → Option J.Env} {f : J.Env → RS} {ds : List D} {E : J.Env} {r : RS} (hF : forD g f ds E = r) (I : Nat → J.Env → Prop) (h0 : I 0 E)
    (hs : ∀ i (h : i < ds.length) E, I i E → ∃ E2, stF g f ds[i] E = .nx E2 ∧ I (i + 1) E2) : ∃ E', r = .nx E' ∧ I ds.length E' := by
  subst hF; exact for_ok I h0 hs
theorem use_lc {vs : List Nat} {g : D → J.Env → Option J.Env} {t : J.Env → J.R Bool} {f : J.Env → J.R D} {ds : List D} {E : J.Env} {r : J.R (List D)} (hF : lcD vs g t f ds [] E = r) (I : Nat → List D → J.Env → Prop) (h0 : I 0 [] E)
    (hs : ∀ i (h : i < ds.length) acc E, I i acc E → ∃ b E2, stL g t ds[i] (wipeE vs E) = .ok b E2 ∧ (b = true → ∃ y E3, f E2 = .ok y E3 ∧ acc.length < 16777216 ∧ I (i + 1) (acc ++ [y]) (wipeE vs E3)) ∧ (b = false → I (i + 1) acc (wipeE vs E2))) :
    ∃ acc' E', r = .ok acc' E' ∧ I ds.length acc' E' := by
  subst hF; exact lc_ok I h0 hs
@[simp] theorem len_upD (a : Int) (n : Nat) : (upD a n).length = n := by simp [upD]
@[simp] theorem get_upD (a : Int) (n i : Nat) (h : i < (upD a n).length) : (upD a n)[i] = .int (a + (i : Nat)) := by simp [upD]
theorem smI_small {j : Int} (h : -100000 ≤ j ∧ j ≤ 100000) : smI j = true := decide_eq_true (by omega)
theorem p_tape (ns : List Int) : ∃ (ds : List Int) (E' : J.Env), F_L_tape [.val (.rol (ns.map D.int))] = .ok (.l (ds.map D.int)) E' ∧ E'[0]? = some (.val (.rol (ns.map D.int))) ∧ ds.length ≤ 882 := by
  obtain ⟨ms, h1, h2⟩ := cut63 ns
  simp [F_L_tape, runF, f_L_tape, gCut, intP, h1]
  generalize hF : forD _ _ _ _ = r
  obtain ⟨E', rfl, ds, c, r, k, h3, rfl⟩ := use_for hF (fun i E => ∃ (ds : List Int) (c r k : Sl), ds.length ≤ 14 * i ∧ E = [.val (.rol (ns.map D.int)), .own false (ds.map D.int), c, r, k]) ⟨[], .no, .no, .no, by simp, rfl⟩ (by
    rintro i h E ⟨ds, c, r, k, h3, rfl⟩
    have hi : i < ms.length := by simpa using h
    simp [stF, show smI 14 = true from rfl]
    generalize hF : forD _ _ _ _ = r
    obtain ⟨E', rfl, ds', c', r', k', h4, rfl⟩ := use_for hF (fun j E => ∃ (ds : List Int) (c : Sl) (r : Int) (k : Sl), ds.length ≤ 14 * i + j ∧ E = [.val (.rol (ns.map D.int)), .own false (ds.map D.int), c, .val (.int r), k]) ⟨ds, _, _, _, by omega, rfl⟩ (by
      rintro j hj E ⟨ds, c, r, k, h4, rfl⟩
      have hj' : j < 14 := by simpa using hj
      by_cases hr : 0 < r
      · have : ds.length < 16777216 := by omega
        simp [stF, hr, g_mod, g_div12, this]
        refine ⟨ds ++ [r % 12], by simp; omega, by simp⟩
      · simp [stF, hr]
        exact ⟨ds, by omega, rfl⟩)
    simp at h4
    simp
    exact ⟨ds', by omega, rfl⟩)
  simp at h3
  simp [gRev, listD]
  exact ⟨ds.reverse, _, ⟨by simp, rfl⟩, by simp, by rw [List.length_reverse]; omega⟩
theorem okI (i : Int) : okD (.int i) = true := rfl
@[simp] theorem g_eqI (i j : Int) : gEq (.int i) (.int j) = some (.bl (decide (i = j))) := rfl
@[simp] theorem g_neI (i j : Int) : gNe (.int i) (.int j) = some (.bl (!decide (i = j))) := rfl
@[simp] theorem g_min2 (i j : Int) : gMin2 (.int i) (.int j) = some (.int (if j < i then j else i)) := rfl
theorem log2_le {n k : Nat} (h : n < 2 ^ k) (hk : 0 < k) : n.log2 < k := by
  by_cases h0 : n = 0
  · subst h0; simpa using hk
  · exact (Nat.log2_lt h0).mpr h
theorem g_mul (i j : Int) (hi : i.natAbs < 2 ^ 200) (hj : j.natAbs < 2 ^ 200) : gMul (.int i) (.int j) = some (.int (i * j)) := by
  show (gMulI i j).map D.int = _
  unfold gMulI
  rw [if_pos (by have := log2_le hi (by decide); have := log2_le hj (by decide); omega)]
  rfl
theorem g_mulL (l : List D) (k : Int) (h : 0 ≤ k ∧ k ≤ 1000000 ∧ l.length * k.toNat ≤ 16777216) : gMul (.lst l) (.int k) = some (.lst (List.replicate k.toNat l).flatten) := by
  show (if _ then _ else _) = _
  rw [if_pos h]
theorem g_addL (x y : List D) (h : x.length + y.length ≤ 16777216) : gAdd (.lst x) (.lst y) = some (.lst (x ++ y)) := by
  show (if _ then _ else _) = _
  rw [if_pos h]
theorem cut_pre (l : List D) (k : Nat) : J.cutD l none (some (k : Nat)) = l.take k := by
  unfold J.cutD
  have h : HT.sIx l.length 0 none = 0 := rfl
  have h2 : HT.sIx l.length l.length (some (k : Nat)) = min k l.length := by unfold HT.sIx; simp; omega
  rw [h, h2]
  simp
/-- the tape, as data -/
def iD (ds : List Int) : List D := ds.map D.int
def dig (ds : List Int) (m s : Int) : Int := (lastD ds + s) % m
theorem dig_nn (ds : List Int) {m : Int} (s : Int) (h : 0 < m) : 0 ≤ dig ds m s := Int.emod_nonneg _ (by omega)
theorem dig_lt (ds : List Int) {m : Int} (s : Int) (h : 0 < m) : dig ds m s < m := Int.emod_lt_of_pos _ h
theorem ex_take : ∃ T : List Int → Int → Int → J.Env, ∀ ds m s, 0 < m → F_L_take [.own true (iD ds), .val (.int m), .val (.int s)] = .ok (.v (.int (dig ds m s))) (.own true (iD ds.dropLast) :: T ds m s) := by
  have h : ∀ ds m s, ∃ E' : J.Env, 0 < m → F_L_take [.own true (iD ds), .val (.int m), .val (.int s)] = .ok (.v (.int (dig ds m s))) (.own true (iD ds.dropLast) :: E') := fun ds m s => by
    by_cases hm : 0 < m
    · obtain ⟨E', h⟩ := p_take ds m s hm
      exact ⟨E', fun _ => h⟩
    · exact ⟨[], fun h => absurd h hm⟩
  exact ⟨fun ds m s => (h ds m s).choose, fun ds m s => (h ds m s).choose_spec⟩
noncomputable def takeT : List Int → Int → Int → J.Env := ex_take.choose
@[simp] theorem e_take (ds : List Int) (m s : Int) (hm : 0 < m) : F_L_take [.own true (iD ds), .val (.int m), .val (.int s)] = .ok (.v (.int (dig ds m s))) (.own true (iD ds.dropLast) :: takeT ds m s) := ex_take.choose_spec ds m s hm
end Lw

namespace Lw
/-! ### lowest terms -/
def g2 (n d : Int) : Int := ((Nat.gcd n.natAbs d.natAbs : Nat) : Int)
theorem g2_pos {n d : Int} (h : 0 < d) : 0 < g2 n d := by
  unfold g2
  have : 0 < Nat.gcd n.natAbs d.natAbs := Nat.gcd_pos_of_pos_right _ (by omega)
  omega
theorem g2_l (n d : Int) : g2 n d ∣ n := Int.natAbs_dvd_natAbs.mp (Nat.gcd_dvd_left _ _)
theorem g2_r (n d : Int) : g2 n d ∣ d := Int.natAbs_dvd_natAbs.mp (Nat.gcd_dvd_right _ _)
def loN (n d : Int) : Int := n / g2 n d
def loD (n d : Int) : Int := d / g2 n d
theorem lo_N (n d : Int) : g2 n d * loN n d = n := Int.mul_ediv_cancel' (g2_l n d)
theorem lo_D (n d : Int) : g2 n d * loD n d = d := Int.mul_ediv_cancel' (g2_r n d)
theorem loD_pos {n d : Int} (h : 0 < d) : 0 < loD n d := by
  have h1 := lo_D n d
  have h2 := g2_pos (n := n) h
  rcases Int.lt_or_le 0 (loD n d) with h3 | h3
  · exact h3
  · have := Int.mul_nonpos_of_nonneg_of_nonpos (Int.le_of_lt h2) h3
    omega
theorem g2_lo {n d : Int} (h : 0 < d) : g2 (loN n d) (loD n d) = 1 := by
  have hg := g2_pos (n := n) h
  have e1 := congrArg Int.natAbs (lo_N n d)
  have e2 := congrArg Int.natAbs (lo_D n d)
  rw [Int.natAbs_mul] at e1 e2
  have hgn : (g2 n d).natAbs = Nat.gcd n.natAbs d.natAbs := by unfold g2; rw [Int.natAbs_natCast]
  have hp : 0 < Nat.gcd n.natAbs d.natAbs := by omega
  have := Nat.gcd_mul_left (g2 n d).natAbs (loN n d).natAbs (loD n d).natAbs
  rw [e1, e2, hgn] at this
  have h1 : Nat.gcd (loN n d).natAbs (loD n d).natAbs = 1 := by
    have h2 : Nat.gcd n.natAbs d.natAbs * 1 = Nat.gcd n.natAbs d.natAbs * Nat.gcd (loN n d).natAbs (loD n d).natAbs := by rw [Nat.mul_one]; exact this
    exact (Nat.eq_of_mul_eq_mul_left hp h2).symm
  show ((Nat.gcd (loN n d).natAbs (loD n d).natAbs : Nat) : Int) = 1
  rw [h1]; rfl
theorem lo_low {n d : Int} (h : g2 n d = 1) : loN n d = n ∧ loD n d = d := by
  unfold loN loD
  rw [h]; simp
theorem low_eq {n d n' d' : Int} (h : 0 < d) (h' : 0 < d') (c : g2 n d = 1) (c' : g2 n' d' = 1) (e : n * d' = n' * d) : n = n' ∧ d = d' := by
  have c1 : Nat.Coprime n.natAbs d.natAbs := by unfold g2 at c; exact_mod_cast c
  have c2 : Nat.Coprime n'.natAbs d'.natAbs := by unfold g2 at c'; exact_mod_cast c'
  have e' := congrArg Int.natAbs e
  rw [Int.natAbs_mul, Int.natAbs_mul] at e'
  have d1 : d.natAbs ∣ d'.natAbs := c1.symm.dvd_of_dvd_mul_left (by rw [e']; exact Nat.dvd_mul_left _ _)
  have d2 : d'.natAbs ∣ d.natAbs := c2.symm.dvd_of_dvd_mul_left (by rw [← e']; exact Nat.dvd_mul_left _ _)
  have hd : d = d' := by
    have := Nat.dvd_antisymm d1 d2
    omega
  subst hd
  exact ⟨Int.eq_of_mul_eq_mul_right (by omega) e, rfl⟩
/-- the lowest terms depend on the number alone -/
theorem lo_eq {n d n' d' : Int} (h : 0 < d) (h' : 0 < d') (e : n * d' = n' * d) : loN n d = loN n' d' ∧ loD n d = loD n' d' := by
  refine low_eq (loD_pos h) (loD_pos h') (g2_lo h) (g2_lo h') ?_
  have hg := g2_pos (n := n) h
  have hg' := g2_pos (n := n') h'
  have e1 := lo_N n d
  have e2 := lo_D n d
  have e3 := lo_N n' d'
  have e4 := lo_D n' d'
  generalize loN n d = a at *
  generalize loD n d = b at *
  generalize loN n' d' = a' at *
  generalize loD n' d' = b' at *
  generalize g2 n d = g at *
  generalize g2 n' d' = g' at *
  subst e1 e2 e3 e4
  have h1 : (g * g') * (a * b') = (g * g') * (a' * b) := by
    calc (g * g') * (a * b') = g * a * (g' * b') := by ac_rfl
      _ = g' * a' * (g * b) := e
      _ = (g * g') * (a' * b) := by ac_rfl
  exact Int.eq_of_mul_eq_mul_left (Int.ne_of_gt (Int.mul_pos hg hg')) h1
theorem lo_cross {n d : Int} : loN n d * d = n * loD n d := by
  have e1 := lo_N n d
  have e2 := lo_D n d
  generalize loN n d = a at *
  generalize loD n d = b at *
  generalize g2 n d = g at *
  subst e1 e2
  ac_rfl
theorem loN_le (n d : Int) : (loN n d).natAbs ≤ n.natAbs := by
  have e := congrArg Int.natAbs (lo_N n d)
  rw [Int.natAbs_mul] at e
  by_cases h : (g2 n d).natAbs = 0
  · have : g2 n d = 0 := by omega
    unfold loN; rw [this]; simp
  · have : 1 * (loN n d).natAbs ≤ (g2 n d).natAbs * (loN n d).natAbs := Nat.mul_le_mul_right _ (by omega)
    omega
theorem loD_le {n d : Int} (h : 0 < d) : loD n d ≤ d := by
  have e := lo_D n d
  have hg := g2_pos (n := n) h
  have hd := loD_pos (n := n) h
  have : 1 * loD n d ≤ g2 n d * loD n d := Int.mul_le_mul_of_nonneg_right (by omega) (by omega)
  omega
end Lw

namespace Lw
open PySem PySem.Spec PyProof.Rows L2 J
/-! ### great numbers -/
def BIG : Nat := 2 ^ 13500
theorem log_le {n k : Nat} (h : n < 2 ^ k) (hk : 0 < k) : n.log2 < k := by
  by_cases h0 : n = 0
  · subst h0; rw [Nat.log2_zero]; exact hk
  · exact (Nat.log2_lt h0).mpr h
theorem g_mulB (i j : Int) (hi : i.natAbs < BIG) (hj : j.natAbs < BIG) : gMul (.int i) (.int j) = some (.int (i * j)) := by
  show (gMulI i j).map D.int = _
  unfold gMulI
  have h1 : i.natAbs.log2 < 13500 := log_le hi (by decide)
  have h2 : j.natAbs.log2 < 13500 := log_le hj (by decide)
  rw [if_pos (by omega)]
  rfl
theorem noP {i j : Int} (h : i.natAbs < BIG) : Builtin.divisionGoesByPylong i j = false := by
  have h1 : i.natAbs.log2 < 13500 := log_le h (by decide)
  unfold Builtin.divisionGoesByPylong
  by_cases h0 : i = 0
  · subst h0; simp
  · have hi : (i == 0) = false := by simpa using h0
    by_cases hj0 : j = 0
    · subst hj0; simp
    · have hj : (j == 0) = false := by simpa using hj0
      simp only [hi, hj, Bool.false_eq_true, if_false]
      rw [Bool.and_eq_false_iff]
      by_cases hc : j.natAbs.log2 / 30 + 1 > 300
      · right; simp; omega
      · left; simp; omega
theorem g_divB (i j : Int) (hj : 0 < j) (hi : i.natAbs < BIG) : gDivP (.int i) (.int j) = some (.int (i / j)) := g_divP i j hj (noP hi)
theorem g_gcd (i j : Int) : gGcd (.int i) (.int j) = some (.int (g2 i j)) := rfl
theorem g_lcm (i j : Int) (hi : i.natAbs < BIG) (hj : j.natAbs < BIG) : gLcm (.int i) (.int j) = some (.int ((Nat.lcm i.natAbs j.natAbs : Nat) : Int)) := by
  have h1 : i.natAbs.log2 < 13500 := log_le hi (by decide)
  have h2 : (max 1 i.natAbs).log2 < 13500 := log_le (by have : (1 : Nat) < 2 ^ 13500 := Nat.one_lt_two_pow (by decide); have := hi; unfold BIG at this; omega) (by decide)
  have h3 : (max i.natAbs j.natAbs).log2 < 13500 := log_le (by have := hi; have := hj; unfold BIG at *; omega) (by decide)
  show (if lcmOk i j then some ((Nat.lcm i.natAbs j.natAbs : Nat) : Int) else none).map D.int = _
  rw [if_pos ⟨by omega, by omega⟩]; rfl
def MAX : Int := ((10 ^ 2000 : Nat) : Int)
theorem gi_M : gi_MOST = MAX := rfl
theorem bits_10 : Builtin.Int.intBits 10 ≤ 4 := by decide +kernel
theorem g_powP (i j : Int) (h : 0 ≤ j ∧ (Builtin.Int.intBits i : Int) * j ≤ 2 ^ 27) : gPowP (.int i) (.int j) = some (.int (i ^ j.toNat)) := by
  show (if _ then _ else _ : Option Int).map D.int = _
  rw [if_pos h]; rfl
def P50 : Int := ((10 ^ 50 : Nat) : Int)
theorem pow50 : gPowP (.int 10) (.int 50) = some (.int P50) := by rw [g_powP _ _ (by decide +kernel)]; exact congrArg (fun z => some (D.int z)) (by decide +kernel)
theorem pow40 : gPowP (.int P50) (.int 40) = some (.int MAX) := by rw [g_powP _ _ (by decide +kernel)]; exact congrArg (fun z => some (D.int z)) (by decide +kernel)
def M20 : Int := ((10 ^ 1000 : Nat) : Int)
theorem pow20 : gPowP (.int P50) (.int 20) = some (.int M20) := by rw [g_powP _ _ (by decide +kernel)]; exact congrArg (fun z => some (D.int z)) (by decide +kernel)
theorem MAX_pos : 1000000 < MAX := by decide +kernel
theorem MAX_sq : 2 ^ 200 * (MAX.natAbs * MAX.natAbs) < BIG := by decide +kernel
theorem M20_lt : M20 < MAX := by decide +kernel
theorem M20_pos : 1000000 < M20 := by decide +kernel
end Lw

namespace Lw
open PySem PySem.Spec PyProof.Rows L2 J
def xN (n : Int) : Exn := ⟨"NumberError", ["number"], [.int n]⟩
def xS (n : Int) : Exn := ⟨"SizeError", ["count"], [.int n]⟩
@[simp] theorem fx_N (n : Int) : Fx_NumberError [.int n] = some ((["number"] : List Str), [D.int n]) := rfl
@[simp] theorem fx_S (n : Int) : Fx_SizeError [.int n] = some ((["count"] : List Str), [D.int n]) := rfl
@[simp] theorem e_look_number (n lo hi : Int) : F_look_number [.val (.int n), .val (.int lo), .val (.int hi)] = if n < lo ∨ hi < n then .exc (xN n) [.val (.int n), .val (.int lo), .val (.int hi)] else .ok (.v (.int n)) [.val (.int n), .val (.int lo), .val (.int hi)] := by
  by_cases h1 : n < lo
  · simp [F_look_number, runF, f_look_number, h1, xN]
  · by_cases h2 : hi < n
    · simp [F_look_number, runF, f_look_number, h1, h2, xN]
    · simp [F_look_number, runF, f_look_number, h1, h2]
def toR : Except Exn D → J.Env → J.R RV
  | .ok d, E => .ok (.v d) E
  | .error x, E => .exc x E
def toD : Except Exn D → J.Env → J.R D
  | .ok d, E => .ok d E
  | .error x, E => .exc x E
def envO : J.R RV → J.Env
  | .ok _ E => E
  | .exc _ E => E
  | .stuck => []
def ev (F : DF) (as : List Sl) : J.Env := envO (F as)
theorem of_ex {F : DF} {as : List Sl} {r : Except Exn D} (h : ∃ E, F as = toR r E) : F as = toR r (ev F as) := by
  obtain ⟨E, h⟩ := h
  unfold ev
  rw [h]
  cases r <;> rfl
theorem of_ok {F : DF} {as : List Sl} {d : D} (h : ∃ E, F as = .ok (.v d) E) : F as = .ok (.v d) (ev F as) := of_ex (r := .ok d) h

/-! ### a ratio as data -/
def rt (n d : Int) : D := .ins "Ratio" ["num", "den"] [.int n, .int d]
@[simp] theorem f_num (n d : Int) : insF okc_num "num" (rt n d) = some (.int n) := rfl
@[simp] theorem f_den (n d : Int) : insF okc_den "den" (rt n d) = some (.int d) := rfl
@[simp] theorem is_rt (n d : Int) : gIsO isT_Ratio isTs (rt n d) = some (.bl true) := rfl
@[simp] theorem is_int (n : Int) : gIsO isT_Ratio isTs (.int n) = some (.bl false) := by
  show (if ("int" : String) ∈ isTs then some (D.bl false) else none) = _
  rw [if_pos (by decide)]
@[simp] theorem right_rt (n d : Int) : rightD "Ratio" (rt n d) = true := rfl
@[simp] theorem right_int (n : Int) : rightD "Ratio" (.int n) = true := rfl
@[simp] theorem own_rt (tbl : Str → Option DF) (g : D → D → Option D) (n d : Int) (y : D) (E : J.Env) : ownR tbl g (rt n d) y E = (match tbl "Ratio" with
  | some F => if rightD "Ratio" y = true then callD 2 F [.v (rt n d), .v y] rvD E else .stuck
  | none => .stuck) := rfl
@[simp] theorem own1_rt (tbl : Str → Option DF) (g : D → Option D) (n d : Int) (E : J.Env) : own1 tbl g (rt n d) E = (match tbl "Ratio" with
  | some F => callD 1 F [.v (rt n d)] rvD E
  | none => .stuck) := rfl
def methD (m : Str) (n : Nat) (tbl : Str → Option DF) (dd : List D) (fa : J.Env → J.R (List Ar)) (d : D) (E : J.Env) : J.R D := match d with
  | .ins c ns es => (match tbl c with
    | some F => if ns.contains m = true then .stuck else (fa E).bind fun as E => callD n F (.v (.ins c ns es) :: (as ++ dd.map .v)) rvD E
    | none => .stuck)
  | _ => .stuck
@[simp] theorem u_fMeth (m : Str) (n : Nat) (tbl : Str → Option DF) (dd : List D) (fo : J.Env → J.R D) (fa : J.Env → J.R (List Ar)) (E : J.Env) : fMeth m n tbl dd fo fa E = (fo E).bind (methD m n tbl dd fa) := rfl
@[simp] theorem meth_rt (m : Str) (n : Nat) (tbl : Str → Option DF) (dd : List D) (fa : J.Env → J.R (List Ar)) (x y : Int) (E : J.Env) : methD m n tbl dd fa (rt x y) E = (match tbl "Ratio" with
  | some F => if (["num", "den"] : List Str).contains m = true then .stuck else (fa E).bind fun as E => callD n F (.v (rt x y) :: (as ++ dd.map .v)) rvD E
  | none => .stuck) := rfl
@[simp] theorem u_callD {α : Type} (n : Nat) (F : DF) (as : List Ar) (k : RV → Option α) (E1 : J.Env) : callD n F as k E1 = (match (if (ndA (ownsA as) && as.length == n) = true then argS E1 as else none) with
  | none => .stuck
  | some ss => match F ss with
    | .ok rv Ec => (match k rv with | some d => .ok d (backE Ec 0 as E1) | none => .stuck)
    | .exc x Ec => .exc x (backE Ec 0 as E1)
    | .stuck => .stuck) := rfl
def makeD (c : Str) (n : Nat) (F : DF) (dd : List D) (as : List Ar) (E1 : J.Env) : J.R D := match (if (ndA (ownsA as) && as.length + dd.length + 1 == n) = true then argS E1 as else none) with
  | none => .stuck
  | some ss => match F (.obj true c [] [] :: (ss ++ dd.map .val)) with
    | .ok (.v .non) Ec => (match (Ec[0]? : Option Sl) with
      | some (.obj true c' ns ds) => if c' = c then .ok (.ins c ns ds) (backE (Ec.drop 1) 0 as E1) else .stuck
      | _ => .stuck)
    | .exc x Ec => .exc x (backE (Ec.drop 1) 0 as E1)
    | _ => .stuck
@[simp] theorem u_fMake (c : Str) (n : Nat) (F : DF) (dd : List D) (fa : J.Env → J.R (List Ar)) (E : J.Env) : fMake c n F dd fa E = (fa E).bind (makeD c n F dd) := rfl
@[simp] theorem t_over : T_mt_over "Ratio" = some F_M_Ratio_over := rfl
@[simp] theorem t_add : T_op_add "Ratio" = some F_M_Ratio_add := rfl
@[simp] theorem t_sub : T_op_sub "Ratio" = some F_M_Ratio_sub := rfl
@[simp] theorem t_mul : T_op_mul "Ratio" = some F_M_Ratio_mul := rfl
@[simp] theorem t_eq : T_eq_eq "Ratio" = some F_M_Ratio_eq := rfl
@[simp] theorem t_str : T_un_str "Ratio" = some F_M_Ratio_str := rfl
@[simp] theorem t_neg : T_un_neg "Ratio" = some F_M_Ratio_neg := rfl

/-! ### made -/
def inB (n : Int) : Prop := -MAX ≤ n ∧ n ≤ MAX
theorem inB_big {n : Int} (h : inB n) : n.natAbs < BIG := by
  have h1 := MAX_sq
  have h2 := MAX_pos
  have h3 : MAX.natAbs ≤ MAX.natAbs * MAX.natAbs := Nat.le_mul_of_pos_right _ (by omega)
  have h4 : 1 * (MAX.natAbs * MAX.natAbs) ≤ 2 ^ 200 * (MAX.natAbs * MAX.natAbs) := Nat.mul_le_mul_right _ (by decide)
  have := h.1
  have := h.2
  omega
def mkV (n d : Int) : Except Exn D := if n < -MAX ∨ MAX < n then .error (xN n) else if d < 1 ∨ MAX < d then .error (xN d) else .ok (rt (loN n d) (loD n d))
theorem put1 (d : D) : putN "num" [] = (["num"] : List Str) ∧ putL "num" d [] [] = [d] := ⟨rfl, rfl⟩
@[simp] theorem put_n0 : putN "num" [] = (["num"] : List Str) := rfl
@[simp] theorem put_l0 (d : D) : putL "num" d [] [] = [d] := rfl
@[simp] theorem put_n1 : putN "den" ["num"] = (["num", "den"] : List Str) := rfl
@[simp] theorem put_l1 (x d : D) : putL "den" d ["num"] [x] = [x, d] := rfl
@[simp] theorem okc_n : okc_num "Ratio" = true := rfl
@[simp] theorem okc_d : okc_den "Ratio" = true := rfl
theorem mk_err1 {n d : Int} (h : n < -MAX ∨ MAX < n) (E : J.Env) : makeD "Ratio" 3 F_M_Ratio_init [] [.v (.int n), .v (.int d)] E = .exc (xN n) E := by
  have h' : n < -gi_MOST ∨ gi_MOST < n := h
  simp [makeD, ownsA, ndA, argS, backE, F_M_Ratio_init, runF, f_M_Ratio_init, h']
theorem mk_err2 {n d : Int} (h0 : ¬ (n < -MAX ∨ MAX < n)) (h : d < 1 ∨ MAX < d) (E : J.Env) : makeD "Ratio" 3 F_M_Ratio_init [] [.v (.int n), .v (.int d)] E = .exc (xN d) E := by
  have h' : d < 1 ∨ gi_MOST < d := h
  have h0' : ¬ (n < -gi_MOST ∨ gi_MOST < n) := h0
  simp [makeD, ownsA, ndA, argS, backE, F_M_Ratio_init, runF, f_M_Ratio_init, h', h0']
theorem mk_ok {n d : Int} (h0 : ¬ (n < -MAX ∨ MAX < n)) (h : ¬ (d < 1 ∨ MAX < d)) (E : J.Env) : makeD "Ratio" 3 F_M_Ratio_init [] [.v (.int n), .v (.int d)] E = .ok (rt (loN n d) (loD n d)) E := by
  have h' : ¬ (d < 1 ∨ gi_MOST < d) := h
  have h0' : ¬ (n < -gi_MOST ∨ gi_MOST < n) := h0
  have hd : 0 < d := by omega
  have b1 := g_divB n (g2 n d) (g2_pos hd) (inB_big ⟨by omega, by omega⟩)
  have b2 := g_divB d (g2 n d) (g2_pos hd) (inB_big ⟨by have := MAX_pos; omega, by omega⟩)
  simp [makeD, ownsA, ndA, argS, backE, F_M_Ratio_init, runF, f_M_Ratio_init, h', h0', g_gcd, b1, b2]
  rfl
theorem mk_is (n d : Int) (E : J.Env) : makeD "Ratio" 3 F_M_Ratio_init [] [.v (.int n), .v (.int d)] E = toD (mkV n d) E := by
  unfold mkV
  by_cases h0 : n < -MAX ∨ MAX < n
  · rw [mk_err1 h0, if_pos h0]; rfl
  · rw [if_neg h0]
    by_cases h : d < 1 ∨ MAX < d
    · rw [mk_err2 h0 h, if_pos h]; rfl
    · rw [mk_ok h0 h, if_neg h]; rfl
theorem mk_one (n : Int) (E : J.Env) : makeD "Ratio" 3 F_M_Ratio_init [.int 1] [.v (.int n)] E = toD (mkV n 1) E := by
  rw [← mk_is]
  simp [makeD, ownsA, ndA, argS, backE]
/-- brought to lowest terms, within bounds -/
def lowV (n d : Int) : Except Exn D := if loN n d < -MAX ∨ MAX < loN n d then .error (xN (loN n d)) else if MAX < loD n d then .error (xN (loD n d)) else .ok (rt (loN n d) (loD n d))
theorem low_mk {n d : Int} (h : 0 < d) : mkV (loN n d) (loD n d) = lowV n d := by
  unfold mkV lowV
  have h1 := loD_pos (n := n) h
  obtain ⟨e1, e2⟩ := lo_low (g2_lo (n := n) h)
  have : (loD n d < 1 ∨ MAX < loD n d) ↔ MAX < loD n d := by omega
  rw [e1, e2]
  simp only [this]
theorem e_low {n d : Int} (h : 0 < d) (hn : n.natAbs < BIG) (hd : d.natAbs < BIG) : F_P_ratio_lowest [.val (.int n), .val (.int d)] = toR (lowV n d) (ev F_P_ratio_lowest [.val (.int n), .val (.int d)]) := by
  refine of_ex ?_
  have b1 := g_divB n (g2 n d) (g2_pos h) hn
  have b2 := g_divB d (g2 n d) (g2_pos h) hd
  have e := mk_is (loN n d) (loD n d)
  rw [low_mk h] at e
  unfold loN loD at e
  cases hv : lowV n d with
  | error x => rw [hv] at e; simp [F_P_ratio_lowest, runF, f_P_ratio_lowest, ownsA, ndA, argS, backE, g_gcd, b1, b2, e, toD, toR]
  | ok r => rw [hv] at e; simp [F_P_ratio_lowest, runF, f_P_ratio_lowest, ownsA, ndA, argS, backE, g_gcd, b1, b2, e, toD, toR]
end Lw

namespace Lw
open PySem PySem.Spec PyProof.Rows L2 J
/-! ### what the law reckons -/
theorem g2_mod {a b : Int} (ha : 0 ≤ a) (hb : 0 < b) : g2 b (a % b) = g2 a b := by
  unfold g2
  have h : (a % b).natAbs = a.natAbs % b.natAbs := Int.natAbs_emod_of_nonneg ha b
  rw [h, Nat.gcd_comm, ← Nat.gcd_rec, Nat.gcd_comm]
theorem g2_zero {a : Int} (ha : 0 ≤ a) : g2 a 0 = a := by
  unfold g2
  simp
  omega
theorem g2_abs (a b : Int) : g2 (if a < 0 then -a else a) b = g2 a b := by
  unfold g2
  split
  · rw [Int.natAbs_neg]
  · rfl
abbrev cmT : J.Env → J.R Bool := (fTest (fop gNe (fVar 1) (fC (.int 0))))
abbrev cmB : J.Env → RS := (sSeq (sSet 2 (fop gMod (fun1 gIntF (fVar 0)) (fVar 1))) (sSeq (sSet 0 (fVar 1)) (sSet 1 (fVar 2))))
theorem cm_loop : ∀ (k : Nat) (a b : Int) (c : Sl), 0 ≤ a → 0 ≤ b → b.natAbs < k → ∃ c', whileD cmT cmB k [.val (.int a), .val (.int b), c] = .nx [.val (.int (g2 a b)), .val (.int 0), c']
  | 0, a, b, c, _, _, h => by omega
  | k + 1, a, b, c, ha, hb, h => by
    by_cases h0 : b = 0
    · subst h0
      refine ⟨c, ?_⟩
      simp [whileD, g2_zero ha]
    · have hp : 0 < b := by omega
      have hm := Int.emod_nonneg a (Int.ne_of_gt hp)
      have hl := Int.emod_lt_of_pos a hp
      obtain ⟨c', e⟩ := cm_loop k b (a % b) (.val (.int (a % b))) hb hm (by omega)
      refine ⟨c', ?_⟩
      rw [g2_mod ha hp] at e
      rw [← e]
      simp [whileD, h0, g_mod _ _ hp]
theorem e_common {a b : Int} (ha : 0 ≤ a) (hb : 0 ≤ b) : F_L_common [.val (.int a), .val (.int b)] = .ok (.v (.int (g2 a b))) (ev F_L_common [.val (.int a), .val (.int b)]) := by
  refine of_ok ?_
  obtain ⟨c', e⟩ := cm_loop (b.natAbs + 1) a b .no ha hb (by omega)
  have e2 : f_L_common [.val (.int a), .val (.int b), .no] = .rt (.v (.int (g2 a b))) [.val (.int (g2 a b)), .val (.int 0), c'] := by
    unfold f_L_common
    rw [u_sSeq]
    have hf : fu_L_common_1 [.val (.int a), .val (.int b), .no] = b.natAbs + 1 := rfl
    rw [hf, e]
    rfl
  refine ⟨[.val (.int (g2 a b)), .val (.int 0), c'], ?_⟩
  show runF 3 f_L_common _ = _
  unfold runF
  show (match f_L_common [.val (.int a), .val (.int b), .no] with | .nx E => _ | .rt r E => _ | .exc x E => _ | _ => _) = _
  rw [e2]
def dueV (n d : Int) : D := if MAX < (if loN n d < 0 then -loN n d else loN n d) then .tup [.str "number", .int (loN n d)] else if MAX < loD n d then .tup [.str "number", .int (loD n d)] else .tup [.str "ratio", .int (loN n d), .int (loD n d)]
def dueD (n d : Int) : D := if d = 0 then .tup [.str "number", .int 0] else if d < 0 then dueV (-n) (-d) else dueV n d
theorem due_V {n d : Int} (h : 0 < d) : dueD n d = dueV n d := by
  unfold dueD
  rw [if_neg (by omega), if_neg (by omega)]
/-- the answer depends on the number alone -/
theorem dueV_eq {n d n' d' : Int} (h : 0 < d) (h' : 0 < d') (e : n * d' = n' * d) : dueV n d = dueV n' d' := by
  obtain ⟨e1, e2⟩ := lo_eq h h' e
  unfold dueV
  rw [e1, e2]
end Lw

namespace Lw
open PySem PySem.Spec PyProof.Rows L2 J
/-! ### sizes -/
def MM : Nat := MAX.natAbs * MAX.natAbs
theorem sz1 {a : Int} (h : inB a) : a.natAbs ≤ MAX.natAbs := by have := h.1; have := h.2; have := MAX_pos; omega
theorem sz2 {a b : Int} (h : inB a) (k : inB b) : (a * b).natAbs ≤ MM := by
  rw [Int.natAbs_mul]; exact Nat.mul_le_mul (sz1 h) (sz1 k)
theorem big_of {x : Int} {k : Nat} (h : x.natAbs ≤ k * MM) (hk : k ≤ 2 ^ 200) : x.natAbs < BIG := by
  have h1 : 2 ^ 200 * MM < BIG := MAX_sq
  have h2 : k * MM ≤ 2 ^ 200 * MM := Nat.mul_le_mul_right _ hk
  omega
theorem big2 {a b : Int} (h : inB a) (k : inB b) : (a * b).natAbs < BIG := big_of (k := 1) (by have := sz2 h k; omega) (by decide)
theorem bigA {x y : Int} (h : x.natAbs ≤ MM) (k : y.natAbs ≤ MM) : (x + y).natAbs < BIG ∧ (x - y).natAbs < BIG := ⟨big_of (k := 2) (by omega) (by decide), big_of (k := 2) (by omega) (by decide)⟩
theorem inB_d {d : Int} (h : 0 < d ∧ d ≤ MAX) : inB d := ⟨by have := MAX_pos; omega, h.2⟩
theorem inB_1 : inB 1 := ⟨by have := MAX_pos; omega, by have := MAX_pos; omega⟩
theorem inB_0 : inB 0 := ⟨by have := MAX_pos; omega, by have := MAX_pos; omega⟩
/-- a right operand: a ratio, or an int -/
inductive Pt : D → Int → Int → Prop
  | r {n d : Int} (hn : inB n) (hd : 0 < d ∧ d ≤ MAX) : Pt (rt n d) n d
  | i {n : Int} (hn : inB n) : Pt (.int n) n 1
theorem Pt.n {y : D} {n d : Int} (h : Pt y n d) : inB n := by cases h <;> assumption
theorem Pt.d {y : D} {n d : Int} (h : Pt y n d) : 0 < d ∧ d ≤ MAX := by
  cases h with
  | r hn hd => exact hd
  | i hn => exact ⟨by decide, inB_1.2⟩
theorem Pt.right {y : D} {n d : Int} (h : Pt y n d) : rightD "Ratio" y = true := by cases h <;> rfl
theorem e_parts {y : D} {n d : Int} (h : Pt y n d) : F_P_ratio_parts [.val y] = .ok (.v (.tup [.int n, .int d])) (ev F_P_ratio_parts [.val y]) := by
  refine of_ok ?_
  cases h with
  | r hn hd => simp [F_P_ratio_parts, runF, f_P_ratio_parts]
  | i hn =>
    have h1 : ¬ (n < -gi_MOST ∨ gi_MOST < n) := by
      have a := hn.1
      have b := hn.2
      rw [gi_M]; omega
    simp [F_P_ratio_parts, runF, f_P_ratio_parts, ownsA, ndA, argS, backE, h1]
section
variable {n d n2 d2 : Int} {y : D}
theorem e_add (hn : inB n) (hd : 0 < d ∧ d ≤ MAX) (h : Pt y n2 d2) : F_M_Ratio_add [.val (rt n d), .val y] = toR (lowV (n * d2 + n2 * d) (d * d2)) (ev F_M_Ratio_add [.val (rt n d), .val y]) := by
  refine of_ex ?_
  have m1 := g_mulB n d2 (inB_big hn) (inB_big (inB_d h.d))
  have m2 := g_mulB n2 d (inB_big h.n) (inB_big (inB_d hd))
  have m3 := g_mulB d d2 (inB_big (inB_d hd)) (inB_big (inB_d h.d))
  have e := e_low (n := n * d2 + n2 * d) (d := d * d2) (Int.mul_pos hd.1 h.d.1) (bigA (sz2 hn (inB_d h.d)) (sz2 h.n (inB_d hd))).1 (big2 (inB_d hd) (inB_d h.d))
  have p := e_parts h
  cases hv : lowV (n * d2 + n2 * d) (d * d2) with
  | error x => rw [hv] at e; simp [F_M_Ratio_add, runF, f_M_Ratio_add, ownsA, ndA, argS, backE, p, m1, m2, m3, e, toR]
  | ok r => rw [hv] at e; simp [F_M_Ratio_add, runF, f_M_Ratio_add, ownsA, ndA, argS, backE, p, m1, m2, m3, e, toR]
theorem e_sub (hn : inB n) (hd : 0 < d ∧ d ≤ MAX) (h : Pt y n2 d2) : F_M_Ratio_sub [.val (rt n d), .val y] = toR (lowV (n * d2 - n2 * d) (d * d2)) (ev F_M_Ratio_sub [.val (rt n d), .val y]) := by
  refine of_ex ?_
  have m1 := g_mulB n d2 (inB_big hn) (inB_big (inB_d h.d))
  have m2 := g_mulB n2 d (inB_big h.n) (inB_big (inB_d hd))
  have m3 := g_mulB d d2 (inB_big (inB_d hd)) (inB_big (inB_d h.d))
  have e := e_low (n := n * d2 - n2 * d) (d := d * d2) (Int.mul_pos hd.1 h.d.1) (bigA (sz2 hn (inB_d h.d)) (sz2 h.n (inB_d hd))).2 (big2 (inB_d hd) (inB_d h.d))
  have p := e_parts h
  cases hv : lowV (n * d2 - n2 * d) (d * d2) with
  | error x => rw [hv] at e; simp [F_M_Ratio_sub, runF, f_M_Ratio_sub, ownsA, ndA, argS, backE, p, m1, m2, m3, e, toR]
  | ok r => rw [hv] at e; simp [F_M_Ratio_sub, runF, f_M_Ratio_sub, ownsA, ndA, argS, backE, p, m1, m2, m3, e, toR]
theorem e_mul (hn : inB n) (hd : 0 < d ∧ d ≤ MAX) (h : Pt y n2 d2) : F_M_Ratio_mul [.val (rt n d), .val y] = toR (lowV (n * n2) (d * d2)) (ev F_M_Ratio_mul [.val (rt n d), .val y]) := by
  refine of_ex ?_
  have m1 := g_mulB n n2 (inB_big hn) (inB_big h.n)
  have m3 := g_mulB d d2 (inB_big (inB_d hd)) (inB_big (inB_d h.d))
  have e := e_low (n := n * n2) (d := d * d2) (Int.mul_pos hd.1 h.d.1) (big2 hn h.n) (big2 (inB_d hd) (inB_d h.d))
  have p := e_parts h
  cases hv : lowV (n * n2) (d * d2) with
  | error x => rw [hv] at e; simp [F_M_Ratio_mul, runF, f_M_Ratio_mul, ownsA, ndA, argS, backE, p, m1, m3, e, toR]
  | ok r => rw [hv] at e; simp [F_M_Ratio_mul, runF, f_M_Ratio_mul, ownsA, ndA, argS, backE, p, m1, m3, e, toR]
def overV (n d n2 d2 : Int) : Except Exn D := if n2 = 0 then .error (xN 0) else if n2 < 0 then lowV (-n * d2) (-d * n2) else lowV (n * d2) (d * n2)
theorem inB_neg {a : Int} (h : inB a) : inB (-a) := ⟨by have := h.2; omega, by have := h.1; omega⟩
theorem e_over (hn : inB n) (hd : 0 < d ∧ d ≤ MAX) (hn2 : inB n2) (hd2 : 0 < d2 ∧ d2 ≤ MAX) : F_M_Ratio_over [.val (rt n d), .val (rt n2 d2)] = toR (overV n d n2 d2) (ev F_M_Ratio_over [.val (rt n d), .val (rt n2 d2)]) := by
  refine of_ex ?_
  unfold overV
  by_cases h0 : n2 = 0
  · subst h0
    simp [F_M_Ratio_over, runF, f_M_Ratio_over, toR, xN]
  · rw [if_neg h0]
    by_cases h1 : n2 < 0
    · rw [if_pos h1]
      have m1 := g_mulB (-n) d2 (inB_big (inB_neg hn)) (inB_big (inB_d hd2))
      have m3 := g_mulB (-d) n2 (inB_big (inB_neg (inB_d hd))) (inB_big hn2)
      have e := e_low (n := -n * d2) (d := -d * n2) (by rw [Int.neg_mul, ← Int.mul_neg]; exact Int.mul_pos hd.1 (by omega)) (big2 (inB_neg hn) (inB_d hd2)) (big2 (inB_neg (inB_d hd)) hn2)
      generalize hX : -n * d2 = X at *
      generalize hY : -d * n2 = Y at *
      cases hv : lowV X Y with
      | error x => rw [hv] at e; simp [F_M_Ratio_over, runF, f_M_Ratio_over, ownsA, ndA, argS, backE, h0, h1, m1, m3, e, toR]
      | ok r => rw [hv] at e; simp [F_M_Ratio_over, runF, f_M_Ratio_over, ownsA, ndA, argS, backE, h0, h1, m1, m3, e, toR]
    · rw [if_neg h1]
      have m1 := g_mulB n d2 (inB_big hn) (inB_big (inB_d hd2))
      have m3 := g_mulB d n2 (inB_big (inB_d hd)) (inB_big hn2)
      have e := e_low (n := n * d2) (d := d * n2) (Int.mul_pos hd.1 (by omega)) (big2 hn (inB_d hd2)) (big2 (inB_d hd) hn2)
      cases hv : lowV (n * d2) (d * n2) with
      | error x => rw [hv] at e; simp [F_M_Ratio_over, runF, f_M_Ratio_over, ownsA, ndA, argS, backE, h0, h1, m1, m3, e, toR]
      | ok r => rw [hv] at e; simp [F_M_Ratio_over, runF, f_M_Ratio_over, ownsA, ndA, argS, backE, h0, h1, m1, m3, e, toR]
end
/-! ### told -/
@[simp] theorem e_int (i : Int) : F_L_int [.val (.int i)] = .ok (.v (.bl true)) [.val (.int i)] := by
  simp [F_L_int, runF, f_L_int]
theorem e_pair (n d : Int) : F_L_pair [.val (rt n d)] = .ok (.v (.tup [.str "ratio", .int n, .int d])) (ev F_L_pair [.val (rt n d)]) := by
  refine of_ok ?_
  simp [F_L_pair, runF, f_L_pair, ownsA, ndA, argS, backE]
/-- what is told of an answer -/
def tellV : Except Exn D → D
  | .ok (.ins _ _ [.int n, .int d]) => .tup [.str "ratio", .int n, .int d]
  | .error ⟨_, _, [.int n]⟩ => .tup [.str "number", .int n]
  | _ => .non
theorem tell_low {n d : Int} : tellV (lowV n d) = dueV n d := by
  unfold lowV dueV
  have h : (loN n d < -MAX ∨ MAX < loN n d) ↔ MAX < (if loN n d < 0 then -loN n d else loN n d) := by split <;> omega
  by_cases c1 : loN n d < -MAX ∨ MAX < loN n d
  · rw [if_pos c1, if_pos (h.mp c1)]; rfl
  · rw [if_neg c1, if_neg (fun z => c1 (h.mpr z))]
    by_cases c2 : MAX < loD n d
    · rw [if_pos c2, if_pos c2]; rfl
    · rw [if_neg c2, if_neg c2]; rfl
theorem low_cases (n d : Int) : (∃ v, lowV n d = .error (xN v)) ∨ ∃ a b, lowV n d = .ok (rt a b) := by
  unfold lowV
  split
  · exact .inl ⟨_, rfl⟩
  · split
    · exact .inl ⟨_, rfl⟩
    · exact .inr ⟨_, _, rfl⟩
theorem over_cases (n d n2 d2 : Int) : (∃ v, overV n d n2 d2 = .error (xN v)) ∨ ∃ a b, overV n d n2 d2 = .ok (rt a b) := by
  unfold overV
  split
  · exact .inl ⟨_, rfl⟩
  · split
    · exact low_cases _ _
    · exact low_cases _ _
end Lw

namespace Tx
open PySem.NumText

/-! ### the text of a ratio: an automaton over the signs, and what it gives -/
def isD (c : Nat) : Bool := decide (48 ≤ c ∧ c ≤ 57)
theorem isD_iff {c : Nat} : isD c = true ↔ 48 ≤ c ∧ c ≤ 57 := decide_eq_true_iff
theorem isD_not {c : Nat} (h : ¬ (48 ≤ c ∧ c ≤ 57)) : isD c = false := decide_eq_false h
/-- how many digits stand ahead -/
def dl : List Nat → Nat
  | [] => 0
  | c :: r => if isD c = true then dl r + 1 else 0
theorem dl_cons (c : Nat) (r : List Nat) : dl (c :: r) = if isD c = true then dl r + 1 else 0 := rfl
theorem dl_le : ∀ cs : List Nat, dl cs ≤ cs.length
  | [] => Nat.le_refl _
  | c :: r => by
    unfold dl
    split
    · have := dl_le r; simp; omega
    · exact Nat.zero_le _
theorem dl_digits : ∀ (cs : List Nat) (k : Nat), k ≤ dl cs → AllDigits (cs.take k)
  | [], k, _ => by intro d hd; simp at hd
  | c :: r, 0, _ => by intro d hd; simp at hd
  | c :: r, k + 1, h => by
    unfold dl at h
    split at h
    · rename_i hc
      intro d hd
      rw [List.take_succ_cons] at hd
      rcases List.mem_cons.mp hd with rfl | hd
      · exact isD_iff.mp hc
      · exact dl_digits r k (by omega) d hd
    · omega
/-- the worth of digits behind a -/
def vl (a : Nat) (cs : List Nat) : Nat := cs.foldl (fun acc c => acc * 10 + (c - 48)) a
theorem vl_cons (a c : Nat) (cs : List Nat) : vl a (c :: cs) = vl (a * 10 + (c - 48)) cs := by unfold vl; rw [List.foldl_cons]
theorem vl_nil (a : Nat) : vl a [] = a := rfl
theorem vl_dv (c : Nat) (cs : List Nat) : vl (c - 48) cs = digitsVal (c :: cs) := by
  unfold digitsVal vl
  rw [List.foldl_cons]
  simp
theorem vl_lt : ∀ (cs : List Nat) (a k : Nat), AllDigits cs → a < 10 ^ k → vl a cs < 10 ^ (k + cs.length)
  | [], a, k, _, h => by rw [vl_nil, List.length_nil, Nat.add_zero]; exact h
  | c :: r, a, k, hd, h => by
    rw [vl_cons, List.length_cons, show k + (r.length + 1) = (k + 1) + r.length by omega]
    have := hd.head
    refine vl_lt r _ (k + 1) hd.tail ?_
    rw [Nat.pow_succ]
    omega
structure St where
  st : Nat
  sg : Int
  v0 : Nat
  v1 : Nat
  d0 : Nat
  d1 : Nat
def cls (c : Nat) : Nat := if c = 48 then 0 else if 49 ≤ c ∧ c ≤ 57 then 1 else if c = 47 then 2 else if c = 45 then 3 else 4
def tab (s k : Nat) : Int :=
  if s = 0 then (if k = 0 then 2 else if k = 1 then 3 else if k = 3 then 1 else -1)
  else if s = 1 then (if k = 1 then 3 else -1)
  else if s = 3 then (if k = 0 then 3 else if k = 1 then 3 else if k = 2 then 4 else -1)
  else if s = 4 then (if k = 1 then 5 else -1)
  else if s = 5 then (if k = 0 then 5 else if k = 1 then 5 else -1)
  else -1
def stpT (S : St) (c : Nat) (t : Int) : Option St :=
  if t = 1 then some { S with st := 1, sg := -1 }
  else if t = 2 then (if S.d0 + 1 > 2001 then none else some { S with st := 2, v0 := S.v0 * 10 + (c - 48), d0 := S.d0 + 1 })
  else if t = 3 then (if S.d0 + 1 > 2001 then none else some { S with st := 3, v0 := S.v0 * 10 + (c - 48), d0 := S.d0 + 1 })
  else if t = 4 then some { S with st := 4 }
  else if t = 5 then (if S.d1 + 1 > 2001 then none else some { S with st := 5, v1 := S.v1 * 10 + (c - 48), d1 := S.d1 + 1 })
  else none
def stp (S : St) (c : Nat) : Option St := stpT S c (tab S.st (cls c))
def run : St → Nat → List Nat → Except Nat St
  | S, _, [] => .ok S
  | S, p, c :: r => match stp S c with
    | none => .error (p + 1)
    | some S' => run S' (p + 1) r
theorem run_nil (S : St) (p : Nat) : run S p [] = .ok S := rfl
theorem run_cons (S : St) (p c : Nat) (r : List Nat) : run S p (c :: r) = match stp S c with
    | none => .error (p + 1)
    | some S' => run S' (p + 1) r := rfl
theorem cls_d {c : Nat} (h : isD c = true) : cls c = 0 ∨ cls c = 1 := by
  have := isD_iff.mp h
  unfold cls
  split
  · exact .inl rfl
  · rw [if_pos (by omega)]; exact .inr rfl
theorem cls_1 {c : Nat} (h : isD c = true) (h8 : c ≠ 48) : cls c = 1 := by
  have := isD_iff.mp h
  unfold cls
  rw [if_neg h8, if_pos (by omega)]
theorem cls_n {c : Nat} (h : isD c = false) : cls c = 2 ∨ cls c = 3 ∨ cls c = 4 := by
  have : ¬ (48 ≤ c ∧ c ≤ 57) := of_decide_eq_false h
  unfold cls
  rw [if_neg (by omega), if_neg (by omega)]
  split
  · exact .inl rfl
  · split
    · exact .inr (.inl rfl)
    · exact .inr (.inr rfl)
theorem cls_m {c : Nat} (h : isD c = false) (h7 : c ≠ 47) : cls c = 3 ∨ cls c = 4 := by
  have : ¬ (48 ≤ c ∧ c ≤ 57) := of_decide_eq_false h
  unfold cls
  rw [if_neg (by omega), if_neg (by omega), if_neg h7]
  split
  · exact .inl rfl
  · exact .inr rfl
theorem cls_4 {c : Nat} (h : isD c = false) (h7 : c ≠ 47) (h5 : c ≠ 45) : cls c = 4 := by
  have : ¬ (48 ≤ c ∧ c ≤ 57) := of_decide_eq_false h
  unfold cls
  rw [if_neg (by omega), if_neg (by omega), if_neg h7, if_neg h5]
theorem stp3_d {sg : Int} {v v1 d d1 c : Nat} (h : isD c = true) : stp ⟨3, sg, v, v1, d, d1⟩ c = if d + 1 > 2001 then none else some ⟨3, sg, v * 10 + (c - 48), v1, d + 1, d1⟩ := by
  unfold stp
  rcases cls_d h with e | e <;> simp [e, tab, stpT]
theorem stp3_n {sg : Int} {v v1 d d1 c : Nat} (h : isD c = false) : stp ⟨3, sg, v, v1, d, d1⟩ c = if c = 47 then some ⟨4, sg, v, v1, d, d1⟩ else none := by
  unfold stp
  by_cases hc : c = 47
  · subst hc; rw [show cls 47 = 2 from rfl]; simp [tab, stpT]
  · rw [if_neg hc]
    rcases cls_m h hc with e | e <;> simp [e, tab, stpT]
theorem stp5_d {sg : Int} {v v1 d d1 c : Nat} (h : isD c = true) : stp ⟨5, sg, v, v1, d, d1⟩ c = if d1 + 1 > 2001 then none else some ⟨5, sg, v, v1 * 10 + (c - 48), d, d1 + 1⟩ := by
  unfold stp
  rcases cls_d h with e | e <;> simp [e, tab, stpT]
theorem stp5_n {sg : Int} {v v1 d d1 c : Nat} (h : isD c = false) : stp ⟨5, sg, v, v1, d, d1⟩ c = none := by
  unfold stp
  rcases cls_n h with e | e | e <;> simp [e, tab, stpT]
theorem not19 {c : Nat} (h : ¬ (isD c = true ∧ c ≠ 48)) : cls c = 0 ∨ cls c = 2 ∨ cls c = 3 ∨ cls c = 4 := by
  by_cases h8 : c = 48
  · subst h8; exact .inl rfl
  · exact .inr (cls_n (by cases e : isD c with | false => rfl | true => exact absurd ⟨e, h8⟩ h))
theorem stp4 {sg : Int} {v v1 d d1 c : Nat} : stp ⟨4, sg, v, v1, d, d1⟩ c = if isD c = true ∧ c ≠ 48 then (if d1 + 1 > 2001 then none else some ⟨5, sg, v, v1 * 10 + (c - 48), d, d1 + 1⟩) else none := by
  unfold stp
  by_cases h : isD c = true ∧ c ≠ 48
  · rw [if_pos h, cls_1 h.1 h.2]; simp [tab, stpT]
  · rw [if_neg h]
    rcases not19 h with e | e | e | e <;> simp [e, tab, stpT]
theorem stp1 {sg : Int} {v v1 d d1 c : Nat} : stp ⟨1, sg, v, v1, d, d1⟩ c = if isD c = true ∧ c ≠ 48 then (if d + 1 > 2001 then none else some ⟨3, sg, v * 10 + (c - 48), v1, d + 1, d1⟩) else none := by
  unfold stp
  by_cases h : isD c = true ∧ c ≠ 48
  · rw [if_pos h, cls_1 h.1 h.2]; simp [tab, stpT]
  · rw [if_neg h]
    rcases not19 h with e | e | e | e <;> simp [e, tab, stpT]
theorem stp2 {sg : Int} {v v1 d d1 c : Nat} : stp ⟨2, sg, v, v1, d, d1⟩ c = none := by
  unfold stp
  simp [tab, stpT]
/-- digits behind the first one of the numerator -/
theorem run3 (sg : Int) : ∀ (r : List Nat) (v d p : Nat), d ≤ 2001 → run ⟨3, sg, v, 0, d, 0⟩ p r =
    match r.drop (min (2001 - d) (dl r)) with
    | [] => .ok ⟨3, sg, vl v (r.take (min (2001 - d) (dl r))), 0, d + min (2001 - d) (dl r), 0⟩
    | c :: r' => if c = 47 then run ⟨4, sg, vl v (r.take (min (2001 - d) (dl r))), 0, d + min (2001 - d) (dl r), 0⟩ (p + min (2001 - d) (dl r) + 1) r' else .error (p + min (2001 - d) (dl r) + 1)
  | [], v, d, p, h => by simp [dl, run_nil, vl]
  | c :: r, v, d, p, h => by
    rw [run_cons]
    by_cases hc : isD c = true
    · rw [stp3_d hc]
      have hn : c ≠ 47 := by have := isD_iff.mp hc; omega
      by_cases hd : d + 1 > 2001
      · rw [if_pos hd]
        have e : min (2001 - d) (dl (c :: r)) = 0 := by omega
        simp [e, hn]
      · rw [if_neg hd]
        have e : min (2001 - d) (dl (c :: r)) = min (2001 - (d + 1)) (dl r) + 1 := by
          rw [dl_cons, if_pos hc]
          omega
        show run ⟨3, sg, v * 10 + (c - 48), 0, d + 1, 0⟩ (p + 1) r = _
        rw [run3 sg r (v * 10 + (c - 48)) (d + 1) (p + 1) (by omega), e, List.drop_succ_cons, List.take_succ_cons, vl_cons]
        generalize min (2001 - (d + 1)) (dl r) = k
        rw [show d + 1 + k = d + (k + 1) by omega, show p + 1 + k + 1 = p + (k + 1) + 1 by omega]
    · have hc : isD c = false := by simpa using hc
      rw [stp3_n hc]
      have e : min (2001 - d) (dl (c :: r)) = 0 := by rw [dl_cons, hc]; simp
      simp only [e, List.drop_zero, List.take_zero, vl_nil, Nat.add_zero]
      by_cases h7 : c = 47
      · rw [if_pos h7, if_pos h7]
      · rw [if_neg h7, if_neg h7]
theorem run5 (sg : Int) (v0 d0 : Nat) : ∀ (r : List Nat) (v d p : Nat), d ≤ 2001 → run ⟨5, sg, v0, v, d0, d⟩ p r =
    match r.drop (min (2001 - d) (dl r)) with
    | [] => .ok ⟨5, sg, v0, vl v (r.take (min (2001 - d) (dl r))), d0, d + min (2001 - d) (dl r)⟩
    | c :: r' => .error (p + min (2001 - d) (dl r) + 1)
  | [], v, d, p, h => by simp [dl, run_nil, vl]
  | c :: r, v, d, p, h => by
    rw [run_cons]
    by_cases hc : isD c = true
    · rw [stp5_d hc]
      by_cases hd : d + 1 > 2001
      · rw [if_pos hd]
        have e : min (2001 - d) (dl (c :: r)) = 0 := by omega
        simp [e]
      · rw [if_neg hd]
        have e : min (2001 - d) (dl (c :: r)) = min (2001 - (d + 1)) (dl r) + 1 := by
          rw [dl_cons, if_pos hc]
          omega
        show run ⟨5, sg, v0, v * 10 + (c - 48), d0, d + 1⟩ (p + 1) r = _
        rw [run5 sg v0 d0 r (v * 10 + (c - 48)) (d + 1) (p + 1) (by omega), e, List.drop_succ_cons, List.take_succ_cons, vl_cons]
        generalize min (2001 - (d + 1)) (dl r) = k
        rw [show d + 1 + k = d + (k + 1) by omega, show p + 1 + k + 1 = p + (k + 1) + 1 by omega]
    · have hc : isD c = false := by simpa using hc
      rw [stp5_n hc]
      have e : min (2001 - d) (dl (c :: r)) = 0 := by rw [dl_cons, hc]; simp
      simp only [e, List.drop_zero]

/-! ### what a text is read as: the column of the error or numerator and denominator -/
def low1 (v0 v1 : Nat) : Bool := decide (1 < v1 ∧ Nat.gcd v0 v1 = 1)
/-- behind the first digit of the numerator (not 0); b signs ahead of it -/
def rdDen (b : Nat) (sg : Int) (v0 k : Nat) : List Nat → Except Nat (Int × Int)
  | [] => .error (b + k + 3)
  | c3 :: r3 => if isD c3 = true ∧ c3 ≠ 48 then (match r3.drop (min 2000 (dl r3)) with
      | _ :: _ => .error (b + k + min 2000 (dl r3) + 4)
      | [] => if low1 v0 (vl (c3 - 48) (r3.take (min 2000 (dl r3)))) = true then .ok (sg * v0, ((vl (c3 - 48) (r3.take (min 2000 (dl r3))) : Nat) : Int)) else .error (b + k + min 2000 (dl r3) + 4))
    else .error (b + k + 3)
theorem rdDen_cons (b : Nat) (sg : Int) (v0 k c3 : Nat) (r3 : List Nat) : rdDen b sg v0 k (c3 :: r3) = if isD c3 = true ∧ c3 ≠ 48 then (match r3.drop (min 2000 (dl r3)) with
      | _ :: _ => .error (b + k + min 2000 (dl r3) + 4)
      | [] => if low1 v0 (vl (c3 - 48) (r3.take (min 2000 (dl r3)))) = true then .ok (sg * v0, ((vl (c3 - 48) (r3.take (min 2000 (dl r3))) : Nat) : Int)) else .error (b + k + min 2000 (dl r3) + 4))
    else .error (b + k + 3) := rfl
def rdNum (b : Nat) (sg : Int) (c : Nat) (r : List Nat) : Except Nat (Int × Int) := match r.drop (min 2000 (dl r)) with
  | [] => .ok (sg * ((vl (c - 48) (r.take (min 2000 (dl r))) : Nat) : Int), 1)
  | c2 :: r2 => if c2 = 47 then rdDen b sg (vl (c - 48) (r.take (min 2000 (dl r)))) (min 2000 (dl r)) r2 else .error (b + min 2000 (dl r) + 2)
def spec : List Nat → Except Nat (Int × Int)
  | [] => .error 1
  | c :: r => if c = 45 then (match r with
      | [] => .error 2
      | c1 :: r1 => if isD c1 = true ∧ c1 ≠ 48 then rdNum 1 (-1) c1 r1 else .error 2)
    else if c = 48 then (match r with
      | [] => .ok (0, 1)
      | _ :: _ => .error 2)
    else if isD c = true then rdNum 0 1 c r
    else .error 1
/-- what the automaton says at the end of a text with n signs -/
def rdEnd (n : Nat) (S : St) : Except Nat (Int × Int) :=
  if S.st = 2 ∨ S.st = 3 then .ok (S.sg * S.v0, 1)
  else if S.st = 5 ∧ 1 < S.v1 then (if Nat.gcd S.v0 S.v1 = 1 then .ok (S.sg * S.v0, S.v1) else .error (n + 1))
  else .error (n + 1)
def fin (n : Nat) : Except Nat St → Except Nat (Int × Int)
  | .error e => .error e
  | .ok S => rdEnd n S
def auto (cs : List Nat) : Except Nat (Int × Int) := fin cs.length (run ⟨0, 1, 0, 0, 0, 0⟩ 0 cs)
theorem spec_cons (c : Nat) (r : List Nat) : spec (c :: r) = if c = 45 then (match r with
      | [] => .error 2
      | c1 :: r1 => if isD c1 = true ∧ c1 ≠ 48 then rdNum 1 (-1) c1 r1 else .error 2)
    else if c = 48 then (match r with
      | [] => .ok (0, 1)
      | _ :: _ => .error 2)
    else if isD c = true then rdNum 0 1 c r
    else .error 1 := rfl
theorem fin_err (n e : Nat) : fin n (.error e) = .error e := rfl
theorem fin_ok (n : Nat) (S : St) : fin n (.ok S) = rdEnd n S := rfl
theorem run_none {S : St} {p c : Nat} {r : List Nat} (h : stp S c = none) : run S p (c :: r) = .error (p + 1) := by rw [run_cons, h]
theorem run_some {S S' : St} {p c : Nat} {r : List Nat} (h : stp S c = some S') : run S p (c :: r) = run S' (p + 1) r := by rw [run_cons, h]
theorem drop_len {α : Type} {l : List α} {k : Nat} {c : α} {r : List α} (h : l.drop k = c :: r) : l.length = k + 1 + r.length := by
  have e := congrArg List.length h
  rw [List.length_drop, List.length_cons] at e
  have : k < l.length := by
    by_cases z : k < l.length
    · exact z
    · omega
  omega
theorem drop_nil {l : List Nat} (h : l.drop (min 2000 (dl l)) = []) : l.length = min 2000 (dl l) := by
  have := congrArg List.length h
  rw [List.length_drop] at this
  have h2 := dl_le l
  simp at this
  omega
theorem auto_den {b k v0 d0 n : Nat} {sg : Int} (r : List Nat) (hn : n = b + k + 2 + r.length) : fin n (run ⟨4, sg, v0, 0, d0, 0⟩ (b + k + 2) r) = rdDen b sg v0 k r := by
  cases r with
  | nil =>
    rw [run_nil, fin_ok]
    simp [rdEnd, rdDen, hn]
  | cons c3 r3 =>
    rw [rdDen_cons]
    by_cases hc : isD c3 = true ∧ c3 ≠ 48
    · rw [if_pos hc, run_some (S' := ⟨5, sg, v0, 0 * 10 + (c3 - 48), d0, 0 + 1⟩) (by rw [stp4, if_pos hc, if_neg (by decide)])]
      rw [show 0 * 10 + (c3 - 48) = c3 - 48 by omega, run5 sg v0 d0 r3 _ _ _ (by decide), show 2001 - (0 + 1) = 2000 from rfl]
      cases h : r3.drop (min 2000 (dl r3)) with
      | nil =>
        have hl := drop_nil h
        have hn' : n = b + k + min 2000 (dl r3) + 3 := by rw [hn, List.length_cons, hl]; omega
        simp only [fin_ok]
        unfold rdEnd low1
        rw [hn']
        generalize vl (c3 - 48) _ = v1
        by_cases h1 : 1 < v1
        · by_cases h2 : Nat.gcd v0 v1 = 1
          · simp [h1, h2]
          · simp [h1, h2]
        · simp [h1]
      | cons x y => simp only [fin_err]; congr 1; omega
    · rw [if_neg hc, run_none (by rw [stp4, if_neg hc]), fin_err]
theorem auto_num {b c n : Nat} {sg : Int} (r : List Nat) (hn : n = b + 1 + r.length) : fin n (run ⟨3, sg, c - 48, 0, 1, 0⟩ (b + 1) r) = rdNum b sg c r := by
  rw [run3 sg r _ _ _ (by decide), show 2001 - 1 = 2000 from rfl]
  unfold rdNum
  cases h : r.drop (min 2000 (dl r)) with
  | nil => simp [fin_ok, rdEnd]
  | cons x y =>
    have hl := drop_len h
    by_cases h7 : x = 47
    · simp only [h7, if_true]
      have := auto_den (b := b) (k := min 2000 (dl r)) (v0 := vl (c - 48) (r.take (min 2000 (dl r)))) (d0 := 1 + min 2000 (dl r)) (sg := sg) (n := n) y (by omega)
      rw [show b + 1 + min 2000 (dl r) + 1 = b + min 2000 (dl r) + 2 by omega]
      exact this
    · simp only [h7, if_false, fin_err]
      rw [show b + 1 + min 2000 (dl r) + 1 = b + min 2000 (dl r) + 2 by omega]
theorem auto_spec (cs : List Nat) : auto cs = spec cs := by
  unfold auto
  cases cs with
  | nil => rfl
  | cons c r =>
    rw [spec_cons]
    by_cases h5 : c = 45
    · subst h5
      rw [if_pos rfl, run_some (S' := ⟨1, -1, 0, 0, 0, 0⟩) rfl]
      cases r with
      | nil => rfl
      | cons c1 r1 =>
        by_cases hc : isD c1 = true ∧ c1 ≠ 48
        · have e := auto_num (b := 1) (c := c1) (sg := -1) (n := (45 :: c1 :: r1).length) r1 (by simp; omega)
          simp only [if_pos hc]
          rw [← e, run_some (S' := ⟨3, -1, 0 * 10 + (c1 - 48), 0, 0 + 1, 0⟩) (by rw [stp1, if_pos hc, if_neg (by decide)]), show 0 * 10 + (c1 - 48) = c1 - 48 by omega]
        · simp only [if_neg hc]
          rw [run_none (by rw [stp1, if_neg hc]), fin_err]
    · rw [if_neg h5]
      by_cases h8 : c = 48
      · subst h8
        rw [if_pos rfl, run_some (S' := ⟨2, 1, 0, 0, 1, 0⟩) rfl]
        cases r with
        | nil => rfl
        | cons c1 r1 => rw [run_none stp2, fin_err]
      · rw [if_neg h8]
        by_cases hc : isD c = true
        · rw [if_pos hc]
          have e : stp ⟨0, 1, 0, 0, 0, 0⟩ c = some ⟨3, 1, 0 * 10 + (c - 48), 0, 0 + 1, 0⟩ := by
            unfold stp
            rw [cls_1 hc h8]
            simp [tab, stpT]
          rw [run_some e, show 0 * 10 + (c - 48) = c - 48 by omega]
          exact auto_num (b := 0) (c := c) (sg := 1) (n := (c :: r).length) r (by simp; omega)
        · rw [if_neg hc]
          have e : stp ⟨0, 1, 0, 0, 0, 0⟩ c = none := by
            unfold stp
            have hd : isD c = false := by simpa using hc
            by_cases h7 : c = 47
            · subst h7; rw [show cls 47 = 2 from rfl]; simp [tab, stpT]
            · rw [cls_4 hd h7 h5]; simp [tab, stpT]
          rw [run_none e, fin_err]
end Tx

namespace Lw
open PySem PySem.Spec PyProof.Rows L2 J
theorem runF_rt {n : Nat} {f : J.Env → RS} {as E0 : List Sl} {r : RV} {E : J.Env} (h : as ++ List.replicate (n - as.length) .no = E0) (e : f E0 = .rt r E) : runF n f as = .ok r E := by
  unfold runF
  rw [h, e]
theorem g_eqS {a b : Str} {k : Bool} (h : (okD (.str a) && okD (.str b) && (PyData.eqv (.str a) (.str b) == k)) = true) : gEq (.str a) (.str b) = some (.bl k) := by
  simp only [Bool.and_eq_true, beq_iff_eq] at h
  unfold gEq
  rw [h.1.1, h.1.2]
  show some (D.bl (PyData.eqv (.str a) (.str b))) = _
  rw [h.2]

/-! ### signs -/
def CP : Nat := 1114112
def ch (c : Nat) : Str := ⟨#[c]⟩
theorem okS {z : Str} (h : ∀ c ∈ z.cps.toList, c < CP) : okD (.str z) = true := by
  have e : PyData.strOk z = true := by
    unfold PyData.strOk
    rw [← Array.all_toList, List.all_eq_true]
    intro c hc
    exact decide_eq_true (h c hc)
  show (plain (.str z) && (PyData.canLay0 (.str z) && decide (PyData.depth (.str z) ≤ 64))) = true
  show (true && (PyData.strOk z && _)) = true
  rw [e]
  rfl
theorem okC {c : Nat} (h : c < CP) : okD (.str (ch c)) = true := okS fun d hd => by
  have : d = c := by simpa [ch] using hd
  rw [this]; exact h
theorem str_ext {x y : Str} (h : x.cps.toList = y.cps.toList) : x = y := by
  obtain ⟨⟨a⟩⟩ := x
  obtain ⟨⟨b⟩⟩ := y
  have h : a = b := h
  rw [h]
theorem g_eqZ {x y : Str} (hx : okD (.str x) = true) (hy : okD (.str y) = true) : gEq (.str x) (.str y) = some (.bl (decide (x.cps.toList = y.cps.toList))) := by
  unfold gEq
  rw [hx, hy]
  show some (D.bl (x == y)) = _
  by_cases h : x.cps.toList = y.cps.toList
  · rw [decide_eq_true h, str_ext h]; simp
  · rw [decide_eq_false h]
    have : x ≠ y := fun e => h (by rw [e])
    simp [this]
theorem g_neZ {x y : Str} (hx : okD (.str x) = true) (hy : okD (.str y) = true) : gNe (.str x) (.str y) = some (.bl (!decide (x.cps.toList = y.cps.toList))) := by
  unfold gNe
  rw [hx, hy]
  show some (D.bl (!(x == y))) = _
  by_cases h : x.cps.toList = y.cps.toList
  · rw [decide_eq_true h, str_ext h]; simp
  · rw [decide_eq_false h]
    have : x ≠ y := fun e => h (by rw [e])
    simp [this]
theorem g_eqC {c k : Nat} (h : c < CP) (hk : k < CP) : gEq (.str (ch c)) (.str (ch k)) = some (.bl (decide (c = k))) := by
  rw [g_eqZ (okC h) (okC hk)]
  congr 2
  simp [ch]
theorem g_neC {c k : Nat} (h : c < CP) (hk : k < CP) : gNe (.str (ch c)) (.str (ch k)) = some (.bl (!decide (c = k))) := by
  rw [g_neZ (okC h) (okC hk)]
  congr 3
  simp [ch]
theorem s_0 : ("0" : Str) = ch 48 := by decide +kernel
theorem s_sl : ("/" : Str) = ch 47 := by decide +kernel
theorem s_mi : ("-" : Str) = ch 45 := by decide +kernel
theorem cps_19 : ("123456789" : Str).cps.toList = [49, 50, 51, 52, 53, 54, 55, 56, 57] := by decide +kernel
theorem cps_09 : ("0123456789" : Str).cps.toList = [48, 49, 50, 51, 52, 53, 54, 55, 56, 57] := by decide +kernel
theorem in_19 (c : Nat) : inT "123456789" (ch c) = decide (49 ≤ c ∧ c ≤ 57) := by
  unfold ch
  rw [inT_one, cps_19]
  congr 1
  simp only [List.mem_cons, List.not_mem_nil, or_false, eq_iff_iff]
  omega
theorem in_09 (c : Nat) : inT "0123456789" (ch c) = Tx.isD c := by
  unfold ch Tx.isD
  rw [inT_one, cps_09]
  congr 1
  simp only [List.mem_cons, List.not_mem_nil, or_false, eq_iff_iff]
  omega
theorem find_09 {c : Nat} (h : Tx.isD c = true) : sFind "0123456789" (ch c) = .int ((c - 48 : Nat) : Int) := by
  have h := Tx.isD_iff.mp h
  have : c = 48 ∨ c = 49 ∨ c = 50 ∨ c = 51 ∨ c = 52 ∨ c = 53 ∨ c = 54 ∨ c = 55 ∨ c = 56 ∨ c = 57 := by omega
  unfold sFind
  rcases this with h | h | h | h | h | h | h | h | h | h <;> subst h <;> exact congrArg D.int (by decide +kernel)
theorem e_class {c : Nat} (h : c < CP) : F_L_class [.val (.str (ch c))] = .ok (.v (.int (Tx.cls c : Nat))) (ev F_L_class [.val (.str (ch c))]) := by
  refine of_ok ?_
  have q0 := g_eqC h (show 48 < CP by decide)
  have q1 := g_eqC h (show 47 < CP by decide)
  have q2 := g_eqC h (show 45 < CP by decide)
  have q3 := in_19 c
  unfold Tx.cls
  by_cases h8 : c = 48
  · rw [decide_eq_true h8] at q0
    rw [if_pos h8]
    simp [F_L_class, runF, f_L_class, s_0, q0]
  · rw [decide_eq_false h8] at q0
    rw [if_neg h8]
    by_cases h9 : 49 ≤ c ∧ c ≤ 57
    · rw [decide_eq_true h9] at q3
      rw [if_pos h9]
      simp [F_L_class, runF, f_L_class, s_0, q0, q3]
    · rw [decide_eq_false h9] at q3
      rw [if_neg h9]
      by_cases h7 : c = 47
      · rw [decide_eq_true h7] at q1
        rw [if_pos h7]
        simp [F_L_class, runF, f_L_class, s_0, s_sl, s_mi, q0, q1, q3]
      · rw [decide_eq_false h7] at q1
        rw [if_neg h7]
        by_cases h5 : c = 45
        · rw [decide_eq_true h5] at q2
          rw [if_pos h5]
          simp [F_L_class, runF, f_L_class, s_0, s_sl, s_mi, q0, q1, q2, q3]
        · rw [decide_eq_false h5] at q2
          rw [if_neg h5]
          simp [F_L_class, runF, f_L_class, s_0, s_sl, s_mi, q0, q1, q2, q3]
theorem g_lenS {z : Str} (h : z.length ≤ 16777216) : gLen (.str z) = some (.int (z.length : Nat)) := by
  show (if _ then _ else _) = _
  rw [if_pos h]
theorem len_z (z : Str) : z.cps.toList.length = z.length := Array.length_toList
theorem g_ixS {z : Str} (h : z.length ≤ 16777216) {i c : Nat} (hc : z.cps.toList[i]? = some c) : gIx (.str z) (.int (i : Nat)) = some (.str (ch c)) := by
  show (if z.length ≤ 16777216 then (L2.atI z.cps.toList i).map fun c => D.str ⟨#[c]⟩ else none) = _
  rw [if_pos h]
  have hi : i < z.cps.toList.length := by
    by_cases q : i < z.cps.toList.length
    · exact q
    · rw [List.getElem?_eq_none (by omega)] at hc; cases hc
  unfold L2.atI L2.ixN
  rw [if_pos (by omega), if_pos (by omega)]
  show ((z.cps.toList[(i : Int).toNat]?).map fun c => D.str ⟨#[c]⟩) = _
  rw [Int.toNat_natCast, hc]
  rfl

/-! ### the law's reader -/
def rdBody : J.Env → RS := (sSeq (sSet 2 (fop gIx (fop gIx (fVar 1) (fVar 2)) (fCallR 1 F_L_class (xV (fop gIx (fVar 0) (fVar 6)) xNil) rvD))) (sSeq (sIf (fTest (fop gEq (fVar 2) (fC (.int 1)))) (sSet 3 (fun1 gNeg (fC (.int 1)))) sNil) (sSeq (sIf (fOr (fTest (fop gEq (fVar 2) (fC (.int 2)))) (fOr (fTest (fop gEq (fVar 2) (fC (.int 3)))) (fTest (fop gEq (fVar 2) (fC (.int 5)))))) (sSeq (sSet 7 (fun1 gIntF (fop gEq (fVar 2) (fC (.int 5))))) (sSeq (sSetIx 4 (fVar 7) (fop gAdd (fop gMulT (fopB gIx (fBor 4) (getV 7)) (fC (.int 10))) (fSM sFind (fC (.str "0123456789")) (fop gIx (fVar 0) (fVar 6))))) (sSetIx 5 (fVar 7) (fop gAdd (fopB gIx (fBor 5) (getV 7)) (fC (.int 1)))))) sNil) (sIf (fOr (fTest (fop gLt (fVar 2) (fC (.int 0)))) (fOr (fTest (fop gGt (fopB gIx (fBor 5) (fun _ => some (.int 0))) (fC (.int 2001)))) (fTest (fop gGt (fopB gIx (fBor 5) (fun _ => some (.int 1))) (fC (.int 2001)))))) (sRet (fTup (fCons (fC (.str "text")) (fCons (fC (.int 1)) (fCons (fop gAdd (fVar 6) (fC (.int 1))) fNil))))) sNil))))
def rdTail : J.Env → RS := (sSeq (sIf (fOr (fTest (fop gEq (fVar 2) (fC (.int 2)))) (fTest (fop gEq (fVar 2) (fC (.int 3))))) (sRet (fCallR 2 F_L_bounded (xV (fop gMulT (fVar 3) (fopB gIx (fBor 4) (fun _ => some (.int 0)))) (xV (fC (.int 1)) xNil)) rvD)) sNil) (sSeq (sIf (fAnd (fTest (fop gEq (fVar 2) (fC (.int 5)))) (fTest (fop gGt (fopB gIx (fBor 4) (fun _ => some (.int 1))) (fC (.int 1))))) (sIf (fTest (fop gEq (fCallR 2 F_L_common (xV (fopB gIx (fBor 4) (fun _ => some (.int 0))) (xV (fopB gIx (fBor 4) (fun _ => some (.int 1))) xNil)) rvD) (fC (.int 1)))) (sRet (fCallR 2 F_L_bounded (xV (fop gMulT (fVar 3) (fopB gIx (fBor 4) (fun _ => some (.int 0)))) (xV (fopB gIx (fBor 4) (fun _ => some (.int 1))) xNil)) rvD)) sNil) sNil) (sRet (fTup (fCons (fC (.str "text")) (fCons (fC (.int 1)) (fCons (fop gAdd (fun1 gLen (fVar 0)) (fC (.int 1))) fNil)))))))
theorem reading_eq : f_L_reading = (sSeq (sSet 1 (fPub (fLst (fCons (fPub (fLst (fCons (fC (.int 2)) (fCons (fC (.int 3)) (fCons (fun1 gNeg (fC (.int 1))) (fCons (fC (.int 1)) (fCons (fun1 gNeg (fC (.int 1))) fNil))))))) (fCons (fPub (fLst (fCons (fun1 gNeg (fC (.int 1))) (fCons (fC (.int 3)) (fCons (fun1 gNeg (fC (.int 1))) (fCons (fun1 gNeg (fC (.int 1))) (fCons (fun1 gNeg (fC (.int 1))) fNil))))))) (fCons (fPub (fLst (fCons (fun1 gNeg (fC (.int 1))) (fCons (fun1 gNeg (fC (.int 1))) (fCons (fun1 gNeg (fC (.int 1))) (fCons (fun1 gNeg (fC (.int 1))) (fCons (fun1 gNeg (fC (.int 1))) fNil))))))) fNil)))))) (sSeq (sSet 1 (fop gAdd (fVar 1) (fPub (fLst (fCons (fPub (fLst (fCons (fC (.int 3)) (fCons (fC (.int 3)) (fCons (fC (.int 4)) (fCons (fun1 gNeg (fC (.int 1))) (fCons (fun1 gNeg (fC (.int 1))) fNil))))))) (fCons (fPub (fLst (fCons (fun1 gNeg (fC (.int 1))) (fCons (fC (.int 5)) (fCons (fun1 gNeg (fC (.int 1))) (fCons (fun1 gNeg (fC (.int 1))) (fCons (fun1 gNeg (fC (.int 1))) fNil))))))) (fCons (fPub (fLst (fCons (fC (.int 5)) (fCons (fC (.int 5)) (fCons (fun1 gNeg (fC (.int 1))) (fCons (fun1 gNeg (fC (.int 1))) (fCons (fun1 gNeg (fC (.int 1))) fNil))))))) fNil))))))) (sSeq (sSet 2 (fC (.int 0))) (sSeq (sSet 3 (fC (.int 1))) (sSeq (sSetL 4 (fLst (fCons (fC (.int 0)) (fCons (fC (.int 0)) fNil)))) (sSeq (sSetL 5 (fLst (fCons (fC (.int 0)) (fCons (fC (.int 0)) fNil)))) (sSeq (sFor (fRng1 (fun1 gLen (fVar 0))) (gNm 6) rdBody) rdTail))))))) := rfl
def aft : D := .lst [.lst [.int 2, .int 3, .int (-1), .int 1, .int (-1)], .lst [.int (-1), .int 3, .int (-1), .int (-1), .int (-1)], .lst [.int (-1), .int (-1), .int (-1), .int (-1), .int (-1)], .lst [.int 3, .int 3, .int 4, .int (-1), .int (-1)], .lst [.int (-1), .int 5, .int (-1), .int (-1), .int (-1)], .lst [.int 5, .int 5, .int (-1), .int (-1), .int (-1)]]
theorem ix_aft {s k : Nat} (hs : s ≤ 5) (hk : k ≤ 4) : ∃ row, gIx aft (.int (s : Nat)) = some row ∧ gIx row (.int (k : Nat)) = some (.int (Tx.tab s k)) := by
  have k1 : s = 0 ∨ s = 1 ∨ s = 2 ∨ s = 3 ∨ s = 4 ∨ s = 5 := by omega
  have k2 : k = 0 ∨ k = 1 ∨ k = 2 ∨ k = 3 ∨ k = 4 := by omega
  rcases k1 with h | h | h | h | h | h <;> subst h <;> refine ⟨_, rfl, ?_⟩ <;> rcases k2 with e | e | e | e | e <;> subst e <;> rfl
theorem tab_in {s k : Nat} : Tx.tab s k = -1 ∨ Tx.tab s k = 1 ∨ Tx.tab s k = 2 ∨ Tx.tab s k = 3 ∨ Tx.tab s k = 4 ∨ Tx.tab s k = 5 := by
  unfold Tx.tab
  repeat' split
  all_goals simp
theorem tab_dig {s c : Nat} (h : Tx.tab s (Tx.cls c) = 2 ∨ Tx.tab s (Tx.cls c) = 3 ∨ Tx.tab s (Tx.cls c) = 5) : Tx.isD c = true := by
  cases e : Tx.isD c with
  | true => rfl
  | false =>
    exfalso
    rcases Tx.cls_n e with q | q | q <;> rw [q] at h <;> unfold Tx.tab at h <;> (repeat' split at h) <;> first | omega | (simp at h; done)
theorem cls_le (c : Nat) : Tx.cls c ≤ 4 := by
  unfold Tx.cls
  repeat' split
  all_goals omega
/-- the state as the frame holds it -/
def rdE (z : Str) (S : Tx.St) (a6 a7 : Sl) : J.Env := [.val (.str z), .val aft, .val (.int (S.st : Nat)), .val (.int S.sg), .own false [.int (S.v0 : Nat), .int (S.v1 : Nat)], .own false [.int (S.d0 : Nat), .int (S.d1 : Nat)], a6, a7]
structure Vd (S : Tx.St) : Prop where
  st : S.st ≤ 5
  d0 : S.d0 ≤ 2001
  d1 : S.d1 ≤ 2001
  v0 : S.v0 < 10 ^ S.d0
  v1 : S.v1 < 10 ^ S.d1
theorem v_big {v d : Nat} (h : v < 10 ^ d) (hd : d ≤ 2001) : ((v : Nat) : Int).natAbs < BIG := by
  have h1 : 10 ^ d ≤ 10 ^ 2001 := Nat.pow_le_pow_right (by decide) hd
  have h2 : 10 ^ 2001 < BIG := by decide +kernel
  rw [Int.natAbs_natCast]
  omega
theorem ten_big : (10 : Int).natAbs < BIG := by decide +kernel
@[simp] theorem g_intFB (b : Bool) : gIntF (.bl b) = some (.int (if b then 1 else 0)) := rfl
end Lw

namespace Lw
open PySem PySem.Spec PyProof.Rows L2 J
@[simp] theorem g_ix20 (x y : D) : gIx (.lst [x, y]) (.int 0) = some x := rfl
@[simp] theorem g_ix21 (x y : D) : gIx (.lst [x, y]) (.int 1) = some y := rfl
@[simp] theorem ixN20 : ixN 2 0 = some 0 := rfl
@[simp] theorem ixN21 : ixN 2 1 = some 1 := rfl
def bdA : J.Env → RS := (sSet 2 (fop gIx (fop gIx (fVar 1) (fVar 2)) (fCallR 1 F_L_class (xV (fop gIx (fVar 0) (fVar 6)) xNil) rvD)))
def bdB : J.Env → RS := (sIf (fTest (fop gEq (fVar 2) (fC (.int 1)))) (sSet 3 (fun1 gNeg (fC (.int 1)))) sNil)
def bdC1 : J.Env → RS := (sSet 7 (fun1 gIntF (fop gEq (fVar 2) (fC (.int 5)))))
def bdC2 : J.Env → RS := (sSetIx 4 (fVar 7) (fop gAdd (fop gMulT (fopB gIx (fBor 4) (getV 7)) (fC (.int 10))) (fSM sFind (fC (.str "0123456789")) (fop gIx (fVar 0) (fVar 6)))))
def bdC3 : J.Env → RS := (sSetIx 5 (fVar 7) (fop gAdd (fopB gIx (fBor 5) (getV 7)) (fC (.int 1))))
def bdC : J.Env → RS := (sIf (fOr (fTest (fop gEq (fVar 2) (fC (.int 2)))) (fOr (fTest (fop gEq (fVar 2) (fC (.int 3)))) (fTest (fop gEq (fVar 2) (fC (.int 5)))))) (sSeq bdC1 (sSeq bdC2 bdC3)) sNil)
def bdD : J.Env → RS := (sIf (fOr (fTest (fop gLt (fVar 2) (fC (.int 0)))) (fOr (fTest (fop gGt (fopB gIx (fBor 5) (fun _ => some (.int 0))) (fC (.int 2001)))) (fTest (fop gGt (fopB gIx (fBor 5) (fun _ => some (.int 1))) (fC (.int 2001)))))) (sRet (fTup (fCons (fC (.str "text")) (fCons (fC (.int 1)) (fCons (fop gAdd (fVar 6) (fC (.int 1))) fNil))))) sNil)
theorem body_eq : rdBody = (sSeq bdA (sSeq bdB (sSeq bdC bdD))) := rfl
def E8 (z : Str) (t sg : Int) (v0 v1 d0 d1 : Nat) (a6 a7 : Sl) : J.Env := [.val (.str z), .val aft, .val (.int t), .val (.int sg), .own false [.int (v0 : Nat), .int (v1 : Nat)], .own false [.int (d0 : Nat), .int (d1 : Nat)], a6, a7]
theorem pA {z : Str} {st p c : Nat} {sg : Int} {v0 v1 d0 d1 : Nat} {a7 : Sl} (hz : z.length ≤ 16777216) (hs : st ≤ 5) (hc : z.cps.toList[p]? = some c) (hp : c < CP) : bdA (E8 z (st : Nat) sg v0 v1 d0 d1 (.val (.int (p : Nat))) a7) = .nx (E8 z (Tx.tab st (Tx.cls c)) sg v0 v1 d0 d1 (.val (.int (p : Nat))) a7) := by
  have ix := g_ixS hz hc
  have ec := e_class hp
  obtain ⟨row, i1, i2⟩ := ix_aft hs (cls_le c)
  generalize ev F_L_class [.val (.str (ch c))] = EC at ec
  simp [bdA, E8, ix, ec, i1, i2, ownsA, ndA, argS, backE]
theorem pB {z : Str} {t sg : Int} {v0 v1 d0 d1 : Nat} {a6 a7 : Sl} : bdB (E8 z t sg v0 v1 d0 d1 a6 a7) = .nx (E8 z t (if t = 1 then -1 else sg) v0 v1 d0 d1 a6 a7) := by
  by_cases h : t = 1 <;> simp [bdB, E8, h]
theorem pC1 {z : Str} {t sg : Int} {v0 v1 d0 d1 : Nat} {a6 a7 : Sl} : bdC1 (E8 z t sg v0 v1 d0 d1 a6 a7) = .nx (E8 z t sg v0 v1 d0 d1 a6 (.val (.int (if t = 5 then 1 else 0)))) := by
  by_cases h : t = 5 <;> simp [bdC1, E8, h]
theorem pC20 {z : Str} {t sg : Int} {v0 v1 d0 d1 p c : Nat} (hz : z.length ≤ 16777216) (hc : z.cps.toList[p]? = some c) (hd : Tx.isD c = true) (hv : v0 < 10 ^ d0) (hd0 : d0 ≤ 2001) : bdC2 (E8 z t sg v0 v1 d0 d1 (.val (.int (p : Nat))) (.val (.int 0))) = .nx (E8 z t sg (v0 * 10 + (c - 48)) v1 d0 d1 (.val (.int (p : Nat))) (.val (.int 0))) := by
  have ix := g_ixS hz hc
  have f := find_09 hd
  have m := g_mulB (v0 : Nat) 10 (v_big hv hd0) ten_big
  have q : (v0 : Nat) * 10 + ((c - 48 : Nat) : Int) = ((v0 * 10 + (c - 48) : Nat) : Int) := by omega
  simp [bdC2, E8, ix, f, m]
theorem pC25 {z : Str} {t sg : Int} {v0 v1 d0 d1 p c : Nat} (hz : z.length ≤ 16777216) (hc : z.cps.toList[p]? = some c) (hd : Tx.isD c = true) (hv : v1 < 10 ^ d1) (hd0 : d1 ≤ 2001) : bdC2 (E8 z t sg v0 v1 d0 d1 (.val (.int (p : Nat))) (.val (.int 1))) = .nx (E8 z t sg v0 (v1 * 10 + (c - 48)) d0 d1 (.val (.int (p : Nat))) (.val (.int 1))) := by
  have ix := g_ixS hz hc
  have f := find_09 hd
  have m := g_mulB (v1 : Nat) 10 (v_big hv hd0) ten_big
  have q : (v1 : Nat) * 10 + ((c - 48 : Nat) : Int) = ((v1 * 10 + (c - 48) : Nat) : Int) := by omega
  simp [bdC2, E8, ix, f, m]
theorem pC30 {z : Str} {t sg : Int} {v0 v1 d0 d1 : Nat} {a6 : Sl} : bdC3 (E8 z t sg v0 v1 d0 d1 a6 (.val (.int 0))) = .nx (E8 z t sg v0 v1 (d0 + 1) d1 a6 (.val (.int 0))) := by
  simp [bdC3, E8]
theorem pC35 {z : Str} {t sg : Int} {v0 v1 d0 d1 : Nat} {a6 : Sl} : bdC3 (E8 z t sg v0 v1 d0 d1 a6 (.val (.int 1))) = .nx (E8 z t sg v0 v1 d0 (d1 + 1) a6 (.val (.int 1))) := by
  simp [bdC3, E8]
theorem t_C {z : Str} {t sg : Int} {v0 v1 d0 d1 : Nat} {a6 a7 : Sl} : (fOr (fTest (fop gEq (fVar 2) (fC (.int 2)))) (fOr (fTest (fop gEq (fVar 2) (fC (.int 3)))) (fTest (fop gEq (fVar 2) (fC (.int 5)))))) (E8 z t sg v0 v1 d0 d1 a6 a7) = .ok (decide (t = 2 ∨ t = 3 ∨ t = 5)) (E8 z t sg v0 v1 d0 d1 a6 a7) := by
  by_cases h2 : t = 2
  · simp [E8, h2]
  · by_cases h3 : t = 3
    · simp [E8, h3]
    · by_cases h5 : t = 5
      · simp [E8, h5]
      · simp [E8, h2, h3, h5]
theorem pCn {z : Str} {t sg : Int} {v0 v1 d0 d1 : Nat} {a6 a7 : Sl} (h : ¬ (t = 2 ∨ t = 3 ∨ t = 5)) : bdC (E8 z t sg v0 v1 d0 d1 a6 a7) = .nx (E8 z t sg v0 v1 d0 d1 a6 a7) := by
  unfold bdC
  rw [u_sIf, t_C, decide_eq_false h]
  rfl
theorem pC0 {z : Str} {t sg : Int} {v0 v1 d0 d1 p c : Nat} {a7 : Sl} (h : t = 2 ∨ t = 3) (hz : z.length ≤ 16777216) (hc : z.cps.toList[p]? = some c) (hd : Tx.isD c = true) (hv : v0 < 10 ^ d0) (hd0 : d0 ≤ 2001) : bdC (E8 z t sg v0 v1 d0 d1 (.val (.int (p : Nat))) a7) = .nx (E8 z t sg (v0 * 10 + (c - 48)) v1 (d0 + 1) d1 (.val (.int (p : Nat))) (.val (.int 0))) := by
  unfold bdC
  rw [u_sIf, t_C, decide_eq_true (by rcases h with h | h <;> simp [h])]
  show sSeq bdC1 (sSeq bdC2 bdC3) (E8 z t sg v0 v1 d0 d1 (.val (.int (p : Nat))) a7) = _
  rw [u_sSeq, pC1, if_neg (by rcases h with h | h <;> simp [h])]
  show sSeq bdC2 bdC3 _ = _
  rw [u_sSeq, pC20 hz hc hd hv hd0]
  show bdC3 _ = _
  rw [pC30]
theorem pC5 {z : Str} {t sg : Int} {v0 v1 d0 d1 p c : Nat} {a7 : Sl} (h : t = 5) (hz : z.length ≤ 16777216) (hc : z.cps.toList[p]? = some c) (hd : Tx.isD c = true) (hv : v1 < 10 ^ d1) (hd0 : d1 ≤ 2001) : bdC (E8 z t sg v0 v1 d0 d1 (.val (.int (p : Nat))) a7) = .nx (E8 z t sg v0 (v1 * 10 + (c - 48)) d0 (d1 + 1) (.val (.int (p : Nat))) (.val (.int 1))) := by
  unfold bdC
  rw [u_sIf, t_C, decide_eq_true (by simp [h])]
  show sSeq bdC1 (sSeq bdC2 bdC3) (E8 z t sg v0 v1 d0 d1 (.val (.int (p : Nat))) a7) = _
  rw [u_sSeq, pC1, if_pos h]
  show sSeq bdC2 bdC3 _ = _
  rw [u_sSeq, pC25 hz hc hd hv hd0]
  show bdC3 _ = _
  rw [pC35]
theorem pD0 {z : Str} {t sg : Int} {v0 v1 d0 d1 p : Nat} {a7 : Sl} (h : ¬ (t < 0 ∨ 2001 < d0 ∨ 2001 < d1)) : bdD (E8 z t sg v0 v1 d0 d1 (.val (.int (p : Nat))) a7) = .nx (E8 z t sg v0 v1 d0 d1 (.val (.int (p : Nat))) a7) := by
  have h1 : ¬ t < 0 := fun q => h (.inl q)
  have h2 : ¬ (2001 : Int) < (d0 : Nat) := by omega
  have h3 : ¬ (2001 : Int) < (d1 : Nat) := by omega
  simp [bdD, E8, h1, h2, h3]
theorem pD1 {z : Str} {t sg : Int} {v0 v1 d0 d1 p : Nat} {a7 : Sl} (h : t < 0 ∨ 2001 < d0 ∨ 2001 < d1) : bdD (E8 z t sg v0 v1 d0 d1 (.val (.int (p : Nat))) a7) = .rt (.v (.tup [.str "text", .int 1, .int ((p + 1 : Nat) : Int)])) (E8 z t sg v0 v1 d0 d1 (.val (.int (p : Nat))) a7) := by
  by_cases h1 : t < 0
  · simp [bdD, E8, h1]
  · by_cases h2 : (2001 : Int) < (d0 : Nat)
    · simp [bdD, E8, h1, h2]
    · have h3 : (2001 : Int) < (d1 : Nat) := by omega
      simp [bdD, E8, h1, h2, h3]
/-- one sign more -/
def StepOk (z : Str) (S : Tx.St) (p c : Nat) (a7 : Sl) : Prop := match Tx.stp S c with
  | none => ∃ E, rdBody (rdE z S (.val (.int (p : Nat))) a7) = .rt (.v (.tup [.str "text", .int 1, .int ((p + 1 : Nat) : Int)])) E
  | some S' => Vd S' ∧ ∃ b6 b7, rdBody (rdE z S (.val (.int (p : Nat))) a7) = .nx (rdE z S' b6 b7)
theorem rd_step {z : Str} {S : Tx.St} {p c : Nat} {a7 : Sl} (hz : z.length ≤ 16777216) (v : Vd S) (hc : z.cps.toList[p]? = some c) (hp : c < CP) : StepOk z S p c a7 := by
  have hd := tab_dig (s := S.st) (c := c)
  have hA := pA (sg := S.sg) (v0 := S.v0) (v1 := S.v1) (d0 := S.d0) (d1 := S.d1) (a7 := a7) hz v.st hc hp
  have ti := tab_in (s := S.st) (k := Tx.cls c)
  have l0 := v.d0
  have l1 := v.d1
  unfold StepOk Tx.stp
  generalize Tx.tab S.st (Tx.cls c) = t at *
  have hE : rdBody (rdE z S (.val (.int (p : Nat))) a7) = sSeq bdC bdD (E8 z t (if t = 1 then -1 else S.sg) S.v0 S.v1 S.d0 S.d1 (.val (.int (p : Nat))) a7) := by
    rw [body_eq]
    show sSeq bdA (sSeq bdB (sSeq bdC bdD)) (E8 z (S.st : Nat) S.sg S.v0 S.v1 S.d0 S.d1 (.val (.int (p : Nat))) a7) = _
    rw [u_sSeq, hA]
    show sSeq bdB (sSeq bdC bdD) _ = _
    rw [u_sSeq, pB]
    rfl
  rw [hE, u_sSeq]
  rcases ti with h | h | h | h | h | h <;> subst h
  · rw [pCn (by decide)]
    exact ⟨_, pD1 (.inl (by decide))⟩
  · rw [pCn (by decide)]
    exact ⟨⟨show 1 ≤ 5 by decide, v.d0, v.d1, v.v0, v.v1⟩, _, _, pD0 (by omega)⟩
  · rw [pC0 (.inl rfl) hz hc (hd (.inl rfl)) v.v0 v.d0]
    have hc9 := Tx.isD_iff.mp (hd (.inl rfl))
    by_cases hb : S.d0 + 1 > 2001
    · rw [show Tx.stpT S c 2 = none by simp [Tx.stpT]; omega]
      exact ⟨_, pD1 (.inr (.inl hb))⟩
    · rw [show Tx.stpT S c 2 = some { S with st := 2, v0 := S.v0 * 10 + (c - 48), d0 := S.d0 + 1 } by simp [Tx.stpT]; omega]
      have l : S.v0 * 10 + (c - 48) < 10 ^ (S.d0 + 1) := by have := v.v0; rw [Nat.pow_succ]; omega
      exact ⟨⟨show 2 ≤ 5 by decide, by show S.d0 + 1 ≤ 2001; omega, v.d1, l, v.v1⟩, _, _, pD0 (by omega)⟩
  · rw [pC0 (.inr rfl) hz hc (hd (.inr (.inl rfl))) v.v0 v.d0]
    have hc9 := Tx.isD_iff.mp (hd (.inr (.inl rfl)))
    by_cases hb : S.d0 + 1 > 2001
    · rw [show Tx.stpT S c 3 = none by simp [Tx.stpT]; omega]
      exact ⟨_, pD1 (.inr (.inl hb))⟩
    · rw [show Tx.stpT S c 3 = some { S with st := 3, v0 := S.v0 * 10 + (c - 48), d0 := S.d0 + 1 } by simp [Tx.stpT]; omega]
      have l : S.v0 * 10 + (c - 48) < 10 ^ (S.d0 + 1) := by have := v.v0; rw [Nat.pow_succ]; omega
      exact ⟨⟨show 3 ≤ 5 by decide, by show S.d0 + 1 ≤ 2001; omega, v.d1, l, v.v1⟩, _, _, pD0 (by omega)⟩
  · rw [pCn (by decide)]
    exact ⟨⟨show 4 ≤ 5 by decide, v.d0, v.d1, v.v0, v.v1⟩, _, _, pD0 (by omega)⟩
  · rw [pC5 rfl hz hc (hd (.inr (.inr rfl))) v.v1 v.d1]
    have hc9 := Tx.isD_iff.mp (hd (.inr (.inr rfl)))
    by_cases hb : S.d1 + 1 > 2001
    · rw [show Tx.stpT S c 5 = none by simp [Tx.stpT]; omega]
      exact ⟨_, pD1 (.inr (.inr hb))⟩
    · rw [show Tx.stpT S c 5 = some { S with st := 5, v1 := S.v1 * 10 + (c - 48), d1 := S.d1 + 1 } by simp [Tx.stpT]; omega]
      have l : S.v1 * 10 + (c - 48) < 10 ^ (S.d1 + 1) := by have := v.v1; rw [Nat.pow_succ]; omega
      exact ⟨⟨show 5 ≤ 5 by decide, v.d0, by show S.d1 + 1 ≤ 2001; omega, v.v0, l⟩, _, _, pD0 (by omega)⟩
end Lw

namespace Tx
theorem stp_sg {S S' : St} {c : Nat} (h : stp S c = some S') (hs : S.sg = 1 ∨ S.sg = -1) : S'.sg = 1 ∨ S'.sg = -1 := by
  unfold stp stpT at h
  repeat' split at h
  all_goals first
    | (cases h; done)
    | (cases h; exact .inr rfl)
    | (cases h; exact hs)
end Tx
namespace Lw
open PySem PySem.Spec PyProof.Rows L2 J
def bdV (n d : Int) : D := if MAX < (if n < 0 then -n else n) then .tup [.str "number", .int n] else if MAX < d then .tup [.str "number", .int d] else .tup [.str "ratio", .int n, .int d]
theorem e_bounded (n d : Int) : F_L_bounded [.val (.int n), .val (.int d)] = .ok (.v (bdV n d)) (ev F_L_bounded [.val (.int n), .val (.int d)]) := by
  refine of_ok ?_
  unfold bdV
  by_cases h1 : MAX < (if n < 0 then -n else n)
  · rw [if_pos h1]; simp [F_L_bounded, runF, f_L_bounded, pow50, pow40, h1]
  · rw [if_neg h1]
    by_cases h2 : MAX < d
    · rw [if_pos h2]; simp [F_L_bounded, runF, f_L_bounded, pow50, pow40, h1, h2]
    · rw [if_neg h2]; simp [F_L_bounded, runF, f_L_bounded, pow50, pow40, h1, h2]
/-- what is told of a reading -/
def txD (e : Nat) : D := .tup [.str "text", .int 1, .int (e : Nat)]
def rsD : Except Nat (Int × Int) → D
  | .error e => txD e
  | .ok (n, d) => bdV n d
def tlA : J.Env → RS := (sIf (fOr (fTest (fop gEq (fVar 2) (fC (.int 2)))) (fTest (fop gEq (fVar 2) (fC (.int 3))))) (sRet (fCallR 2 F_L_bounded (xV (fop gMulT (fVar 3) (fopB gIx (fBor 4) (fun _ => some (.int 0)))) (xV (fC (.int 1)) xNil)) rvD)) sNil)
def tlBi : J.Env → RS := (sIf (fTest (fop gEq (fCallR 2 F_L_common (xV (fopB gIx (fBor 4) (fun _ => some (.int 0))) (xV (fopB gIx (fBor 4) (fun _ => some (.int 1))) xNil)) rvD) (fC (.int 1)))) (sRet (fCallR 2 F_L_bounded (xV (fop gMulT (fVar 3) (fopB gIx (fBor 4) (fun _ => some (.int 0)))) (xV (fopB gIx (fBor 4) (fun _ => some (.int 1))) xNil)) rvD)) sNil)
def tlB : J.Env → RS := (sIf (fAnd (fTest (fop gEq (fVar 2) (fC (.int 5)))) (fTest (fop gGt (fopB gIx (fBor 4) (fun _ => some (.int 1))) (fC (.int 1))))) tlBi sNil)
def tlC : J.Env → RS := (sRet (fTup (fCons (fC (.str "text")) (fCons (fC (.int 1)) (fCons (fop gAdd (fun1 gLen (fVar 0)) (fC (.int 1))) fNil)))))
theorem tail_eq : rdTail = (sSeq tlA (sSeq tlB tlC)) := rfl
theorem sg_big {s : Int} (h : s = 1 ∨ s = -1) : s.natAbs < BIG := by
  have : 1 < BIG := by decide +kernel
  rcases h with h | h <;> subst h <;> exact this
section
variable {z : Str} {t sg : Int} {v0 v1 d0 d1 : Nat} {a6 a7 : Sl}
theorem tA1 (h : t = 2 ∨ t = 3) (hs : sg = 1 ∨ sg = -1) (hv : v0 < 10 ^ d0) (hd : d0 ≤ 2001) : ∃ E, tlA (E8 z t sg v0 v1 d0 d1 a6 a7) = .rt (.v (bdV (sg * v0) 1)) E := by
  have m := g_mulB sg (v0 : Nat) (sg_big hs) (v_big hv hd)
  have e := e_bounded (sg * v0) 1
  rcases h with h | h <;> subst h <;> simp [tlA, E8, m, e, ownsA, ndA, argS, backE]
theorem tA0 (h : ¬ (t = 2 ∨ t = 3)) : tlA (E8 z t sg v0 v1 d0 d1 a6 a7) = .nx (E8 z t sg v0 v1 d0 d1 a6 a7) := by
  have h1 : ¬ t = 2 := fun q => h (.inl q)
  have h2 : ¬ t = 3 := fun q => h (.inr q)
  simp [tlA, E8, h1, h2]
theorem tB0 (h : ¬ (t = 5 ∧ 1 < v1)) : tlB (E8 z t sg v0 v1 d0 d1 a6 a7) = .nx (E8 z t sg v0 v1 d0 d1 a6 a7) := by
  by_cases h1 : t = 5
  · have h2 : ¬ (1 : Int) < (v1 : Nat) := by omega
    have h3 : ¬ 1 < v1 := by omega
    simp [tlB, E8, h1, h2, h3]
  · simp [tlB, E8, h1]
theorem tBs (h : t = 5 ∧ 1 < v1) : tlB (E8 z t sg v0 v1 d0 d1 a6 a7) = tlBi (E8 z t sg v0 v1 d0 d1 a6 a7) := by
  have h1 := h.1
  have h2 : (1 : Int) < (v1 : Nat) := by omega
  simp [tlB, E8, h1, h.2]
  intro q
  omega
theorem g2_nat (a b : Nat) : g2 (a : Nat) (b : Nat) = ((Nat.gcd a b : Nat) : Int) := rfl
theorem tBi1 (h : Nat.gcd v0 v1 = 1) (hs : sg = 1 ∨ sg = -1) (hv : v0 < 10 ^ d0) (hd : d0 ≤ 2001) : ∃ E, tlBi (E8 z t sg v0 v1 d0 d1 a6 a7) = .rt (.v (bdV (sg * v0) v1)) E := by
  have m := g_mulB sg (v0 : Nat) (sg_big hs) (v_big hv hd)
  have e := e_bounded (sg * v0) v1
  have c := e_common (a := (v0 : Nat)) (b := (v1 : Nat)) (by omega) (by omega)
  rw [g2_nat, h] at c
  simp [tlBi, E8, m, e, c, ownsA, ndA, argS, backE]
theorem tBi0 (h : ¬ Nat.gcd v0 v1 = 1) : tlBi (E8 z t sg v0 v1 d0 d1 a6 a7) = .nx (E8 z t sg v0 v1 d0 d1 a6 a7) := by
  have c := e_common (a := (v0 : Nat)) (b := (v1 : Nat)) (by omega) (by omega)
  rw [g2_nat] at c
  have h' : ¬ ((Nat.gcd v0 v1 : Nat) : Int) = 1 := by omega
  generalize Nat.gcd v0 v1 = g at *
  simp [tlBi, E8, c, h, h', ownsA, ndA, argS, backE]
theorem tC (hz : z.length ≤ 16777216) : ∃ E, tlC (E8 z t sg v0 v1 d0 d1 a6 a7) = .rt (.v (txD (z.length + 1))) E := by
  have l := g_lenS hz
  simp [tlC, E8, l, txD]
end
theorem rd_tail {z : Str} {S : Tx.St} {a6 a7 : Sl} (hz : z.length ≤ 16777216) (v : Vd S) (hs : S.sg = 1 ∨ S.sg = -1) : ∃ E, rdTail (rdE z S a6 a7) = .rt (.v (rsD (Tx.rdEnd z.length S))) E := by
  rw [tail_eq]
  show ∃ E, sSeq tlA (sSeq tlB tlC) (E8 z (S.st : Nat) S.sg S.v0 S.v1 S.d0 S.d1 a6 a7) = _
  rw [u_sSeq]
  unfold Tx.rdEnd
  by_cases h : S.st = 2 ∨ S.st = 3
  · rw [if_pos h]
    obtain ⟨E, e⟩ := tA1 (z := z) (v1 := S.v1) (d1 := S.d1) (a6 := a6) (a7 := a7) (t := (S.st : Nat)) (by omega) hs v.v0 v.d0
    rw [e]
    exact ⟨E, rfl⟩
  · rw [if_neg h, tA0 (by omega)]
    show ∃ E, sSeq tlB tlC (E8 z (S.st : Nat) S.sg S.v0 S.v1 S.d0 S.d1 a6 a7) = _
    rw [u_sSeq]
    by_cases h5 : S.st = 5 ∧ 1 < S.v1
    · rw [if_pos h5, tBs (by omega)]
      by_cases hg : Nat.gcd S.v0 S.v1 = 1
      · rw [if_pos hg]
        obtain ⟨E, e⟩ := tBi1 (z := z) (d1 := S.d1) (a6 := a6) (a7 := a7) (t := (S.st : Nat)) hg hs v.v0 v.d0
        rw [e]
        exact ⟨E, rfl⟩
      · rw [if_neg hg, tBi0 hg]
        exact tC hz
    · rw [if_neg h5, tB0 (by omega)]
      exact tC hz
theorem upD_cons (p n : Nat) : upD (p : Nat) (n + 1) = .int (p : Nat) :: upD ((p + 1 : Nat) : Int) n := by
  unfold upD
  rw [List.range_succ_eq_map, List.map_cons, List.map_map]
  congr 1
  refine List.map_congr_left fun k _ => ?_
  show D.int _ = D.int _
  congr 1
  simp only [Nat.succ_eq_add_one]
  omega
def LoopOk (z : Str) (S : Tx.St) (p : Nat) (r : List Nat) (a6 a7 : Sl) : Prop := match Tx.run S p r with
  | .error e => ∃ E, forD (gNm 6) rdBody (upD (p : Nat) r.length) (rdE z S a6 a7) = .rt (.v (txD e)) E
  | .ok S' => (Vd S' ∧ (S'.sg = 1 ∨ S'.sg = -1)) ∧ ∃ b6 b7, forD (gNm 6) rdBody (upD (p : Nat) r.length) (rdE z S a6 a7) = .nx (rdE z S' b6 b7)
theorem rd_loop {z : Str} (hz : z.length ≤ 16777216) (hp : ∀ c ∈ z.cps.toList, c < CP) : ∀ (r : List Nat) (p : Nat) (S : Tx.St) (a6 a7 : Sl), Vd S → (S.sg = 1 ∨ S.sg = -1) → z.cps.toList.drop p = r → LoopOk z S p r a6 a7
  | [], p, S, a6, a7, v, hs, _ => ⟨⟨v, hs⟩, a6, a7, rfl⟩
  | c :: r, p, S, a6, a7, v, hs, hd => by
    have hc : z.cps.toList[p]? = some c := by
      have := congrArg List.head? hd
      rwa [List.head?_drop] at this
    have hm : c ∈ z.cps.toList := List.mem_of_getElem? hc
    have st := rd_step (a7 := a7) hz v hc (hp c hm)
    have hd' : z.cps.toList.drop (p + 1) = r := by
      have := congrArg List.tail hd
      rwa [List.tail_drop] at this
    unfold LoopOk
    rw [List.length_cons, upD_cons, Tx.run_cons]
    have e0 : forD (gNm 6) rdBody (.int (p : Nat) :: upD ((p + 1 : Nat) : Int) r.length) (rdE z S a6 a7) = (match rdBody (rdE z S (.val (.int (p : Nat))) a7) with
      | .nx E2 => forD (gNm 6) rdBody (upD ((p + 1 : Nat) : Int) r.length) E2
      | .ct E2 => forD (gNm 6) rdBody (upD ((p + 1 : Nat) : Int) r.length) E2
      | .bk E2 => .nx E2
      | r => r) := rfl
    rw [e0]
    unfold StepOk at st
    cases hS : Tx.stp S c with
    | none =>
      rw [hS] at st
      obtain ⟨E, e⟩ := st
      rw [e]
      exact ⟨E, rfl⟩
    | some S' =>
      rw [hS] at st
      obtain ⟨v', b6, b7, e⟩ := st
      rw [e]
      exact rd_loop hz hp r (p + 1) S' b6 b7 v' (Tx.stp_sg hS hs) hd'

def RQ (f : J.Env → RS) : Prop := True
theorem rd_head {z : Str} (Q : J.Env → RS) : (sSeq (sSet 1 (fPub (fLst (fCons (fPub (fLst (fCons (fC (.int 2)) (fCons (fC (.int 3)) (fCons (fun1 gNeg (fC (.int 1))) (fCons (fC (.int 1)) (fCons (fun1 gNeg (fC (.int 1))) fNil))))))) (fCons (fPub (fLst (fCons (fun1 gNeg (fC (.int 1))) (fCons (fC (.int 3)) (fCons (fun1 gNeg (fC (.int 1))) (fCons (fun1 gNeg (fC (.int 1))) (fCons (fun1 gNeg (fC (.int 1))) fNil))))))) (fCons (fPub (fLst (fCons (fun1 gNeg (fC (.int 1))) (fCons (fun1 gNeg (fC (.int 1))) (fCons (fun1 gNeg (fC (.int 1))) (fCons (fun1 gNeg (fC (.int 1))) (fCons (fun1 gNeg (fC (.int 1))) fNil))))))) fNil)))))) (sSeq (sSet 1 (fop gAdd (fVar 1) (fPub (fLst (fCons (fPub (fLst (fCons (fC (.int 3)) (fCons (fC (.int 3)) (fCons (fC (.int 4)) (fCons (fun1 gNeg (fC (.int 1))) (fCons (fun1 gNeg (fC (.int 1))) fNil))))))) (fCons (fPub (fLst (fCons (fun1 gNeg (fC (.int 1))) (fCons (fC (.int 5)) (fCons (fun1 gNeg (fC (.int 1))) (fCons (fun1 gNeg (fC (.int 1))) (fCons (fun1 gNeg (fC (.int 1))) fNil))))))) (fCons (fPub (fLst (fCons (fC (.int 5)) (fCons (fC (.int 5)) (fCons (fun1 gNeg (fC (.int 1))) (fCons (fun1 gNeg (fC (.int 1))) (fCons (fun1 gNeg (fC (.int 1))) fNil))))))) fNil))))))) (sSeq (sSet 2 (fC (.int 0))) (sSeq (sSet 3 (fC (.int 1))) (sSeq (sSetL 4 (fLst (fCons (fC (.int 0)) (fCons (fC (.int 0)) fNil)))) (sSeq (sSetL 5 (fLst (fCons (fC (.int 0)) (fCons (fC (.int 0)) fNil)))) Q)))))) [.val (.str z), .no, .no, .no, .no, .no, .no, .no] = Q (rdE z ⟨0, 1, 0, 0, 0, 0⟩ .no .no) := by
  simp [rdE, aft, g_addL]
def lpF : J.Env → RS := (sFor (fRng1 (fun1 gLen (fVar 0))) (gNm 6) rdBody)
theorem reading_eq2 : f_L_reading = (sSeq (sSet 1 (fPub (fLst (fCons (fPub (fLst (fCons (fC (.int 2)) (fCons (fC (.int 3)) (fCons (fun1 gNeg (fC (.int 1))) (fCons (fC (.int 1)) (fCons (fun1 gNeg (fC (.int 1))) fNil))))))) (fCons (fPub (fLst (fCons (fun1 gNeg (fC (.int 1))) (fCons (fC (.int 3)) (fCons (fun1 gNeg (fC (.int 1))) (fCons (fun1 gNeg (fC (.int 1))) (fCons (fun1 gNeg (fC (.int 1))) fNil))))))) (fCons (fPub (fLst (fCons (fun1 gNeg (fC (.int 1))) (fCons (fun1 gNeg (fC (.int 1))) (fCons (fun1 gNeg (fC (.int 1))) (fCons (fun1 gNeg (fC (.int 1))) (fCons (fun1 gNeg (fC (.int 1))) fNil))))))) fNil)))))) (sSeq (sSet 1 (fop gAdd (fVar 1) (fPub (fLst (fCons (fPub (fLst (fCons (fC (.int 3)) (fCons (fC (.int 3)) (fCons (fC (.int 4)) (fCons (fun1 gNeg (fC (.int 1))) (fCons (fun1 gNeg (fC (.int 1))) fNil))))))) (fCons (fPub (fLst (fCons (fun1 gNeg (fC (.int 1))) (fCons (fC (.int 5)) (fCons (fun1 gNeg (fC (.int 1))) (fCons (fun1 gNeg (fC (.int 1))) (fCons (fun1 gNeg (fC (.int 1))) fNil))))))) (fCons (fPub (fLst (fCons (fC (.int 5)) (fCons (fC (.int 5)) (fCons (fun1 gNeg (fC (.int 1))) (fCons (fun1 gNeg (fC (.int 1))) (fCons (fun1 gNeg (fC (.int 1))) fNil))))))) fNil))))))) (sSeq (sSet 2 (fC (.int 0))) (sSeq (sSet 3 (fC (.int 1))) (sSeq (sSetL 4 (fLst (fCons (fC (.int 0)) (fCons (fC (.int 0)) fNil)))) (sSeq (sSetL 5 (fLst (fCons (fC (.int 0)) (fCons (fC (.int 0)) fNil)))) (sSeq lpF rdTail))))))) := rfl
theorem vd0 : Vd ⟨0, 1, 0, 0, 0, 0⟩ := ⟨by decide, by decide, by decide, by decide, by decide⟩
theorem lpF_eq {z : Str} (hz : z.length ≤ 16777216) {S : Tx.St} {a6 a7 : Sl} : lpF (rdE z S a6 a7) = forD (gNm 6) rdBody (upD ((0 : Nat) : Int) z.cps.toList.length) (rdE z S a6 a7) := by
  have l := g_lenS hz
  have sm : smI (z.length : Nat) = true := decide_eq_true (by rw [Int.natAbs_natCast]; omega)
  unfold lpF
  rw [u_sFor]
  have e : fRng1 (fun1 gLen (fVar 0)) (rdE z S a6 a7) = .ok (upD 0 z.length) (rdE z S a6 a7) := by
    generalize hn : (z.length : Int) = n at l sm
    have hn' : z.length = n.toNat := by omega
    rw [hn']
    simp [rdE, l, sm]
  rw [e, len_z]
  rfl
/-- the law's reader gives what the plain reading says -/
theorem p_reading {z : Str} (hz : z.length ≤ 16777216) (hp : ∀ c ∈ z.cps.toList, c < CP) : F_L_reading [.val (.str z)] = .ok (.v (rsD (Tx.spec z.cps.toList))) (ev F_L_reading [.val (.str z)]) := by
  refine of_ok ?_
  have k : ∃ E, f_L_reading [.val (.str z), .no, .no, .no, .no, .no, .no, .no] = .rt (.v (rsD (Tx.spec z.cps.toList))) E := by
    rw [reading_eq2, rd_head, u_sSeq, lpF_eq hz, ← Tx.auto_spec]
    have h := rd_loop hz hp z.cps.toList 0 ⟨0, 1, 0, 0, 0, 0⟩ .no .no vd0 (.inl rfl) rfl
    unfold LoopOk at h
    unfold Tx.auto
    cases hr : Tx.run ⟨0, 1, 0, 0, 0, 0⟩ 0 z.cps.toList with
    | error e =>
      rw [hr] at h
      obtain ⟨E, e'⟩ := h
      rw [e']
      exact ⟨E, rfl⟩
    | ok S' =>
      rw [hr] at h
      obtain ⟨⟨v, hs⟩, b6, b7, e'⟩ := h
      rw [e', len_z]
      exact rd_tail hz v hs
  obtain ⟨E, e⟩ := k
  exact ⟨E, runF_rt rfl e⟩
end Lw

namespace J
open PySem PySem.Spec PyProof.Rows L2
@[simp] theorem u_sAug (i : Nat) (g : D → D → Option D) (fa : J.Env → R D) (E : J.Env) : sAug i g fa E = (match E[i]? with
  | some (.val x) => (fa E).bindS fun d E => match g x d with | some y => .nx (E.set i (.val y)) | none => .stuck
  | _ => .stuck) := rfl
@[simp] theorem u_fIf (t : J.Env → R Bool) (fa fb : J.Env → R D) (E : J.Env) : fIf t fa fb E = (t E).bind fun k E => if k = true then fa E else fb E := rfl
@[simp] theorem g2I_add (i j : Int) : g2I (fun i j => some (i + j)) (.int i) (.int j) = some (.int (i + j)) := rfl
end J
namespace Lw
open PySem PySem.Spec PyProof.Rows L2 J
def xT (c : Nat) : Exn := ⟨"TextError", ["column", "line"], [.int (c : Nat), .int 1]⟩
@[simp] theorem fx_T (a b : Int) : Fx_TextError [.int a, .int b] = some ((["column", "line"] : List Str), [D.int b, D.int a]) := rfl
def bdR (l : List Nat) (p : Nat) : Except Exn D := match l with
  | [] => .error (xT (p + 1))
  | c :: r => if Tx.isD c = true then (if c = 48 then .ok (.int ((p + 1 : Nat) : Int)) else .ok (.int ((p + 1 + min 2000 (Tx.dl r) : Nat) : Int))) else .error (xT (p + 1))
def bhA : J.Env → RS := (sIf (fOr (fTest (fop gEq (fVar 1) (fun1 gLen (fVar 0)))) (fTest (fop (gInT true) (fop gIx (fVar 0) (fVar 1)) (fC (.str "0123456789"))))) (sRaise "TextError" 2 Fx_TextError (fCons (fC (.int 1)) (fCons (fop gAdd (fVar 1) (fC (.int 1))) fNil))) sNil)
def bhB : J.Env → RS := (sIf (fTest (fop gEq (fop gIx (fVar 0) (fVar 1)) (fC (.str "0")))) (sRet (fop gAdd (fVar 1) (fC (.int 1)))) sNil)
def bhC : J.Env → RS := (sSet 2 (fop gAdd (fVar 1) (fC (.int 1))))
def bhT : J.Env → J.R Bool := (fAnd (fTest (fop gLt (fVar 2) (fun1 gLen (fVar 0)))) (fAnd (fTest (fop gLt (fop gSub (fVar 2) (fVar 1)) (fC (.int gi_MOST_DIGITS)))) (fTest (fop (gInT false) (fop gIx (fVar 0) (fVar 2)) (fC (.str "0123456789"))))))
def bhG : J.Env → RS := (sAug 2 (g2I fun i j => some (i + j)) (fC (.int 1)))
theorem bh_eq : f_P_behind_digits = sSeq bhA (sSeq bhB (sSeq bhC (sSeq (fun E => whileD bhT bhG (fu_P_behind_digits_1 E) E) (sRet (fVar 2))))) := rfl
def E3 (z : Str) (p : Nat) (a : Sl) : J.Env := [.val (.str z), .val (.int (p : Nat)), a]
theorem drop_at {z : List Nat} {p c : Nat} {r : List Nat} (hd : z.drop p = c :: r) : z[p]? = some c ∧ z.drop (p + 1) = r ∧ p < z.length := by
  have h1 := congrArg List.head? hd
  rw [List.head?_drop] at h1
  have h2 := congrArg List.tail hd
  rw [List.tail_drop] at h2
  refine ⟨h1, h2, ?_⟩
  by_cases q : p < z.length
  · exact q
  · rw [List.drop_eq_nil_of_le (by omega)] at hd; cases hd
section
variable {z : Str} {p e : Nat} (hz : z.length ≤ 16777216)
include hz
theorem bhT_end {x : Nat} (h : e = z.length) : bhT (E3 z p (.val (.int (e : Nat)))) = .ok false (E3 z p (.val (.int (e : Nat)))) := by
  have l := g_lenS hz
  subst h
  simp [bhT, E3, l]
theorem bhT_far (he : e < z.length) (h : ¬ (e : Int) - (p : Int) < 2001) : bhT (E3 z p (.val (.int (e : Nat)))) = .ok false (E3 z p (.val (.int (e : Nat)))) := by
  have l := g_lenS hz
  have h' : ¬ (e : Int) - (p : Int) < gi_MOST_DIGITS := h
  simp [bhT, E3, l, he, h']
theorem bhT_in {c : Nat} (he : e < z.length) (h : (e : Int) - (p : Int) < 2001) (hc : z.cps.toList[e]? = some c) : bhT (E3 z p (.val (.int (e : Nat)))) = .ok (Tx.isD c) (E3 z p (.val (.int (e : Nat)))) := by
  have l := g_lenS hz
  have ix := g_ixS hz hc
  have h' : (e : Int) - (p : Int) < gi_MOST_DIGITS := h
  simp [bhT, E3, l, he, h', ix, in_09]
omit hz in
theorem bhG_eq : bhG (E3 z p (.val (.int (e : Nat)))) = .nx (E3 z p (.val (.int ((e + 1 : Nat) : Int)))) := by
  simp [bhG, E3]
theorem bh_loop : ∀ (m : Nat) (r : List Nat) (e fuel : Nat), z.cps.toList.drop e = r → e ≤ z.length → p < e → m = min (2001 - (e - p)) (Tx.dl r) → m < fuel → whileD bhT bhG fuel (E3 z p (.val (.int (e : Nat)))) = .nx (E3 z p (.val (.int ((e + m : Nat) : Int))))
  | m, r, e, 0, _, _, _, _, hf => by omega
  | 0, r, e, fuel + 1, hd, he, hp, hm, _ => by
    have k : bhT (E3 z p (.val (.int (e : Nat)))) = .ok false (E3 z p (.val (.int (e : Nat)))) := by
      cases r with
      | nil =>
        refine bhT_end hz (x := 0) ?_
        have := congrArg List.length hd
        rw [List.length_drop, len_z] at this
        simp at this
        omega
      | cons c r =>
        obtain ⟨h1, h2, h3⟩ := drop_at hd
        rw [len_z] at h3
        by_cases hf : (e : Int) - (p : Int) < 2001
        · rw [bhT_in hz h3 hf h1]
          have : Tx.dl (c :: r) = 0 := by omega
          rw [Tx.dl_cons] at this
          have : Tx.isD c = false := by
            cases q : Tx.isD c with
            | false => rfl
            | true => rw [q, if_pos rfl] at this; omega
          rw [this]
        · exact bhT_far hz h3 hf
    unfold whileD
    rw [k]
    rfl
  | m + 1, r, e, fuel + 1, hd, he, hp, hm, hf => by
    cases r with
    | nil => simp [Tx.dl] at hm
    | cons c r =>
      obtain ⟨h1, h2, h3⟩ := drop_at hd
      rw [len_z] at h3
      rw [Tx.dl_cons] at hm
      have hc : Tx.isD c = true := by
        cases q : Tx.isD c with
        | true => rfl
        | false => rw [q] at hm; simp at hm
      rw [hc, if_pos rfl] at hm
      have k := bhT_in hz (p := p) h3 (by omega) h1
      rw [hc] at k
      have ih := bh_loop m r (e + 1) fuel h2 (by omega) (by omega) (by omega) (by omega)
      unfold whileD
      rw [k]
      show (match bhG (E3 z p (.val (.int (e : Nat)))) with
        | .nx E2 => whileD bhT bhG fuel E2
        | .ct E2 => whileD bhT bhG fuel E2
        | .bk E2 => .nx E2
        | r => r) = _
      rw [bhG_eq]
      show whileD bhT bhG fuel (E3 z p (.val (.int ((e + 1 : Nat) : Int)))) = _
      rw [ih, show e + 1 + m = e + (m + 1) by omega]
theorem e_bd (hq : ∀ c ∈ z.cps.toList, c < CP) {l : List Nat} (hp : p ≤ z.length) (hd : z.cps.toList.drop p = l) : F_P_behind_digits [.val (.str z), .val (.int (p : Nat))] = toR (bdR l p) (ev F_P_behind_digits [.val (.str z), .val (.int (p : Nat))]) := by
  refine of_ex ?_
  have le := g_lenS hz
  have key : f_P_behind_digits (E3 z p .no) = f_P_behind_digits [.val (.str z), .val (.int (p : Nat)), .no] := rfl
  cases l with
  | nil =>
    have hl : p = z.length := by
      have := congrArg List.length hd
      rw [List.length_drop, len_z] at this
      simp at this
      omega
    have hA : bhA (E3 z p .no) = .exc (xT (p + 1)) (E3 z p .no) := by
      have h' : (p : Int) = (z.length : Int) := by omega
      rw [← hl] at le
      simp [bhA, E3, le, xT]
    refine ⟨E3 z p .no, ?_⟩
    show runF 3 f_P_behind_digits _ = _
    unfold runF
    show (match f_P_behind_digits (E3 z p .no) with | .nx E => _ | .rt r E => _ | .exc x E => _ | _ => _) = _
    rw [bh_eq, u_sSeq, hA]
    rfl
  | cons c r =>
    obtain ⟨h1, h2, h3⟩ := drop_at hd
    rw [len_z] at h3
    have ix := g_ixS hz h1
    have hc := hq c (List.mem_of_getElem? h1)
    have hne : ¬ (p : Int) = (z.length : Int) := by omega
    have hne' : ¬ p = z.length := by omega
    have q48 := g_eqC hc (show 48 < CP by decide)
    have bdR_cons : bdR (c :: r) p = if Tx.isD c = true then (if c = 48 then .ok (.int ((p + 1 : Nat) : Int)) else .ok (.int ((p + 1 + min 2000 (Tx.dl r) : Nat) : Int))) else .error (xT (p + 1)) := rfl
    rw [bdR_cons]
    by_cases hD : Tx.isD c = true
    · have hA : bhA (E3 z p .no) = .nx (E3 z p .no) := by
        simp [bhA, E3, le, hne, hne', ix, in_09, hD]
      rw [if_pos hD]
      by_cases h8 : c = 48
      · rw [if_pos h8]
        rw [decide_eq_true h8] at q48
        have hB : bhB (E3 z p .no) = .rt (.v (.int ((p + 1 : Nat) : Int))) (E3 z p .no) := by
          simp [bhB, E3, ix, s_0, q48]
        refine ⟨E3 z p .no, runF_rt (E0 := E3 z p .no) rfl ?_⟩
        rw [bh_eq, u_sSeq, hA]
        show sSeq bhB _ (E3 z p .no) = _
        rw [u_sSeq, hB]
        rfl
      · rw [if_neg h8]
        rw [decide_eq_false h8] at q48
        have hB : bhB (E3 z p .no) = .nx (E3 z p .no) := by
          simp [bhB, E3, ix, s_0, q48]
        have hC : bhC (E3 z p .no) = .nx (E3 z p (.val (.int ((p + 1 : Nat) : Int)))) := by
          simp [bhC, E3]
        have lp := bh_loop (p := p) hz (min (2001 - (p + 1 - p)) (Tx.dl r)) r (p + 1) 100000 h2 (by omega) (by omega) rfl (by omega)
        rw [show 2001 - (p + 1 - p) = 2000 by omega] at lp
        have fu : fu_P_behind_digits_1 (E3 z p (.val (.int ((p + 1 : Nat) : Int)))) = 100000 := rfl
        refine ⟨E3 z p (.val (.int ((p + 1 + min 2000 (Tx.dl r) : Nat) : Int))), runF_rt (E0 := E3 z p .no) rfl ?_⟩
        rw [bh_eq, u_sSeq, hA]
        show sSeq bhB _ (E3 z p .no) = _
        rw [u_sSeq, hB]
        show sSeq bhC (sSeq (fun E => whileD bhT bhG (fu_P_behind_digits_1 E) E) (sRet (fVar 2))) (E3 z p .no) = _
        rw [u_sSeq, hC]
        show (sSeq (fun E => whileD bhT bhG (fu_P_behind_digits_1 E) E) (sRet (fVar 2))) (E3 z p (.val (.int ((p + 1 : Nat) : Int)))) = _
        rw [u_sSeq, fu, lp]
        rfl
    · rw [if_neg hD]
      have hf : Tx.isD c = false := by simpa using hD
      have hA : bhA (E3 z p .no) = .exc (xT (p + 1)) (E3 z p .no) := by
        simp [bhA, E3, le, hne, hne', ix, in_09, hf, xT]
      refine ⟨E3 z p .no, ?_⟩
      show runF 3 f_P_behind_digits _ = _
      unfold runF
      show (match f_P_behind_digits (E3 z p .no) with | .nx E => _ | .rt r E => _ | .exc x E => _ | _ => _) = _
      rw [bh_eq, u_sSeq, hA]
      rfl
end
end Lw

namespace Lw
open PySem PySem.Spec PyProof.Rows L2 J PySem.NumText
theorem seq_nx {f g : J.Env → RS} {E E' : J.Env} (h : f E = .nx E') : sSeq f g E = g E' := by rw [u_sSeq, h]; rfl
theorem seq_rt {f g : J.Env → RS} {E E' : J.Env} {r : RV} (h : f E = .rt r E') : sSeq f g E = .rt r E' := by rw [u_sSeq, h]; rfl
theorem seq_exc {f g : J.Env → RS} {E E' : J.Env} {x : Exn} (h : f E = .exc x E') : sSeq f g E = .exc x E' := by rw [u_sSeq, h]; rfl
theorem runF_exc {n : Nat} {f : J.Env → RS} {as E0 : List Sl} {x : Exn} {E : J.Env} (h : as ++ List.replicate (n - as.length) .no = E0) (e : f E0 = .exc x E) : runF n f as = .exc x E := by
  unfold runF
  rw [h, e]
/-! ### cuts and ints of texts -/
theorem g_cutZ {z : Str} (hz : z.length ≤ 16777216) {a b : Nat} (hab : a ≤ b) (hb : b ≤ z.length) : gCut (.str z) (some (a : Nat)) (some (b : Nat)) = some (.str ⟨((z.cps.toList.drop a).take (b - a)).toArray⟩) := by
  show (if z.length ≤ 16777216 then some (D.str (cutS z _ _)) else none) = _
  rw [if_pos hz]
  unfold cutS
  have e1 : HT.sIx z.length 0 (some (a : Nat)) = a := by rw [HT.sIx_nat]; omega
  have e2 : HT.sIx z.length z.length (some (b : Nat)) = b := by rw [HT.sIx_nat]; omega
  rw [e1, e2]
theorem g_cut0 {z : Str} (hz : z.length ≤ 16777216) {b : Nat} (hb : b ≤ z.length) : gCut (.str z) none (some (b : Nat)) = some (.str ⟨(z.cps.toList.take b).toArray⟩) := by
  have := g_cutZ hz (Nat.zero_le b) hb
  rw [List.drop_zero, Nat.sub_zero] at this
  exact this
theorem g_intD {l : List Nat} (h : AllDigits l) (h1 : l ≠ []) (h2 : l.length ≤ 4300) : gIntT (.str ⟨l.toArray⟩) = some (.int ((digitsVal l : Nat) : Int)) := by
  have hl : (⟨l.toArray⟩ : Str).length = l.length := List.size_toArray
  show (if (⟨l.toArray⟩ : Str).length ≤ 16777216 then (PySem.intText? ⟨l.toArray⟩).map D.int else none) = _
  rw [if_pos (by omega), intText_digits (x := ⟨l.toArray⟩) h h1 (by omega)]
  rfl
theorem g_intM {l : List Nat} (h : AllDigits l) (h1 : l ≠ []) (h2 : l.length + 1 ≤ 4300) : gIntT (.str ⟨(45 :: l).toArray⟩) = some (.int (-((digitsVal l : Nat) : Int))) := by
  have hl : (⟨(45 :: l).toArray⟩ : Str).length = (45 :: l).length := List.size_toArray
  rw [List.length_cons] at hl
  show (if (⟨(45 :: l).toArray⟩ : Str).length ≤ 16777216 then (PySem.intText? ⟨(45 :: l).toArray⟩).map D.int else none) = _
  rw [if_pos (by omega), intText_neg (x := ⟨(45 :: l).toArray⟩) (cs := l) rfl h h1 (by omega)]
  rfl
theorem starts_mi (z : Str) : Txt.startswith z (ch 45) = decide (z.cps.toList.head? = some 45) := by
  unfold Txt.startswith
  rw [PySem.StrLaws.subAt_eq, List.drop_zero]
  have h1 : (ch 45).length = 1 := rfl
  have h2 : (ch 45).cps.toList = [45] := rfl
  rw [h1, h2, ← len_z]
  cases h : z.cps.toList with
  | nil => rfl
  | cons c r =>
    by_cases hc : c = 45
    · subst hc; simp
    · simp [hc]
/-! ### the two parts of a text -/

def rp1 : J.Env → RS := (sSet 1 (fIf (fTru (fSM sStarts (fVar 0) (fC (.str "-")))) (fC (.int 1)) (fC (.int 0))))
def rp2 : J.Env → RS := (sSet 2 (fCallR 2 F_P_behind_digits (xV (fVar 0) (xV (fVar 1) xNil)) rvD))
def rp3 : J.Env → RS := (sSet 3 (fun1 gIntT (fCut (fVar 0) (fun _ => some none) (fun E => intP ((getV 2) E)))))
def rp4 : J.Env → RS := (sIf (fAnd (fTest (fop gEq (fVar 3) (fC (.int 0)))) (fTest (fop gEq (fVar 1) (fC (.int 1))))) (sRaise "TextError" 2 Fx_TextError (fCons (fC (.int 1)) (fCons (fVar 2) fNil))) sNil)
def rp5 : J.Env → RS := (sIf (fTest (fop gEq (fVar 2) (fun1 gLen (fVar 0)))) (sRet (fTup (fCons (fVar 3) (fCons (fC (.int 1)) fNil)))) sNil)
def rp6 : J.Env → RS := (sIf (fOr (fTest (fop gEq (fVar 3) (fC (.int 0)))) (fTest (fop gNe (fop gIx (fVar 0) (fVar 2)) (fC (.str "/"))))) (sRaise "TextError" 2 Fx_TextError (fCons (fC (.int 1)) (fCons (fop gAdd (fVar 2) (fC (.int 1))) fNil))) sNil)
def rp7 : J.Env → RS := (sSet 4 (fCallR 2 F_P_behind_digits (xV (fVar 0) (xV (fop gAdd (fVar 2) (fC (.int 1))) xNil)) rvD))
def rp8 : J.Env → RS := (sSet 5 (fun1 gIntT (fCut (fVar 0) (fun E => intP ((fun E => ((getV 2) E).bind fun x => ((fun _ => some (.int 1)) E).bind fun y => gAdd x y) E)) (fun E => intP ((getV 4) E)))))
def rp9 : J.Env → RS := (sIf (fTest (fop gEq (fVar 5) (fC (.int 0)))) (sRaise "TextError" 2 Fx_TextError (fCons (fC (.int 1)) (fCons (fVar 4) fNil))) sNil)
def rp10 : J.Env → RS := (sIf (fOr (fTest (fop gLt (fVar 4) (fun1 gLen (fVar 0)))) (fOr (fTest (fop gEq (fVar 5) (fC (.int 1)))) (fTest (fop gGt (fop gGcd (fVar 3) (fVar 5)) (fC (.int 1)))))) (sRaise "TextError" 2 Fx_TextError (fCons (fC (.int 1)) (fCons (fop gAdd (fVar 4) (fC (.int 1))) fNil))) sNil)
def rp11 : J.Env → RS := (sRet (fTup (fCons (fVar 3) (fCons (fVar 5) fNil))))
theorem parts_eq : f_P_read_parts = (sSeq rp1 (sSeq rp2 (sSeq rp3 (sSeq rp4 (sSeq rp5 (sSeq rp6 (sSeq rp7 (sSeq rp8 (sSeq rp9 (sSeq rp10 rp11)))))))))) := rfl
def E6 (z : Str) (b : Nat) (s2 s3 s4 s5 : Sl) : J.Env := [.val (.str z), .val (.int (b : Nat)), s2, s3, s4, s5]
section
variable {z : Str} {b e l : Nat} {n d : Int} {s2 s3 s4 s5 : Sl}
theorem q1 : rp1 [.val (.str z), .no, .no, .no, .no, .no] = .nx (E6 z (if z.cps.toList.head? = some 45 then 1 else 0) .no .no .no .no) := by
  have s := starts_mi z
  by_cases h : z.cps.toList.head? = some 45
  · rw [if_pos h]
    rw [decide_eq_true h] at s
    simp [rp1, E6, sStarts, s_mi, s]
  · rw [if_neg h]
    rw [decide_eq_false h] at s
    simp [rp1, E6, sStarts, s_mi, s]
theorem q2 {E : J.Env} (h : F_P_behind_digits [.val (.str z), .val (.int (b : Nat))] = .ok (.v (.int (e : Nat))) E) : rp2 (E6 z b s2 s3 s4 s5) = .nx (E6 z b (.val (.int (e : Nat))) s3 s4 s5) := by
  simp [rp2, E6, h, ownsA, ndA, argS, backE]
theorem q2x {E : J.Env} {x : Exn} (h : F_P_behind_digits [.val (.str z), .val (.int (b : Nat))] = .exc x E) : rp2 (E6 z b s2 s3 s4 s5) = .exc x (E6 z b s2 s3 s4 s5) := by
  simp [rp2, E6, h, ownsA, ndA, argS, backE]
theorem q3 {c : D} (h : gCut (.str z) none (some (e : Nat)) = some c) (h2 : gIntT c = some (.int n)) : rp3 (E6 z b (.val (.int (e : Nat))) s3 s4 s5) = .nx (E6 z b (.val (.int (e : Nat))) (.val (.int n)) s4 s5) := by
  simp [rp3, E6, h, h2, intP]
theorem q4 (h : ¬ (n = 0 ∧ b = 1)) : rp4 (E6 z b s2 (.val (.int n)) s4 s5) = .nx (E6 z b s2 (.val (.int n)) s4 s5) := by
  by_cases h0 : n = 0
  · have h1 : ¬ (b : Int) = 1 := by omega
    have h2 : ¬ b = 1 := by omega
    simp [rp4, E6, h0, h1, h2]
  · simp [rp4, E6, h0]
theorem q4x (h : n = 0 ∧ b = 1) : rp4 (E6 z b (.val (.int (e : Nat))) (.val (.int n)) s4 s5) = .exc (xT e) (E6 z b (.val (.int (e : Nat))) (.val (.int n)) s4 s5) := by
  obtain ⟨h0, h1⟩ := h
  subst h0 h1
  simp [rp4, E6, xT]
theorem q5 (hz : z.length ≤ 16777216) (h : ¬ e = z.length) : rp5 (E6 z b (.val (.int (e : Nat))) (.val (.int n)) s4 s5) = .nx (E6 z b (.val (.int (e : Nat))) (.val (.int n)) s4 s5) := by
  have g := g_lenS hz
  simp [rp5, E6, g, h]
  omega
theorem q5r (hz : z.length ≤ 16777216) (h : e = z.length) : rp5 (E6 z b (.val (.int (e : Nat))) (.val (.int n)) s4 s5) = .rt (.v (.tup [.int n, .int 1])) (E6 z b (.val (.int (e : Nat))) (.val (.int n)) s4 s5) := by
  have g := g_lenS hz
  rw [← h] at g
  simp [rp5, E6, g]
theorem q6 {c : Nat} (hz : z.length ≤ 16777216) (h : ¬ n = 0) (hc : z.cps.toList[e]? = some c) (h7 : c = 47) : rp6 (E6 z b (.val (.int (e : Nat))) (.val (.int n)) s4 s5) = .nx (E6 z b (.val (.int (e : Nat))) (.val (.int n)) s4 s5) := by
  have ix := g_ixS hz hc
  have q := g_neC (c := c) (k := 47) (by rw [h7]; decide) (by decide)
  rw [decide_eq_true h7] at q
  simp [rp6, E6, ix, h, s_sl, q]
theorem q6x {c : Nat} (hz : z.length ≤ 16777216) (hc : z.cps.toList[e]? = some c) (hp : c < CP) (h : n = 0 ∨ ¬ c = 47) : rp6 (E6 z b (.val (.int (e : Nat))) (.val (.int n)) s4 s5) = .exc (xT (e + 1)) (E6 z b (.val (.int (e : Nat))) (.val (.int n)) s4 s5) := by
  have ix := g_ixS hz hc
  have q := g_neC (c := c) (k := 47) hp (by decide)
  by_cases h0 : n = 0
  · simp [rp6, E6, ix, h0, s_sl, q, xT]
  · rw [decide_eq_false (by rcases h with h | h; exact absurd h h0; exact h)] at q
    simp [rp6, E6, ix, h0, s_sl, q, xT]
theorem q7 {E : J.Env} (h : F_P_behind_digits [.val (.str z), .val (.int ((e + 1 : Nat) : Int))] = .ok (.v (.int (l : Nat))) E) : rp7 (E6 z b (.val (.int (e : Nat))) s3 s4 s5) = .nx (E6 z b (.val (.int (e : Nat))) s3 (.val (.int (l : Nat))) s5) := by
  rw [show ((e + 1 : Nat) : Int) = (e : Int) + 1 by omega] at h
  simp [rp7, E6, h, ownsA, ndA, argS, backE]
theorem q7x {E : J.Env} {x : Exn} (h : F_P_behind_digits [.val (.str z), .val (.int ((e + 1 : Nat) : Int))] = .exc x E) : rp7 (E6 z b (.val (.int (e : Nat))) s3 s4 s5) = .exc x (E6 z b (.val (.int (e : Nat))) s3 s4 s5) := by
  rw [show ((e + 1 : Nat) : Int) = (e : Int) + 1 by omega] at h
  simp [rp7, E6, h, ownsA, ndA, argS, backE]
theorem q8 {c : D} (h : gCut (.str z) (some ((e + 1 : Nat) : Int)) (some (l : Nat)) = some c) (h2 : gIntT c = some (.int d)) : rp8 (E6 z b (.val (.int (e : Nat))) s3 (.val (.int (l : Nat))) s5) = .nx (E6 z b (.val (.int (e : Nat))) s3 (.val (.int (l : Nat))) (.val (.int d))) := by
  rw [show ((e + 1 : Nat) : Int) = (e : Int) + 1 by omega] at h
  simp [rp8, E6, h, h2, intP]
theorem q9 (h : ¬ d = 0) : rp9 (E6 z b s2 s3 (.val (.int (l : Nat))) (.val (.int d))) = .nx (E6 z b s2 s3 (.val (.int (l : Nat))) (.val (.int d))) := by
  simp [rp9, E6, h]
theorem q9x (h : d = 0) : rp9 (E6 z b s2 s3 (.val (.int (l : Nat))) (.val (.int d))) = .exc (xT l) (E6 z b s2 s3 (.val (.int (l : Nat))) (.val (.int d))) := by
  subst h
  simp [rp9, E6, xT]
theorem q10 (hz : z.length ≤ 16777216) (h1 : ¬ l < z.length) (h2 : ¬ d = 1) (h3 : ¬ g2 n d > 1) : rp10 (E6 z b s2 (.val (.int n)) (.val (.int (l : Nat))) (.val (.int d))) = .nx (E6 z b s2 (.val (.int n)) (.val (.int (l : Nat))) (.val (.int d))) := by
  have g := g_lenS hz
  have h3' : ¬ 1 < g2 n d := h3
  simp [rp10, E6, g, h1, h2, g_gcd, h3']
theorem q10x (hz : z.length ≤ 16777216) (h : l < z.length ∨ d = 1 ∨ g2 n d > 1) : rp10 (E6 z b s2 (.val (.int n)) (.val (.int (l : Nat))) (.val (.int d))) = .exc (xT (l + 1)) (E6 z b s2 (.val (.int n)) (.val (.int (l : Nat))) (.val (.int d))) := by
  have g := g_lenS hz
  by_cases h1 : l < z.length
  · simp [rp10, E6, g, h1, xT]
  · by_cases h2 : d = 1
    · simp [rp10, E6, g, h1, h2, xT]
    · have h3 : 1 < g2 n d := by
        rcases h with h | h | h
        · exact absurd h h1
        · exact absurd h h2
        · exact h
      simp [rp10, E6, g, h1, h2, g_gcd, h3, xT]
theorem q11 : rp11 (E6 z b s2 (.val (.int n)) s4 (.val (.int d))) = .rt (.v (.tup [.int n, .int d])) (E6 z b s2 (.val (.int n)) s4 (.val (.int d))) := by
  simp [rp11, E6]
end
end Lw

namespace Lw
open PySem PySem.Spec PyProof.Rows L2 J PySem.NumText
def outR : Except Exn D → J.Env → RS
  | .ok d, E => .rt (.v d) E
  | .error x, E => .exc x E
theorem of_out {n : Nat} {f : J.Env → RS} {as E0 : List Sl} {r : Except Exn D} (h : as ++ List.replicate (n - as.length) .no = E0) (e : ∃ E, f E0 = outR r E) : ∃ E, runF n f as = toR r E := by
  obtain ⟨E, e⟩ := e
  cases r with
  | ok d => exact ⟨E, runF_rt h e⟩
  | error x => exact ⟨E, runF_exc h e⟩
def rpV : Except Nat (Int × Int) → Except Exn D
  | .error e => .error (xT e)
  | .ok (n, d) => .ok (.tup [.int n, .int d])
theorem out_exc {r : RS} {c c' : Nat} {E : J.Env} (h : r = .exc (xT c) E) (e : c = c') : ∃ E, r = outR (rpV (.error c')) E := ⟨E, by rw [h, e]; rfl⟩
theorem out_ok {r : RS} {n d : Int} {E : J.Env} (h : r = .rt (.v (.tup [.int n, .int d])) E) : ∃ E, r = outR (rpV (.ok (n, d))) E := ⟨E, h⟩
theorem bd_err {z : Str} {p c : Nat} {l : List Nat} (hz : z.length ≤ 16777216) (hq : ∀ c ∈ z.cps.toList, c < CP) (hp : p ≤ z.length) (hd : z.cps.toList.drop p = l) (h : bdR l p = .error (xT c)) : ∃ E, F_P_behind_digits [.val (.str z), .val (.int (p : Nat))] = .exc (xT c) E := by
  have e := e_bd hz hq hp hd
  rw [h] at e
  exact ⟨_, e⟩
theorem bd_ok {z : Str} {p c : Nat} {l : List Nat} (hz : z.length ≤ 16777216) (hq : ∀ c ∈ z.cps.toList, c < CP) (hp : p ≤ z.length) (hd : z.cps.toList.drop p = l) (h : bdR l p = .ok (.int (c : Nat))) : ∃ E, F_P_behind_digits [.val (.str z), .val (.int (p : Nat))] = .ok (.v (.int (c : Nat))) E := by
  have e := e_bd hz hq hp hd
  rw [h] at e
  exact ⟨_, e⟩
theorem bdR_d {c p : Nat} {r : List Nat} (h : Tx.isD c = true ∧ c ≠ 48) : bdR (c :: r) p = .ok (.int ((p + 1 + min 2000 (Tx.dl r) : Nat) : Int)) := by
  show (if Tx.isD c = true then (if c = 48 then _ else _) else _) = _
  rw [if_pos h.1, if_neg h.2]
theorem bdR_0 {p : Nat} {r : List Nat} : bdR (48 :: r) p = .ok (.int ((p + 1 : Nat) : Int)) := rfl
theorem bdR_n {c p : Nat} {r : List Nat} (h : Tx.isD c = false) : bdR (c :: r) p = .error (xT (p + 1)) := by
  show (if Tx.isD c = true then _ else _) = _
  rw [h]
  rfl
abbrev ch7 : J.Env → RS := sSeq rp7 (sSeq rp8 (sSeq rp9 (sSeq rp10 rp11)))
abbrev ch3 : J.Env → RS := sSeq rp3 (sSeq rp4 (sSeq rp5 (sSeq rp6 ch7)))
theorem g2_abs' {sg : Int} {v0 v1 : Nat} (h : sg = 1 ∨ sg = -1) : g2 (sg * v0) v1 = ((Nat.gcd v0 v1 : Nat) : Int) := by
  unfold g2
  rcases h with h | h <;> subst h <;> simp
theorem drop_lens {α : Type} {l r : List α} {p : Nat} (h : l.drop p = r) (hp : p ≤ l.length) : l.length = p + r.length := by
  have := congrArg List.length h
  rw [List.length_drop] at this
  omega
theorem digs_cons {c : Nat} {r : List Nat} (hc : Tx.isD c = true) : AllDigits (c :: r.take (min 2000 (Tx.dl r))) := fun d hd => by
  rcases List.mem_cons.mp hd with rfl | hd
  · exact Tx.isD_iff.mp hc
  · exact Tx.dl_digits r _ (by omega) d hd
theorem den_ok {z : Str} {b e k v0 : Nat} {sg : Int} {r2 : List Nat} {s4 s5 : Sl} (hz : z.length ≤ 16777216) (hq : ∀ c ∈ z.cps.toList, c < CP) (hs : sg = 1 ∨ sg = -1) (he : e = b + 1 + k) (hl : e + 1 ≤ z.length) (hd : z.cps.toList.drop (e + 1) = r2) :
    ∃ E, ch7 (E6 z b (.val (.int (e : Nat))) (.val (.int (sg * v0))) s4 s5) = outR (rpV (Tx.rdDen b sg v0 k r2)) E := by
  cases r2 with
  | nil =>
    obtain ⟨E, x⟩ := bd_err hz hq hl hd (c := e + 1 + 1) rfl
    exact out_exc (seq_exc (q7x x)) (by omega)
  | cons c3 r3 =>
    have hlen := drop_lens hd (by rw [len_z]; exact hl)
    rw [len_z, List.length_cons] at hlen
    rw [Tx.rdDen_cons]
    by_cases hc : Tx.isD c3 = true ∧ c3 ≠ 48
    · rw [if_pos hc]
      obtain ⟨E, x⟩ := bd_ok hz hq hl hd (bdR_d hc)
      generalize hk : min 2000 (Tx.dl r3) = k2 at *
      have hk2 : k2 ≤ r3.length := by have := Tx.dl_le r3; omega
      have cut := g_cutZ hz (a := e + 1) (b := e + 1 + 1 + k2) (by omega) (by omega)
      rw [hd, show e + 1 + 1 + k2 - (e + 1) = k2 + 1 by omega, List.take_succ_cons] at cut
      have ad : AllDigits (c3 :: r3.take k2) := by rw [← hk]; exact digs_cons hc.1
      have gi := g_intD ad (by simp) (by rw [List.length_cons, List.length_take]; omega)
      rw [← Tx.vl_dv] at gi
      have hv1 : 0 < Tx.vl (c3 - 48) (r3.take k2) := by
        rw [Tx.vl_dv]
        have := Tx.isD_iff.mp hc.1
        exact digitsVal_pos (by omega)
      generalize Tx.vl (c3 - 48) (r3.take k2) = v1 at *
      have st : ch7 (E6 z b (.val (.int (e : Nat))) (.val (.int (sg * v0))) s4 s5) = sSeq rp10 rp11 (E6 z b (.val (.int (e : Nat))) (.val (.int (sg * v0))) (.val (.int ((e + 1 + 1 + k2 : Nat) : Int))) (.val (.int (v1 : Nat)))) := by
        refine (seq_nx (q7 x)).trans ((seq_nx (q8 cut gi)).trans (seq_nx (q9 (by omega))))
      rw [st]
      cases hr : r3.drop k2 with
      | cons x y =>
        have := Tx.drop_len hr
        exact out_exc (seq_exc (q10x hz (.inl (by omega)))) (by omega)
      | nil =>
        have hl3 : r3.length = k2 := by
          have := congrArg List.length hr
          rw [List.length_drop] at this
          simp at this
          omega
        by_cases lo : 1 < v1 ∧ Nat.gcd v0 v1 = 1
        · have e1 : Tx.low1 v0 v1 = true := decide_eq_true lo
          simp only [e1, if_true]
          exact out_ok ((seq_nx (q10 hz (by omega) (by omega) (by rw [g2_abs' hs, lo.2]; decide))).trans q11)
        · have e1 : Tx.low1 v0 v1 = false := decide_eq_false lo
          simp only [e1, Bool.false_eq_true, if_false]
          refine out_exc (seq_exc (q10x hz (.inr ?_))) (by omega)
          by_cases h1 : v1 = 1
          · exact .inl (by omega)
          · refine .inr ?_
            rw [g2_abs' hs]
            have hg : ¬ Nat.gcd v0 v1 = 1 := fun q => lo ⟨by omega, q⟩
            have : 0 < Nat.gcd v0 v1 := Nat.gcd_pos_of_pos_right _ hv1
            omega
    · rw [if_neg hc]
      by_cases h8 : c3 = 48
      · subst h8
        obtain ⟨E, x⟩ := bd_ok hz hq hl hd (c := e + 1 + 1) bdR_0
        have cut := g_cutZ hz (a := e + 1) (b := e + 1 + 1) (by omega) (by omega)
        rw [hd, show e + 1 + 1 - (e + 1) = 1 by omega, List.take_succ_cons, List.take_zero] at cut
        have gi : gIntT (.str ⟨[48].toArray⟩) = some (.int 0) := g_intD (l := [48]) (by intro d hd; simp at hd; omega) (by simp) (by decide)
        exact out_exc ((seq_nx (q7 x)).trans ((seq_nx (q8 cut gi)).trans (seq_exc (q9x rfl)))) (by omega)
      · have hD : Tx.isD c3 = false := by
          cases q : Tx.isD c3 with
          | false => rfl
          | true => exact absurd ⟨q, h8⟩ hc
        obtain ⟨E, x⟩ := bd_err hz hq hl hd (c := e + 1 + 1) (bdR_n hD)
        exact out_exc (seq_exc (q7x x)) (by omega)
theorem num_ok {z : Str} {b c : Nat} {sg : Int} {r : List Nat} (hz : z.length ≤ 16777216) (hq : ∀ c ∈ z.cps.toList, c < CP) (hs : (b = 0 ∧ sg = 1 ∧ z.cps.toList = c :: r) ∨ (b = 1 ∧ sg = -1 ∧ z.cps.toList = 45 :: c :: r)) (hc : Tx.isD c = true ∧ c ≠ 48) :
    ∃ E, ch3 (E6 z b (.val (.int ((b + 1 + min 2000 (Tx.dl r) : Nat) : Int))) .no .no .no) = outR (rpV (Tx.rdNum b sg c r)) E := by
  have hlen : z.length = b + 1 + r.length := by
    rw [← len_z]
    rcases hs with ⟨h, _, e⟩ | ⟨h, _, e⟩ <;> rw [e, h] <;> simp <;> omega
  have hd : z.cps.toList.drop b = c :: r := by
    rcases hs with ⟨h, _, e⟩ | ⟨h, _, e⟩ <;> rw [e, h] <;> rfl
  have hsg : sg = 1 ∨ sg = -1 := by rcases hs with ⟨_, h, _⟩ | ⟨_, h, _⟩ <;> simp [h]
  have ad := digs_cons (c := c) (r := r) hc.1
  unfold Tx.rdNum
  generalize hk : min 2000 (Tx.dl r) = k at *
  have hk1 : k ≤ r.length := by have := Tx.dl_le r; omega
  have hv : 0 < Tx.vl (c - 48) (r.take k) := by
    rw [Tx.vl_dv]
    have := Tx.isD_iff.mp hc.1
    exact digitsVal_pos (by omega)
  have ci : ∃ x, gCut (.str z) none (some ((b + 1 + k : Nat) : Int)) = some x ∧ gIntT x = some (.int (sg * (Tx.vl (c - 48) (r.take k) : Nat))) := by
    have cut := g_cut0 hz (b := b + 1 + k) (by omega)
    refine ⟨_, cut, ?_⟩
    rw [Tx.vl_dv]
    rcases hs with ⟨h, h1, e⟩ | ⟨h, h1, e⟩
    · subst h h1
      rw [e, show 0 + 1 + k = k + 1 by omega, List.take_succ_cons, Int.one_mul]
      exact g_intD ad (by simp) (by rw [List.length_cons, List.length_take]; omega)
    · subst h h1
      rw [e, show 1 + 1 + k = k + 1 + 1 by omega, List.take_succ_cons, List.take_succ_cons, show (-1 : Int) * ((digitsVal (c :: r.take k) : Nat) : Int) = -((digitsVal (c :: r.take k) : Nat) : Int) by omega]
      exact g_intM ad (by simp) (by rw [List.length_cons, List.length_take]; omega)
  obtain ⟨x, c1, c2⟩ := ci
  have dn := fun (s4 s5 : Sl) (r2 : List Nat) => den_ok (z := z) (b := b) (e := b + 1 + k) (k := k) (v0 := Tx.vl (c - 48) (r.take k)) (sg := sg) (r2 := r2) (s4 := s4) (s5 := s5) hz hq hsg rfl
  generalize Tx.vl (c - 48) (r.take k) = v0 at *
  have hn : ¬ sg * (v0 : Int) = 0 := by
    rcases hsg with h | h <;> subst h <;> omega
  have st : ch3 (E6 z b (.val (.int ((b + 1 + k : Nat) : Int))) .no .no .no) = sSeq rp5 (sSeq rp6 ch7) (E6 z b (.val (.int ((b + 1 + k : Nat) : Int))) (.val (.int (sg * v0))) .no .no) :=
    (seq_nx (q3 c1 c2)).trans (seq_nx (q4 (fun h => hn h.1)))
  rw [st]
  have hd1 : z.cps.toList.drop (b + 1) = r := by
    rcases hs with ⟨h, _, e⟩ | ⟨h, _, e⟩ <;> rw [e, h] <;> rfl
  have hdk : z.cps.toList.drop (b + 1 + k) = r.drop k := by
    rw [show b + 1 + k = (b + 1) + k from rfl, ← List.drop_drop, hd1]
  cases hr : r.drop k with
  | nil =>
    have hl3 : r.length = k := by
      have := congrArg List.length hr
      rw [List.length_drop] at this
      simp at this
      omega
    exact out_ok (seq_rt (q5r hz (by omega)))
  | cons c2 r2 =>
    have hl3 := Tx.drop_len hr
    rw [hr] at hdk
    obtain ⟨h1, h2, h3⟩ := drop_at hdk
    have hm := hq c2 (List.mem_of_getElem? h1)
    by_cases h7 : c2 = 47
    · simp only [if_pos h7]
      obtain ⟨E, e⟩ := dn .no .no r2 (by omega) h2
      exact ⟨E, (seq_nx (q5 hz (by omega))).trans ((seq_nx (q6 hz hn h1 h7)).trans e)⟩
    · simp only [if_neg h7]
      exact out_exc ((seq_nx (q5 hz (by omega))).trans (seq_exc (q6x hz h1 hm (.inr h7)))) (by omega)
/-- the two parts are what the plain reading says -/
theorem p_parts {z : Str} (hz : z.length ≤ 16777216) (hq : ∀ c ∈ z.cps.toList, c < CP) : F_P_read_parts [.val (.str z)] = toR (rpV (Tx.spec z.cps.toList)) (ev F_P_read_parts [.val (.str z)]) := by
  refine of_ex (of_out rfl ?_)
  show ∃ E, f_P_read_parts [.val (.str z), .no, .no, .no, .no, .no] = _
  rw [parts_eq, seq_nx q1]
  cases hcs : z.cps.toList with
  | nil =>
    rw [if_neg (by simp)]
    obtain ⟨E, x⟩ := bd_err hz hq (p := 0) (Nat.zero_le _) (l := []) (by rw [hcs]; rfl) (c := 0 + 1) rfl
    exact out_exc (seq_exc (q2x x)) rfl
  | cons c r =>
    have hlen : z.length = 1 + r.length := by rw [← len_z, hcs]; simp; omega
    rw [Tx.spec_cons]
    by_cases h5 : c = 45
    · subst h5
      simp only [List.head?_cons, if_true]
      have hd1 : z.cps.toList.drop 1 = r := by rw [hcs]; rfl
      cases r with
      | nil =>
        obtain ⟨E, x⟩ := bd_err hz hq (p := 1) (by omega) hd1 (c := 1 + 1) rfl
        exact out_exc (seq_exc (q2x x)) rfl
      | cons c1 r1 =>
        by_cases hc : Tx.isD c1 = true ∧ c1 ≠ 48
        · simp only [if_pos hc]
          obtain ⟨E, x⟩ := bd_ok hz hq (p := 1) (by omega) hd1 (bdR_d hc)
          rw [seq_nx (q2 x)]
          exact num_ok hz hq (.inr ⟨rfl, rfl, hcs⟩) hc
        · simp only [if_neg hc]
          by_cases h8 : c1 = 48
          · subst h8
            obtain ⟨E, x⟩ := bd_ok hz hq (p := 1) (by omega) hd1 (c := 1 + 1) bdR_0
            have cut := g_cut0 hz (b := 1 + 1) (by rw [hlen]; simp; omega)
            rw [hcs, List.take_succ_cons, List.take_succ_cons, List.take_zero] at cut
            have gi : gIntT (.str ⟨[45, 48].toArray⟩) = some (.int 0) := g_intM (l := [48]) (by intro d hd; simp at hd; omega) (by simp) (by decide)
            exact out_exc ((seq_nx (q2 x)).trans ((seq_nx (q3 cut gi)).trans (seq_exc (q4x ⟨rfl, rfl⟩)))) rfl
          · have hD : Tx.isD c1 = false := by
              cases q : Tx.isD c1 with
              | false => rfl
              | true => exact absurd ⟨q, h8⟩ hc
            obtain ⟨E, x⟩ := bd_err hz hq (p := 1) (by omega) hd1 (c := 1 + 1) (bdR_n hD)
            exact out_exc (seq_exc (q2x x)) rfl
    · rw [if_neg (by simpa using h5), if_neg h5]
      have hd0 : z.cps.toList.drop 0 = c :: r := by rw [hcs]; rfl
      by_cases h8 : c = 48
      · subst h8
        rw [if_pos rfl]
        obtain ⟨E, x⟩ := bd_ok hz hq (p := 0) (Nat.zero_le _) hd0 (c := 0 + 1) bdR_0
        have cut := g_cut0 hz (b := 0 + 1) (by omega)
        rw [hcs, List.take_succ_cons, List.take_zero] at cut
        have gi : gIntT (.str ⟨[48].toArray⟩) = some (.int 0) := g_intD (l := [48]) (by intro d hd; simp at hd; omega) (by simp) (by decide)
        cases r with
        | nil => exact out_ok ((seq_nx (q2 x)).trans ((seq_nx (q3 cut gi)).trans ((seq_nx (q4 (by decide))).trans (seq_rt (q5r hz (by rw [hlen]; rfl))))))
        | cons c1 r1 =>
          have h1 : z.cps.toList[0 + 1]? = some c1 := by rw [hcs]; rfl
          have hm := hq c1 (List.mem_of_getElem? h1)
          exact out_exc ((seq_nx (q2 x)).trans ((seq_nx (q3 cut gi)).trans ((seq_nx (q4 (by decide))).trans ((seq_nx (q5 hz (by rw [hlen]; simp))).trans (seq_exc (q6x hz h1 hm (.inl rfl))))))) rfl
      · rw [if_neg h8]
        by_cases hc : Tx.isD c = true
        · rw [if_pos hc]
          obtain ⟨E, x⟩ := bd_ok hz hq (p := 0) (Nat.zero_le _) hd0 (bdR_d ⟨hc, h8⟩)
          rw [seq_nx (q2 x)]
          exact num_ok hz hq (.inl ⟨rfl, rfl, hcs⟩) ⟨hc, h8⟩
        · rw [if_neg hc]
          obtain ⟨E, x⟩ := bd_err hz hq (p := 0) (Nat.zero_le _) hd0 (c := 0 + 1) (bdR_n (by simpa using hc))
          exact out_exc (seq_exc (q2x x)) rfl
end Lw

namespace Lw
open PySem PySem.Spec PyProof.Rows L2 J
def toB : J.Env → RS := (sIf (fTest (fop gEq (fVar 0) (fC (.str "read")))) (sSet 6 (fCallR 1 F_M_Ratio_read (xV (fVar 1) xNil) rvD)) (sIf (fTest (fop gEq (fVar 0) (fC (.str "made")))) (sSet 6 (fMake "Ratio" 3 F_M_Ratio_init [] (xV (fVar 1) (xV (fVar 2) xNil)))) (sIf (fTest (fop gEq (fVar 0) (fC (.str "total")))) (sSet 6 (fCallR 1 F_M_Ratio_total (xV (fVar 1) xNil) rvD)) (sIf (fTest (fop gEq (fVar 0) (fC (.str "+")))) (sSet 6 (fBin T_op_add gAdd (fVar 1) (fVar 2))) (sIf (fTest (fop gEq (fVar 0) (fC (.str "-")))) (sSet 6 (fBin T_op_sub gSub (fVar 1) (fVar 2))) (sIf (fTest (fop gEq (fVar 0) (fC (.str "*")))) (sSet 6 (fBin T_op_mul gMulT (fVar 1) (fVar 2))) (sSet 6 (fMeth "over" 2 T_mt_over [] (fVar 1) (xV (fVar 2) xNil)))))))))
def toC : List Cl := [⟨exm_TextError, some 3, fun y => (sSeq (sIf (fOr (fNot (fTru (fIsE isx_0 y))) (fTru (fIsE isx_1 y))) (sSeq (sRet (fTup (fCons (fC (.str "odd")) fNil))) sNil) sNil) (sSeq (sIf (fOr (fNot (fTru (fCallR 1 F_L_int (xV (fXf okf_TextError_line y "line") xNil) rvD))) (fNot (fTru (fCallR 1 F_L_int (xV (fXf okf_TextError_column y "column") xNil) rvD)))) (sSeq (sRet (fTup (fCons (fC (.str "odd")) fNil))) sNil) sNil) (sSeq (sRet (fTup (fCons (fC (.str "text")) (fCons (fXf okf_TextError_line y "line") (fCons (fXf okf_TextError_column y "column") fNil))))) sNil)))⟩, ⟨exm_SizeError, some 4, fun y => (sSeq (sIf (fOr (fNot (fTru (fIsE isx_2 y))) (fTru (fIsE isx_3 y))) (sSeq (sRet (fTup (fCons (fC (.str "odd")) fNil))) sNil) sNil) (sSeq (sIf (fNot (fTru (fCallR 1 F_L_int (xV (fXf okf_SizeError_count y "count") xNil) rvD))) (sSeq (sRet (fTup (fCons (fC (.str "odd")) fNil))) sNil) sNil) (sSeq (sRet (fTup (fCons (fC (.str "size")) (fCons (fXf okf_SizeError_count y "count") fNil)))) sNil)))⟩, ⟨exm_NumberError, some 5, fun y => (sSeq (sIf (fOr (fNot (fTru (fIsE isx_4 y))) (fNot (fTru (fIsE isx_5 y)))) (sSeq (sRet (fTup (fCons (fC (.str "odd")) fNil))) sNil) sNil) (sSeq (sIf (fNot (fTru (fCallR 1 F_L_int (xV (fXf okf_NumberError_number y "number") xNil) rvD))) (sSeq (sRet (fTup (fCons (fC (.str "odd")) fNil))) sNil) sNil) (sSeq (sRet (fTup (fCons (fC (.str "number")) (fCons (fXf okf_NumberError_number y "number") fNil)))) sNil)))⟩]
theorem told_eq : f_L_told = sSeq (sTry toB toC) (sRet (fCallR 1 F_L_pair (xV (fVar 6) xNil) rvD)) := rfl
def szD (n : Int) : D := .tup [.str "size", .int n]
def nuD (n : Int) : D := .tup [.str "number", .int n]
def raD (n d : Int) : D := .tup [.str "ratio", .int n, .int d]
abbrev E7 (a0 a1 a2 r : Sl) : J.Env := [a0, a1, a2, .no, .no, .no, r]
section
variable {a0 a1 a2 : D}
theorem cl_T (c : Nat) (a0 a1 a2 r : Sl) : ∃ E', clD toC (xT c) (E7 a0 a1 a2 r) = .rt (.v (txD c)) E' := ⟨_, rfl⟩
theorem cl_S (c : Int) (a0 a1 a2 r : Sl) : ∃ E', clD toC (xS c) (E7 a0 a1 a2 r) = .rt (.v (szD c)) E' := ⟨_, rfl⟩
theorem cl_N (c : Int) (a0 a1 a2 r : Sl) : ∃ E', clD toC (xN c) (E7 a0 a1 a2 r) = .rt (.v (nuD c)) E' := ⟨_, rfl⟩
theorem told_x {x : Exn} {d : D} (hc : ∃ E', clD toC x (E7 (.val a0) (.val a1) (.val a2) .no) = .rt (.v d) E') (h : toB (E7 (.val a0) (.val a1) (.val a2) .no) = .exc x (E7 (.val a0) (.val a1) (.val a2) .no)) : ∃ E, F_L_told [.val a0, .val a1, .val a2] = .ok (.v d) E := by
  obtain ⟨E', hc⟩ := hc
  refine ⟨E', runF_rt (n := 7) (f := f_L_told) (E0 := E7 (.val a0) (.val a1) (.val a2) .no) rfl ?_⟩
  rw [told_eq, u_sSeq]
  have e : sTry toB toC (E7 (.val a0) (.val a1) (.val a2) .no) = .rt (.v d) E' := by
    unfold sTry; rw [h]; exact hc
  rw [e]; rfl
theorem told_r {x y : Int} (h : toB (E7 (.val a0) (.val a1) (.val a2) .no) = .nx (E7 (.val a0) (.val a1) (.val a2) (.val (rt x y)))) : ∃ E, F_L_told [.val a0, .val a1, .val a2] = .ok (.v (raD x y)) E := by
  refine ⟨_, runF_rt (n := 7) (f := f_L_told) (E0 := E7 (.val a0) (.val a1) (.val a2) .no) (E := E7 (.val a0) (.val a1) (.val a2) (.val (rt x y))) rfl ?_⟩
  rw [told_eq, u_sSeq]
  have e : sTry toB toC (E7 (.val a0) (.val a1) (.val a2) .no) = .nx (E7 (.val a0) (.val a1) (.val a2) (.val (rt x y))) := by
    unfold sTry; rw [h]
  rw [e]
  simp [ownsA, ndA, argS, backE, e_pair, raD]
end
/-! ### read -/
theorem se_read : gEq (.str "read") (.str "read") = some (.bl true) := g_eqS (by decide +kernel)
theorem e_size5 {z : Str} (h : z.length ≤ 5000) : ∃ E, F_look_size [.val (.str z), .val (.int 0), .val (.int gi_MOST_SIGNS)] = .ok (.v (.str z)) E := by
  have hX := g_lenS (z := z) (by omega)
  have h1 : ¬ ((z.length : Int) < 0) := by omega
  have h2 : ¬ (gi_MOST_SIGNS < (z.length : Int)) := by unfold gi_MOST_SIGNS; omega
  simp [F_look_size, runF, f_look_size, hX, h1, h2]
theorem e_size5x {z : Str} (hz : z.length ≤ 16777216) (h : 5000 < z.length) : ∃ E, F_look_size [.val (.str z), .val (.int 0), .val (.int gi_MOST_SIGNS)] = .exc (xS (z.length : Nat)) E := by
  have hX := g_lenS hz
  have h1 : ¬ ((z.length : Int) < 0) := by omega
  have h2 : (gi_MOST_SIGNS < (z.length : Int)) := by unfold gi_MOST_SIGNS; omega
  simp [F_look_size, runF, f_look_size, hX, h1, h2, xS]
def rdV (cs : List Nat) : Except Exn D := match Tx.spec cs with
  | .error e => .error (xT e)
  | .ok (n, d) => mkV n d
theorem e_read {z : Str} (h : z.length ≤ 5000) (hq : ∀ c ∈ z.cps.toList, c < CP) : F_M_Ratio_read [.val (.str z)] = toR (rdV z.cps.toList) (ev F_M_Ratio_read [.val (.str z)]) := by
  refine of_ex ?_
  obtain ⟨E1, e1⟩ := e_size5 h
  have e2 := p_parts (z := z) (by omega) hq
  unfold rdV
  cases hs : Tx.spec z.cps.toList with
  | error e =>
    rw [hs] at e2
    simp [F_M_Ratio_read, runF, f_M_Ratio_read, ownsA, ndA, argS, backE, e1, e2, rpV, toR]
  | ok p =>
    obtain ⟨n, d⟩ := p
    rw [hs] at e2
    have e3 := fun E => mk_is n d E
    cases hv : mkV n d with
    | error x => rw [hv] at e3; simp [F_M_Ratio_read, runF, f_M_Ratio_read, ownsA, ndA, argS, backE, e1, e2, rpV, toR, e3, toD, hv]
    | ok x => rw [hv] at e3; simp [F_M_Ratio_read, runF, f_M_Ratio_read, ownsA, ndA, argS, backE, e1, e2, rpV, toR, e3, toD, hv]
theorem e_readx {z : Str} (hz : z.length ≤ 16777216) (h : 5000 < z.length) : ∃ E, F_M_Ratio_read [.val (.str z)] = .exc (xS (z.length : Nat)) E := by
  obtain ⟨E1, e1⟩ := e_size5x hz h
  simp [F_M_Ratio_read, runF, f_M_Ratio_read, ownsA, ndA, argS, backE, e1]
theorem tB_read {z : Str} {a2 : D} {r : Except Exn D} {E : J.Env} (e : F_M_Ratio_read [.val (.str z)] = toR r E) : toB (E7 (.val (.str "read")) (.val (.str z)) (.val a2) .no) = (match r with
    | .ok x => .nx (E7 (.val (.str "read")) (.val (.str z)) (.val a2) (.val x))
    | .error x => .exc x (E7 (.val (.str "read")) (.val (.str z)) (.val a2) .no)) := by
  cases r with
  | ok x => simp [toB, se_read, ownsA, ndA, argS, backE, e, toR]
  | error x => simp [toB, se_read, ownsA, ndA, argS, backE, e, toR]
theorem spec_low {cs : List Nat} {n d : Int} (h : Tx.spec cs = .ok (n, d)) : 0 < d ∧ g2 n d = 1 := by
  have one : ∀ m : Int, (0 : Int) < 1 ∧ g2 m 1 = 1 := fun m => ⟨by decide, by unfold g2; simp⟩
  have den : ∀ {b k v0 : Nat} {sg : Int} {r : List Nat}, (sg = 1 ∨ sg = -1) → Tx.rdDen b sg v0 k r = .ok (n, d) → 0 < d ∧ g2 n d = 1 := by
    intro b k v0 sg r hs h
    cases r with
    | nil => cases h
    | cons c3 r3 =>
      rw [Tx.rdDen_cons] at h
      split at h
      · split at h
        · cases h
        · split at h
          · rename_i lo
            have lo := of_decide_eq_true lo
            generalize Tx.vl (c3 - 48) _ = v1 at *
            injection h with h
            injection h with h1 h2
            subst h1 h2
            exact ⟨by omega, by rw [g2_abs' hs, lo.2]; rfl⟩
          · cases h
      · cases h
  have num : ∀ {b c : Nat} {sg : Int} {r : List Nat}, (sg = 1 ∨ sg = -1) → Tx.rdNum b sg c r = .ok (n, d) → 0 < d ∧ g2 n d = 1 := by
    intro b c sg r hs h
    unfold Tx.rdNum at h
    split at h
    · injection h with h
      injection h with h1 h2
      subst h1 h2
      exact one _
    · split at h
      · exact den hs h
      · cases h
  cases cs with
  | nil => cases h
  | cons c r =>
    rw [Tx.spec_cons] at h
    split at h
    · split at h
      · cases h
      · split at h
        · exact num (.inr rfl) h
        · cases h
    · split at h
      · split at h
        · injection h with h
          injection h with h1 h2
          subst h1 h2
          exact one _
        · cases h
      · split at h
        · exact num (.inl rfl) h
        · cases h
theorem mk_bd {n d : Int} (hd : 0 < d) (hg : g2 n d = 1) : (mkV n d = .error (xN n) ∧ bdV n d = nuD n) ∨ (mkV n d = .error (xN d) ∧ bdV n d = nuD d) ∨ (mkV n d = .ok (rt n d) ∧ bdV n d = raD n d) := by
  unfold mkV bdV
  have h : (n < -MAX ∨ MAX < n) ↔ MAX < (if n < 0 then -n else n) := by split <;> omega
  by_cases c1 : n < -MAX ∨ MAX < n
  · rw [if_pos c1, if_pos (h.mp c1)]; exact .inl ⟨rfl, rfl⟩
  · rw [if_neg c1, if_neg (fun z => c1 (h.mpr z))]
    by_cases c2 : MAX < d
    · rw [if_pos (.inr c2), if_pos c2]; exact .inr (.inl ⟨rfl, rfl⟩)
    · rw [if_neg (by omega), if_neg c2, (lo_low hg).1, (lo_low hg).2]; exact .inr (.inr ⟨rfl, rfl⟩)
theorem told_read {z : Str} (h : z.length ≤ 5000) (hq : ∀ c ∈ z.cps.toList, c < CP) : F_L_told [.val (.str "read"), .val (.str z), .val .non] = .ok (.v (rsD (Tx.spec z.cps.toList))) (ev F_L_told [.val (.str "read"), .val (.str z), .val .non]) := by
  refine of_ok ?_
  have e := e_read h hq
  unfold rdV at e
  cases hs : Tx.spec z.cps.toList with
  | error c =>
    rw [hs] at e
    exact told_x (cl_T c _ _ _ _) (tB_read (a2 := .non) (r := .error (xT c)) e)
  | ok p =>
    obtain ⟨n, d⟩ := p
    rw [hs] at e
    obtain ⟨hd, hg⟩ := spec_low hs
    have e : F_M_Ratio_read [.val (.str z)] = toR (mkV n d) (ev F_M_Ratio_read [.val (.str z)]) := e
    show ∃ E, _ = J.R.ok (RV.v (bdV n d)) E
    rcases mk_bd hd hg with ⟨h1, h2⟩ | ⟨h1, h2⟩ | ⟨h1, h2⟩
    · rw [h1] at e; rw [h2]; exact told_x (cl_N n _ _ _ _) (tB_read (a2 := .non) (r := .error (xN n)) e)
    · rw [h1] at e; rw [h2]; exact told_x (cl_N d _ _ _ _) (tB_read (a2 := .non) (r := .error (xN d)) e)
    · rw [h1] at e; rw [h2]; exact told_r (tB_read (a2 := .non) (r := .ok (rt n d)) e)
theorem told_readx {z : Str} (hz : z.length ≤ 16777216) (h : 5000 < z.length) : F_L_told [.val (.str "read"), .val (.str z), .val .non] = .ok (.v (szD (z.length : Nat))) (ev F_L_told [.val (.str "read"), .val (.str z), .val .non]) := by
  refine of_ok ?_
  obtain ⟨E, e⟩ := e_readx hz h
  exact told_x (cl_S _ _ _ _ _) (tB_read (a2 := .non) (r := .error (xS (z.length : Nat))) e)
end Lw

namespace Tx
open PySem.NumText
/-! ### the plain reading of digits, a stroke and digits -/
theorem dl_app : ∀ (r t : List Nat), AllDigits r → dl t = 0 → dl (r ++ t) = r.length
  | [], t, _, ht => ht
  | c :: r, t, h, ht => by
    rw [List.cons_append, dl_cons, if_pos (isD_iff.mpr h.head), dl_app r t h.tail ht, List.length_cons]
theorem rdNum_e {b c : Nat} {sg : Int} {r : List Nat} (h : AllDigits r) (hl : r.length ≤ 2000) : rdNum b sg c r = .ok (sg * ((digitsVal (c :: r) : Nat) : Int), 1) := by
  have e := dl_app r [] h rfl
  rw [List.append_nil] at e
  unfold rdNum
  rw [e, Nat.min_eq_right hl, List.drop_length, List.take_length, vl_dv]
theorem rdNum_s {b c : Nat} {sg : Int} {r r2 : List Nat} (h : AllDigits r) (hl : r.length ≤ 2000) : rdNum b sg c (r ++ 47 :: r2) = rdDen b sg (digitsVal (c :: r)) r.length r2 := by
  unfold rdNum
  rw [dl_app r (47 :: r2) h rfl, Nat.min_eq_right hl, List.drop_left, List.take_left, vl_dv]
  rfl
theorem rdDen_ok {b k v0 c : Nat} {sg : Int} {r : List Nat} (h : AllDigits (c :: r)) (hc : c ≠ 48) (hl : r.length ≤ 2000) (lo : 1 < digitsVal (c :: r) ∧ Nat.gcd v0 (digitsVal (c :: r)) = 1) : rdDen b sg v0 k (c :: r) = .ok (sg * v0, ((digitsVal (c :: r) : Nat) : Int)) := by
  have e := dl_app r [] h.tail rfl
  rw [List.append_nil] at e
  rw [rdDen_cons, if_pos ⟨isD_iff.mpr h.head, hc⟩, e, Nat.min_eq_right hl, List.drop_length, List.take_length, vl_dv]
  show (if low1 v0 (digitsVal (c :: r)) = true then _ else _) = _
  have e1 : low1 v0 (digitsVal (c :: r)) = true := decide_eq_true lo
  rw [if_pos e1]
theorem rdNum_long {b c k : Nat} {sg : Int} {r : List Nat} (h : 2000 ≤ dl r) {x : Nat} {y : List Nat} (hd : r.drop 2000 = x :: y) (hx : x ≠ 47) : rdNum b sg c r = .error (b + 2002) := by
  unfold rdNum
  rw [Nat.min_eq_left h, hd]
  show (if x = 47 then _ else _) = _
  rw [if_neg hx]
theorem rdDen_long {b k v0 c : Nat} {sg : Int} {r : List Nat} (hc : isD c = true ∧ c ≠ 48) (h : 2000 ≤ dl r) {x : Nat} {y : List Nat} (hd : r.drop 2000 = x :: y) : rdDen b sg v0 k (c :: r) = .error (b + k + 2004) := by
  rw [rdDen_cons, if_pos hc, Nat.min_eq_left h, hd]
theorem spec_neg {c : Nat} {r : List Nat} (hc : isD c = true ∧ c ≠ 48) : spec (45 :: c :: r) = rdNum 1 (-1) c r := by
  rw [spec_cons, if_pos rfl]
  show (if isD c = true ∧ c ≠ 48 then _ else _) = _
  rw [if_pos hc]
theorem spec_pos {c : Nat} {r : List Nat} (hc : isD c = true ∧ c ≠ 48) : spec (c :: r) = rdNum 0 1 c r := by
  have := isD_iff.mp hc.1
  rw [spec_cons, if_neg (by omega), if_neg hc.2, if_pos hc.1]
end Tx
namespace Lw
open PySem PySem.Spec PyProof.Rows L2 J PySem.NumText
open TL in
theorem numL_head : ∀ (n : Nat), 0 < n → ∃ c r, numL n = c :: r ∧ c ≠ 48 := fun n => by
  induction n using Nat.strongRecOn with
  | _ n ih =>
    intro hn
    by_cases h : n < 10
    · exact ⟨48 + n, [], numL_lt h, by omega⟩
    · obtain ⟨c, r, e, hc⟩ := ih (n / 10) (by omega) (by omega)
      exact ⟨c, r ++ [48 + n % 10], by rw [numL_step (by omega), e]; rfl, hc⟩
/-- the text of an int -/
def strI (n : Int) : Str := Str.ofString (toString n)
def sgnL (n : Int) : List Nat := if n < 0 then [45] else []
open TL in
theorem tl_strI (n : Int) : (strI n).cps.toList = sgnL n ++ numL n.natAbs := by
  cases n with
  | ofNat m =>
    have e : sgnL (Int.ofNat m) = [] := if_neg (by simp)
    rw [e]
    exact tl_num m
  | negSucc m =>
    have e : sgnL (Int.negSucc m) = [45] := if_pos (Int.negSucc_lt_zero m)
    rw [e]
    have h1 : toString (Int.negSucc m) = "-" ++ toString (m + 1) := rfl
    have h2 := tl_num (m + 1)
    show tl (Str.ofString (toString (Int.negSucc m))) = [45] ++ numL (m + 1)
    rw [← h2, tl_ofString, tl_ofString, h1, String.toList_append, List.map_append]
    rfl
def txtL (n d : Int) : List Nat := sgnL n ++ TL.numL n.natAbs ++ (if d = 1 then [] else 47 :: TL.numL d.natAbs)
open TL in
theorem spec_txt {n d : Int} (hd : 0 < d) (hg : g2 n d = 1) (hn : n.natAbs < 10 ^ 2001) (hd2 : d.natAbs < 10 ^ 2001) : Tx.spec (txtL n d) = .ok (n, d) := by
  by_cases h0 : n = 0
  · subst h0
    have : d = 1 := by
      unfold g2 at hg
      rw [Int.natAbs_zero, Nat.gcd_zero_left] at hg
      omega
    subst this
    rw [show txtL 0 1 = [48] by unfold txtL sgnL; rw [Int.natAbs_zero, numL_lt (by decide)]; rfl]
    rfl
  · obtain ⟨c, r, e, hc⟩ := numL_head n.natAbs (by omega)
    have ad := numL_digits n.natAbs
    have vv := numL_val n.natAbs
    have ln := numL_len (k := 2001) (by decide) hn
    rw [e] at ad vv ln
    rw [List.length_cons] at ln
    have hcd : Tx.isD c = true ∧ c ≠ 48 := ⟨Tx.isD_iff.mpr ad.head, hc⟩
    have key : ∀ (b : Nat) (sg : Int), sg * (n.natAbs : Int) = n → Tx.rdNum b sg c (r ++ (if d = 1 then [] else 47 :: numL d.natAbs)) = .ok (n, d) := by
      intro b sg hs
      by_cases h1 : d = 1
      · rw [if_pos h1, List.append_nil, Tx.rdNum_e ad.tail (by omega), vv, hs, h1]
      · rw [if_neg h1, Tx.rdNum_s ad.tail (by omega), vv]
        obtain ⟨c3, r3, e3, hc3⟩ := numL_head d.natAbs (by omega)
        have ad3 := numL_digits d.natAbs
        have vv3 := numL_val d.natAbs
        have ln3 := numL_len (k := 2001) (by decide) hd2
        rw [e3] at ad3 vv3 ln3
        rw [List.length_cons] at ln3
        rw [e3, Tx.rdDen_ok ad3 hc3 (by omega), vv3, hs]
        · rw [show ((d.natAbs : Nat) : Int) = d by omega]
        · rw [vv3]
          refine ⟨by omega, ?_⟩
          unfold g2 at hg
          omega
    unfold txtL sgnL
    by_cases hneg : n < 0
    · rw [if_pos hneg, e]
      show Tx.spec (45 :: c :: (r ++ _)) = _
      rw [Tx.spec_neg hcd]
      exact key 1 (-1) (by omega)
    · rw [if_neg hneg, e]
      show Tx.spec (c :: (r ++ _)) = _
      rw [Tx.spec_pos hcd]
      exact key 0 1 (by omega)
open TL in
theorem numL_cp (n : Nat) : ∀ c ∈ numL n, c < 128 := fun c hc => by
  have := numL_digits n c hc
  omega
theorem txtL_cp (n d : Int) : ∀ c ∈ txtL n d, c < 128 := fun c hc => by
  unfold txtL sgnL at hc
  rcases List.mem_append.mp hc with hc | hc
  · rcases List.mem_append.mp hc with hc | hc
    · split at hc
      · rw [List.mem_singleton.mp hc]; decide
      · cases hc
    · exact numL_cp _ c hc
  · split at hc
    · cases hc
    · rcases List.mem_cons.mp hc with rfl | hc
      · decide
      · exact numL_cp _ c hc
open TL in
theorem txtL_len {n d : Int} (hn : n.natAbs < 10 ^ 2001) (hd2 : d.natAbs < 10 ^ 2001) : (txtL n d).length ≤ 4004 := by
  have l1 := numL_len (k := 2001) (by decide) hn
  have l2 := numL_len (k := 2001) (by decide) hd2
  unfold txtL sgnL
  have : (if n < 0 then [45] else ([] : List Nat)).length ≤ 1 := by split <;> simp
  have : (if d = 1 then [] else 47 :: numL d.natAbs).length ≤ 2002 := by split <;> simp <;> omega
  rw [List.length_append, List.length_append]
  omega
/-- the text of a ratio -/
def txZ (n d : Int) : Str := ⟨(txtL n d).toArray⟩
theorem txZ_l (n d : Int) : (txZ n d).cps.toList = txtL n d := rfl
theorem g_strI {n : Int} (h : n.natAbs < 10 ^ 2001) : gStrI (.int n) = some (.str (strI n)) := by
  have : 10 ^ 2001 ≤ 10 ^ 4300 := Nat.pow_le_pow_right (by decide) (by decide)
  show (if _ then _ else _) = _
  rw [if_pos (by omega)]
  rfl
theorem g_addZ {x y : Str} (h : x.length + y.length ≤ 16777216) : gAdd (.str x) (.str y) = some (.str (x ++ y)) := by
  show (if _ then _ else _) = _
  rw [if_pos h]
theorem app_l (x y : Str) : (x ++ y).cps.toList = x.cps.toList ++ y.cps.toList := TL.tl_append x y
theorem len_app (x y : Str) : (x ++ y).length = x.length + y.length := by rw [← len_z, ← len_z, ← len_z, app_l, List.length_append]
open TL in
theorem len_strI {n : Int} (h : n.natAbs < 10 ^ 2001) : (strI n).length ≤ 2002 := by
  have l1 := numL_len (k := 2001) (by decide) h
  rw [← len_z, tl_strI, List.length_append]
  have : (sgnL n).length ≤ 1 := by unfold sgnL; split <;> simp
  omega
theorem tx_1 (n : Int) : strI n = txZ n 1 := str_ext (by rw [tl_strI, txZ_l]; unfold txtL; rw [if_pos rfl, List.append_nil])
theorem tx_d {n d : Int} (h1 : ¬ d = 1) (h : 0 < d) : (strI n ++ ch 47) ++ strI d = txZ n d := str_ext (by
  rw [app_l, app_l, tl_strI, tl_strI, txZ_l]
  unfold txtL
  rw [if_neg h1, show sgnL d = [] from if_neg (by omega)]
  simp [ch])
theorem e_text {n d : Int} (hd : 0 < d) (hn : n.natAbs < 10 ^ 2001) (hd2 : d.natAbs < 10 ^ 2001) : F_L_text [.val (.int n), .val (.int d)] = .ok (.v (.str (txZ n d))) (ev F_L_text [.val (.int n), .val (.int d)]) := by
  refine of_ok ?_
  have q1 := g_strI hn
  have q2 := g_strI hd2
  have l1 := len_strI hn
  have l2 := len_strI hd2
  have lc : (ch 47).length = 1 := rfl
  by_cases h1 : d = 1
  · subst h1
    rw [← tx_1 n]
    simp [F_L_text, runF, f_L_text, q1]
  · have a1 := g_addZ (x := strI n) (y := ch 47) (by omega)
    have a2 := g_addZ (x := strI n ++ ch 47) (y := strI d) (by rw [len_app]; omega)
    rw [tx_d h1 hd] at a2
    simp [F_L_text, runF, f_L_text, q1, q2, h1, s_sl, a1, a2]
@[simp] theorem u_fJS (r : Str → J.Env → J.R D) (E : J.Env) : fJS r E = r Str.empty E := rfl
@[simp] theorem u_fJN (a : Str) (E : J.Env) : fJN a E = .ok (.str a) E := rfl
@[simp] theorem u_fJC (f : J.Env → J.R D) (r : Str → J.Env → J.R D) (a : Str) (E : J.Env) : fJC f r a E = (f E).bind fun x E => match x with
  | .str y => if (a ++ y).length ≤ 16777216 then r (a ++ y) E else .stuck
  | _ => .stuck := rfl
@[simp] theorem g_fmtI (n : Int) : gFmt (.int n) = gStrI (.int n) := rfl
theorem emp_app (x : Str) : Str.empty ++ x = x := str_ext (by rw [app_l]; rfl)
theorem e_str {n d : Int} (hd : 0 < d) (hn : n.natAbs < 10 ^ 2001) (hd2 : d.natAbs < 10 ^ 2001) : F_M_Ratio_str [.val (rt n d)] = .ok (.v (.str (txZ n d))) (ev F_M_Ratio_str [.val (rt n d)]) := by
  refine of_ok ?_
  have q1 := g_strI hn
  have q2 := g_strI hd2
  have l1 := len_strI hn
  have l2 := len_strI hd2
  have lc : (ch 47).length = 1 := rfl
  by_cases h1 : d = 1
  · subst h1
    rw [← tx_1 n]
    simp [F_M_Ratio_str, runF, f_M_Ratio_str, q1]
  · have k1 : (strI n).length ≤ 16777216 := by omega
    have k2 : (strI n ++ ch 47).length ≤ 16777216 := by rw [len_app]; omega
    have k3 : (strI n ++ ch 47 ++ strI d).length ≤ 16777216 := by rw [len_app, len_app]; omega
    rw [← tx_d h1 hd]
    simp [F_M_Ratio_str, runF, f_M_Ratio_str, q1, q2, h1, s_sl, emp_app, k1, k2, k3]
end Lw

namespace Lw
open PySem PySem.Spec PyProof.Rows L2 J
/-- flat data in at most k levels, comparable -/
structure Fl (k : Nat) (d : D) : Prop where
  pl : plain d = true
  lay : (toPy d).canLay0 = true
  dep : (toPy d).depth ≤ k
structure Fls (k : Nat) (l : List D) : Prop where
  pl : plains l = true
  lay : PyData.canLayAll0 (toPys l) = true
  dep : PyData.depthAll (toPys l) ≤ k
theorem Fls.nil (k : Nat) : Fls k [] := ⟨rfl, rfl, Nat.zero_le _⟩
theorem Fls.cons {k : Nat} {d : D} {l : List D} (h : Fl k d) (hs : Fls k l) : Fls k (d :: l) := by
  refine ⟨?_, ?_, ?_⟩
  · simp [plains, h.pl, hs.pl]
  · simp [toPys, PyData.canLayAll0, h.lay, hs.lay]
  · have h1 := h.dep
    have h2 := hs.dep
    simp only [toPys, PyData.depthAll]
    omega
theorem Fl.int (k : Nat) (i : Int) : Fl k (.int i) := ⟨rfl, rfl, Nat.zero_le _⟩
theorem Fl.bl (k : Nat) (i : Bool) : Fl k (.bl i) := ⟨rfl, rfl, Nat.zero_le _⟩
theorem Fl.lst {k : Nat} {l : List D} (h : Fls k l) : Fl (k + 1) (.lst l) := ⟨by simpa [J.plain] using h.pl, by simpa [toPy, PyData.canLay0] using h.lay, by have := h.dep; simp [toPy, PyData.depth]; omega⟩
theorem Fl.tup {k : Nat} {l : List D} (h : Fls k l) : Fl (k + 1) (.tup l) := ⟨by simpa [J.plain] using h.pl, by simpa [toPy, PyData.canLay0] using h.lay, by have := h.dep; simp [toPy, PyData.depth]; omega⟩
theorem Fls.ints (k : Nat) : ∀ xs : List Int, Fls k (iD xs)
  | [] => Fls.nil k
  | x :: xs => Fls.cons (Fl.int k x) (Fls.ints k xs)
theorem Fl.ok {k : Nat} {d : D} (h : Fl k d) (hk : k ≤ 64) : okD d = true := by
  unfold okD SeqAt.shaped
  rw [h.pl, h.lay, decide_eq_true (by have := h.dep; omega)]; rfl
theorem eq_same {k : Nat} {d : D} (h : Fl k d) (hk : k ≤ 64) : gEq d d = some (.bl true) := by
  unfold gEq
  rw [h.ok hk, PySem.SeqAt.eqv_refl _ h.lay]; rfl
theorem ne_same {k : Nat} {d : D} (h : Fl k d) (hk : k ≤ 64) : gNe d d = some (.bl false) := by
  unfold gNe
  rw [h.ok hk, PySem.SeqAt.eqv_refl _ h.lay]; rfl
theorem Fl.str {x : Str} (k : Nat) (h : okD (.str x) = true) : Fl k (.str x) := by
  have h2 := (Bool.and_eq_true_iff.mp h).2
  exact ⟨rfl, SeqAt.canLay_of_shaped h2, Nat.zero_le _⟩

theorem Fl.num (n : Int) : Fl 1 (.tup [.str "number", .int n]) := Fl.tup (Fls.cons (Fl.str 0 (by decide +kernel)) (Fls.cons (Fl.int 0 n) (Fls.nil 0)))
theorem Fl.rat (n d : Int) : Fl 1 (.tup [.str "ratio", .int n, .int d]) := Fl.tup (Fls.cons (Fl.str 0 (by decide +kernel)) (Fls.cons (Fl.int 0 n) (Fls.cons (Fl.int 0 d) (Fls.nil 0))))
theorem Fl.txt (e : Nat) : Fl 1 (txD e) := Fl.tup (Fls.cons (Fl.str 0 (by decide +kernel)) (Fls.cons (Fl.int 0 1) (Fls.cons (Fl.int 0 _) (Fls.nil 0))))
theorem Fl.siz (e : Int) : Fl 1 (szD e) := Fl.tup (Fls.cons (Fl.str 0 (by decide +kernel)) (Fls.cons (Fl.int 0 _) (Fls.nil 0)))
theorem Fl.bdV (n d : Int) : Fl 1 (bdV n d) := by
  unfold Lw.bdV
  by_cases c1 : MAX < (if n < 0 then -n else n)
  · rw [if_pos c1]; exact Fl.num _
  · rw [if_neg c1]
    by_cases c2 : MAX < d
    · rw [if_pos c2]; exact Fl.num _
    · rw [if_neg c2]; exact Fl.rat _ _
theorem Fl.rsD (r : Except Nat (Int × Int)) : Fl 1 (rsD r) := by
  cases r with
  | error e => exact Fl.txt e
  | ok p => exact Fl.bdV p.1 p.2
theorem M_lt : MAX.natAbs < 10 ^ 2001 := by decide +kernel
theorem in_lt {n : Int} (h : inB n) : n.natAbs < 10 ^ 2001 := by have := M_lt; have := h.1; have := h.2; omega
/-- lowest terms, within bounds -/
structure Lo (n d : Int) : Prop where
  bn : inB n
  bd : 0 < d
  bm : d ≤ MAX
  bg : g2 n d = 1
theorem Lo.nl {n d : Int} (h : Lo n d) : n.natAbs < 10 ^ 2001 := in_lt h.bn
theorem Lo.dl {n d : Int} (h : Lo n d) : d.natAbs < 10 ^ 2001 := in_lt ⟨by have := h.bd; have := h.bm; omega, h.bm⟩
theorem Lo.mk' {n d : Int} (h : Lo n d) : mkV n d = .ok (rt n d) ∧ bdV n d = raD n d := by
  have := h.bn.1; have := h.bn.2; have := h.bd; have := h.bm
  rcases mk_bd h.bd h.bg with ⟨h1, h2⟩ | ⟨h1, h2⟩ | ⟨h1, h2⟩
  · unfold mkV at h1
    rw [if_neg (by omega), if_neg (by omega)] at h1
    cases h1
  · unfold mkV at h1
    rw [if_neg (by omega), if_neg (by omega)] at h1
    cases h1
  · exact ⟨h1, h2⟩
theorem tx_cp (n d : Int) : ∀ c ∈ (txZ n d).cps.toList, c < CP := fun c hc => by
  have := txtL_cp n d c hc
  unfold CP
  omega
theorem Lo.len {n d : Int} (h : Lo n d) : (txZ n d).length ≤ 4004 := by
  rw [← len_z, txZ_l]
  exact txtL_len h.nl h.dl
theorem Lo.read {n d : Int} (h : Lo n d) : F_L_told [.val (.str "read"), .val (.str (txZ n d)), .val .non] = .ok (.v (raD n d)) (ev F_L_told [.val (.str "read"), .val (.str (txZ n d)), .val .non]) := by
  have e := told_read (z := txZ n d) (by have := h.len; omega) (tx_cp n d)
  rw [txZ_l, spec_txt h.bd h.bg h.nl h.dl] at e
  rw [← h.mk'.2]
  exact e

def bw1 : J.Env → RS := (sSet 2 (fMake "Ratio" 3 F_M_Ratio_init [] (xV (fVar 0) (xV (fVar 1) xNil))))
def bw2 : J.Env → RS := (sSet 3 (fCallR 2 F_L_text (xV (fVar 0) (xV (fVar 1) xNil)) rvD))
def bw3 : J.Env → RS := (sSet 4 (fStr T_un_str (fVar 2)))
def bw4 : J.Env → RS := (sIf (fOr (fNot (fTru (fun1 (gIsi "str") (fVar 4)))) (fTest (fop gNe (fVar 4) (fVar 3)))) (sRet (fC (.bl false))) sNil)
def bw5 : J.Env → RS := (sIf (fTest (fop gNe (fCallR 3 F_L_told (xV (fC (.str "read")) (xV (fVar 3) (xV (fC .non) xNil))) rvD) (fTup (fCons (fC (.str "ratio")) (fCons (fVar 0) (fCons (fVar 1) fNil)))))) (sRet (fC (.bl false))) sNil)
def bw6 : J.Env → RS := (sRet (fAndV (fBin T_eq_eq gEq (fCallR 1 F_L_pair (xV (fVar 2) xNil) rvD) (fTup (fCons (fC (.str "ratio")) (fCons (fVar 0) (fCons (fVar 1) fNil))))) (fBin T_eq_eq gEq (fStr T_un_str (fVar 2)) (fVar 3))))
theorem bw_eq : f_L_both_ways = (sSeq bw1 (sSeq bw2 (sSeq bw3 (sSeq bw4 (sSeq bw5 bw6))))) := rfl
@[simp] theorem u_fStr (tbl : Str → Option DF) (fa : J.Env → J.R D) (E : J.Env) : fStr tbl fa E = ((fa E).bind fun x E => own1 tbl gStrI x E).bind J.stO := rfl
@[simp] theorem u_stO (x : Str) (E : J.Env) : J.stO (.str x) E = .ok (.str x) E := rfl
section
variable {n d : Int} (h : Lo n d)
include h
theorem b1 : bw1 [.val (.int n), .val (.int d), .no, .no, .no] = .nx [.val (.int n), .val (.int d), .val (rt n d), .no, .no] := by
  have e := fun E => mk_is n d E
  rw [h.mk'.1] at e
  simp [bw1, e, toD]
theorem b2 {s2 s3 s4 : Sl} : bw2 [.val (.int n), .val (.int d), s2, s3, s4] = .nx [.val (.int n), .val (.int d), s2, .val (.str (txZ n d)), s4] := by
  have e := e_text h.bd h.nl h.dl
  simp [bw2, e, ownsA, ndA, argS, backE]
theorem b3 {s3 s4 : Sl} : bw3 [.val (.int n), .val (.int d), .val (rt n d), s3, s4] = .nx [.val (.int n), .val (.int d), .val (rt n d), s3, .val (.str (txZ n d))] := by
  have e := e_str h.bd h.nl h.dl
  simp [bw3, ownsA, ndA, argS, backE, e]
theorem b4 {s2 : Sl} : bw4 [.val (.int n), .val (.int d), s2, .val (.str (txZ n d)), .val (.str (txZ n d))] = .nx [.val (.int n), .val (.int d), s2, .val (.str (txZ n d)), .val (.str (txZ n d))] := by
  have o := okS (tx_cp n d)
  have e := g_neZ o o
  rw [decide_eq_true rfl] at e
  have i : gIsi "str" (.str (txZ n d)) = some (.bl true) := rfl
  simp [bw4, e, i]
theorem b5 {s2 s4 : Sl} : bw5 [.val (.int n), .val (.int d), s2, .val (.str (txZ n d)), s4] = .nx [.val (.int n), .val (.int d), s2, .val (.str (txZ n d)), s4] := by
  have e := h.read
  have q := ne_same (Fl.rat n d) (by decide)
  simp [bw5, e, ownsA, ndA, argS, backE, raD, q]
theorem b6 {s4 : Sl} : ∃ E, bw6 [.val (.int n), .val (.int d), .val (rt n d), .val (.str (txZ n d)), s4] = .rt (.v (.bl true)) E := by
  have e := e_str h.bd h.nl h.dl
  have p := e_pair n d
  have q := eq_same (Fl.rat n d) (by decide)
  have o := okS (tx_cp n d)
  have g := g_eqZ o o
  rw [decide_eq_true rfl] at g
  simp [bw6, ownsA, ndA, argS, backE, p, q, e, g]
theorem p_both : ∃ E, F_L_both_ways [.val (.int n), .val (.int d)] = .ok (.v (.bl true)) E := by
  obtain ⟨E, e⟩ := b6 h (s4 := .val (.str (txZ n d)))
  refine ⟨E, runF_rt (E0 := [.val (.int n), .val (.int d), .no, .no, .no]) rfl ?_⟩
  rw [bw_eq]
  exact (seq_nx (b1 h)).trans ((seq_nx (b2 h)).trans ((seq_nx (b3 h)).trans ((seq_nx (b4 h)).trans ((seq_nx (b5 h)).trans e))))
end
end Lw

namespace Lw
open PySem PySem.Spec PyProof.Rows L2 J
/-! ### the numbers -/
theorem tab_ix {k : Int} (h : 0 ≤ k ∧ k < 12) : ∃ c : Nat, gIx (.lst [.int 1, .int 2, .int 6, .int 1, .int 3, .int 2, .int 1, .int 40, .int 12, .int 2, .int 2, .int 2]) (.int k) = some (.int (c : Nat)) ∧ c ≤ 40 ∧ (9 ≤ k → c = 2) := by
  have : k = 0 ∨ k = 1 ∨ k = 2 ∨ k = 3 ∨ k = 4 ∨ k = 5 ∨ k = 6 ∨ k = 7 ∨ k = 8 ∨ k = 9 ∨ k = 10 ∨ k = 11 := by omega
  rcases this with rfl | rfl | rfl | rfl | rfl | rfl | rfl | rfl | rfl | rfl | rfl | rfl
  · exact ⟨1, rfl, by decide, by decide⟩
  · exact ⟨2, rfl, by decide, by decide⟩
  · exact ⟨6, rfl, by decide, by decide⟩
  · exact ⟨1, rfl, by decide, by decide⟩
  · exact ⟨3, rfl, by decide, by decide⟩
  · exact ⟨2, rfl, by decide, by decide⟩
  · exact ⟨1, rfl, by decide, by decide⟩
  · exact ⟨40, rfl, by decide, by decide⟩
  · exact ⟨12, rfl, by decide, by decide⟩
  · exact ⟨2, rfl, by decide, by decide⟩
  · exact ⟨2, rfl, by decide, by decide⟩
  · exact ⟨2, rfl, by decide, by decide⟩
theorem p12 : (12 : Nat) ^ 40 < 2 ^ 200 := by decide +kernel
theorem p12M : ((12 ^ 40 : Nat) : Int) < M20 := by decide +kernel
theorem M20_2 : M20 + 1000 < MAX := by decide +kernel
theorem pow_mono {i c : Nat} (h : i ≤ c) : 12 ^ i ≤ 12 ^ c := Nat.pow_le_pow_right (by decide) h
def NumOk (r : RS) : Prop := ∃ x ds' E', r = .rt (.v (.int x)) (.own true (iD ds') :: E') ∧ 0 ≤ x ∧ x ≤ MAX
theorem num_aux (ds : List Int) (salt : Int) {kd : Int} (hk : dig ds 12 salt = kd) (h0 : 0 ≤ kd ∧ kd < 12) : NumOk ((sSeq (sSet 2 (fCallR 3 F_L_take (xO 0 (xV (fC (.int 12)) (xV (fVar 1) xNil))) rvD)) (sSeq (sSet 3 (fC (.int 0))) (sSeq (sFor (fRng1 (fop gIx (fPub (fLst (fCons (fC (.int 1)) (fCons (fC (.int 2)) (fCons (fC (.int 6)) (fCons (fC (.int 1)) (fCons (fC (.int 3)) (fCons (fC (.int 2)) (fCons (fC (.int 1)) (fCons (fC (.int 40)) (fCons (fC (.int 12)) (fCons (fC (.int 2)) (fCons (fC (.int 2)) (fCons (fC (.int 2)) fNil)))))))))))))) (fVar 2))) (gNm 4) (sSet 3 (fop gAdd (fop gMulT (fVar 3) (fC (.int 12))) (fCallR 3 F_L_take (xO 0 (xV (fC (.int 12)) (xV (fop gAdd (fVar 1) (fop gMulT (fC (.int 5)) (fVar 4))) xNil))) rvD)))) (sSeq (sIf (fTest (fop gEq (fVar 2) (fC (.int 9)))) (sRet (fop gSub (fop gPowP (fop gPowP (fC (.int 10)) (fC (.int 50))) (fC (.int 40))) (fVar 3))) sNil) (sSeq (sIf (fTest (fop gEq (fVar 2) (fC (.int 10)))) (sRet (fop gAdd (fop gPowP (fop gPowP (fC (.int 10)) (fC (.int 50))) (fC (.int 20))) (fVar 3))) sNil) (sSeq (sIf (fTest (fop gEq (fVar 2) (fC (.int 11)))) (sRet (fop gSub (fop gPowP (fop gPowP (fC (.int 10)) (fC (.int 50))) (fC (.int 20))) (fVar 3))) sNil) (sRet (fVar 3)))))))) [.own true (iD ds), .val (.int salt), .no, .no, .no]) := by
  obtain ⟨c, hc, hc40, hc2⟩ := tab_ix h0
  have hsm : smI (c : Nat) = true := smI_small (by omega)
  simp [ownsA, ndA, argS, backE, hk, hc, hsm]
  generalize hF : forD _ _ _ _ = r
  obtain ⟨E', rfl, ds', v, s, hv0, hv1, rfl⟩ := use_for hF (fun i E => ∃ (ds : List Int) (v : Int) (s : Sl), 0 ≤ v ∧ v < ((12 ^ i : Nat) : Int) ∧ E = [.own true (iD ds), .val (.int salt), .val (.int kd), .val (.int v), s]) ⟨_, 0, .no, by decide, by decide, rfl⟩ (by
    rintro i hi E ⟨ds, v, s, hv0, hv1, rfl⟩
    have hi : i < c := by simpa using hi
    have v1 := dig_nn ds (m := 12) (salt + 5 * (i : Nat)) (by decide)
    have v2 := dig_lt ds (m := 12) (salt + 5 * (i : Nat)) (by decide)
    have hp := p12
    have hp2 := pow_mono (show i ≤ 40 by omega)
    have m1 := g_mul v 12 (by omega) (by decide)
    have m2 := g_mul 5 (i : Nat) (by decide) (by omega)
    have hs : ((12 ^ (i + 1) : Nat) : Int) = ((12 ^ i : Nat) : Int) * 12 := by rw [Nat.pow_succ]; omega
    refine ⟨[.own true (iD ds.dropLast), .val (.int salt), .val (.int kd), .val (.int (v * 12 + dig ds 12 (salt + 5 * (i : Nat)))), .val (.int (i : Nat))], ?_, ds.dropLast, _, _, ?_, ?_, rfl⟩
    · simp [stF, m1, m2, ownsA, ndA, argS, backE]
    · omega
    · omega)
  rw [len_upD] at hv1
  have a1 := p12M
  have a2 := M20_2
  have a3 := M20_pos
  have a4 := pow_mono (show c ≤ 40 by omega)
  have a5 : ((12 ^ c : Nat) : Int) ≤ ((12 ^ 40 : Nat) : Int) := Int.ofNat_le.mpr a4
  have a6 : v < M20 := Int.lt_trans (Int.lt_of_lt_of_le hv1 a5) a1
  by_cases k9 : kd = 9
  · have : c = 2 := hc2 (by omega)
    subst this
    have : v < 144 := hv1
    simp [k9, pow50, pow40]
    exact ⟨MAX - v, ds', _, rfl, by omega, by omega⟩
  · by_cases k10 : kd = 10
    · have : c = 2 := hc2 (by omega)
      subst this
      have : v < 144 := hv1
      simp [k10, pow50, pow20]
      exact ⟨M20 + v, ds', _, rfl, by omega, by omega⟩
    · by_cases k11 : kd = 11
      · have : c = 2 := hc2 (by omega)
        subst this
        have : v < 144 := hv1
        simp [k11, pow50, pow20]
        exact ⟨M20 - v, ds', _, rfl, by omega, by omega⟩
      · simp [k9, k10, k11]
        exact ⟨v, ds', _, rfl, hv0, by omega⟩
theorem e_number (ds : List Int) (salt : Int) : ∃ x ds' E', F_L_number [.own true (iD ds), .val (.int salt)] = .ok (.v (.int x)) (.own true (iD ds') :: E') ∧ 0 ≤ x ∧ x ≤ MAX := by
  obtain ⟨x, ds', E', e, h⟩ := num_aux ds salt rfl ⟨dig_nn ds salt (by decide), dig_lt ds salt (by decide)⟩
  exact ⟨x, ds', E', runF_rt (n := 5) (f := f_L_number) rfl e, h⟩
theorem sg_ix {k : Int} (h : 0 ≤ k ∧ k < 2) : ∃ c : Int, gIx (.lst [.int 1, .int (-1)]) (.int k) = some (.int c) ∧ (c = 1 ∨ c = -1) := by
  have : k = 0 ∨ k = 1 := by omega
  rcases this with rfl | rfl
  · exact ⟨1, rfl, .inl rfl⟩
  · exact ⟨-1, rfl, .inr rfl⟩
def LawOk (r : RS) : Prop := ∃ E', r = .rt (.v (.bl true)) E'
theorem ex_max {y : Int} (h : 0 ≤ y ∧ y ≤ MAX) : ∃ D, gMax2 (.int 1) (.int y) = some (.int D) ∧ (0 < D ∧ D ≤ MAX) := by
  have := MAX_pos
  refine ⟨if y > 1 then y else 1, rfl, ?_⟩
  split <;> omega

/-! ### a drawn sign -/
theorem str_ix {z : Str} {L : Nat} (hL : z.length = L) (hl : L ≤ 1000) (hc : ∀ c ∈ z.cps.toList, c < CP) {i : Int} (h0 : 0 ≤ i) (h1 : i < L) : ∃ c, gIx (.str z) (.int i) = some (.str (ch c)) ∧ c < CP := by
  have hi : i.toNat < z.cps.toList.length := by rw [len_z]; omega
  have e := g_ixS (z := z) (by omega) (i := i.toNat) (c := z.cps.toList[i.toNat]) (List.getElem?_eq_getElem hi)
  rw [Int.toNat_of_nonneg h0] at e
  exact ⟨_, e, hc _ (List.getElem_mem hi)⟩
theorem all_cp {z : Str} (h : z.cps.toList.all (fun c => decide (c < CP)) = true) : ∀ c ∈ z.cps.toList, c < CP := fun c hc => of_decide_eq_true (List.all_eq_true.mp h c hc)
def zA : Str := " !\"#$&'()*+,-./0123456789:;<=>?@ABCDEFGHIJKLMNOPQRSTUVWXYZ[\\]^_`"
def zB : Str := "abcdefghijklmnopqrstuvwxyz{|}~"
theorem zAB_len : (zA ++ zB).length = 94 := by decide +kernel
theorem zAB_cp : ∀ c ∈ (zA ++ zB).cps.toList, c < CP := all_cp (by decide +kernel)
theorem z1_len : ("0123456789/-" : Str).length = 12 := by decide +kernel
theorem z1_cp : ∀ c ∈ ("0123456789/-" : Str).cps.toList, c < CP := all_cp (by decide +kernel)
theorem zAB : gAdd (.str " !\"#$&'()*+,-./0123456789:;<=>?@ABCDEFGHIJKLMNOPQRSTUVWXYZ[\\]^_`") (.str "abcdefghijklmnopqrstuvwxyz{|}~") = some (.str (zA ++ zB)) := g_addZ (by decide +kernel)
def ChOk (r : RS) : Prop := ∃ c ds' E', r = .rt (.v (.str (ch c))) (.own true (iD ds') :: E') ∧ c < CP
theorem ch_tail (ds : List Int) (salt : Int) : ChOk ((sSeq (sSet 2 (fop gMulT (fCallR 3 F_L_take (xO 0 (xV (fC (.int 12)) (xV (fVar 1) xNil))) rvD) (fC (.int 12)))) (sSeq (sSet 2 (fop gAdd (fVar 2) (fCallR 3 F_L_take (xO 0 (xV (fC (.int 12)) (xV (fVar 1) xNil))) rvD))) (sSeq (sSet 3 (fC (.str " !\"#$&'()*+,-./0123456789:;<=>?@ABCDEFGHIJKLMNOPQRSTUVWXYZ[\\]^_`"))) (sSeq (sSet 3 (fop gAdd (fVar 3) (fC (.str "abcdefghijklmnopqrstuvwxyz{|}~")))) (sRet (fop gIx (fVar 3) (fop gMod (fun1 gIntF (fVar 2)) (fC (.int 94))))))))) [.own true (iD ds), .val (.int salt), .no, .no]) := by
  have v1 := dig_nn ds (m := 12) salt (by decide)
  have v2 := dig_lt ds (m := 12) salt (by decide)
  have m1 := g_mul (dig ds 12 salt) 12 (by omega) (by decide)
  generalize hx : dig ds 12 salt * 12 + dig ds.dropLast 12 salt = x
  obtain ⟨c, hc, hcp⟩ := str_ix zAB_len (by decide) zAB_cp (Int.emod_nonneg x (show (94 : Int) ≠ 0 by decide)) (Int.emod_lt_of_pos x (show (0 : Int) < 94 by decide))
  have gm := g_mod x 94 (by decide)
  have z := zAB
  simp [ownsA, ndA, argS, backE, m1, hx, z, gm, hc]
  exact ⟨c, ds.dropLast.dropLast, _, rfl, hcp⟩
theorem ch_eq : f_L_character = sSeq (sIf (fTest (fop gEq (fCallR 3 F_L_take (xO 0 (xV (fC (.int 2)) (xV (fVar 1) xNil))) rvD) (fC (.int 0)))) (sRet (fop gIx (fC (.str "0123456789/-")) (fCallR 3 F_L_take (xO 0 (xV (fC (.int 12)) (xV (fVar 1) xNil))) rvD))) sNil) (sSeq (sSet 2 (fop gMulT (fCallR 3 F_L_take (xO 0 (xV (fC (.int 12)) (xV (fVar 1) xNil))) rvD) (fC (.int 12)))) (sSeq (sSet 2 (fop gAdd (fVar 2) (fCallR 3 F_L_take (xO 0 (xV (fC (.int 12)) (xV (fVar 1) xNil))) rvD))) (sSeq (sSet 3 (fC (.str " !\"#$&'()*+,-./0123456789:;<=>?@ABCDEFGHIJKLMNOPQRSTUVWXYZ[\\]^_`"))) (sSeq (sSet 3 (fop gAdd (fVar 3) (fC (.str "abcdefghijklmnopqrstuvwxyz{|}~")))) (sRet (fop gIx (fVar 3) (fop gMod (fun1 gIntF (fVar 2)) (fC (.int 94))))))))) := rfl
theorem ch_head (ds : List Int) (salt : Int) (Q : J.Env → RS) (hQ : ∀ ds, ChOk (Q [.own true (iD ds), .val (.int salt), .no, .no])) : ChOk (sSeq (sIf (fTest (fop gEq (fCallR 3 F_L_take (xO 0 (xV (fC (.int 2)) (xV (fVar 1) xNil))) rvD) (fC (.int 0)))) (sRet (fop gIx (fC (.str "0123456789/-")) (fCallR 3 F_L_take (xO 0 (xV (fC (.int 12)) (xV (fVar 1) xNil))) rvD))) sNil) Q [.own true (iD ds), .val (.int salt), .no, .no]) := by
  have v1 := dig_nn ds.dropLast (m := 12) salt (by decide)
  have v2 := dig_lt ds.dropLast (m := 12) salt (by decide)
  obtain ⟨c, hc, hcp⟩ := str_ix z1_len (by decide) z1_cp v1 v2
  by_cases h : dig ds 2 salt = 0
  · simp [ownsA, ndA, argS, backE, h, hc]
    exact ⟨c, ds.dropLast.dropLast, _, rfl, hcp⟩
  · simp [ownsA, ndA, argS, backE, h]
    exact hQ _
theorem e_char (ds : List Int) (salt : Int) : ∃ c ds' E', F_L_character [.own true (iD ds), .val (.int salt)] = .ok (.v (.str (ch c))) (.own true (iD ds') :: E') ∧ c < CP := by
  obtain ⟨c, ds', E', e, h⟩ := ch_head ds salt _ (fun ds => ch_tail ds salt)
  rw [← ch_eq] at e
  exact ⟨c, ds', E', runF_rt rfl e, h⟩
/-! ### a spoilt text -/
theorem sIx_le (n d : Nat) (hd : d ≤ n) (a : Nat) : True := trivial
theorem cut_lo {z : Str} (hz : z.length ≤ 16777216) (a : Nat) : ∃ y : Str, gCut (.str z) none (some (a : Nat)) = some (.str y) ∧ y.length = min a z.length ∧ ∀ c ∈ y.cps.toList, c ∈ z.cps.toList := by
  refine ⟨cutS z none (some (a : Nat)), ?_, ?_, ?_⟩
  · show (if _ then _ else _) = _
    rw [if_pos hz]
  · rw [← len_z]
    unfold cutS
    rw [HT.sIx_nat, show HT.sIx z.length 0 none = 0 from rfl]
    show (List.take (min a z.length - 0) (List.drop 0 z.cps.toList)).length = _
    rw [List.length_take, List.length_drop, len_z]
    omega
  · intro c hc
    unfold cutS at hc
    exact List.mem_of_mem_drop (List.mem_of_mem_take (show c ∈ List.take _ (List.drop _ _) from hc))
theorem cut_hi {z : Str} (hz : z.length ≤ 16777216) (a : Nat) : ∃ y : Str, gCut (.str z) (some (a : Nat)) none = some (.str y) ∧ y.length = z.length - min a z.length ∧ ∀ c ∈ y.cps.toList, c ∈ z.cps.toList := by
  refine ⟨cutS z (some (a : Nat)) none, ?_, ?_, ?_⟩
  · show (if _ then _ else _) = _
    rw [if_pos hz]
  · rw [← len_z]
    unfold cutS
    rw [HT.sIx_nat, show HT.sIx z.length z.length none = z.length from rfl]
    show (List.take (z.length - min a z.length) (List.drop (min a z.length) z.cps.toList)).length = _
    rw [List.length_take, List.length_drop, len_z]
    omega
  · intro c hc
    unfold cutS at hc
    exact List.mem_of_mem_drop (List.mem_of_mem_take (show c ∈ List.take _ (List.drop _ _) from hc))

def sp1 : J.Env → RS := (sSet 3 (fCallR 3 F_L_take (xO 0 (xV (fC (.int 4)) (xV (fVar 2) xNil))) rvD))
def sp2 : J.Env → RS := (sSet 4 (fCallR 3 F_L_take (xO 0 (xV (fC (.int 12)) (xV (fop gAdd (fVar 2) (fC (.int 1))) xNil))) rvD))
def sp3 : J.Env → RS := (sIf (fTest (fop gLt (fun1 gLen (fVar 1)) (fC (.int 12)))) (sSet 4 (fop gMod (fun1 gIntF (fVar 4)) (fop gAdd (fun1 gLen (fVar 1)) (fC (.int 1))))) (sSet 4 (fop gMax2 (fC (.int 0)) (fop gSub (fop gDivP (fop gMulT (fun1 gLen (fVar 1)) (fVar 4)) (fC (.int 11))) (fCallR 3 F_L_take (xO 0 (xV (fC (.int 4)) (xV (fVar 2) xNil))) rvD)))))
def sp4 : J.Env → RS := (sSet 5 (fCallR 2 F_L_character (xO 0 (xV (fVar 2) xNil)) rvD))
def sr0 : J.Env → RS := (sIf (fTest (fop gEq (fVar 3) (fC (.int 0)))) (sRet (fop gAdd (fop gAdd (fCut (fVar 1) (fun _ => some none) (fun E => intP ((getV 4) E))) (fVar 5)) (fCut (fVar 1) (fun E => intP ((getV 4) E)) (fun _ => some none)))) sNil)
def sr1 : J.Env → RS := (sIf (fTest (fop gEq (fVar 3) (fC (.int 1)))) (sRet (fop gAdd (fop gAdd (fCut (fVar 1) (fun _ => some none) (fun E => intP ((getV 4) E))) (fVar 5)) (fCut (fVar 1) (fun E => intP ((fun E => ((getV 4) E).bind fun x => ((fun _ => some (.int 1)) E).bind fun y => gAdd x y) E)) (fun _ => some none)))) sNil)
def sr2 : J.Env → RS := (sIf (fTest (fop gEq (fVar 3) (fC (.int 2)))) (sRet (fop gAdd (fCut (fVar 1) (fun _ => some none) (fun E => intP ((getV 4) E))) (fCut (fVar 1) (fun E => intP ((fun E => ((getV 4) E).bind fun x => ((fun _ => some (.int 1)) E).bind fun y => gAdd x y) E)) (fun _ => some none)))) sNil)
def sr3 : J.Env → RS := (sRet (fCut (fVar 1) (fun _ => some none) (fun E => intP ((getV 4) E))))
theorem sp_eq : f_L_spoilt = sSeq sp1 (sSeq sp2 (sSeq sp3 (sSeq sp4 (sSeq sr0 (sSeq sr1 (sSeq sr2 sr3)))))) := rfl
abbrev ES (ds : List Int) (z : Str) (salt : Int) (s3 s4 s5 : Sl) : J.Env := [.own true (iD ds), .val (.str z), .val (.int salt), s3, s4, s5]
section
variable {z : Str} {salt : Int} {ds : List Int} {s3 s4 s5 : Sl}
theorem v1 : sp1 (ES ds z salt .no .no .no) = .nx (ES ds.dropLast z salt (.val (.int (dig ds 4 salt))) .no .no) := by
  simp [sp1, ownsA, ndA, argS, backE]
theorem v2 : sp2 (ES ds z salt s3 .no .no) = .nx (ES ds.dropLast z salt s3 (.val (.int (dig ds 12 (salt + 1)))) .no) := by
  simp [sp2, ownsA, ndA, argS, backE]
theorem v3 (hz : z.length ≤ 10000) {x : Int} (h0 : 0 ≤ x) (h1 : x < 12) : ∃ (a : Nat) (ds' : List Int), sp3 (ES ds z salt s3 (.val (.int x)) .no) = .nx (ES ds' z salt s3 (.val (.int (a : Nat))) .no) := by
  have l := g_lenS (z := z) (by omega)
  by_cases h : z.length < 12
  · have gm := g_mod x ((z.length : Nat) + 1) (by omega)
    have nn := Int.emod_nonneg x (show ((z.length : Nat) : Int) + 1 ≠ 0 by omega)
    generalize x % ((z.length : Nat) + 1) = y at *
    refine ⟨y.toNat, ds, ?_⟩
    rw [show ((y.toNat : Nat) : Int) = y by omega]
    simp [sp3, l, h, gm]
    intro q
    omega
  · have m := g_mul (z.length : Nat) x (by omega) (by omega)
    have dv := g_divP ((z.length : Nat) * x) 11 (by decide) (PyProof.noPylong_small (by decide))
    generalize hw : ((z.length : Nat) : Int) * x / 11 = w at dv
    generalize hy : w - dig ds 4 salt = y
    have gx : gMax2 (.int 0) (.int y) = some (.int ((y.toNat : Nat) : Int)) := by
      show some (D.int (if y > 0 then y else 0)) = _
      congr 2
      split <;> omega
    refine ⟨y.toNat, ds.dropLast, ?_⟩
    simp [sp3, l, h, m, dv, hw, hy, gx, ownsA, ndA, argS, backE]
    intro q
    omega
theorem v4 : ∃ (c : Nat) (ds' : List Int), sp4 (ES ds z salt s3 s4 .no) = .nx (ES ds' z salt s3 s4 (.val (.str (ch c)))) ∧ c < CP := by
  obtain ⟨c, ds', E', e, h⟩ := e_char ds salt
  refine ⟨c, ds', ?_, h⟩
  simp [sp4, ownsA, ndA, argS, backE, e]
def SpOk (n : Nat) (r : RS) : Prop := ∃ z' ds' E', r = .rt (.v (.str z')) (.own true (iD ds') :: E') ∧ z'.length ≤ n ∧ ∀ c ∈ z'.cps.toList, c < CP
theorem app_cp {x y : Str} (hx : ∀ c ∈ x.cps.toList, c < CP) (hy : ∀ c ∈ y.cps.toList, c < CP) : ∀ c ∈ (x ++ y).cps.toList, c < CP := fun c hc => by
  rw [app_l] at hc
  rcases List.mem_append.mp hc with h | h
  · exact hx c h
  · exact hy c h
theorem v5 (hz : z.length ≤ 10000) (hq : ∀ c ∈ z.cps.toList, c < CP) {a c : Nat} {k : Int} (hc : c < CP) : SpOk (z.length + 1) (sSeq sr0 (sSeq sr1 (sSeq sr2 sr3)) (ES ds z salt (.val (.int k)) (.val (.int (a : Nat))) (.val (.str (ch c))))) := by
  obtain ⟨y1, c1, l1, q1⟩ := cut_lo (z := z) (by omega) a
  obtain ⟨y2, c2, l2, q2⟩ := cut_hi (z := z) (by omega) a
  obtain ⟨y3, c3, l3, q3⟩ := cut_hi (z := z) (by omega) (a + 1)
  have cc : ∀ d ∈ (ch c).cps.toList, d < CP := fun d hd => by
    have : d = c := by simpa [ch] using hd
    rw [this]; exact hc
  have k1 : ∀ d ∈ y1.cps.toList, d < CP := fun d hd => hq d (q1 d hd)
  have k2 : ∀ d ∈ y2.cps.toList, d < CP := fun d hd => hq d (q2 d hd)
  have k3 : ∀ d ∈ y3.cps.toList, d < CP := fun d hd => hq d (q3 d hd)
  have lc : (ch c).length = 1 := rfl
  have a1 := g_addZ (x := y1) (y := ch c) (by omega)
  have a2 := g_addZ (x := y1 ++ ch c) (y := y2) (by rw [len_app]; omega)
  have a3 := g_addZ (x := y1 ++ ch c) (y := y3) (by rw [len_app]; omega)
  have a4 := g_addZ (x := y1) (y := y3) (by omega)
  have ci : ((a + 1 : Nat) : Int) = (a : Int) + 1 := by omega
  rw [ci] at c3
  by_cases h0 : k = 0
  · have e : sr0 (ES ds z salt (.val (.int k)) (.val (.int (a : Nat))) (.val (.str (ch c)))) = .rt (.v (.str (y1 ++ ch c ++ y2))) (ES ds z salt (.val (.int k)) (.val (.int (a : Nat))) (.val (.str (ch c)))) := by
      simp [sr0, h0, c1, c2, a1, a2, intP]
    exact ⟨_, ds, _, seq_rt e, by rw [len_app, len_app]; omega, app_cp (app_cp k1 cc) k2⟩
  · have e0 : sr0 (ES ds z salt (.val (.int k)) (.val (.int (a : Nat))) (.val (.str (ch c)))) = .nx (ES ds z salt (.val (.int k)) (.val (.int (a : Nat))) (.val (.str (ch c)))) := by
      simp [sr0, h0]
    rw [seq_nx e0]
    by_cases h1 : k = 1
    · have e : sr1 (ES ds z salt (.val (.int k)) (.val (.int (a : Nat))) (.val (.str (ch c)))) = .rt (.v (.str (y1 ++ ch c ++ y3))) (ES ds z salt (.val (.int k)) (.val (.int (a : Nat))) (.val (.str (ch c)))) := by
        simp [sr1, h1, c1, c3, a1, a3, intP]
      exact ⟨_, ds, _, seq_rt e, by rw [len_app, len_app]; omega, app_cp (app_cp k1 cc) k3⟩
    · have e1 : sr1 (ES ds z salt (.val (.int k)) (.val (.int (a : Nat))) (.val (.str (ch c)))) = .nx (ES ds z salt (.val (.int k)) (.val (.int (a : Nat))) (.val (.str (ch c)))) := by
        simp [sr1, h1]
      rw [seq_nx e1]
      by_cases h2 : k = 2
      · have e : sr2 (ES ds z salt (.val (.int k)) (.val (.int (a : Nat))) (.val (.str (ch c)))) = .rt (.v (.str (y1 ++ y3))) (ES ds z salt (.val (.int k)) (.val (.int (a : Nat))) (.val (.str (ch c)))) := by
          simp [sr2, h2, c1, c3, a4, intP]
        exact ⟨_, ds, _, seq_rt e, by rw [len_app]; omega, app_cp k1 k3⟩
      · have e2 : sr2 (ES ds z salt (.val (.int k)) (.val (.int (a : Nat))) (.val (.str (ch c)))) = .nx (ES ds z salt (.val (.int k)) (.val (.int (a : Nat))) (.val (.str (ch c)))) := by
          simp [sr2, h2]
        rw [seq_nx e2]
        have e : sr3 (ES ds z salt (.val (.int k)) (.val (.int (a : Nat))) (.val (.str (ch c)))) = .rt (.v (.str y1)) (ES ds z salt (.val (.int k)) (.val (.int (a : Nat))) (.val (.str (ch c)))) := by
          simp [sr3, c1, intP]
        exact ⟨_, ds, _, e, by omega, k1⟩
end
theorem e_spoilt {z : Str} (salt : Int) (ds : List Int) (hz : z.length ≤ 10000) (hq : ∀ c ∈ z.cps.toList, c < CP) : ∃ z' ds' E', F_L_spoilt [.own true (iD ds), .val (.str z), .val (.int salt)] = .ok (.v (.str z')) (.own true (iD ds') :: E') ∧ z'.length ≤ z.length + 1 ∧ ∀ c ∈ z'.cps.toList, c < CP := by
  obtain ⟨a, ds1, e3⟩ := v3 (z := z) (salt := salt) (ds := ds.dropLast.dropLast) (s3 := .val (.int (dig ds 4 salt))) hz (dig_nn ds.dropLast (m := 12) (salt + 1) (by decide)) (dig_lt ds.dropLast (m := 12) (salt + 1) (by decide))
  obtain ⟨c, ds2, e4, hc⟩ := v4 (z := z) (salt := salt) (ds := ds1) (s3 := .val (.int (dig ds 4 salt))) (s4 := .val (.int (a : Nat)))
  obtain ⟨z', ds', E', e5, h1, h2⟩ := v5 (ds := ds2) (salt := salt) (k := dig ds 4 salt) (a := a) hz hq hc
  refine ⟨z', ds', E', runF_rt (n := 6) (f := f_L_spoilt) (E0 := ES ds z salt .no .no .no) rfl ?_, h1, h2⟩
  rw [sp_eq]
  exact (seq_nx v1).trans ((seq_nx v2).trans ((seq_nx e3).trans ((seq_nx e4).trans e5)))
/-! ### lowest terms -/
theorem e_lowest {n d : Int} (hn : inB n) (hd : 0 < d ∧ d ≤ MAX) : F_L_lowest [.val (.int n), .val (.int d)] = .ok (.v (.tup [.int (loN n d), .int (loD n d)])) (ev F_L_lowest [.val (.int n), .val (.int d)]) := by
  refine of_ok ?_
  have c := e_common (a := if n < 0 then -n else n) (b := d) (by split <;> omega) (by omega)
  rw [g2_abs] at c
  have b1 := g_divB n (g2 n d) (g2_pos hd.1) (inB_big hn)
  have b2 := g_divB d (g2 n d) (g2_pos hd.1) (inB_big (inB_d hd))
  simp [F_L_lowest, runF, f_L_lowest, ownsA, ndA, argS, backE, c, b1, b2]
  exact ⟨rfl, rfl⟩
theorem Lo.of {n d : Int} (hn : inB n) (hd : 0 < d ∧ d ≤ MAX) : Lo (loN n d) (loD n d) := by
  have h1 := loN_le n d
  have h2 := loD_le (n := n) hd.1
  have := hn.1; have := hn.2
  exact ⟨⟨by omega, by omega⟩, loD_pos hd.1, by omega, g2_lo hd.1⟩
end Lw

namespace Tx
open PySem.NumText
theorem vl_rep48 (a : Nat) : ∀ n : Nat, vl a (List.replicate n 48) = a * 10 ^ n := fun n => by
  induction n generalizing a with
  | zero => simp [vl]
  | succ n ih =>
    rw [List.replicate_succ, vl_cons, ih, Nat.pow_succ, show a * 10 + (48 - 48) = a * 10 by omega, Nat.mul_assoc, Nat.mul_comm 10]
theorem vl_rep (c : Nat) : ∀ (n a : Nat), 9 * vl a (List.replicate n c) + (c - 48) = (9 * a + (c - 48)) * 10 ^ n := fun n => by
  induction n with
  | zero => intro a; simp [vl]
  | succ n ih =>
    intro a
    rw [List.replicate_succ, vl_cons, ih, Nat.pow_succ, show 9 * (a * 10 + (c - 48)) + (c - 48) = (9 * a + (c - 48)) * 10 by omega, Nat.mul_assoc, Nat.mul_comm 10]
theorem dl_rep {c : Nat} (h : isD c = true) : ∀ n : Nat, dl (List.replicate n c) = n
  | 0 => rfl
  | n + 1 => by rw [List.replicate_succ, dl_cons, if_pos h, dl_rep h n]
theorem ad_rep {c : Nat} (h : isD c = true) (n : Nat) : AllDigits (List.replicate n c) := fun d hd => by
  rw [List.eq_of_mem_replicate hd]; exact isD_iff.mp h
end Tx
namespace Lw
open PySem PySem.Spec PyProof.Rows L2 J PySem.NumText
/-! ### texts repeated -/
theorem fold_app (a : Array Nat) : ∀ (n : Nat) (acc : Array Nat), ((List.replicate n a).foldl (· ++ ·) acc).toList = acc.toList ++ (List.replicate n a.toList).flatten
  | 0, acc => by simp
  | n + 1, acc => by
    rw [List.replicate_succ, List.foldl_cons, fold_app a n, List.replicate_succ, List.flatten_cons, Array.toList_append, List.append_assoc]
def rep (c k : Nat) : Str := ⟨(List.replicate k c).toArray⟩
theorem rep_l (c k : Nat) : (rep c k).cps.toList = List.replicate k c := rfl
theorem rep_len (c k : Nat) : (rep c k).length = k := by rw [← len_z, rep_l, List.length_replicate]
theorem mul_rep (c k : Nat) (hk : 2 ≤ k) : Txt.mul (ch c) (k : Nat) = rep c k := by
  refine str_ext ?_
  unfold Txt.mul
  rw [if_neg (by omega), if_neg (by simp [ch, Str.length]; omega)]
  show ((List.replicate (k : Int).toNat #[c]).foldl (· ++ ·) #[]).toList = List.replicate k c
  rw [fold_app, Int.toNat_natCast]
  simp
theorem g_rep (c k : Nat) (hk : 2 ≤ k) (h : k ≤ 10000) : gRepS (.str (ch c)) (.int (k : Nat)) = some (.str (rep c k)) := by
  have l : (ch c).length = 1 := rfl
  show (if _ then _ else _) = _
  rw [l, if_pos ⟨by omega, by omega, by omega⟩, mul_rep c k hk]
/-! ### the texts at the bounds -/

def ed1 : J.Env → RS := (sSet 2 (fop gPowP (fop gPowP (fC (.int 10)) (fC (.int 50))) (fC (.int 40))))
def ed2 : J.Env → RS := (sSet 3 (fun1 gStrI (fVar 1)))
def re0 : J.Env → RS := (sRet (fTup (fCons (fop gAdd (fC (.str "1")) (fop gMulT (fC (.str "0")) (fC (.int 2000)))) (fCons (fTup (fCons (fC (.str "ratio")) (fCons (fVar 2) (fCons (fC (.int 1)) fNil)))) fNil))))
def re1 : J.Env → RS := (sRet (fTup (fCons (fop gAdd (fC (.str "-1")) (fop gMulT (fC (.str "0")) (fC (.int 2000)))) (fCons (fTup (fCons (fC (.str "ratio")) (fCons (fun1 gNeg (fVar 2)) (fCons (fC (.int 1)) fNil)))) fNil))))
def re2 : J.Env → RS := (sRet (fTup (fCons (fop gAdd (fop gAdd (fC (.str "1")) (fop gMulT (fC (.str "0")) (fC (.int 1999)))) (fVar 3)) (fCons (fTup (fCons (fC (.str "number")) (fCons (fop gAdd (fVar 2) (fVar 1)) fNil))) fNil))))
def re3 : J.Env → RS := (sRet (fTup (fCons (fop gAdd (fop gAdd (fC (.str "-1")) (fop gMulT (fC (.str "0")) (fC (.int 1999)))) (fVar 3)) (fCons (fTup (fCons (fC (.str "number")) (fCons (fop gSub (fun1 gNeg (fVar 2)) (fVar 1)) fNil))) fNil))))
def re4 : J.Env → RS := (sRet (fTup (fCons (fop gMulT (fVar 3) (fC (.int 2002))) (fCons (fTup (fCons (fC (.str "text")) (fCons (fC (.int 1)) (fCons (fC (.int 2002)) fNil)))) fNil))))
def re5 : J.Env → RS := (sRet (fTup (fCons (fop gAdd (fC (.str "-")) (fop gMulT (fVar 3) (fC (.int 2002)))) (fCons (fTup (fCons (fC (.str "text")) (fCons (fC (.int 1)) (fCons (fC (.int 2003)) fNil)))) fNil))))
def re6 : J.Env → RS := (sRet (fTup (fCons (fop gAdd (fC (.str "1/")) (fop gMulT (fVar 3) (fC (.int 2001)))) (fCons (fTup (fCons (fC (.str "number")) (fCons (fop gDivP (fop gMulT (fVar 1) (fop gSub (fop gMulT (fVar 2) (fC (.int 10))) (fC (.int 1)))) (fC (.int 9))) fNil))) fNil))))
def re7 : J.Env → RS := (sRet (fTup (fCons (fop gAdd (fC (.str "1/")) (fop gMulT (fVar 3) (fC (.int 2002)))) (fCons (fTup (fCons (fC (.str "text")) (fCons (fC (.int 1)) (fCons (fC (.int 2004)) fNil)))) fNil))))
def re8 : J.Env → RS := (sRet (fTup (fCons (fop gMulT (fVar 3) (fC (.int 5000))) (fCons (fTup (fCons (fC (.str "text")) (fCons (fC (.int 1)) (fCons (fC (.int 2002)) fNil)))) fNil))))
def re9 : J.Env → RS := (sRet (fTup (fCons (fop gMulT (fVar 3) (fC (.int 5001))) (fCons (fTup (fCons (fC (.str "size")) (fCons (fC (.int 5001)) fNil))) fNil))))
def re10 : J.Env → RS := (sRet (fTup (fCons (fop gMulT (fC (.str "-")) (fC (.int 5000))) (fCons (fTup (fCons (fC (.str "text")) (fCons (fC (.int 1)) (fCons (fC (.int 2)) fNil)))) fNil))))
def ed4 : J.Env → RS := (sSet 4 (fop gSub (fop gAdd (fVar 2) (fC (.int 1))) (fVar 1)))
def edr : J.Env → RS := (sRet (fTup (fCons (fop gAdd (fop gAdd (fun1 gStrI (fVar 4)) (fC (.str "/"))) (fun1 gStrI (fop gSub (fVar 4) (fC (.int 1))))) (fCons (fTup (fCons (fC (.str "ratio")) (fCons (fVar 4) (fCons (fop gSub (fVar 4) (fC (.int 1))) fNil)))) fNil))))
abbrev edI (k : Int) (f : J.Env → RS) : J.Env → RS := sIf (fTest (fop gEq (fVar 0) (fC (.int k)))) f sNil
def cE11 : J.Env → RS := sSeq ed4 edr
def cE10 : J.Env → RS := sSeq (edI 10 re10) cE11
def cE9 : J.Env → RS := sSeq (edI 9 re9) cE10
def cE8 : J.Env → RS := sSeq (edI 8 re8) cE9
def cE7 : J.Env → RS := sSeq (edI 7 re7) cE8
def cE6 : J.Env → RS := sSeq (edI 6 re6) cE7
def cE5 : J.Env → RS := sSeq (edI 5 re5) cE6
def cE4 : J.Env → RS := sSeq (edI 4 re4) cE5
def cE3 : J.Env → RS := sSeq (edI 3 re3) cE4
def cE2 : J.Env → RS := sSeq (edI 2 re2) cE3
def cE1 : J.Env → RS := sSeq (edI 1 re1) cE2
def cE0 : J.Env → RS := sSeq (edI 0 re0) cE1
theorem edge_eq : f_L_edge = sSeq ed1 (sSeq ed2 cE0) := rfl
abbrev EE (k dg : Int) (c : Nat) (s4 : Sl) : J.Env := [.val (.int k), .val (.int dg), .val (.int MAX), .val (.str (ch c)), s4]
section
variable {k dg : Int} {c : Nat} {s4 : Sl}
theorem ed_no {j : Int} {f g : J.Env → RS} (h : k ≠ j) : sSeq (edI j f) g (EE k dg c s4) = g (EE k dg c s4) := by
  refine seq_nx ?_
  show ((fop gEq (fVar 0) (fC (.int j)) (EE k dg c s4)).bind _).bindS _ = _
  simp [h]
theorem ed_yes {f g : J.Env → RS} {r : RV} {E : J.Env} (h : f (EE k dg c s4) = .rt r E) : sSeq (edI k f) g (EE k dg c s4) = .rt r E := by
  refine seq_rt ?_
  rw [← h]
  simp
theorem ed_in {d : Nat} (hd : d ≤ 9) : sSeq ed1 (sSeq ed2 cE0) [.val (.int k), .val (.int (d : Nat)), .no, .no, .no] = cE0 (EE k (d : Nat) (48 + d) .no) := by
  have e1 : ed1 [.val (.int k), .val (.int (d : Nat)), .no, .no, .no] = .nx [.val (.int k), .val (.int (d : Nat)), .val (.int MAX), .no, .no] := by
    simp [ed1, pow50, pow40]
  have q := g_strI (n := (d : Nat)) (by rw [Int.natAbs_natCast]; exact Nat.lt_of_le_of_lt hd (by decide +kernel))
  have z : strI (d : Nat) = ch (48 + d) := str_ext (by rw [tl_strI, Int.natAbs_natCast, TL.numL_lt (by omega), show sgnL (d : Nat) = [] from if_neg (by omega)]; rfl)
  rw [z] at q
  have e2 : ed2 [.val (.int k), .val (.int (d : Nat)), .val (.int MAX), .no, .no] = .nx (EE k (d : Nat) (48 + d) .no) := by
    simp [ed2, q]
  exact (seq_nx e1).trans (seq_nx e2)
end
/-- the text and what is due, told right -/
def EdOk (k : Int) (d : Nat) : Prop := ∃ z due E, f_L_edge [.val (.int k), .val (.int (d : Nat)), .no, .no, .no] = .rt (.v (.tup [.str z, due])) E ∧ F_L_told [.val (.str "read"), .val (.str z), .val .non] = .ok (.v due) (ev F_L_told [.val (.str "read"), .val (.str z), .val .non]) ∧ Fl 1 due
theorem ed_mk {k : Int} {d : Nat} {z : Str} {due : D} {E : J.Env} (hd : d ≤ 9) (h : cE0 (EE k (d : Nat) (48 + d) .no) = .rt (.v (.tup [.str z, due])) E) (ht : F_L_told [.val (.str "read"), .val (.str z), .val .non] = .ok (.v due) (ev F_L_told [.val (.str "read"), .val (.str z), .val .non])) (hf : Fl 1 due) : EdOk k d := ⟨z, due, E, by rw [edge_eq, ed_in hd, h], ht, hf⟩
theorem ed_rd {z : Str} {r : Except Nat (Int × Int)} {due : D} (l : List Nat) (hl : z.cps.toList = l) (h5 : l.length ≤ 5000) (hc : ∀ c ∈ l, c < CP) (hs : Tx.spec l = r) (hr : rsD r = due) : F_L_told [.val (.str "read"), .val (.str z), .val .non] = .ok (.v due) (ev F_L_told [.val (.str "read"), .val (.str z), .val .non]) := by
  have e := told_read (z := z) (by rw [← len_z, hl]; exact h5) (by rw [hl]; exact hc)
  rw [hl, hs, hr] at e
  exact e
theorem s_1 : ("1" : Str) = ch 49 := by decide +kernel
def chm : Str := "-1"
def chs : Str := "1/"
theorem chm_l : chm.cps.toList = [45, 49] := by decide +kernel
theorem chs_l : chs.cps.toList = [49, 47] := by decide +kernel
theorem chm_len : chm.length = 2 := by decide +kernel
theorem chs_len : chs.length = 2 := by decide +kernel
theorem MAXn : ((10 ^ 2000 : Nat) : Int) = MAX := rfl
theorem MAXd (d : Nat) : ((10 ^ 2000 + d : Nat) : Int) = MAX + d := by rw [Int.natCast_add, MAXn]
theorem bd_num {n d : Int} (h : MAX < (if n < 0 then -n else n)) : bdV n d = nuD n := if_pos h
theorem bd_den {n d : Int} (h : ¬ MAX < (if n < 0 then -n else n)) (h2 : MAX < d) : bdV n d = nuD d := (if_neg h).trans (if_pos h2)
theorem bd_rat {n d : Int} (h : ¬ MAX < (if n < 0 then -n else n)) (h2 : ¬ MAX < d) : bdV n d = raD n d := (if_neg h).trans (if_neg h2)
theorem cons_cp {c : Nat} {l : List Nat} (h : c < CP) (hl : ∀ c ∈ l, c < CP) : ∀ d ∈ c :: l, d < CP := fun d hd => by
  rcases List.mem_cons.mp hd with rfl | hd
  · exact h
  · exact hl d hd
theorem rep_cp {c : Nat} (n : Nat) (h : c < CP) : ∀ d ∈ List.replicate n c, d < CP := fun d hd => by rw [List.eq_of_mem_replicate hd]; exact h
theorem lapp_cp {x y : List Nat} (hx : ∀ c ∈ x, c < CP) (hy : ∀ c ∈ y, c < CP) : ∀ c ∈ x ++ y, c < CP := fun c hc => by
  rcases List.mem_append.mp hc with h | h
  · exact hx c h
  · exact hy c h
theorem one_cp {c : Nat} (h : c < CP) : ∀ d ∈ [c], d < CP := fun d hd => by rw [List.mem_singleton.mp hd]; exact h
theorem dig_ok' {d : Nat} (h : 1 ≤ d ∧ d ≤ 9) : Tx.isD (48 + d) = true ∧ 48 + d ≠ 48 := ⟨Tx.isD_iff.mpr (by omega), by omega⟩
theorem one_ok : Tx.isD 49 = true ∧ 49 ≠ 48 := by decide
theorem zero_ok : Tx.isD 48 = true := by decide
theorem lt_cp {c : Nat} (h : c < 200) : c < CP := by unfold CP; omega
theorem dv_1000 : digitsVal (49 :: List.replicate 2000 48) = 10 ^ 2000 := by
  rw [← Tx.vl_dv, Tx.vl_rep48, show 49 - 48 = 1 from rfl, Nat.one_mul]
theorem dv_100d (d : Nat) : digitsVal (49 :: (List.replicate 1999 48 ++ [48 + d])) = 10 ^ 2000 + d := by
  rw [← List.cons_append, digitsVal_snoc, ← Tx.vl_dv, Tx.vl_rep48, show 49 - 48 = 1 from rfl, Nat.one_mul, ← Nat.pow_succ]
  omega
/-! each kind -/
section
variable {d : Nat} (h : 1 ≤ d ∧ d ≤ 9)
include h
theorem ed_0 : EdOk 0 d := by
  have g : gRepS (.str (ch 48)) (.int 2000) = some (.str (rep 48 2000)) := g_rep 48 2000 (by decide) (by decide)
  have a := g_addZ (x := ch 49) (y := rep 48 2000) (by rw [rep_len]; decide)
  have e : re0 (EE 0 (d : Nat) (48 + d) .no) = .rt (.v (.tup [.str (ch 49 ++ rep 48 2000), raD MAX 1])) (EE 0 (d : Nat) (48 + d) .no) := by
    simp [re0, s_1, s_0, g, a, raD]
  refine ed_mk h.2 (ed_yes e) (ed_rd (49 :: List.replicate 2000 48) (by rw [app_l, rep_l]; rfl) (by rw [List.length_cons, List.length_replicate]; decide) (cons_cp (lt_cp (by decide)) (rep_cp _ (lt_cp (by decide)))) (by rw [Tx.spec_pos one_ok, Tx.rdNum_e (Tx.ad_rep zero_ok _) (by rw [List.length_replicate]; decide), dv_1000]) ?_) (Fl.rat _ _)
  rw [MAXn, Int.one_mul]
  have := MAX_pos
  exact bd_rat (by omega) (by omega)
theorem ed_1 : EdOk 1 d := by
  have g : gRepS (.str (ch 48)) (.int 2000) = some (.str (rep 48 2000)) := g_rep 48 2000 (by decide) (by decide)
  have a := g_addZ (x := chm) (y := rep 48 2000) (by rw [rep_len, chm_len]; decide)
  have e : re1 (EE 1 (d : Nat) (48 + d) .no) = .rt (.v (.tup [.str (chm ++ rep 48 2000), raD (-MAX) 1])) (EE 1 (d : Nat) (48 + d) .no) := by
    unfold chm at a ⊢
    simp [re1, s_0, g, a, raD]
  refine ed_mk h.2 ((ed_no (by decide)).trans (ed_yes e)) (ed_rd (45 :: 49 :: List.replicate 2000 48) (by rw [app_l, rep_l, chm_l]; rfl) (by rw [List.length_cons, List.length_cons, List.length_replicate]; decide) (cons_cp (lt_cp (by decide)) (cons_cp (lt_cp (by decide)) (rep_cp _ (lt_cp (by decide))))) (by rw [Tx.spec_neg one_ok, Tx.rdNum_e (Tx.ad_rep zero_ok _) (by rw [List.length_replicate]; decide), dv_1000]) ?_) (Fl.rat _ _)
  rw [MAXn, show (-1 : Int) * MAX = -MAX by omega]
  have := MAX_pos
  exact bd_rat (by omega) (by omega)
omit h in
theorem c2_2 : (ch 49 ++ rep 48 1999 ++ ch (48 + d)).cps.toList = 49 :: (List.replicate 1999 48 ++ [48 + d]) := by
  rw [app_l, app_l, rep_l, show (ch 49).cps.toList = [49] from rfl, show (ch (48 + d)).cps.toList = [48 + d] from rfl]
  generalize List.replicate 1999 48 = l
  rfl
omit h in
theorem c2_3 : (chm ++ rep 48 1999 ++ ch (48 + d)).cps.toList = 45 :: 49 :: (List.replicate 1999 48 ++ [48 + d]) := by
  rw [app_l, app_l, rep_l, chm_l, show (ch (48 + d)).cps.toList = [48 + d] from rfl]
  generalize List.replicate 1999 48 = l
  rfl
omit h in
theorem l2_ : (List.replicate 1999 48 ++ [48 + d]).length = 2000 := by rw [List.length_append, List.length_replicate, List.length_singleton]
theorem ad2 : NumText.AllDigits (List.replicate 1999 48 ++ [48 + d]) := fun x hx => by
  rcases List.mem_append.mp hx with hx | hx
  · exact Tx.ad_rep zero_ok _ x hx
  · rw [List.mem_singleton.mp hx]; omega
theorem cp2 : ∀ c ∈ List.replicate 1999 48 ++ [48 + d], c < CP := lapp_cp (rep_cp _ (lt_cp (by decide))) (one_cp (lt_cp (by omega)))
omit h in
theorem dv2 : digitsVal (49 :: (List.replicate 1999 48 ++ [48 + d])) = 10 ^ 2000 + d := dv_100d d
omit h in
theorem a2_2 : gAdd (.str (ch 49 ++ rep 48 1999)) (.str (ch (48 + d))) = some (.str (ch 49 ++ rep 48 1999 ++ ch (48 + d))) := g_addZ (by have l1 : (ch 49).length = 1 := rfl; have l2 : (ch (48 + d)).length = 1 := rfl; rw [len_app, rep_len]; omega)
omit h in
theorem a2_3 : gAdd (.str (chm ++ rep 48 1999)) (.str (ch (48 + d))) = some (.str (chm ++ rep 48 1999 ++ ch (48 + d))) := g_addZ (by have l2 : (ch (48 + d)).length = 1 := rfl; rw [len_app, rep_len, chm_len]; omega)
omit h in
theorem r2_2 (R : Str) (a : gAdd (D.str (ch 49)) (D.str R) = some (.str (ch 49 ++ R))) (g : gRepS (.str (ch 48)) (.int 1999) = some (.str R)) (a2 : gAdd (.str (ch 49 ++ R)) (.str (ch (48 + d))) = some (.str (ch 49 ++ R ++ ch (48 + d)))) : (re2 (EE 2 (d : Nat) (48 + d) .no)) = .rt (.v (.tup [.str (ch 49 ++ R ++ ch (48 + d)), nuD (MAX + d)])) (EE 2 (d : Nat) (48 + d) .no) := by
  simp [re2, s_1, s_0, g, a, a2, nuD]
omit h in
theorem r2_3 (R : Str) (a : gAdd (D.str chm) (D.str R) = some (.str (chm ++ R))) (g : gRepS (.str (ch 48)) (.int 1999) = some (.str R)) (a2 : gAdd (.str (chm ++ R)) (.str (ch (48 + d))) = some (.str (chm ++ R ++ ch (48 + d)))) : (re3 (EE 3 (d : Nat) (48 + d) .no)) = .rt (.v (.tup [.str (chm ++ R ++ ch (48 + d)), nuD (-MAX - d)])) (EE 3 (d : Nat) (48 + d) .no) := by
  unfold chm at a a2 ⊢
  simp [re3, s_0, g, a, a2, nuD]
theorem t2_gen {z : Str} {l : List Nat} {b : Nat} (hb : (b = 2 ∧ z.cps.toList = 49 :: l) ∨ (b = 3 ∧ z.cps.toList = 45 :: 49 :: l)) (hl : l.length = 2000) (ad : NumText.AllDigits l) (cp : ∀ c ∈ l, c < CP) (dv : digitsVal (49 :: l) = 10 ^ 2000 + d) : F_L_told [.val (.str "read"), .val (.str z), .val .non] = .ok (.v (nuD (if b = 2 then MAX + d else -MAX - d))) (ev F_L_told [.val (.str "read"), .val (.str z), .val .non]) := by
  have hM := MAX_pos
  rcases hb with ⟨rfl, hz⟩ | ⟨rfl, hz⟩
  · refine ed_rd (49 :: l) hz (by rw [List.length_cons, hl]; decide) (cons_cp (lt_cp (by decide)) cp) (r := .ok (MAX + d, 1)) ?_ ?_
    · rw [Tx.spec_pos one_ok, Tx.rdNum_e ad (by omega), dv, Int.one_mul, MAXd]
    · rw [if_pos rfl]
      exact bd_num (by rw [if_neg (by omega)]; omega)
  · refine ed_rd (45 :: 49 :: l) hz (by rw [List.length_cons, List.length_cons, hl]; decide) (cons_cp (lt_cp (by decide)) (cons_cp (lt_cp (by decide)) cp)) (r := .ok (-MAX - d, 1)) ?_ ?_
    · rw [Tx.spec_neg one_ok, Tx.rdNum_e ad (by omega), dv, MAXd, show (-1 : Int) * (MAX + d) = -MAX - d by omega]
    · rw [if_neg (by decide)]
      exact bd_num (by rw [if_pos (by omega)]; omega)
theorem ed_2 : EdOk 2 d := by
  have t := t2_gen h (b := 2) (.inl ⟨rfl, c2_2⟩) l2_ (ad2 h) (cp2 h) dv2
  have a := g_addZ (x := ch 49) (y := rep 48 1999) (by have l1 : (ch 49).length = 1 := rfl; rw [rep_len]; omega)
  have e := r2_2 (d := d) (rep 48 1999) a (g_rep 48 1999 (by decide) (by decide)) a2_2
  generalize ch 49 ++ rep 48 1999 ++ ch (48 + d) = z at *
  rw [if_pos rfl] at t
  exact ed_mk h.2 ((ed_no (by decide)).trans ((ed_no (by decide)).trans (ed_yes e))) t (Fl.num _)
theorem ed_3 : EdOk 3 d := by
  have t := t2_gen h (b := 3) (.inr ⟨rfl, c2_3⟩) l2_ (ad2 h) (cp2 h) dv2
  have a := g_addZ (x := chm) (y := rep 48 1999) (by rw [rep_len, chm_len]; omega)
  have e := r2_3 (d := d) (rep 48 1999) a (g_rep 48 1999 (by decide) (by decide)) a2_3
  generalize chm ++ rep 48 1999 ++ ch (48 + d) = z at *
  rw [if_neg (by decide)] at t
  exact ed_mk h.2 ((ed_no (by decide)).trans ((ed_no (by decide)).trans ((ed_no (by decide)).trans (ed_yes e)))) t (Fl.num _)
theorem rep_s {c : Nat} (n : Nat) : List.replicate (n + 1) c = c :: List.replicate n c := rfl
theorem drop_rep {c : Nat} (m : Nat) : (List.replicate (2000 + m + 1) c).drop 2000 = c :: List.replicate m c := by
  rw [List.drop_replicate, show 2000 + m + 1 - 2000 = m + 1 by omega, List.replicate_succ]
theorem ed_4 : EdOk 4 d := by
  have g : gRepS (.str (ch (48 + d))) (.int 2002) = some (.str (rep (48 + d) 2002)) := g_rep (48 + d) 2002 (by decide) (by decide)
  have e : re4 (EE 4 (d : Nat) (48 + d) .no) = .rt (.v (.tup [.str (rep (48 + d) 2002), txD 2002])) (EE 4 (d : Nat) (48 + d) .no) := by
    simp [re4, g, txD]
  refine ed_mk h.2 ((ed_no (by decide)).trans ((ed_no (by decide)).trans ((ed_no (by decide)).trans ((ed_no (by decide)).trans (ed_yes e))))) (ed_rd ((48 + d) :: List.replicate (2000 + 0 + 1) (48 + d)) (by rw [rep_l]; rfl) (by rw [List.length_cons, List.length_replicate]; decide) (cons_cp (lt_cp (by omega)) (rep_cp _ (lt_cp (by omega)))) (by
    rw [Tx.spec_pos (dig_ok' h), Tx.rdNum_long (k := 0) (by rw [Tx.dl_rep (dig_ok' h).1]; decide) (drop_rep h 0) (by omega)]) rfl) (Fl.txt _)
theorem ed_5 : EdOk 5 d := by
  have g : gRepS (.str (ch (48 + d))) (.int 2002) = some (.str (rep (48 + d) 2002)) := g_rep (48 + d) 2002 (by decide) (by decide)
  have a := g_addZ (x := ch 45) (y := rep (48 + d) 2002) (by rw [rep_len]; decide)
  have e : re5 (EE 5 (d : Nat) (48 + d) .no) = .rt (.v (.tup [.str (ch 45 ++ rep (48 + d) 2002), txD 2003])) (EE 5 (d : Nat) (48 + d) .no) := by
    simp [re5, s_mi, g, a, txD]
  refine ed_mk h.2 ((ed_no (by decide)).trans ((ed_no (by decide)).trans ((ed_no (by decide)).trans ((ed_no (by decide)).trans ((ed_no (by decide)).trans (ed_yes e)))))) (ed_rd (45 :: (48 + d) :: List.replicate (2000 + 0 + 1) (48 + d)) (by rw [app_l, rep_l]; rfl) (by rw [List.length_cons, List.length_cons, List.length_replicate]; decide) (cons_cp (lt_cp (by decide)) (cons_cp (lt_cp (by omega)) (rep_cp _ (lt_cp (by omega))))) (by
    rw [Tx.spec_neg (dig_ok' h), Tx.rdNum_long (k := 0) (by rw [Tx.dl_rep (dig_ok' h).1]; decide) (drop_rep h 0) (by omega)]) rfl) (Fl.txt _)
theorem ed_6 : EdOk 6 d := by
  have g : gRepS (.str (ch (48 + d))) (.int 2001) = some (.str (rep (48 + d) 2001)) := g_rep (48 + d) 2001 (by decide) (by decide)
  have a := g_addZ (x := chs) (y := rep (48 + d) 2001) (by rw [rep_len, chs_len]; decide)
  have hv := Tx.vl_rep (48 + d) 2001 0
  rw [show 48 + d - 48 = d by omega, show 9 * 0 + d = d by omega] at hv
  have hw : Tx.vl 0 (List.replicate 2001 (48 + d)) = digitsVal ((48 + d) :: List.replicate 2000 (48 + d)) := rfl
  have hM := MAX_pos
  have hp : ((10 ^ 2001 : Nat) : Int) = MAX * 10 := by unfold MAX; rw [Nat.pow_succ]; exact Int.natCast_mul _ _
  have hvI : 9 * ((digitsVal ((48 + d) :: List.replicate 2000 (48 + d)) : Nat) : Int) + d = d * (MAX * 10) := by
    rw [← hp, ← hw]
    exact_mod_cast hv
  generalize hVV : digitsVal ((48 + d) :: List.replicate 2000 (48 + d)) = V at *
  have hd1 : (1 : Int) ≤ (d : Nat) := by omega
  have hle : MAX * 10 ≤ (d : Nat) * (MAX * 10) := by
    have := Int.mul_le_mul_of_nonneg_right hd1 (show 0 ≤ MAX * 10 by omega)
    omega
  have hub : (d : Nat) * (MAX * 10) ≤ 9 * (MAX * 10) := Int.mul_le_mul_of_nonneg_right (by omega) (by omega)
  have hV : MAX < (V : Nat) := by omega
  have hMn := M_lt
  have hB : 10 ^ 2001 * 1000 < BIG := by decide +kernel
  have m1 := g_mulB MAX 10 (by omega) (by omega)
  have m2 := g_mulB (d : Nat) (MAX * 10 - 1) (by omega) (by omega)
  have dv := g_divB ((d : Nat) * (MAX * 10 - 1)) 9 (by decide) (by rw [Int.mul_sub]; omega)
  have q : (d : Nat) * (MAX * 10 - 1) / 9 = ((V : Nat) : Int) := by rw [Int.mul_sub, Int.mul_one]; omega
  rw [q] at dv
  have e : re6 (EE 6 (d : Nat) (48 + d) .no) = .rt (.v (.tup [.str (chs ++ rep (48 + d) 2001), nuD (V : Nat)])) (EE 6 (d : Nat) (48 + d) .no) := by
    unfold chs at a ⊢
    simp [re6, g, a, m1, m2, dv, nuD]
  refine ed_mk h.2 ((ed_no (by decide)).trans ((ed_no (by decide)).trans ((ed_no (by decide)).trans ((ed_no (by decide)).trans ((ed_no (by decide)).trans ((ed_no (by decide)).trans (ed_yes e))))))) (ed_rd (49 :: ([] ++ 47 :: (48 + d) :: List.replicate 2000 (48 + d))) (by rw [app_l, rep_l, chs_l]; rfl) (by rw [List.nil_append, List.length_cons, List.length_cons, List.length_cons, List.length_replicate]; decide) (cons_cp (lt_cp (by decide)) (cons_cp (lt_cp (by decide)) (cons_cp (lt_cp (by omega)) (rep_cp _ (lt_cp (by omega)))))) (by
    rw [Tx.spec_pos one_ok, Tx.rdNum_s (fun x hx => by cases hx) (by decide), Tx.rdDen_ok (Tx.ad_rep (dig_ok' h).1 2001) (dig_ok' h).2 (by rw [List.length_replicate]; decide) (by
      rw [hVV]
      exact ⟨by omega, by rw [show digitsVal [49] = 1 from rfl, Nat.gcd_one_left]⟩), hVV]) ?_) (Fl.num _)
  exact bd_den (by rw [show digitsVal [49] = 1 from rfl]; simp; omega) hV
theorem ed_7 : EdOk 7 d := by
  have g : gRepS (.str (ch (48 + d))) (.int 2002) = some (.str (rep (48 + d) 2002)) := g_rep (48 + d) 2002 (by decide) (by decide)
  have a := g_addZ (x := chs) (y := rep (48 + d) 2002) (by rw [rep_len, chs_len]; decide)
  have e : re7 (EE 7 (d : Nat) (48 + d) .no) = .rt (.v (.tup [.str (chs ++ rep (48 + d) 2002), txD 2004])) (EE 7 (d : Nat) (48 + d) .no) := by
    unfold chs at a ⊢
    simp [re7, g, a, txD]
  refine ed_mk h.2 ((ed_no (by decide)).trans ((ed_no (by decide)).trans ((ed_no (by decide)).trans ((ed_no (by decide)).trans ((ed_no (by decide)).trans ((ed_no (by decide)).trans ((ed_no (by decide)).trans (ed_yes e)))))))) (ed_rd (49 :: ([] ++ 47 :: (48 + d) :: List.replicate (2000 + 0 + 1) (48 + d))) (by rw [app_l, rep_l, chs_l]; rfl) (by rw [List.nil_append, List.length_cons, List.length_cons, List.length_cons, List.length_replicate]; decide) (cons_cp (lt_cp (by decide)) (cons_cp (lt_cp (by decide)) (cons_cp (lt_cp (by omega)) (rep_cp _ (lt_cp (by omega)))))) (by
    rw [Tx.spec_pos one_ok, Tx.rdNum_s (fun x hx => by cases hx) (by decide), Tx.rdDen_long (dig_ok' h) (by rw [Tx.dl_rep (dig_ok' h).1]; decide) (drop_rep h 0)]) rfl) (Fl.txt _)
theorem ed_8 : EdOk 8 d := by
  have g : gRepS (.str (ch (48 + d))) (.int 5000) = some (.str (rep (48 + d) 5000)) := g_rep (48 + d) 5000 (by decide) (by decide)
  have e : re8 (EE 8 (d : Nat) (48 + d) .no) = .rt (.v (.tup [.str (rep (48 + d) 5000), txD 2002])) (EE 8 (d : Nat) (48 + d) .no) := by
    simp [re8, g, txD]
  refine ed_mk h.2 ((ed_no (by decide)).trans ((ed_no (by decide)).trans ((ed_no (by decide)).trans ((ed_no (by decide)).trans ((ed_no (by decide)).trans ((ed_no (by decide)).trans ((ed_no (by decide)).trans ((ed_no (by decide)).trans (ed_yes e))))))))) (ed_rd ((48 + d) :: List.replicate (2000 + 2998 + 1) (48 + d)) (by rw [rep_l]; rfl) (by rw [List.length_cons, List.length_replicate]; decide) (cons_cp (lt_cp (by omega)) (rep_cp _ (lt_cp (by omega)))) (by
    rw [Tx.spec_pos (dig_ok' h), Tx.rdNum_long (k := 0) (by rw [Tx.dl_rep (dig_ok' h).1]; decide) (drop_rep h 2998) (by omega)]) rfl) (Fl.txt _)
theorem ed_9 : EdOk 9 d := by
  have g : gRepS (.str (ch (48 + d))) (.int 5001) = some (.str (rep (48 + d) 5001)) := g_rep (48 + d) 5001 (by decide) (by decide)
  have e : re9 (EE 9 (d : Nat) (48 + d) .no) = .rt (.v (.tup [.str (rep (48 + d) 5001), szD 5001])) (EE 9 (d : Nat) (48 + d) .no) := by
    simp [re9, g, szD]
  have t := told_readx (z := rep (48 + d) 5001) (by rw [rep_len]; decide) (by rw [rep_len]; decide)
  rw [rep_len] at t
  exact ed_mk h.2 ((ed_no (by decide)).trans ((ed_no (by decide)).trans ((ed_no (by decide)).trans ((ed_no (by decide)).trans ((ed_no (by decide)).trans ((ed_no (by decide)).trans ((ed_no (by decide)).trans ((ed_no (by decide)).trans ((ed_no (by decide)).trans (ed_yes e)))))))))) t (Fl.siz _)
theorem ed_10 : EdOk 10 d := by
  have g : gRepS (.str (ch 45)) (.int 5000) = some (.str (rep 45 5000)) := g_rep 45 5000 (by decide) (by decide)
  have e : re10 (EE 10 (d : Nat) (48 + d) .no) = .rt (.v (.tup [.str (rep 45 5000), txD 2])) (EE 10 (d : Nat) (48 + d) .no) := by
    simp [re10, s_mi, g, txD]
  exact ed_mk h.2 ((ed_no (by decide)).trans ((ed_no (by decide)).trans ((ed_no (by decide)).trans ((ed_no (by decide)).trans ((ed_no (by decide)).trans ((ed_no (by decide)).trans ((ed_no (by decide)).trans ((ed_no (by decide)).trans ((ed_no (by decide)).trans ((ed_no (by decide)).trans (ed_yes e))))))))))) (ed_rd (45 :: 45 :: List.replicate 4998 45) (by rw [rep_l]; rfl) (by rw [List.length_cons, List.length_cons, List.length_replicate]; decide) (cons_cp (lt_cp (by decide)) (cons_cp (lt_cp (by decide)) (rep_cp _ (lt_cp (by decide))))) rfl rfl) (Fl.txt _)
theorem ed_11 : EdOk 11 d := by
  have hM := MAX_pos
  have hMn := M_lt
  generalize ht : MAX + 1 - (d : Nat) = t
  have hl : Lo t (t - 1) := ⟨⟨by omega, by omega⟩, by omega, by omega, by
    unfold g2
    rw [show t.natAbs = (t - 1).natAbs + 1 by omega, Nat.gcd_comm, Nat.gcd_self_add_right, Nat.gcd_one_right]
    rfl⟩
  have q1 := g_strI hl.nl
  have q2 := g_strI hl.dl
  have l1 := len_strI hl.nl
  have l2 := len_strI hl.dl
  have lc : (ch 47).length = 1 := rfl
  have a1 := g_addZ (x := strI t) (y := ch 47) (by omega)
  have a2 := g_addZ (x := strI t ++ ch 47) (y := strI (t - 1)) (by rw [len_app]; omega)
  rw [tx_d (by omega) (by omega)] at a2
  have e4 : ed4 (EE 11 (d : Nat) (48 + d) .no) = .nx (EE 11 (d : Nat) (48 + d) (.val (.int t))) := by
    simp [ed4, ht]
  have e : edr (EE 11 (d : Nat) (48 + d) (.val (.int t))) = .rt (.v (.tup [.str (txZ t (t - 1)), raD t (t - 1)])) (EE 11 (d : Nat) (48 + d) (.val (.int t))) := by
    simp [edr, q1, q2, s_sl, a1, a2, raD]
  exact ed_mk h.2 ((ed_no (by decide)).trans ((ed_no (by decide)).trans ((ed_no (by decide)).trans ((ed_no (by decide)).trans ((ed_no (by decide)).trans ((ed_no (by decide)).trans ((ed_no (by decide)).trans ((ed_no (by decide)).trans ((ed_no (by decide)).trans ((ed_no (by decide)).trans ((ed_no (by decide)).trans ((seq_nx e4).trans e)))))))))))) hl.read (Fl.rat _ _)
theorem p_edge {k : Int} (hk : 0 ≤ k ∧ k < 12) : EdOk k d := by
  have : k = 0 ∨ k = 1 ∨ k = 2 ∨ k = 3 ∨ k = 4 ∨ k = 5 ∨ k = 6 ∨ k = 7 ∨ k = 8 ∨ k = 9 ∨ k = 10 ∨ k = 11 := by omega
  rcases this with rfl | rfl | rfl | rfl | rfl | rfl | rfl | rfl | rfl | rfl | rfl | rfl
  · exact ed_0 h
  · exact ed_1 h
  · exact ed_2 h
  · exact ed_3 h
  · exact ed_4 h
  · exact ed_5 h
  · exact ed_6 h
  · exact ed_7 h
  · exact ed_8 h
  · exact ed_9 h
  · exact ed_10 h
  · exact ed_11 h
end
end Lw

namespace Lw
open PySem PySem.Spec PyProof.Rows L2 J
/-! ### wide totals -/
theorem lc_map_go {α : Type} (i o : α → J.D) {E : J.Env} {vs : List Nat} {g : J.D → J.Env → Option J.Env} {f : J.Env → J.R J.D} (hE : wipeE vs E = E) : ∀ (xs : List α) (acc : List J.D), acc.length + xs.length ≤ 1000000 → (∀ x ∈ xs, ∃ E1 E2, g (i x) E = some E1 ∧ f E1 = .ok (o x) E2 ∧ wipeE vs E2 = E) → lcD vs g fYes f (xs.map i) acc E = .ok (acc ++ xs.map o) E
  | [], acc, _, _ => by simp [lcD]
  | x :: xs, acc, hl, h => by
    obtain ⟨E1, E2, h1, h2, h3⟩ := h x (List.mem_cons_self)
    have e := lc_map_go i o hE xs (acc ++ [o x]) (by simp at hl ⊢; omega) (fun y hy => h y (List.mem_cons_of_mem _ hy))
    have hlen : acc.length < 16777216 := by simp at hl; omega
    rw [List.map_cons]
    unfold lcD
    rw [hE, h1]
    simp only [u_fYes, h2, if_pos hlen, h3]
    rw [e]
    simp
theorem use_map {α : Type} {E : J.Env} {vs : List Nat} {g : J.D → J.Env → Option J.Env} {f : J.Env → J.R J.D} {ds : List J.D} {r : J.R (List J.D)} (hF : lcD vs g fYes f ds [] E = r) (i o : α → J.D) (xs : List α) (hd : ds = xs.map i) (hE : wipeE vs E = E) (hl : xs.length ≤ 1000000) (h : ∀ x ∈ xs, ∃ E1 E2, g (i x) E = some E1 ∧ f E1 = .ok (o x) E2 ∧ wipeE vs E2 = E) : r = .ok (xs.map o) E := by
  subst hd
  rw [← hF, lc_map_go i o hE xs [] (by simpa using hl) h, List.nil_append]
theorem use_mapW {α : Type} {E : J.Env} (W : J.Env) {vs : List Nat} {g : J.D → J.Env → Option J.Env} {f : J.Env → J.R J.D} {ds : List J.D} {r : J.R (List J.D)} (hF : lcD vs g fYes f ds [] E = r) (i o : α → J.D) (xs : List α) (hd : ds = xs.map i) (P : J.Env → Prop) (h0 : P E) (h1 : P W) (hW : wipeE vs E = W) (hE : wipeE vs W = W) (hl : xs.length ≤ 1000000) (h : ∀ x ∈ xs, ∃ E1 E2, g (i x) W = some E1 ∧ f E1 = .ok (o x) E2 ∧ wipeE vs E2 = W) : ∃ E', r = .ok (xs.map o) E' ∧ P E' := by
  subst hd
  cases xs with
  | nil => exact ⟨E, by rw [← hF]; rfl, h0⟩
  | cons x xs =>
    refine ⟨W, ?_, h1⟩
    rw [← hF, ← List.nil_append ((x :: xs).map o), ← lc_map_go i o hE (x :: xs) [] (by simpa using hl) h, List.map_cons]
    unfold lcD
    rw [hW, hE]
def rtP (p : Int × Int) : J.D := rt p.1 p.2
def partS (L : Int) (p : Int × Int) : Int := p.1 * (L / p.2)
def lcmI (a b : Int) : Int := ((Nat.lcm a.natAbs b.natAbs : Nat) : Int)
theorem lcmI_l (a b : Int) : a ∣ lcmI a b := by
  unfold lcmI
  exact Int.natAbs_dvd_natAbs.mp (by rw [Int.natAbs_natCast]; exact Nat.dvd_lcm_left _ _)
theorem lcmI_r (a b : Int) : b ∣ lcmI a b := by
  unfold lcmI
  exact Int.natAbs_dvd_natAbs.mp (by rw [Int.natAbs_natCast]; exact Nat.dvd_lcm_right _ _)
theorem lcmI_dvd {a b c : Int} (h : a ∣ c) (k : b ∣ c) : lcmI a b ∣ c := by
  unfold lcmI
  exact Int.natAbs_dvd_natAbs.mp (by rw [Int.natAbs_natCast]; exact Nat.lcm_dvd (Int.natAbs_dvd_natAbs.mpr h) (Int.natAbs_dvd_natAbs.mpr k))
theorem lcmI_pos {a b : Int} (h : 0 < a) (k : 0 < b) : 0 < lcmI a b := by
  unfold lcmI
  have : 0 < Nat.lcm a.natAbs b.natAbs := Nat.lcm_pos (by omega) (by omega)
  omega

def BT : Int := gi_MOST_TOTAL_DEN
theorem BT_pos : 1000000 < BT := by decide +kernel
theorem BT_lt : BT.natAbs < 2 ^ 40000 := by decide +kernel
theorem M_lt2 : MAX.natAbs < 2 ^ 9000 := by decide +kernel
theorem lg {x : Int} {k : Nat} (h : x.natAbs < 2 ^ k) (hk : 0 < k) : x.natAbs.log2 < k := log_le h hk
theorem g_mulC (i j : Int) (hi : i.natAbs < 2 ^ 90000) (hj : j.natAbs < 2 ^ 90000) : gMul (.int i) (.int j) = some (.int (i * j)) := by
  have h1 := lg hi (by decide)
  have h2 := lg hj (by decide)
  show (gMulI i j).map D.int = _
  unfold gMulI
  rw [if_pos (by omega)]
  rfl
theorem g_divC (i j : Int) (h : 0 < j) (hj : j ≤ MAX) : gDivP (.int i) (.int j) = some (.int (i / j)) := g_divP i j h (PyProof.noPylong_of_log2 (lg (k := 9000) (by have := M_lt2; omega) (by decide)))
theorem g_lcmC (i j : Int) (hi : i.natAbs < 2 ^ 90000) (hj : j.natAbs < 2 ^ 90000) : gLcmW (.int i) (.int j) = some (.int (lcmI i j)) := by
  have h1 := lg hi (by decide)
  have h2 := lg hj (by decide)
  show (if lcmOkW i j then _ else _ : Option Int).map D.int = _
  rw [if_pos (show lcmOkW i j by unfold lcmOkW; omega)]
  rfl
theorem p49 : (2 : Nat) ^ 40000 ≤ 2 ^ 90000 := Nat.pow_le_pow_right (by decide) (by decide)
theorem p99 : (2 : Nat) ^ 9000 ≤ 2 ^ 90000 := Nat.pow_le_pow_right (by decide) (by decide)
theorem BT_big {x : Int} (h0 : 0 ≤ x) (h : x ≤ BT) : x.natAbs < 2 ^ 90000 := by have := BT_lt; have := p49; omega
theorem M_big {x : Int} (h0 : 0 ≤ x) (h : x ≤ MAX) : x.natAbs < 2 ^ 90000 := by have := M_lt2; have := p99; omega
/-- the denominators in turn: the first common one that is too great -/
def lw : Int → List Int → Except Int Int
  | w, [] => .ok w
  | w, d :: r => if BT < lcmI w d then .error (lcmI w d) else lw (lcmI w d) r
def lf : Int → List Int → Int
  | w, [] => w
  | w, d :: r => lf (if w ≤ BT then lcmI w d else w) r
theorem lf_big : ∀ (r : List Int) {w : Int}, BT < w → lf w r = w
  | [], w, h => rfl
  | d :: r, w, h => by
    unfold lf
    rw [if_neg (by omega)]
    exact lf_big r h
theorem lf_lw : ∀ (r : List Int) {w v : Int}, w ≤ BT → lw w r = .error v → lf w r = v
  | [], w, v, _, h => by cases h
  | d :: r, w, v, hw, h => by
    unfold lf
    unfold lw at h
    rw [if_pos hw]
    by_cases hb : BT < lcmI w d
    · rw [if_pos hb] at h
      cases h
      exact lf_big r hb
    · rw [if_neg hb] at h
      exact lf_lw r (by omega) h
theorem lw_ok : ∀ (r : List Int) {w w' : Int}, 0 < w → (∀ d ∈ r, 0 < d) → w ≤ BT → lw w r = .ok w' → w ∣ w' ∧ 0 < w' ∧ w' ≤ BT ∧ ∀ d ∈ r, d ∣ w'
  | [], w, w', h0, _, hw, h => by
    cases h
    exact ⟨Int.dvd_refl _, h0, hw, fun d hd => by cases hd⟩
  | d :: r, w, w', h0, hr, hw, h => by
    unfold lw at h
    by_cases hb : BT < lcmI w d
    · rw [if_pos hb] at h; cases h
    · rw [if_neg hb] at h
      have hd := hr d (List.mem_cons_self)
      obtain ⟨h1, h2, h3, h4⟩ := lw_ok r (lcmI_pos h0 hd) (fun x hx => hr x (List.mem_cons_of_mem _ hx)) (by omega) h
      refine ⟨Int.dvd_trans (lcmI_l w d) h1, h2, h3, fun x hx => ?_⟩
      rcases List.mem_cons.mp hx with rfl | hx
      · exact Int.dvd_trans (lcmI_r w x) h1
      · exact h4 x hx
theorem lw_fit {P : Int} (hP : 0 < P ∧ P ≤ BT) : ∀ (r : List Int) {w : Int}, 0 < w → (∀ d ∈ r, 0 < d ∧ d ∣ P) → w ∣ P → ∃ w', lw w r = .ok w'
  | [], w, _, _, _ => ⟨w, rfl⟩
  | d :: r, w, h0, hr, hw => by
    have hd := hr d (List.mem_cons_self)
    have h1 := lcmI_dvd hw hd.2
    have h2 := Int.le_of_dvd hP.1 h1
    unfold lw
    rw [if_neg (by omega)]
    exact lw_fit hP r (lcmI_pos h0 hd.1) (fun x hx => hr x (List.mem_cons_of_mem _ hx)) h1
/-! the loop of Ratio.total -/
def ttB : J.Env → RS := (sSet 1 (fCallR 3 F_look_number (xV (fop gLcmW (fVar 1) (fFld okc_den "den" (fVar 2))) (xV (fC (.int 1)) (xV (fC (.int gi_MOST_TOTAL_DEN)) xNil))) rvD))
def TlOk (X : J.D) (r : Except Int Int) (o : RS) : Prop := match r with
  | .error v => ∃ E, o = .exc (xN v) E
  | .ok w => ∃ c, o = .nx [.val X, .val (.int w), c]
theorem tt_step {X : J.D} {w n d : Int} (hw : 0 < w ∧ w ≤ BT) (hd : 0 < d ∧ d ≤ MAX) : ttB [.val X, .val (.int w), .val (rt n d)] = if BT < lcmI w d then .exc (xN (lcmI w d)) [.val X, .val (.int w), .val (rt n d)] else .nx [.val X, .val (.int (lcmI w d)), .val (rt n d)] := by
  have gl := g_lcmC w d (BT_big (by omega) hw.2) (M_big (by omega) hd.2)
  have hp := lcmI_pos hw.1 hd.1
  by_cases hb : BT < lcmI w d
  · rw [if_pos hb]
    have hno : lcmI w d < 1 ∨ gi_MOST_TOTAL_DEN < lcmI w d := .inr hb
    simp [ttB, gl, ownsA, ndA, argS, backE, hno]
  · rw [if_neg hb]
    have hno : ¬ (lcmI w d < 1 ∨ gi_MOST_TOTAL_DEN < lcmI w d) := by
      rintro (h | h)
      · omega
      · exact hb h
    simp [ttB, gl, ownsA, ndA, argS, backE, hno]
theorem tt_loop {X : J.D} : ∀ (qs : List (Int × Int)) {w : Int} {c : Sl}, (0 < w ∧ w ≤ BT) → (∀ p ∈ qs, 0 < p.2 ∧ p.2 ≤ MAX) → TlOk X (lw w (qs.map Prod.snd)) (forD (gNm 2) ttB (qs.map rtP) [.val X, .val (.int w), c])
  | [], w, c, _, _ => ⟨c, rfl⟩
  | p :: qs, w, c, hw, hq => by
    have hd := hq p (List.mem_cons_self)
    have st := tt_step (X := X) (n := p.1) hw hd
    have e0 : forD (gNm 2) ttB ((p :: qs).map rtP) [.val X, .val (.int w), c] = (match ttB [.val X, .val (.int w), .val (rt p.1 p.2)] with
      | .nx E2 => forD (gNm 2) ttB (qs.map rtP) E2
      | .ct E2 => forD (gNm 2) ttB (qs.map rtP) E2
      | .bk E2 => .nx E2
      | r => r) := rfl
    rw [e0, st, List.map_cons]
    show TlOk X (if BT < lcmI w p.2 then .error (lcmI w p.2) else lw (lcmI w p.2) (qs.map Prod.snd)) _
    by_cases hb : BT < lcmI w p.2
    · rw [if_pos hb, if_pos hb]
      exact ⟨_, rfl⟩
    · rw [if_neg hb, if_neg hb]
      exact tt_loop qs ⟨lcmI_pos hw.1 hd.1, by omega⟩ (fun x hx => hq x (List.mem_cons_of_mem _ hx))

def tl1 : J.Env → RS := (sExpr (fCallR 3 F_look_size (xV (fVar 0) (xV (fC (.int 0)) (xV (fC (.int gi_MOST_TOTAL)) xNil))) rvD))
def tl2 : J.Env → RS := (sSet 1 (fC (.int 1)))
def tl3 : J.Env → RS := (sFor (fun1L itemsD (fVar 0)) (gNm 2) ttB)
def tl4 : J.Env → RS := (sRet (fCallR 2 F_P_ratio_lowest (xV (fun1 gSum (fPub (fLc [2] (fun1L itemsD (fVar 0)) (gNm 2) fYes (fop gMulT (fFld okc_num "num" (fVar 2)) (fop gDivP (fVar 1) (fFld okc_den "den" (fVar 2))))))) (xV (fVar 1) xNil)) rvD))
theorem total_eq : f_M_Ratio_total = sSeq tl1 (sSeq tl2 (sSeq tl3 tl4)) := rfl
theorem e_size1 {l : List J.D} (hn : l.length ≤ 1000) : ∃ E, F_look_size [.val (.lst l), .val (.int 0), .val (.int gi_MOST_TOTAL)] = .ok (.v (.lst l)) E := by
  have h1 : ¬ ((l.length : Int) < 0) := by omega
  have h2 : ¬ (gi_MOST_TOTAL < (l.length : Int)) := by unfold gi_MOST_TOTAL; omega
  simp [F_look_size, runF, f_look_size, h1, h2]
theorem e_size1x {l : List J.D} (hn : 1000 < l.length) : ∃ E, F_look_size [.val (.lst l), .val (.int 0), .val (.int gi_MOST_TOTAL)] = .exc (xS (l.length : Nat)) E := by
  have h1 : ¬ ((l.length : Int) < 0) := by omega
  have h2 : (gi_MOST_TOTAL < (l.length : Int)) := by unfold gi_MOST_TOTAL; omega
  simp [F_look_size, runF, f_look_size, h1, h2, xS]
theorem total_x {l : List J.D} (hn : 1000 < l.length) : ∃ E, F_M_Ratio_total [.val (.lst l)] = .exc (xS (l.length : Nat)) E := by
  obtain ⟨E, e⟩ := e_size1x hn
  have e1 : tl1 [.val (.lst l), .no, .no] = .exc (xS (l.length : Nat)) [.val (.lst l), .no, .no] := by
    simp [tl1, e, ownsA, ndA, argS, backE]
  exact ⟨_, runF_exc (n := 3) (f := f_M_Ratio_total) (E0 := [.val (.lst l), .no, .no]) rfl (by rw [total_eq]; exact seq_exc e1)⟩
theorem total_head {qs : List (Int × Int)} (hl : qs.length ≤ 1000) : sSeq tl1 (sSeq tl2 (sSeq tl3 tl4)) [.val (.lst (qs.map rtP)), .no, .no] = sSeq tl3 tl4 [.val (.lst (qs.map rtP)), .val (.int 1), .no] := by
  obtain ⟨E, e⟩ := e_size1 (l := qs.map rtP) (by rw [List.length_map]; exact hl)
  have e1 : tl1 [.val (.lst (qs.map rtP)), .no, .no] = .nx [.val (.lst (qs.map rtP)), .no, .no] := by
    generalize qs.map rtP = l at *
    simp [tl1, e, ownsA, ndA, argS, backE]
  have e2 : tl2 [.val (.lst (qs.map rtP)), .no, .no] = .nx [.val (.lst (qs.map rtP)), .val (.int 1), .no] := by
    generalize qs.map rtP = l
    simp [tl2]
  exact (seq_nx e1).trans (seq_nx e2)
theorem tl3_eq {l : List J.D} {E : J.Env} (h : E[0]? = some (.val (.lst l))) : tl3 E = forD (gNm 2) ttB l E := by
  unfold tl3
  rw [u_sFor, u_fun1L, u_fVar, h]
  rfl
theorem total_err {qs : List (Int × Int)} {v : Int} (hl : qs.length ≤ 1000) (hq : ∀ p ∈ qs, 0 < p.2 ∧ p.2 ≤ MAX) (h : lw 1 (qs.map Prod.snd) = .error v) : ∃ E, F_M_Ratio_total [.val (.lst (qs.map rtP))] = .exc (xN v) E := by
  have t := tt_loop (X := .lst (qs.map rtP)) qs (w := 1) (c := .no) ⟨by decide, by have := BT_pos; omega⟩ hq
  rw [h] at t
  obtain ⟨E, e⟩ := t
  refine ⟨E, runF_exc (n := 3) (f := f_M_Ratio_total) (E0 := [.val (.lst (qs.map rtP)), .no, .no]) rfl ?_⟩
  rw [total_eq, total_head hl]
  exact seq_exc (by rw [tl3_eq rfl]; exact e)
theorem noP0 {x y : Int} (h : x.natAbs ≤ y.natAbs) : Builtin.divisionGoesByPylong x y = false := by
  unfold Builtin.divisionGoesByPylong
  simp only [Bool.and_eq_false_iff]
  refine .inr (decide_eq_false ?_)
  by_cases hx : (x == 0) = true
  · rw [if_pos hx]; omega
  · have hx0 : x ≠ 0 := by simpa using hx
    have hy0 : y.natAbs ≠ 0 := by omega
    have hy : ¬ (y == 0) = true := by simp; omega
    rw [if_neg hx, if_neg hy]
    have : x.natAbs.log2 ≤ y.natAbs.log2 := by
      have h1 : x.natAbs.log2 < y.natAbs.log2 + 1 := log_le (Nat.lt_of_le_of_lt h (Nat.lt_log2_self)) (Nat.succ_pos _)
      omega
    omega
theorem low_zero {L : Int} (hL : 0 < L) : ∃ E, F_P_ratio_lowest [.val (.int 0), .val (.int L)] = .ok (.v (rt 0 1)) E := by
  have g : gGcd (.int 0) (.int L) = some (.int L) := by
    rw [g_gcd]
    congr 2
    unfold g2
    rw [Int.natAbs_zero, Nat.gcd_zero_left]
    omega
  have b1 := g_divP 0 L hL (noP0 (by omega))
  have b2 := g_divP L L hL (noP0 (Nat.le_refl _))
  rw [Int.zero_ediv] at b1
  rw [Int.ediv_self (by omega)] at b2
  have hM := MAX_pos
  have m : mkV 0 1 = .ok (rt 0 1) := by
    unfold mkV
    have hg : g2 0 1 = 1 := by decide
    rw [if_neg (by omega), if_neg (by omega), (lo_low hg).1, (lo_low hg).2]
  have e := fun E => mk_is 0 1 E
  rw [m] at e
  simp [F_P_ratio_lowest, runF, f_P_ratio_lowest, ownsA, ndA, argS, backE, g, b1, b2, e, toD]
theorem total_zero {qs : List (Int × Int)} {L : Int} (hl : qs.length ≤ 1000) (hq : ∀ p ∈ qs, (0 < p.2 ∧ p.2 ≤ MAX) ∧ (p.1 = 1 ∨ p.1 = -1)) (h : lw 1 (qs.map Prod.snd) = .ok L) (hs : (qs.map (partS L)).sum = 0) : ∃ E, F_M_Ratio_total [.val (.lst (qs.map rtP))] = .ok (.v (rt 0 1)) E := by
  have hB := BT_pos
  have t := tt_loop (X := .lst (qs.map rtP)) qs (w := 1) (c := .no) ⟨by decide, by omega⟩ (fun p hp => (hq p hp).1)
  rw [h] at t
  obtain ⟨c, e⟩ := t
  obtain ⟨h1, hL, hLB, hdv⟩ := lw_ok (qs.map Prod.snd) (w := 1) (by decide) (fun d hd => by
    obtain ⟨p, hp, rfl⟩ := List.mem_map.mp hd
    exact (hq p hp).1.1) (by omega) h
  obtain ⟨E2, e2⟩ := low_zero hL
  have e4 : ∃ E, tl4 [.val (.lst (qs.map rtP)), .val (.int L), c] = .rt (.v (rt 0 1)) E := by
    unfold tl4
    simp
    generalize hG : lcD _ _ _ _ _ _ _ = r
    obtain ⟨E', rfl, c', rfl⟩ := use_mapW [.val (.lst (qs.map rtP)), .val (.int L), .no] hG rtP (fun p => D.int (partS L p)) qs rfl (fun E => ∃ c, E = [.val (.lst (qs.map rtP)), .val (.int L), c]) ⟨c, rfl⟩ ⟨.no, rfl⟩ rfl rfl (by omega) (fun p hp => by
      have hf := (hq p hp).1
      have hd := g_divC L p.2 hf.1 hf.2
      have hq1 : (L / p.2).natAbs < 2 ^ 90000 := by
        have h1 := Int.natAbs_ediv_le_natAbs L p.2
        have h2 := BT_big (by omega) hLB
        omega
      have hp1 : p.1.natAbs < 2 ^ 90000 := by
        have h2 := BT_big (x := 1) (by omega) (by omega)
        rcases (hq p hp).2 with h | h <;> rw [h] <;> exact h2
      have hm := g_mulC p.1 (L / p.2) hp1 hq1
      refine ⟨_, [.val (.lst (qs.map rtP)), .val (.int L), .val (rt p.1 p.2)], rfl, ?_, rfl⟩
      simp [rtP, hd, hm, partS])
    have hmm : qs.map (fun p => D.int (partS L p)) = (qs.map (partS L)).map D.int := by rw [List.map_map]; rfl
    have hs2 : gSum (.lst (qs.map (fun p => D.int (partS L p)))) = some (.int 0) := by
      rw [hmm]
      show (intsD _).map _ = _
      rw [intsD_map]
      show some (D.int (qs.map (partS L)).sum) = _
      rw [hs]
    simp [hs2, ownsA, ndA, argS, backE, e2]
  obtain ⟨E, e4⟩ := e4
  refine ⟨E, runF_rt (n := 3) (f := f_M_Ratio_total) (E0 := [.val (.lst (qs.map rtP)), .no, .no]) rfl ?_⟩
  rw [total_eq, total_head hl]
  exact (seq_nx (by rw [tl3_eq rfl]; exact e)).trans e4
end Lw

namespace Lw
open PySem PySem.Spec PyProof.Rows L2 J
/-! ### totals as told -/
theorem se_tr : gEq (.str "total") (.str "read") = some (.bl false) := g_eqS (by decide +kernel)
theorem se_tm : gEq (.str "total") (.str "made") = some (.bl false) := g_eqS (by decide +kernel)
theorem se_tt : gEq (.str "total") (.str "total") = some (.bl true) := g_eqS (by decide +kernel)
theorem tB_tot {x a2 : D} {r : Except Exn D} {E : J.Env} (e : F_M_Ratio_total [.val x] = toR r E) : toB (E7 (.val (.str "total")) (.val x) (.val a2) .no) = (match r with
    | .ok y => .nx (E7 (.val (.str "total")) (.val x) (.val a2) (.val y))
    | .error y => .exc y (E7 (.val (.str "total")) (.val x) (.val a2) .no)) := by
  cases r with
  | ok y => simp [toB, se_tr, se_tm, se_tt, ownsA, ndA, argS, backE, e, toR]
  | error y => simp [toB, se_tr, se_tm, se_tt, ownsA, ndA, argS, backE, e, toR]
theorem tot_N {x : D} {v : Int} (h : ∃ E, F_M_Ratio_total [.val x] = .exc (xN v) E) : F_L_told [.val (.str "total"), .val x, .val .non] = .ok (.v (nuD v)) (ev F_L_told [.val (.str "total"), .val x, .val .non]) := by
  obtain ⟨E, e⟩ := h
  exact of_ok (told_x (cl_N _ _ _ _ _) (tB_tot (a2 := .non) (r := .error (xN v)) e))
theorem tot_S {x : D} {v : Int} (h : ∃ E, F_M_Ratio_total [.val x] = .exc (xS v) E) : F_L_told [.val (.str "total"), .val x, .val .non] = .ok (.v (szD v)) (ev F_L_told [.val (.str "total"), .val x, .val .non]) := by
  obtain ⟨E, e⟩ := h
  exact of_ok (told_x (cl_S _ _ _ _ _) (tB_tot (a2 := .non) (r := .error (xS v)) e))
theorem tot_R {x : D} {n d : Int} (h : ∃ E, F_M_Ratio_total [.val x] = .ok (.v (rt n d)) E) : F_L_told [.val (.str "total"), .val x, .val .non] = .ok (.v (raD n d)) (ev F_L_told [.val (.str "total"), .val x, .val .non]) := by
  obtain ⟨E, e⟩ := h
  exact of_ok (told_r (tB_tot (a2 := .non) (r := .ok (rt n d)) e))
/-! ### the denominators -/
def k5 : List Int := [1, 3, 5, 9, 11]
def d5 : List Int := k5.map fun k => MAX - k
def d7 (b : Int) : List Int := d5 ++ [1 + b, MAX]
def d6 : List Int := d5 ++ [MAX]
def lcs : List Int → Nat
  | [] => 1
  | d :: r => Nat.lcm d.natAbs (lcs r)
theorem lcs_dvd : ∀ (r : List Int) {w : Int}, (∀ d ∈ r, d ∣ w) → ((lcs r : Nat) : Int) ∣ w
  | [], w, _ => Int.one_dvd w
  | d :: r, w, h => by
    have h1 := Int.natAbs_dvd_natAbs.mpr (h d (List.mem_cons_self))
    have h2 := Int.natAbs_dvd_natAbs.mpr (lcs_dvd r (fun x hx => h x (List.mem_cons_of_mem _ hx)))
    rw [Int.natAbs_natCast] at h2
    exact Int.natAbs_dvd_natAbs.mp (by rw [Int.natAbs_natCast]; exact Nat.lcm_dvd h1 h2)
theorem lcs6 : BT < ((lcs d6 : Nat) : Int) := by decide +kernel
def P5 : Int := (MAX - 1) * ((MAX - 3) * ((MAX - 5) * ((MAX - 9) * (MAX - 11))))
theorem P5_ok : 0 < P5 ∧ P5 ≤ BT := by decide +kernel
theorem P5_dv : ∀ d ∈ d5, d ∣ P5 := by
  intro d hd
  unfold P5
  simp only [d5, k5, List.map_cons, List.map_nil, List.mem_cons, List.not_mem_nil, or_false] at hd
  rcases hd with rfl | rfl | rfl | rfl | rfl
  · exact Int.dvd_mul_right _ _
  · exact Int.dvd_mul_of_dvd_right (Int.dvd_mul_right _ _)
  · exact Int.dvd_mul_of_dvd_right (Int.dvd_mul_of_dvd_right (Int.dvd_mul_right _ _))
  · exact Int.dvd_mul_of_dvd_right (Int.dvd_mul_of_dvd_right (Int.dvd_mul_of_dvd_right (Int.dvd_mul_right _ _)))
  · exact Int.dvd_mul_of_dvd_right (Int.dvd_mul_of_dvd_right (Int.dvd_mul_of_dvd_right (Int.dvd_mul_left _ _)))
theorem d5_in : ∀ d ∈ d5, 0 < d ∧ d ≤ MAX := by
  intro d hd
  have := MAX_pos
  simp only [d5, k5, List.map_cons, List.map_nil, List.mem_cons, List.not_mem_nil, or_false] at hd
  omega
theorem d7_in {b : Int} (hb : 1 ≤ b ∧ b ≤ 12) : ∀ d ∈ d7 b, 0 < d ∧ d ≤ MAX := by
  intro d hd
  have := MAX_pos
  rcases List.mem_append.mp hd with hd | hd
  · exact d5_in d hd
  · simp only [List.mem_cons, List.not_mem_nil, or_false] at hd
    omega
theorem lw7 {b : Int} (hb : 1 ≤ b ∧ b ≤ 12) : ∃ v, lw 1 (d7 b) = .error v := by
  cases h : lw 1 (d7 b) with
  | error v => exact ⟨v, rfl⟩
  | ok w =>
    have hB := BT_pos
    obtain ⟨_, h2, h3, h4⟩ := lw_ok (d7 b) (w := 1) (by decide) (fun d hd => (d7_in hb d hd).1) (by omega) h
    have h5 := lcs_dvd d6 (w := w) (fun d hd => by
      rcases List.mem_append.mp hd with hd | hd
      · exact h4 d (List.mem_append_left _ hd)
      · refine h4 d (List.mem_append_right _ ?_)
        rw [List.mem_singleton.mp hd]
        simp)
    have h6 := Int.le_of_dvd h2 h5
    have h7 := lcs6
    omega
def one (d : Int) : Int × Int := (1, d)
def neg (d : Int) : Int × Int := (-1, d)
theorem snd_one (l : List Int) : (l.map one).map Prod.snd = l := by rw [List.map_map]; exact List.map_id l
theorem snd_neg (l : List Int) : (l.map neg).map Prod.snd = l := by rw [List.map_map]; exact List.map_id l
theorem mk1 {d : Int} (n : Int) (hn : n = 1 ∨ n = -1) (h : 0 < d ∧ d ≤ MAX) : mkV n d = .ok (rt n d) := by
  have hM := MAX_pos
  have hg : g2 n d = 1 := by rcases hn with rfl | rfl <;> (unfold g2; simp)
  unfold mkV
  rw [if_neg (by omega), if_neg (by omega), (lo_low hg).1, (lo_low hg).2]
theorem lcm_q {w d : Int} (hw : 0 < w) (hd : 0 < d) : w / g2 w d * d = lcmI w d := by
  obtain ⟨a, ha⟩ := g2_l w d
  have hg := g2_pos (n := w) hd
  generalize hG : g2 w d = g at *
  have e : lcmI w d = a * d := by
    unfold lcmI
    have h1 : g.natAbs = Nat.gcd w.natAbs d.natAbs := by rw [← hG]; unfold g2; rw [Int.natAbs_natCast]
    have h2 : w.natAbs = g.natAbs * a.natAbs := by rw [ha, Int.natAbs_mul]
    have h3 : Nat.lcm w.natAbs d.natAbs = a.natAbs * d.natAbs := by
      unfold Nat.lcm
      rw [← h1, h2, Nat.mul_assoc, Nat.mul_div_cancel_left _ (by omega)]
    have ha0 : 0 < a := by
      rcases Int.lt_trichotomy a 0 with h | h | h
      · have := Int.mul_pos hg (show 0 < -a by omega); rw [Int.mul_neg] at this; omega
      · subst h; omega
      · exact h
    rw [h3, Int.natCast_mul, show ((a.natAbs : Nat) : Int) = a by omega, show ((d.natAbs : Nat) : Int) = d by omega]
  rw [e, ha, Int.mul_ediv_cancel_left _ (by omega)]
/-! ### the law's totals -/
def wB : J.Env → RS := (sIf (fTest (fop gLe (fVar 4) (fVar 2))) (sSet 4 (fBin T_op_mul gMulT (fop gDivP (fVar 4) (fCallR 2 F_L_common (xV (fVar 4) (xV (fVar 5) xNil)) rvD)) (fVar 5))) sNil)
def wt1 : J.Env → RS := (sSet 1 (fop gPowP (fop gPowP (fC (.int 10)) (fC (.int 50))) (fC (.int 40))))
def wt2 : J.Env → RS := (sSet 2 (fop gPowP (fop gPowP (fop gPowP (fC (.int 10)) (fC (.int 50))) (fC (.int 20))) (fC (.int 10))))
def wt3 : J.Env → RS := (sSet 3 (fBin T_op_add gAdd (fPub (fLc [7] (fun1L itemsD (fPub (fLst (fCons (fC (.int 1)) (fCons (fC (.int 3)) (fCons (fC (.int 5)) (fCons (fC (.int 9)) (fCons (fC (.int 11)) fNil)))))))) (gNm 7) fYes (fBin T_op_sub gSub (fVar 1) (fVar 7)))) (fPub (fLst (fCons (fBin T_op_add gAdd (fC (.int 1)) (fVar 0)) (fCons (fVar 1) fNil))))))
def wt4 : J.Env → RS := (sSet 4 (fC (.int 1)))
def wt5 : J.Env → RS := (sFor (fun1L itemsD (fVar 3)) (gNm 5) wB)
def wt6 : J.Env → RS := (sSetL 6 (fLc [5] (fun1L itemsD (fVar 3)) (gNm 5) fYes (fMake "Ratio" 3 F_M_Ratio_init [] (xV (fC (.int 1)) (xV (fVar 5) xNil)))))
def wr1 : J.Env → RS := (sIf (fTest (fop gNe (fCallR 3 F_L_told (xV (fC (.str "total")) (xV (fVar 6) (xV (fC .non) xNil))) rvD) (fTup (fCons (fC (.str "number")) (fCons (fVar 4) fNil))))) (sRet (fC (.bl false))) sNil)
def wr2 : J.Env → RS := (sIf (fTest (fop gNe (fCallR 3 F_L_told (xV (fC (.str "total")) (xV (fBin T_op_mul gMulT (fVar 6) (fC (.int 150))) (xV (fC .non) xNil))) rvD) (fTup (fCons (fC (.str "size")) (fCons (fC (.int 1050)) fNil))))) (sRet (fC (.bl false))) sNil)
def wr3 : J.Env → RS := (sIf (fTest (fop gLt (fVar 0) (fC (.int 9)))) (sRet (fC (.bl true))) sNil)
def wr4 : J.Env → RS := (sSet 6 (fBin T_op_add gAdd (fCut (fVar 6) (fun _ => some none) (fun E => intP ((fun _ => some (.int 5)) E))) (fPub (fLc [8] (fun1L itemsD (fCut (fVar 6) (fun _ => some none) (fun E => intP ((fun _ => some (.int 5)) E)))) (gNm 8) fYes (fUn T_un_neg gNeg (fVar 8))))))
def wr5 : J.Env → RS := (sRet (fBin T_eq_eq gEq (fCallR 3 F_L_told (xV (fC (.str "total")) (xV (fVar 6) (xV (fC .non) xNil))) rvD) (fTup (fCons (fC (.str "ratio")) (fCons (fC (.int 0)) (fCons (fC (.int 1)) fNil))))))
theorem wide_eq : f_L_wide_totals = sSeq wt1 (sSeq wt2 (sSeq wt3 (sSeq wt4 (sSeq wt5 (sSeq wt6 (fun E => (sSeq wr1 (sSeq wr2 (sSeq wr3 (sSeq wr4 wr5)))) (pubE 6 E))))))) := rfl
section
variable {b w : Int} {ds : List Int} {s5 s6 : Sl} {X : D}
abbrev W9 (b : Int) (s3 s4 s5 s6 : Sl) : J.Env := [.val (.int b), .val (.int MAX), .val (.int BT), s3, s4, s5, s6, .no, .no]
theorem pow10 : gPowP (.int M20) (.int 10) = some (.int BT) := by rw [g_powP _ _ (by decide +kernel)]; exact congrArg (fun z => some (D.int z)) (by decide +kernel)
theorem x1 : wt1 [.val (.int b), .no, .no, .no, .no, .no, .no, .no, .no] = .nx [.val (.int b), .val (.int MAX), .no, .no, .no, .no, .no, .no, .no] := by
  simp [wt1, pow50, pow40]
theorem x2 : wt2 [.val (.int b), .val (.int MAX), .no, .no, .no, .no, .no, .no, .no] = .nx (W9 b .no .no .no .no) := by
  simp [wt2, pow50, pow20, pow10]
theorem x3 : wt3 (W9 b .no .no .no .no) = .nx (W9 b (.val (.lst ((d7 b).map D.int))) .no .no .no) := by
  unfold wt3
  simp
  generalize hG : lcD _ _ _ _ _ _ _ = r
  have e := use_map hG D.int (fun k => D.int (MAX - k)) k5 rfl rfl (by decide) (fun x hx => ⟨_, [.val (.int b), .val (.int MAX), .val (.int BT), .no, .no, .no, .no, .val (.int x), .no], rfl, by simp, rfl⟩)
  subst e
  have ga := g_addL (k5.map fun k => D.int (MAX - k)) [.int (1 + b), .int MAX] (by simp [k5])
  have hm : (d7 b).map D.int = (k5.map fun k => D.int (MAX - k)) ++ [.int (1 + b), .int MAX] := by
    unfold d7 d5
    rw [List.map_append, List.map_map]
    rfl
  rw [hm]
  generalize (k5.map fun k => D.int (MAX - k)) = l at *
  simp [ga]
theorem x4 {s3 : Sl} : wt4 (W9 b s3 .no .no .no) = .nx (W9 b s3 (.val (.int 1)) .no .no) := by
  simp [wt4]
theorem w_step {s3 : Sl} {d : Int} (hw : 0 < w) (hd : 0 < d ∧ d ≤ MAX) : wB (W9 b s3 (.val (.int w)) (.val (.int d)) .no) = .nx (W9 b s3 (.val (.int (if w ≤ BT then lcmI w d else w))) (.val (.int d)) .no) := by
  by_cases h : w ≤ BT
  · rw [if_pos h]
    have c := e_common (a := w) (b := d) (by omega) (by omega)
    have hg := g2_pos (n := w) hd.1
    have hgd : g2 w d ≤ d := Int.le_of_dvd hd.1 (g2_r w d)
    have dv := g_divC w (g2 w d) hg (by omega)
    have hb : (w / g2 w d).natAbs < 2 ^ 90000 := by
      have h1 := Int.natAbs_ediv_le_natAbs w (g2 w d)
      have h2 := BT_big (by omega) h
      omega
    have m := g_mulC (w / g2 w d) d hb (M_big (by omega) hd.2)
    rw [lcm_q hw hd.1] at m
    simp [wB, h, c, dv, m, ownsA, ndA, argS, backE]
  · rw [if_neg h]
    simp [wB, h]
theorem w_loop {s3 : Sl} : ∀ (ds : List Int) {w : Int} {s5 : Sl}, 0 < w → (∀ d ∈ ds, 0 < d ∧ d ≤ MAX) → ∃ c, forD (gNm 5) wB (ds.map D.int) (W9 b s3 (.val (.int w)) s5 .no) = .nx (W9 b s3 (.val (.int (lf w ds))) c .no)
  | [], w, s5, _, _ => ⟨s5, rfl⟩
  | d :: ds, w, s5, hw, h => by
    have hd := h d (List.mem_cons_self)
    have e0 : forD (gNm 5) wB ((d :: ds).map D.int) (W9 b s3 (.val (.int w)) s5 .no) = (match wB (W9 b s3 (.val (.int w)) (.val (.int d)) .no) with
      | .nx E2 => forD (gNm 5) wB (ds.map D.int) E2
      | .ct E2 => forD (gNm 5) wB (ds.map D.int) E2
      | .bk E2 => .nx E2
      | r => r) := rfl
    rw [e0, w_step hw hd]
    exact w_loop ds (by split; exact lcmI_pos hw hd.1; exact hw) (fun x hx => h x (List.mem_cons_of_mem _ hx))
theorem x5 (h : ∀ d ∈ ds, 0 < d ∧ d ≤ MAX) : ∃ c, wt5 (W9 b (.val (.lst (ds.map D.int))) (.val (.int 1)) .no .no) = .nx (W9 b (.val (.lst (ds.map D.int))) (.val (.int (lf 1 ds))) c .no) := by
  obtain ⟨c, e⟩ := w_loop (b := b) (s3 := .val (.lst (ds.map D.int))) ds (w := 1) (s5 := .no) (by decide) h
  refine ⟨c, ?_⟩
  rw [← e]
  unfold wt5
  generalize ds.map D.int = l
  rw [u_sFor, u_fun1L]
  rfl
theorem x6 (h : ∀ d ∈ ds, 0 < d ∧ d ≤ MAX) (hl : ds.length ≤ 100) : ∃ c, wt6 (W9 b (.val (.lst (ds.map D.int))) (.val (.int w)) s5 .no) = .nx (W9 b (.val (.lst (ds.map D.int))) (.val (.int w)) c (.own false ((ds.map one).map rtP))) := by
  unfold wt6
  simp
  generalize hG : lcD _ _ _ _ _ _ _ = r
  obtain ⟨E', rfl, c', rfl⟩ := use_mapW (W9 b (.val (.lst (ds.map D.int))) (.val (.int w)) .no .no) hG D.int (fun d => rtP (one d)) ds rfl (fun E => ∃ c, E = W9 b (.val (.lst (ds.map D.int))) (.val (.int w)) c .no) ⟨s5, rfl⟩ ⟨.no, rfl⟩ rfl rfl (by omega) (fun d hd => by
    have e := fun E => mk_is 1 d E
    rw [mk1 1 (.inl rfl) (h d hd)] at e
    refine ⟨_, W9 b (.val (.lst (ds.map D.int))) (.val (.int w)) (.val (.int d)) .no, rfl, ?_, rfl⟩
    simp [e, toD, rtP, one])
  refine ⟨c', ?_⟩
  simp
theorem y1 {s3 : Sl} {v : Int} (h : F_L_told [.val (.str "total"), .val X, .val .non] = .ok (.v (nuD v)) (ev F_L_told [.val (.str "total"), .val X, .val .non])) : wr1 (W9 b s3 (.val (.int v)) s5 (.val X)) = .nx (W9 b s3 (.val (.int v)) s5 (.val X)) := by
  have q := ne_same (Fl.num v) (by decide)
  simp [wr1, h, ownsA, ndA, argS, backE, nuD, q]
theorem y2 {s3 s4 : Sl} {l : List D} (hl : l.length = 7) : wr2 (W9 b s3 s4 s5 (.val (.lst l))) = .nx (W9 b s3 s4 s5 (.val (.lst l))) := by
  have m := g_mulL l 150 (by rw [hl]; decide)
  have hk : (List.replicate (150 : Int).toNat l).flatten.length = 1050 := by
    rw [show (150 : Int).toNat = 150 from rfl, List.length_flatten, List.map_replicate, List.sum_replicate_nat, hl]
  generalize (List.replicate (150 : Int).toNat l).flatten = L at *
  have t := tot_S (x := .lst L) (total_x (by omega))
  rw [hk] at t
  have q := ne_same (Fl.siz 1050) (by decide)
  unfold szD at q
  simp [wr2, m, t, ownsA, ndA, argS, backE, szD, q]
theorem y3 {s3 s4 s6 : Sl} (h : ¬ b < 9) : wr3 (W9 b s3 s4 s5 s6) = .nx (W9 b s3 s4 s5 s6) := by
  simp [wr3, h]
theorem y3r {s3 s4 s6 : Sl} (h : b < 9) : wr3 (W9 b s3 s4 s5 s6) = .rt (.v (.bl true)) (W9 b s3 s4 s5 s6) := by
  simp [wr3, h]
theorem e_neg' {n d : Int} : F_M_Ratio_neg [.val (rt n d)] = toR (mkV (-n) d) (ev F_M_Ratio_neg [.val (rt n d)]) := by
  refine of_ex ?_
  have e := fun E => mk_is (-n) d E
  cases hv : mkV (-n) d with
  | error x => rw [hv] at e; simp [F_M_Ratio_neg, runF, f_M_Ratio_neg, e, toD, toR]
  | ok x => rw [hv] at e; simp [F_M_Ratio_neg, runF, f_M_Ratio_neg, e, toD, toR]
theorem y4 {s3 s4 s5 : Sl} {l : List D} (hl : l.take 5 = (d5.map one).map rtP) : ∃ c, wr4 (W9 b s3 s4 s5 (.val (.lst l))) = .nx [.val (.int b), .val (.int MAX), .val (.int BT), s3, s4, s5, .val (.lst ((d5.map one ++ d5.map neg).map rtP)), .no, c] := by
  have ga := g_addL ((d5.map one).map rtP) (d5.map fun d => rtP (neg d)) (by simp [d5, k5])
  have hm : (d5.map one ++ d5.map neg).map rtP = (d5.map one).map rtP ++ (d5.map fun d => rtP (neg d)) := by
    rw [List.map_append, List.map_map (l := d5) (f := neg)]
    rfl
  rw [hm]
  have c5 : gCut (.lst l) none (some 5) = some (.lst ((d5.map one).map rtP)) := by
    rw [← hl]
    exact congrArg (fun z => some (D.lst z)) (cut_pre l 5)
  have hA : (d5.map one).map rtP = d5.map fun d => rtP (one d) := List.map_map
  generalize (d5.map one).map rtP = A at *
  unfold wr4
  simp [c5, intP]
  generalize hG : lcD _ _ _ _ _ _ _ = r
  obtain ⟨E', rfl, c', rfl⟩ := use_mapW (W9 b s3 s4 s5 (.val (.lst l))) hG (fun d => rtP (one d)) (fun d => rtP (neg d)) d5 hA (fun E => ∃ c, E = [.val (.int b), .val (.int MAX), .val (.int BT), s3, s4, s5, .val (.lst l), .no, c]) ⟨.no, rfl⟩ ⟨.no, rfl⟩ rfl rfl (by decide) (fun d hd => by
    have e := e_neg' (n := 1) (d := d)
    rw [mk1 (-1) (.inr rfl) (d5_in d hd)] at e
    refine ⟨_, [.val (.int b), .val (.int MAX), .val (.int BT), s3, s4, s5, .val (.lst l), .no, .val (rt 1 d)], rfl, ?_, rfl⟩
    simp [rtP, one, neg, ownsA, ndA, argS, backE, e, toR])
  refine ⟨c', ?_⟩
  generalize (d5.map fun d => rtP (neg d)) = B at *
  simp [ga]
theorem sum10 (L : Int) : ((d5.map one ++ d5.map neg).map (partS L)).sum = 0 := by
  rw [List.map_append, List.sum_append, List.map_map, List.map_map]
  have h : ∀ l : List Int, (l.map (partS L ∘ one)).sum + (l.map (partS L ∘ neg)).sum = 0 := fun l => by
    induction l with
    | nil => rfl
    | cons d l ih =>
      rw [List.map_cons, List.map_cons, List.sum_cons, List.sum_cons]
      have h1 : (partS L ∘ one) d = L / d := by show 1 * (L / d) = _; omega
      have h2 : (partS L ∘ neg) d = -(L / d) := by show -1 * (L / d) = _; omega
      rw [h1, h2]
      omega
  exact h d5
theorem tot10 : F_L_told [.val (.str "total"), .val (.lst ((d5.map one ++ d5.map neg).map rtP)), .val .non] = .ok (.v (raD 0 1)) (ev F_L_told [.val (.str "total"), .val (.lst ((d5.map one ++ d5.map neg).map rtP)), .val .non]) := by
  have hs : (d5.map one ++ d5.map neg).map Prod.snd = d5 ++ d5 := by rw [List.map_append, snd_one, snd_neg]
  obtain ⟨L, hL⟩ := lw_fit P5_ok (d5 ++ d5) (w := 1) (by decide) (fun d hd => by
    have : d ∈ d5 := by rcases List.mem_append.mp hd with h | h <;> exact h
    exact ⟨(d5_in d this).1, P5_dv d this⟩) (Int.one_dvd _)
  rw [← hs] at hL
  refine tot_R (total_zero (by decide) (fun p hp => ?_) hL (sum10 L))
  rcases List.mem_append.mp hp with h | h
  · obtain ⟨d, hd, rfl⟩ := List.mem_map.mp h
    exact ⟨d5_in d hd, .inl rfl⟩
  · obtain ⟨d, hd, rfl⟩ := List.mem_map.mp h
    exact ⟨d5_in d hd, .inr rfl⟩
theorem y5 {s3 s4 s5 c : Sl} (h : F_L_told [.val (.str "total"), .val X, .val .non] = .ok (.v (raD 0 1)) (ev F_L_told [.val (.str "total"), .val X, .val .non])) : ∃ E, wr5 [.val (.int b), .val (.int MAX), .val (.int BT), s3, s4, s5, .val X, .no, c] = .rt (.v (.bl true)) E := by
  have q := eq_same (Fl.rat 0 1) (by decide)
  simp [wr5, h, ownsA, ndA, argS, backE, raD, q]
theorem d7_len (b : Int) : (((d7 b).map one).map rtP).length = 7 := by
  rw [List.length_map, List.length_map]
  rfl
theorem d7_take (b : Int) : (((d7 b).map one).map rtP).take 5 = (d5.map one).map rtP := by
  rw [← List.map_take, ← List.map_take]
  rfl
end
theorem p_wide {b : Int} (hb : 1 ≤ b ∧ b ≤ 12) : ∃ E, F_L_wide_totals [.val (.int b)] = .ok (.v (.bl true)) E := by
  have h7 := d7_in hb
  obtain ⟨v, hv⟩ := lw7 hb
  have hlf : lf 1 (d7 b) = v := lf_lw (d7 b) (by have := BT_pos; omega) hv
  obtain ⟨c5, e5⟩ := x5 (b := b) h7
  rw [hlf] at e5
  obtain ⟨c6, e6⟩ := x6 (b := b) (w := v) (s5 := c5) h7 (show (7 : Nat) ≤ 100 by decide)
  have t7 := tot_N (x := .lst (((d7 b).map one).map rtP)) (total_err (v := v) (by rw [List.length_map]; exact (show (7 : Nat) ≤ 1000 by decide)) (fun p hp => by
    obtain ⟨d, hd, rfl⟩ := List.mem_map.mp hp
    exact h7 d hd) (by rw [snd_one]; exact hv))
  have hl7 := d7_len b
  have e3 := x3 (b := b)
  have ht7 := d7_take b
  generalize ((d7 b).map one).map rtP = l at *
  generalize (d7 b).map D.int = l0 at *
  have pr : ∃ E, f_L_wide_totals [.val (.int b), .no, .no, .no, .no, .no, .no, .no, .no] = .rt (.v (.bl true)) E := by
    rw [wide_eq]
    have fin : ∀ c : Sl, ∃ E, (sSeq wr1 (sSeq wr2 (sSeq wr3 (sSeq wr4 wr5)))) (W9 b (.val (.lst l0)) (.val (.int v)) c (.val (.lst l))) = .rt (.v (.bl true)) E := fun c => by
      rw [seq_nx (y1 t7), seq_nx (y2 hl7)]
      by_cases h9 : b < 9
      · exact ⟨_, seq_rt (y3r h9)⟩
      · rw [seq_nx (y3 h9)]
        obtain ⟨c2, e4⟩ := y4 (b := b) (s3 := .val (.lst l0)) (s4 := .val (.int v)) (s5 := c) ht7
        rw [seq_nx e4]
        exact y5 tot10
    obtain ⟨E, e⟩ := fin c6
    exact ⟨E, (seq_nx x1).trans ((seq_nx x2).trans ((seq_nx e3).trans ((seq_nx x4).trans ((seq_nx e5).trans ((seq_nx e6).trans e)))))⟩
  obtain ⟨E, e⟩ := pr
  exact ⟨E, runF_rt rfl e⟩
end Lw

namespace Lw
open PySem PySem.Spec PyProof.Rows L2 J
/-! ### bounds passed by 1 to 12 -/
def isT : J.R RV → Bool
  | .ok (.v (.bl true)) _ => true
  | _ => false
theorem isT_ex {r : J.R RV} (h : isT r = true) : ∃ E, r = .ok (.v (.bl true)) E := by
  cases r with
  | ok v E =>
    cases v with
    | v d =>
      cases d with
      | bl b => cases b with
        | true => exact ⟨E, rfl⟩
        | false => cases h
      | _ => cases h
    | l d => cases h
  | exc x E => cases h
  | stuck => cases h
theorem made1 : isT (F_L_made [.val (.int 1)]) = true := by decide +kernel
theorem resu1 : isT (F_L_results [.val (.int 1)]) = true := by decide +kernel
theorem made2 : isT (F_L_made [.val (.int 2)]) = true := by decide +kernel
theorem resu2 : isT (F_L_results [.val (.int 2)]) = true := by decide +kernel
theorem made3 : isT (F_L_made [.val (.int 3)]) = true := by decide +kernel
theorem resu3 : isT (F_L_results [.val (.int 3)]) = true := by decide +kernel
theorem made4 : isT (F_L_made [.val (.int 4)]) = true := by decide +kernel
theorem resu4 : isT (F_L_results [.val (.int 4)]) = true := by decide +kernel
theorem made5 : isT (F_L_made [.val (.int 5)]) = true := by decide +kernel
theorem resu5 : isT (F_L_results [.val (.int 5)]) = true := by decide +kernel
theorem made6 : isT (F_L_made [.val (.int 6)]) = true := by decide +kernel
theorem resu6 : isT (F_L_results [.val (.int 6)]) = true := by decide +kernel
theorem made7 : isT (F_L_made [.val (.int 7)]) = true := by decide +kernel
theorem resu7 : isT (F_L_results [.val (.int 7)]) = true := by decide +kernel
theorem made8 : isT (F_L_made [.val (.int 8)]) = true := by decide +kernel
theorem resu8 : isT (F_L_results [.val (.int 8)]) = true := by decide +kernel
theorem made9 : isT (F_L_made [.val (.int 9)]) = true := by decide +kernel
theorem resu9 : isT (F_L_results [.val (.int 9)]) = true := by decide +kernel
theorem made10 : isT (F_L_made [.val (.int 10)]) = true := by decide +kernel
theorem resu10 : isT (F_L_results [.val (.int 10)]) = true := by decide +kernel
theorem made11 : isT (F_L_made [.val (.int 11)]) = true := by decide +kernel
theorem resu11 : isT (F_L_results [.val (.int 11)]) = true := by decide +kernel
theorem made12 : isT (F_L_made [.val (.int 12)]) = true := by decide +kernel
theorem resu12 : isT (F_L_results [.val (.int 12)]) = true := by decide +kernel
theorem p_made {b : Int} (hb : 1 ≤ b ∧ b ≤ 12) : (∃ E, F_L_made [.val (.int b)] = .ok (.v (.bl true)) E) ∧ ∃ E, F_L_results [.val (.int b)] = .ok (.v (.bl true)) E := by
  have : b = 1 ∨ b = 2 ∨ b = 3 ∨ b = 4 ∨ b = 5 ∨ b = 6 ∨ b = 7 ∨ b = 8 ∨ b = 9 ∨ b = 10 ∨ b = 11 ∨ b = 12 := by omega
  rcases this with rfl | rfl | rfl | rfl | rfl | rfl | rfl | rfl | rfl | rfl | rfl | rfl
  · exact ⟨isT_ex made1, isT_ex resu1⟩
  · exact ⟨isT_ex made2, isT_ex resu2⟩
  · exact ⟨isT_ex made3, isT_ex resu3⟩
  · exact ⟨isT_ex made4, isT_ex resu4⟩
  · exact ⟨isT_ex made5, isT_ex resu5⟩
  · exact ⟨isT_ex made6, isT_ex resu6⟩
  · exact ⟨isT_ex made7, isT_ex resu7⟩
  · exact ⟨isT_ex made8, isT_ex resu8⟩
  · exact ⟨isT_ex made9, isT_ex resu9⟩
  · exact ⟨isT_ex made10, isT_ex resu10⟩
  · exact ⟨isT_ex made11, isT_ex resu11⟩
  · exact ⟨isT_ex made12, isT_ex resu12⟩
end Lw

namespace Lw
open PySem PySem.Spec PyProof.Rows L2 J
/-! ### the law -/
def la1 : J.Env → RS := (sSetL 1 (fCallR 1 F_L_tape (xV (fVar 0) xNil) rvL))
def la2 : J.Env → RS := (sSet 2 (fop gMulT (fop gIx (fPub (fLst (fCons (fC (.int 1)) (fCons (fun1 gNeg (fC (.int 1))) fNil)))) (fCallR 3 F_L_take (xO 1 (xV (fC (.int 2)) (xV (fC (.int 1)) xNil))) rvD)) (fCallR 2 F_L_number (xO 1 (xV (fC (.int 2)) xNil)) rvD)))
def la3 : J.Env → RS := (sAsg (fCallR 2 F_L_lowest (xV (fVar 2) (xV (fop gMax2 (fC (.int 1)) (fCallR 2 F_L_number (xO 1 (xV (fC (.int 4)) xNil)) rvD)) xNil)) rvD) (gTup2 (gsCons (gNm 3) (gsCons (gNm 4) gsNil))))
def la4 : J.Env → RS := (sIf (fNot (fTru (fCallR 2 F_L_both_ways (xV (fVar 3) (xV (fVar 4) xNil)) rvD))) (sRet (fC (.bl false))) sNil)
def la5 : J.Env → RS := (sSet 5 (fCallR 2 F_L_text (xV (fVar 3) (xV (fVar 4) xNil)) rvD))
def la6 : J.Env → RS := (sSetL 6 (fLst (fCons (fCallR 3 F_L_spoilt (xO 1 (xV (fVar 5) (xV (fC (.int 3)) xNil))) rvD) (fCons (fCallR 3 F_L_spoilt (xO 1 (xV (fVar 5) (xV (fC (.int 0)) xNil))) rvD) (fCons (fVar 5) fNil)))))
def la7 : J.Env → RS := (sSet 7 (fop gIx (fPub (fLst (fCons (fC (.int 1)) (fCons (fun1 gNeg (fC (.int 1))) fNil)))) (fCallR 3 F_L_take (xO 1 (xV (fC (.int 2)) (xV (fC (.int 1)) xNil))) rvD)))
def la8 : J.Env → RS := (sSet 2 (fop gMulT (fCallR 3 F_L_take (xO 1 (xV (fC (.int 12)) (xV (fC (.int 1)) xNil))) rvD) (fC (.int 12))))
def la9 : J.Env → RS := (sSet 2 (fop gAdd (fVar 2) (fCallR 3 F_L_take (xO 1 (xV (fC (.int 12)) (xV (fC (.int 2)) xNil))) rvD)))
def la10 : J.Env → RS := (sSet 8 (fop gAdd (fC (.int 1)) (fop gMulT (fCallR 3 F_L_take (xO 1 (xV (fC (.int 12)) (xV (fC (.int 0)) xNil))) rvD) (fC (.int 12)))))
def la11 : J.Env → RS := (sSet 8 (fop gAdd (fVar 8) (fCallR 3 F_L_take (xO 1 (xV (fC (.int 12)) (xV (fC (.int 3)) xNil))) rvD)))
def la12 : J.Env → RS := (sAsg (fCallR 2 F_L_lowest (xV (fop gMulT (fVar 7) (fVar 2)) (xV (fVar 8) xNil)) rvD) (gTup2 (gsCons (gNm 3) (gsCons (gNm 4) gsNil))))
def la13 : J.Env → RS := (sIf (fNot (fTru (fCallR 2 F_L_both_ways (xV (fVar 3) (xV (fVar 4) xNil)) rvD))) (sRet (fC (.bl false))) sNil)
def la14 : J.Env → RS := (sSet 9 (fCallR 2 F_L_text (xV (fVar 3) (xV (fVar 4) xNil)) rvD))
def la15 : J.Env → RS := (sApp 6 (fVar 9))
def la16 : J.Env → RS := (sFor (fRng1 (fC (.int 3))) (gNm 10) (sApp 6 (fCallR 3 F_L_spoilt (xO 1 (xV (fVar 9) (xV (fop gMulT (fC (.int 5)) (fVar 10)) xNil))) rvD)))
def la17 : J.Env → RS := (sApp 6 (fCallR 3 F_L_spoilt (xO 1 (xV (fopB gIx (fBor 6) (fun E => ((fun _ => some (.int 1)) E).bind gNeg)) (xV (fC (.int 7)) xNil))) rvD))
def la18 : J.Env → RS := (sApp 6 (fVar 9))
def la19 : J.Env → RS := (sFor (fun1L itemsD (fVar 6)) (gNm 11) (sIf (fTest (fop gNe (fCallR 3 F_L_told (xV (fC (.str "read")) (xV (fVar 11) (xV (fC .non) xNil))) rvD) (fCallR 1 F_L_reading (xV (fVar 11) xNil) rvD))) (sRet (fC (.bl false))) sNil))
def la20 : J.Env → RS := (sSet 12 (fCallR 3 F_L_take (xO 1 (xV (fC (.int 12)) (xV (fC (.int 0)) xNil))) rvD))
def la21 : J.Env → RS := (sAsg (fCallR 2 F_L_edge (xV (fVar 12) (xV (fop gAdd (fC (.int 1)) (fCallR 3 F_L_take (xO 1 (xV (fC (.int 9)) (xV (fC (.int 0)) xNil))) rvD)) xNil)) rvD) (gTup2 (gsCons (gNm 11) (gsCons (gNm 13) gsNil))))
def la22 : J.Env → RS := (sIf (fTest (fop gNe (fCallR 3 F_L_told (xV (fC (.str "read")) (xV (fVar 11) (xV (fC .non) xNil))) rvD) (fVar 13))) (sRet (fC (.bl false))) sNil)
def la23 : J.Env → RS := (sSet 14 (fop gAdd (fC (.int 1)) (fCallR 3 F_L_take (xO 1 (xV (fC (.int 12)) (xV (fC (.int 0)) xNil))) rvD)))
def la24 : J.Env → RS := (sIf (fOr (fNot (fTru (fCallR 1 F_L_made (xV (fVar 14) xNil) rvD))) (fNot (fTru (fCallR 1 F_L_results (xV (fVar 14) xNil) rvD)))) (sRet (fC (.bl false))) sNil)
def la25 : J.Env → RS := (sIf (fNot (fTru (fCallR 1 F_L_wide_totals (xV (fVar 14) xNil) rvD))) (sRet (fC (.bl false))) sNil)
def la26 : J.Env → RS := (sRet (fop gEq (fCallR 3 F_L_told (xV (fC (.str "read")) (xV (fVar 9) (xV (fC .non) xNil))) rvD) (fTup (fCons (fC (.str "ratio")) (fCons (fVar 3) (fCons (fVar 4) fNil))))))
def lB : J.Env → RS := (sSeq la19 (sSeq la20 (sSeq la21 (sSeq la22 (sSeq la23 (sSeq la24 (sSeq la25 la26)))))))
theorem law_eq : f_law = (sSeq la1 (sSeq la2 (sSeq la3 (sSeq la4 (sSeq la5 (sSeq la6 (sSeq la7 (sSeq la8 (sSeq la9 (sSeq la10 (sSeq la11 (sSeq la12 (sSeq la13 (sSeq la14 (sSeq la15 (sSeq la16 (sSeq la17 (sSeq la18 (fun E => lB (pubE 6 E)))))))))))))))))))) := rfl
abbrev Q15 (s0 : Sl) (ds : List Int) (s2 s3 s4 s5 s6 s7 s8 s9 s10 s11 s12 s13 s14 : Sl) : J.Env := [s0, .own false (iD ds), s2, s3, s4, s5, s6, s7, s8, s9, s10, s11, s12, s13, s14]
section
variable {s0 s2 s3 s4 s5 s6 s7 s8 s9 s10 s11 s12 s13 s14 : Sl} {ds : List Int}
theorem z1 (ns : List Int) : ∃ ds, la1 [.val (.rol (ns.map J.D.int)), .no, .no, .no, .no, .no, .no, .no, .no, .no, .no, .no, .no, .no, .no] = .nx (Q15 (.val (.rol (ns.map J.D.int))) ds .no .no .no .no .no .no .no .no .no .no .no .no .no) := by
  obtain ⟨ds, ET, et, _, _⟩ := p_tape ns
  have et : F_L_tape [.val (.rol (ns.map J.D.int))] = .ok (.l (iD ds)) ET := et
  refine ⟨ds, ?_⟩
  generalize (J.D.rol (ns.map J.D.int)) = R0 at *
  simp [la1, et, ownsA, ndA, argS, backE]
theorem z2 : ∃ x ds', la2 (Q15 s0 ds s2 s3 s4 s5 s6 s7 s8 s9 s10 s11 s12 s13 s14) = .nx (Q15 s0 ds' (.val (.int x)) s3 s4 s5 s6 s7 s8 s9 s10 s11 s12 s13 s14) ∧ inB x := by
  obtain ⟨c, hc, hc1⟩ := sg_ix ⟨dig_nn ds (m := 2) 1 (by decide), dig_lt ds (m := 2) 1 (by decide)⟩
  obtain ⟨x, ds', E', e, h1, h2⟩ := e_number ds.dropLast 2
  have hx : inB x := ⟨by omega, h2⟩
  have m := g_mulB c x (inB_big (by rcases hc1 with rfl | rfl; exact inB_1; exact inB_neg inB_1)) (inB_big hx)
  refine ⟨c * x, ds', ?_, ?_⟩
  · simp [la2, ownsA, ndA, argS, backE, hc, e, m]
  · rcases hc1 with rfl | rfl
    · rw [Int.one_mul]; exact hx
    · rw [Int.neg_mul, Int.one_mul]; exact inB_neg hx
theorem z3 {x : Int} (hx : inB x) : ∃ n d ds', la3 (Q15 s0 ds (.val (.int x)) s3 s4 s5 s6 s7 s8 s9 s10 s11 s12 s13 s14) = .nx (Q15 s0 ds' (.val (.int x)) (.val (.int n)) (.val (.int d)) s5 s6 s7 s8 s9 s10 s11 s12 s13 s14) ∧ Lo n d := by
  obtain ⟨y, ds', E', e, h1, h2⟩ := e_number ds 4
  obtain ⟨D, hD, h3⟩ := ex_max ⟨h1, h2⟩
  have l := e_lowest hx h3
  refine ⟨loN x D, loD x D, ds', ?_, Lo.of hx h3⟩
  simp [la3, ownsA, ndA, argS, backE, e, hD, l]
theorem z4 {n d : Int} (h : Lo n d) : la4 (Q15 s0 ds s2 (.val (.int n)) (.val (.int d)) s5 s6 s7 s8 s9 s10 s11 s12 s13 s14) = .nx (Q15 s0 ds s2 (.val (.int n)) (.val (.int d)) s5 s6 s7 s8 s9 s10 s11 s12 s13 s14) := by
  obtain ⟨E, e⟩ := p_both h
  simp [la4, ownsA, ndA, argS, backE, e]
theorem z5 {n d : Int} (h : Lo n d) : la5 (Q15 s0 ds s2 (.val (.int n)) (.val (.int d)) s5 s6 s7 s8 s9 s10 s11 s12 s13 s14) = .nx (Q15 s0 ds s2 (.val (.int n)) (.val (.int d)) (.val (.str (txZ n d))) s6 s7 s8 s9 s10 s11 s12 s13 s14) := by
  have e := e_text h.bd h.nl h.dl
  simp [la5, ownsA, ndA, argS, backE, e]
/-- texts that are read -/
def Tz (m : Nat) (z : Str) : Prop := z.length ≤ m ∧ ∀ c ∈ z.cps.toList, c < CP
theorem Tz.mono {m k : Nat} {z : Str} (h : Tz m z) (hk : m ≤ k) : Tz k z := ⟨Nat.le_trans h.1 hk, h.2⟩
theorem Tz.tx {n d : Int} (h : Lo n d) : Tz 4004 (txZ n d) := ⟨h.len, tx_cp n d⟩
theorem ex_sp {z : Str} {m : Nat} (salt : Int) (ds : List Int) (h : Tz m z) (hm : m ≤ 9000) : ∃ z' ds' E', F_L_spoilt [.own true (iD ds), .val (.str z), .val (.int salt)] = .ok (.v (.str z')) (.own true (iD ds') :: E') ∧ Tz (m + 1) z' := by
  obtain ⟨z', ds', E', e, h1, h2⟩ := e_spoilt salt ds (Nat.le_trans h.1 (by omega)) h.2
  exact ⟨z', ds', E', e, by have := h.1; omega, h2⟩
def Tzs (zs : List Str) : Prop := ∀ z ∈ zs, Tz 4100 z
theorem Tzs.app {zs : List Str} {z : Str} (h : Tzs zs) (hz : Tz 4100 z) : Tzs (zs ++ [z]) := fun y hy => by
  rcases List.mem_append.mp hy with hy | hy
  · exact h y hy
  · rw [List.mem_singleton.mp hy]; exact hz
theorem z6 {z : Str} (h : Tz 4004 z) : ∃ zs ds', la6 (Q15 s0 ds s2 s3 s4 (.val (.str z)) s6 s7 s8 s9 s10 s11 s12 s13 s14) = .nx (Q15 s0 ds' s2 s3 s4 (.val (.str z)) (.own false (zs.map D.str)) s7 s8 s9 s10 s11 s12 s13 s14) ∧ Tzs zs ∧ zs.length ≤ 100 := by
  obtain ⟨a, ds1, E1, e1, h1⟩ := ex_sp 3 ds h (by decide)
  obtain ⟨b, ds2, E2, e2, h2⟩ := ex_sp 0 ds1 h (by decide)
  refine ⟨[a, b, z], ds2, ?_, fun y hy => ?_, by simp⟩
  · simp [la6, ownsA, ndA, argS, backE, e1, e2]
  · simp only [List.mem_cons, List.not_mem_nil, or_false] at hy
    rcases hy with rfl | rfl | rfl
    · exact h1.mono (by decide)
    · exact h2.mono (by decide)
    · exact h.mono (by decide)
theorem z7 : ∃ c ds', la7 (Q15 s0 ds s2 s3 s4 s5 s6 s7 s8 s9 s10 s11 s12 s13 s14) = .nx (Q15 s0 ds' s2 s3 s4 s5 s6 (.val (.int c)) s8 s9 s10 s11 s12 s13 s14) ∧ (c = 1 ∨ c = -1) := by
  obtain ⟨c, hc, hc1⟩ := sg_ix ⟨dig_nn ds (m := 2) 1 (by decide), dig_lt ds (m := 2) 1 (by decide)⟩
  refine ⟨c, ds.dropLast, ?_, hc1⟩
  simp [la7, ownsA, ndA, argS, backE, hc]
theorem z8 : ∃ x ds', la8 (Q15 s0 ds s2 s3 s4 s5 s6 s7 s8 s9 s10 s11 s12 s13 s14) = .nx (Q15 s0 ds' (.val (.int x)) s3 s4 s5 s6 s7 s8 s9 s10 s11 s12 s13 s14) ∧ 0 ≤ x ∧ x ≤ 132 := by
  have v1 := dig_nn ds (m := 12) 1 (by decide)
  have v2 := dig_lt ds (m := 12) 1 (by decide)
  have m := g_mul (dig ds 12 1) 12 (by omega) (by decide)
  refine ⟨dig ds 12 1 * 12, ds.dropLast, ?_, by omega, by omega⟩
  simp [la8, ownsA, ndA, argS, backE, m]
theorem z9 {x : Int} (hx : 0 ≤ x ∧ x ≤ 132) : ∃ y ds', la9 (Q15 s0 ds (.val (.int x)) s3 s4 s5 s6 s7 s8 s9 s10 s11 s12 s13 s14) = .nx (Q15 s0 ds' (.val (.int y)) s3 s4 s5 s6 s7 s8 s9 s10 s11 s12 s13 s14) ∧ 0 ≤ y ∧ y ≤ 144 := by
  have v1 := dig_nn ds (m := 12) 2 (by decide)
  have v2 := dig_lt ds (m := 12) 2 (by decide)
  refine ⟨x + dig ds 12 2, ds.dropLast, ?_, by omega, by omega⟩
  simp [la9, ownsA, ndA, argS, backE]
theorem z10 : ∃ x ds', la10 (Q15 s0 ds s2 s3 s4 s5 s6 s7 s8 s9 s10 s11 s12 s13 s14) = .nx (Q15 s0 ds' s2 s3 s4 s5 s6 s7 (.val (.int x)) s9 s10 s11 s12 s13 s14) ∧ 1 ≤ x ∧ x ≤ 133 := by
  have v1 := dig_nn ds (m := 12) 0 (by decide)
  have v2 := dig_lt ds (m := 12) 0 (by decide)
  have m := g_mul (dig ds 12 0) 12 (by omega) (by decide)
  refine ⟨1 + dig ds 12 0 * 12, ds.dropLast, ?_, by omega, by omega⟩
  simp [la10, ownsA, ndA, argS, backE, m]
theorem z11 {x : Int} (hx : 1 ≤ x ∧ x ≤ 133) : ∃ y ds', la11 (Q15 s0 ds s2 s3 s4 s5 s6 s7 (.val (.int x)) s9 s10 s11 s12 s13 s14) = .nx (Q15 s0 ds' s2 s3 s4 s5 s6 s7 (.val (.int y)) s9 s10 s11 s12 s13 s14) ∧ 1 ≤ y ∧ y ≤ 150 := by
  have v1 := dig_nn ds (m := 12) 3 (by decide)
  have v2 := dig_lt ds (m := 12) 3 (by decide)
  refine ⟨x + dig ds 12 3, ds.dropLast, ?_, by omega, by omega⟩
  simp [la11, ownsA, ndA, argS, backE]
theorem z12 {c x y : Int} (hc : c = 1 ∨ c = -1) (hx : 0 ≤ x ∧ x ≤ 144) (hy : 1 ≤ y ∧ y ≤ 150) : ∃ n d, la12 (Q15 s0 ds (.val (.int x)) s3 s4 s5 s6 (.val (.int c)) (.val (.int y)) s9 s10 s11 s12 s13 s14) = .nx (Q15 s0 ds (.val (.int x)) (.val (.int n)) (.val (.int d)) s5 s6 (.val (.int c)) (.val (.int y)) s9 s10 s11 s12 s13 s14) ∧ Lo n d := by
  have hM := MAX_pos
  have m := g_mul c x (by omega) (by omega)
  have hb : inB (c * x) := by rcases hc with rfl | rfl <;> exact ⟨by omega, by omega⟩
  have hd : 0 < y ∧ y ≤ MAX := by omega
  have l := e_lowest hb hd
  refine ⟨loN (c * x) y, loD (c * x) y, ?_, Lo.of hb hd⟩
  simp [la12, ownsA, ndA, argS, backE, m, l]
theorem z13 {n d : Int} (h : Lo n d) : la13 (Q15 s0 ds s2 (.val (.int n)) (.val (.int d)) s5 s6 s7 s8 s9 s10 s11 s12 s13 s14) = .nx (Q15 s0 ds s2 (.val (.int n)) (.val (.int d)) s5 s6 s7 s8 s9 s10 s11 s12 s13 s14) := by
  obtain ⟨E, e⟩ := p_both h
  simp [la13, ownsA, ndA, argS, backE, e]
theorem z14 {n d : Int} (h : Lo n d) : la14 (Q15 s0 ds s2 (.val (.int n)) (.val (.int d)) s5 s6 s7 s8 s9 s10 s11 s12 s13 s14) = .nx (Q15 s0 ds s2 (.val (.int n)) (.val (.int d)) s5 s6 s7 s8 (.val (.str (txZ n d))) s10 s11 s12 s13 s14) := by
  have e := e_text h.bd h.nl h.dl
  simp [la14, ownsA, ndA, argS, backE, e]
theorem app1 (zs : List Str) (z : Str) : zs.map D.str ++ [.str z] = (zs ++ [z]).map D.str := by rw [List.map_append]; rfl
theorem z15 {zs : List Str} {z : Str} (hl : zs.length ≤ 1000) : la15 (Q15 s0 ds s2 s3 s4 s5 (.own false (zs.map D.str)) s7 s8 (.val (.str z)) s10 s11 s12 s13 s14) = .nx (Q15 s0 ds s2 s3 s4 s5 (.own false ((zs ++ [z]).map D.str)) s7 s8 (.val (.str z)) s10 s11 s12 s13 s14) := by
  have h : (zs.map D.str).length < 16777216 := by rw [List.length_map]; omega
  rw [← app1]
  generalize zs.map D.str = l at *
  simp [la15, h]
theorem z18 {zs : List Str} {z : Str} (hl : zs.length ≤ 2000) : la18 (Q15 s0 ds s2 s3 s4 s5 (.own false (zs.map D.str)) s7 s8 (.val (.str z)) s10 s11 s12 s13 s14) = .nx (Q15 s0 ds s2 s3 s4 s5 (.own false ((zs ++ [z]).map D.str)) s7 s8 (.val (.str z)) s10 s11 s12 s13 s14) := by
  have h : (zs.map D.str).length < 16777216 := by rw [List.length_map]; omega
  rw [← app1]
  generalize zs.map D.str = l at *
  simp [la18, h]
def ls16 : J.Env → RS := (sApp 6 (fCallR 3 F_L_spoilt (xO 1 (xV (fVar 9) (xV (fop gMulT (fC (.int 5)) (fVar 10)) xNil))) rvD))
theorem la16_eq : la16 = sFor (fRng1 (fC (.int 3))) (gNm 10) ls16 := rfl
theorem z16 {zs : List Str} {z : Str} (hz : Tz 4004 z) (hs : Tzs zs) (hl : zs.length ≤ 1000) : ∃ zs' ds' c, la16 (Q15 s0 ds s2 s3 s4 s5 (.own false (zs.map D.str)) s7 s8 (.val (.str z)) s10 s11 s12 s13 s14) = .nx (Q15 s0 ds' s2 s3 s4 s5 (.own false (zs'.map D.str)) s7 s8 (.val (.str z)) c s11 s12 s13 s14) ∧ (Tzs zs' ∧ zs'.length ≤ 1010 ∧ ∃ y r, zs' = r ++ [y] ∧ Tz 4005 y) := by
  have hsm : smI 3 = true := by decide
  have main : ∃ zs' ds' c, forD (gNm 10) ls16 (upD 0 3) (Q15 s0 ds s2 s3 s4 s5 (.own false (zs.map D.str)) s7 s8 (.val (.str z)) s10 s11 s12 s13 s14) = .nx (Q15 s0 ds' s2 s3 s4 s5 (.own false (zs'.map D.str)) s7 s8 (.val (.str z)) c s11 s12 s13 s14) ∧ (Tzs zs' ∧ zs'.length ≤ 1010 ∧ ∃ y r, zs' = r ++ [y] ∧ Tz 4005 y) := by
    generalize hF : forD _ _ _ _ = r
    obtain ⟨E', rfl, ds', zs', c, h1, h2, h3, rfl⟩ := use_for hF (fun i E => ∃ (ds : List Int) (zs : List Str) (c : Sl), Tzs zs ∧ zs.length ≤ 1000 + i ∧ (0 < i → ∃ y r, zs = r ++ [y] ∧ Tz 4005 y) ∧ E = Q15 s0 ds s2 s3 s4 s5 (.own false (zs.map D.str)) s7 s8 (.val (.str z)) c s11 s12 s13 s14) ⟨ds, zs, s10, hs, hl, by intro h; omega, rfl⟩ (by
      rintro i hi E ⟨ds, zs, c, h1, h2, h3, rfl⟩
      have hi : i < 3 := by simpa using hi
      have m := g_mul 5 (i : Nat) (by decide) (by omega)
      obtain ⟨y, ds', E1, e1, h4⟩ := ex_sp (5 * (i : Nat)) ds hz (by decide)
      have h : (zs.map D.str).length < 16777216 := by rw [List.length_map]; omega
      refine ⟨Q15 s0 ds' s2 s3 s4 s5 (.own false ((zs ++ [y]).map D.str)) s7 s8 (.val (.str z)) (.val (.int (i : Nat))) s11 s12 s13 s14, ?_, ds', zs ++ [y], _, h1.app (h4.mono (by decide)), ?_, fun _ => ⟨y, zs, rfl, h4⟩, rfl⟩
      · rw [← app1]
        generalize zs.map D.str = l at *
        simp [stF, ls16, m, ownsA, ndA, argS, backE, e1, h]
      · rw [List.length_append, List.length_singleton]; omega)
    have hlen : (upD 0 3).length = 3 := rfl
    rw [hlen] at h2 h3
    exact ⟨zs', ds', c, rfl, h1, by omega, h3 (by omega)⟩
  obtain ⟨zs', ds', c, e, h⟩ := main
  refine ⟨zs', ds', c, ?_, h⟩
  rw [← e, la16_eq, u_sFor]
  generalize zs.map D.str = l
  simp [hsm]
theorem z17 {zs : List Str} (hs : Tzs zs) (hl : zs.length ≤ 1010) (hy : ∃ y r, zs = r ++ [y] ∧ Tz 4005 y) : ∃ zs' ds', la17 (Q15 s0 ds s2 s3 s4 s5 (.own false (zs.map D.str)) s7 s8 s9 s10 s11 s12 s13 s14) = .nx (Q15 s0 ds' s2 s3 s4 s5 (.own false (zs'.map D.str)) s7 s8 s9 s10 s11 s12 s13 s14) ∧ Tzs zs' ∧ zs'.length ≤ 1011 := by
  obtain ⟨y, r, rfl, hy⟩ := hy
  obtain ⟨x, ds', E1, e1, h4⟩ := ex_sp 7 ds hy (by decide)
  have h : ((r ++ [y]).map D.str).length < 16777216 := by rw [List.length_map]; omega
  have ix : gIx (.lst ((r ++ [y]).map D.str)) (.int (-1)) = some (.str y) := by
    show L2.atI ((r ++ [y]).map D.str) (-1) = _
    unfold L2.atI L2.ixN
    rw [if_neg (by decide), List.length_map, List.length_append, List.length_singleton, if_pos (by omega)]
    show ((r ++ [y]).map D.str)[((-1 : Int) + ((r.length + 1 : Nat) : Int)).toNat]? = _
    rw [show ((-1 : Int) + ((r.length + 1 : Nat) : Int)).toNat = r.length by omega, List.getElem?_map, List.getElem?_append_right (Nat.le_refl _), Nat.sub_self]
    rfl
  refine ⟨(r ++ [y]) ++ [x], ds', ?_, hs.app (h4.mono (by decide)), by rw [List.length_append, List.length_singleton]; omega⟩
  rw [show ((r ++ [y]) ++ [x]).map D.str = (r ++ [y]).map D.str ++ [.str x] from (app1 _ _).symm]
  generalize (r ++ [y]).map D.str = l at *
  simp [la17, ix, ownsA, ndA, argS, backE, e1, h]
def tsB : J.Env → RS := (sIf (fTest (fop gNe (fCallR 3 F_L_told (xV (fC (.str "read")) (xV (fVar 11) (xV (fC .non) xNil))) rvD) (fCallR 1 F_L_reading (xV (fVar 11) xNil) rvD))) (sRet (fC (.bl false))) sNil)
theorem la19_eq : la19 = sFor (fun1L itemsD (fVar 6)) (gNm 11) tsB := rfl
theorem ts_loop : ∀ (zs : List Str) (s11 : Sl), Tzs zs → ∃ c, forD (gNm 11) tsB (zs.map D.str) (Q15 s0 ds s2 s3 s4 s5 s6 s7 s8 s9 s10 s11 s12 s13 s14) = .nx (Q15 s0 ds s2 s3 s4 s5 s6 s7 s8 s9 s10 c s12 s13 s14)
  | [], s11, _ => ⟨s11, rfl⟩
  | z :: zs, s11, h => by
    have hz := h z (List.mem_cons_self)
    have e1 := told_read (z := z) (Nat.le_trans hz.1 (by decide)) hz.2
    have e2 := p_reading (z := z) (Nat.le_trans hz.1 (by decide)) hz.2
    have q := ne_same (Fl.rsD (Tx.spec z.cps.toList)) (by decide)
    have e0 : forD (gNm 11) tsB ((z :: zs).map D.str) (Q15 s0 ds s2 s3 s4 s5 s6 s7 s8 s9 s10 s11 s12 s13 s14) = (match tsB (Q15 s0 ds s2 s3 s4 s5 s6 s7 s8 s9 s10 (.val (.str z)) s12 s13 s14) with
      | .nx E2 => forD (gNm 11) tsB (zs.map D.str) E2
      | .ct E2 => forD (gNm 11) tsB (zs.map D.str) E2
      | .bk E2 => .nx E2
      | r => r) := rfl
    have e3 : tsB (Q15 s0 ds s2 s3 s4 s5 s6 s7 s8 s9 s10 (.val (.str z)) s12 s13 s14) = .nx (Q15 s0 ds s2 s3 s4 s5 s6 s7 s8 s9 s10 (.val (.str z)) s12 s13 s14) := by
      generalize rsD (Tx.spec z.cps.toList) = D0 at *
      simp [tsB, ownsA, ndA, argS, backE, e1, e2, q]
    rw [e0, e3]
    exact ts_loop zs _ (fun y hy => h y (List.mem_cons_of_mem _ hy))
theorem z19 {zs : List Str} (h : Tzs zs) : ∃ c, la19 (Q15 s0 ds s2 s3 s4 s5 (.val (.lst (zs.map D.str))) s7 s8 s9 s10 s11 s12 s13 s14) = .nx (Q15 s0 ds s2 s3 s4 s5 (.val (.lst (zs.map D.str))) s7 s8 s9 s10 c s12 s13 s14) := by
  obtain ⟨c, e⟩ := ts_loop (s0 := s0) (ds := ds) (s2 := s2) (s3 := s3) (s4 := s4) (s5 := s5) (s6 := .val (.lst (zs.map D.str))) (s7 := s7) (s8 := s8) (s9 := s9) (s10 := s10) (s12 := s12) (s13 := s13) (s14 := s14) zs s11 h
  refine ⟨c, ?_⟩
  rw [la19_eq, ← e]
  generalize zs.map D.str = l
  rw [u_sFor, u_fun1L]
  rfl
theorem z20 : ∃ k ds', la20 (Q15 s0 ds s2 s3 s4 s5 s6 s7 s8 s9 s10 s11 s12 s13 s14) = .nx (Q15 s0 ds' s2 s3 s4 s5 s6 s7 s8 s9 s10 s11 (.val (.int k)) s13 s14) ∧ 0 ≤ k ∧ k < 12 := by
  refine ⟨dig ds 12 0, ds.dropLast, ?_, dig_nn ds 0 (by decide), dig_lt ds 0 (by decide)⟩
  simp [la20, ownsA, ndA, argS, backE]
theorem z21 {k : Int} (hk : 0 ≤ k ∧ k < 12) : ∃ z due ds', la21 (Q15 s0 ds s2 s3 s4 s5 s6 s7 s8 s9 s10 s11 (.val (.int k)) s13 s14) = .nx (Q15 s0 ds' s2 s3 s4 s5 s6 s7 s8 s9 s10 (.val (.str z)) (.val (.int k)) (.val due) s14) ∧ F_L_told [.val (.str "read"), .val (.str z), .val .non] = .ok (.v due) (ev F_L_told [.val (.str "read"), .val (.str z), .val .non]) ∧ Fl 1 due := by
  have v1 := dig_nn ds (m := 9) 0 (by decide)
  have v2 := dig_lt ds (m := 9) 0 (by decide)
  generalize hx : dig ds 9 0 = x at *
  obtain ⟨z, due, E, e, h1, h2⟩ := p_edge (d := (1 + x).toNat) ⟨by omega, by omega⟩ hk
  have e' : F_L_edge [.val (.int k), .val (.int (1 + x))] = .ok (.v (.tup [.str z, due])) E := by
    rw [show (((1 + x).toNat : Nat) : Int) = 1 + x by omega] at e
    exact runF_rt rfl e
  refine ⟨z, due, ds.dropLast, ?_, h1, h2⟩
  simp [la21, ownsA, ndA, argS, backE, hx, e']
theorem z22 {z : Str} {due : D} (h1 : F_L_told [.val (.str "read"), .val (.str z), .val .non] = .ok (.v due) (ev F_L_told [.val (.str "read"), .val (.str z), .val .non])) (h2 : Fl 1 due) : la22 (Q15 s0 ds s2 s3 s4 s5 s6 s7 s8 s9 s10 (.val (.str z)) s12 (.val due) s14) = .nx (Q15 s0 ds s2 s3 s4 s5 s6 s7 s8 s9 s10 (.val (.str z)) s12 (.val due) s14) := by
  have q := ne_same h2 (by decide)
  simp [la22, ownsA, ndA, argS, backE, h1, q]
theorem z23 : ∃ b ds', la23 (Q15 s0 ds s2 s3 s4 s5 s6 s7 s8 s9 s10 s11 s12 s13 s14) = .nx (Q15 s0 ds' s2 s3 s4 s5 s6 s7 s8 s9 s10 s11 s12 s13 (.val (.int b))) ∧ 1 ≤ b ∧ b ≤ 12 := by
  have v1 := dig_nn ds (m := 12) 0 (by decide)
  have v2 := dig_lt ds (m := 12) 0 (by decide)
  refine ⟨1 + dig ds 12 0, ds.dropLast, ?_, by omega, by omega⟩
  simp [la23, ownsA, ndA, argS, backE]
theorem z24 {b : Int} (hb : 1 ≤ b ∧ b ≤ 12) : la24 (Q15 s0 ds s2 s3 s4 s5 s6 s7 s8 s9 s10 s11 s12 s13 (.val (.int b))) = .nx (Q15 s0 ds s2 s3 s4 s5 s6 s7 s8 s9 s10 s11 s12 s13 (.val (.int b))) := by
  obtain ⟨⟨E1, e1⟩, E2, e2⟩ := p_made hb
  simp [la24, ownsA, ndA, argS, backE, e1, e2]
theorem z25 {b : Int} (hb : 1 ≤ b ∧ b ≤ 12) : la25 (Q15 s0 ds s2 s3 s4 s5 s6 s7 s8 s9 s10 s11 s12 s13 (.val (.int b))) = .nx (Q15 s0 ds s2 s3 s4 s5 s6 s7 s8 s9 s10 s11 s12 s13 (.val (.int b))) := by
  obtain ⟨E1, e1⟩ := p_wide hb
  simp [la25, ownsA, ndA, argS, backE, e1]
theorem z26 {n d : Int} (h : Lo n d) : ∃ E, la26 (Q15 s0 ds s2 (.val (.int n)) (.val (.int d)) s5 s6 s7 s8 (.val (.str (txZ n d))) s10 s11 s12 s13 s14) = .rt (.v (.bl true)) E := by
  have e := h.read
  have q := eq_same (Fl.rat n d) (by decide)
  simp [la26, ownsA, ndA, argS, backE, e, raD, q]
end
theorem pure_law : ∀ ns : List Int, ns.length ≤ 63 → ∃ E', F_law [.val (.rol (ns.map J.D.int))] = .ok (.v (.bl true)) E' := by
  intro ns _
  have key : ∃ E, f_law [.val (.rol (ns.map J.D.int)), .no, .no, .no, .no, .no, .no, .no, .no, .no, .no, .no, .no, .no, .no] = .rt (.v (.bl true)) E := by
    rw [law_eq]
    obtain ⟨ds, e⟩ := z1 ns
    rw [seq_nx e]
    generalize Sl.val (J.D.rol (ns.map J.D.int)) = s0
    obtain ⟨x, ds, e, hx⟩ := z2 (s0 := s0) (ds := ds) (s2 := .no) (s3 := .no) (s4 := .no) (s5 := .no) (s6 := .no) (s7 := .no) (s8 := .no) (s9 := .no) (s10 := .no) (s11 := .no) (s12 := .no) (s13 := .no) (s14 := .no)
    rw [seq_nx e]
    obtain ⟨n, d, ds, e, hL⟩ := z3 (s0 := s0) (ds := ds) (s3 := .no) (s4 := .no) (s5 := .no) (s6 := .no) (s7 := .no) (s8 := .no) (s9 := .no) (s10 := .no) (s11 := .no) (s12 := .no) (s13 := .no) (s14 := .no) hx
    rw [seq_nx e, seq_nx (z4 hL), seq_nx (z5 hL)]
    obtain ⟨zs, ds, e, hT, hlen⟩ := z6 (s0 := s0) (ds := ds) (s2 := .val (.int x)) (s3 := .val (.int n)) (s4 := .val (.int d)) (s6 := .no) (s7 := .no) (s8 := .no) (s9 := .no) (s10 := .no) (s11 := .no) (s12 := .no) (s13 := .no) (s14 := .no) (Tz.tx hL)
    rw [seq_nx e]
    generalize Sl.val (J.D.int n) = t3
    generalize Sl.val (J.D.int d) = t4
    generalize Sl.val (J.D.str (txZ n d)) = t5
    generalize Sl.val (J.D.int x) = t2
    obtain ⟨c, ds, e, hc⟩ := z7 (s0 := s0) (ds := ds) (s2 := t2) (s3 := t3) (s4 := t4) (s5 := t5) (s6 := .own false (zs.map D.str)) (s7 := .no) (s8 := .no) (s9 := .no) (s10 := .no) (s11 := .no) (s12 := .no) (s13 := .no) (s14 := .no)
    rw [seq_nx e]
    obtain ⟨x, ds, e, hx⟩ := z8 (s0 := s0) (ds := ds) (s2 := t2) (s3 := t3) (s4 := t4) (s5 := t5) (s6 := .own false (zs.map D.str)) (s7 := .val (.int c)) (s8 := .no) (s9 := .no) (s10 := .no) (s11 := .no) (s12 := .no) (s13 := .no) (s14 := .no)
    rw [seq_nx e]
    obtain ⟨x, ds, e, hx⟩ := z9 (s0 := s0) (ds := ds) (s3 := t3) (s4 := t4) (s5 := t5) (s6 := .own false (zs.map D.str)) (s7 := .val (.int c)) (s8 := .no) (s9 := .no) (s10 := .no) (s11 := .no) (s12 := .no) (s13 := .no) (s14 := .no) hx
    rw [seq_nx e]
    obtain ⟨y, ds, e, hy⟩ := z10 (s0 := s0) (ds := ds) (s2 := .val (.int x)) (s3 := t3) (s4 := t4) (s5 := t5) (s6 := .own false (zs.map D.str)) (s7 := .val (.int c)) (s8 := .no) (s9 := .no) (s10 := .no) (s11 := .no) (s12 := .no) (s13 := .no) (s14 := .no)
    rw [seq_nx e]
    obtain ⟨y, ds, e, hy⟩ := z11 (s0 := s0) (ds := ds) (s2 := .val (.int x)) (s3 := t3) (s4 := t4) (s5 := t5) (s6 := .own false (zs.map D.str)) (s7 := .val (.int c)) (s9 := .no) (s10 := .no) (s11 := .no) (s12 := .no) (s13 := .no) (s14 := .no) hy
    rw [seq_nx e]
    obtain ⟨n, d, e, hL⟩ := z12 (s0 := s0) (ds := ds) (s3 := t3) (s4 := t4) (s5 := t5) (s6 := .own false (zs.map D.str)) (s9 := .no) (s10 := .no) (s11 := .no) (s12 := .no) (s13 := .no) (s14 := .no) hc hx hy
    rw [seq_nx e, seq_nx (z13 hL), seq_nx (z14 hL), seq_nx (z15 (by omega))]
    obtain ⟨zs, ds, c10, e, hT, hlen, hy2⟩ := z16 (s0 := s0) (ds := ds) (s2 := .val (.int x)) (s3 := .val (.int n)) (s4 := .val (.int d)) (s5 := t5) (s7 := .val (.int c)) (s8 := .val (.int y)) (s10 := .no) (s11 := .no) (s12 := .no) (s13 := .no) (s14 := .no) (Tz.tx hL) (hT.app ((Tz.tx hL).mono (by decide))) (by rw [List.length_append, List.length_singleton]; omega)
    rw [seq_nx e]
    obtain ⟨zs, ds, e, hT, hlen⟩ := z17 (s0 := s0) (ds := ds) (s2 := .val (.int x)) (s3 := .val (.int n)) (s4 := .val (.int d)) (s5 := t5) (s7 := .val (.int c)) (s8 := .val (.int y)) (s9 := .val (.str (txZ n d))) (s10 := c10) (s11 := .no) (s12 := .no) (s13 := .no) (s14 := .no) hT hlen hy2
    rw [seq_nx e, seq_nx (z18 (by omega))]
    have hT := hT.app ((Tz.tx hL).mono (by decide))
    have pu : pubE 6 (Q15 s0 ds (.val (.int x)) (.val (.int n)) (.val (.int d)) t5 (.own false ((zs ++ [txZ n d]).map D.str)) (.val (.int c)) (.val (.int y)) (.val (.str (txZ n d))) c10 .no .no .no .no) = Q15 s0 ds (.val (.int x)) (.val (.int n)) (.val (.int d)) t5 (.val (.lst ((zs ++ [txZ n d]).map D.str))) (.val (.int c)) (.val (.int y)) (.val (.str (txZ n d))) c10 .no .no .no .no := by
      generalize (zs ++ [txZ n d]).map D.str = l
      rfl
    show ∃ E, lB (pubE 6 _) = _
    rw [pu]
    unfold lB
    generalize zs ++ [txZ n d] = zs at *
    obtain ⟨c11, e⟩ := z19 (s0 := s0) (ds := ds) (s2 := .val (.int x)) (s3 := .val (.int n)) (s4 := .val (.int d)) (s5 := t5) (s7 := .val (.int c)) (s8 := .val (.int y)) (s9 := .val (.str (txZ n d))) (s10 := c10) (s11 := .no) (s12 := .no) (s13 := .no) (s14 := .no) hT
    rw [seq_nx e]
    generalize Sl.val (J.D.lst (zs.map D.str)) = t6
    obtain ⟨k, ds, e, hk⟩ := z20 (s0 := s0) (ds := ds) (s2 := .val (.int x)) (s3 := .val (.int n)) (s4 := .val (.int d)) (s5 := t5) (s6 := t6) (s7 := .val (.int c)) (s8 := .val (.int y)) (s9 := .val (.str (txZ n d))) (s10 := c10) (s11 := c11) (s12 := .no) (s13 := .no) (s14 := .no)
    rw [seq_nx e]
    obtain ⟨z, due, ds, e, h1, h2⟩ := z21 (s0 := s0) (ds := ds) (s2 := .val (.int x)) (s3 := .val (.int n)) (s4 := .val (.int d)) (s5 := t5) (s6 := t6) (s7 := .val (.int c)) (s8 := .val (.int y)) (s9 := .val (.str (txZ n d))) (s10 := c10) (s11 := c11) (s13 := .no) (s14 := .no) hk
    rw [seq_nx e, seq_nx (z22 h1 h2)]
    obtain ⟨b, ds, e, hb⟩ := z23 (s0 := s0) (ds := ds) (s2 := .val (.int x)) (s3 := .val (.int n)) (s4 := .val (.int d)) (s5 := t5) (s6 := t6) (s7 := .val (.int c)) (s8 := .val (.int y)) (s9 := .val (.str (txZ n d))) (s10 := c10) (s11 := .val (.str z)) (s12 := .val (.int k)) (s13 := .val due) (s14 := .no)
    rw [seq_nx e, seq_nx (z24 hb), seq_nx (z25 hb)]
    exact z26 hL
  obtain ⟨E, e⟩ := key
  exact ⟨E, runF_rt rfl e⟩
end Lw

namespace J
open PySem PySem.Spec PyProof.Rows L2
/-! ### the end -/
theorem law_sp {K : PySem.W.Frag} (hp : ∀ ns : List Int, ns.length ≤ 63 → ∃ E', Lw.F_law [.val (.rol (ns.map D.int))] = .ok (.v (.bl true)) E') (H : Hp) (a : Addr) (ns : List Int) (hl : ns.length ≤ 63) (hS : SqL K H a (ns.map V.int)) : spJ K 1 Lw.F_law [.ref a] H (fun v _ => v = .bl true) fun _ _ _ => False := by
  refine ⟨rfl, ⟨fun _ => none, fun _ => 0⟩, H, [.val (.rol (ns.map D.int))], ⟨rfl, fun i s h => ?_, Ex.refl H, (fun a o h => by cases h), (fun a h => absurd rfl h), fun i s b p h hb => ?_, fun i j s s' b b' p h hb => ?_⟩, ?_⟩
  · cases i with
    | zero => simp at h; subst h; exact ⟨_, rfl, _, rfl, .rol hS (RpA.ints ns)⟩
    | succ i => simp at h
  · cases i with
    | zero => simp at h; subst h; cases hb
    | succ i => simp at h
  · cases i with
    | zero => simp at h; subst h; cases hb
    | succ i => simp at h
  · obtain ⟨E', e⟩ := hp ns hl
    rw [e]
    exact fun G' H' v _ _ r => by cases r; rfl
theorem FnOk_cx {P : Program} {w : World} {K : PySem.W.Frag} {mg : Str → Option Value} {base : Heap} {C1 C2 : CXT} {k : Nat} {f : Addr} {fd : FuncData} {ps : List Str} {sp : Sp} (F : FnOk P w K mg base C1 k f fd ps sp) (h : ∀ o H s E u s', C1 o H s E u s' → C2 o H s E u s') : FnOk P w K mg base C2 k f fd ps sp :=
  ⟨F.len, fun A outer s H args us vs Q E hr e0 hb hv hs => codeAny_mono (F.run A outer s H args us vs Q E hr e0 hb hv hs) fun r s' hq => by
    cases r with
    | error e => exact h _ _ _ _ _ _ hq
    | ok fl => cases fl <;> exact hq⟩
def CxAny (P : Program) : CXT := fun o H s E u s' => ∃ w, L2N.CX P w o H s E u s'
theorem CxAny_none {P : Program} (H : Hp) (s : Shared) (e : Value) (s' : Shared) : CxAny P [] H s (fun _ _ _ => False) e s' → False := by
  rintro ⟨w, a, B, H', cls, d, _, _, _, _, _, _, _, h⟩
  exact h
end J
open PySem PySem.W PySem.Calls PyProof.Rows
theorem PySem.Challenge.cw_nodearer_k02_ratio_text_and_bounds_holds : PySem.Challenge.rw_nodearer_k02_ratio_text_and_bounds.Holds := by
  w_on; o_law
  refine HandSHeadRun.head_imp (r := OpenLaw.row PySem.Challenge.rw_nodearer_k02_ratio_text_and_bounds) (q := view (OpenLaw.row PySem.Challenge.rw_nodearer_k02_ratio_text_and_bounds).prog [0, 42]) (H := Lw.hk) (ob := Lw.ob) (M := 4000) (loose := Lw.loose) (d := HandSHeadRun.topDef (OpenLaw.row PySem.Challenge.rw_nodearer_k02_ratio_text_and_bounds).prog 42) (kwd := []) Lw.ob_eq Lw.run (by kernel_rfl) (by kernel_rfl) (by kernel_rfl) (by rfl) (by first | assumption | decide +kernel) (by decide +kernel) ⟨rfl, rfl, rfl, rfl, rfl, by decide +kernel⟩ ?wit ?call
  case wit => w_witness2
  case call =>
    refine L2.walk_ofE (l := PySem.Challenge.rw_nodearer_k02_ratio_text_and_bounds) (n := 63) (k := 36) (x := "_law_script") (CX := J.CxAny (PySem.Challenge.rw_nodearer_k02_ratio_text_and_bounds).prog) rfl (by decide) (by kernel_rfl) ⟨rfl, by decide, by decide⟩ ?F J.CxAny_none
    intro w mg fa h Y G hmg0
    obtain ⟨K, KX, c⟩ := Y
    have hmg : mg ("law" : PySem.Str) = some (.ref fa) := by
      have e : (HandSHeadRun.topDef (OpenLaw.row PySem.Challenge.rw_nodearer_k02_ratio_text_and_bounds).prog 42).name = ("law" : PySem.Str) := by kernel_rfl
      rw [← e]
      exact hmg0
    obtain ⟨fd, hb, hF⟩ := Lw.facts (P := (PySem.Challenge.rw_nodearer_k02_ratio_text_and_bounds).prog) (w := w) KX G hmg c rfl (by kernel_rfl) rfl
    exact ⟨K, fd, J.spJ K 1 Lw.F_law, KX, hb, fun H a ns hl _ hS => J.law_sp Lw.pure_law H a ns hl hS, fun base _ _ => J.FnOk_cx (hF base) fun o H s E u s' q => ⟨w, q⟩⟩
