import PyProof.Rows.All
import Wide.All
import OpenK.AllK
import Wide.FinOn
import HandS.ForMost
import HandS.ForExc
import HandS.IsInst
import HandS.ExcIs
import HandS.CallSlots
import HandS.Deep
import HandS.Wide
import HandS.RaiseMore
import HandS.TupAny
import HandS.Conv
import HandS.ExcValue
import HandS.Codes
import HandS.More
import KE.IntTextLaws
import KE.GoesRaise
import PySem.Challenge.RW_updownworths_k81_whole_texts_bent
set_option Elab.async false
set_option linter.all false
set_option maxRecDepth 100000
set_option exponentiation.threshold 10000
set_option maxHeartbeats 4000000
/-! Dl1: the data layer's core: slots, environments, the relation to the abstract heap, expressions by value. -/
namespace Dl
open PySem PySem.Spec L2

abbrev D := PyData

/-- what a local slot may hold: shared data; an owned list (nobody else knows it); a list of the caller's, by reference; a caught exception of a class by its number; a list that is read alone (the script); a pair of None and a caught exception -/
inductive Sv where
  | d (x : D)
  | ow (l : List D)
  | rf (l : List D)
  | ex (c : Nat)
  | fz (l : List D)
  | px (c : Nat)
abbrev Ev := List (Option Sv)
/-- the fixed part of a def's run: classes by number, the entry's shared part, the entry's heap, the by-reference parameters, what is held meanwhile and is nobody's -/
structure Bx where
  cl : Nat → Addr
  G0 : Hp
  H0 : Hp
  B : List (Nat × Addr)
  T : Hp

def ExT (C a : Addr) : HO := .ext fun h => ∃ (oe : Obj) (vs : Array Value), h.get? a = some oe ∧ Zc (.ref C) none oe ∧ oe.data = .fields vs

mutual
/-- v stands for the data x: lists as they lie in G, tuples of G or of the written part -/
inductive Da (K : PySem.W.Frag) (G : Hp) : V → D → Prop
  | non : Da K G .non .none
  | bl (b : Bool) : Da K G (.bl b) (.bool b)
  | int (i : Int) : Da K G (.int i) (.int i)
  | str (x : Str) : Da K G (.str x) (.str x)
  | lst {a : Addr} {xs : List V} {ds : List D} : G a = some (.lst xs) → DaAll K G xs ds → Da K G (.ref a) (.list ds)
  | tup {a : Addr} {xs : List V} {ds : List D} : SqT K G a xs → DaAll K G xs ds → Da K G (.ref a) (.tuple ds)
inductive DaAll (K : PySem.W.Frag) (G : Hp) : List V → List D → Prop
  | nil : DaAll K G [] []
  | cons {v : V} {vs : List V} {d : D} {ds : List D} : Da K G v d → DaAll K G vs ds → DaAll K G (v :: vs) (d :: ds)
end
mutual
theorem Da.dp {K : PySem.W.Frag} {G : Hp} : ∀ {v : V} {x : D}, Da K G v x → Dp K G v x
  | _, _, .non => .non
  | _, _, .bl b => .bl b
  | _, _, .int i => .int i
  | _, _, .str x => .str x
  | _, _, .lst h r => .lst (SqL.of h) (DaAll.dp r)
  | _, _, .tup h r => .tup h (DaAll.dp r)
theorem DaAll.dp {K : PySem.W.Frag} {G : Hp} : ∀ {vs : List V} {xs : List D}, DaAll K G vs xs → DpAll K G vs xs
  | _, _, .nil => .nil
  | _, _, .cons h r => .cons (Da.dp h) (DaAll.dp r)
end

section
variable (K : PySem.W.Frag) (b : Bx)
def RepI (G H : Hp) (i : Nat) (v : V) : Sv → Prop
  | .d x => Da K G v x
  | .ow l => ∃ a xs, v = .ref a ∧ H a = some (.lst xs) ∧ G a = none ∧ b.H0 a = none ∧ DaAll K G xs l
  | .rf l => ∃ a xs, v = .ref a ∧ H a = some (.lst xs) ∧ G a = none ∧ (i, a) ∈ b.B ∧ DaAll K G xs l
  | .ex c => ∃ a, v = .ref a ∧ G a = some (ExT (b.cl c) a)
  | .px c => ∃ a e, v = .ref a ∧ SqT K G a [.non, .ref e] ∧ G e = some (ExT (b.cl c) e)
  | .fz l => ∃ a xs, v = .ref a ∧ SqL K G a xs ∧ DaAll K G xs l
end
def Owns (σ : St) (ρ : Ev) (i : Nat) (a : Addr) : Prop := σ[i]? = some (some (.ref a)) ∧ ∃ l, ρ[i]? = some (some (.ow l)) ∨ ρ[i]? = some (some (.rf l))
structure Rel (K : PySem.W.Frag) (b : Bx) (G H : Hp) (σ : St) (ρ : Ev) : Prop where
  le : Same G H
  len : ρ.length = σ.length
  slot : ∀ i sv, ρ[i]? = some (some sv) → ∃ v, σ[i]? = some (some v) ∧ RepI K b G H i v sv
  apart : ∀ i j a, Owns σ ρ i a → Owns σ ρ j a → i = j
  keep : ∀ a o, b.H0 a = some o → (∀ p ∈ b.B, p.2 ≠ a) → H a = some o
  base : Same b.G0 G
  fresh : ∀ a o, G a = some o → b.G0 a = some o ∨ b.H0 a = none
  byr : ∀ p ∈ b.B, ∃ l, σ[p.1]? = some (some (.ref p.2)) ∧ ρ[p.1]? = some (some (.rf l))
  tmp : ∀ a o, b.T a = some o → H a = some o ∧ G a = none ∧ b.H0 a = none ∧ ∀ i, ¬ Owns σ ρ i a
def RepT (K : PySem.W.Frag) (b : Bx) (G H : Hp) (σ : St) (ρ : Ev) (v : V) : Sv → Prop
  | .d x => Da K G v x
  | .ow l => ∃ a xs, v = .ref a ∧ H a = some (.lst xs) ∧ G a = none ∧ b.H0 a = none ∧ b.T a = none ∧ (∀ i, ¬ Owns σ ρ i a) ∧ DaAll K G xs l
  | .rf _ => False
  | .ex c => ∃ a, v = .ref a ∧ G a = some (ExT (b.cl c) a)
  | .px c => ∃ a e, v = .ref a ∧ SqT K G a [.non, .ref e] ∧ G e = some (ExT (b.cl c) e)
  | .fz l => ∃ a xs, v = .ref a ∧ SqL K G a xs ∧ DaAll K G xs l

/-! ### monotone -/
theorem seqT {K : PySem.W.Frag} {H H' : Hp} {a : Addr} {xs : List V} (e : Same H H') (h : SqT K H a xs) : SqT K H' a xs := by
  rcases h with (h | ⟨o, h⟩) | h
  · exact .inl (.inl (e _ _ h))
  · exact .inl (.inr ⟨o, e _ _ h⟩)
  · exact .inr h
mutual
theorem Da.mono {K : PySem.W.Frag} {G G' : Hp} (e : Same G G') : ∀ {v : V} {x : D}, Da K G v x → Da K G' v x
  | _, _, .non => .non
  | _, _, .bl b => .bl b
  | _, _, .int i => .int i
  | _, _, .str x => .str x
  | _, _, .lst h r => .lst (e _ _ h) (DaAll.mono e r)
  | _, _, .tup h r => .tup (seqT e h) (DaAll.mono e r)
theorem DaAll.mono {K : PySem.W.Frag} {G G' : Hp} (e : Same G G') : ∀ {vs : List V} {xs : List D}, DaAll K G vs xs → DaAll K G' vs xs
  | _, _, .nil => .nil
  | _, _, .cons h r => .cons (Da.mono e h) (DaAll.mono e r)
end
theorem DaAll.length {K : PySem.W.Frag} {G : Hp} : ∀ {vs : List V} {xs : List D}, DaAll K G vs xs → vs.length = xs.length
  | _, _, .nil => rfl
  | _, _, .cons _ r => by rw [List.length_cons, List.length_cons, DaAll.length r]
theorem DaAll.get {K : PySem.W.Frag} {G : Hp} : ∀ {vs : List V} {xs : List D} {i : Nat} {x : D}, DaAll K G vs xs → xs[i]? = some x → ∃ v, vs[i]? = some v ∧ Da K G v x
  | _, _, _, _, .nil, e => by simp at e
  | _, _, 0, _, .cons h _, e => by
    simp at e; subst e; exact ⟨_, rfl, h⟩
  | _, _, i + 1, x, .cons _ r, e => by
    obtain ⟨v, h1, h2⟩ := DaAll.get (i := i) (x := x) r (by simpa using e)
    exact ⟨v, by simpa using h1, h2⟩
theorem DaAll.get' {K : PySem.W.Frag} {G : Hp} : ∀ {vs : List V} {xs : List D} {i : Nat} {v : V}, DaAll K G vs xs → vs[i]? = some v → ∃ x, xs[i]? = some x ∧ Da K G v x
  | _, _, _, _, .nil, e => by simp at e
  | _, _, 0, _, .cons h _, e => by
    simp at e; subst e; exact ⟨_, rfl, h⟩
  | _, _, i + 1, x, .cons _ r, e => by
    obtain ⟨v, h1, h2⟩ := DaAll.get' (i := i) r (by simpa using e)
    exact ⟨v, by simpa using h1, h2⟩
theorem DaAll.append {K : PySem.W.Frag} {G : Hp} : ∀ {vs ws : List V} {xs ys : List D}, DaAll K G vs xs → DaAll K G ws ys → DaAll K G (vs ++ ws) (xs ++ ys)
  | _, _, _, _, .nil, s => s
  | _, _, _, _, .cons h r, s => .cons h (DaAll.append r s)
theorem DaAll.set {K : PySem.W.Frag} {G : Hp} {v : V} {x : D} (h : Da K G v x) : ∀ {vs : List V} {xs : List D} (i : Nat), DaAll K G vs xs → DaAll K G (vs.set i v) (xs.set i x)
  | _, _, _, .nil => .nil
  | _, _, 0, .cons _ r => .cons h r
  | _, _, i + 1, .cons q r => .cons q (DaAll.set h i r)
theorem DaAll.take {K : PySem.W.Frag} {G : Hp} : ∀ {vs : List V} {xs : List D} (i : Nat), DaAll K G vs xs → DaAll K G (vs.take i) (xs.take i)
  | _, _, _, .nil => by simp; exact .nil
  | _, _, 0, .cons _ r => .nil
  | _, _, i + 1, .cons q r => .cons q (DaAll.take i r)
theorem DaAll.drop {K : PySem.W.Frag} {G : Hp} : ∀ {vs : List V} {xs : List D} (i : Nat), DaAll K G vs xs → DaAll K G (vs.drop i) (xs.drop i)
  | _, _, _, .nil => by simp; exact .nil
  | _, _, 0, .cons q r => .cons q r
  | _, _, i + 1, .cons q r => DaAll.drop i r
theorem DaAll.eraseIdx {K : PySem.W.Frag} {G : Hp} : ∀ {vs : List V} {xs : List D} (i : Nat), DaAll K G vs xs → DaAll K G (vs.eraseIdx i) (xs.eraseIdx i)
  | _, _, _, .nil => by simp; exact .nil
  | _, _, 0, .cons q r => r
  | _, _, i + 1, .cons q r => .cons q (DaAll.eraseIdx i r)

/-- something pure was made: nothing that stood changed -/
structure Ext (G H G' H' : Hp) : Prop where
  g : Same G G'
  h : Same H H'
  le : Same G' H'
  new : ∀ a o, G' a = some o → G a = some o ∨ H a = none
section
variable {K : PySem.W.Frag} {b : Bx} {G H G' H' : Hp} {σ : St} {ρ : Ev}
theorem Rel.h0 (r : Rel K b G H σ ρ) {a : Addr} (h : H a = none) : b.H0 a = none := by
  cases q : b.H0 a with
  | none => rfl
  | some o =>
    by_cases hb : ∀ p ∈ b.B, p.2 ≠ a
    · rw [r.keep a o q hb] at h; cases h
    · simp only [Classical.not_forall] at hb
      obtain ⟨p, hp, e⟩ := hb
      have e : p.2 = a := Classical.not_not.mp e
      obtain ⟨l, h1, h2⟩ := r.byr p hp
      obtain ⟨v, h3, a', xs, e1, h4, _⟩ := r.slot _ _ h2
      rw [h1] at h3
      cases h3
      cases e1
      rw [e, h] at h4
      cases h4
theorem Rel.g0 (r : Rel K b G H σ ρ) {a : Addr} (h : H a = none) : G a = none := r.le.free h
theorem Ext.refl (r : Same G H) : Ext G H G H := ⟨Same.refl _, Same.refl _, r, fun _ _ h => .inl h⟩
theorem Ext.upd (r : Same G H) {p : Addr} (hp : H p = none) (o : HO) : Ext G H (upd G p o) (upd H p o) := by
  have gp : G p = none := r.free hp
  refine ⟨fun a u q => ?_, fun a u q => ?_, fun a u q => ?_, fun a u q => ?_⟩
  · rw [upd_ne (ne_of_none q gp)]; exact q
  · rw [upd_ne (ne_of_none q hp)]; exact q
  · by_cases e : a = p
    · subst e; rw [upd_same] at q ⊢; exact q
    · rw [upd_ne e] at q ⊢; exact r _ _ q
  · by_cases e : a = p
    · subst e; exact .inr hp
    · rw [upd_ne e] at q; exact .inl q
/-- a new thing laid, not shared yet -/
theorem Ext.updH (r : Same G H) {p : Addr} (hp : H p = none) (o : HO) : Ext G H G (L2.upd H p o) := by
  refine ⟨Same.refl _, fun a u q => ?_, fun a u q => ?_, fun a u q => .inl q⟩
  · rw [upd_ne (ne_of_none q hp)]; exact q
  · rw [upd_ne (ne_of_none q (r.free hp))]; exact r _ _ q
theorem Rel.ext (r : Rel K b G H σ ρ) (e : Ext G H G' H') : Rel K b G' H' σ ρ where
  le := e.le
  len := r.len
  slot := fun i sv q => by
    obtain ⟨v, h1, h2⟩ := r.slot i sv q
    refine ⟨v, h1, ?_⟩
    have gn : ∀ {a : Addr} {o : HO}, G a = none → H a = some o → G' a = none := fun {a o} ga ha => by
      cases q : G' a with
      | none => rfl
      | some u => rcases e.new a u q with z | z
                  · rw [ga] at z; cases z
                  · rw [ha] at z; cases z
    cases sv with
    | d x => exact Da.mono e.g h2
    | ow l =>
      obtain ⟨a, xs, e1, h3, h4, h5, h6⟩ := h2
      exact ⟨a, xs, e1, e.h _ _ h3, gn h4 h3, h5, DaAll.mono e.g h6⟩
    | rf l =>
      obtain ⟨a, xs, e1, h3, h4, h5, h6⟩ := h2
      exact ⟨a, xs, e1, e.h _ _ h3, gn h4 h3, h5, DaAll.mono e.g h6⟩
    | ex c =>
      obtain ⟨a, e1, h3⟩ := h2
      exact ⟨a, e1, e.g _ _ h3⟩
    | px c =>
      obtain ⟨a, u, e1, h3, h4⟩ := h2
      exact ⟨a, u, e1, seqT e.g h3, e.g _ _ h4⟩
    | fz l =>
      obtain ⟨a, xs, e1, h3, h4⟩ := h2
      exact ⟨a, xs, e1, e.g.seq h3, DaAll.mono e.g h4⟩
  apart := r.apart
  keep := fun a o h n => e.h _ _ (r.keep a o h n)
  base := fun a o h => e.g _ _ (r.base a o h)
  fresh := fun a o h => by
    rcases e.new a o h with z | z
    · exact r.fresh a o z
    · exact .inr (r.h0 z)
  byr := r.byr
  tmp := fun a o h => by
    obtain ⟨h1, h2, h3, h4⟩ := r.tmp a o h
    refine ⟨e.h _ _ h1, ?_, h3, h4⟩
    cases q : G' a with
    | none => rfl
    | some u =>
      rcases e.new a u q with z | z
      · rw [h2] at z; cases z
      · rw [h1] at z; cases z
/-- what may be seen as data: an owned list is shared from now on -/
def Sv.dat? : Sv → Option D
  | .d x => some x
  | .ow l => some (.list l)
  | _ => none
theorem share_slots (r : Rel K b G H σ ρ) {a : Addr} {xs : List V} (ha : H a = some (.lst xs)) (ga : G a = none) (h0 : b.H0 a = none) (ht : b.T a = none) (no : ∀ i, ¬ Owns σ ρ i a) :
    Rel K b (upd G a (.lst xs)) H σ ρ := by
  have sg : Same G (upd G a (.lst xs)) := fun c o q => by rw [upd_ne (ne_of_none q ga)]; exact q
  refine ⟨fun c o q => ?_, r.len, fun i sv q => ?_, r.apart, r.keep, fun c o q => sg _ _ (r.base c o q), fun c o q => ?_, r.byr, fun c o q => ?_⟩
  · by_cases e : c = a
    · subst e; rw [upd_same] at q; rw [ha]; exact q
    · rw [upd_ne e] at q; exact r.le _ _ q
  · obtain ⟨v, h1, h2⟩ := r.slot i sv q
    refine ⟨v, h1, ?_⟩
    cases sv with
    | d x => exact Da.mono sg h2
    | ow l =>
      obtain ⟨c, ys, e1, h3, h4, h5, h6⟩ := h2
      subst e1
      have ne : c ≠ a := fun z => no i ⟨by rw [h1, z], l, .inl q⟩
      exact ⟨c, ys, rfl, h3, by rw [upd_ne ne]; exact h4, h5, DaAll.mono sg h6⟩
    | rf l =>
      obtain ⟨c, ys, e1, h3, h4, h5, h6⟩ := h2
      subst e1
      have ne : c ≠ a := fun z => no i ⟨by rw [h1, z], l, .inr q⟩
      exact ⟨c, ys, rfl, h3, by rw [upd_ne ne]; exact h4, h5, DaAll.mono sg h6⟩
    | ex c =>
      obtain ⟨c, e1, h3⟩ := h2
      exact ⟨c, e1, sg _ _ h3⟩
    | px c =>
      obtain ⟨c, u, e1, h3, h4⟩ := h2
      exact ⟨c, u, e1, seqT sg h3, sg _ _ h4⟩
    | fz l =>
      obtain ⟨c, ys, e1, h3, h4⟩ := h2
      exact ⟨c, ys, e1, sg.seq h3, DaAll.mono sg h4⟩
  · by_cases e : c = a
    · subst e; exact .inr h0
    · rw [upd_ne e] at q; exact r.fresh c o q
  · obtain ⟨h1, h2, h3, h4⟩ := r.tmp c o q
    have ne : c ≠ a := fun z => by rw [z, ht] at q; cases q
    exact ⟨h1, by rw [upd_ne ne]; exact h2, h3, h4⟩
theorem Rel.pub (r : Rel K b G H σ ρ) {v : V} {sv : Sv} {x : D} (h : RepT K b G H σ ρ v sv) (e : sv.dat? = some x) : ∃ G1, Rel K b G1 H σ ρ ∧ Same G G1 ∧ Da K G1 v x := by
  cases sv with
  | d y => cases e; exact ⟨G, r, Same.refl _, h⟩
  | ow l =>
    cases e
    obtain ⟨a, xs, rfl, ha, ga, h0, ht, no, hx⟩ := h
    have sg : Same G (upd G a (.lst xs)) := fun c o q => by rw [upd_ne (ne_of_none q ga)]; exact q
    exact ⟨_, share_slots r ha ga h0 ht no, sg, .lst upd_same (DaAll.mono sg hx)⟩
  | rf l => cases e
  | ex c => cases e
  | px c => cases e
  | fz l => cases e
end

/-! ### results -/
inductive RE where
  | ok (v : Sv) (ρ : Ev)
  | raise (c : Nat) (ρ : Ev)
  | stuck
def RE.bindD (r : RE) (k : D → Ev → RE) : RE := match r with
  | .ok sv ρ => match sv.dat? with
    | some x => k x ρ
    | none => .stuck
  | .raise c ρ => .raise c ρ
  | .stuck => .stuck
def RE.of (o : Option Sv) (ρ : Ev) : RE := match o with
  | some sv => .ok sv ρ
  | none => .stuck
section
variable (K : PySem.W.Frag) (b : Bx) (W : WX)
def PostE (G : Hp) (σ : St) (Q : VK) : RE → Prop
  | .ok sv ρ' => ∀ v G' H', Rel K b G' H' σ ρ' → Same G G' → RepT K b G' H' σ ρ' v sv → Q v H'
  | .raise c ρ' => ∀ G' H', Rel K b G' H' σ ρ' → Same G G' → W (.ref (b.cl c)) none σ H'
  | .stuck => False
/-- an expression by its value: the reading that a function on environments tells -/
def tE (f : Ev → RE) : TE := fun σ H Q => ∃ ρ G, Rel K b G H σ ρ ∧ PostE K b W G σ Q (f ρ)
end
section
variable {K : PySem.W.Frag} {b : Bx} {W : WX} {G G1 H : Hp} {σ : St} {ρ : Ev} {Q : VK}
theorem PostE.mono {r : RE} (e : Same G G1) (h : PostE K b W G σ Q r) : PostE K b W G1 σ Q r := by
  cases r with
  | ok sv ρ' => exact fun v G' H' r s q => h v G' H' r (e.trans s) q
  | raise c ρ' => exact fun G' H' r s => h G' H' r (e.trans s)
  | stuck => exact h
/-- an operand: its data, then the rest -/
theorem stepD {fa : Ev → RE} {k : D → Ev → RE} (r : Rel K b G H σ ρ) (h : PostE K b W G σ Q ((fa ρ).bindD k)) {R : V → Hp → Prop}
    (hR : ∀ v H1 ρ1 G1 x, Rel K b G1 H1 σ ρ1 → Same G G1 → Da K G1 v x → PostE K b W G1 σ Q (k x ρ1) → R v H1) : tE K b W fa σ H R := by
  refine ⟨ρ, G, r, ?_⟩
  cases e : fa ρ with
  | ok sv ρ1 =>
    rw [e] at h
    intro v G' H' r' s' q'
    have h : PostE K b W G σ Q (match sv.dat? with
      | some x => k x ρ1
      | none => .stuck) := h
    cases ed : sv.dat? with
    | none => rw [ed] at h; exact h.elim
    | some x =>
      rw [ed] at h
      obtain ⟨G1, r1, s1, q1⟩ := r'.pub q' ed
      exact hR v H' ρ1 G1 x r1 (s'.trans s1) q1 (PostE.mono (s'.trans s1) h)
  | raise c ρ1 => rw [e] at h; exact h
  | stuck => rw [e] at h; exact h.elim
theorem PE.imp {X : Cx} {e : Expr} {t t' : TE} (h : PE X e t) (i : ∀ σ H Q, t' σ H Q → t σ H Q) : PE X e t' := ⟨fun pins s σ H Q I q => h.run pins s σ H Q I (i _ _ _ q)⟩
theorem PT.imp {X : Cx} {e : Expr} {t t' : TT} (h : PT X e t) (i : ∀ σ H Q, t' σ H Q → t σ H Q) : PT X e t' := ⟨fun pins s σ H Q I q => h.run pins s σ H Q I (i _ _ _ q)⟩
theorem PS.imp {X : Cx} {e : Stmt} {t t' : TS} (h : PS X e t) (i : ∀ D σ H, t' D σ H → t D σ H) : PS X e t' := ⟨fun pins s σ H D I q => h.run pins s σ H D I (i _ _ _ q)⟩
theorem PSs.imp {X : Cx} {e : List Stmt} {t t' : TS} (h : PSs X e t) (i : ∀ D σ H, t' D σ H → t D σ H) : PSs X e t' := ⟨fun pins s σ H D I q => h.run pins s σ H D I (i _ _ _ q)⟩
theorem PA.imp {X : Cx} {e : List Expr} {t t' : TA} (h : PA X e t) (i : ∀ σ H Q, t' σ H Q → t σ H Q) : PA X e t' := ⟨fun pos pins s σ H Q I q => h.run pos pins s σ H Q I (i _ _ _ q)⟩

/-! ### operands: an expression's data, or a name that is looked at without being shared -/
def viewAt (ρ : Ev) (i : Nat) : Option D := match ρ[i]? with
  | some (some (.d x)) => some x
  | some (some (.ow l)) => some (.list l)
  | some (some (.rf l)) => some (.list l)
  | _ => none
/-- v is seen as x: shared data, or a list that is owned -/
def Vw (K : PySem.W.Frag) (G H : Hp) (v : V) (x : D) : Prop := Da K G v x ∨ ∃ a xs l, v = .ref a ∧ x = .list l ∧ H a = some (.lst xs) ∧ DaAll K G xs l
theorem Vw.dp (s : Same G H) {v : V} {x : D} (h : Vw K G H v x) : Dp K H v x := by
  rcases h with h | ⟨a, xs, l, rfl, rfl, h1, h2⟩
  · exact Da.dp (Da.mono s h)
  · exact .lst (SqL.of h1) (DaAll.dp (DaAll.mono s h2))
theorem Rel.view {i : Nat} {x : D} (r : Rel K b G H σ ρ) (h : viewAt ρ i = some x) : ∃ v, σ[i]? = some (some v) ∧ Vw K G H v x := by
  unfold viewAt at h
  split at h
  · rename_i y e
    cases h
    obtain ⟨v, h1, h2⟩ := r.slot _ _ e
    exact ⟨v, h1, .inl h2⟩
  · rename_i l e
    cases h
    obtain ⟨v, h1, a, xs, rfl, ha, ga, h0, hx⟩ := r.slot _ _ e
    exact ⟨_, h1, .inr ⟨a, xs, l, rfl, rfl, ha, hx⟩⟩
  · rename_i l e
    cases h
    obtain ⟨v, h1, a, xs, rfl, ha, ga, h0, hx⟩ := r.slot _ _ e
    exact ⟨_, h1, .inr ⟨a, xs, l, rfl, rfl, ha, hx⟩⟩
  · cases h
inductive Opd where
  | e (f : Ev → RE)
  | n (i : Nat)
inductive Ov where
  | val (x : D)
  | nm (i : Nat)
def Ov.get (ρ : Ev) : Ov → Option D
  | .val x => some x
  | .nm i => viewAt ρ i
def Opd.run (o : Opd) (ρ : Ev) (k : Ov → Ev → RE) : RE := match o with
  | .e f => (f ρ).bindD fun x ρ1 => k (.val x) ρ1
  | .n i => match viewAt ρ i with
    | some _ => k (.nm i) ρ
    | none => .stuck
def tO (K : PySem.W.Frag) (b : Bx) (W : WX) : Opd → TE
  | .e f => tE K b W f
  | .n i => tVar i
def VwO (K : PySem.W.Frag) (G : Hp) (σ : St) (v : V) : Ov → Prop
  | .val x => Da K G v x
  | .nm i => σ[i]? = some (some v)
theorem VwO.mono (s : Same G G1) {v : V} {o : Ov} (h : VwO K G σ v o) : VwO K G1 σ v o := by
  cases o with
  | val x => exact Da.mono s h
  | nm i => exact h
theorem VwO.vw (r : Rel K b G H σ ρ) {v : V} {o : Ov} {x : D} (h : VwO K G σ v o) (e : o.get ρ = some x) : Vw K G H v x := by
  cases o with
  | val y => cases e; exact .inl h
  | nm i =>
    obtain ⟨u, h1, h2⟩ := r.view e
    rw [show σ[i]? = some (some v) from h] at h1
    cases h1
    exact h2
theorem stepO {o : Opd} {k : Ov → Ev → RE} (r : Rel K b G H σ ρ) (h : PostE K b W G σ Q (o.run ρ k)) {R : V → Hp → Prop}
    (hR : ∀ v H1 ρ1 G1 ov, Rel K b G1 H1 σ ρ1 → Same G G1 → VwO K G1 σ v ov → PostE K b W G1 σ Q (k ov ρ1) → R v H1) : tO K b W o σ H R := by
  cases o with
  | e f => exact stepD r h fun v H1 ρ1 G1 x r1 s1 d1 q1 => hR v H1 ρ1 G1 (.val x) r1 s1 d1 q1
  | n i =>
    have h : PostE K b W G σ Q (match viewAt ρ i with
      | some _ => k (.nm i) ρ
      | none => .stuck) := h
    cases e : viewAt ρ i with
    | none => rw [e] at h; exact h.elim
    | some x =>
      rw [e] at h
      obtain ⟨v, h1, _⟩ := r.view e
      exact ⟨v, h1, hR v H ρ G (.nm i) r (Same.refl _) h1 h⟩

/-! ### operators -/
def Post1 (K : PySem.W.Frag) (b : Bx) (G : Hp) (σ : St) (ρ : Ev) (Q : VK) : Option Sv → Prop
  | some sv => ∀ v G' H', Rel K b G' H' σ ρ → Same G G' → RepT K b G' H' σ ρ v sv → Q v H'
  | none => False
theorem post_of {o : Option Sv} (h : PostE K b W G σ Q (RE.of o ρ)) : Post1 K b G σ ρ Q o := by
  cases o with
  | some sv => exact h
  | none => exact h
def OpS (K : PySem.W.Frag) (r : R2) (g : D → D → Option Sv) : Prop := ∀ (b : Bx) (G H : Hp) (σ : St) (ρ : Ev) (x y : V) (dx dy : D) (Q : VK), Rel K b G H σ ρ → Vw K G H x dx → Vw K G H y dy →
  Post1 K b G σ ρ Q (g dx dy) → r x y H Q
theorem OpS.or {r r' : R2} {g g' : D → D → Option Sv} (h : OpS K r g) (h' : OpS K r' g') : OpS K (fun x y H Q => r x y H Q ∨ r' x y H Q) (fun x y => match g x y with | some z => some z | none => g' x y) := by
  intro b G H σ ρ x y dx dy Q rl hx hy hq
  cases e : g dx dy with
  | some z =>
    simp only [e] at hq
    exact .inl (h b G H σ ρ x y dx dy Q rl hx hy (by rw [e]; exact hq))
  | none =>
    simp only [e] at hq
    exact .inr (h' b G H σ ρ x y dx dy Q rl hx hy hq)
/-- two operands' data, then g -/
def RE.of2 (g : D → D → Option Sv) (a c : Ov) (ρ : Ev) : RE := match a.get ρ, c.get ρ with
  | some x, some y => RE.of (g x y) ρ
  | _, _ => .stuck
def fOp (g : D → D → Option Sv) (a c : Opd) : Ev → RE := fun ρ => a.run ρ fun x ρ1 => c.run ρ1 fun y ρ2 => RE.of2 g x y ρ2
theorem of2_post {g : D → D → Option Sv} {x y : Ov} {ρ : Ev} (h : PostE K b W G σ Q (RE.of2 g x y ρ)) : ∃ dx dy, x.get ρ = some dx ∧ y.get ρ = some dy ∧ Post1 K b G σ ρ Q (g dx dy) := by
  unfold RE.of2 at h
  split at h
  · exact ⟨_, _, by assumption, by assumption, post_of h⟩
  · exact h.elim
theorem op_post {r : R2} {g : D → D → Option Sv} {oa ob : Opd} (hs : OpS K r g) : ∀ σ H Q, tE K b W (fOp g oa ob) σ H Q → tOp r (tO K b W oa) (tO K b W ob) σ H Q := by
  rintro σ H Q ⟨ρ, G, rl, h⟩
  refine stepO rl h fun v H1 ρ1 G1 x r1 s1 d1 q1 => ?_
  refine stepO r1 q1 fun u H2 ρ2 G2 y r2 s2 d2 q2 => ?_
  obtain ⟨dx, dy, e1, e2, q⟩ := of2_post q2
  exact hs b G2 H2 σ ρ2 v u dx dy Q r2 ((d1.mono s2).vw r2 e1) (d2.vw r2 e2) q
/-- an operand's syntax -/
abbrev PO2 (X : Cx) (b : Bx) (W : WX) (e : Expr) (o : Opd) : Prop := PE X e (tO X.K b W o)
theorem o_n {X : Cx} (i : Nat) {x : Str} {pos : Pos} (hN : X.N[i]? = some x := by rfl) (hv : Vis X.env.scope x := by first | exact Or.inl rfl | exact Or.inr (Or.inl rfl) | exact Or.inr (Or.inr rfl)) (hd : (x == ("__debug__" : Str)) = false := by decide)
    (hcd : (x == ("__classdict__" : Str)) = false := by decide) : PO2 X b W (.Name x pos) (.n i) := pe_var hN hv hd hcd
theorem o_e {X : Cx} {e : Expr} {f : Ev → RE} (h : PE X e (tE X.K b W f)) : PO2 X b W e (.e f) := h
theorem e_op {X : Cx} {a c : Expr} {op : Operator} {pos : Pos} {r : R2} {g : D → D → Option Sv} {oa ob : Opd} (ho : OpR X (binaryOp op) r) (hs : OpS X.K r g) (ha : PO2 X b W a oa) (hb : PO2 X b W c ob) :
    PE X (.BinOp a op c pos) (tE X.K b W (fOp g oa ob)) := PE.imp (pe_op ho ha hb) (op_post hs)
theorem e_cmp {X : Cx} {a c : Expr} {op : CmpOp} {pos : Pos} {r : R2} {g : D → D → Option Sv} {oa ob : Opd} (ho : OpR X (compareOp op) r) (hs : OpS X.K r g) (ha : PO2 X b W a oa) (hb : PO2 X b W c ob) (hm : behindInMarks op c = false := by first | exact nomark _ | rfl) :
    PE X (.Compare a [op] [c] pos) (tE X.K b W (fOp g oa ob)) := PE.imp (pe_cmpR ho ha hb hm) (op_post hs)
end
end Dl
set_option maxHeartbeats 4000000
namespace Dl
open PySem PySem.Spec L2

/-! ### what operators give on data -/
def addD : D → D → Option Sv
  | .int i, .int j => some (.d (.int (i + j)))
  | .str x, .str y => if x.length + y.length ≤ sizeLine then some (.d (.str (x ++ y))) else none
  | .tuple xs, .tuple ys => if xs.length + ys.length ≤ sizeLine then some (.d (.tuple (xs ++ ys))) else none
  | .list xs, .list ys => if xs.length + ys.length ≤ sizeLine then some (.ow (xs ++ ys)) else none
  | _, _ => none
def subD : D → D → Option Sv
  | .int i, .int j => some (.d (.int (i - j)))
  | _, _ => none
def mulD : D → D → Option Sv
  | .int i, .int j => if i.natAbs.log2 + j.natAbs.log2 < 1000000 then some (.d (.int (i * j))) else none
  | .list xs, .int k => if -(2 ^ 63) ≤ k ∧ k < 2 ^ 63 ∧ xs.length * k.toNat ≤ sizeLine then some (.ow (List.replicate k.toNat xs).flatten) else none
  | .str z, .int k => if -(2 ^ 63) ≤ k ∧ k < 2 ^ 63 ∧ z.length * k.toNat ≤ sizeLine then some (.d (.str (Txt.mul z k))) else none
  | _, _ => none
def fdivD : D → D → Option Sv
  | .int i, .int j => if 0 < j ∧ j.natAbs.log2 < 9000 then some (.d (.int (i / j))) else none
  | _, _ => none
def modD : D → D → Option Sv
  | .int i, .int j => if 0 < j then some (.d (.int (i % j))) else none
  | _, _ => none
def powD : D → D → Option Sv
  | .int i, .int j => if 0 ≤ j ∧ j ≤ 1000000 ∧ i.natAbs < 2 ^ 64 then some (.d (.int (i ^ j.toNat))) else none
  | _, _ => none
def bol (c : Bool) : Sv := .d (.bool c)
def ltD : D → D → Option Sv | .int i, .int j => some (bol (decide (i < j))) | _, _ => none
def leD : D → D → Option Sv | .int i, .int j => some (bol (decide (i ≤ j))) | _, _ => none
def gtD : D → D → Option Sv | .int i, .int j => some (bol (decide (j < i))) | _, _ => none
def geD : D → D → Option Sv | .int i, .int j => some (bol (decide (j ≤ i))) | _, _ => none
def eqB : D → D → Option Bool
  | .str x, .str y => some (x == y)
  | x, y => if SeqAt.shaped x && SeqAt.shaped y then some (PyData.eqv x y) else none
def eqD (x y : D) : Option Sv := (eqB x y).map bol
def neD (x y : D) : Option Sv := (eqB x y).map fun c => bol (!c)
/-- x in y -/
def inB : D → D → Option Bool
  | x, .list ys => if SeqAt.shaped x && SeqAt.shaped (.list ys) then some (ys.any fun z => PyData.eqv z x) else none
  | .str c, .tuple ys => if ys.all (fun | .str _ => true | _ => false) then some (ys.any fun | .str z => z == c | _ => false) else none
  | .str c, .str z => match c.cps.toList with
    | [n] => some (decide (n ∈ z.cps.toList))
    | _ => none
  | _, _ => none
def inD (x y : D) : Option Sv := (inB x y).map bol
def ninD (x y : D) : Option Sv := (inB x y).map fun c => bol (!c)
def isNoneD (x : D) : Bool := match x with | .none => true | _ => false

section
variable {K : PySem.W.Frag}
theorem post_d {b : Bx} {G H : Hp} {σ : St} {ρ : Ev} {Q : VK} {v : V} {x : D} (r : Rel K b G H σ ρ) (h : Post1 K b G σ ρ Q (some (.d x))) (hd : Da K G v x) : Q v H := h v G H r (Same.refl _) hd
/-- a new tuple -/
theorem post_tup {b : Bx} {G H : Hp} {σ : St} {ρ : Ev} {Q : VK} {vs : List V} {xs : List D} (r : Rel K b G H σ ρ) (h : Post1 K b G σ ρ Q (some (.d (.tuple xs)))) (hd : DaAll K G vs xs) {p : Addr} (hp : H p = none) : Q (.ref p) (upd H p (.tup vs)) := by
  have e := Ext.upd r.le hp (.tup vs)
  exact h _ _ _ (r.ext e) e.g (.tup (SqT.of upd_same) (DaAll.mono e.g hd))
theorem Rel.t0 {b : Bx} {G H : Hp} {σ : St} {ρ : Ev} (r : Rel K b G H σ ρ) {a : Addr} (h : H a = none) : b.T a = none := by
  cases q : b.T a with
  | none => rfl
  | some o => rw [(r.tmp a o q).1] at h; cases h
/-- a new list, owned by nobody yet -/
theorem post_ow {b : Bx} {G H : Hp} {σ : St} {ρ : Ev} {Q : VK} {vs : List V} {xs : List D} (r : Rel K b G H σ ρ) (h : Post1 K b G σ ρ Q (some (.ow xs))) (hd : DaAll K G vs xs) {p : Addr} (hp : H p = none) : Q (.ref p) (upd H p (.lst vs)) := by
  have e := Ext.updH r.le hp (.lst vs)
  refine h _ _ _ (r.ext e) e.g ⟨p, vs, rfl, upd_same, r.g0 hp, r.h0 hp, r.t0 hp, fun i z => ?_, hd⟩
  obtain ⟨z1, l, z2⟩ := z
  rcases z2 with z2 | z2
  · obtain ⟨v, h1, a, ys, e1, h2, _⟩ := r.slot _ _ z2
    rw [z1] at h1; cases h1; cases e1
    rw [hp] at h2; cases h2
  · obtain ⟨v, h1, a, ys, e1, h2, _⟩ := r.slot _ _ z2
    rw [z1] at h1; cases h1; cases e1
    rw [hp] at h2; cases h2
theorem post_if {b : Bx} {G : Hp} {σ : St} {ρ : Ev} {Q : VK} {c : Prop} [Decidable c] {o : Option Sv} (h : Post1 K b G σ ρ Q (if c then o else none)) : c ∧ Post1 K b G σ ρ Q o := by
  by_cases e : c
  · rw [if_pos e] at h; exact ⟨e, h⟩
  · rw [if_neg e] at h; exact h.elim
theorem post_bl {b : Bx} {G H : Hp} {σ : St} {ρ : Ev} {Q : VK} {c : Bool} (r : Rel K b G H σ ρ) (h : Post1 K b G σ ρ Q (some (bol c))) : Q (.bl c) H := post_d r h (.bl c)
theorem post_int {b : Bx} {G H : Hp} {σ : St} {ρ : Ev} {Q : VK} {c : Int} (r : Rel K b G H σ ρ) (h : Post1 K b G σ ρ Q (some (.d (.int c)))) : Q (.int c) H := post_d r h (.int c)
theorem post_str {b : Bx} {G H : Hp} {σ : St} {ρ : Ev} {Q : VK} {c : Str} (r : Rel K b G H σ ρ) (h : Post1 K b G σ ρ Q (some (.d (.str c)))) : Q (.str c) H := post_d r h (.str c)

/-! ### operators, sound -/
def r4 (r1 r2 r3 r4 : R2) : R2 := fun x y H Q => r1 x y H Q ∨ r2 x y H Q ∨ r3 x y H Q ∨ r4 x y H Q
abbrev rAddD (K : PySem.W.Frag) : R2 := fun x y H Q => rI0 (fun i j => .int (i + j)) x y H Q ∨ (∃ i j, x = .str i ∧ y = .str j ∧ i.length + j.length ≤ sizeLine ∧ Q (.str (i ++ j)) H) ∨ rCatA K x y H Q ∨ rCat x y H Q
theorem op_addD {X : Cx} : OpR X (binaryOp .Add) (rAddD X.K) := op_add.or (op_add_str.or (op_catA.or op_cat))
/-- a list that is seen lies in the heap -/
theorem Vw.lst {G H : Hp} (s : Same G H) {v : V} {l : List D} (h : Vw K G H v (.list l)) : ∃ a xs, v = .ref a ∧ H a = some (.lst xs) ∧ DaAll K G xs l := by
  rcases h with h | ⟨a, xs, l', rfl, e, h1, h2⟩
  · cases h with
    | lst h1 h2 => exact ⟨_, _, rfl, s _ _ h1, h2⟩
  · cases e; exact ⟨a, xs, rfl, h1, h2⟩
theorem Vw.da {G H : Hp} {v : V} {x : D} (h : Vw K G H v x) (n : ∀ l, x ≠ .list l) : Da K G v x := by
  rcases h with h | ⟨a, xs, l', rfl, e, h1, h2⟩
  · exact h
  · exact absurd e (n l')
theorem os_add : OpS K (rAddD K) addD := by
  intro b G H σ ρ x y dx dy Q r hx hy h
  have two : (∃ l m, dx = .list l ∧ dy = .list m) ∨ ((∀ l, dx ≠ .list l) ∧ (∀ l, dy ≠ .list l)) := by
    cases dx <;> cases dy <;> first | exact h.elim | exact .inl ⟨_, _, rfl, rfl⟩ | exact .inr ⟨(fun l z => nomatch z), (fun l z => nomatch z)⟩
  rcases two with ⟨ds, ds', rfl, rfl⟩ | ⟨n1, n2⟩
  · obtain ⟨a, xs, rfl, h1, h2⟩ := hx.lst r.le
    obtain ⟨a', xs', rfl, h1', h2'⟩ := hy.lst r.le
    obtain ⟨hz, h⟩ := post_if (show Post1 K b G σ ρ Q (if ds.length + ds'.length ≤ sizeLine then some (.ow (ds ++ ds')) else none) from h)
    have e1 := h2.length
    have e2 := h2'.length
    exact .inr (.inr (.inr ⟨a, a', xs, xs', rfl, rfl, h1, h1', by omega, fun p hp => post_ow r h (h2.append h2') hp⟩))
  have hx := hx.da n1
  have hy := hy.da n2
  cases hx with
  | int i =>
    cases hy with
    | int j => exact .inl ⟨i, j, rfl, rfl, post_int r h⟩
    | _ => exact h.elim
  | str i =>
    cases hy with
    | str j =>
      obtain ⟨hz, h⟩ := post_if (show Post1 K b G σ ρ Q (if i.length + j.length ≤ sizeLine then _ else none) from h)
      exact .inr (.inl ⟨i, j, rfl, rfl, hz, post_str r h⟩)
    | _ => exact h.elim
  | @tup a xs ds h1 h2 =>
    cases hy with
    | @tup a' xs' ds' h1' h2' =>
      obtain ⟨hz, h⟩ := post_if (show Post1 K b G σ ρ Q (if ds.length + ds'.length ≤ sizeLine then some (.d (.tuple (ds ++ ds'))) else none) from h)
      have e1 := h2.length
      have e2 := h2'.length
      refine .inr (.inr (.inl ⟨a, a', xs, xs', rfl, rfl, seqT r.le h1, seqT r.le h1', by omega, fun q => ?_, fun q q' => ?_, fun q q' p hp => ?_⟩))
      · subst q
        cases h2
        rw [List.nil_append] at h
        exact post_d r h (.tup h1' h2')
      · subst q'
        cases h2'
        rw [List.append_nil] at h
        exact post_d r h (.tup h1 h2)
      · exact post_tup r h (h2.append h2') hp
    | _ => exact h.elim
  | lst _ _ => exact absurd rfl (n1 _)
  | _ => exact h.elim
theorem os_ints {g : D → D → Option Sv} {C : Int → Int → Prop} {f : Int → Int → V} (hg : ∀ i j, ∀ {b : Bx} {G H : Hp} {σ : St} {ρ : Ev} {Q : VK}, Rel K b G H σ ρ → Post1 K b G σ ρ Q (g (.int i) (.int j)) → C i j ∧ Q (f i j) H)
    (hn : ∀ x y, (∀ i j, ¬ (x = .int i ∧ y = .int j)) → g x y = none) : OpS K (rI C f) g := by
  intro b G H σ ρ x y dx dy Q r hx hy h
  have two : ∃ i j, dx = .int i ∧ dy = .int j := by
    refine Classical.byContradiction fun z => ?_
    rw [hn _ _ (fun i j q => z ⟨i, j, q.1, q.2⟩)] at h
    exact h.elim
  obtain ⟨i, j, rfl, rfl⟩ := two
  have hx := hx.da fun l z => nomatch z
  have hy := hy.da fun l z => nomatch z
  cases hx
  cases hy
  obtain ⟨c, q⟩ := hg i j r h; exact ⟨i, j, rfl, rfl, c, q⟩
theorem os_ints0 {g : D → D → Option Sv} {f : Int → Int → V} (hg : ∀ i j, ∀ {b : Bx} {G H : Hp} {σ : St} {ρ : Ev} {Q : VK}, Rel K b G H σ ρ → Post1 K b G σ ρ Q (g (.int i) (.int j)) → Q (f i j) H)
    (hn : ∀ x y, (∀ i j, ¬ (x = .int i ∧ y = .int j)) → g x y = none) : OpS K (rI0 f) g := by
  intro b G H σ ρ x y dx dy Q r hx hy h
  have two : ∃ i j, dx = .int i ∧ dy = .int j := by
    refine Classical.byContradiction fun z => ?_
    rw [hn _ _ (fun i j q => z ⟨i, j, q.1, q.2⟩)] at h
    exact h.elim
  obtain ⟨i, j, rfl, rfl⟩ := two
  have hx := hx.da fun l z => nomatch z
  have hy := hy.da fun l z => nomatch z
  cases hx
  cases hy
  exact ⟨i, j, rfl, rfl, hg i j r h⟩
theorem os_sub : OpS K (rI0 fun i j => .int (i - j)) subD := os_ints0 (fun i j _ _ _ _ _ _ r h => post_int r h) fun x y n => by
  unfold subD; split
  · rename_i i j; exact absurd ⟨rfl, rfl⟩ (n i j)
  · rfl
theorem os_lt : OpS K (rI0 fun i j => .bl (decide (i < j))) ltD := os_ints0 (fun i j _ _ _ _ _ _ r h => post_bl r h) fun x y n => by
  unfold ltD; split
  · rename_i i j; exact absurd ⟨rfl, rfl⟩ (n i j)
  · rfl
theorem os_le : OpS K (rI0 fun i j => .bl (decide (i ≤ j))) leD := os_ints0 (fun i j _ _ _ _ _ _ r h => post_bl r h) fun x y n => by
  unfold leD; split
  · rename_i i j; exact absurd ⟨rfl, rfl⟩ (n i j)
  · rfl
theorem os_gt : OpS K (rI0 fun i j => .bl (decide (j < i))) gtD := os_ints0 (fun i j _ _ _ _ _ _ r h => post_bl r h) fun x y n => by
  unfold gtD; split
  · rename_i i j; exact absurd ⟨rfl, rfl⟩ (n i j)
  · rfl
theorem os_ge : OpS K (rI0 fun i j => .bl (decide (j ≤ i))) geD := os_ints0 (fun i j _ _ _ _ _ _ r h => post_bl r h) fun x y n => by
  unfold geD; split
  · rename_i i j; exact absurd ⟨rfl, rfl⟩ (n i j)
  · rfl
theorem os_fdiv : OpS K (rI CDivW fun i j => .int (i / j)) fdivD := os_ints (fun i j b G H σ ρ Q r h => by
    obtain ⟨c, h⟩ := post_if (show Post1 K b G σ ρ Q (if 0 < j ∧ j.natAbs.log2 < 9000 then _ else none) from h)
    exact ⟨c, post_int r h⟩) fun x y n => by
  unfold fdivD; split
  · rename_i i j; exact absurd ⟨rfl, rfl⟩ (n i j)
  · rfl
theorem os_mod : OpS K (rI (fun _ j => 0 < j) fun i j => .int (i % j)) modD := os_ints (fun i j b G H σ ρ Q r h => by
    obtain ⟨c, h⟩ := post_if (show Post1 K b G σ ρ Q (if 0 < j then _ else none) from h)
    exact ⟨c, post_int r h⟩) fun x y n => by
  unfold modD; split
  · rename_i i j; exact absurd ⟨rfl, rfl⟩ (n i j)
  · rfl
theorem os_pow : OpS K (rI CPow fun i j => .int (i ^ j.toNat)) powD := os_ints (fun i j b G H σ ρ Q r h => by
    obtain ⟨c, h⟩ := post_if (show Post1 K b G σ ρ Q (if 0 ≤ j ∧ j ≤ 1000000 ∧ i.natAbs < 2 ^ 64 then _ else none) from h)
    exact ⟨c, post_int r h⟩) fun x y n => by
  unfold powD; split
  · rename_i i j; exact absurd ⟨rfl, rfl⟩ (n i j)
  · rfl
def rMulS : R2 := fun x y H Q => ∃ z k, x = .str z ∧ y = .int k ∧ MulOk z k ∧ Q (.str (Txt.mul z k)) H
theorem op_mulS {X : Cx} : OpR X (binaryOp .Mult) rMulS := by
  intro pins s σ H x y v u Q I rx ry h
  obtain ⟨z, k, rfl, rfl, ok, q⟩ := h
  obtain ⟨t, rfl⟩ := rx
  obtain ⟨t', rfl⟩ := ry
  exact SB.mul ok fun t2 tk => ⟨.str (Txt.mul z k), H, I.tok _, ⟨_, rfl⟩, q⟩
theorem mulOk_of {z : Str} {k : Int} (h1 : -(2 ^ 63) ≤ k) (h2 : k < 2 ^ 63) (h3 : z.length * k.toNat ≤ sizeLine) : MulOk z k := by
  refine ⟨?_, fun c _ => ?_, fun _ _ => ?_⟩
  · rw [Bool.or_eq_false_iff]
    exact ⟨decide_eq_false (by omega), decide_eq_false (by omega)⟩
  · have hk : 0 < k := by omega
    rw [sizeLine_eq] at h3
    have h4 : (z.length : Int) * k ≤ 2 ^ 63 - 1 := by
      obtain ⟨m, rfl⟩ : ∃ m : Nat, k = (m : Int) := ⟨k.toNat, by omega⟩
      rw [Int.toNat_natCast] at h3
      rw [← Int.natCast_mul]
      omega
    have h5 := (Int.le_ediv_iff_mul_le hk).mpr h4
    omega
  · exact decide_eq_false (by omega)
abbrev rMulD : R2 := fun x y H Q => (rI CMulW (fun i j => .int (i * j)) x y H Q ∨ rRep x y H Q) ∨ rMulS x y H Q
theorem op_mulD {X : Cx} : OpR X (binaryOp .Mult) rMulD := (op_mulW.or op_rep).or op_mulS
theorem DaAll.rep {G : Hp} {vs : List V} {xs : List D} (h : DaAll K G vs xs) : ∀ k : Nat, DaAll K G (List.replicate k vs).flatten (List.replicate k xs).flatten
  | 0 => .nil
  | k + 1 => by
    rw [List.replicate_succ, List.replicate_succ, List.flatten_cons, List.flatten_cons]
    exact h.append (DaAll.rep h k)
theorem os_mul : OpS K rMulD mulD := by
  intro b G H σ ρ x y dx dy Q r hx hy h
  have two : (∃ i j, dx = .int i ∧ dy = .int j) ∨ (∃ l k, dx = .list l ∧ dy = .int k) ∨ ∃ z k, dx = .str z ∧ dy = .int k := by
    cases dx <;> cases dy <;> first | exact h.elim | exact .inl ⟨_, _, rfl, rfl⟩ | exact .inr (.inl ⟨_, _, rfl, rfl⟩) | exact .inr (.inr ⟨_, _, rfl, rfl⟩)
  have hy := hy.da fun l z => by rcases two with ⟨i, j, _, e⟩ | ⟨i, j, _, e⟩ | ⟨i, j, _, e⟩ <;> (rw [e] at z; cases z)
  rcases two with ⟨i, j, rfl, rfl⟩ | ⟨ds, k, rfl, rfl⟩ | ⟨z, k, rfl, rfl⟩
  · have hx := hx.da fun l z => nomatch z
    cases hx
    cases hy
    obtain ⟨c, h⟩ := post_if (show Post1 K b G σ ρ Q (if i.natAbs.log2 + j.natAbs.log2 < 1000000 then _ else none) from h)
    exact .inl (.inl ⟨i, j, rfl, rfl, c, post_int r h⟩)
  · obtain ⟨a, xs, rfl, h1, h2⟩ := hx.lst r.le
    cases hy
    obtain ⟨c, h⟩ := post_if (show Post1 K b G σ ρ Q (if -(2 ^ 63) ≤ k ∧ k < 2 ^ 63 ∧ ds.length * k.toNat ≤ sizeLine then some (.ow (List.replicate k.toNat ds).flatten) else none) from h)
    obtain ⟨c1, c2, c3⟩ := c
    have e1 := h2.length
    exact .inl (.inr ⟨a, k, xs, rfl, rfl, h1, c1, c2, by rw [e1]; exact c3, fun p hp => post_ow r h (h2.rep k.toNat) hp⟩)
  · have hx := hx.da fun l z => nomatch z
    cases hx
    cases hy
    obtain ⟨c, h⟩ := post_if (show Post1 K b G σ ρ Q (if -(2 ^ 63) ≤ k ∧ k < 2 ^ 63 ∧ z.length * k.toNat ≤ sizeLine then some (.d (.str (Txt.mul z k))) else none) from h)
    obtain ⟨c1, c2, c3⟩ := c
    exact .inr ⟨z, k, rfl, rfl, mulOk_of c1 c2 c3, post_str r h⟩
abbrev rEqD2 (K : PySem.W.Frag) : R2 := fun x y H Q => rEq x y H Q ∨ rEqD K x y H Q
abbrev rNeD2 (K : PySem.W.Frag) : R2 := fun x y H Q => rNe x y H Q ∨ rNeD K x y H Q
theorem op_eqD2 {X : Cx} (hu : X.A.units + 64 < cLine) : OpR X (compareOp .Eq) (rEqD2 X.K) := op_eq.or (op_eqD hu)
theorem op_neD2 {X : Cx} (hu : X.A.units + 64 < cLine) : OpR X (compareOp .NotEq) (rNeD2 X.K) := op_ne.or (op_neD hu)
theorem eqB_cases (x y : D) (c : Bool) (h : eqB x y = some c) : (∃ s t, x = .str s ∧ y = .str t ∧ c = (s == t)) ∨ (SeqAt.shaped x = true ∧ SeqAt.shaped y = true ∧ c = PyData.eqv x y) := by
  unfold eqB at h
  split at h
  · cases h; exact .inl ⟨_, _, rfl, rfl, rfl⟩
  · split at h
    · rename_i z
      cases h
      rw [Bool.and_eq_true] at z
      exact .inr ⟨z.1, z.2, rfl⟩
    · cases h
theorem os_eq : OpS K (rEqD2 K) eqD := by
  intro b G H σ ρ x y dx dy Q r hx hy h
  unfold eqD at h
  cases e : eqB dx dy with
  | none => rw [e] at h; exact h.elim
  | some c =>
    rw [e] at h
    rcases eqB_cases dx dy c e with ⟨s, t, rfl, rfl, rfl⟩ | ⟨h1, h2, rfl⟩
    · have hx := hx.da fun l z => nomatch z
      have hy := hy.da fun l z => nomatch z
      cases hx; cases hy
      refine .inl ⟨rfl, ?_⟩
      rw [dec_str]
      exact post_bl r h
    · exact .inr ⟨dx, dy, hx.dp r.le, hy.dp r.le, h1, h2, post_bl r h⟩
theorem os_ne : OpS K (rNeD2 K) neD := by
  intro b G H σ ρ x y dx dy Q r hx hy h
  unfold neD at h
  cases e : eqB dx dy with
  | none => rw [e] at h; exact h.elim
  | some c =>
    rw [e] at h
    rcases eqB_cases dx dy c e with ⟨s, t, rfl, rfl, rfl⟩ | ⟨h1, h2, rfl⟩
    · have hx := hx.da fun l z => nomatch z
      have hy := hy.da fun l z => nomatch z
      cases hx; cases hy
      refine .inl ⟨rfl, ?_⟩
      rw [dec_str]
      exact post_bl r h
    · exact .inr ⟨dx, dy, hx.dp r.le, hy.dp r.le, h1, h2, post_bl r h⟩
/-! in, not in -/
abbrev rInSign (neg : Bool) : R2 := fun x y H Q => ∃ (c : Nat) (z : Str), x = .str ⟨#[c]⟩ ∧ y = .str z ∧ Q (.bl (if neg then !decide (c ∈ z.cps.toList) else decide (c ∈ z.cps.toList))) H
theorem op_inS {X : Cx} : OpR X (compareOp .In) (rInSign false) := op_in_sign
theorem op_ninS {X : Cx} : OpR X (compareOp .NotIn) (rInSign true) := op_notIn_sign
abbrev rInA (K : PySem.W.Frag) : R2 := fun x y H Q => rInD K x y H Q ∨ rIn K false x y H Q ∨ rInSign false x y H Q
abbrev rNinA (K : PySem.W.Frag) : R2 := fun x y H Q => rNotInD K x y H Q ∨ rIn K true x y H Q ∨ rInSign true x y H Q
theorem op_inA {X : Cx} (hu : X.A.units + 65 < cLine) : OpR X (compareOp .In) (rInA X.K) := (op_inD hu).or (op_in_seq.or op_inS)
theorem op_ninA {X : Cx} (hu : X.A.units + 65 < cLine) : OpR X (compareOp .NotIn) (rNinA X.K) := (op_notInD hu).or (op_notIn_seq.or op_ninS)
theorem strs_flat {G : Hp} {c : Str} : ∀ {vs : List V} {xs : List D}, DaAll K G vs xs → xs.all (fun | .str _ => true | _ => false) = true → vs.all flatV = true ∧ inV (.str c) vs = xs.any fun | .str z => z == c | _ => false
  | _, _, .nil, _ => ⟨rfl, rfl⟩
  | _, _, .cons h r, e => by
    rw [List.all_cons, Bool.and_eq_true] at e
    obtain ⟨q1, q2⟩ := strs_flat r e.2
    cases h with
    | str z =>
      refine ⟨by rw [List.all_cons, q1]; rfl, ?_⟩
      have q2' : inV (.str c) _ = _ := q2
      unfold inV at q2' ⊢
      rw [List.any_cons, List.any_cons, q2']
      rfl
    | _ => exact absurd e.1 Bool.false_ne_true
theorem one_sign {c : Str} {n : Nat} (h : c.cps.toList = [n]) : c = ⟨#[n]⟩ := by
  cases c with
  | mk cps => simp at h; cases cps; simp at h; subst h; rfl
theorem os_in : OpS K (rInA K) inD := by
  intro b G H σ ρ x y dx dy Q r hx hy h
  unfold inD at h
  have hx' := hx.dp r.le
  have hy' := hy.dp r.le
  unfold inB at h
  split at h
  · split at h
    · rename_i z
      rw [Bool.and_eq_true] at z
      exact .inl ⟨_, _, hx', hy', z.1, z.2, post_bl r h⟩
    · exact h.elim
  · split at h
    · rename_i c ys z
      have hx := hx.da fun l z => nomatch z
      have hy := hy.da fun l z => nomatch z
      cases hx
      cases hy with
      | tup h1 h2 =>
        obtain ⟨q1, q2⟩ := strs_flat (c := c) h2 z
        refine .inr (.inl ⟨_, _, rfl, .inr (seqT r.le h1), rfl, q1, ?_⟩)
        rw [if_neg Bool.false_ne_true, q2]
        exact post_bl r h
    · exact h.elim
  · split at h
    · rename_i n e
      have hx := hx.da fun l z => nomatch z
      have hy := hy.da fun l z => nomatch z
      cases hx; cases hy
      refine .inr (.inr ⟨n, _, ?_, rfl, post_bl r h⟩)
      rw [one_sign e]
    · exact h.elim
  · exact h.elim
theorem os_nin : OpS K (rNinA K) ninD := by
  intro b G H σ ρ x y dx dy Q r hx hy h
  unfold ninD at h
  have hx' := hx.dp r.le
  have hy' := hy.dp r.le
  unfold inB at h
  split at h
  · split at h
    · rename_i z
      rw [Bool.and_eq_true] at z
      exact .inl ⟨_, _, hx', hy', z.1, z.2, post_bl r h⟩
    · exact h.elim
  · split at h
    · rename_i c ys z
      have hx := hx.da fun l z => nomatch z
      have hy := hy.da fun l z => nomatch z
      cases hx
      cases hy with
      | tup h1 h2 =>
        obtain ⟨q1, q2⟩ := strs_flat (c := c) h2 z
        refine .inr (.inl ⟨_, _, rfl, .inr (seqT r.le h1), rfl, q1, ?_⟩)
        rw [if_pos rfl, q2]
        exact post_bl r h
    · exact h.elim
  · split at h
    · rename_i n e
      have hx := hx.da fun l z => nomatch z
      have hy := hy.da fun l z => nomatch z
      cases hx; cases hy
      refine .inr (.inr ⟨n, _, ?_, rfl, post_bl r h⟩)
      rw [one_sign e]
    · exact h.elim
  · exact h.elim
end

/-! ### constants, names -/
section
variable {X : Cx} {b : Bx} {W : WX}
def fC (x : D) : Ev → RE := fun ρ => .ok (.d x) ρ
theorem e_const {e : Expr} {v : V} {x : D} (h : PE X e (tC v)) (hd : ∀ G, Da X.K G v x) : PE X e (tE X.K b W (fC x)) := PE.imp h fun σ H Q ⟨ρ, G, r, q⟩ => q v G H r (Same.refl _) (hd G)
theorem e_int {i j pos} : PE X (.Constant (.int i) j pos) (tE X.K b W (fC (.int i))) := e_const pe_int fun _ => .int i
theorem e_bl {i j pos} : PE X (.Constant (.bool i) j pos) (tE X.K b W (fC (.bool i))) := e_const pe_bl fun _ => .bl i
theorem e_non {j pos} : PE X (.Constant .none j pos) (tE X.K b W (fC .none)) := e_const pe_non fun _ => .non
theorem e_str {x j pos} : PE X (.Constant (.str x) j pos) (tE X.K b W (fC (.str x))) := e_const pe_str fun _ => .str x
/-- a module's constant -/
theorem e_glob {x : Str} {v : V} {d : D} {u : Value} {pos : Pos} (hg : Gl X x) (hm : X.mg x = some u) (r : RelV v u) (hd : ∀ G, Da X.K G v d) (hdb : (x == ("__debug__" : Str)) = false := by decide) : PE X (.Name x pos) (tE X.K b W (fC d)) := e_const (pe_glob hg hm r hdb) hd

/-- a name: what is owned is shared from now on -/
def fVar (i : Nat) : Ev → RE := fun ρ => match ρ[i]? with
  | some (some (.d x)) => .ok (.d x) ρ
  | some (some (.ow l)) => .ok (.d (.list l)) (ρ.set i (some (.d (.list l))))
  | some (some (.ex c)) => .ok (.ex c) ρ
  | some (some (.fz l)) => .ok (.fz l) ρ
  | _ => .stuck
/-- a name that isn't read again: what is owned goes on -/
def fMove (i : Nat) : Ev → RE := fun ρ => match ρ[i]? with
  | some (some (.d x)) => .ok (.d x) ρ
  | some (some (.ow l)) => .ok (.ow l) (ρ.set i none)
  | some (some (.ex c)) => .ok (.ex c) ρ
  | some (some (.fz l)) => .ok (.fz l) ρ
  | _ => .stuck
theorem lt_of_get {α : Type} {l : List α} {i : Nat} {x : α} (h : l[i]? = some x) : i < l.length := (List.getElem?_eq_some_iff.mp h).1
/-- a slot that held what was owned gets what nobody owns -/
theorem Rel.setSh {K : PySem.W.Frag} {G H : Hp} {σ : St} {ρ : Ev} {i : Nat} {o : Option Sv} (r : Rel K b G H σ ρ) (hi : ∀ l, ρ[i]? ≠ some (some (.rf l)))
    (ho : ∀ sv, o = some sv → (∀ l, sv ≠ .ow l) ∧ (∀ l, sv ≠ .rf l) ∧ ∃ v, σ[i]? = some (some v) ∧ RepI K b G H i v sv) : Rel K b G H σ (ρ.set i o) := by
  have get : ∀ {j : Nat} {sv : Sv}, (ρ.set i o)[j]? = some (some sv) → (j = i ∧ o = some sv) ∨ (j ≠ i ∧ ρ[j]? = some (some sv)) := fun {j sv} q => by
    by_cases e : j = i
    · subst e
      by_cases hl : j < ρ.length
      · rw [List.getElem?_set_self hl] at q
        exact .inl ⟨rfl, Option.some.inj q⟩
      · rw [List.getElem?_eq_none (by simpa using hl)] at q; cases q
    · rw [List.getElem?_set_ne (Ne.symm e)] at q
      exact .inr ⟨e, q⟩
  have own : ∀ {j : Nat} {a : Addr}, Owns σ (ρ.set i o) j a → Owns σ ρ j a := fun {j a} ⟨h1, l, h2⟩ => by
    rcases h2 with h2 | h2
    · rcases get h2 with ⟨_, e⟩ | ⟨_, e⟩
      · exact absurd rfl ((ho _ e).1 l)
      · exact ⟨h1, l, .inl e⟩
    · rcases get h2 with ⟨_, e⟩ | ⟨_, e⟩
      · exact absurd rfl ((ho _ e).2.1 l)
      · exact ⟨h1, l, .inr e⟩
  refine ⟨r.le, by rw [List.length_set]; exact r.len, fun j sv q => ?_, fun j k a h1 h2 => r.apart j k a (own h1) (own h2), r.keep, r.base, r.fresh, fun p hp => ?_, fun a o h => ?_⟩
  · rcases get q with ⟨e1, e2⟩ | ⟨_, e⟩
    · subst e1; exact (ho _ e2).2.2
    · exact r.slot j sv e
  · obtain ⟨l, h1, h2⟩ := r.byr p hp
    refine ⟨l, h1, ?_⟩
    rw [List.getElem?_set_ne (fun z => hi l (by rw [z]; exact h2))]
    exact h2
  · obtain ⟨h1, h2, h3, h4⟩ := r.tmp a o h
    exact ⟨h1, h2, h3, fun j z => h4 j (own z)⟩
/-- what is held is no slot's -/
theorem Rel.ownT {K : PySem.W.Frag} {G H : Hp} {σ : St} {ρ : Ev} {i : Nat} {a : Addr} (r : Rel K b G H σ ρ) (h : Owns σ ρ i a) : b.T a = none := by
  cases q : b.T a with
  | none => rfl
  | some o => exact absurd h ((r.tmp a o q).2.2.2 i)
/-- what a name holds: its parts -/
theorem Rel.at {K : PySem.W.Frag} {G H : Hp} {σ : St} {ρ : Ev} {i : Nat} {sv : Sv} (r : Rel K b G H σ ρ) (h : ρ[i]? = some (some sv)) : ∃ v, σ[i]? = some (some v) ∧ RepI K b G H i v sv := r.slot i sv h
theorem Rel.noOther {K : PySem.W.Frag} {G H : Hp} {σ : St} {ρ : Ev} {i : Nat} {a : Addr} {l : List D} {o : Option Sv} (r : Rel K b G H σ ρ) (hσ : σ[i]? = some (some (.ref a))) (hρ : ρ[i]? = some (some (.ow l))) (ho : ∀ sv, o = some sv → (∀ l, sv ≠ .ow l) ∧ (∀ l, sv ≠ .rf l)) :
    ∀ j, ¬ Owns σ (ρ.set i o) j a := by
  rintro j ⟨h1, l', h2⟩
  have hl := lt_of_get hρ
  by_cases e : j = i
  · subst e
    rw [List.getElem?_set_self hl] at h2
    rcases h2 with h2 | h2
    · exact (ho _ (Option.some.inj h2)).1 l' rfl
    · exact (ho _ (Option.some.inj h2)).2 l' rfl
  · rw [List.getElem?_set_ne (Ne.symm e)] at h2
    exact e (r.apart j i a ⟨h1, l', h2⟩ ⟨hσ, l, .inl hρ⟩)
theorem var_post {i : Nat} : ∀ σ H Q, tE X.K b W (fVar i) σ H Q → tVar i σ H Q := by
  rintro σ H Q ⟨ρ, G, r, h⟩
  unfold fVar at h
  split at h
  · rename_i x e
    obtain ⟨v, h1, h2⟩ := r.slot _ _ e
    exact ⟨v, h1, h v G H r (Same.refl _) h2⟩
  · rename_i l e
    obtain ⟨v, h1, a, xs, rfl, ha, ga, h0, hx⟩ := r.slot _ _ e
    refine ⟨_, h1, ?_⟩
    have n1 : ∀ sv : Sv, (none : Option Sv) = some sv → (∀ l, sv ≠ .ow l) ∧ (∀ l, sv ≠ .rf l) := fun sv z => by cases z
    have rn : Rel X.K b G H σ (ρ.set i none) := r.setSh (fun l z => by rw [e] at z; cases z) fun sv z => by cases z
    have no := r.noOther h1 e n1
    have rg := share_slots rn ha ga h0 (r.ownT ⟨h1, l, .inl e⟩) no
    have sg : Same G (upd G a (.lst xs)) := fun c o q => by rw [upd_ne (ne_of_none q ga)]; exact q
    have hd : Da X.K (upd G a (.lst xs)) (.ref a) (.list l) := .lst upd_same (DaAll.mono sg hx)
    have rs : Rel X.K b (upd G a (.lst xs)) H σ ((ρ.set i none).set i (some (.d (.list l)))) := rg.setSh (fun l z => by rw [List.getElem?_set_self (lt_of_get e)] at z; cases z) fun sv z => by
      cases z
      exact ⟨(fun l z => nomatch z), (fun l z => nomatch z), _, h1, hd⟩
    rw [List.set_set] at rs
    exact h _ _ _ rs sg hd
  · rename_i c e
    obtain ⟨v, h1, h2⟩ := r.slot _ _ e
    exact ⟨v, h1, h v G H r (Same.refl _) h2⟩
  · rename_i l e
    obtain ⟨v, h1, h2⟩ := r.slot _ _ e
    exact ⟨v, h1, h v G H r (Same.refl _) h2⟩
  · exact h.elim
theorem move_post {i : Nat} : ∀ σ H Q, tE X.K b W (fMove i) σ H Q → tVar i σ H Q := by
  rintro σ H Q ⟨ρ, G, r, h⟩
  unfold fMove at h
  split at h
  · rename_i x e
    obtain ⟨v, h1, h2⟩ := r.slot _ _ e
    exact ⟨v, h1, h v G H r (Same.refl _) h2⟩
  · rename_i l e
    obtain ⟨v, h1, a, xs, rfl, ha, ga, h0, hx⟩ := r.slot _ _ e
    refine ⟨_, h1, ?_⟩
    have n1 : ∀ sv : Sv, (none : Option Sv) = some sv → (∀ l, sv ≠ .ow l) ∧ (∀ l, sv ≠ .rf l) := fun sv z => by cases z
    have rn : Rel X.K b G H σ (ρ.set i none) := r.setSh (fun l z => by rw [e] at z; cases z) fun sv z => by cases z
    exact h _ _ _ rn (Same.refl _) ⟨a, xs, rfl, ha, ga, h0, r.ownT ⟨h1, l, .inl e⟩, r.noOther h1 e n1, hx⟩
  · rename_i c e
    obtain ⟨v, h1, h2⟩ := r.slot _ _ e
    exact ⟨v, h1, h v G H r (Same.refl _) h2⟩
  · rename_i l e
    obtain ⟨v, h1, h2⟩ := r.slot _ _ e
    exact ⟨v, h1, h v G H r (Same.refl _) h2⟩
  · exact h.elim
theorem e_var (i : Nat) {x : Str} {pos : Pos} (hN : X.N[i]? = some x := by rfl) (hv : Vis X.env.scope x := by first | exact Or.inl rfl | exact Or.inr (Or.inl rfl) | exact Or.inr (Or.inr rfl)) (hd : (x == ("__debug__" : Str)) = false := by decide)
    (hcd : (x == ("__classdict__" : Str)) = false := by decide) : PE X (.Name x pos) (tE X.K b W (fVar i)) := PE.imp (pe_var hN hv hd hcd) var_post
theorem e_move (i : Nat) {x : Str} {pos : Pos} (hN : X.N[i]? = some x := by rfl) (hv : Vis X.env.scope x := by first | exact Or.inl rfl | exact Or.inr (Or.inl rfl) | exact Or.inr (Or.inr rfl)) (hd : (x == ("__debug__" : Str)) = false := by decide)
    (hcd : (x == ("__classdict__" : Str)) = false := by decide) : PE X (.Name x pos) (tE X.K b W (fMove i)) := PE.imp (pe_var hN hv hd hcd) move_post
end
end Dl
set_option maxHeartbeats 4000000
namespace Dl
open PySem PySem.Spec L2

section
variable {X : Cx} {b : Bx} {W : WX} {G H : Hp} {σ : St} {ρ : Ev} {Q : VK}
/-! ### rows of expressions -/
def runA : List (Ev → RE) → Ev → (List D → Ev → RE) → RE
  | [], ρ, k => k [] ρ
  | f :: fs, ρ, k => (f ρ).bindD fun x ρ1 => runA fs ρ1 fun xs ρ2 => k (x :: xs) ρ2
def tAs (K : PySem.W.Frag) (b : Bx) (W : WX) : List (Ev → RE) → TA
  | [] => tNil
  | f :: fs => tCons (tE K b W f) (tAs K b W fs)
theorem as_nil : PA X [] (tAs X.K b W []) := pa_nil
theorem as_cons {e : Expr} {es : List Expr} {f : Ev → RE} {fs : List (Ev → RE)} (ha : PE X e (tE X.K b W f)) (hr : PA X es (tAs X.K b W fs)) (hs : starEach (e :: es) X.env = (false, eval e X.env) :: starEach es X.env := by rfl) :
    PA X (e :: es) (tAs X.K b W (f :: fs)) := pa_cons ha hr hs
theorem stepA {K : PySem.W.Frag} : ∀ (fs : List (Ev → RE)) {G H : Hp} {ρ : Ev} {Q : VK} {k : List D → Ev → RE} (r : Rel K b G H σ ρ) (h : PostE K b W G σ Q (runA fs ρ k)) {R : List V → Hp → Prop}
    (hR : ∀ vs H1 ρ1 G1 xs, Rel K b G1 H1 σ ρ1 → Same G G1 → DaAll K G1 vs xs → PostE K b W G1 σ Q (k xs ρ1) → R vs H1), tAs K b W fs σ H R
  | [], G, H, ρ, Q, k, r, h, R, hR => hR [] H ρ G [] r (Same.refl _) .nil h
  | f :: fs, G, H, ρ, Q, k, r, h, R, hR => by
    show tE K b W f σ H _
    refine stepD r h fun v H1 ρ1 G1 x r1 s1 d1 q1 => ?_
    refine stepA fs r1 q1 fun vs H2 ρ2 G2 xs r2 s2 d2 q2 => ?_
    exact hR (v :: vs) H2 ρ2 G2 (x :: xs) r2 (s1.trans s2) (.cons (Da.mono s2 d1) d2) q2
def fTup (fs : List (Ev → RE)) : Ev → RE := fun ρ => runA fs ρ fun xs ρ1 => if xs.length ≤ sizeLine then .ok (.d (.tuple xs)) ρ1 else .stuck
def fLst (fs : List (Ev → RE)) : Ev → RE := fun ρ => runA fs ρ fun xs ρ1 => if xs.length ≤ sizeLine then .ok (.ow xs) ρ1 else .stuck
theorem postE_if {K : PySem.W.Frag} {c : Prop} [Decidable c] {x : RE} (h : PostE K b W G σ Q (if c then x else .stuck)) : c ∧ PostE K b W G σ Q x := by
  by_cases e : c
  · rw [if_pos e] at h; exact ⟨e, h⟩
  · rw [if_neg e] at h; exact h.elim
theorem e_tup {es : List Expr} {fs : List (Ev → RE)} {x1 pos} (h : PA X es (tAs X.K b W fs)) : PE X (.Tuple es x1 pos) (tE X.K b W (fTup fs)) := PE.imp (pe_tup h) fun σ H Q ⟨ρ, G, r, q⟩ => by
  refine stepA fs r q fun vs H1 ρ1 G1 xs r1 s1 d1 q1 => ?_
  obtain ⟨c, q1⟩ := postE_if q1
  exact ⟨by rw [d1.length]; exact c, fun p hp => post_tup (Q := Q) r1 q1 d1 hp⟩
theorem e_lst {es : List Expr} {fs : List (Ev → RE)} {pos} (h : PA X es (tAs X.K b W fs)) : PE X (.List es pos) (tE X.K b W (fLst fs)) := PE.imp (pe_lst h) fun σ H Q ⟨ρ, G, r, q⟩ => by
  refine stepA fs r q fun vs H1 ρ1 G1 xs r1 s1 d1 q1 => ?_
  obtain ⟨c, q1⟩ := postE_if q1
  exact ⟨by rw [d1.length]; exact c, fun p hp => post_ow (Q := Q) r1 q1 d1 hp⟩

/-! ### subscripts -/
def ixD : D → D → Option Sv
  | .list xs, .int i => (atI xs i).map .d
  | .tuple xs, .int i => (atI xs i).map .d
  | .str z, .int i => if z.length ≤ sizeLine then (atI z.cps.toList i).map fun c => .d (.str ⟨#[c]⟩) else none
  | _, _ => none
theorem atI_da {K : PySem.W.Frag} {vs : List V} {xs : List D} (h : DaAll K G vs xs) {i : Int} {x : D} (e : atI xs i = some x) : ∃ v, atI vs i = some v ∧ Da K G v x := by
  unfold atI at e ⊢
  rw [h.length]
  cases q : ixN xs.length i with
  | none => rw [q] at e; cases e
  | some j =>
    rw [q] at e
    exact h.get e
theorem os_ix {K : PySem.W.Frag} : OpS K (rIx K) ixD := by
  intro b G H σ ρ x y dx dy Q r hx hy h
  unfold ixD at h
  split at h
  · rename_i xs i
    obtain ⟨a, vs, rfl, h1, h2⟩ := hx.lst r.le
    have hy := hy.da fun l z => nomatch z
    cases hy
    cases e : atI xs i with
    | none => rw [e] at h; exact h.elim
    | some z =>
      rw [e] at h
      obtain ⟨v, e1, d1⟩ := atI_da h2 e
      exact .inl ⟨a, vs, i, v, rfl, rfl, SqL.of h1, e1, post_d r h d1⟩
  · rename_i xs i
    have hx := hx.da fun l z => nomatch z
    have hy := hy.da fun l z => nomatch z
    cases hx
    cases hy
    rename_i a vs h1 h2
    cases e : atI xs i with
    | none => rw [e] at h; exact h.elim
    | some z =>
      rw [e] at h
      obtain ⟨v, e1, d1⟩ := atI_da h2 e
      exact .inr (.inl ⟨a, vs, i, v, rfl, rfl, seqT r.le h1, e1, post_d r h d1⟩)
  · rename_i z i
    have hx := hx.da fun l z => nomatch z
    have hy := hy.da fun l z => nomatch z
    cases hx
    cases hy
    obtain ⟨c, h⟩ := post_if h
    cases e : atI z.cps.toList i with
    | none => rw [e] at h; exact h.elim
    | some z' =>
      rw [e] at h
      exact .inr (.inr ⟨z, i, z', rfl, rfl, c, e, post_str r h⟩)
  · exact h.elim
theorem e_ix {e i : Expr} {pos : Pos} {o1 o2 : Opd} (h1 : PO2 X b W e o1) (h2 : PO2 X b W i o2) (hs : PlainIx i := by exact fun _ _ => rfl) : PE X (.Subscript e i pos) (tE X.K b W (fOp ixD o1 o2)) :=
  PE.imp (pe_ix ix_seq h1 h2 hs) (op_post os_ix)

/-! ### slices -/
def cutL {α : Type} (xs : List α) (lo hi : Option Int) : List α := (xs.drop (HT.sIx xs.length 0 lo)).take (HT.sIx xs.length xs.length hi - HT.sIx xs.length 0 lo)
def slD (x : D) (lo hi : Option Int) : Option Sv := match x with
  | .list xs => some (.ow (cutL xs lo hi))
  | .tuple xs => some (.d (.tuple (cutL xs lo hi)))
  | .str z => if z.length ≤ sizeLine then some (.d (.str (cutS z lo hi))) else none
  | _ => none
abbrev rSl (K : PySem.W.Frag) : V → Option Int → Option Int → Hp → VK → Prop := fun x lo hi H Q => rSlL K x lo hi H Q ∨ rSlA K x lo hi H Q ∨ rSlS x lo hi H Q
theorem sl_all : SlR X (rSl X.K) := sl_list.or (sl_tupA.or sl_str)
theorem cut_da {K : PySem.W.Frag} {vs : List V} {xs : List D} (h : DaAll K G vs xs) (lo hi : Option Int) : DaAll K G (cutV vs lo hi) (cutL xs lo hi) := by
  unfold cutV cutL
  rw [h.length]
  exact (h.drop _).take _
theorem sls_all {K : PySem.W.Frag} {x : V} {dx : D} {lo hi : Option Int} (r : Rel K b G H σ ρ) (hx : Vw K G H x dx) (h : Post1 K b G σ ρ Q (slD dx lo hi)) : rSl K x lo hi H Q := by
  unfold slD at h
  split at h
  · obtain ⟨a, vs, rfl, h1, h2⟩ := hx.lst r.le
    exact .inl ⟨a, vs, rfl, SqL.of h1, fun p hp => post_ow r h (cut_da h2 lo hi) hp⟩
  · rename_i xs
    have hx := hx.da fun l z => nomatch z
    cases hx
    rename_i a vs h1 h2
    refine .inr (.inl ⟨a, vs, rfl, seqT r.le h1, fun q => ?_, fun q p hp => post_tup r h (cut_da h2 lo hi) hp⟩)
    have e : cutL xs lo hi = xs := by
      unfold cutL
      rw [← h2.length, q.1, q.2, List.drop_zero, h2.length]
      simp
    rw [e] at h
    exact post_d r h (.tup h1 h2)
  · have hx := hx.da fun l z => nomatch z
    cases hx
    obtain ⟨c, h⟩ := post_if h
    exact .inr (.inr ⟨_, rfl, c, post_str r h⟩)
  · exact h.elim
/-- a slice's part -/
inductive Prt where
  | no
  | e (f : Ev → RE)
def Prt.run (p : Prt) (ρ : Ev) (k : Option Int → Ev → RE) : RE := match p with
  | .no => k none ρ
  | .e f => (f ρ).bindD fun x ρ1 => match x with
    | .int i => k (some i) ρ1
    | _ => .stuck
def tPr (K : PySem.W.Frag) (b : Bx) (W : WX) : Prt → TO
  | .no => tNoPart
  | .e f => tPart (tE K b W f)
theorem pr_no : PO X none (tPr X.K b W .no) := po_none
theorem pr_e {e : Expr} {f : Ev → RE} (h : PE X e (tE X.K b W f)) : PO X (some e) (tPr X.K b W (.e f)) := po_some h
theorem stepP {K : PySem.W.Frag} {p : Prt} {k : Option Int → Ev → RE} (r : Rel K b G H σ ρ) (h : PostE K b W G σ Q (p.run ρ k)) {R : Option Int → Hp → Prop}
    (hR : ∀ o H1 ρ1 G1, Rel K b G1 H1 σ ρ1 → Same G G1 → PostE K b W G1 σ Q (k o ρ1) → R o H1) : tPr K b W p σ H R := by
  cases p with
  | no => exact hR none H ρ G r (Same.refl _) h
  | e f =>
    refine stepD r h fun v H1 ρ1 G1 x r1 s1 d1 q1 => ?_
    cases x with
    | int i => cases d1; exact ⟨i, rfl, hR (some i) H1 ρ1 G1 r1 s1 q1⟩
    | _ => exact q1.elim
def fSl (o : Opd) (lo hi : Prt) : Ev → RE := fun ρ => o.run ρ fun x ρ1 => lo.run ρ1 fun l ρ2 => hi.run ρ2 fun h ρ3 => match x.get ρ3 with
  | some dx => RE.of (slD dx l h) ρ3
  | none => .stuck
theorem e_sl {e : Expr} {lo hi : Option Expr} {p2 pos : Pos} {o : Opd} {pl ph : Prt} (he : PO2 X b W e o) (hl : PO X lo (tPr X.K b W pl)) (hh : PO X hi (tPr X.K b W ph)) : PE X (.Subscript e (.Slice lo hi none p2) pos) (tE X.K b W (fSl o pl ph)) :=
  PE.imp (pe_slice sl_all he hl hh) fun σ H Q ⟨ρ, G, r, q⟩ => by
    refine stepO r q fun v H1 ρ1 G1 x r1 s1 d1 q1 => ?_
    refine stepP r1 q1 fun l H2 ρ2 G2 r2 s2 q2 => ?_
    refine stepP r2 q2 fun h H3 ρ3 G3 r3 s3 q3 => ?_
    have d3 := d1.mono (s2.trans s3)
    cases e : x.get ρ3 with
    | none => simp only [e] at q3; exact q3.elim
    | some dx =>
      simp only [e] at q3
      exact sls_all r3 (d3.vw r3 e) (post_of q3)

/-! ### built-ins of one argument -/
def CallS (K : PySem.W.Frag) (r : List V → Hp → VK → Prop) (g : D → Option Sv) : Prop := ∀ (b : Bx) (G H : Hp) (σ : St) (ρ : Ev) (x : V) (dx : D) (Q : VK), Rel K b G H σ ρ → Vw K G H x dx → Post1 K b G σ ρ Q (g dx) → r [x] H Q
def RE.of1 (g : D → Option Sv) (a : Ov) (ρ : Ev) : RE := match a.get ρ with
  | some x => RE.of (g x) ρ
  | none => .stuck
def fUn (g : D → Option Sv) (o : Opd) : Ev → RE := fun ρ => o.run ρ fun x ρ1 => RE.of1 g x ρ1
theorem of1_post {K : PySem.W.Frag} {g : D → Option Sv} {x : Ov} (h : PostE K b W G σ Q (RE.of1 g x ρ)) : ∃ dx, x.get ρ = some dx ∧ Post1 K b G σ ρ Q (g dx) := by
  unfold RE.of1 at h
  split at h
  · exact ⟨_, by assumption, post_of h⟩
  · exact h.elim
theorem un_post {K : PySem.W.Frag} {r : List V → Hp → VK → Prop} {g : D → Option Sv} {o : Opd} (hs : CallS K r g) : ∀ σ H Q, tE K b W (fUn g o) σ H Q → tCB r (tCons (tO K b W o) tNil) σ H Q := by
  rintro σ H Q ⟨ρ, G, rl, h⟩
  show tO K b W o σ H _
  refine stepO rl h fun v H1 ρ1 G1 x r1 s1 d1 q1 => ?_
  obtain ⟨dx, e, q⟩ := of1_post q1
  exact hs b G1 H1 σ ρ1 v dx Q r1 (d1.vw r1 e) q
theorem e_callB {x : Str} {e : Expr} {p pos : Pos} {id : String} {r : List V → Hp → VK → Prop} {g : D → Option Sv} {o : Opd} (hc : CallR X (.builtin id) r) (hs : CallS X.K r g) (hg : Gl X x) (hm : X.mg x = none) (hv : bootBuiltins x = some (.builtin id)) (he : PO2 X b W e o)
    (hn : x ≠ "__name__" := by decide) (hdb : (x == ("__debug__" : Str)) = false := by decide) (h1 : starEach [e] X.env = (false, eval e X.env) :: starEach [] X.env := by rfl) (h2 : (backTo pos (starEach [] X.env)).any (·.1) = false := by rfl) :
    PE X (.Call (.Name x p) [e] [] pos) (tE X.K b W (fUn g o)) := PE.imp (pe_callB hc hg hm hv (pa_cons he pa_nil h1) hn hdb h1 h2) (un_post hs)
theorem e_callTy {x : Str} {e : Expr} {p pos : Pos} {T : String} {r : List V → Hp → VK → Prop} {g : D → Option Sv} {o : Opd} (hc : CallR X (.type T) r) (hs : CallS X.K r g) (hg : Gl X x) (hm : X.mg x = none) (hv : bootBuiltins x = some (.type T)) (he : PO2 X b W e o)
    (hn : x ≠ "__name__" := by decide) (hdb : (x == ("__debug__" : Str)) = false := by decide) (h1 : starEach [e] X.env = (false, eval e X.env) :: starEach [] X.env := by rfl) (h2 : (backTo pos (starEach [] X.env)).any (·.1) = false := by rfl) :
    PE X (.Call (.Name x p) [e] [] pos) (tE X.K b W (fUn g o)) := PE.imp (pe_callTy hc hg hm hv (pa_cons he pa_nil h1) hn hdb h1 h2) (un_post hs)

/-- len -/
def lenD : D → Option Sv
  | .list xs => some (.d (.int xs.length))
  | .tuple xs => some (.d (.int xs.length))
  | .str z => if z.length ≤ sizeLine then some (.d (.int z.length)) else none
  | _ => none
abbrev rLen (K : PySem.W.Frag) : List V → Hp → VK → Prop := fun xs H Q => ∃ x n, xs = [x] ∧ LenV K x H n ∧ Q (.int n) H
theorem cs_len {K : PySem.W.Frag} : CallS K (rLen K) lenD := by
  intro b G H σ ρ x dx Q r hx h
  unfold lenD at h
  split at h
  · obtain ⟨a, vs, rfl, h1, h2⟩ := hx.lst r.le
    rw [← h2.length] at h
    exact ⟨_, _, rfl, .inl ⟨vs, SqL.of h1, rfl⟩, post_int r h⟩
  · have hx := hx.da fun l z => nomatch z
    cases hx
    rename_i a vs h1 h2
    rw [← h2.length] at h
    exact ⟨_, _, rfl, .inr ⟨vs, seqT r.le h1, rfl⟩, post_int r h⟩
  · have hx := hx.da fun l z => nomatch z
    cases hx
    obtain ⟨c, h⟩ := post_if h
    exact ⟨_, _, rfl, ⟨c, rfl⟩, post_int r h⟩
  · exact h.elim
/-- abs -/
def absD : D → Option Sv
  | .int i => some (.d (.int (if i < 0 then -i else i)))
  | _ => none
theorem cs_abs {K : PySem.W.Frag} : CallS K (fun xs H Q => ∃ i, xs = [.int i] ∧ Q (.int (if i < 0 then -i else i)) H) absD := by
  intro b G H σ ρ x dx Q r hx h
  cases dx with
  | int i =>
    have hx := hx.da fun l z => nomatch z
    cases hx
    exact ⟨i, rfl, post_int r h⟩
  | _ => exact h.elim
/-- int -/
def intD : D → Option Sv
  | .int i => some (.d (.int i))
  | .bool k => some (.d (.int (if k then 1 else 0)))
  | .str z => if z.length ≤ 640 then (PySem.intText? z).map fun n => .d (.int n) else none
  | _ => none
abbrev rInt : List V → Hp → VK → Prop := fun xs H Q => ((∃ i, xs = [.int i] ∧ Q (.int i) H) ∨ ∃ k, xs = [.bl k] ∧ Q (.int (if k then 1 else 0)) H) ∨ ∃ a n, xs = [.str a] ∧ PySem.intText? a = some n ∧ a.length ≤ 640 ∧ Q (.int n) H
theorem call_intD : CallR X (.type "int") rInt := call_int1.or call_int_str
theorem cs_int {K : PySem.W.Frag} : CallS K rInt intD := by
  intro b G H σ ρ x dx Q r hx h
  cases dx with
  | int i =>
    have hx := hx.da fun l z => nomatch z
    cases hx
    exact .inl (.inl ⟨i, rfl, post_int r h⟩)
  | bool k =>
    have hx := hx.da fun l z => nomatch z
    cases hx
    exact .inl (.inr ⟨k, rfl, post_int r h⟩)
  | str z =>
    have hx := hx.da fun l z => nomatch z
    cases hx
    obtain ⟨c, h⟩ := post_if (show Post1 K b G σ ρ Q (if z.length ≤ 640 then _ else none) from h)
    cases e : PySem.intText? z with
    | none => rw [e] at h; exact h.elim
    | some n =>
      rw [e] at h
      exact .inr ⟨z, n, rfl, e, c, post_int r h⟩
  | _ => exact h.elim
/-- sum, all, any of a list -/
def intsOf : List D → Option (List Int)
  | [] => some []
  | .int i :: xs => (intsOf xs).map (i :: ·)
  | _ => none
def boolsOf : List D → Option (List Bool)
  | [] => some []
  | .bool i :: xs => (boolsOf xs).map (i :: ·)
  | _ => none
def strsOf : List D → Option (List Str)
  | [] => some []
  | .str i :: xs => (strsOf xs).map (i :: ·)
  | _ => none
theorem ints_da {K : PySem.W.Frag} : ∀ {vs : List V} {xs : List D} {ns : List Int}, DaAll K G vs xs → intsOf xs = some ns → vs = ns.map V.int
  | _, _, _, .nil, e => by cases e; rfl
  | _, _, _, .cons (d := x) h r, e => by
    cases h with
    | int i =>
      unfold intsOf at e
      cases q : intsOf _ with
      | none => rw [q] at e; cases e
      | some ms => rw [q] at e; cases e; rw [ints_da r q]; rfl
    | _ => cases e
theorem bools_da {K : PySem.W.Frag} : ∀ {vs : List V} {xs : List D} {ns : List Bool}, DaAll K G vs xs → boolsOf xs = some ns → vs = ns.map V.bl
  | _, _, _, .nil, e => by cases e; rfl
  | _, _, _, .cons (d := x) h r, e => by
    cases h with
    | bl i =>
      unfold boolsOf at e
      cases q : boolsOf _ with
      | none => rw [q] at e; cases e
      | some ms => rw [q] at e; cases e; rw [bools_da r q]; rfl
    | _ => cases e
theorem strs_da {K : PySem.W.Frag} : ∀ {vs : List V} {xs : List D} {ns : List Str}, DaAll K G vs xs → strsOf xs = some ns → vs = ns.map V.str
  | _, _, _, .nil, e => by cases e; rfl
  | _, _, _, .cons (d := x) h r, e => by
    cases h with
    | str i =>
      unfold strsOf at e
      cases q : strsOf _ with
      | none => rw [q] at e; cases e
      | some ms => rw [q] at e; cases e; rw [strs_da r q]; rfl
    | _ => cases e
def sumD : D → Option Sv
  | .list xs => (intsOf xs).map fun ns => .d (.int ns.sum)
  | _ => none
def allD : D → Option Sv
  | .list xs => (boolsOf xs).map fun ns => bol (ns.all id)
  | _ => none
def anyD : D → Option Sv
  | .list xs => (boolsOf xs).map fun ns => bol (ns.any id)
  | _ => none
theorem cs_sum {K : PySem.W.Frag} : CallS K (rSum K) sumD := by
  intro b G H σ ρ x dx Q r hx h
  cases dx with
  | list xs =>
    obtain ⟨a, vs, rfl, h1, h2⟩ := hx.lst r.le
    cases e : intsOf xs with
    | none => rw [show sumD (.list xs) = (intsOf xs).map fun ns => .d (.int ns.sum) from rfl, e] at h; exact h.elim
    | some ns =>
      rw [show sumD (.list xs) = (intsOf xs).map fun ns => .d (.int ns.sum) from rfl, e] at h
      exact ⟨a, ns, rfl, by rw [← ints_da h2 e]; exact SqL.of h1, post_int r h⟩
  | _ => exact h.elim
theorem cs_all {K : PySem.W.Frag} : CallS K (rAll K) allD := by
  intro b G H σ ρ x dx Q r hx h
  cases dx with
  | list xs =>
    obtain ⟨a, vs, rfl, h1, h2⟩ := hx.lst r.le
    cases e : boolsOf xs with
    | none => rw [show allD (.list xs) = (boolsOf xs).map fun ns => bol (ns.all id) from rfl, e] at h; exact h.elim
    | some ns =>
      rw [show allD (.list xs) = (boolsOf xs).map fun ns => bol (ns.all id) from rfl, e] at h
      exact ⟨a, ns, rfl, by rw [← bools_da h2 e]; exact SqL.of h1, post_bl r h⟩
  | _ => exact h.elim
theorem cs_any {K : PySem.W.Frag} : CallS K (rAny K) anyD := by
  intro b G H σ ρ x dx Q r hx h
  cases dx with
  | list xs =>
    obtain ⟨a, vs, rfl, h1, h2⟩ := hx.lst r.le
    cases e : boolsOf xs with
    | none => rw [show anyD (.list xs) = (boolsOf xs).map fun ns => bol (ns.any id) from rfl, e] at h; exact h.elim
    | some ns =>
      rw [show anyD (.list xs) = (boolsOf xs).map fun ns => bol (ns.any id) from rfl, e] at h
      exact ⟨a, ns, rfl, by rw [← bools_da h2 e]; exact SqL.of h1, post_bl r h⟩
  | _ => exact h.elim
/-- list, tuple -/
def listD : D → Option Sv
  | .list xs => some (.ow xs)
  | .tuple xs => some (.ow xs)
  | _ => none
def tupleD : D → Option Sv
  | .list xs => some (.d (.tuple xs))
  | .tuple xs => some (.d (.tuple xs))
  | _ => none
theorem cs_list {K : PySem.W.Frag} : CallS K (fun xs H Q => ∃ p ys, xs = [.ref p] ∧ (SqL K H p ys ∨ SqT K H p ys) ∧ ∀ l, H l = none → Q (.ref l) (upd H l (.lst ys))) listD := by
  intro b G H σ ρ x dx Q r hx h
  cases dx with
  | list xs =>
    obtain ⟨a, vs, rfl, h1, h2⟩ := hx.lst r.le
    exact ⟨a, vs, rfl, .inl (SqL.of h1), fun l hl => post_ow r h h2 hl⟩
  | tuple xs =>
    have hx := hx.da fun l z => nomatch z
    cases hx
    rename_i a vs h1 h2
    exact ⟨a, vs, rfl, .inr (seqT r.le h1), fun l hl => post_ow r h h2 hl⟩
  | _ => exact h.elim
theorem cs_tuple {K : PySem.W.Frag} : CallS K (fun xs H Q => ∃ p ys, xs = [.ref p] ∧ ((SqL K H p ys ∧ ∀ l, H l = none → Q (.ref l) (upd H l (.tup ys))) ∨ (SqT K H p ys ∧ Q (.ref p) H))) tupleD := by
  intro b G H σ ρ x dx Q r hx h
  cases dx with
  | list xs =>
    obtain ⟨a, vs, rfl, h1, h2⟩ := hx.lst r.le
    exact ⟨a, vs, rfl, .inl ⟨SqL.of h1, fun l hl => post_tup r h h2 hl⟩⟩
  | tuple xs =>
    have hx := hx.da fun l z => nomatch z
    cases hx
    rename_i a vs h1 h2
    exact ⟨a, vs, rfl, .inr ⟨seqT r.le h1, post_d r h (.tup h1 h2)⟩⟩
  | _ => exact h.elim

/-! ### methods of texts with one argument -/
def MtS (K : PySem.W.Frag) (r : V → List V → Hp → VK → Prop) (g : D → D → Option Sv) : Prop := ∀ (b : Bx) (G H : Hp) (σ : St) (ρ : Ev) (x y : V) (dx dy : D) (Q : VK), Rel K b G H σ ρ → Vw K G H x dx → Vw K G H y dy → Post1 K b G σ ρ Q (g dx dy) → r x [y] H Q
def fM1 (g : D → D → Option Sv) (a : Ev → RE) (c : Opd) : Ev → RE := fun ρ => (a ρ).bindD fun x ρ1 => match x with
  | .str z => c.run ρ1 fun y ρ2 => RE.of1 (g (.str z)) y ρ2
  | _ => .stuck
theorem m1_post {K : PySem.W.Frag} {r : V → List V → Hp → VK → Prop} {g : D → D → Option Sv} {fa : Ev → RE} {oc : Opd} (hs : MtS K r g) : ∀ σ H Q, tE K b W (fM1 g fa oc) σ H Q → tM1 r (tE K b W fa) (tO K b W oc) σ H Q := by
  rintro σ H Q ⟨ρ, G, rl, h⟩
  refine stepD rl h fun v H1 ρ1 G1 x r1 s1 d1 q1 => ?_
  cases x with
  | str z =>
    cases d1
    refine ⟨⟨z, rfl⟩, ?_⟩
    refine stepO r1 q1 fun u H2 ρ2 G2 y r2 s2 d2 q2 => ?_
    obtain ⟨dy, e, q⟩ := of1_post q2
    exact hs b G2 H2 σ ρ2 (.str z) u (.str z) dy Q r2 (.inl (.str z)) (d2.vw r2 e) q
  | _ => exact q1.elim
def joinD : D → D → Option Sv
  | .str a, .list xs => match strsOf xs with
    | some ys => if (ys.map (·.length)).sum + ys.length * a.length ≤ 16777216 then some (.d (.str (Txt.join a ys))) else none
    | none => none
  | _, _ => none
theorem ms_join {K : PySem.W.Frag} : MtS K (fun x xs H Q => ∃ a p, ∃ ys : List Str, x = .str a ∧ xs = [.ref p] ∧ (SqL K H p (ys.map V.str) ∨ SqT K H p (ys.map V.str)) ∧ (ys.map (·.length)).sum + ys.length * a.length ≤ 16777216 ∧ Q (.str (Txt.join a ys)) H) joinD := by
  intro b G H σ ρ x y dx dy Q r hx hy h
  unfold joinD at h
  split at h
  · have hx := hx.da fun l z => nomatch z
    cases hx
    obtain ⟨a, vs, rfl, h1, h2⟩ := hy.lst r.le
    split at h
    · rename_i ys e
      obtain ⟨c, h⟩ := post_if h
      exact ⟨_, a, ys, rfl, rfl, .inl (by rw [← strs_da h2 e]; exact SqL.of h1), c, post_str r h⟩
    · exact h.elim
  · exact h.elim
theorem e_join {o e : Expr} {fa : Ev → RE} {oc : Opd} {apos pos : Pos} (ho : PE X o (tE X.K b W fa)) (he : PO2 X b W e oc) (hs : starEach [e] X.env = [(false, eval e X.env)] := by rfl) (hbase : attributeBase o "join" X.env (eval o X.env) = eval o X.env := by rfl) (hline : (apos.endLine == pos.line) = true := by rfl) :
    PE X (.Call (.Attribute o "join" apos) [e] [] pos) (tE X.K b W (fM1 joinD fa oc)) := PE.imp (pe_join ho he hs hbase hline) (m1_post ms_join)
def splitD : D → D → Option Sv
  | .str a, .str c => if (c.length == 0) = false ∧ a.length + 2 ≤ sizeLine then some (.ow ((Txt.split a c).map .str)) else none
  | _, _ => none
theorem strs_all {K : PySem.W.Frag} {G : Hp} : ∀ ys : List Str, DaAll K G (ys.map V.str) (ys.map .str)
  | [] => .nil
  | y :: ys => .cons (.str y) (strs_all ys)
theorem ms_split {K : PySem.W.Frag} : MtS K (fun x xs H Q => ∃ a b, x = .str a ∧ xs = [.str b] ∧ (b.length == 0) = false ∧ a.length + 2 ≤ sizeLine ∧ rNewStrs (Txt.split a b) H Q) splitD := by
  intro b G H σ ρ x y dx dy Q r hx hy h
  unfold splitD at h
  split at h
  · have hx := hx.da fun l z => nomatch z
    have hy := hy.da fun l z => nomatch z
    cases hx
    cases hy
    obtain ⟨c, h⟩ := post_if h
    exact ⟨_, _, rfl, rfl, c.1, c.2, fun p hp => post_ow r h (strs_all _) hp⟩
  · exact h.elim
theorem e_split {o e : Expr} {fa : Ev → RE} {oc : Opd} {apos pos : Pos} (ho : PE X o (tE X.K b W fa)) (he : PO2 X b W e oc) (hs : starEach [e] X.env = [(false, eval e X.env)] := by rfl) (hbase : attributeBase o "split" X.env (eval o X.env) = eval o X.env := by rfl) (hline : (apos.endLine == pos.line) = true := by rfl) :
    PE X (.Call (.Attribute o "split" apos) [e] [] pos) (tE X.K b W (fM1 splitD fa oc)) := PE.imp (pe_split ho he hs hbase hline) (m1_post ms_split)

/-! ### two-place built-ins: max, min of two ints -/
def CallS2 (K : PySem.W.Frag) (r : List V → Hp → VK → Prop) (g : D → D → Option Sv) : Prop := ∀ (b : Bx) (G H : Hp) (σ : St) (ρ : Ev) (x y : V) (dx dy : D) (Q : VK), Rel K b G H σ ρ → Vw K G H x dx → Vw K G H y dy → Post1 K b G σ ρ Q (g dx dy) → r [x, y] H Q
theorem e_callB2 {x : Str} {e f : Expr} {p pos : Pos} {id : String} {r : List V → Hp → VK → Prop} {g : D → D → Option Sv} {o o2 : Opd} (hc : CallR X (.builtin id) r) (hs : CallS2 X.K r g) (hg : Gl X x) (hm : X.mg x = none) (hv : bootBuiltins x = some (.builtin id)) (he : PO2 X b W e o) (hf : PO2 X b W f o2)
    (hn : x ≠ "__name__" := by decide) (hdb : (x == ("__debug__" : Str)) = false := by decide) (h1 : starEach [e, f] X.env = (false, eval e X.env) :: starEach [f] X.env := by rfl) (h3 : starEach [f] X.env = (false, eval f X.env) :: starEach [] X.env := by rfl) (h2 : (backTo pos (starEach [f] X.env)).any (·.1) = false := by rfl) :
    PE X (.Call (.Name x p) [e, f] [] pos) (tE X.K b W (fOp g o o2)) := PE.imp (pe_callB hc hg hm hv (pa_cons he (pa_cons hf pa_nil h3) h1) hn hdb h1 h2) fun σ H Q ⟨ρ, G, r, q⟩ => by
  show tO X.K b W o σ H _
  refine stepO r q fun v H1 ρ1 G1 x r1 s1 d1 q1 => ?_
  show tO X.K b W o2 σ H1 _
  refine stepO r1 q1 fun u H2 ρ2 G2 y r2 s2 d2 q2 => ?_
  obtain ⟨dx, dy, e1, e2, q⟩ := of2_post q2
  exact hs b G2 H2 σ ρ2 v u dx dy Q r2 ((d1.mono s2).vw r2 e1) (d2.vw r2 e2) q
def maxD : D → D → Option Sv | .int i, .int j => some (.d (.int (if j > i then j else i))) | _, _ => none
def minD : D → D → Option Sv | .int i, .int j => some (.d (.int (if j < i then j else i))) | _, _ => none
theorem cs_max {K : PySem.W.Frag} : CallS2 K (fun xs H Q => ∃ i j, xs = [.int i, .int j] ∧ Q (.int (if j > i then j else i)) H) maxD := by
  intro b G H σ ρ x y dx dy Q r hx hy h
  have two : ∃ i j, dx = .int i ∧ dy = .int j := by
    cases dx <;> cases dy <;> first | exact h.elim | exact ⟨_, _, rfl, rfl⟩
  obtain ⟨i, j, rfl, rfl⟩ := two
  have hx := hx.da fun l z => nomatch z
  have hy := hy.da fun l z => nomatch z
  cases hx
  cases hy
  exact ⟨i, j, rfl, post_int r h⟩
theorem cs_min {K : PySem.W.Frag} : CallS2 K (fun xs H Q => ∃ i j, xs = [.int i, .int j] ∧ Q (.int (if j < i then j else i)) H) minD := by
  intro b G H σ ρ x y dx dy Q r hx hy h
  have two : ∃ i j, dx = .int i ∧ dy = .int j := by
    cases dx <;> cases dy <;> first | exact h.elim | exact ⟨_, _, rfl, rfl⟩
  obtain ⟨i, j, rfl, rfl⟩ := two
  have hx := hx.da fun l z => nomatch z
  have hy := hy.da fun l z => nomatch z
  cases hx
  cases hy
  exact ⟨i, j, rfl, post_int r h⟩
end
end Dl
set_option maxHeartbeats 4000000
namespace Dl
open PySem PySem.Spec L2

/-! ### tests -/
inductive RT where
  | ok (c : Bool) (ρ : Ev)
  | raise (c : Nat) (ρ : Ev)
  | stuck
def RE.tst : RE → RT
  | .ok (.d (.bool c)) ρ => .ok c ρ
  | .raise c ρ => .raise c ρ
  | _ => .stuck
section
variable (K : PySem.W.Frag) (b : Bx) (W : WX)
def PostT (G : Hp) (σ : St) (Q : Bool → Hp → Prop) : RT → Prop
  | .ok c ρ' => ∀ G' H', Rel K b G' H' σ ρ' → Same G G' → Q c H'
  | .raise c ρ' => ∀ G' H', Rel K b G' H' σ ρ' → Same G G' → W (.ref (b.cl c)) none σ H'
  | .stuck => False
def tT (f : Ev → RT) : TT := fun σ H Q => ∃ ρ G, Rel K b G H σ ρ ∧ PostT K b W G σ Q (f ρ)
end
section
variable {X : Cx} {b : Bx} {W : WX} {G G1 H : Hp} {σ : St} {ρ : Ev}
theorem PostT.mono {K : PySem.W.Frag} {Q : Bool → Hp → Prop} {r : RT} (e : Same G G1) (h : PostT K b W G σ Q r) : PostT K b W G1 σ Q r := by
  cases r with
  | ok c ρ' => exact fun G' H' r s => h G' H' r (e.trans s)
  | raise c ρ' => exact fun G' H' r s => h G' H' r (e.trans s)
  | stuck => exact h
def fTest (f : Ev → RE) : Ev → RT := fun ρ => (f ρ).tst
theorem test_post {K : PySem.W.Frag} {f : Ev → RE} : ∀ σ H Q, tT K b W (fTest f) σ H Q → tE K b W f σ H fun x H' => ∃ k, x = .bl k ∧ Q k H' := by
  rintro σ H Q ⟨ρ, G, r, h⟩
  refine ⟨ρ, G, r, ?_⟩
  unfold fTest at h
  cases e : f ρ with
  | ok sv ρ' =>
    rw [e] at h
    cases sv with
    | d x =>
      cases x with
      | bool c => intro v G' H' r' s' d'; cases d'; exact ⟨c, rfl, h G' H' r' s'⟩
      | _ => exact h.elim
    | _ => exact h.elim
  | raise c ρ' => rw [e] at h; exact h
  | stuck => rw [e] at h; exact h
theorem t_val {e : Expr} {f : Ev → RE} (h : PE X e (tE X.K b W f)) (he : ∀ whole, isTrue e X.env whole = (do let v ← whole; standAt e.pos; holding [v] (truthy v)) := by intro _; rfl) : PT X e (tT X.K b W (fTest f)) :=
  PT.imp (pt_val h he) test_post
theorem t_cmp {a c : Expr} {op : CmpOp} {pos : Pos} {r : R2} {g : D → D → Option Sv} {oa ob : Opd} (ho : OpR X (compareOp op) r) (hs : OpS X.K r g) (ha : PO2 X b W a oa) (hb : PO2 X b W c ob) (hm : behindInMarks op c = false := by first | exact nomark _ | rfl) :
    PT X (.Compare a [op] [c] pos) (tT X.K b W (fTest (fOp g oa ob))) := PT.imp (pt_cmpR ho ha hb hm) fun σ H Q h => op_post hs σ H _ (test_post σ H Q h)
def fNotT (f : Ev → RT) : Ev → RT := fun ρ => match f ρ with
  | .ok c ρ1 => .ok (!c) ρ1
  | r => r
def fAndT (f g : Ev → RT) : Ev → RT := fun ρ => match f ρ with
  | .ok true ρ1 => g ρ1
  | r => r
def fOrT (f g : Ev → RT) : Ev → RT := fun ρ => match f ρ with
  | .ok false ρ1 => g ρ1
  | r => r
/-- a test, then what hangs on its answer -/
theorem stepT {K : PySem.W.Frag} {f : Ev → RT} {P : RT → Prop} (r : Rel K b G H σ ρ) {R : Bool → Hp → Prop} (h1 : ∀ c ρ1, f ρ = .ok c ρ1 → ∀ G1 H1, Rel K b G1 H1 σ ρ1 → Same G G1 → R c H1)
    (h2 : ∀ c ρ1, f ρ = .raise c ρ1 → ∀ G1 H1, Rel K b G1 H1 σ ρ1 → Same G G1 → W (.ref (b.cl c)) none σ H1) (h3 : f ρ ≠ .stuck) : tT K b W f σ H R := by
  refine ⟨ρ, G, r, ?_⟩
  cases e : f ρ with
  | ok c ρ1 => exact h1 c ρ1 e
  | raise c ρ1 => exact h2 c ρ1 e
  | stuck => exact absurd e h3
theorem t_not {e : Expr} {pos : Pos} {f : Ev → RT} (h : PT X e (tT X.K b W f)) : PT X (.UnaryOp .Not e pos) (tT X.K b W (fNotT f)) := PT.imp (pt_not h) fun σ H Q ⟨ρ, G, r, q⟩ => by
  refine stepT (P := fun _ => True) r (fun c ρ1 e G1 H1 r1 s1 => ?_) (fun c ρ1 e G1 H1 r1 s1 => ?_) fun e => ?_
  · simp only [fNotT, e] at q; exact q G1 H1 r1 s1
  · simp only [fNotT, e] at q; exact q G1 H1 r1 s1
  · simp only [fNotT, e] at q; exact q
theorem w_and1 {e : Expr} {pos : Pos} {f : Ev → RT} (h : PT X e (tT X.K b W f)) : PW X (.BoolOp .And [e] pos) (tT X.K b W f) := pw_and1 h
theorem w_or1 {e : Expr} {pos : Pos} {f : Ev → RT} (h : PT X e (tT X.K b W f)) : PW X (.BoolOp .Or [e] pos) (tT X.K b W f) := pw_or1 h
theorem PW.imp {X : Cx} {e : Expr} {t t' : TT} (h : PW X e t) (i : ∀ σ H Q, t' σ H Q → t σ H Q) : PW X e t' := ⟨fun wh pins s σ H Q I q => h.run wh pins s σ H Q I (i _ _ _ q)⟩
theorem w_and {a c : Expr} {rest : List Expr} {pos : Pos} {f g : Ev → RT} (ha : PT X a (tT X.K b W f)) (hb : PW X (.BoolOp .And (c :: rest) pos) (tT X.K b W g)) : PW X (.BoolOp .And (a :: c :: rest) pos) (tT X.K b W (fAndT f g)) := PW.imp (pw_and ha hb) fun σ H Q ⟨ρ, G, r, q⟩ => by
  refine stepT (P := fun _ => True) r (fun c ρ1 e G1 H1 r1 s1 => ?_) (fun c ρ1 e G1 H1 r1 s1 => ?_) fun e => ?_
  · cases c with
    | true => simp only [fAndT, e] at q; exact iteT ⟨ρ1, G1, r1, PostT.mono s1 q⟩
    | false => simp only [fAndT, e] at q; exact iteF (q G1 H1 r1 s1)
  · simp only [fAndT, e] at q; exact q G1 H1 r1 s1
  · simp only [fAndT, e] at q; exact q
theorem w_or {a c : Expr} {rest : List Expr} {pos : Pos} {f g : Ev → RT} (ha : PT X a (tT X.K b W f)) (hb : PW X (.BoolOp .Or (c :: rest) pos) (tT X.K b W g)) : PW X (.BoolOp .Or (a :: c :: rest) pos) (tT X.K b W (fOrT f g)) := PW.imp (pw_or ha hb) fun σ H Q ⟨ρ, G, r, q⟩ => by
  refine stepT (P := fun _ => True) r (fun c ρ1 e G1 H1 r1 s1 => ?_) (fun c ρ1 e G1 H1 r1 s1 => ?_) fun e => ?_
  · cases c with
    | true => simp only [fOrT, e] at q; exact iteT (q G1 H1 r1 s1)
    | false => simp only [fOrT, e] at q; exact iteF ⟨ρ1, G1, r1, PostT.mono s1 q⟩
  · simp only [fOrT, e] at q; exact q G1 H1 r1 s1
  · simp only [fOrT, e] at q; exact q
theorem t_pw {e : Expr} {f : Ev → RT} (h : PW X e (tT X.K b W f)) : PT X e (tT X.K b W f) := PW.pt h

/-! ### and, or, not, if as values -/
def RE.bindB (r : RE) (k : Bool → Ev → RE) : RE := r.bindD fun x ρ1 => match x with
  | .bool c => k c ρ1
  | _ => .stuck
theorem stepB {K : PySem.W.Frag} {Q : VK} {fa : Ev → RE} {k : Bool → Ev → RE} (r : Rel K b G H σ ρ) (h : PostE K b W G σ Q ((fa ρ).bindB k)) {R : V → Hp → Prop}
    (hR : ∀ c H1 ρ1 G1, Rel K b G1 H1 σ ρ1 → Same G G1 → PostE K b W G1 σ Q (k c ρ1) → R (.bl c) H1) : tE K b W fa σ H R := by
  refine stepD r h fun v H1 ρ1 G1 x r1 s1 d1 q1 => ?_
  cases x with
  | bool c => cases d1; exact hR c H1 ρ1 G1 r1 s1 q1
  | _ => exact q1.elim
def fAndV (f g : Ev → RE) : Ev → RE := fun ρ => (f ρ).bindB fun c ρ1 => if c = true then g ρ1 else .ok (bol false) ρ1
def fOrV (f g : Ev → RE) : Ev → RE := fun ρ => (f ρ).bindB fun c ρ1 => if c = true then .ok (bol true) ρ1 else g ρ1
def fNotV (f : Ev → RE) : Ev → RE := fun ρ => (f ρ).bindB fun c ρ1 => .ok (bol (!c)) ρ1
theorem e_one {op} {e : Expr} {pos : Pos} {f : Ev → RE} (h : PE X e (tE X.K b W f)) : PE X (.BoolOp op [e] pos) (tE X.K b W f) := pe_one h
theorem e_and {a c : Expr} {rest : List Expr} {pos : Pos} {f g : Ev → RE} (ha : PE X a (tE X.K b W f)) (hb : PE X (.BoolOp .And (c :: rest) pos) (tE X.K b W g)) : PE X (.BoolOp .And (a :: c :: rest) pos) (tE X.K b W (fAndV f g)) := PE.imp (pe_and ha hb) fun σ H Q ⟨ρ, G, r, q⟩ => by
  refine stepB r q fun c H1 ρ1 G1 r1 s1 q1 => ⟨c, rfl, ?_⟩
  cases c with
  | true => exact iteT ⟨ρ1, G1, r1, q1⟩
  | false => exact iteF (q1 _ _ _ r1 (Same.refl _) (.bl false))
theorem e_or {a c : Expr} {rest : List Expr} {pos : Pos} {f g : Ev → RE} (ha : PE X a (tE X.K b W f)) (hb : PE X (.BoolOp .Or (c :: rest) pos) (tE X.K b W g)) : PE X (.BoolOp .Or (a :: c :: rest) pos) (tE X.K b W (fOrV f g)) := PE.imp (pe_or ha hb) fun σ H Q ⟨ρ, G, r, q⟩ => by
  refine stepB r q fun c H1 ρ1 G1 r1 s1 q1 => ⟨c, rfl, ?_⟩
  cases c with
  | true => exact iteT (q1 _ _ _ r1 (Same.refl _) (.bl true))
  | false => exact iteF ⟨ρ1, G1, r1, q1⟩
theorem e_not {e : Expr} {pos : Pos} {f : Ev → RE} (h : PE X e (tE X.K b W f)) : PE X (.UnaryOp .Not e pos) (tE X.K b W (fNotV f)) := PE.imp (pe_not h) fun σ H Q ⟨ρ, G, r, q⟩ => by
  refine stepB r q fun c H1 ρ1 G1 r1 s1 q1 => ⟨c, rfl, q1 _ _ _ r1 (Same.refl _) (.bl _)⟩
def fIfE (c : Ev → RT) (f g : Ev → RE) : Ev → RE := fun ρ => match c ρ with
  | .ok true ρ1 => f ρ1
  | .ok false ρ1 => g ρ1
  | .raise k ρ1 => .raise k ρ1
  | .stuck => .stuck
theorem e_if {c x y : Expr} {pos : Pos} {fc : Ev → RT} {f g : Ev → RE} (hc : PT X c (tT X.K b W fc)) (ha : PE X x (tE X.K b W f)) (hb : PE X y (tE X.K b W g)) : PE X (.IfExp c x y pos) (tE X.K b W (fIfE fc f g)) := PE.imp (pe_ifExp hc ha hb) fun σ H Q ⟨ρ, G, r, q⟩ => by
  refine stepT (P := fun _ => True) r (fun c ρ1 e G1 H1 r1 s1 => ?_) (fun c ρ1 e G1 H1 r1 s1 => ?_) fun e => ?_
  · cases c with
    | true => simp only [fIfE, e] at q; exact iteT ⟨ρ1, G1, r1, PostE.mono s1 q⟩
    | false => simp only [fIfE, e] at q; exact iteF ⟨ρ1, G1, r1, PostE.mono s1 q⟩
  · simp only [fIfE, e] at q; exact q G1 H1 r1 s1
  · simp only [fIfE, e] at q; exact q
/-- a op b op' c -/
def RE.ofB (o : Option Sv) (k : Bool → RE) : RE := match o with
  | some (.d (.bool c)) => k c
  | _ => .stuck
def fChain (g g' : D → D → Option Sv) (a c e : Opd) : Ev → RE := fun ρ => a.run ρ fun x ρ1 => c.run ρ1 fun y ρ2 => match x.get ρ2, y.get ρ2 with
  | some dx, some dy => RE.ofB (g dx dy) fun k => if k = true then e.run ρ2 fun z ρ3 => RE.of2 g' y z ρ3 else .ok (bol false) ρ2
  | _, _ => .stuck
theorem chain_post {K : PySem.W.Frag} {r r' : R2} {g g' : D → D → Option Sv} {oa oc oe : Opd} (hs : OpS K r g) (hs' : OpS K r' g') : ∀ σ H Q, tE K b W (fChain g g' oa oc oe) σ H Q → tChain r r' (tO K b W oa) (tO K b W oc) (tO K b W oe) σ H Q := by
  rintro σ H Q ⟨ρ, G, rl, h⟩
  refine stepO rl h fun v H1 ρ1 G1 x r1 s1 d1 q1 => ?_
  refine stepO r1 q1 fun u H2 ρ2 G2 y r2 s2 d2 q2 => ?_
  cases e1 : x.get ρ2 with
  | none => simp only [e1] at q2; exact q2.elim
  | some dx =>
    cases e2 : y.get ρ2 with
    | none => simp only [e1, e2] at q2; exact q2.elim
    | some dy =>
      simp only [e1, e2] at q2
      refine hs b G2 H2 σ ρ2 v u dx dy _ r2 ((d1.mono s2).vw r2 e1) (d2.vw r2 e2) ?_
      cases eg : g dx dy with
      | none => rw [eg] at q2; exact q2.elim
      | some sv =>
        rw [eg] at q2
        cases sv with
        | d z =>
          cases z with
          | bool k =>
            intro w G3 H3 r3 s3 d3
            cases d3
            refine ⟨k, rfl, ?_⟩
            have q3 : PostE K b W G3 σ Q (if k = true then oe.run ρ2 fun z ρ3 => RE.of2 g' y z ρ3 else .ok (bol false) ρ2) := PostE.mono s3 q2
            cases k with
            | true =>
              rw [if_pos rfl] at q3 ⊢
              refine stepO r3 q3 fun w H4 ρ4 G4 z r4 s4 d4 q4 => ?_
              obtain ⟨dy', dz, e3, e4, q⟩ := of2_post q4
              exact hs' b G4 H4 σ ρ4 u w dy' dz Q r4 ((d2.mono (s3.trans s4)).vw r4 e3) (d4.vw r4 e4) q
            | false =>
              rw [if_neg Bool.false_ne_true] at q3 ⊢
              exact q3 _ _ _ r3 (Same.refl _) (.bl false)
          | _ => exact q2.elim
        | _ => exact q2.elim
theorem e_chain {op op' : CmpOp} {a c e : Expr} {pos : Pos} {r r' : R2} {g g' : D → D → Option Sv} {oa oc oe : Opd} (ho : OpR X (compareOp op) r) (hs : OpS X.K r g) (ho' : OpR X (compareOp op') r') (hs' : OpS X.K r' g') (ha : PO2 X b W a oa) (hc : PO2 X b W c oc) (he : PO2 X b W e oe)
    (hm : lastMarks [op, op'] [c, e] = false := by with_unfolding_all rfl) : PE X (.Compare a [op, op'] [c, e] pos) (tE X.K b W (fChain g g' oa oc oe)) := PE.imp (pe_chain ho ho' ha hc he hm) (chain_post hs hs')
theorem t_chain {op op' : CmpOp} {a c e : Expr} {pos : Pos} {r r' : R2} {g g' : D → D → Option Sv} {oa oc oe : Opd} (ho : OpR X (compareOp op) r) (hs : OpS X.K r g) (ho' : OpR X (compareOp op') r') (hs' : OpS X.K r' g') (ha : PO2 X b W a oa) (hc : PO2 X b W c oc) (he : PO2 X b W e oe)
    (hm : lastMarks [op, op'] [c, e] = false := by with_unfolding_all rfl) : PT X (.Compare a [op, op'] [c, e] pos) (tT X.K b W (fTest (fChain g g' oa oc oe))) := PT.imp (pt_chain ho ho' ha hc he hm) fun σ H Q h => chain_post hs hs' σ H _ (test_post σ H Q h)
/-- x is None, x is not None -/
def isD : D → D → Option Sv | x, .none => some (bol (isNoneD x)) | _, _ => none
def notNoneD : D → D → Option Sv | x, .none => some (bol (!isNoneD x)) | _, _ => none
theorem none_da {K : PySem.W.Frag} {v : V} {x : D} (h : Vw K G H v x) : decide (v = .non) = isNoneD x := by
  rcases h with h | ⟨a, xs, l, rfl, rfl, _, _⟩
  · cases h <;> rfl
  · rfl
theorem os_is {K : PySem.W.Frag} : OpS K (fun x y H Q => y = .non ∧ Q (.bl (decide (x = .non))) H) isD := by
  intro b G H σ ρ x y dx dy Q r hx hy h
  cases dy with
  | none =>
    have hy := hy.da fun l z => nomatch z
    cases hy
    exact ⟨rfl, by rw [none_da hx]; exact post_bl r h⟩
  | _ => exact h.elim
theorem os_notNone {K : PySem.W.Frag} : OpS K (fun x y H Q => y = .non ∧ Q (.bl (!decide (x = .non))) H) notNoneD := by
  intro b G H σ ρ x y dx dy Q r hx hy h
  cases dy with
  | none =>
    have hy := hy.da fun l z => nomatch z
    cases hy
    exact ⟨rfl, by rw [none_da hx]; exact post_bl r h⟩
  | _ => exact h.elim
end

/-! ### statements -/
inductive RS where
  | next (ρ : Ev)
  | ret (v : Sv) (ρ : Ev)
  | brk (ρ : Ev)
  | cnt (ρ : Ev)
  | raise (c : Nat) (ρ : Ev)
  | stuck
section
variable (K : PySem.W.Frag) (b : Bx) (W : WX)
def PostS (G : Hp) (D : Ends) : RS → Prop
  | .next ρ' => ∀ σ' G' H', Rel K b G' H' σ' ρ' → Same G G' → D.nx σ' H'
  | .ret sv ρ' => ∀ v σ' G' H', Rel K b G' H' σ' ρ' → Same G G' → RepT K b G' H' σ' ρ' v sv → D.rt v H'
  | .brk ρ' => ∀ σ' G' H', Rel K b G' H' σ' ρ' → Same G G' → D.bk σ' H'
  | .cnt ρ' => ∀ σ' G' H', Rel K b G' H' σ' ρ' → Same G G' → D.ct σ' H'
  | .raise c ρ' => ∀ σ' G' H', Rel K b G' H' σ' ρ' → Same G G' → W (.ref (b.cl c)) none σ' H'
  | .stuck => False
def tS (f : Ev → RS) : TS := fun D σ H => ∃ ρ G, Rel K b G H σ ρ ∧ PostS K b W G D (f ρ)
end
section
variable {X : Cx} {b : Bx} {W : WX} {G G1 H : Hp} {σ : St} {ρ : Ev}
theorem PostS.mono {K : PySem.W.Frag} {D : Ends} {r : RS} (e : Same G G1) (h : PostS K b W G D r) : PostS K b W G1 D r := by
  cases r with
  | next ρ' => exact fun σ' G' H' r s => h σ' G' H' r (e.trans s)
  | ret sv ρ' => exact fun v σ' G' H' r s => h v σ' G' H' r (e.trans s)
  | brk ρ' => exact fun σ' G' H' r s => h σ' G' H' r (e.trans s)
  | cnt ρ' => exact fun σ' G' H' r s => h σ' G' H' r (e.trans s)
  | raise c ρ' => exact fun σ' G' H' r s => h σ' G' H' r (e.trans s)
  | stuck => exact h
def fSeq (f g : Ev → RS) : Ev → RS := fun ρ => match f ρ with
  | .next ρ1 => g ρ1
  | r => r
def fSkip : Ev → RS := fun ρ => .next ρ
theorem seq_post {K : PySem.W.Frag} {f g : Ev → RS} : ∀ D σ H, tS K b W (fSeq f g) D σ H → tSeq (tS K b W f) (tS K b W g) D σ H := by
  rintro D σ H ⟨ρ, G, r, q⟩
  refine ⟨ρ, G, r, ?_⟩
  cases e : f ρ with
  | next ρ1 => simp only [fSeq, e] at q; exact fun σ' G' H' r' s' => ⟨ρ1, G', r', PostS.mono s' q⟩
  | _ => simp only [fSeq, e] at q; exact q
theorem s_nil : PSs X [] (tS X.K b W fSkip) := PSs.imp pss_nil fun D σ H ⟨ρ, G, r, q⟩ => q σ G H r (Same.refl _)
theorem s_one {st : Stmt} {f : Ev → RS} (h : PS X st (tS X.K b W f)) : PSs X [st] (tS X.K b W f) := pss_one h
theorem s_cons {st : Stmt} {rest : List Stmt} {f g : Ev → RS} (h1 : PS X st (tS X.K b W f)) (h2 : PSs X rest (tS X.K b W g)) : PSs X (st :: rest) (tS X.K b W (fSeq f g)) := PSs.imp (pss_cons h1 h2) seq_post
theorem s_pass {pos} : PS X (.Pass pos) (tS X.K b W fSkip) := PS.imp ps_pass fun D σ H ⟨ρ, G, r, q⟩ => q σ G H r (Same.refl _)
theorem s_break {pos} : PS X (.Break pos) (tS X.K b W fun ρ => .brk ρ) := PS.imp ps_break fun D σ H ⟨ρ, G, r, q⟩ => q σ G H r (Same.refl _)
theorem s_continue {pos} : PS X (.Continue pos) (tS X.K b W fun ρ => .cnt ρ) := PS.imp ps_continue fun D σ H ⟨ρ, G, r, q⟩ => q σ G H r (Same.refl _)
def fIf (c : Ev → RT) (f g : Ev → RS) : Ev → RS := fun ρ => match c ρ with
  | .ok true ρ1 => f ρ1
  | .ok false ρ1 => g ρ1
  | .raise k ρ1 => .raise k ρ1
  | .stuck => .stuck
theorem s_if {c : Expr} {x y : List Stmt} {pos : Pos} {fc : Ev → RT} {f g : Ev → RS} (hc : PT X c (tT X.K b W fc)) (ha : PSs X x (tS X.K b W f)) (hb : PSs X y (tS X.K b W g)) : PS X (.If c x y pos) (tS X.K b W (fIf fc f g)) := PS.imp (ps_if hc ha hb) fun D σ H ⟨ρ, G, r, q⟩ => by
  refine stepT (P := fun _ => True) r (fun c ρ1 e G1 H1 r1 s1 => ?_) (fun c ρ1 e G1 H1 r1 s1 => ?_) fun e => ?_
  · cases c with
    | true => simp only [fIf, e] at q; exact iteT ⟨ρ1, G1, r1, PostS.mono s1 q⟩
    | false => simp only [fIf, e] at q; exact iteF ⟨ρ1, G1, r1, PostS.mono s1 q⟩
  · simp only [fIf, e] at q; exact q σ G1 H1 r1 s1
  · simp only [fIf, e] at q; exact q
/-- an expression's value goes to a statement's rest -/
def RE.toS (r : RE) (k : Sv → Ev → RS) : RS := match r with
  | .ok sv ρ => k sv ρ
  | .raise c ρ => .raise c ρ
  | .stuck => .stuck
theorem stepS {K : PySem.W.Frag} {D : Ends} {f : Ev → RE} {k : Sv → Ev → RS} (r : Rel K b G H σ ρ) (h : PostS K b W G D ((f ρ).toS k)) {R : V → Hp → Prop}
    (hR : ∀ v H1 ρ1 G1 sv, Rel K b G1 H1 σ ρ1 → Same G G1 → RepT K b G1 H1 σ ρ1 v sv → PostS K b W G1 D (k sv ρ1) → R v H1) : tE K b W f σ H R := by
  refine ⟨ρ, G, r, ?_⟩
  cases e : f ρ with
  | ok sv ρ1 =>
    rw [e] at h
    exact fun v G' H' r' s' q' => hR v H' ρ1 G' sv r' s' q' (PostS.mono s' h)
  | raise c ρ1 =>
    rw [e] at h
    exact fun G' H' r' s' => h σ G' H' r' s'
  | stuck => rw [e] at h; exact h
/-- .. its data -/
def RE.toSD (r : RE) (k : D → Ev → RS) : RS := r.toS fun sv ρ => match sv.dat? with
  | some x => k x ρ
  | none => .stuck
theorem stepSD {K : PySem.W.Frag} {D : Ends} {f : Ev → RE} {k : Dl.D → Ev → RS} (r : Rel K b G H σ ρ) (h : PostS K b W G D ((f ρ).toSD k)) {R : V → Hp → Prop}
    (hR : ∀ v H1 ρ1 G1 x, Rel K b G1 H1 σ ρ1 → Same G G1 → Da K G1 v x → PostS K b W G1 D (k x ρ1) → R v H1) : tE K b W f σ H R := by
  refine stepS r h fun v H1 ρ1 G1 sv r1 s1 d1 q1 => ?_
  cases e : sv.dat? with
  | none => simp only [e] at q1; exact q1.elim
  | some x =>
    simp only [e] at q1
    obtain ⟨G2, r2, s2, d2⟩ := r1.pub d1 e
    exact hR v H1 ρ1 G2 x r2 (s1.trans s2) d2 (PostS.mono s2 q1)
def fRet (f : Ev → RE) : Ev → RS := fun ρ => (f ρ).toS fun sv ρ1 => .ret sv ρ1
theorem s_ret {e : Expr} {pos : Pos} {f : Ev → RE} (h : PE X e (tE X.K b W f)) : PS X (.Return (some e) pos) (tS X.K b W (fRet f)) := PS.imp (ps_ret h) fun D σ H ⟨ρ, G, r, q⟩ =>
  stepS r q fun v H1 ρ1 G1 sv r1 s1 d1 q1 => q1 v σ G1 H1 r1 (Same.refl _) d1
theorem s_retN {pos : Pos} : PS X (.Return none pos) (tS X.K b W fun ρ => .ret (.d .none) ρ) := PS.imp ps_retN fun D σ H ⟨ρ, G, r, q⟩ => q .non σ G H r (Same.refl _) .non
def fDrop (f : Ev → RE) : Ev → RS := fun ρ => (f ρ).toS fun _ ρ1 => .next ρ1
theorem s_expr {e : Expr} {pos : Pos} {f : Ev → RE} (h : PE X e (tE X.K b W f)) (hs : swapsWith e none pos.line X.env = pure false := by rfl) : PS X (.Expr e pos) (tS X.K b W (fDrop f)) := PS.imp (ps_expr h hs) fun D σ H ⟨ρ, G, r, q⟩ =>
  stepS r q fun v H1 ρ1 G1 sv r1 s1 d1 q1 => q1 σ G1 H1 r1 (Same.refl _)

/-! ### stores to names -/
def rfAt (ρ : Ev) (i : Nat) : Bool := match ρ[i]? with
  | some (some (.rf _)) => true
  | _ => false
theorem no_rf {i : Nat} (h : rfAt ρ i = false) (l : List D) : ρ[i]? ≠ some (some (.rf l)) := fun e => by
  unfold rfAt at h; rw [e] at h; cases h
theorem Rel.assign {K : PySem.W.Frag} {i : Nat} {v : V} {sv : Sv} (r : Rel K b G H σ ρ) (h : RepT K b G H σ ρ v sv) (hi : rfAt ρ i = false) : Rel K b G H (σ.set i (some v)) (ρ.set i (some sv)) := by
  have nr : ∀ l, sv ≠ .rf l := fun l z => by subst z; exact h
  have cases2 : ∀ {j : Nat} {s' : Sv}, (ρ.set i (some sv))[j]? = some (some s') → (j = i ∧ sv = s' ∧ i < ρ.length) ∨ (j ≠ i ∧ ρ[j]? = some (some s')) := fun {j s'} q => by
    by_cases e : j = i
    · subst e
      by_cases hl : j < ρ.length
      · rw [List.getElem?_set_self hl] at q
        exact .inl ⟨rfl, Option.some.inj (Option.some.inj q), hl⟩
      · rw [List.getElem?_eq_none (by simpa using hl)] at q; cases q
    · rw [List.getElem?_set_ne (Ne.symm e)] at q
      exact .inr ⟨e, q⟩
  -- who owns an address now
  have own : ∀ {j : Nat} {a : Addr}, Owns (σ.set i (some v)) (ρ.set i (some sv)) j a → (j = i ∧ v = .ref a ∧ ∃ l, sv = .ow l) ∨ (j ≠ i ∧ Owns σ ρ j a) := fun {j a} ⟨h1, l, h2⟩ => by
    have hs : ∃ s', (ρ.set i (some sv))[j]? = some (some s') ∧ (s' = .ow l ∨ s' = .rf l) := by
      rcases h2 with h2 | h2
      · exact ⟨_, h2, .inl rfl⟩
      · exact ⟨_, h2, .inr rfl⟩
    obtain ⟨s', e1, e2⟩ := hs
    rcases cases2 e1 with ⟨rfl, e3, e4⟩ | ⟨ne, e3⟩
    · rw [List.getElem?_set_self (by rw [← r.len]; exact e4)] at h1
      refine .inl ⟨rfl, Option.some.inj (Option.some.inj h1), ?_⟩
      rcases e2 with e2 | e2
      · exact ⟨l, e3.trans e2⟩
      · exact absurd (e3.trans e2) (nr l)
    · rw [List.getElem?_set_ne (Ne.symm ne)] at h1
      refine .inr ⟨ne, h1, l, ?_⟩
      rcases e2 with e2 | e2
      · exact .inl (by rw [e3, e2])
      · exact .inr (by rw [e3, e2])
  have fresh : ∀ {a : Addr} {l : List D}, v = .ref a → sv = .ow l → ∀ j, ¬ Owns σ ρ j a := fun {a l} e1 e2 => by
    subst e2
    obtain ⟨a', xs, e3, _, _, _, _, no, _⟩ := h
    rw [e1] at e3; cases e3
    exact no
  refine ⟨r.le, by rw [List.length_set, List.length_set]; exact r.len, fun j s' q => ?_, fun j k a h1 h2 => ?_, r.keep, r.base, r.fresh, fun p hp => ?_, fun a o h1 => ?_⟩
  · rcases cases2 q with ⟨rfl, e, hl⟩ | ⟨ne, e⟩
    · refine ⟨v, by rw [List.getElem?_set_self (by rw [← r.len]; exact hl)], ?_⟩
      subst e
      cases sv with
      | d x => exact h
      | ow l =>
        obtain ⟨a, xs, e1, h2, h3, h4, h5, _, h6⟩ := h
        exact ⟨a, xs, e1, h2, h3, h4, h6⟩
      | rf l => exact absurd rfl (nr l)
      | ex c => exact h
      | px c => exact h
      | fz l => exact h
    · obtain ⟨u, h1, h2⟩ := r.slot j s' e
      exact ⟨u, by rw [List.getElem?_set_ne (Ne.symm ne)]; exact h1, h2⟩
  · rcases own h1 with ⟨e1, e2, l, e3⟩ | ⟨n1, o1⟩
    · rcases own h2 with ⟨e4, _⟩ | ⟨n2, o2⟩
      · rw [e1, e4]
      · exact absurd o2 (fresh e2 e3 k)
    · rcases own h2 with ⟨e4, e5, l, e6⟩ | ⟨n2, o2⟩
      · exact absurd o1 (fresh e5 e6 j)
      · exact r.apart j k a o1 o2
  · obtain ⟨l, h1, h2⟩ := r.byr p hp
    have ne : p.1 ≠ i := fun z => no_rf hi l (by rw [← z]; exact h2)
    exact ⟨l, by rw [List.getElem?_set_ne (Ne.symm ne)]; exact h1, by rw [List.getElem?_set_ne (Ne.symm ne)]; exact h2⟩
  · obtain ⟨h2, h3, h4, h5⟩ := r.tmp a o h1
    refine ⟨h2, h3, h4, fun j z => ?_⟩
    rcases own z with ⟨_, e2, l, e3⟩ | ⟨_, o1⟩
    · subst e3
      obtain ⟨a', xs, e4, _, _, _, ht, _⟩ := h
      rw [e2] at e4; cases e4
      rw [ht] at h1; cases h1
    · exact h5 j o1
def fSet (i : Nat) (f : Ev → RE) : Ev → RS := fun ρ => (f ρ).toS fun sv ρ1 => if rfAt ρ1 i = false then .next (ρ1.set i (some sv)) else .stuck
theorem postS_if {K : PySem.W.Frag} {D : Ends} {c : Prop} [Decidable c] {x : RS} (h : PostS K b W G D (if c then x else .stuck)) : c ∧ PostS K b W G D x := by
  by_cases e : c
  · rw [if_pos e] at h; exact ⟨e, h⟩
  · rw [if_neg e] at h; exact h.elim
theorem s_set {i : Nat} {x : Str} {e : Expr} {f : Ev → RE} {pos pos' : Pos} (hN : X.N.Nodup) (hi : X.N[i]? = some x) (hx : Loc X.env.scope x) (he : PE X e (tE X.K b W f)) (hs : swapsWith e (some (.Name x pos')) pos.line X.env = pure false := by rfl)
    (hf : X.fn x = true ∨ X.env.scope.names.lookup x = some .local := by first | exact .inl rfl | exact .inr rfl) : PS X (.Assign [.Name x pos'] e pos) (tS X.K b W (fSet i f)) := PS.imp (ps_set hN hi hx he hs hf) fun D σ H ⟨ρ, G, r, q⟩ => by
  refine stepS r q fun v H1 ρ1 G1 sv r1 s1 d1 q1 => ?_
  obtain ⟨c, q1⟩ := postS_if q1
  exact q1 _ _ _ (r1.assign d1 c) (Same.refl _)

/-! ### patterns -/
inductive Pat where
  | n (i : Nat)
  | t (ps : List Pat)
mutual
def bindP : Pat → D → Ev → Option Ev
  | .n i, x, ρ => if rfAt ρ i = false then some (ρ.set i (some (.d x))) else none
  | .t ps, .tuple xs, ρ => bindPs ps xs ρ
  | .t _, _, _ => none
def bindPs : List Pat → List D → Ev → Option Ev
  | [], [], ρ => some ρ
  | p :: ps, x :: xs, ρ => match bindP p x ρ with
    | some ρ1 => bindPs ps xs ρ1
    | none => none
  | _, _, _ => none
end
mutual
def pvars : Pat → List Nat
  | .n i => [i]
  | .t ps => pvarss ps
def pvarss : List Pat → List Nat
  | [] => []
  | p :: ps => pvars p ++ pvarss ps
end
/-- the same but at the slots vs -/
def Agree (vs : List Nat) (σ σ' : St) : Prop := σ'.length = σ.length ∧ ∀ j, j ∉ vs → σ'[j]? = σ[j]?
def gP (K : PySem.W.Frag) (b : Bx) (p : Pat) : TG := fun v σ H Q => ∃ ρ G x, Rel K b G H σ ρ ∧ Da K G v x ∧ ∃ ρ', bindP p x ρ = some ρ' ∧ ∀ σ', Rel K b G H σ' ρ' → Agree (pvars p) σ σ' → Q σ' H
def gPs (K : PySem.W.Frag) (b : Bx) (ps : List Pat) : TGs := fun vs σ H Q => ∃ ρ G xs, Rel K b G H σ ρ ∧ DaAll K G vs xs ∧ ∃ ρ', bindPs ps xs ρ = some ρ' ∧ ∀ σ', Rel K b G H σ' ρ' → Agree (pvarss ps) σ σ' → Q σ' H
theorem PG.imp {e : Expr} {t t' : TG} (h : PG X e t) (i : ∀ v σ H Q, t' v σ H Q → t v σ H Q) : PG X e t' := ⟨fun pins s σ H v u Q I r q => h.run pins s σ H v u Q I r (i _ _ _ _ q)⟩
theorem PGs.imp {e : List Expr} {t t' : TGs} (h : PGs X e t) (i : ∀ v σ H Q, t' v σ H Q → t v σ H Q) : PGs X e t' := ⟨fun pins s σ H v u Q I r q => h.run pins s σ H v u Q I r (i _ _ _ _ q)⟩
theorem g_n {i : Nat} {x : Str} {pos : Pos} (hN : X.N.Nodup) (hi : X.N[i]? = some x) (hx : Loc X.env.scope x) (hf : X.fn x = true ∨ X.env.scope.names.lookup x = some .local := by first | exact .inl rfl | exact .inr rfl) : PG X (.Name x pos) (gP X.K b (.n i)) :=
  PG.imp (pg_name hN hi hx hf) fun v σ H Q ⟨ρ, G, x, r, d, ρ', e, q⟩ => by
    unfold bindP at e
    split at e
    · cases e
      exact q _ (r.assign (sv := .d x) d (by assumption)) ⟨List.length_set, fun j hj => List.getElem?_set_ne (fun z => hj (by rw [z]; unfold pvars; exact List.mem_singleton_self _))⟩
    · cases e
theorem gs_nil : PGs X [] (gPs X.K b []) := PGs.imp pgs_nil fun vs σ H Q ⟨ρ, G, xs, r, d, ρ', e, q⟩ => by
  cases xs with
  | nil => cases d; unfold bindPs at e; cases e; exact ⟨rfl, q _ r ⟨rfl, fun _ _ => rfl⟩⟩
  | cons x xs => unfold bindPs at e; cases e
theorem gs_cons {e : Expr} {es : List Expr} {p : Pat} {ps : List Pat} (h1 : PG X e (gP X.K b p)) (h2 : PGs X es (gPs X.K b ps)) (hs : (assignEach (e :: es) X.env).map (·.2) = assign e X.env :: (assignEach es X.env).map (·.2) := by rfl) : PGs X (e :: es) (gPs X.K b (p :: ps)) :=
  PGs.imp (pgs_cons h1 h2 hs) fun vs σ H Q ⟨ρ, G, xs, r, d, ρ', e, q⟩ => by
    cases xs with
    | nil => unfold bindPs at e; cases e
    | cons x xs =>
      cases d with
      | cons d1 d2 =>
        unfold bindPs at e
        cases e1 : bindP p x ρ with
        | none => rw [e1] at e; cases e
        | some ρ1 =>
          rw [e1] at e
          exact ⟨_, _, rfl, ρ, G, x, r, d1, ρ1, e1, fun σ1 r1 a1 => ⟨ρ1, G, xs, r1, d2, ρ', e, fun σ2 r2 a2 => q σ2 r2 ⟨a2.1.trans a1.1, fun j hj => by
            unfold pvarss at hj
            rw [List.mem_append, not_or] at hj
            rw [a2.2 j hj.2, a1.2 j hj.1]⟩⟩⟩
theorem bindPs_len : ∀ {ps : List Pat} {xs : List D} {ρ ρ' : Ev}, bindPs ps xs ρ = some ρ' → xs.length = ps.length
  | [], [], _, _, _ => rfl
  | [], _ :: _, _, _, e => by unfold bindPs at e; cases e
  | _ :: _, [], _, _, e => by unfold bindPs at e; cases e
  | p :: ps, x :: xs, ρ, ρ', e => by
    unfold bindPs at e
    cases e1 : bindP p x ρ with
    | none => rw [e1] at e; cases e
    | some ρ1 => rw [e1] at e; rw [List.length_cons, List.length_cons, bindPs_len e]
theorem g_t {es : List Expr} {ps : List Pat} {k : Nat} {pos : Pos} (hc : X.calm = true) (h : PGs X es (gPs X.K b ps)) (hn : (assignEach es X.env).length = ps.length := by rfl) (hst : (assignEach es X.env).findIdx? (·.1) = none := by rfl) : PG X (.Tuple es k pos) (gP X.K b (.t ps)) :=
  PG.imp (pg_tup hc h hn hst) fun v σ H Q ⟨ρ, G, x, r, d, ρ', e, q⟩ => by
    cases x with
    | tuple xs =>
      cases d with
      | tup h1 h2 =>
        have e : bindPs ps xs ρ = some ρ' := by unfold bindP at e; exact e
        exact ⟨_, _, rfl, seqT r.le h1, by rw [h2.length, bindPs_len e], ρ, G, xs, r, h2, ρ', e, fun σ' r' a' => q σ' r' (by unfold pvars; exact a')⟩
    | _ => unfold bindP at e; cases e
/-- a, b = e -/
def fUnp (p : Pat) (f : Ev → RE) : Ev → RS := fun ρ => (f ρ).toSD fun x ρ1 => match bindP p x ρ1 with
  | some ρ2 => .next ρ2
  | none => .stuck
theorem s_unp {tg e : Expr} {p : Pat} {f : Ev → RE} {pos : Pos} (he : PE X e (tE X.K b W f)) (hg : PG X tg (gP X.K b p)) (hs : swapsWithSole [tg] e pos.line X.env = pure false := by rfl) (hw : swappedStores [tg] e X.env = pure none := by rfl) (h1 : (assignEach [tg] X.env).map (·.2) = [assign tg X.env] := by rfl) : PS X (.Assign [tg] e pos) (tS X.K b W (fUnp p f)) :=
  PS.imp (ps_asg he hg hs hw h1) fun D σ H ⟨ρ, G, r, q⟩ => by
    refine stepSD r q fun v H1 ρ1 G1 x r1 s1 d1 q1 => ?_
    cases e : bindP p x ρ1 with
    | none => simp only [e] at q1; exact q1.elim
    | some ρ2 =>
      simp only [e] at q1
      exact ⟨ρ1, G1, x, r1, d1, ρ2, e, fun σ' r2 _ => q1 σ' G1 H1 r2 (Same.refl _)⟩
end
end Dl
set_option maxHeartbeats 4000000
namespace Dl
open PySem PySem.Spec L2

/-! ### lists that are owned: written in place -/
def ownAt (ρ : Ev) (i : Nat) : Option (List D) := match ρ[i]? with
  | some (some (.ow l)) => some l
  | some (some (.rf l)) => some l
  | _ => none
def putL (ρ : Ev) (i : Nat) (l : List D) : Ev := match ρ[i]? with
  | some (some (.ow _)) => ρ.set i (some (.ow l))
  | some (some (.rf _)) => ρ.set i (some (.rf l))
  | _ => ρ
section
variable {X : Cx} {b : Bx} {W : WX} {K : PySem.W.Frag} {G G1 H : Hp} {σ : St} {ρ : Ev}
theorem Rel.owned {i : Nat} {l : List D} (r : Rel K b G H σ ρ) (h : ownAt ρ i = some l) : ∃ a xs, σ[i]? = some (some (.ref a)) ∧ H a = some (.lst xs) ∧ G a = none ∧ DaAll K G xs l ∧ Owns σ ρ i a := by
  unfold ownAt at h
  split at h
  · rename_i m e
    cases h
    obtain ⟨v, h1, a, xs, rfl, ha, ga, h0, hx⟩ := r.slot _ _ e
    exact ⟨a, xs, h1, ha, ga, hx, h1, l, .inl e⟩
  · rename_i m e
    cases h
    obtain ⟨v, h1, a, xs, rfl, ha, ga, h0, hx⟩ := r.slot _ _ e
    exact ⟨a, xs, h1, ha, ga, hx, h1, l, .inr e⟩
  · cases h
theorem Rel.write {i : Nat} {l' : List D} {a : Addr} {xs' : List V} (r : Rel K b G H σ ρ) (ho : Owns σ ρ i a) (hd : DaAll K G xs' l') : Rel K b G (upd H a (.lst xs')) σ (putL ρ i l') := by
  obtain ⟨hσ, l, hρ⟩ := ho
  have hi : i < ρ.length := by rcases hρ with e | e <;> exact lt_of_get e
  -- what stands in the slots now
  have get : ∀ {j : Nat} {sv : Sv}, (putL ρ i l')[j]? = some (some sv) → (j = i ∧ ((ρ[i]? = some (some (.ow l)) ∧ sv = .ow l') ∨ (ρ[i]? = some (some (.rf l)) ∧ sv = .rf l'))) ∨ (j ≠ i ∧ ρ[j]? = some (some sv)) := fun {j sv} q => by
    unfold putL at q
    by_cases e : j = i
    · subst e
      rcases hρ with z | z
      · rw [z] at q
        simp only [List.getElem?_set_self hi] at q
        exact .inl ⟨rfl, .inl ⟨z, (Option.some.inj (Option.some.inj q)).symm⟩⟩
      · rw [z] at q
        simp only [List.getElem?_set_self hi] at q
        exact .inl ⟨rfl, .inr ⟨z, (Option.some.inj (Option.some.inj q)).symm⟩⟩
    · rcases hρ with z | z
      · rw [z] at q
        simp only [List.getElem?_set_ne (Ne.symm e)] at q
        exact .inr ⟨e, q⟩
      · rw [z] at q
        simp only [List.getElem?_set_ne (Ne.symm e)] at q
        exact .inr ⟨e, q⟩
  have own : ∀ {j : Nat} {c : Addr}, Owns σ (putL ρ i l') j c → Owns σ ρ j c := fun {j c} ⟨h1, m, h2⟩ => by
    rcases h2 with h2 | h2
    · rcases get h2 with ⟨e, z | z⟩ | ⟨_, z⟩
      · exact ⟨h1, l, .inl (by rw [e]; exact z.1)⟩
      · cases z.2
      · exact ⟨h1, m, .inl z⟩
    · rcases get h2 with ⟨e, z | z⟩ | ⟨_, z⟩
      · cases z.2
      · exact ⟨h1, l, .inr (by rw [e]; exact z.1)⟩
      · exact ⟨h1, m, .inr z⟩
  have mine : Owns σ ρ i a := ⟨hσ, l, hρ⟩
  have other : ∀ {j : Nat} {c : Addr}, j ≠ i → Owns σ ρ j c → c ≠ a := fun {j c} ne o z => ne (r.apart j i a (by rw [← z]; exact o) mine)
  have self : G a = none ∧ (b.H0 a = none ∨ (i, a) ∈ b.B) := by
    rcases hρ with z | z
    · obtain ⟨v, h1, c, ys, e1, h2, h3, h4, _⟩ := r.slot _ _ z
      rw [hσ] at h1; cases h1; cases e1
      exact ⟨h3, .inl h4⟩
    · obtain ⟨v, h1, c, ys, e1, h2, h3, h4, _⟩ := r.slot _ _ z
      rw [hσ] at h1; cases h1; cases e1
      exact ⟨h3, .inr h4⟩
  refine ⟨fun c o q => ?_, ?_, fun j sv q => ?_, fun j k c h1 h2 => r.apart j k c (own h1) (own h2), fun c o h1 h2 => ?_, r.base, r.fresh, fun p hp => ?_, fun c o h1 => ?_⟩
  · rw [upd_ne (ne_of_none q self.1)]; exact r.le _ _ q
  · unfold putL
    split
    · rw [List.length_set]; exact r.len
    · rw [List.length_set]; exact r.len
    · exact r.len
  · rcases get q with ⟨e, z⟩ | ⟨ne, z⟩
    · subst e
      refine ⟨_, hσ, ?_⟩
      rcases z with ⟨z, rfl⟩ | ⟨z, rfl⟩
      · obtain ⟨v, h1, c, ys, e1, h2, h3, h4, _⟩ := r.slot _ _ z
        rw [hσ] at h1; cases h1; cases e1
        exact ⟨a, xs', rfl, upd_same, h3, h4, hd⟩
      · obtain ⟨v, h1, c, ys, e1, h2, h3, h4, _⟩ := r.slot _ _ z
        rw [hσ] at h1; cases h1; cases e1
        exact ⟨a, xs', rfl, upd_same, h3, h4, hd⟩
    · obtain ⟨v, h1, h2⟩ := r.slot j sv z
      refine ⟨v, h1, ?_⟩
      cases sv with
      | d x => exact h2
      | ow m =>
        obtain ⟨c, ys, e1, h3, h4, h5, h6⟩ := h2
        subst e1
        exact ⟨c, ys, rfl, by rw [upd_ne (other ne ⟨h1, m, .inl z⟩)]; exact h3, h4, h5, h6⟩
      | rf m =>
        obtain ⟨c, ys, e1, h3, h4, h5, h6⟩ := h2
        subst e1
        exact ⟨c, ys, rfl, by rw [upd_ne (other ne ⟨h1, m, .inr z⟩)]; exact h3, h4, h5, h6⟩
      | ex c => exact h2
      | px c => exact h2
      | fz l => exact h2
  · have ne : c ≠ a := fun z => by
      rcases self.2 with e | e
      · rw [z, e] at h1; cases h1
      · exact h2 _ e z.symm
    rw [upd_ne ne]
    exact r.keep c o h1 h2
  · obtain ⟨m, h1, h2⟩ := r.byr p hp
    by_cases e : p.1 = i
    · rcases hρ with z | z
      · rw [e, z] at h2; cases h2
      · refine ⟨l', h1, ?_⟩
        unfold putL
        rw [z, e]
        simp only [List.getElem?_set_self hi]
    · refine ⟨m, h1, ?_⟩
      unfold putL
      rcases hρ with z | z
      · rw [z]; simp only [List.getElem?_set_ne (Ne.symm e)]; exact h2
      · rw [z]; simp only [List.getElem?_set_ne (Ne.symm e)]; exact h2
  · obtain ⟨h2, h3, h4, h5⟩ := r.tmp c o h1
    have ne : c ≠ a := fun z => h5 i (by rw [z]; exact mine)
    exact ⟨by rw [upd_ne ne]; exact h2, h3, h4, fun j z => h5 j (own z)⟩
/-- x.append(e) -/
def fApp (i : Nat) (f : Ev → RE) : Ev → RS := fun ρ => match ownAt ρ i with
  | none => .stuck
  | some _ => (f ρ).toSD fun x ρ1 => match ownAt ρ1 i with
    | some l => if l.length < sizeLine then .next (putL ρ1 i (l ++ [x])) else .stuck
    | none => .stuck
theorem s_append {i : Nat} {x : Str} {e : Expr} {f : Ev → RE} {p apos cpos pos : Pos} (he : PE X e (tE X.K b W f)) (hv : PE X (.Name x p) (tVar i)) (hbase : attributeBase (.Name x p) "append" X.env (eval (.Name x p) X.env) = eval (.Name x p) X.env := by rfl)
    (hfew : ((backTo cpos (starEach [e] X.env)).all (fun x => !x.1) && (backToKw cpos (keywordEach [] X.env)).all (fun x => x.1.isSome) && decide ([e].length + ([] : List Keyword).length + (if ([] : List Keyword).isEmpty then 0 else 1) < 30)) = true := by rfl)
    (hline : (apos.endLine == cpos.line) = true := by rfl) (h1 : starEach [e] X.env = (false, eval e X.env) :: starEach [] X.env := by rfl) (h2 : (backTo cpos (starEach [] X.env)).any (·.1) = false := by rfl)
    (hs : swapsWith (.Call (.Attribute (.Name x p) "append" apos) [e] [] cpos) none pos.line X.env = pure false := by rfl) :
    PS X (.Expr (.Call (.Attribute (.Name x p) "append" apos) [e] [] cpos) pos) (tS X.K b W (fApp i f)) :=
  PS.imp (ps_expr (pe_bm PySem.F.plainAttrs_list PySem.F.slot_list_append PySem.F.type_list_append mt_append hv (pa_cons he pa_nil h1) hbase hfew hline h1 h2) hs) fun D σ H ⟨ρ, G, r, q⟩ => by
    unfold fApp at q
    split at q
    · exact q.elim
    · rename_i l e1
      obtain ⟨a, xs, hσ, ha, ga, hx, ho⟩ := r.owned e1
      refine ⟨_, hσ, .inl ⟨rfl, xs, SqL.of ha⟩, ?_⟩
      show tE X.K b W f σ H _
      refine stepSD r q fun v H1 ρ1 G1 x r1 s1 d1 q1 => ?_
      cases e2 : ownAt ρ1 i with
      | none => simp only [e2] at q1; exact q1.elim
      | some m =>
        simp only [e2] at q1
        obtain ⟨c, q1⟩ := postS_if q1
        obtain ⟨a', ys, hσ', ha', ga', hx', ho'⟩ := r1.owned e2
        rw [hσ] at hσ'; cases hσ'
        exact ⟨a, ys, v, rfl, rfl, ha', by rw [hx'.length]; exact c, q1 σ G1 _ (r1.write ho' (hx'.append (.cons d1 .nil))) (Same.refl _)⟩
/-- x[k] = e -/
def fSetIx (i : Nat) (fk f : Ev → RE) : Ev → RS := fun ρ => (f ρ).toSD fun x ρ1 => match ownAt ρ1 i with
  | none => .stuck
  | some _ => (fk ρ1).toSD fun k ρ2 => match k, ownAt ρ2 i with
    | .int n, some l => match ixN l.length n with
      | some j => .next (putL ρ2 i (l.set j x))
      | none => .stuck
    | _, _ => .stuck
theorem set_post {i : Nat} {f fk : Ev → RE} : ∀ D σ H, tS K b W (fSetIx i fk f) D σ H → tAsg (tE K b W f) (gSub (tVar i) (tE K b W fk) rSetL) D σ H := by
  rintro D σ H ⟨ρ, G, r, q⟩
  refine stepSD r q fun v H1 ρ1 G1 x r1 s1 d1 q1 => ?_
  cases e1 : ownAt ρ1 i with
  | none => simp only [e1] at q1; exact q1.elim
  | some l1 =>
    simp only [e1] at q1
    obtain ⟨a, xs, hσ, _⟩ := r1.owned e1
    refine ⟨_, hσ, ?_⟩
    refine stepSD r1 q1 fun u H2 ρ2 G2 k r2 s2 d2 q2 => ?_
    cases k with
    | int n =>
      cases d2
      cases e2 : ownAt ρ2 i with
      | none => simp only [e2] at q2; exact q2.elim
      | some l =>
        simp only [e2] at q2
        obtain ⟨a', ys, hσ', ha', ga', hx', ho'⟩ := r2.owned e2
        rw [hσ] at hσ'; cases hσ'
        cases e3 : ixN l.length n with
        | none => simp only [e3] at q2; exact q2.elim
        | some j =>
          simp only [e3] at q2
          exact ⟨a, ys, n, j, rfl, rfl, ha', by rw [hx'.length]; exact e3, q2 σ G2 _ (r2.write ho' (hx'.set (Da.mono s2 d1) j)) (Same.refl _)⟩
    | _ => exact q2.elim
/-- x.pop(), x.pop(k) -/
def fPop (i : Nat) : Ev → RE := fun ρ => match ownAt ρ i with
  | some l => match l[l.length - 1]? with
    | some x => .ok (.d x) (putL ρ i l.dropLast)
    | none => .stuck
  | none => .stuck
theorem da_dropLast : ∀ {vs : List V} {xs : List D}, DaAll K G vs xs → DaAll K G vs.dropLast xs.dropLast
  | _, _, .nil => .nil
  | _, _, .cons _ .nil => .nil
  | _, _, .cons h (.cons h2 r) => .cons h (da_dropLast (.cons h2 r))
theorem e_pop {i : Nat} {x : Str} {p apos cpos : Pos} (hv : PE X (.Name x p) (tVar i)) (hbase : attributeBase (.Name x p) "pop" X.env (eval (.Name x p) X.env) = eval (.Name x p) X.env := by rfl) (hline : (apos.endLine == cpos.line) = true := by rfl) :
    PE X (.Call (.Attribute (.Name x p) "pop" apos) [] [] cpos) (tE X.K b W (fPop i)) :=
  PE.imp (pe_bm0 PySem.F.plainAttrs_list PySem.F.slot_list_pop PySem.F.type_list_pop mt_pop hv hbase hline) fun σ H Q ⟨ρ, G, r, q⟩ => by
    unfold fPop at q
    split at q
    · rename_i l e1
      obtain ⟨a, xs, hσ, ha, ga, hx, ho⟩ := r.owned e1
      split at q
      · rename_i z e2
        obtain ⟨v, e3, d3⟩ := hx.get e2
        rw [← hx.length] at e3
        exact ⟨_, hσ, .inl ⟨rfl, xs, SqL.of ha⟩, a, xs, v, rfl, rfl, ha, e3, q v G _ (r.write ho (da_dropLast hx)) (Same.refl _) d3⟩
      · exact q.elim
    · exact q.elim
def fPopAt (i : Nat) (f : Ev → RE) : Ev → RE := fun ρ => match ownAt ρ i with
  | none => .stuck
  | some _ => (f ρ).bindD fun k ρ1 => match k, ownAt ρ1 i with
    | .int n, some l => if -(2 ^ 63) ≤ n ∧ n < 2 ^ 63 then match seqIndex? n l.length with
      | some j => match l[j]? with
        | some x => .ok (.d x) (putL ρ1 i (l.eraseIdx j))
        | none => .stuck
      | none => .stuck else .stuck
    | _, _ => .stuck
theorem e_popAt {i : Nat} {x : Str} {e : Expr} {f : Ev → RE} {p apos cpos : Pos} (hv : PE X (.Name x p) (tVar i)) (he : PE X e (tE X.K b W f)) (hbase : attributeBase (.Name x p) "pop" X.env (eval (.Name x p) X.env) = eval (.Name x p) X.env := by rfl)
    (hfew : ((backTo cpos (starEach [e] X.env)).all (fun x => !x.1) && (backToKw cpos (keywordEach [] X.env)).all (fun x => x.1.isSome) && decide ([e].length + ([] : List Keyword).length + (if ([] : List Keyword).isEmpty then 0 else 1) < 30)) = true := by rfl)
    (hline : (apos.endLine == cpos.line) = true := by rfl) (h1 : starEach [e] X.env = (false, eval e X.env) :: starEach [] X.env := by rfl) (h2 : (backTo cpos (starEach [] X.env)).any (·.1) = false := by rfl) :
    PE X (.Call (.Attribute (.Name x p) "pop" apos) [e] [] cpos) (tE X.K b W (fPopAt i f)) :=
  PE.imp (pe_bm PySem.F.plainAttrs_list PySem.F.slot_list_pop PySem.F.type_list_pop mt_popAt hv (pa_cons he pa_nil h1) hbase hfew hline h1 h2) fun σ H Q ⟨ρ, G, r, q⟩ => by
    unfold fPopAt at q
    split at q
    · exact q.elim
    · rename_i l e1
      obtain ⟨a, xs, hσ, ha, ga, hx, ho⟩ := r.owned e1
      refine ⟨_, hσ, .inl ⟨rfl, xs, SqL.of ha⟩, ?_⟩
      show tE X.K b W f σ H _
      refine stepD r q fun v H1 ρ1 G1 x r1 s1 d1 q1 => ?_
      cases x with
      | int n =>
        cases d1
        cases e2 : ownAt ρ1 i with
        | none => simp only [e2] at q1; exact q1.elim
        | some m =>
          simp only [e2] at q1
          obtain ⟨c, q1⟩ := postE_if q1
          obtain ⟨a', ys, hσ', ha', ga', hx', ho'⟩ := r1.owned e2
          rw [hσ] at hσ'; cases hσ'
          cases e3 : seqIndex? n m.length with
          | none => simp only [e3] at q1; exact q1.elim
          | some j =>
            simp only [e3] at q1
            cases e4 : m[j]? with
            | none => simp only [e4] at q1; exact q1.elim
            | some z =>
              simp only [e4] at q1
              obtain ⟨w, e5, d5⟩ := hx'.get e4
              exact ⟨a, ys, n, j, w, rfl, rfl, ha', c.1, c.2, by rw [hx'.length]; exact e3, e5, q1 w G1 _ (r1.write ho' (hx'.eraseIdx j)) (Same.refl _) d5⟩
      | _ => exact q1.elim
/-- x.clear() -/
def fClear (i : Nat) : Ev → RE := fun ρ => match ownAt ρ i with
  | some _ => .ok (.d .none) (putL ρ i [])
  | none => .stuck
theorem e_clear {i : Nat} {x : Str} {p apos cpos : Pos} (hv : PE X (.Name x p) (tVar i)) (hbase : attributeBase (.Name x p) "clear" X.env (eval (.Name x p) X.env) = eval (.Name x p) X.env := by rfl) (hline : (apos.endLine == cpos.line) = true := by rfl) :
    PE X (.Call (.Attribute (.Name x p) "clear" apos) [] [] cpos) (tE X.K b W (fClear i)) :=
  PE.imp (pe_bm0 PySem.F.plainAttrs_list PySem.F.slot_list_clear PySem.F.type_list_clear mt_clear hv hbase hline) fun σ H Q ⟨ρ, G, r, q⟩ => by
    unfold fClear at q
    split at q
    · rename_i l e1
      obtain ⟨a, xs, hσ, ha, ga, hx, ho⟩ := r.owned e1
      exact ⟨_, hσ, .inl ⟨rfl, xs, SqL.of ha⟩, a, xs, rfl, rfl, ha, q .non G _ (r.write ho .nil) (Same.refl _) .non⟩
    · exact q.elim

/-! ### what is walked -/
/-- the turns give the data xs, one by one; a turn may lay a new tuple -/
structure ItOk (K : PySem.W.Frag) (J : It) (G : Hp) (xs : List D) : Prop where
  go : ∀ i H, Same G H → i < xs.length → J.go i H
  stop : ∀ i H, Same G H → xs.length ≤ i → J.stop i H
  yld : ∀ i H x H' d, Same G H → xs[i]? = some d → J.yld i H x H' → (H' = H ∧ Da K G x d) ∨ ∃ T vs ds, d = .tuple ds ∧ x = .ref T ∧ H T = none ∧ H' = upd H T (.tup vs) ∧ DaAll K G vs ds
theorem ItOk.step {J : It} {xs : List D} {i : Nat} {x : V} {H' : Hp} {d : D} (o : ItOk K J G xs) (r : Rel K b G1 H σ ρ) (s : Same G G1) (e : xs[i]? = some d) (y : J.yld i H x H') : ∃ G2, Rel K b G2 H' σ ρ ∧ Same G1 G2 ∧ Da K G2 x d := by
  rcases o.yld i H x H' d (s.trans r.le) e y with ⟨rfl, h⟩ | ⟨T, vs, ds, rfl, rfl, hT, rfl, h⟩
  · exact ⟨G1, r, Same.refl _, Da.mono s h⟩
  · have e := Ext.upd r.le hT (.tup vs)
    exact ⟨_, r.ext e, e.g, .tup (SqT.of upd_same) (DaAll.mono (s.trans e.g) h)⟩
inductive RI where
  | ok (xs : List D) (ρ : Ev)
  | raise (c : Nat) (ρ : Ev)
  | stuck
def RI.of (r : RE) (k : D → Option (List D)) : RI := match r with
  | .ok sv ρ => match sv.dat? with
    | some x => match k x with
      | some xs => .ok xs ρ
      | none => .stuck
    | none => .stuck
  | .raise c ρ => .raise c ρ
  | .stuck => .stuck
def PostI (K : PySem.W.Frag) (b : Bx) (W : WX) (G : Hp) (σ : St) (R : It → Hp → Prop) : RI → Prop
  | .ok xs ρ' => ∀ J G' H', Rel K b G' H' σ ρ' → Same G G' → ItOk K J G' xs → R J H'
  | .raise c ρ' => ∀ G' H', Rel K b G' H' σ ρ' → Same G G' → W (.ref (b.cl c)) none σ H'
  | .stuck => False
def tI (K : PySem.W.Frag) (b : Bx) (W : WX) (f : Ev → RI) : TI := fun σ H R => ∃ ρ G, Rel K b G H σ ρ ∧ PostI K b W G σ R (f ρ)
theorem PI.imp {tg iter : Expr} {t t' : TI} (h : PI X tg iter t) (i : ∀ σ H R, t' σ H R → t σ H R) : PI X tg iter t' := ⟨fun pins s σ H R I q => h.run pins s σ H R I (i _ _ _ q)⟩
theorem stepI {f : Ev → RE} {k : D → Option (List D)} {R0 : It → Hp → Prop} (r : Rel K b G H σ ρ) (h : PostI K b W G σ R0 (RI.of (f ρ) k)) {R : V → Hp → Prop}
    (hR : ∀ v H1 ρ1 G1 x xs, Rel K b G1 H1 σ ρ1 → Same G G1 → Da K G1 v x → k x = some xs → (∀ J G' H', Rel K b G' H' σ ρ1 → Same G1 G' → ItOk K J G' xs → R0 J H') → R v H1) : tE K b W f σ H R := by
  refine ⟨ρ, G, r, ?_⟩
  cases e : f ρ with
  | ok sv ρ1 =>
    rw [e] at h
    intro v G' H' r' s' q'
    cases e1 : sv.dat? with
    | none => simp only [RI.of, e1] at h; exact h.elim
    | some x =>
      cases e2 : k x with
      | none => simp only [RI.of, e1, e2] at h; exact h.elim
      | some xs =>
        simp only [RI.of, e1, e2] at h
        obtain ⟨G1, r1, s1, d1⟩ := r'.pub q' e1
        exact hR v H' ρ1 G1 x xs r1 (s'.trans s1) d1 e2 fun J G2 H2 r2 s2 o2 => h J G2 H2 r2 ((s'.trans s1).trans s2) o2
  | raise c ρ1 => rw [e] at h; exact h
  | stuck => rw [e] at h; exact h
def kList : D → Option (List D) | .list xs => some xs | _ => none
def kTuple : D → Option (List D) | .tuple xs => some xs | _ => none
def kStr : D → Option (List D) | .str z => some (z.cps.toList.map fun c => .str ⟨#[c]⟩) | _ => none
theorem it_list {a : Addr} {vs : List V} {xs : List D} (h1 : G a = some (.lst vs)) (h2 : DaAll K G vs xs) : ItOk K (Itl K a) G xs where
  go := fun i H s hi => ⟨vs, vs[i]'(by rw [h2.length]; exact hi), SqL.of (s _ _ h1), List.getElem?_eq_getElem _⟩
  stop := fun i H s hi => ⟨vs, SqL.of (s _ _ h1), by rw [h2.length]; exact hi⟩
  yld := fun i H x H' d s e y => by
    obtain ⟨v, e1, d1⟩ := h2.get e
    have e2 := y.2 vs (SqL.of (s _ _ h1))
    rw [e1] at e2; cases e2
    exact .inl ⟨y.1, d1⟩
theorem it_tup {a : Addr} {vs : List V} {xs : List D} (h1 : SqT K G a vs) (h2 : DaAll K G vs xs) : ItOk K (Itt K a) G xs where
  go := fun i H s hi => ⟨vs, vs[i]'(by rw [h2.length]; exact hi), seqT s h1, List.getElem?_eq_getElem _⟩
  stop := fun i H s hi => ⟨vs, seqT s h1, by rw [h2.length]; exact hi⟩
  yld := fun i H x H' d s e y => by
    obtain ⟨v, e1, d1⟩ := h2.get e
    have e2 := y.2 vs (seqT s h1)
    rw [e1] at e2; cases e2
    exact .inl ⟨y.1, d1⟩
theorem i_list {tg l : Expr} {f : Ev → RE} (h : PE X l (tE X.K b W f)) : PI X tg l (tI X.K b W fun ρ => RI.of (f ρ) kList) := PI.imp (pi_list h) fun σ H R ⟨ρ, G, r, q⟩ => by
  refine stepI r q fun v H1 ρ1 G1 x xs r1 s1 d1 e1 q1 => ?_
  cases x with
  | list ys =>
    cases e1
    cases d1 with
    | lst h1 h2 => exact ⟨_, rfl, ⟨_, SqL.of (r1.le _ _ h1)⟩, q1 _ G1 H1 r1 (Same.refl _) (it_list h1 h2)⟩
  | _ => cases e1
theorem i_tup {tg l : Expr} {f : Ev → RE} (h : PE X l (tE X.K b W f)) : PI X tg l (tI X.K b W fun ρ => RI.of (f ρ) kTuple) := PI.imp (pi_tup h) fun σ H R ⟨ρ, G, r, q⟩ => by
  refine stepI r q fun v H1 ρ1 G1 x xs r1 s1 d1 e1 q1 => ?_
  cases x with
  | tuple ys =>
    cases e1
    cases d1 with
    | tup h1 h2 => exact ⟨_, rfl, ⟨_, seqT r1.le h1⟩, q1 _ G1 H1 r1 (Same.refl _) (it_tup h1 h2)⟩
  | _ => cases e1
theorem it_str (z : Str) : ItOk K (Its z) G (z.cps.toList.map fun c => .str ⟨#[c]⟩) where
  go := fun i H s hi => by rw [List.length_map, Array.length_toList] at hi; exact hi
  stop := fun i H s hi => by rw [List.length_map, Array.length_toList] at hi; exact hi
  yld := fun i H x H' d s e y => by
    obtain ⟨e0, c, e1, rfl⟩ := y
    rw [List.getElem?_map, Array.getElem?_toList, e1] at e
    cases e
    exact .inl ⟨e0, .str _⟩
theorem i_str {tg l : Expr} {f : Ev → RE} (h : PE X l (tE X.K b W f)) : PI X tg l (tI X.K b W fun ρ => RI.of (f ρ) kStr) := PI.imp (pi_str h) fun σ H R ⟨ρ, G, r, q⟩ => by
  refine stepI r q fun v H1 ρ1 G1 x xs r1 s1 d1 e1 q1 => ?_
  cases x with
  | str z => cases e1; cases d1; exact ⟨z, rfl, q1 _ G1 H1 r1 (Same.refl _) (it_str z)⟩
  | _ => cases e1
/-- the ints from lo on, n of them -/
def upFrom (lo : Int) (n : Nat) : List D := (List.range n).map fun i => .int (lo + (i : Nat))
theorem len_up (lo : Int) (n : Nat) : (upFrom lo n).length = n := by unfold upFrom; rw [List.length_map, List.length_range]
theorem it_rng (lo : Int) (n : Nat) : ItOk K (Itr lo n) G (upFrom lo n) where
  go := fun i H s hi => by rw [len_up] at hi; exact hi
  stop := fun i H s hi => by rw [len_up] at hi; exact hi
  yld := fun i H x H' d s e y => by
    obtain ⟨e0, rfl⟩ := y
    unfold upFrom at e
    rw [List.getElem?_map] at e
    cases q : (List.range n)[i]? with
    | none => rw [q] at e; cases e
    | some j =>
      rw [q] at e; cases e
      have e2 := (List.getElem?_eq_some_iff.mp q).2
      simp at e2
      subst e2
      exact .inl ⟨e0, .int _⟩
def kRng : D → Option (List D) | .int n => if -(2 ^ 62) ≤ n ∧ n < 2 ^ 62 then some (upFrom 0 n.toNat) else none | _ => none
theorem i_rng {tg e : Expr} {f : Ev → RE} {p pos : Pos} (hg : Gl X "range") (hm : X.mg "range" = none) (h : PE X e (tE X.K b W f)) (h1 : starEach [e] X.env = (false, eval e X.env) :: starEach [] X.env := by rfl) (hs : starEach [e] X.env = [(false, eval e X.env)] := by rfl) :
    PI X tg (.Call (.Name "range" p) [e] [] pos) (tI X.K b W fun ρ => RI.of (f ρ) kRng) := PI.imp (pi_range1 hg hm (pa_cons h pa_nil h1) hs) fun σ H R ⟨ρ, G, r, q⟩ => by
  show tE X.K b W f σ H _
  refine stepI r q fun v H1 ρ1 G1 x xs r1 s1 d1 e1 q1 => ?_
  cases x with
  | int n =>
    cases d1
    have e1 : (if -(2 ^ 62) ≤ n ∧ n < 2 ^ 62 then some (upFrom 0 n.toNat) else none) = some xs := e1
    split at e1
    · rename_i c
      cases e1
      exact ⟨n, rfl, c.1, c.2, q1 _ G1 H1 r1 (Same.refl _) (it_rng 0 n.toNat)⟩
    · cases e1
  | _ => cases e1
def fRng2 (f g : Ev → RE) : Ev → RI := fun ρ => match f ρ with
  | .ok (.d (.int i)) ρ1 => RI.of (g ρ1) fun x => match x with
    | .int j => if -(2 ^ 62) ≤ i ∧ i < 2 ^ 62 ∧ -(2 ^ 62) ≤ j ∧ j < 2 ^ 62 then some (upFrom i (j - i).toNat) else none
    | _ => none
  | .raise c ρ1 => .raise c ρ1
  | _ => .stuck
theorem PostI.mono {R : It → Hp → Prop} {r : RI} (e : Same G G1) (h : PostI K b W G σ R r) : PostI K b W G1 σ R r := by
  cases r with
  | ok xs ρ' => exact fun J G' H' r s => h J G' H' r (e.trans s)
  | raise c ρ' => exact fun G' H' r s => h G' H' r (e.trans s)
  | stuck => exact h
theorem i_rng2 {tg e e2 : Expr} {f g : Ev → RE} {p pos : Pos} (hg : Gl X "range") (hm : X.mg "range" = none) (h : PE X e (tE X.K b W f)) (h' : PE X e2 (tE X.K b W g)) (h1 : starEach [e, e2] X.env = (false, eval e X.env) :: starEach [e2] X.env := by rfl) (h2 : starEach [e2] X.env = (false, eval e2 X.env) :: starEach [] X.env := by rfl)
    (hs : starEach [e, e2] X.env = [(false, eval e X.env), (false, eval e2 X.env)] := by rfl) (hs2 : starEach [e2] X.env = [(false, eval e2 X.env)] := by rfl) :
    PI X tg (.Call (.Name "range" p) [e, e2] [] pos) (tI X.K b W (fRng2 f g)) := PI.imp (pi_range2 hg hm (pa_cons h (pa_cons h' pa_nil h2) h1) hs hs2) fun σ H R ⟨ρ, G, r, q⟩ => by
  show tE X.K b W f σ H _
  refine ⟨ρ, G, r, ?_⟩
  unfold fRng2 at q
  cases e0 : f ρ with
  | raise c ρ1 => rw [e0] at q; exact q
  | stuck => rw [e0] at q; exact q
  | ok sv ρ1 =>
    rw [e0] at q
    intro v G1 H1 r1 s1 d1
    cases sv with
    | d x =>
      cases x with
      | int i =>
        cases d1
        show tE X.K b W g σ H1 _
        refine stepI r1 (PostI.mono s1 q) fun u H2 ρ2 G2 y xs r2 s2 d2 e2 q2 => ?_
        cases y with
        | int j =>
          cases d2
          have e2 : (if -(2 ^ 62) ≤ i ∧ i < 2 ^ 62 ∧ -(2 ^ 62) ≤ j ∧ j < 2 ^ 62 then some (upFrom i (j - i).toNat) else none) = some xs := e2
          split at e2
          · rename_i c
            cases e2
            exact ⟨i, j, rfl, c, q2 _ G2 H2 r2 (Same.refl _) (it_rng i _)⟩
          · cases e2
        | _ => cases e2
      | _ => exact q.elim
    | _ => exact q.elim

/-! ### loops -/
def forL (p : Pat) (body : Ev → RS) : List D → Ev → RS
  | [], ρ => .next ρ
  | x :: xs, ρ => match bindP p x ρ with
    | none => .stuck
    | some ρ1 => match body ρ1 with
      | .next ρ2 => forL p body xs ρ2
      | .cnt ρ2 => forL p body xs ρ2
      | .brk ρ2 => .next ρ2
      | r => r
def fFor (src : Ev → RI) (p : Pat) (body : Ev → RS) : Ev → RS := fun ρ => match src ρ with
  | .ok xs ρ1 => forL p body xs ρ1
  | .raise c ρ1 => .raise c ρ1
  | .stuck => .stuck
theorem for_post {src : Ev → RI} {p : Pat} {body : Ev → RS} : ∀ D σ H, tS K b W (fFor src p body) D σ H → tFor (tI K b W src) (gP K b p) (tS K b W body) D σ H := by
  rintro D σ H ⟨ρ, G, r, q⟩
  refine ⟨ρ, G, r, ?_⟩
  cases e0 : src ρ with
  | stuck => simp only [fFor, e0] at q; exact q
  | raise c ρ1 => simp only [fFor, e0] at q; exact fun G' H' r' s' => q σ G' H' r' s'
  | ok xs ρ1 =>
    simp only [fFor, e0] at q
    intro J G1 H1 r1 s1 o1
    refine ⟨fun i m σ H => m = xs.length - i ∧ i ≤ xs.length ∧ ∃ ρ G, Rel K b G H σ ρ ∧ Same G1 G ∧ PostS K b W G D (forL p body (xs.drop i) ρ), ⟨xs.length, by simp, Nat.zero_le _, ρ1, G1, r1, Same.refl _, PostS.mono s1 q⟩, ?_⟩
    rintro i m σ2 H2 ⟨rfl, hi, ρ2, G2, r2, s2, q2⟩
    by_cases hlt : i < xs.length
    · refine .inr ⟨o1.go i H2 (s2.trans r2.le) hlt, fun σ H => i + 1 ≤ xs.length ∧ ∃ ρ G, Rel K b G H σ ρ ∧ Same G1 G ∧ PostS K b W G D (forL p body (xs.drop (i + 1)) ρ), fun σ' H' z => ⟨xs.length - (i + 1), by omega, rfl, z.1, z.2⟩, fun x H3 y => ?_⟩
      have ed : xs.drop i = xs[i] :: xs.drop (i + 1) := List.drop_eq_getElem_cons hlt
      rw [ed] at q2
      obtain ⟨G3, r3, s3, d3⟩ := o1.step r2 s2 (List.getElem?_eq_getElem hlt) y
      cases e1 : bindP p xs[i] ρ2 with
      | none => simp only [forL, e1] at q2; exact q2.elim
      | some ρ3 =>
        simp only [forL, e1] at q2
        refine ⟨ρ2, G3, xs[i], r3, d3, ρ3, e1, fun σ4 r4 _ => ⟨ρ3, G3, r4, ?_⟩⟩
        cases e2 : body ρ3 with
        | next ρ5 => simp only [e2] at q2; exact fun σ' G' H' r' s' => ⟨hlt, ρ5, G', r', (s2.trans s3).trans s', PostS.mono (s3.trans s') q2⟩
        | cnt ρ5 => simp only [e2] at q2; exact fun σ' G' H' r' s' => ⟨hlt, ρ5, G', r', (s2.trans s3).trans s', PostS.mono (s3.trans s') q2⟩
        | brk ρ5 => simp only [e2] at q2; exact fun σ' G' H' r' s' => q2 σ' G' H' r' (s3.trans s')
        | ret sv ρ5 => simp only [e2] at q2; exact fun v σ' G' H' r' s' => q2 v σ' G' H' r' (s3.trans s')
        | raise c ρ5 => simp only [e2] at q2; exact fun σ' G' H' r' s' => q2 σ' G' H' r' (s3.trans s')
        | stuck => simp only [e2] at q2; exact q2
    · have e : i = xs.length := by omega
      subst e
      rw [List.drop_length] at q2
      exact .inl ⟨o1.stop _ H2 (s2.trans r2.le) (Nat.le_refl _), q2 σ2 G2 H2 r2 (Same.refl _)⟩
theorem s_for {tg iter : Expr} {body : List Stmt} {src : Ev → RI} {p : Pat} {fb : Ev → RS} {pos : Pos} (hp : PassesOwn (model X.prog X.w) X.A X.env X.xe) (hc : X.calm = true) (hi : PI X tg iter (tI X.K b W src)) (hg : PG X tg (gP X.K b p)) (hb : PSs X body (tS X.K b W fb))
    (hs : ∀ x, foldedSetIterable iter X.env x = pure x := by intro _; rfl) : PS X (.For tg iter body [] pos) (tS X.K b W (fFor src p fb)) := PS.imp (ps_for hp hc hi hg hb hs) for_post
def whileL (c : Ev → RT) (body : Ev → RS) : Nat → Ev → RS
  | 0, _ => .stuck
  | n + 1, ρ => match c ρ with
    | .ok true ρ1 => match body ρ1 with
      | .next ρ2 => whileL c body n ρ2
      | .cnt ρ2 => whileL c body n ρ2
      | .brk ρ2 => .next ρ2
      | r => r
    | .ok false ρ1 => .next ρ1
    | .raise k ρ1 => .raise k ρ1
    | .stuck => .stuck
theorem while_post {c : Ev → RT} {body : Ev → RS} {n : Nat} : ∀ D σ H, tS K b W (whileL c body n) D σ H → tWhile (tT K b W c) (tS K b W body) D σ H := by
  rintro D σ H ⟨ρ, G, r, q⟩
  refine ⟨fun m σ H => ∃ ρ G2, Rel K b G2 H σ ρ ∧ Same G G2 ∧ PostS K b W G2 D (whileL c body m ρ), ⟨n, ρ, G, r, Same.refl _, q⟩, ?_⟩
  rintro m σ1 H1 ⟨ρ1, G1, r1, s1, q1⟩
  cases m with
  | zero => exact q1.elim
  | succ m =>
    refine stepT (P := fun _ => True) r1 (fun k ρ2 e G2 H2 r2 s2 => ?_) (fun k ρ2 e G2 H2 r2 s2 => ?_) fun e => ?_
    · cases k with
      | false => simp only [whileL, e] at q1; exact iteF (q1 σ1 G2 H2 r2 s2)
      | true =>
        simp only [whileL, e] at q1
        refine iteT ⟨fun σ H => ∃ ρ G2, Rel K b G2 H σ ρ ∧ Same G G2 ∧ PostS K b W G2 D (whileL c body m ρ), fun σ' H' z => ⟨m, Nat.lt_succ_self m, z⟩, ρ2, G2, r2, ?_⟩
        cases e2 : body ρ2 with
        | next ρ5 => simp only [e2] at q1; exact fun σ' G' H' r' s' => ⟨ρ5, G', r', (s1.trans s2).trans s', PostS.mono (s2.trans s') q1⟩
        | cnt ρ5 => simp only [e2] at q1; exact fun σ' G' H' r' s' => ⟨ρ5, G', r', (s1.trans s2).trans s', PostS.mono (s2.trans s') q1⟩
        | brk ρ5 => simp only [e2] at q1; exact fun σ' G' H' r' s' => q1 σ' G' H' r' (s2.trans s')
        | ret sv ρ5 => simp only [e2] at q1; exact fun v σ' G' H' r' s' => q1 v σ' G' H' r' (s2.trans s')
        | raise k ρ5 => simp only [e2] at q1; exact fun σ' G' H' r' s' => q1 σ' G' H' r' (s2.trans s')
        | stuck => simp only [e2] at q1; exact q1
    · simp only [whileL, e] at q1; exact q1 σ1 G2 H2 r2 s2
    · simp only [whileL, e] at q1; exact q1
theorem s_while {c : Expr} {body : List Stmt} {fc : Ev → RT} {fb : Ev → RS} {pos : Pos} (n : Nat) (hp : PassesOwn (model X.prog X.w) X.A X.env X.xe) (hc : PT X c (tT X.K b W fc)) (hb : PSs X body (tS X.K b W fb)) : PS X (.While c body [] pos) (tS X.K b W (whileL fc fb n)) := PS.imp (ps_while hp hc hb) while_post
end
end Dl
set_option maxHeartbeats 4000000
namespace Dl
open PySem PySem.Spec L2

/-! ### comprehensions -/
abbrev W0 : WX := fun _ _ _ _ => False
def Bx.hold (b : Bx) (a : Addr) (o : HO) : Bx := { b with T := upd b.T a o }
def wipeE (ρ : Ev) : List Nat → Ev
  | [] => ρ
  | v :: vs => (wipeE ρ vs).set v none
def keepS : Option (Option Sv) → Option Sv
  | some (some (.d x)) => some (.d x)
  | some (some (.ex c)) => some (.ex c)
  | some (some (.fz l)) => some (.fz l)
  | _ => none
def backE (ρ1 ρ2 : Ev) : List Nat → Ev
  | [] => ρ2
  | v :: vs => (backE ρ1 ρ2 vs).set v (keepS ρ1[v]?)
def okW (ρ : Ev) (vs : List Nat) : Bool := vs.all fun v => !rfAt ρ v
theorem wipeE_len (ρ : Ev) : ∀ vs, (wipeE ρ vs).length = ρ.length
  | [] => rfl
  | v :: vs => by unfold wipeE; rw [List.length_set, wipeE_len ρ vs]
theorem backE_len (ρ1 ρ2 : Ev) : ∀ vs, (backE ρ1 ρ2 vs).length = ρ2.length
  | [] => rfl
  | v :: vs => by unfold backE; rw [List.length_set, backE_len ρ1 ρ2 vs]
theorem wipeE_in {ρ : Ev} {j : Nat} {sv : Sv} : ∀ {vs : List Nat}, (wipeE ρ vs)[j]? = some (some sv) → j ∉ vs ∧ ρ[j]? = some (some sv)
  | [], h => ⟨List.not_mem_nil, h⟩
  | v :: vs, h => by
    unfold wipeE at h
    by_cases e : v = j
    · subst e
      by_cases hl : v < (wipeE ρ vs).length
      · rw [List.getElem?_set_self hl] at h; cases h
      · rw [List.getElem?_eq_none (by simpa using hl)] at h; cases h
    · rw [List.getElem?_set_ne e] at h
      obtain ⟨h1, h2⟩ := wipeE_in h
      exact ⟨fun z => (List.mem_cons.mp z).elim (fun z => e z.symm) h1, h2⟩
theorem wipeE_out {ρ : Ev} {j : Nat} : ∀ {vs : List Nat}, j ∉ vs → (wipeE ρ vs)[j]? = ρ[j]?
  | [], _ => rfl
  | v :: vs, h => by
    rw [List.mem_cons, not_or] at h
    unfold wipeE
    rw [List.getElem?_set_ne (Ne.symm h.1), wipeE_out h.2]
theorem backE_in {ρ1 ρ2 : Ev} {j : Nat} {sv : Sv} : ∀ {vs : List Nat}, (backE ρ1 ρ2 vs)[j]? = some (some sv) → (j ∈ vs ∧ keepS ρ1[j]? = some sv) ∨ (j ∉ vs ∧ ρ2[j]? = some (some sv))
  | [], h => .inr ⟨List.not_mem_nil, h⟩
  | v :: vs, h => by
    unfold backE at h
    by_cases e : v = j
    · subst e
      by_cases hl : v < (backE ρ1 ρ2 vs).length
      · rw [List.getElem?_set_self hl] at h
        exact .inl ⟨List.mem_cons_self, Option.some.inj h⟩
      · rw [List.getElem?_eq_none (by simpa using hl)] at h; cases h
    · rw [List.getElem?_set_ne e] at h
      rcases backE_in h with ⟨h1, h2⟩ | ⟨h1, h2⟩
      · exact .inl ⟨List.mem_cons_of_mem _ h1, h2⟩
      · exact .inr ⟨fun z => (List.mem_cons.mp z).elim (fun z => e z.symm) h1, h2⟩
theorem backE_out {ρ1 ρ2 : Ev} {j : Nat} : ∀ {vs : List Nat}, j ∉ vs → (backE ρ1 ρ2 vs)[j]? = ρ2[j]?
  | [], _ => rfl
  | v :: vs, h => by
    rw [List.mem_cons, not_or] at h
    unfold backE
    rw [List.getElem?_set_ne (Ne.symm h.1), backE_out h.2]
theorem wipe_off {σ : St} {j : Nat} : ∀ {vs : List Nat}, j ∉ vs → (wipe σ vs)[j]? = σ[j]?
  | [], _ => rfl
  | v :: vs, h => by
    rw [List.mem_cons, not_or] at h
    unfold wipe
    rw [List.getElem?_set_ne (Ne.symm h.1), wipe_off h.2]
theorem wipe_on {σ : St} {j : Nat} : ∀ {vs : List Nat}, j ∈ vs → j < σ.length → (wipe σ vs)[j]? = some none
  | v :: vs, h, hl => by
    unfold wipe
    by_cases e : v = j
    · subst e; rw [List.getElem?_set_self (by rw [wipe_length]; exact hl)]
    · rw [List.getElem?_set_ne e]
      rcases List.mem_cons.mp h with z | z
      · exact absurd z.symm e
      · exact wipe_on z hl
theorem wipe_agree {σ σ' : St} {vs : List Nat} (a : Agree vs (wipe σ vs) σ') : wipe σ' vs = wipe σ vs := by
  refine List.ext_getElem? fun j => ?_
  by_cases h : j ∈ vs
  · by_cases hl : j < σ.length
    · rw [wipe_on h hl, wipe_on h (by rw [a.1, wipe_length]; exact hl)]
    · rw [List.getElem?_eq_none (by rw [wipe_length, a.1, wipe_length]; omega), List.getElem?_eq_none (by rw [wipe_length]; omega)]
  · rw [wipe_off h, a.2 j h]
section
variable {X : Cx} {b : Bx} {W : WX} {K : PySem.W.Frag} {G G1 H H1 : Hp} {σ : St} {ρ ρ1 ρ2 : Ev}
theorem Rel.hold {a : Addr} {o : HO} (r : Rel K b G H σ ρ) (ha : H a = some o) (ga : G a = none) (h0 : b.H0 a = none) (no : ∀ i, ¬ Owns σ ρ i a) : Rel K (b.hold a o) G H σ ρ :=
  ⟨r.le, r.len, r.slot, r.apart, r.keep, r.base, r.fresh, r.byr, fun c u q => by
    have q : upd b.T a o c = some u := q
    by_cases e : c = a
    · subst e; rw [upd_same] at q; cases q; exact ⟨ha, ga, h0, no⟩
    · rw [upd_ne e] at q; exact r.tmp c u q⟩
theorem Rel.unhold {a : Addr} {o : HO} (r : Rel K (b.hold a o) G H σ ρ) (ht : b.T a = none) : Rel K b G H σ ρ ∧ H a = some o ∧ G a = none ∧ b.H0 a = none ∧ ∀ i, ¬ Owns σ ρ i a :=
  ⟨⟨r.le, r.len, r.slot, r.apart, r.keep, r.base, r.fresh, r.byr, fun c u q => r.tmp c u (by
    show upd b.T a o c = some u
    rw [upd_ne (fun z => by rw [z, ht] at q; cases q)]; exact q)⟩, r.tmp a o (upd_same (H := b.T))⟩
theorem Rel.setTmp {a : Addr} {o : HO} (r : Rel K b G H σ ρ) (ga : G a = none) (h0 : b.H0 a = none) (ht : b.T a = none) (no : ∀ i, ¬ Owns σ ρ i a) : Rel K b G (upd H a o) σ ρ := by
  refine ⟨fun c u q => ?_, r.len, fun i sv q => ?_, r.apart, fun c u q n => ?_, r.base, r.fresh, r.byr, fun c u q => ?_⟩
  · rw [upd_ne (ne_of_none q ga)]; exact r.le _ _ q
  · obtain ⟨v, h1, h2⟩ := r.slot i sv q
    refine ⟨v, h1, ?_⟩
    cases sv with
    | d x => exact h2
    | ow l =>
      obtain ⟨c, ys, e1, h3, h4⟩ := h2
      subst e1
      exact ⟨c, ys, rfl, by rw [upd_ne (fun z => no i ⟨by rw [h1, z], l, .inl q⟩)]; exact h3, h4⟩
    | rf l =>
      obtain ⟨c, ys, e1, h3, h4⟩ := h2
      subst e1
      exact ⟨c, ys, rfl, by rw [upd_ne (fun z => no i ⟨by rw [h1, z], l, .inr q⟩)]; exact h3, h4⟩
    | ex c => exact h2
    | px c => exact h2
    | fz l => exact h2
  · rw [upd_ne (fun z => by rw [z, h0] at q; cases q)]
    exact r.keep c u q n
  · obtain ⟨h1, h2, h3, h4⟩ := r.tmp c u q
    exact ⟨by rw [upd_ne (fun z => by rw [z, ht] at q; cases q)]; exact h1, h2, h3, h4⟩
/-- a slot that bears a reference of the caller's is one of B -/
theorem Rel.rfB {j : Nat} (r : Rel K b G H σ ρ) (h : rfAt ρ j = true) : ∃ a, (j, a) ∈ b.B := by
  unfold rfAt at h
  split at h
  · rename_i l e
    obtain ⟨v, h1, a, xs, e1, h2, h3, h4, _⟩ := r.slot _ _ e
    exact ⟨a, h4⟩
  · cases h
theorem Rel.noRf {j : Nat} (r : Rel K b G H σ ρ) (r1 : Rel K b G1 H1 σ ρ1) (h : rfAt ρ1 j = false) : rfAt ρ j = false := by
  cases e : rfAt ρ j with
  | false => rfl
  | true =>
    obtain ⟨a, hB⟩ := r.rfB e
    obtain ⟨l, _, h2⟩ := r1.byr _ hB
    exact absurd h2 (no_rf h l)
theorem Rel.wipe {vs : List Nat} (r : Rel K b G H σ ρ) (h : okW ρ vs = true) : Rel K b G H (wipe σ vs) (wipeE ρ vs) := by
  have own : ∀ {j : Nat} {a : Addr}, Owns (L2.wipe σ vs) (wipeE ρ vs) j a → Owns σ ρ j a := fun {j a} ⟨h1, l, h2⟩ => by
    rcases h2 with h2 | h2
    · obtain ⟨n, e⟩ := wipeE_in h2
      exact ⟨by rw [← wipe_off n]; exact h1, l, .inl e⟩
    · obtain ⟨n, e⟩ := wipeE_in h2
      exact ⟨by rw [← wipe_off n]; exact h1, l, .inr e⟩
  refine ⟨r.le, by rw [wipeE_len, wipe_length]; exact r.len, fun i sv q => ?_, fun i j a h1 h2 => r.apart i j a (own h1) (own h2), r.keep, r.base, r.fresh, fun p hp => ?_, fun a o q => ?_⟩
  · obtain ⟨n, e⟩ := wipeE_in q
    rw [wipe_off n]
    exact r.slot i sv e
  · obtain ⟨l, h1, h2⟩ := r.byr p hp
    have n : p.1 ∉ vs := fun z => by
      have q := List.all_eq_true.mp h _ z
      unfold rfAt at q
      rw [h2] at q
      cases q
    exact ⟨l, by rw [wipe_off n]; exact h1, by rw [wipeE_out n]; exact h2⟩
  · obtain ⟨h1, h2, h3, h4⟩ := r.tmp a o q
    exact ⟨h1, h2, h3, fun i z => h4 i (own z)⟩
theorem Rel.back {vs : List Nat} (r1 : Rel K b G1 H1 σ ρ1) (r : Rel K b G H (L2.wipe σ vs) ρ2) (s : Same G1 G) (h : okW ρ1 vs = true) :
    Rel K b G H σ (backE ρ1 ρ2 vs) ∧ ∀ j a, Owns σ (backE ρ1 ρ2 vs) j a → Owns (L2.wipe σ vs) ρ2 j a := by
  have nk : ∀ {o : Option (Option Sv)} {l : List D}, keepS o ≠ some (.ow l) ∧ keepS o ≠ some (.rf l) := fun {o l} => by
    unfold keepS
    split <;> exact ⟨(fun z => nomatch z), (fun z => nomatch z)⟩
  have own : ∀ {j : Nat} {a : Addr}, Owns σ (backE ρ1 ρ2 vs) j a → Owns (L2.wipe σ vs) ρ2 j a := fun {j a} ⟨q1, l, q2⟩ => by
    rcases q2 with q2 | q2
    · rcases backE_in q2 with ⟨_, e⟩ | ⟨n, e⟩
      · exact absurd e nk.1
      · exact ⟨by rw [wipe_off n]; exact q1, l, .inl e⟩
    · rcases backE_in q2 with ⟨_, e⟩ | ⟨n, e⟩
      · exact absurd e nk.2
      · exact ⟨by rw [wipe_off n]; exact q1, l, .inr e⟩
  refine ⟨⟨r.le, by rw [backE_len, r.len, wipe_length], fun i sv q => ?_, fun i j a h1 h2 => r.apart i j a (own h1) (own h2), r.keep, r.base, r.fresh, fun p hp => ?_, fun a o q => ?_⟩, fun j a => own⟩
  · rcases backE_in q with ⟨_, e⟩ | ⟨n, e⟩
    · unfold keepS at e
      split at e
      · rename_i x z
        cases e
        obtain ⟨v, h1, h2⟩ := r1.slot _ _ z
        exact ⟨v, h1, Da.mono s h2⟩
      · rename_i c z
        cases e
        obtain ⟨v, h1, a, e1, h2⟩ := r1.slot _ _ z
        exact ⟨v, h1, a, e1, s _ _ h2⟩
      · rename_i l z
        cases e
        obtain ⟨v, h1, a, xs, e1, h2, h3⟩ := r1.slot _ _ z
        exact ⟨v, h1, a, xs, e1, s.seq h2, DaAll.mono s h3⟩
      · cases e
    · obtain ⟨v, h1, h2⟩ := r.slot i sv e
      rw [wipe_off n] at h1
      exact ⟨v, h1, h2⟩
  · obtain ⟨l, h1, h2⟩ := r.byr p hp
    obtain ⟨l', _, h4⟩ := r1.byr p hp
    have n : p.1 ∉ vs := fun z => by
      have q := List.all_eq_true.mp h _ z
      unfold rfAt at q
      rw [h4] at q
      cases q
    exact ⟨l, by rw [← wipe_off n]; exact h1, by rw [backE_out n]; exact h2⟩
  · obtain ⟨h1, h2, h3, h4⟩ := r.tmp a o q
    exact ⟨h1, h2, h3, fun i z => h4 i (own z)⟩

def lcL (vs : List Nat) (p : Pat) (fc : Ev → RT) (fe : Ev → RE) : List D → Ev → Option (List D × Ev)
  | [], ρ => some ([], ρ)
  | x :: xs, ρ => match bindP p x ρ with
    | none => none
    | some ρ1 => match fc ρ1 with
      | .ok true ρ2 => match fe ρ2 with
        | .ok sv ρ3 => match sv.dat?, lcL vs p fc fe xs (wipeE ρ3 vs) with
          | some y, some (ys, ρ4) => some (y :: ys, ρ4)
          | _, _ => none
        | _ => none
      | .ok false ρ2 => lcL vs p fc fe xs (wipeE ρ2 vs)
      | _ => none
def fLc (src : Ev → RI) (vs : List Nat) (p : Pat) (fc : Ev → RT) (fe : Ev → RE) : Ev → RE := fun ρ => match src ρ with
  | .ok xs ρ1 => if okW ρ1 vs = true then match lcL vs p fc fe xs (wipeE ρ1 vs) with
    | some (ys, ρ2) => if ys.length ≤ sizeLine then .ok (.ow ys) (backE ρ1 ρ2 vs) else .stuck
    | none => .stuck
    else .stuck
  | .raise c ρ1 => .raise c ρ1
  | .stuck => .stuck
def gX (K : PySem.W.Frag) (cl : Nat → Addr) (p : Pat) : TG := fun v σ H Q => ∃ b : Bx, b.cl = cl ∧ gP K b p v σ H Q
def tTX (K : PySem.W.Frag) (cl : Nat → Addr) (f : Ev → RT) : TT := fun σ H Q => ∃ b : Bx, b.cl = cl ∧ tT K b W0 f σ H Q
def tEX (K : PySem.W.Frag) (cl : Nat → Addr) (f : Ev → RE) : TE := fun σ H Q => ∃ b : Bx, b.cl = cl ∧ tE K b W0 f σ H Q
theorem lc_post {src : Ev → RI} {vs : List Nat} {p : Pat} {fc : Ev → RT} {fe : Ev → RE} (hp : ∀ i ∈ pvars p, i ∈ vs) : ∀ σ H Q, tE K b W (fLc src vs p fc fe) σ H Q → tLc (tI K b W src) (gX K b.cl p) (tTX K b.cl fc) (tEX K b.cl fe) vs σ H Q := by
  rintro σ H Q ⟨ρ, G, r, q⟩
  refine ⟨ρ, G, r, ?_⟩
  cases e0 : src ρ with
  | stuck => simp only [fLc, e0] at q; exact q
  | raise c ρ1 => simp only [fLc, e0] at q; exact q
  | ok xs ρ1 =>
    simp only [fLc, e0] at q
    intro J G1 H1 r1 s1 o1 D hD
    obtain ⟨hw, q⟩ := postE_if q
    cases el : lcL vs p fc fe xs (wipeE ρ1 vs) with
    | none => rw [el] at q; exact q.elim
    | some yr =>
      obtain ⟨tot, ρe⟩ := yr
      rw [el] at q
      obtain ⟨hz, q⟩ := postE_if q
      have htD : b.T D = none := r1.t0 hD
      have hext := Ext.updH r1.le hD (.lst [])
      have rD : Rel K b G1 (upd H1 D (.lst [])) σ ρ1 := r1.ext hext
      have noD : ∀ i, ¬ Owns σ ρ1 i D := fun i ⟨z1, l, z2⟩ => by
        rcases z2 with z2 | z2
        · obtain ⟨v, h1, a, ys, e1, h2, _⟩ := r1.slot _ _ z2
          rw [z1] at h1; cases h1; cases e1
          rw [hD] at h2; cases h2
        · obtain ⟨v, h1, a, ys, e1, h2, _⟩ := r1.slot _ _ z2
          rw [z1] at h1; cases h1; cases e1
          rw [hD] at h2; cases h2
      have rW : Rel K (b.hold D (.lst [])) G1 (upd H1 D (.lst [])) (wipe σ vs) (wipeE ρ1 vs) := (rD.hold upd_same (r1.g0 hD) (r1.h0 hD) noD).wipe hw
      refine ⟨fun i m H => m = xs.length - i ∧ i ≤ xs.length ∧ ∃ ρ G acc accd ys, Rel K (b.hold D (.lst acc)) G H (wipe σ vs) ρ ∧ Same G1 G ∧ DaAll K G acc accd ∧ lcL vs p fc fe (xs.drop i) ρ = some (ys, ρe) ∧ accd ++ ys = tot,
        ⟨xs.length, by simp, Nat.zero_le _, wipeE ρ1 vs, G1, [], [], tot, rW, Same.refl _, .nil, el, rfl⟩, ?_⟩
      rintro i m H2 ⟨rfl, hi, ρ2, G2, acc, accd, ys, r2, s2, d2, e2, et⟩
      by_cases hlt : i < xs.length
      · refine .inr ⟨o1.go i H2 (s2.trans r2.le) hlt, fun H => i + 1 ≤ xs.length ∧ ∃ ρ G acc accd ys, Rel K (b.hold D (.lst acc)) G H (wipe σ vs) ρ ∧ Same G1 G ∧ DaAll K G acc accd ∧ lcL vs p fc fe (xs.drop (i + 1)) ρ = some (ys, ρe) ∧ accd ++ ys = tot,
          fun H' z => ⟨xs.length - (i + 1), by omega, rfl, z.1, z.2⟩, fun x H3 y => ?_⟩
        have ed : xs.drop i = xs[i] :: xs.drop (i + 1) := List.drop_eq_getElem_cons hlt
        rw [ed] at e2
        obtain ⟨G3, r3, s3, d3⟩ := o1.step r2 s2 (List.getElem?_eq_getElem hlt) y
        cases e1 : bindP p xs[i] ρ2 with
        | none => simp only [lcL, e1] at e2; cases e2
        | some ρ3 =>
          simp only [lcL, e1] at e2
          refine ⟨b.hold D (.lst acc), rfl, ρ2, G3, xs[i], r3, d3, ρ3, e1, fun σ4 r4 ag => ?_⟩
          have ag' : Agree vs (wipe σ vs) σ4 := ⟨ag.1, fun j hj => ag.2 j fun z => hj (hp j z)⟩
          have ew : wipe σ4 vs = wipe σ vs := wipe_agree ag'
          -- no slot of the block is the caller's
          have ok4 : ∀ {G4 H4 ρ4 o}, Rel K (b.hold D o) G4 H4 σ4 ρ4 → okW ρ4 vs = true := fun {G4 H4 ρ4 o} r5 => by
            refine List.all_eq_true.mpr fun j hj => ?_
            have q1 : rfAt ρ1 j = false := by
              have z := List.all_eq_true.mp hw j hj
              cases e : rfAt ρ1 j with
              | false => rfl
              | true => rw [e] at z; cases z
            cases e : rfAt ρ4 j with
            | false => rfl
            | true =>
              obtain ⟨a, hB⟩ := r5.rfB e
              obtain ⟨l, _, h2⟩ := r1.byr _ hB
              exact absurd h2 (no_rf q1 l)
          refine ⟨ew, b.hold D (.lst acc), rfl, ρ3, G3, r4, ?_⟩
          cases e3 : fc ρ3 with
          | stuck => simp only [e3] at e2; cases e2
          | raise c ρ4 => simp only [e3] at e2; cases e2
          | ok c ρ4 =>
            intro G4 H4 r5 s5
            cases c with
            | false =>
              simp only [e3] at e2
              rw [if_neg Bool.false_ne_true]
              have r6 := r5.wipe (ok4 r5)
              rw [ew] at r6
              exact ⟨hlt, wipeE ρ4 vs, G4, acc, accd, ys, r6, (s2.trans s3).trans s5, DaAll.mono (s3.trans s5) d2, e2, et⟩
            | true =>
              simp only [e3] at e2
              rw [if_pos rfl]
              refine ⟨b.hold D (.lst acc), rfl, ρ4, G4, r5, ?_⟩
              cases e4 : fe ρ4 with
              | stuck => simp only [e4] at e2; cases e2
              | raise c ρ5 => simp only [e4] at e2; cases e2
              | ok sv ρ5 =>
                simp only [e4] at e2
                intro u G5 H5 r6 s6 d6
                cases e5 : sv.dat? with
                | none => simp only [e5] at e2; cases e2
                | some w =>
                  simp only [e5] at e2
                  obtain ⟨G6, r7, s7, d7⟩ := r6.pub d6 e5
                  cases e6 : lcL vs p fc fe (xs.drop (i + 1)) (wipeE ρ5 vs) with
                  | none => simp only [e6] at e2; cases e2
                  | some yr =>
                    obtain ⟨ys', ρ6⟩ := yr
                    simp only [e6] at e2
                    cases e2
                    obtain ⟨r8, a1, a2, a3, a4⟩ := r7.unhold htD
                    have la : acc.length = accd.length := d2.length
                    have lt : accd.length + (ys'.length + 1) = tot.length := by rw [← et, List.length_append, List.length_cons]
                    refine ⟨acc, a1, by omega, hlt, wipeE ρ5 vs, G6, acc ++ [u], accd ++ [w], ys', ?_, ((s2.trans s3).trans s5).trans (s6.trans s7), (DaAll.mono (s3.trans (s5.trans (s6.trans s7))) d2).append (.cons d7 .nil), e6, by rw [List.append_assoc]; exact et⟩
                    have r9 : Rel K b G6 (upd H5 D (.lst (acc ++ [u]))) σ4 ρ5 := r8.setTmp a2 a3 htD a4
                    have r10 := (r9.hold (o := .lst (acc ++ [u])) upd_same a2 a3 a4).wipe (ok4 r7)
                    rw [ew] at r10
                    exact r10
      · have e : i = xs.length := by omega
        subst e
        rw [List.drop_length] at e2
        unfold lcL at e2
        cases e2
        rw [List.append_nil] at et
        subst et
        obtain ⟨r8, a1, a2, a3, a4⟩ := r2.unhold htD
        obtain ⟨r9, ob⟩ := Rel.back r1 r8 s2 hw
        exact .inl ⟨o1.stop _ H2 (s2.trans r2.le) (Nat.le_refl _), q _ G2 H2 r9 (s1.trans s2) ⟨D, acc, rfl, a1, a2, a3, htD, fun j z => a4 j (ob j D z), d2⟩⟩
theorem PG.ex {tg : Expr} {p : Pat} {cl : Nat → Addr} (h : ∀ b : Bx, b.cl = cl → PG X tg (gP X.K b p)) : PG X tg (gX X.K cl p) := ⟨fun pins s σ H v u Q I r ⟨b, hb, q⟩ => (h b hb).run pins s σ H v u Q I r q⟩
theorem PE.ex {e : Expr} {f : Ev → RE} {cl : Nat → Addr} (h : ∀ b : Bx, b.cl = cl → PE X e (tE X.K b W0 f)) : PE X e (tEX X.K cl f) := ⟨fun pins s σ H Q I ⟨b, hb, q⟩ => (h b hb).run pins s σ H Q I q⟩
theorem PTs.ex {e : List Expr} {f : Ev → RT} {cl : Nat → Addr} (h : ∀ b : Bx, b.cl = cl → PTs X e (tT X.K b W0 f)) : PTs X e (tTX X.K cl f) := ⟨fun pins s σ H Q I ⟨b, hb, q⟩ => (h b hb).run pins s σ H Q I q⟩
def fYes : Ev → RT := fun ρ => .ok true ρ
theorem ts_nil : PTs X [] (tT X.K b W fYes) := ⟨fun pins s σ H Q I ⟨ρ, G, r, q⟩ => pts_nil.run pins s σ H Q I (q G H r (Same.refl _))⟩
theorem ts_one {c : Expr} {f : Ev → RT} (h : PT X c (tT X.K b W f)) : PTs X [c] (tT X.K b W f) := pts_one h
/-- the context of a comprehension's block -/
abbrev Blk (X : Cx) (s : Shared) (H : Hp) (scope : Scope) (cl : List (Str × Addr)) (C : Addr) (fp : List Addr) : Cx := X.blk s H scope (compEnvC scope cl C X.env) fp
theorem e_lc {elt tg iter : Expr} {ifs : List Expr} {scope : Scope} {own : List (Str × Nat)} {pos : Pos} {src : Ev → RI} {p : Pat} {fc : Ev → RT} {fe : Ev → RE} (hc : X.calm = true) (hN : X.N.Nodup) (hp : ∀ i ∈ pvars p, i ∈ own.map (·.2)) (hi : PI X tg iter (tI X.K b W src)) (ok : BlkOk X.N X.env.scope scope own)
    (hg : ∀ (s : Shared) (H : Hp) (C : Addr) (cs : List (Str × Addr)) (fp : List Addr) (b' : Bx), b'.cl = b.cl → PG (Blk X s H scope cs C fp) tg (gP X.K b' p))
    (ht : ∀ (s : Shared) (H : Hp) (C : Addr) (cs : List (Str × Addr)) (fp : List Addr) (b' : Bx), b'.cl = b.cl → PTs (Blk X s H scope cs C fp) ifs (tT X.K b' W0 fc))
    (he : ∀ (s : Shared) (H : Hp) (C : Addr) (cs : List (Str × Addr)) (fp : List Addr) (b' : Bx), b'.cl = b.cl → PE (Blk X s H scope cs C fp) elt (tE X.K b' W0 fe)) (hs : ∀ x, foldedSetIterable iter X.env x = pure x := by intro _; rfl) :
    PE X (.ListComp elt [⟨tg, iter, ifs, 0⟩] scope pos) (tE X.K b W (fLc src (own.map (·.2)) p fc fe)) :=
  PE.imp (pe_lc hc hN hi ok (fun s H C cl fp => PG.ex (hg s H C cl fp)) (fun s H C cl fp => PTs.ex (ht s H C cl fp)) (fun s H C cl fp => PE.ex (he s H C cl fp)) hs) (lc_post hp)
theorem s_setLc {i : Nat} {y : Str} {py : Pos} {elt tg iter : Expr} {ifs : List Expr} {scope : Scope} {own : List (Str × Nat)} {pos spos : Pos} {src : Ev → RI} {p : Pat} {fc : Ev → RT} {fe : Ev → RE} (hc : X.calm = true) (hN : X.N.Nodup) (hy : X.N[i]? = some y) (hyl : X.env.scope.names.lookup y = some .local)
    (hsw : swapsWith (.ListComp elt [⟨tg, iter, ifs, 0⟩] scope pos) (some (.Name y py)) spos.line X.env = pure true) (hp : ∀ i ∈ pvars p, i ∈ own.map (·.2)) (hi : PI X tg iter (tI X.K b W src)) (ok : BlkOk X.N X.env.scope scope own)
    (hg : ∀ (s : Shared) (H : Hp) (C : Addr) (cs : List (Str × Addr)) (fp : List Addr) (b' : Bx), b'.cl = b.cl → PG (Blk X s H scope cs C fp) tg (gP X.K b' p))
    (ht : ∀ (s : Shared) (H : Hp) (C : Addr) (cs : List (Str × Addr)) (fp : List Addr) (b' : Bx), b'.cl = b.cl → PTs (Blk X s H scope cs C fp) ifs (tT X.K b' W0 fc))
    (he : ∀ (s : Shared) (H : Hp) (C : Addr) (cs : List (Str × Addr)) (fp : List Addr) (b' : Bx), b'.cl = b.cl → PE (Blk X s H scope cs C fp) elt (tE X.K b' W0 fe)) (hs : ∀ x, foldedSetIterable iter X.env x = pure x := by intro _; rfl) :
    PS X (.Assign [.Name y py] (.ListComp elt [⟨tg, iter, ifs, 0⟩] scope pos) spos) (tS X.K b W (fSet i (fLc src (own.map (·.2)) p fc fe))) :=
  PS.imp (ps_setLc hc hN hy hyl hsw hi ok (fun s H C cl fp => PG.ex (hg s H C cl fp)) (fun s H C cl fp => PTs.ex (ht s H C cl fp)) (fun s H C cl fp => PE.ex (he s H C cl fp)) hs) fun D σ H ⟨ρ, G, r, q⟩ => by
    have z : tE X.K b W (fLc src (own.map (·.2)) p fc fe) σ H (fun x H1 => gName i x σ H1 D.nx) := ?_
    · exact lc_post hp σ H _ z
    refine stepS r q fun v H1 ρ1 G1 sv r1 s1 d1 q1 => ?_
    obtain ⟨c, q1⟩ := postS_if q1
    exact q1 _ _ _ (r1.assign d1 c) (Same.refl _)
end
end Dl
set_option maxHeartbeats 400000
/-! Dl0: the promise of a def where no repr is under way around it (guards known), its rule, its call, the end of a law. -/
namespace Dl
open PySem PySem.Spec L2
open PyProof.Rows (envOfC AllBare)

/-- as FnOk; nothing is being shown around the call -/
structure FnG (P : Program) (w : World) (K : PySem.W.Frag) (mg : Str → Option Value) (base : Heap) (k : Nat) (f : Addr) (fd : FuncData) (ps : List Str) (sp : Sp) : Prop where
  len : ∀ vs H Q E, sp vs H Q E → vs.length = ps.length
  run : ∀ (A : Around) (outer : List Env) (s : Shared) (H : Hp) (args : Args) (us : List Value) (vs : List V) (Q : VK) (E : XK), A.guards = some [] → Room k A →
    Env0 P w K mg base A outer s H → BindsTo s fd args (ps.zip us) → Vals vs us → sp vs H Q E → codeAny (model P w) A (.call (.ref f) args) (CR (L2.CX P w) outer P w H s Q E) s
section
variable {P : Program} {w : World} {K : PySem.W.Frag} {mg : Str → Option Value} {base : Heap} {k : Nat} {f : Addr} {fd : FuncData} {N ps : List Str} {sp : Sp}
theorem FnG.mono {j : Nat} (F : FnG P w K mg base j f fd ps sp) (h : j ≤ k) : FnG P w K mg base k f fd ps sp :=
  ⟨F.len, fun A outer s H args us vs Q E g hr => F.run A outer s H args us vs Q E g (hr.mono h)⟩
/-- THE RULE of a def, by its body -/
theorem fn_G {x qual : Str} {st : Stmt} (F : Fun K x qual st f fd) (S : FnScope N ps (defScope st)) (len : ∀ vs H Q E, sp vs H Q E → vs.length = ps.length)
    (hb : ∀ (cdv : Value) (A : Around) (outer : List Env) (s : Shared) (H : Hp) (vs : List V) (Q : VK) (E : XK), A.guards = some [] → Room k (A.deeper (envOfC qual (defScope st) s.heap.objs.size f cdv)) → sp vs H Q E →
      ∃ t, PSs (cxOf (L2.CX P w) P w K mg base N qual (defScope st) f cdv A outer s H E) (defBody st) t ∧ t { nx := fun _ H' => Q .non H', rt := Q } (L2.start N vs) H) :
    FnG P w K mg base (k + 1) f fd ps sp := by
  obtain ⟨oc, od, kV, doc, pm, an, cdv, ct, osl, rfl, lk, hcd⟩ := F.ex
  refine ⟨len, fun A outer s H args us vs Q E hg room env hbd rel prm => ?_⟩
  have inK : K.In s.heap := env.mod.kin.keeps fun c o q => (env.bs c o q).1
  have noLim : s.heap.NoLimit := env.mod.nolimit.keeps fun c o q => (env.bs c o q).1
  have kinds : ∀ p ∈ ps.zip us, (defScope st).names.lookup p.1 = some .local ∨ ((defScope st).names.lookup p.1 = some .cell ∧ ((cellsFrom (s.heap.objs.size + 1) (defScope st).names []).lookup p.1).isSome = true) := by
    intro p hp
    obtain ⟨a1, _⟩ := List.of_mem_zip (a := p.1) (b := p.2) hp
    cases S.par p.1 a1 with
    | inl q => exact .inl q
    | inr q => exact .inr ⟨q, PySem.W.cellsFrom_some _ _ _ (.inl q)⟩
  refine codeAny_call_function room.depth (inK _ _ lk) rfl S.co S.gen rfl (PySem.W.codeRec_of inK hcd)
    (hbd _ _ _ _ (wpAny_newFunctionEnv_cells S.kind kinds fun e1 he s1 fresh => ?_))
  subst he
  refine ⟨noLim.keeps fresh.toInCall.keep, codeAny_func ?_⟩
  obtain ⟨t, ht, hq⟩ := hb cdv A outer s H vs Q E hg (room.deeper _) prm
  have I0 : Inv (cxOf (L2.CX P w) P w K mg base N qual (defScope st) f cdv A outer s H E) [] (L2.start N vs) H s1 := inv_start S room.hd env (len _ _ _ _ prm) rel fresh
  have back : ∀ {σ2 : L2.St} {H2 : Hp} {v : V} {u : Value} {s2 : Shared}, Inv (cxOf (L2.CX P w) P w K mg base N qual (defScope st) f cdv A outer s H E) [] σ2 H2 s2 → RelV v u → Q v H2 → CE outer P w H s Q u s2 :=
    fun {σ2 H2 v u s2} J rv q => ⟨v, H2, J.os, J.bare, J.base, J.hok, rv, q⟩
  refine wpAny_mono (ht.run [] s1 _ H _ I0 hq) (fun fl s2 z => ?_) fun _ _ z => z
  cases fl with
  | ret u =>
    obtain ⟨v, _, _, J, rv, q⟩ := z
    exact back J rv q
  | next =>
    obtain ⟨_, _, J, q⟩ := z
    exact back (v := V.non) (u := Value.none) J rfl q
  | brk =>
    obtain ⟨_, _, _, q⟩ := z
    exact q.elim
  | cont =>
    obtain ⟨_, _, _, q⟩ := z
    exact q.elim
end
section
variable {X : Cx} {k : Nat} {f : Addr} {fd : FuncData} {ps : List Str} {sp : Sp} {E : St → XK} {x : Str} {p pos : Pos} {e : Expr} {es : List Expr} {t : TA}
/-- f(e, ..) -/
theorem pe_callG (F : FnG X.prog X.w X.K X.mg X.base k f fd ps sp) (gd : X.A.guards = some []) (hr : Room k X.A) (gl : Gl X x) (mf : X.mg x = some (.ref f)) (kp : PySem.W.keepIn X.K (.ref f) = true) (bd : Binds X.K fd ps []) (lt : ∀ σ, PassesAt (L2.CX X.prog X.w) X σ (E σ))
    (ha : PA X (e :: es) t) (hdb : (x == ("__debug__" : Str)) = false := by decide) (hst : starEach (e :: es) X.env = (false, eval e X.env) :: starEach es X.env := by rfl) (hpl : (backTo pos (starEach es X.env)).any (·.1) = false := by rfl) :
    PE X (.Call (.Name x p) (e :: es) [] pos) (tCallS sp E t) := by
  constructor
  intro pins s σ H Q I h
  refine wpAny_Call_Name_kw (ld_glob I gl mf (PySem.W.callWith_K (h₀ := X.base) I.ok.mod.kin kp ?_ hst hpl) hdb)
  refine thn (ha.run pos pins s σ H _ I h) fun us s1 z => ?_
  obtain ⟨vs, H1, I1, rel, prm⟩ := z
  refine ⟨I1.kIn, wpAny_call ?_⟩
  have ln : us.length = ps.length := by rw [← rel.length]; exact F.len _ _ _ _ prm
  have b1 := bd s1 us I1.kIn (by rw [List.append_nil]; exact ln)
  rw [List.append_nil] at b1
  refine codeAny_mono (F.run X.A X.stack s1 H1 ⟨us, []⟩ us vs Q (E σ) gd hr I1.env0 b1 rel prm) fun r s2 z => ?_
  cases r with
  | error ev => exact lt σ pins H1 s1 ev s2 I1 z
  | ok fl =>
    cases fl with
    | ret u => exact I1.after z
    | next => exact z.elim
    | brk => exact z.elim
    | cont => exact z.elim
/-- f() -/
theorem pe_callG0 (F : FnG X.prog X.w X.K X.mg X.base k f fd ps sp) (gd : X.A.guards = some []) (hr : Room k X.A) (gl : Gl X x) (mf : X.mg x = some (.ref f)) (kp : PySem.W.keepIn X.K (.ref f) = true) (bd : Binds X.K fd ps []) (lt : ∀ σ, PassesAt (L2.CX X.prog X.w) X σ (E σ))
    (hdb : (x == ("__debug__" : Str)) = false := by decide) : PE X (.Call (.Name x p) [] [] pos) (tCallS sp E tNil) := by
  constructor
  intro pins s σ H Q I h
  refine wpAny_Call_Name_kw (ld_glob I gl mf ?_ hdb)
  refine PySem.W.callWith_K0 I.kIn kp (wpAny_call ?_)
  have prm : sp [] H Q (E σ) := h
  have ln : ([] : List Value).length = ps.length := F.len _ _ _ _ prm
  have b1 := bd s [] I.kIn (by rw [List.append_nil]; exact ln)
  rw [List.append_nil] at b1
  refine codeAny_mono (F.run X.A X.stack s H ⟨[], []⟩ [] [] Q (E σ) gd hr I.env0 b1 .nil prm) fun r s2 z => ?_
  cases r with
  | error ev => exact lt σ pins H s ev s2 I z
  | ok fl =>
    cases fl with
    | ret u => exact I.after z
    | next => exact z.elim
    | brk => exact z.elim
    | cont => exact z.elim
end

/-! ### a law's end -/
section
variable {P : Program} {w : World} {K : PySem.W.Frag} {mg mb : Str → Option Value} {k : Nat} {fa a : Addr} {fd : FuncData} {x : Str} {sp : Sp} {s₁ : Shared} {vs : List Value} {ns : List Int}
/-- the heap in which the script alone is known -/
def scr (a : Addr) (o : Obj) (ns : List Int) : Hp := fun c => if c = a then some (.frz o (.lst (ns.map V.int))) else none
theorem law_G (KX : K.In s₁.heap) (hns : s₁.heap.Ns mainGlobals mg) (hb : s₁.heap.Ns builtinsNs mb) (hbb : ∀ y : Str, y ≠ "__name__" → mb y = bootBuiltins y) (hlim : s₁.heap.NoLimit) (hg : s₁.gens = #[])
    (ha : s₁.heap.get? a = some { cls := .type "list", data := .seq vs.toArray }) (hi : PyProof.Rows.IntsAre vs ns) (hl : ns.length ≤ sizeLine) (hr : Room k callerA)
    (F : ∀ base : Heap, K.In base → base.Ns mainGlobals mg → FnG P w K mg base k fa fd [x] sp) (hbind : ∀ (s : Shared) (u : Value), BindsTo s fd ⟨[u], []⟩ [(x, u)])
    (hsp : ∀ H : Hp, SqL K H a (ns.map V.int) → sp [.ref a] H (fun v _ => v = .bl true) fun _ _ _ => False) :
    codeAny (model P w) callerA (.call (.ref fa) ⟨[.ref a], []⟩) (fun r s2 => r = .ok (.ret (.bool true)) ∧ OldK s₁.heap s2.heap ∧ s2.os = s₁.os ∧ AllBare s2.gens) s₁ := by
  have rv := vals_ints hi
  have nv := hi.length
  -- H: none, or the script alone
  have main : ∀ H : Hp, (∀ c, H c = none ∨ (c = a ∧ H c = some (.frz { cls := .type "list", data := .seq vs.toArray } (.lst (ns.map V.int))) ∧ K.lookup a = none)) → SqL K H a (ns.map V.int) →
      codeAny (model P w) callerA (.call (.ref fa) ⟨[.ref a], []⟩) (fun r s2 => r = .ok (.ret (.bool true)) ∧ OldK s₁.heap s2.heap ∧ s2.os = s₁.os ∧ AllBare s2.gens) s₁ := by
    intro H hH hS
    have hok : HOk P w H s₁.heap := fun c u q => by
      rcases hH c with z | ⟨rfl, z, _⟩
      · rw [z] at q; cases q
      · rw [z] at q; cases q
        exact ⟨ha, by rw [List.length_map]; exact hl, vs, _, rv, ha⟩
    have toBase : ∀ {c : Addr} {o : Obj}, s₁.heap.get? c = some o → (∀ es ep, o.data = .dict es ep → True) → (c = a → o.data ≠ .seq vs.toArray 0) ∨ H c = none → H c = none := fun {c o} e _ h => by
      rcases h with h | h
      · rcases hH c with z | ⟨rfl, _, _⟩
        · exact z
        · rw [ha] at e; cases e; exact absurd rfl (h rfl)
      · exact h
    have nsK : ∀ {c : Addr} {m : Str → Option Value}, s₁.heap.Ns c m → (hidT s₁.heap H).Ns c m := fun {c m} z => by
      obtain ⟨o, es, ep, e, d, r⟩ := z
      refine ⟨o, es, ep, hidT_get e (toBase e (fun _ _ _ => trivial) (.inl fun _ q => ?_)), d, r⟩
      rw [d] at q; cases q
    have inB : K.In (hidT s₁.heap H) := fun c o e => by
      refine hidT_get (KX c o e) ?_
      rcases hH c with z | ⟨rfl, _, z⟩
      · exact z
      · rw [z] at e; cases e
    have md : Mod K mg (hidT s₁.heap H) := by
      obtain ⟨mc, h1, h2⟩ := hlim
      exact ⟨inB, nsK hns, ⟨mb, nsK hb, hbb⟩, mc, nsK h1, h2⟩
    have env : Env0 P w K mg (hidT s₁.heap H) callerA [] s₁ H :=
      ⟨rfl, md, fun c o e => of_hidT e, Nat.le_of_eq (hidT_size _ _), trivial, (fun c hc => nomatch hc), hok, .of_eq hg⟩
    refine codeAny_mono ((F _ inB (nsK hns)).run callerA [] s₁ H ⟨[.ref a], []⟩ [.ref a] [.ref a] _ _ rfl hr env (hbind s₁ (.ref a)) (.cons rfl .nil) (hsp H hS)) fun r s2 z => ?_
    cases r with
    | error ev =>
      obtain ⟨_, _, _, _, _, _, _, _, _, _, _, _, q⟩ := z
      exact q.elim
    | ok fl =>
      cases fl with
      | next => exact z.elim
      | brk => exact z.elim
      | cont => exact z.elim
      | ret u =>
        obtain ⟨v, H2, os, bare, un, hok2, ru, q⟩ := z
        have q : v = .bl true := q
        subst q
        cases (show u = Value.bool true from ru)
        refine ⟨rfl, OldK.of_keep fun c o e => ?_, os, bare⟩
        rcases hH c with n | ⟨rfl, n, _⟩
        · exact un.keep c o e n (fun y => nomatch y) (fun y => nomatch y)
        · obtain ⟨e1, _⟩ := hok c _ n
          obtain ⟨e2, _⟩ := hok2 c _ (un.frzs c _ _ n)
          rw [e] at e1; cases e1
          exact e2
  cases hk : K.lookup a with
  | some o =>
    have e := KX a o hk
    rw [ha] at e
    cases e
    exact main (fun _ => none) (fun _ => .inl rfl) (.inr ⟨_, vs.toArray, _, hk, rfl, rfl, rfl, by rw [List.size_toArray, nv]; exact hl, by simpa using rv⟩)
  | none =>
    refine main (scr a { cls := .type "list", data := .seq vs.toArray } ns) (fun c => ?_) (.inl (.inr ⟨_, if_pos rfl⟩))
    by_cases e : c = a
    · exact .inr ⟨e, if_pos e, hk⟩
    · exact .inl (if_neg e)
end
theorem walk_G {l : PySem.W.OpenLaw} {n k : Nat} {q : Program} {loose : List Str} {XP : (Str → Option Value) → Heap → Prop} {YP : World → Heap → Prop} {d : DefRec} {K : Params → PySem.W.Frag} {sp : PySem.W.Frag → Sp} {x : Str}
    (hn : l.most = some n) (hn2 : n ≤ sizeLine) (hdf : d.params.defaults = []) (hr : Room k callerA) (hY : ∀ (w : World) (h : Heap), YP w h → (K w.params).In h)
    (F : ∀ (w : World) (mg : Str → Option Value) (fa : Addr) (h : Heap), (K w.params).In h → h.Ns mainGlobals mg → mg d.name = some (.ref fa) →
      ∃ fd : FuncData, (∀ (s : Shared) (u : Value), BindsTo s fd ⟨[u], []⟩ [(x, u)]) ∧ ∀ base : Heap, (K w.params).In base → base.Ns mainGlobals mg → FnG l.prog w (K w.params) mg base k fa fd [x] (sp (K w.params)))
    (hsp : ∀ (K : PySem.W.Frag) (H : Hp) (a : Addr) (ns : List Int), ns.length ≤ n → SqL K H a (ns.map V.int) → sp K [.ref a] H (fun v _ => v = .bl true) fun _ _ _ => False) :
    PySem.W.WalkO q loose XP YP l.row.toRowW d [] (fun f vs => PySem.call f vs) := by
  refine Att.attach_call hn hdf fun w s₀ s₁ mg mb fa o pm cd doc a vs ns Gr Y ho hd hcd hmg hobj hints hlen hgens => ?_
  obtain ⟨fd, hb, hF⟩ := F w mg fa _ (hY w _ Y) Gr.T.g hmg
  exact law_G (hY w _ Y) Gr.T.g Gr.T.b Gr.T.builtins Gr.T.nolimit hgens hobj hints (Nat.le_trans hlen hn2) hr hF hb fun H hS => hsp _ H a ns hlen hS
end Dl
set_option maxHeartbeats 400000
namespace Dl
open PySem PySem.Spec L2
open PyProof.Rows (envOfC)

/-! ### what a def does, on data -/
inductive Out where
  | ok (v : Sv) (o : List D)
  | raise (c : Nat) (o : List D)
  | stuck
abbrev Fn := List Sv → Out
/-- behind a call: what stood stands, but for the list that was handed over by reference -/
structure FExt (K : PySem.W.Frag) (G H : Hp) (r : Option Addr) (out : List D) (G' H' : Hp) : Prop where
  g : Same G G'
  le : Same G' H'
  h : ∀ a o, H a = some o → r ≠ some a → H' a = some o
  new : ∀ a o, G' a = some o → G a = some o ∨ H a = none
  ref : ∀ a, r = some a → G' a = none ∧ ∃ xs, H' a = some (.lst xs) ∧ DaAll K G' xs out
def RepA (K : PySem.W.Frag) (cl : Nat → Addr) (G : Hp) (v : V) : Sv → Prop
  | .d x => Da K G v x
  | .ex c => ∃ a, v = .ref a ∧ G a = some (ExT (cl c) a)
  | .fz l => ∃ a xs, v = .ref a ∧ SqL K G a xs ∧ DaAll K G xs l
  | .ow _ => False
  | .rf _ => False
  | .px _ => False
/-- the arguments vs as svs; the list that is handed over by reference: its place, its address -/
structure ArgsOk (K : PySem.W.Frag) (cl : Nat → Addr) (G H : Hp) (vs : List V) (svs : List Sv) (r : Option (Nat × Addr)) : Prop where
  len : vs.length = svs.length
  val : ∀ (i : Nat) (sv : Sv), svs[i]? = some sv → (∀ l, sv ≠ .rf l) → ∃ v, vs[i]? = some v ∧ RepA K cl G v sv
  ref : ∀ (i : Nat) (l : List D), svs[i]? = some (.rf l) → ∃ a xs, r = some (i, a) ∧ vs[i]? = some (.ref a) ∧ H a = some (.lst xs) ∧ G a = none ∧ DaAll K G xs l
  has : ∀ p, r = some p → ∃ l, svs[p.1]? = some (.rf l)
def RepF (K : PySem.W.Frag) (cl : Nat → Addr) (H G' H' : Hp) (v : V) : Sv → Prop
  | .d x => Da K G' v x
  | .ow l => ∃ a xs, v = .ref a ∧ H' a = some (.lst xs) ∧ G' a = none ∧ H a = none ∧ DaAll K G' xs l
  | .ex c => ∃ a, v = .ref a ∧ G' a = some (ExT (cl c) a)
  | .px c => ∃ a e, v = .ref a ∧ SqT K G' a [.non, .ref e] ∧ G' e = some (ExT (cl c) e)
  | .fz l => ∃ a xs, v = .ref a ∧ SqL K G' a xs ∧ DaAll K G' xs l
  | .rf _ => False
def PostF (K : PySem.W.Frag) (cl : Nat → Addr) (G H : Hp) (r : Option Addr) (Q : VK) (E : XK) : Out → Prop
  | .ok sv out => ∀ v G' H', FExt K G H r out G' H' → RepF K cl H G' H' v sv → Q v H'
  | .raise c out => ∀ G' H', FExt K G H r out G' H' → E (.ref (cl c)) none H'
  | .stuck => False
/-- the promise of a def that does F, of n parameters -/
def spF (K : PySem.W.Frag) (cl : Nat → Addr) (F : Fn) (n : Nat) : Sp := fun vs H Q E => vs.length = n ∧ ∃ G svs r, Same G H ∧ ArgsOk K cl G H vs svs r ∧ PostF K cl G H (r.map (·.2)) Q E (F svs)

/-! ### a def's body -/
def rfOf : Ev → List D
  | [] => []
  | some (.rf l) :: _ => l
  | _ :: ρ => rfOf ρ
/-- a def of n slots whose body does f -/
def runF (n : Nat) (f : Ev → RS) : Fn := fun svs => match f (svs.map some ++ List.replicate (n - svs.length) none) with
  | .ret sv ρ => .ok sv (rfOf ρ)
  | .next ρ => .ok (.d .none) (rfOf ρ)
  | .raise c ρ => .raise c (rfOf ρ)
  | _ => .stuck
section
variable {K : PySem.W.Frag} {cl : Nat → Addr} {G H G' H' : Hp} {σ : St} {ρ : Ev}
theorem ArgsOk.nil : ArgsOk K cl G H [] [] none := ⟨rfl, fun i sv e => by simp at e, fun i l e => by simp at e, fun p e => nomatch e⟩
def shift (r : Option (Nat × Addr)) : Option (Nat × Addr) := r.map fun p => (p.1 + 1, p.2)
theorem shift_snd (r : Option (Nat × Addr)) : (shift r).map (·.2) = r.map (·.2) := by cases r <;> rfl
theorem ArgsOk.cons {v : V} {sv : Sv} {vs : List V} {svs : List Sv} {r : Option (Nat × Addr)} (h : RepA K cl G v sv) (t : ArgsOk K cl G H vs svs r) : ArgsOk K cl G H (v :: vs) (sv :: svs) (shift r) := by
  refine ⟨by rw [List.length_cons, List.length_cons, t.len], fun i s e n => ?_, fun i l e => ?_, fun p e => ?_⟩
  · cases i with
    | zero => simp at e; subst e; exact ⟨v, rfl, h⟩
    | succ i =>
      obtain ⟨u, h1, h2⟩ := t.val i s (by simpa using e) n
      exact ⟨u, by simpa using h1, h2⟩
  · cases i with
    | zero => simp at e; subst e; exact h.elim
    | succ i =>
      obtain ⟨a, xs, h1, h2, h3⟩ := t.ref i l (by simpa using e)
      exact ⟨a, xs, by rw [h1]; rfl, by simpa using h2, h3⟩
  · cases r with
    | none => cases e
    | some q =>
      cases e
      obtain ⟨l, h1⟩ := t.has q rfl
      exact ⟨l, by simpa using h1⟩
theorem ArgsOk.consR {a : Addr} {xs : List V} {l : List D} {vs : List V} {svs : List Sv} (ha : H a = some (.lst xs)) (ga : G a = none) (hx : DaAll K G xs l) (t : ArgsOk K cl G H vs svs none) : ArgsOk K cl G H (.ref a :: vs) (.rf l :: svs) (some (0, a)) := by
  refine ⟨by rw [List.length_cons, List.length_cons, t.len], fun i s e n => ?_, fun i m e => ?_, fun p e => ?_⟩
  · cases i with
    | zero => simp at e; exact absurd e.symm (n l)
    | succ i =>
      obtain ⟨u, h1, h2⟩ := t.val i s (by simpa using e) n
      exact ⟨u, by simpa using h1, h2⟩
  · cases i with
    | zero => simp at e; subst e; exact ⟨a, xs, rfl, rfl, ha, ga, hx⟩
    | succ i =>
      obtain ⟨c, ys, h1, _⟩ := t.ref i m (by simpa using e)
      cases h1
  · cases e; exact ⟨l, rfl⟩
def bxOf (cl : Nat → Addr) (G H : Hp) (r : Option (Nat × Addr)) : Bx := { cl := cl, G0 := G, H0 := H, B := r.toList, T := fun _ => none }
theorem in_bx {r : Option (Nat × Addr)} {p : Nat × Addr} (h : p ∈ (bxOf cl G H r).B) : r = some p := by
  cases r with
  | none => exact absurd h List.not_mem_nil
  | some q => rw [List.mem_singleton.mp h]
theorem bx_in {p : Nat × Addr} : p ∈ (bxOf cl G H (some p)).B := List.mem_singleton_self _
theorem start_at {N : List Str} {vs : List V} {i : Nat} {v : V} (h : vs[i]? = some v) : (L2.start N vs)[i]? = some (some v) := by
  unfold L2.start
  rw [List.getElem?_append_left (by rw [List.length_map]; exact (List.getElem?_eq_some_iff.mp h).1), List.getElem?_map, h]
  rfl
theorem env_at {svs : List Sv} {m i : Nat} {sv : Sv} (h : (svs.map some ++ List.replicate m (none : Option Sv))[i]? = some (some sv)) : svs[i]? = some sv := by
  by_cases hi : i < svs.length
  · rw [List.getElem?_append_left (by rw [List.length_map]; exact hi), List.getElem?_map] at h
    cases e : svs[i]? with
    | none => rw [e] at h; cases h
    | some x => rw [e] at h; cases h; rfl
  · rw [List.getElem?_append_right (by rw [List.length_map]; omega), List.getElem?_replicate] at h
    split at h <;> cases h
theorem rel_start {N : List Str} {vs : List V} {svs : List Sv} {r : Option (Nat × Addr)} (s : Same G H) (A : ArgsOk K cl G H vs svs r) : Rel K (bxOf cl G H r) G H (L2.start N vs) (svs.map some ++ List.replicate (N.length - svs.length) none) := by
  have noOw : ∀ {i : Nat} {l : List D}, svs[i]? ≠ some (.ow l) := fun {i l} e => by
    obtain ⟨v, h1, h2⟩ := A.val i _ e (fun l z => nomatch z)
    exact h2
  have rfs : ∀ {i : Nat} {a : Addr}, Owns (L2.start N vs) (svs.map some ++ List.replicate (N.length - svs.length) none) i a → ∃ l, svs[i]? = some (.rf l) := fun {i a} ⟨_, l, h4⟩ => by
    rcases h4 with h4 | h4
    · exact absurd (env_at h4) noOw
    · exact ⟨l, env_at h4⟩
  refine ⟨s, ?_, fun i sv q => ?_, fun i j a h1 h2 => ?_, fun a o h _ => h, Same.refl _, fun a o h => .inl h, fun p hp => ?_, fun a o h => nomatch h⟩
  · unfold L2.start
    rw [List.length_append, List.length_append, List.length_map, List.length_map, List.length_replicate, List.length_replicate, A.len]
  · have q := env_at q
    cases sv with
    | ow l => exact absurd q noOw
    | rf l =>
      obtain ⟨a, xs, e1, e2, e3, e4, e5⟩ := A.ref i l q
      subst e1
      exact ⟨_, start_at e2, a, xs, rfl, e3, e4, bx_in, e5⟩
    | d x => obtain ⟨v, h1, h2⟩ := A.val i _ q (fun l z => nomatch z); exact ⟨v, start_at h1, h2⟩
    | ex c => obtain ⟨v, h1, h2⟩ := A.val i _ q (fun l z => nomatch z); exact ⟨v, start_at h1, h2⟩
    | px c => obtain ⟨v, h1, h2⟩ := A.val i _ q (fun l z => nomatch z); exact h2.elim
    | fz l => obtain ⟨v, h1, h2⟩ := A.val i _ q (fun l z => nomatch z); exact ⟨v, start_at h1, h2⟩
  · obtain ⟨l, q1⟩ := rfs h1
    obtain ⟨m, q2⟩ := rfs h2
    obtain ⟨a1, _, e1, _⟩ := A.ref i l q1
    obtain ⟨a2, _, e2, _⟩ := A.ref j m q2
    rw [e1] at e2
    cases e2
    rfl
  · have e := in_bx hp
    obtain ⟨l, h1⟩ := A.has p e
    obtain ⟨a, xs, e1, e2, _⟩ := A.ref _ _ h1
    rw [e] at e1
    have e1 := Option.some.inj e1
    refine ⟨l, start_at (by rw [e2, e1]), ?_⟩
    rw [List.getElem?_append_left (by rw [List.length_map]; exact (List.getElem?_eq_some_iff.mp h1).1), List.getElem?_map, h1]
    rfl
theorem rfOf_at : ∀ {ρ : Ev} {i : Nat} {l : List D}, ρ[i]? = some (some (.rf l)) → (∀ (j : Nat) (m : List D), ρ[j]? = some (some (.rf m)) → j = i) → rfOf ρ = l
  | [], i, l, h, _ => by simp at h
  | o :: ρ, 0, l, h, _ => by
    have e : o = some (.rf l) := by simpa using h
    subst e
    rfl
  | o :: ρ, i + 1, l, h, u => by
    have ih := rfOf_at (ρ := ρ) (i := i) (l := l) (by simpa using h) fun j m hj => by
      have := u (j + 1) m (by simpa using hj)
      omega
    cases o with
    | none => exact ih
    | some sv =>
      cases sv with
      | rf m => have := u 0 m rfl; omega
      | _ => exact ih
/-- at the body's end: what the callers are told -/
theorem rel_end {r : Option (Nat × Addr)} (h : Rel K (bxOf cl G H r) G' H' σ ρ) : FExt K G H (r.map (·.2)) (rfOf ρ) G' H' := by
  refine ⟨h.base, h.le, fun a o ha hr => h.keep a o ha fun p hp e => ?_, h.fresh, fun a hr => ?_⟩
  · have := in_bx hp
    subst this
    exact hr (by rw [← e]; rfl)
  · cases r with
    | none => cases hr
    | some p =>
      cases hr
      obtain ⟨m, h1, h2⟩ := h.byr _ bx_in
      obtain ⟨v, h3, a', xs, e2, h4, h5, h6, h7⟩ := h.slot _ _ h2
      rw [h1] at h3; cases h3; cases e2
      refine ⟨h5, xs, h4, ?_⟩
      rw [rfOf_at h2 fun k m' hk => ?_]
      · exact h7
      · obtain ⟨v', g3, a'', xs', g2, g4, g5, g6, g7⟩ := h.slot _ _ hk
        have z := in_bx g6
        cases z
        rfl
theorem rep_end {r : Option (Nat × Addr)} {v : V} {sv : Sv} (d : RepT K (bxOf cl G H r) G' H' σ ρ v sv) : RepF K cl H G' H' v sv := by
  cases sv with
  | d x => exact d
  | ow l => obtain ⟨a, xs, e, h1, h2, h3, h4, h5, h6⟩ := d; exact ⟨a, xs, e, h1, h2, h3, h6⟩
  | rf l => exact d
  | ex c => exact d
  | px c => exact d
  | fz l => exact d
end
section
variable {P : Program} {w : World} {K : PySem.W.Frag} {mg : Str → Option Value} {base : Heap}
/-- the wish of a def about what leaves it -/
abbrev WD (E : XK) : WX := fun cls d _ H => E cls d H
/-- THE RULE of a def: its body does f, so it keeps the promise of runF f -/
theorem fn_zero {f : Addr} {fd : FuncData} {ps : List Str} {cl : Nat → Addr} : FnG P w K mg base 0 f fd ps (spF K cl (fun _ => .stuck) ps.length) :=
  ⟨fun vs H Q E h => h.1, fun _ _ _ _ _ _ _ _ _ _ _ _ _ _ h => by obtain ⟨_, _, _, _, _, _, q⟩ := h; exact q.elim⟩
theorem fn_body {x qual : Str} {st : Stmt} {f : Addr} {fd : FuncData} {N ps : List Str} {k : Nat} {cl : Nat → Addr} {fb : Ev → RS} (F : Fun K x qual st f fd) (S : FnScope N ps (defScope st))
    (hbody : ∀ (cdv : Value) (A : Around) (outer : List Env) (s : Shared) (H : Hp) (E : XK) (b : Bx), A.guards = some [] → Room k (A.deeper (envOfC qual (defScope st) s.heap.objs.size f cdv)) → b.cl = cl →
      PSs (cxOf (L2.CX P w) P w K mg base N qual (defScope st) f cdv A outer s H E) (defBody st) (tS K b (WD E) fb)) :
    FnG P w K mg base (k + 1) f fd ps (spF K cl (runF N.length fb) ps.length) := by
  refine fn_G F S (fun vs H Q E h => h.1) fun cdv A outer s H vs Q E hg hr h => ?_
  obtain ⟨hl, G, svs, r, sm, ao, hq⟩ := h
  refine ⟨_, hbody cdv A outer s H E (bxOf cl G H r) hg hr rfl, _, G, rel_start sm ao, ?_⟩
  unfold runF at hq
  cases e : fb (svs.map some ++ List.replicate (N.length - svs.length) none) with
  | next ρ => rw [e] at hq; exact fun σ' G' H' r' s' => hq .non G' H' (rel_end r') .non
  | ret sv ρ => rw [e] at hq; exact fun v σ' G' H' r' s' d' => hq v G' H' (rel_end r') (rep_end d')
  | brk ρ => rw [e] at hq; exact hq.elim
  | cnt ρ => rw [e] at hq; exact hq.elim
  | raise c ρ => rw [e] at hq; exact fun σ' G' H' r' s' => hq G' H' (rel_end r')
  | stuck => rw [e] at hq; exact hq.elim
end

/-! ### calls -/
inductive Ar where
  | v (f : Ev → RE)
  | r (i : Nat)
inductive AV where
  | dat (x : D)
  | ex (c : Nat)
  | fz (l : List D)
  | rf (i : Nat)
def runArgs : List Ar → Ev → (List AV → Ev → RE) → RE
  | [], ρ, k => k [] ρ
  | .v f :: as, ρ, k => match f ρ with
    | .ok (.d x) ρ1 => runArgs as ρ1 fun xs => k (.dat x :: xs)
    | .ok (.ow l) ρ1 => runArgs as ρ1 fun xs => k (.dat (.list l) :: xs)
    | .ok (.ex c) ρ1 => runArgs as ρ1 fun xs => k (.ex c :: xs)
    | .ok (.fz l) ρ1 => runArgs as ρ1 fun xs => k (.fz l :: xs)
    | .ok (.rf _) _ => .stuck
    | .ok (.px _) _ => .stuck
    | .raise c ρ1 => .raise c ρ1
    | .stuck => .stuck
  | .r i :: as, ρ, k => match ownAt ρ i with
    | some _ => runArgs as ρ fun xs => k (.rf i :: xs)
    | none => .stuck
def VwA (K : PySem.W.Frag) (b : Bx) (G : Hp) (σ : St) (v : V) : AV → Prop
  | .dat x => Da K G v x
  | .ex c => ∃ a, v = .ref a ∧ G a = some (ExT (b.cl c) a)
  | .fz l => ∃ a xs, v = .ref a ∧ SqL K G a xs ∧ DaAll K G xs l
  | .rf i => σ[i]? = some (some v)
def tArgs (K : PySem.W.Frag) (b : Bx) (W : WX) : List Ar → TA
  | [] => tNil
  | .v f :: as => tCons (tE K b W f) (tArgs K b W as)
  | .r i :: as => tCons (tVar i) (tArgs K b W as)
inductive VwAs (K : PySem.W.Frag) (b : Bx) (G : Hp) (σ : St) : List V → List AV → Prop
  | nil : VwAs K b G σ [] []
  | cons {v : V} {a : AV} {vs : List V} {as : List AV} : VwA K b G σ v a → VwAs K b G σ vs as → VwAs K b G σ (v :: vs) (a :: as)
section
variable {X : Cx} {b : Bx} {W : WX} {K : PySem.W.Frag} {G G1 H : Hp} {σ : St} {ρ : Ev}
theorem VwA.mono (s : Same G G1) {v : V} {a : AV} (h : VwA K b G σ v a) : VwA K b G1 σ v a := by
  cases a with
  | dat x => exact Da.mono s h
  | ex c => obtain ⟨a, e, q⟩ := h; exact ⟨a, e, s _ _ q⟩
  | fz l => obtain ⟨a, xs, e, q1, q2⟩ := h; exact ⟨a, xs, e, s.seq q1, DaAll.mono s q2⟩
  | rf i => exact h
theorem stepArgs : ∀ (as : List Ar) {G H : Hp} {ρ : Ev} {Q : VK} {k : List AV → Ev → RE} (r : Rel K b G H σ ρ) (h : PostE K b W G σ Q (runArgs as ρ k)) {R : List V → Hp → Prop}
    (hR : ∀ vs H1 ρ1 G1 xs, Rel K b G1 H1 σ ρ1 → Same G G1 → VwAs K b G1 σ vs xs → PostE K b W G1 σ Q (k xs ρ1) → R vs H1), tArgs K b W as σ H R
  | [], G, H, ρ, Q, k, r, h, R, hR => hR [] H ρ G [] r (Same.refl _) .nil h
  | .v f :: as, G, H, ρ, Q, k, r, h, R, hR => by
    show tE K b W f σ H _
    refine ⟨ρ, G, r, ?_⟩
    cases e : f ρ with
    | stuck => simp only [runArgs, e] at h; exact h
    | raise c ρ1 => simp only [runArgs, e] at h; exact h
    | ok sv ρ1 =>
      intro v G1 H1 r1 s1 d1
      have go : ∀ {av : AV} {G2 : Hp}, Rel K b G2 H1 σ ρ1 → Same G1 G2 → VwA K b G2 σ v av → PostE K b W G σ Q (runArgs as ρ1 fun xs => k (av :: xs)) → tArgs K b W as σ H1 fun vs H2 => R (v :: vs) H2 := fun {av G2} r2 s2 d2 q => by
        refine stepArgs as r2 (PostE.mono (s1.trans s2) q) fun vs H3 ρ3 G3 xs r3 s3 d3 q3 => ?_
        exact hR (v :: vs) H3 ρ3 G3 (av :: xs) r3 ((s1.trans s2).trans s3) (.cons (d2.mono s3) d3) q3
      cases sv with
      | d x => simp only [runArgs, e] at h; exact go (av := .dat x) r1 (Same.refl _) d1 h
      | ow l =>
        simp only [runArgs, e] at h
        obtain ⟨G2, r2, s2, d2⟩ := r1.pub d1 rfl
        exact go (av := .dat (.list l)) r2 s2 d2 h
      | rf l => exact d1.elim
      | ex c => simp only [runArgs, e] at h; exact go (av := .ex c) r1 (Same.refl _) d1 h
      | px c => simp only [runArgs, e] at h; exact h.elim
      | fz l => simp only [runArgs, e] at h; exact go (av := .fz l) r1 (Same.refl _) d1 h
  | .r i :: as, G, H, ρ, Q, k, r, h, R, hR => by
    cases e : ownAt ρ i with
    | none => simp only [runArgs, e] at h; exact h.elim
    | some l =>
      simp only [runArgs, e] at h
      obtain ⟨a, xs, hσ, _⟩ := r.owned e
      refine ⟨_, hσ, ?_⟩
      show tArgs K b W as σ H _
      refine stepArgs as r h fun vs H3 ρ3 G3 xs r3 s3 d3 q3 => ?_
      exact hR (.ref a :: vs) H3 ρ3 G3 (.rf i :: xs) r3 s3 (.cons hσ d3) q3
/-- the arguments as the callee sees them -/
def seen (ρ : Ev) : List AV → Option (List Sv)
  | [] => some []
  | .dat x :: as => (seen ρ as).map (.d x :: ·)
  | .ex c :: as => (seen ρ as).map (.ex c :: ·)
  | .fz l :: as => (seen ρ as).map (.fz l :: ·)
  | .rf i :: as => match ownAt ρ i with
    | some l => (seen ρ as).map (.rf l :: ·)
    | none => none
def refs : List AV → List Nat
  | [] => []
  | .rf i :: as => i :: refs as
  | _ :: as => refs as
def putR (ρ : Ev) (is : List Nat) (out : List D) : Ev := match is with
  | i :: _ => putL ρ i out
  | [] => ρ
def fCall (F : Fn) (as : List Ar) : Ev → RE := fun ρ => runArgs as ρ fun xs ρ1 => match seen ρ1 xs with
  | none => .stuck
  | some svs => if (refs xs).length ≤ 1 then match F svs with
    | .ok sv out => .ok sv (putR ρ1 (refs xs) out)
    | .raise c out => .raise c (putR ρ1 (refs xs) out)
    | .stuck => .stuck
    else .stuck
theorem args_ok : ∀ {vs : List V} {xs : List AV} {svs : List Sv}, Rel K b G H σ ρ → VwAs K b G σ vs xs → seen ρ xs = some svs → (refs xs).length ≤ 1 →
    ∃ r, ArgsOk K b.cl G H vs svs r ∧ ((r = none ∧ refs xs = []) ∨ ∃ i k a, r = some (k, a) ∧ refs xs = [i] ∧ Owns σ ρ i a)
  | _, _, svs, r, .nil, e, _ => by cases e; exact ⟨none, .nil, .inl ⟨rfl, rfl⟩⟩
  | v :: vs, x :: xs, svs, r, .cons h t, e, hl => by
    have go : ∀ {sv : Sv} {ss : List Sv}, RepA K b.cl G v sv → seen ρ xs = some ss → (refs xs).length ≤ 1 → ∃ r, ArgsOk K b.cl G H (v :: vs) (sv :: ss) r ∧ ((r = none ∧ refs xs = []) ∨ ∃ i k a, r = some (k, a) ∧ refs xs = [i] ∧ Owns σ ρ i a) := fun {sv ss} h q hl => by
      obtain ⟨p, h1, h2⟩ := args_ok r t q hl
      refine ⟨shift p, .cons h h1, ?_⟩
      rcases h2 with ⟨rfl, h3⟩ | ⟨i, k, a, rfl, h3⟩
      · exact .inl ⟨rfl, h3⟩
      · exact .inr ⟨i, k + 1, a, rfl, h3⟩
    cases x with
    | dat x =>
      cases q : seen ρ xs with
      | none => simp only [seen, q] at e; cases e
      | some ss => simp only [seen, q] at e; cases e; exact go (sv := .d x) h q hl
    | ex c =>
      cases q : seen ρ xs with
      | none => simp only [seen, q] at e; cases e
      | some ss => simp only [seen, q] at e; cases e; exact go (sv := .ex c) h q hl
    | fz l =>
      cases q : seen ρ xs with
      | none => simp only [seen, q] at e; cases e
      | some ss => simp only [seen, q] at e; cases e; exact go (sv := .fz l) h q hl
    | rf i =>
      cases q0 : ownAt ρ i with
      | none => simp only [seen, q0] at e; cases e
      | some l =>
        cases q : seen ρ xs with
        | none => simp only [seen, q0, q] at e; cases e
        | some ss =>
          simp only [seen, q0, q] at e; cases e
          have hl : (refs xs).length + 1 ≤ 1 := hl
          have h0 : refs xs = [] := List.eq_nil_of_length_eq_zero (by omega)
          obtain ⟨a, ys, hσ, ha, ga, hx, ho⟩ := r.owned q0
          have hv : σ[i]? = some (some v) := h
          rw [hσ] at hv; cases hv
          obtain ⟨p, h1, h2⟩ := args_ok r t q (by omega)
          rcases h2 with ⟨rfl, _⟩ | ⟨j, k, c, _, h3, _⟩
          · exact ⟨_, .consR ha ga hx h1, .inr ⟨i, 0, a, rfl, by show i :: refs xs = [i]; rw [h0], ho⟩⟩
          · rw [h0] at h3; cases h3
/-- behind the call -/
theorem rel_after {i : Option (Nat × Addr)} {out : List D} {G' H' : Hp} (r : Rel K b G H σ ρ) (hi : ∀ p, i = some p → Owns σ ρ p.1 p.2) (h : FExt K G H (i.map (·.2)) out G' H') :
    Rel K b G' H' σ (putR ρ (i.toList.map (·.1)) out) := by
  -- a heap between: all that stood, and what is new
  have hn : ∀ {a : Addr} {o : HO}, H a = some o → G a = none → G' a = none := fun {a o} ha ga => by
    cases q : G' a with
    | none => rfl
    | some u => rcases h.new a u q with z | z
                · rw [ga] at z; cases z
                · rw [ha] at z; cases z
  cases i with
  | none => exact r.ext ⟨h.g, fun a o q => h.h a o q (by simp), h.le, h.new⟩
  | some p =>
    obtain ⟨j, a⟩ := p
    have ho := hi _ rfl
    obtain ⟨ga', xs, ha', hx'⟩ := h.ref a rfl
    obtain ⟨hσ, l0, hρ0⟩ := ho
    -- the state where the list at a is as it was: then it is written
    have hold : ∃ ys, H a = some (.lst ys) := by
      rcases hρ0 with z | z <;> (obtain ⟨v, h1, c, ys, e1, h2, _⟩ := r.slot _ _ z; rw [hσ] at h1; cases h1; cases e1; exact ⟨ys, h2⟩)
    obtain ⟨ys, hys⟩ := hold
    have ga : G a = none := by
      rcases hρ0 with z | z <;> (obtain ⟨v, h1, c, ys, e1, h2, h3, _⟩ := r.slot _ _ z; rw [hσ] at h1; cases h1; cases e1; exact h3)
    have r1 : Rel K b G' (upd H' a (.lst ys)) σ ρ := r.ext ⟨h.g, fun c o q => by
        by_cases e : c = a
        · subst e; rw [upd_same]; rw [hys] at q; exact q
        · rw [upd_ne e]; exact h.h c o q (fun z => e (Option.some.inj z).symm), fun c o q => by
        rw [upd_ne (ne_of_none q ga')]; exact h.le c o q, h.new⟩
    have r2 := r1.write (i := j) ⟨hσ, l0, hρ0⟩ hx'
    rw [upd_upd] at r2
    have e : upd H' a (.lst xs) = H' := by
      funext c
      by_cases e : c = a
      · subst e; rw [upd_same, ha']
      · rw [upd_ne e]
    rw [e] at r2
    exact r2
theorem rep_after {i : Option (Nat × Addr)} {out : List D} {G' H' : Hp} {v : V} {sv : Sv} (r : Rel K b G H σ ρ) (hi : ∀ p, i = some p → Owns σ ρ p.1 p.2) (h : FExt K G H (i.map (·.2)) out G' H') (d : RepF K b.cl H G' H' v sv) :
    RepT K b G' H' σ (putR ρ (i.toList.map (·.1)) out) v sv := by
  cases sv with
  | d x => exact d
  | rf l => exact d
  | ex c => exact d
  | px c => exact d
  | fz l => exact d
  | ow l =>
    obtain ⟨a, xs, e, h1, h2, h3, h4⟩ := d
    refine ⟨a, xs, e, h1, h2, r.h0 h3, r.t0 h3, fun j z => ?_, h4⟩
    have z' : Owns σ ρ j a := by
      obtain ⟨z1, m, z2⟩ := z
      cases i with
      | none => exact ⟨z1, m, z2⟩
      | some p =>
        obtain ⟨k, c⟩ := p
        have z2 : (putL ρ k out)[j]? = some (some (.ow m)) ∨ (putL ρ k out)[j]? = some (some (.rf m)) := z2
        by_cases e : j = k
        · subst e
          obtain ⟨g1, l0, g2⟩ := hi _ rfl
          exact ⟨z1, l0, g2⟩
        · refine ⟨z1, m, ?_⟩
          unfold putL at z2
          split at z2
          · rw [List.getElem?_set_ne (Ne.symm e)] at z2; exact z2
          · rw [List.getElem?_set_ne (Ne.symm e)] at z2; exact z2
          · exact z2
    obtain ⟨z1, m, z2⟩ := z'
    rcases z2 with z2 | z2 <;> (obtain ⟨v, q1, c, ys, e1, q2, _⟩ := r.slot _ _ z2; rw [z1] at q1; cases q1; cases e1; rw [h3] at q2; cases q2)
theorem vwas_len : ∀ {vs : List V} {as : List AV}, VwAs K b G σ vs as → vs.length = as.length
  | _, _, .nil => rfl
  | _, _, .cons _ t => by rw [List.length_cons, List.length_cons, vwas_len t]
/-- as many values as arguments -/
theorem run_len : ∀ (as : List Ar) {ρ : Ev} {k : List AV → Ev → RE} {Q : VK}, PostE K b W G σ Q (runArgs as ρ k) → PostE K b W G σ Q (runArgs as ρ fun xs ρ1 => if xs.length = as.length then k xs ρ1 else .stuck)
  | [], ρ, k, Q, h => by
    show PostE K b W G σ Q (if ([] : List AV).length = ([] : List Ar).length then k [] ρ else .stuck)
    have e : (if ([] : List AV).length = ([] : List Ar).length then k [] ρ else RE.stuck) = k [] ρ := if_pos rfl
    rw [e]; exact h
  | .v f :: as, ρ, k, Q, h => by
    have e2 : ∀ {av : AV} {ρ1 : Ev}, PostE K b W G σ Q (runArgs as ρ1 fun xs => k (av :: xs)) → PostE K b W G σ Q (runArgs as ρ1 fun xs ρ2 => if (av :: xs).length = (Ar.v f :: as).length then k (av :: xs) ρ2 else .stuck) := fun {av ρ1} q => by
      have z := run_len as q
      have e3 : (fun (xs : List AV) (ρ2 : Ev) => if (av :: xs).length = (Ar.v f :: as).length then k (av :: xs) ρ2 else RE.stuck) = fun xs ρ2 => if xs.length = as.length then k (av :: xs) ρ2 else .stuck := by
        funext xs ρ2
        rw [List.length_cons, List.length_cons]
        by_cases c : xs.length = as.length
        · rw [if_pos c, if_pos (by rw [c])]
        · rw [if_neg c, if_neg (by omega)]
      rw [e3]; exact z
    cases e : f ρ with
    | stuck => simp only [runArgs, e] at h; exact h.elim
    | raise c ρ1 => simp only [runArgs, e] at h ⊢; exact h
    | ok sv ρ1 =>
      cases sv with
      | d x => simp only [runArgs, e] at h ⊢; exact e2 h
      | ow l => simp only [runArgs, e] at h ⊢; exact e2 h
      | rf l => simp only [runArgs, e] at h; exact h.elim
      | ex c => simp only [runArgs, e] at h ⊢; exact e2 h
      | px c => simp only [runArgs, e] at h; exact h.elim
      | fz l => simp only [runArgs, e] at h ⊢; exact e2 h
  | .r i :: as, ρ, k, Q, h => by
    cases e : ownAt ρ i with
    | none => simp only [runArgs, e] at h; exact h.elim
    | some l =>
      simp only [runArgs, e] at h ⊢
      have z := run_len as h
      have e3 : (fun (xs : List AV) (ρ2 : Ev) => if (AV.rf i :: xs).length = (Ar.r i :: as).length then k (.rf i :: xs) ρ2 else RE.stuck) = fun xs ρ2 => if xs.length = as.length then k (.rf i :: xs) ρ2 else .stuck := by
        funext xs ρ2
        rw [List.length_cons, List.length_cons]
        by_cases c : xs.length = as.length
        · rw [if_pos c, if_pos (by rw [c])]
        · rw [if_neg c, if_neg (by omega)]
      rw [e3]; exact z
theorem call_post {F : Fn} {as : List Ar} {n : Nat} (hn : as.length = n) : ∀ σ H Q, tE K b W (fCall F as) σ H Q → tCallS (spF K b.cl F n) (WE W) (tArgs K b W as) σ H Q := by
  rintro σ H Q ⟨ρ, G, r, q⟩
  refine stepArgs as r (run_len as q) fun vs H1 ρ1 G1 xs r1 s1 d1 q1 => ?_
  obtain ⟨hx, q1⟩ := postE_if q1
  cases e : seen ρ1 xs with
  | none => simp only [e] at q1; exact q1.elim
  | some svs =>
    simp only [e] at q1
    obtain ⟨hc, q1⟩ := postE_if q1
    obtain ⟨p, ao, hp⟩ := args_ok r1 d1 e hc
    refine ⟨by rw [vwas_len d1, hx]; exact hn, G1, svs, p, r1.le, ao, ?_⟩
    -- the slot of the reference
    have key : ∃ i : Option (Nat × Addr), p.map (·.2) = i.map (·.2) ∧ refs xs = i.toList.map (·.1) ∧ ∀ q, i = some q → Owns σ ρ1 q.1 q.2 := by
      rcases hp with ⟨rfl, h3⟩ | ⟨i, k, a, rfl, h3, h4⟩
      · exact ⟨none, rfl, h3, fun q z => nomatch z⟩
      · exact ⟨some (i, a), rfl, h3, fun q z => by cases z; exact h4⟩
    obtain ⟨i, ei, er, hi⟩ := key
    rw [ei]
    cases ef : F svs with
    | stuck => rw [ef] at q1; exact q1
    | raise c out =>
      rw [ef] at q1
      intro G2 H2 x2
      have r3 := rel_after r1 hi x2
      rw [← er] at r3
      exact q1 G2 H2 r3 x2.g
    | ok sv out =>
      rw [ef] at q1
      intro v G2 H2 x2 d2
      have r3 := rel_after r1 hi x2
      have d3 := rep_after r1 hi x2 d2
      rw [← er] at r3 d3
      exact q1 v G2 H2 r3 x2.g d3
theorem ar_nil : PA X [] (tArgs X.K b W []) := pa_nil
theorem ar_v {e : Expr} {es : List Expr} {f : Ev → RE} {as : List Ar} (h : PE X e (tE X.K b W f)) (t : PA X es (tArgs X.K b W as)) (hs : starEach (e :: es) X.env = (false, eval e X.env) :: starEach es X.env := by rfl) : PA X (e :: es) (tArgs X.K b W (.v f :: as)) := pa_cons h t hs
theorem ar_r {e : Expr} {es : List Expr} {i : Nat} {as : List Ar} (h : PE X e (tVar i)) (t : PA X es (tArgs X.K b W as)) (hs : starEach (e :: es) X.env = (false, eval e X.env) :: starEach es X.env := by rfl) : PA X (e :: es) (tArgs X.K b W (.r i :: as)) := pa_cons h t hs
/-- what a call may let out where the wish is W -/
def Lets (X : Cx) (W : WX) : Prop := ∀ σ, PassesAt (L2.CX X.prog X.w) X σ (WE W σ)
theorem lets_of (tk : Takes X W) : Lets X W := fun σ => passAt tk σ
theorem lets0 : Lets X W0 := fun σ pins H s e s' I c => by
  obtain ⟨_, _, _, _, _, _, _, _, _, _, _, _, z⟩ := c
  exact z.elim
theorem e_call {x : Str} {p pos : Pos} {e : Expr} {es : List Expr} {F : Fn} {as : List Ar} {k n : Nat} {f : Addr} {fd : FuncData} {ps : List Str} {cl : Nat → Addr} (hcl : b.cl = cl) (hF : FnG X.prog X.w X.K X.mg X.base k f fd ps (spF X.K cl F n)) (gd : X.A.guards = some []) (hr : Room k X.A) (hg : Gl X x) (hm : X.mg x = some (.ref f)) (hk : PySem.W.keepIn X.K (.ref f) = true) (hb : Binds X.K fd ps []) (hx : Lets X W)
    (ha : PA X (e :: es) (tArgs X.K b W as)) (hn : as.length = n := by rfl) (hdb : (x == ("__debug__" : Str)) = false := by decide) (he : starEach (e :: es) X.env = (false, eval e X.env) :: starEach es X.env := by rfl) (hpl : (backTo pos (starEach es X.env)).any (·.1) = false := by rfl) :
    PE X (.Call (.Name x p) (e :: es) [] pos) (tE X.K b W (fCall F as)) := by
  subst hcl
  exact PE.imp (pe_callG hF gd hr hg hm hk hb hx ha hdb he hpl) (call_post hn)
theorem e_call0 {x : Str} {p pos : Pos} {F : Fn} {k n : Nat} {f : Addr} {fd : FuncData} {ps : List Str} {cl : Nat → Addr} (hcl : b.cl = cl) (hF : FnG X.prog X.w X.K X.mg X.base k f fd ps (spF X.K cl F n)) (gd : X.A.guards = some []) (hr : Room k X.A) (hg : Gl X x) (hm : X.mg x = some (.ref f)) (hk : PySem.W.keepIn X.K (.ref f) = true) (hb : Binds X.K fd ps []) (hx : Lets X W)
    (hn : ([] : List Ar).length = n := by rfl) (hdb : (x == ("__debug__" : Str)) = false := by decide) :
    PE X (.Call (.Name x p) [] [] pos) (tE X.K b W (fCall F [])) := by
  subst hcl
  exact PE.imp (pe_callG0 hF gd hr hg hm hk hb hx hdb) (call_post hn)
end
end Dl
set_option maxHeartbeats 4000000
/-! DlT: raise; try with except as, the caught object stays known. -/
namespace Dl
open PySem PySem.Spec L2
section
variable {X : Cx} {b : Bx} {W : WX} {G G1 H : Hp} {σ : St} {ρ : Ev} {s : Shared} {pins : List (Addr × Obj)}
/-- an object that was not known is known from now on -/
theorem inv_track {a C : Addr} {oe : Obj} {vs : Array Value} (J : Inv X pins σ H s) (at_ : s.heap.get? a = some oe) (zc : Zc (.ref C) none oe) (fd : oe.data = .fields vs) (free : H a = none) (loc : a ≠ X.env.locals) (old : X.s_0.heap.get? a = none)
    (pn : ∀ p ∈ X.pn ++ pins, p.1 ≠ a) : Inv X pins σ (upd H a (ExT C a)) s := by
  have off : ∀ {c : Addr} {o : HO}, H c = some o → upd H a (ExT C a) c = some o := fun {c o} q => by rw [upd_ne (ne_of_none q free)]; exact q
  have non : ∀ {c : Addr}, c ≠ a → upd H a (ExT C a) c = H c := fun {c} q => upd_ne q
  refine ⟨J.ok, J.os, J.bare, ?_, J.loc, J.cell, ?_, fun x c e => ?_, fun p hp => ?_, ?_, J.len⟩
  · refine ⟨J.base.keep, J.base.slot, fun c o e n hx => ?_, J.base.there, fun c xs e => off (J.base.tups c xs e), fun c o u e => off (J.base.frzs c o u e), fun c ps e => ?_⟩
    · rw [non (fun z => by rw [z, old] at e; cases e)]
      exact J.base.free c o e n hx
    · obtain ⟨m, z⟩ := J.base.tbls c ps e
      exact ⟨m, off z⟩
  · rw [non (Ne.symm loc)]; exact J.free
  · rw [non ?_]
    · exact J.freeC x c e
    · intro z
      obtain ⟨v, o, g1, g2⟩ := J.cell x c e
      rw [z, at_] at g1
      cases g1
      rw [fd] at g2
      cases g2
  · obtain ⟨g1, g2, g3⟩ := J.pin p hp
    exact ⟨g1, by rw [non (pn p hp)]; exact g2, g3⟩
  · exact J.hok.laidN (fun _ _ q => q) free ⟨⟨oe, vs, at_, zc, fd⟩, ⟨oe, at_⟩, fun h1 h2 ⟨o, w, q1, q2⟩ k => ⟨o, w, k o q1, q2⟩⟩

/-! ### raise -/
def fRaise (c : Nat) : Ev → RS := fun ρ => .raise c ρ
/-- a class of the law's that may be raised as C("..") -/
structure RaiseOk (X : Cx) (x : Str) (C : Addr) : Prop where
  q : PySem.W.excIn X.K C [.type "ValueError", .type "Exception", .type "BaseException", .type "object"] "ValueError.__new__" = true
  gC : X.mg x = some (.ref C)
  kC : PySem.W.keepIn X.K (.ref C) = true
  r : Raises X (.ref C)
  hg : Gl X x
theorem s_raise {x m : Str} {j : Nat} {p p2 pos pos' : Pos} {cl : Nat → Addr} (c : Nat) (hcl : b.cl = cl) (hc : X.calm = true) (tk : Takes X W) (F : RaiseOk X x (cl c)) (hdb : (x == ("__debug__" : Str)) = false := by decide) :
    PS X (.Raise (some (.Call (.Name x p) [.Constant (.str m) j p2] [] pos)) none pos') (tS X.K b W (fRaise c)) := by
  subst hcl
  exact PS.imp (ps_raise hc tk (pmk_own PySem.F.excBase_ValueError F.q F.gC F.kC F.r F.hg hdb)) fun D σ H ⟨ρ, G, r, q⟩ => q σ G H r (Same.refl _)

/-! ### try .. except C as n -/
/-- what the clause wishes of what the body lets out -/
def wGot (K : PySem.W.Frag) (cv : Value) (i : Nat) (ts : TS) (Wo : WX) (D : Ends) : WX := fun cls d σ H => ∃ y, PySem.W.exmOne K cls cv = some y ∧
  (y = true → d = none ∧ ∃ C, cls = .ref C ∧ ∀ a, H a = none → ts { nx := fun σ' H' => D.nx (σ'.set i none) H', rt := D.rt, bk := fun σ' H' => D.bk (σ'.set i none) H', ct := fun σ' H' => D.ct (σ'.set i none) H' } (σ.set i (some (.ref a))) (upd H a (ExT C a))) ∧
  (y = false → Wo cls d σ H)
theorem ps_tryGot {x n : Str} {cv : Value} {i : Nat} {body rest : List Stmt} {st : Stmt} {np pos pos' : Pos} {tb : WX → TS} {ts : TS} (sk : X.stack = X.env :: X.outer) (fr : X.env.frame = some X.env.locals) (ex0 : X.ex = []) (nd : X.N.Nodup) (at_ : X.N[i]? = some n)
    (lc : X.env.kindOf n = some .local) (nm : Names X x cv) (tk : Takes X W)
    (hb : ∀ (W' : WX) (pn : List (Addr × Obj)) (xe : Value → Shared → Prop), Takes (X.tr pn xe) W' → PassesOwn (model X.prog X.w) X.A X.env xe → PSs (X.tr pn xe) body (tb W'))
    (hsu : ∀ (a : Addr) (pn : List (Addr × Obj)), PSs (X.suite a pn) (st :: rest) ts) :
    PS X (.Try body [.ExceptHandler (some (.Name x np)) (some n) (st :: rest) pos'] [] [] pos) (fun D σ H => tb (wGot X.K cv i ts W D) D σ H) := by
  constructor
  intro pins s0 σ H D I hyp
  have okX := I.ok
  have frm : X.A.frames = some (X.env :: X.outer) := okX.frames.trans (by rw [sk])
  apply wpAny_Try_except
  let after : Value → Shared → Prop := fun e s1 => wpAny (model X.prog X.w) X.A (noteFrame e X.env) (fun _ s2 => wpAny (model X.prog X.w) X.A (setFlight e none)
    (fun _ s3 => wpAny (model X.prog X.w) X.A (handleBy e X.env [.ExceptHandler (some (.Name x np)) (some n) (st :: rest) pos']) (SP X pins D) X.xe s3) X.xe s2) X.xe s1
  have tkB : Takes (X.tr (X.pn ++ pins) after) (wGot X.K cv i ts W D) := by
    intro u s' air
    obtain ⟨a, B, sI, qs, σ1, H1, cls, d, rfl, J0, kB, up0, sky0, free, os0, bare0, y, ey, yes, no⟩ := air
    have J : Inv X pins σ1 H1 sI := J0.ofTry okX
    rw [show (X.tr (X.pn ++ pins) after).stack = X.env :: X.outer from sk] at sky0
    show after (.ref a) s'
    refine Sky.land Zc.steady frm fr sky0 ?_
    intro h1 fl1 up1
    have J1 : Inv X pins σ1 H1 { s' with heap := h1 } := J.landed kB fl1.1 (up0.trans up1) os0 bare0
    obtain ⟨o1, f1, at1, z1, d1⟩ := fl1.there
    have away : a ∉ frs (X.env :: X.outer) := by
      intro hm
      obtain ⟨_, o', g1, g2⟩ := fl1.2.2.1.mem hm
      rw [at1] at g1
      cases g1
      exact g2 _ d1
    have aL : a ≠ X.env.locals := by
      intro z
      exact away (List.mem_filterMap.mpr ⟨X.env, .head _, fr.trans (congrArg some z.symm)⟩)
    have aF : a ∉ X.fs := by
      intro hm
      obtain ⟨e, g1, g2⟩ := List.mem_filterMap.mp hm
      exact away (List.mem_filterMap.mpr ⟨e, .tail _ g1, g2⟩)
    -- before it was raised, nothing lay at a
    have newI : sI.heap.get? a = none := by
      cases e : sI.heap.get? a with
      | none => rfl
      | some o =>
        have g := kB a o e (by show a ∉ frs X.stack; rw [sk]; exact away)
        rw [fl1.2.1] at g
        cases g
    have new0 : X.s_0.heap.get? a = none := by
      cases e : X.s_0.heap.get? a with
      | none => rfl
      | some o =>
        obtain ⟨o', g⟩ := J.base.there a o e (by rw [ex0]; exact List.not_mem_nil)
        rw [newI] at g
        cases g
    have S1 := J1.suite at1 d1 free aL aF
    refine wpAny_handleBy_cons (codeAny_handlers_test ?_) (fun q => nomatch q)
    have TL : PySem.W.Looks (model X.prog X.w) h1 (typeOf (.ref a)) cls := by
      intro A Q E s k q
      exact wpAny_typeOf_ref (k _ _ at1) (by rw [z1.1]; exact q)
    have EM := PySem.W.exm_one (M := model X.prog X.w) J1.kIn TL ey
    have named : ∀ {Q : Value → Shared → Prop} {E : Value → Shared → Prop}, Q cv { s' with heap := h1 } → wpAny (model X.prog X.w) (X.A.mark (some (.ref a))) (eval (.Name x np) X.env) Q E { s' with heap := h1 } := by
      intro Q E q
      obtain ⟨g1, g2, g3 | ⟨g3, g4, g5⟩⟩ := nm
      · exact ld_glob (X := X.suite a ((a, o1) :: (X.pn ++ pins))) S1 g1 g3 q g2
      · exact ld_blt (X := X.suite a ((a, o1) :: (X.pn ++ pins))) S1 g1 g3 g4 q g5 g2
    refine named (EM.here ?_)
    cases y with
    | true =>
      obtain ⟨rfl, C, rfl, run⟩ := yes rfl
      apply codeAny_handlers_suite_as
      apply HandSPX.lands_againZ fl1
      intro h2 fl2 up2
      have J2 : Inv X pins σ1 H1 { s' with heap := h2 } := J.landed kB fl2.1 ((up0.trans up1).trans up2) os0 bare0
      obtain ⟨o2, f2, at2, z2, d2⟩ := fl2.there
      have noPin : ∀ p ∈ X.pn ++ pins, p.1 ≠ a := by
        intro p hp z
        have g := (J.pin p hp).1
        rw [z, newI] at g
        cases g
      have T2 := inv_track J2 at2 z2 d2 free aL new0 noPin
      have U2 : Inv (X.suite a (X.pn ++ pins)) [] σ1 (upd H1 a (ExT C a)) { s' with heap := h2 } :=
        ⟨okX.suite _ _, T2.os, T2.bare, T2.base, T2.loc, T2.cell, T2.free, T2.freeC, fun p hp => T2.pin p (by rw [List.append_nil] at hp; exact hp), T2.hok, T2.len⟩
      refine store_ok (X := X.suite a (X.pn ++ pins)) (v := .ref a) U2 nd at_ (.inl lc) rfl ?_ (.inr lc)
      intro s3 U3
      have back : ∀ {σ2 : St} {H2 : Hp} {s2 : Shared}, Inv (X.suite a (X.pn ++ pins)) [] σ2 H2 s2 → Inv X pins σ2 H2 s2 := fun {σ2 H2 s2} V => ⟨okX, V.os, V.bare, V.base, V.loc, V.cell, V.free, V.freeC, fun p hp => V.pin p (by rw [List.append_nil]; exact hp), V.hok, V.len⟩
      refine wpAny_mono ((hsu a (X.pn ++ pins)).run [] s3 _ _ _ U3 (run a free)) (fun f s4 z => ?_) (fun _ _ z => z.elim)
      cases f with
      | next => obtain ⟨σ2, H2, V, q⟩ := z; exact gone_ok (back V) nd at_ lc fun s5 V5 => ⟨_, _, V5, q⟩
      | brk => obtain ⟨σ2, H2, V, q⟩ := z; exact gone_ok (back V) nd at_ lc fun s5 V5 => ⟨_, _, V5, q⟩
      | cont => obtain ⟨σ2, H2, V, q⟩ := z; exact gone_ok (back V) nd at_ lc fun s5 V5 => ⟨_, _, V5, q⟩
      | ret u => obtain ⟨v, σ2, H2, V, rv, q⟩ := z; exact gone_ok (back V) nd at_ lc fun s5 V5 => ⟨_, _, _, V5, rv, q⟩
    | false =>
      show wpAny _ X.A (handleBy (.ref a) X.env []) _ _ _
      apply wpAny_handleBy_nil
      obtain ⟨_, _, _, oe, vs, T, oT, ts', g1, g2, g3, g4, g5⟩ := id fl1
      have set_ : wpAny (model X.prog X.w) X.A (setFlight (.ref a) X.env.frame) (fun _ s4 => wpAny (model X.prog X.w) X.A (throw (.ref a) : Sem Flow) (SP X pins D) X.xe s4) X.xe { s' with heap := h1 } := by
        rw [fr]
        apply HandSPX.setFlight_upZ fl1
        intro h2 fl2 up2
        refine wpAny_throw (tk _ _ ⟨a, B, sI, pins, σ1, H1, cls, d, rfl, J, kB, (up0.trans up1).trans up2, ?_, free, os0, bare0, no rfl⟩)
        rw [sk]
        exact .inr (.inr fl2)
      unfold PySem.passOn
      refine wpAny_bind (wpAny_field g1 g3 g4 ?_)
      rw [if_neg (by simp : ¬ ((Value.ref T == Value.none) = true))]
      first
        | exact wpAny_bind (wpAny_pure (wpAny_bind set_))
        | exact wpAny_bind set_
  refine wpAny_mono ((hb _ _ after tkB PassesOwn.looking).run [] s0 σ H D (I.toTry _) hyp) (fun f s1 z => ?_) (fun e s1 z => z)
  cases f with
  | next => obtain ⟨σ', H', V, q⟩ := z; exact wpAny_execs_nil ⟨σ', H', V.ofTry okX, q⟩
  | brk => obtain ⟨σ', H', V, q⟩ := z; exact ⟨σ', H', V.ofTry okX, q⟩
  | cont => obtain ⟨σ', H', V, q⟩ := z; exact ⟨σ', H', V.ofTry okX, q⟩
  | ret u => obtain ⟨v, σ', H', V, rv, q⟩ := z; exact ⟨v, σ', H', V.ofTry okX, rv, q⟩

/-- m says of which classes' errors the clause is -/
def fTryAs (m : Nat → Option Bool) (i : Nat) (fb fs : Ev → RS) : Ev → RS := fun ρ => match fb ρ with
  | .raise c ρ1 => match m c with
    | some true => if okW ρ1 [i] = true then match (fs (ρ1.set i (some (.ex c)))) with
      | .next ρ2 => if okW ρ2 [i] = true then .next (wipeE ρ2 [i]) else .stuck
      | .ret v ρ2 => .ret v ρ2
      | _ => .stuck
      else .stuck
    | some false => .raise c ρ1
    | none => .stuck
  | r => r
theorem s_tryAs {x n : Str} {cv : Value} {i : Nat} {body rest : List Stmt} {st : Stmt} {np pos pos' : Pos} {m : Nat → Option Bool} {fb fs : Ev → RS} {cl : Nat → Addr} (hcl : b.cl = cl) (hm : ∀ c y, m c = some y → PySem.W.exmOne X.K (.ref (cl c)) cv = some y)
    (sk : X.stack = X.env :: X.outer) (fr : X.env.frame = some X.env.locals) (ex0 : X.ex = []) (nd : X.N.Nodup) (at_ : X.N[i]? = some n)
    (lc : X.env.kindOf n = some .local) (nm : Names X x cv) (tk : Takes X W)
    (hb : ∀ (W' : WX) (pn : List (Addr × Obj)) (xe : Value → Shared → Prop), Takes (X.tr pn xe) W' → PassesOwn (model X.prog X.w) X.A X.env xe → PSs (X.tr pn xe) body (tS X.K b W' fb))
    (hsu : ∀ (a : Addr) (pn : List (Addr × Obj)), PSs (X.suite a pn) (st :: rest) (tS X.K b W0 fs)) :
    PS X (.Try body [.ExceptHandler (some (.Name x np)) (some n) (st :: rest) pos'] [] [] pos) (tS X.K b W (fTryAs m i fb fs)) := by
  subst hcl
  refine PS.imp (ps_tryGot (tb := fun W' => tS X.K b W' fb) (ts := tS X.K b W0 fs) sk fr ex0 nd at_ lc nm tk hb hsu) ?_
  rintro D σ H ⟨ρ, G, r, q⟩
  refine ⟨ρ, G, r, ?_⟩
  unfold fTryAs at q
  cases e : fb ρ with
  | raise c ρ1 =>
    simp only [e] at q
    intro σ1 G1 H1 r1 s1
    cases em : m c with
    | none => simp only [em] at q; exact q.elim
    | some y =>
      refine ⟨y, hm c y em, fun hy => ?_, fun hy => ?_⟩
      · subst hy
        simp only [em] at q
        split at q
        · rename_i ok1
          refine ⟨rfl, _, rfl, fun a fa => ?_⟩
          have sgG : Same G1 (upd G1 a (ExT (b.cl c) a)) := fun d o z => by rw [upd_ne (ne_of_none z (r1.g0 fa))]; exact z
          have r2 := r1.ext (Ext.upd r1.le fa (ExT (b.cl c) a))
          have nf : rfAt ρ1 i = false := by
            have := ok1
            unfold okW at this
            simpa using this
          have r3 := r2.assign (v := .ref a) (sv := .ex c) (i := i) ⟨a, rfl, upd_same⟩ nf
          refine ⟨_, _, r3, ?_⟩
          cases ef : fs (ρ1.set i (some (.ex c))) with
          | next ρ2 =>
            simp only [ef] at q
            split at q
            · rename_i ok2
              exact fun σ' G' H' r' s' => q _ G' H' (r'.wipe ok2) ((s1.trans sgG).trans s')
            · exact q.elim
          | ret sv ρ2 =>
            simp only [ef] at q
            exact fun v σ' G' H' r' s' d' => q v σ' G' H' r' ((s1.trans sgG).trans s') d'
          | brk ρ2 => simp only [ef] at q; exact q.elim
          | cnt ρ2 => simp only [ef] at q; exact q.elim
          | raise k ρ2 => simp only [ef] at q; exact q.elim
          | stuck => simp only [ef] at q; exact q.elim
        · exact q.elim
      · subst hy
        simp only [em] at q
        exact q σ1 G1 H1 r1 s1
  | next ρ1 => simp only [e] at q ⊢; exact q
  | ret v ρ1 => simp only [e] at q ⊢; exact q
  | brk ρ1 => simp only [e] at q ⊢; exact q
  | cnt ρ1 => simp only [e] at q ⊢; exact q
  | stuck => simp only [e] at q; exact q
/-- .. without a name -/
def fTry1 (m : Nat → Option Bool) (fb fs : Ev → RS) : Ev → RS := fun ρ => match fb ρ with
  | .raise c ρ1 => match m c with
    | some true => match fs ρ1 with
      | .raise _ _ => .stuck
      | r => r
    | some false => .raise c ρ1
    | none => .stuck
  | r => r
theorem s_try1 {x : Str} {cv : Value} {body rest : List Stmt} {st : Stmt} {np pos pos' : Pos} {m : Nat → Option Bool} {fb fs : Ev → RS} {cl : Nat → Addr} (hcl : b.cl = cl) (hm : ∀ c y, m c = some y → PySem.W.exmOne X.K (.ref (cl c)) cv = some y)
    (sk : X.stack = X.env :: X.outer) (fr : X.env.frame = some X.env.locals) (nm : Names X x cv) (tk : Takes X W)
    (hb : ∀ (W' : WX) (pn : List (Addr × Obj)) (xe : Value → Shared → Prop), Takes (X.tr pn xe) W' → PassesOwn (model X.prog X.w) X.A X.env xe → PSs (X.tr pn xe) body (tS X.K b W' fb))
    (hsu : ∀ (a : Addr) (pn : List (Addr × Obj)), PSs (X.suite a pn) (st :: rest) (tS X.K b W0 fs)) :
    PS X (.Try body [.ExceptHandler (some (.Name x np)) none (st :: rest) pos'] [] [] pos) (tS X.K b W (fTry1 m fb fs)) := by
  subst hcl
  refine PS.imp (ps_try_only (tb := fun W' => tS X.K b W' fb) (ts := fun _ _ _ => tS X.K b W0 fs) sk fr nm tk hb fun a oe cls d pn _ _ => hsu a _) ?_
  rintro D σ H ⟨ρ, G, r, q⟩
  refine ⟨ρ, G, r, ?_⟩
  unfold fTry1 at q
  cases e : fb ρ with
  | raise c ρ1 =>
    simp only [e] at q
    intro σ1 G1 H1 r1 s1
    cases em : m c with
    | none => simp only [em] at q; exact q.elim
    | some y =>
      refine ⟨y, hm c y em, fun hy a fa => ?_, fun hy => ?_⟩
      · subst hy
        simp only [em] at q
        refine ⟨ρ1, G1, r1, PostS.mono s1 ?_⟩
        cases ef : fs ρ1 with
        | raise k ρ2 => simp only [ef] at q; exact q.elim
        | _ => simp only [ef] at q ⊢; exact q
      · subst hy
        simp only [em] at q
        exact q σ1 G1 H1 r1 s1
  | next ρ1 => simp only [e] at q ⊢; exact q
  | ret v ρ1 => simp only [e] at q ⊢; exact q
  | brk ρ1 => simp only [e] at q ⊢; exact q
  | cnt ρ1 => simp only [e] at q ⊢; exact q
  | stuck => simp only [e] at q; exact q
end
end Dl
set_option maxHeartbeats 4000000
/-! Dl8: isinstance, str of data, the script. -/
namespace Dl
open PySem PySem.Spec L2

/-! ### isinstance -/
def tyName : D → String
  | .none => "NoneType"
  | .bool _ => "bool"
  | .int _ => "int"
  | .str _ => "str"
  | .list _ => "list"
  | .tuple _ => "tuple"
  | .dict _ => "dict"
def isIntT : D → Option Bool | .int _ => some true | .bool _ => some true | .dict _ => none | _ => some false
def isBoolT : D → Option Bool | .bool _ => some true | .dict _ => none | _ => some false
def isStrT : D → Option Bool | .str _ => some true | .dict _ => none | _ => some false
def isListT : D → Option Bool | .list _ => some true | .dict _ => none | _ => some false
def isTupleT : D → Option Bool | .tuple _ => some true | .dict _ => none | _ => some false
def noneT : D → Option Bool | .dict _ => none | _ => some false
/-- T tells what isinstance(x, c) answers on data -/
def IsT (K : PySem.W.Frag) (cv : Value) (T : D → Option Bool) : Prop := ∀ x y, T x = some y → (∀ kv, x ≠ .dict kv) ∧ PySem.W.kitOne K (.type (tyName x)) cv = some y
def IsEx (K : PySem.W.Frag) (cl : Nat → Addr) (cv : Value) (E : Nat → Option Bool) : Prop := ∀ c y, E c = some y → ExcC K (cl c) ∧ PySem.W.kitOne K (.ref (cl c)) cv = some y
section
variable {K : PySem.W.Frag}
theorem isT_int : IsT K (.type "int") isIntT := fun x y h => by
  cases x <;> cases h <;> exact ⟨fun _ z => (nomatch z), kit_ty (by dsimp only [tyName]; decide +kernel)⟩
theorem isT_bool : IsT K (.type "bool") isBoolT := fun x y h => by
  cases x <;> cases h <;> exact ⟨fun _ z => (nomatch z), kit_ty (by dsimp only [tyName]; decide +kernel)⟩
theorem isT_str : IsT K (.type "str") isStrT := fun x y h => by
  cases x <;> cases h <;> exact ⟨fun _ z => (nomatch z), kit_ty (by dsimp only [tyName]; decide +kernel)⟩
theorem isT_list : IsT K (.type "list") isListT := fun x y h => by
  cases x <;> cases h <;> exact ⟨fun _ z => (nomatch z), kit_ty (by dsimp only [tyName]; decide +kernel)⟩
theorem isT_tuple : IsT K (.type "tuple") isTupleT := fun x y h => by
  cases x <;> cases h <;> exact ⟨fun _ z => (nomatch z), kit_ty (by dsimp only [tyName]; decide +kernel)⟩
/-- a class that is no built-in: data is none of its -/
theorem isT_none {cv : Value} (h : ∀ n ∈ (["NoneType", "bool", "int", "str", "list", "tuple"] : List String), PySem.W.kitOne K (.type n) cv = some false) : IsT K cv noneT := fun x y e => by
  cases x <;> cases e <;> exact ⟨fun _ z => (nomatch z), h _ (by simp [tyName])⟩
theorem isEx_none {cl : Nat → Addr} {cv : Value} : IsEx K cl cv (fun _ => none) := fun _ _ e => nomatch e
end
def rIsEx (K : PySem.W.Frag) : List V → Hp → VK → Prop := fun xs H Q => ∃ (a C : Addr) (c : V) (cv : Value) (y : Bool), xs = [.ref a, c] ∧ H a = some (ExT C a) ∧ ExcC K C ∧ ClsV c cv ∧ PySem.W.kitOne K (.ref C) cv = some y ∧ Q (.bl y) H
section
variable {X : Cx} {b : Bx} {W : WX} {K : PySem.W.Frag} {G G1 H : Hp} {σ : St} {ρ : Ev} {Q : VK}
theorem call_isEx : CallR X (.builtin "isinstance") (rIsEx X.K) := by
  intro pins s σ H xs us Q I r h
  obtain ⟨a, C, c, cv, y, rfl, ha, F, kc, e, q⟩ := h
  obtain ⟨u1, u2, rfl, r1, r2⟩ := vals2 r
  cases (show u1 = Value.ref a from r1)
  have e2 := kc.eq r2
  subst e2
  obtain ⟨⟨oe, vs, at_, zc, fd⟩, _, _⟩ := (show ObjOk X.prog X.w H s.heap a (ExT C a) from I.hok a _ ha)
  have J : PySem.W.InstAt s.heap a oe C none := by
    obtain ⟨oc, od, oda, osl⟩ := oe
    obtain ⟨g1, g2⟩ := zc
    dsimp only at g1 g2 fd
    subst g1 g2 fd
    exact ⟨at_, rfl, rfl, trivial⟩
  exact PySem.W.kia_one (PySem.W.handS_kitx_exc F.hg F.hk F.hs F.hd F.ha F.hn F.ht F.hm) I.kIn J e (fun z => nomatch z) fun tk => ⟨.bl y, H, I.kept (t' := tk) fun _ _ z => z, rfl, q⟩
abbrev rIsA (K : PySem.W.Frag) : List V → Hp → VK → Prop := fun xs H Q => rIsi K xs H Q ∨ rIsEx K xs H Q
theorem call_isA : CallR X (.builtin "isinstance") (rIsA X.K) := call_isi.or call_isEx
theorem Vw.ty (s : Same G H) {v : V} {x : D} (n : ∀ kv, x ≠ .dict kv) (h : Vw K G H v x) : TyX K H v (.type (tyName x)) := by
  rcases h with h | ⟨a, xs, l, rfl, rfl, ha, hx⟩
  · cases h with
    | non => exact .base .non
    | bl k => exact .base (.bl k)
    | int i => exact .base (.int i)
    | str z => exact .base (.str z)
    | lst h1 h2 => exact .base (.lst (s _ _ h1))
    | tup h1 h2 =>
      rcases seqT s h1 with (h | ⟨o, h⟩) | ⟨o, its, n, k1, k2, k3⟩
      · exact .base (.tup h)
      · exact .fTuple h
      · exact .kTuple k1 k2
  · exact .base (.lst ha)
/-- isinstance(name, c) -/
def fIsN (i : Nat) (T : D → Option Bool) (E : Nat → Option Bool) : Ev → RE := fun ρ => match ρ[i]? with
  | some (some (.ex c)) => RE.of ((E c).map bol) ρ
  | _ => match viewAt ρ i with
    | some x => RE.of ((T x).map bol) ρ
    | none => .stuck
theorem e_isN {i : Nat} {e ce : Expr} {c : V} {cv : Value} {p pos : Pos} {T : D → Option Bool} {E : Nat → Option Bool} {cl : Nat → Addr} (hcl : b.cl = cl) (hT : IsT X.K cv T) (hE : IsEx X.K cl cv E) (hg : Gl X "isinstance") (hm : X.mg "isinstance" = none) (he : PE X e (tVar i)) (hc : PE X ce (tC c)) (kc : ClsV c cv)
    (h1 : starEach [e, ce] X.env = (false, eval e X.env) :: starEach [ce] X.env := by rfl) (h2 : starEach [ce] X.env = (false, eval ce X.env) :: starEach [] X.env := by rfl) (h3 : (backTo pos (starEach [ce] X.env)).any (·.1) = false := by rfl) :
    PE X (.Call (.Name "isinstance" p) [e, ce] [] pos) (tE X.K b W (fIsN i T E)) := by
  subst hcl
  refine PE.imp (pe_callB call_isA hg hm (by decide +kernel) (pa_cons he (pa_cons hc pa_nil h2) h1) (by decide) (by decide) h1 h3) ?_
  rintro σ H Q ⟨ρ, G, r, q⟩
  unfold fIsN at q
  split at q
  · rename_i k e1
    obtain ⟨v, h4, a, rfl, ga⟩ := r.slot _ _ e1
    refine ⟨_, h4, ?_⟩
    cases eE : E k with
    | none => rw [eE] at q; exact q.elim
    | some y =>
      rw [eE] at q
      obtain ⟨F, ek⟩ := hE k y eE
      exact .inr ⟨a, _, c, cv, y, rfl, r.le _ _ ga, F, kc, ek, q _ _ _ r (Same.refl _) (.bl y)⟩
  · split at q
    · rename_i x e1
      obtain ⟨v, h4, d⟩ := r.view e1
      refine ⟨v, h4, ?_⟩
      cases eT : T x with
      | none => rw [eT] at q; exact q.elim
      | some y =>
        rw [eT] at q
        obtain ⟨nd, ek⟩ := hT x y eT
        exact .inl ⟨v, c, _, cv, y, rfl, kc, d.ty r.le nd, ek, q _ _ _ r (Same.refl _) (.bl y)⟩
    · exact q.elim
/-- isinstance(e, c), e any expression -/
def fIsE (f : Ev → RE) (T : D → Option Bool) : Ev → RE := fun ρ => (f ρ).bindD fun x ρ1 => RE.of ((T x).map bol) ρ1
theorem e_isE {f : Ev → RE} {e ce : Expr} {c : V} {cv : Value} {p pos : Pos} {T : D → Option Bool} (hT : IsT X.K cv T) (hg : Gl X "isinstance") (hm : X.mg "isinstance" = none) (he : PE X e (tE X.K b W f)) (hc : PE X ce (tC c)) (kc : ClsV c cv)
    (h1 : starEach [e, ce] X.env = (false, eval e X.env) :: starEach [ce] X.env := by rfl) (h2 : starEach [ce] X.env = (false, eval ce X.env) :: starEach [] X.env := by rfl) (h3 : (backTo pos (starEach [ce] X.env)).any (·.1) = false := by rfl) :
    PE X (.Call (.Name "isinstance" p) [e, ce] [] pos) (tE X.K b W (fIsE f T)) := PE.imp (pe_callB call_isA hg hm (by decide +kernel) (pa_cons he (pa_cons hc pa_nil h2) h1) (by decide) (by decide) h1 h3) fun σ H Q ⟨ρ, G, r, q⟩ => by
  show tE X.K b W f σ H _
  refine stepD r q fun v H1 ρ1 G1 x r1 s1 d1 q1 => ?_
  cases eT : T x with
  | none => rw [eT] at q1; exact q1.elim
  | some y =>
    rw [eT] at q1
    obtain ⟨nd, ek⟩ := hT x y eT
    exact .inl ⟨v, c, _, cv, y, rfl, kc, Vw.ty r1.le nd (.inl d1), ek, q1 _ _ _ r1 (Same.refl _) (.bl y)⟩

/-! ### str -/
def strD : D → Option Sv
  | .str z => some (.d (.str z))
  | .int i => if i.natAbs.log2 < 1920 then some (.d (.str (toString i))) else none
  | .tuple l => if ((PyData.tuple l).showable && !(PyData.tuple l).hasDict && decide ((PyData.tuple l).depth ≤ 180) && decide ((PyData.tuple l).shown.length ≤ sizeLine)) = true then some (.d (.str (PyData.tuple l).shown)) else none
  | .list l => if ((PyData.list l).showable && !(PyData.list l).hasDict && decide ((PyData.list l).depth ≤ 180) && decide ((PyData.list l).shown.length ≤ sizeLine)) = true then some (.d (.str (PyData.list l).shown)) else none
  | _ => none
def rStrD (K : PySem.W.Frag) : List V → Hp → VK → Prop := fun xs H Q => ∃ (a : Addr) (d : D), xs = [.ref a] ∧ Dp K H (.ref a) d ∧ d.showable = true ∧ d.hasDict = false ∧ d.depth ≤ 180 ∧ d.shown.length ≤ sizeLine ∧ Q (.str d.shown) H
theorem call_strD (gd : X.A.guards = some []) (hu : X.A.units + 200 < cLine) : CallR X (.type "str") (rStrD X.K) := by
  intro pins s σ H xs us Q I r h
  obtain ⟨a, d, rfl, hd, h1, h2, h3, h4, q⟩ := h
  obtain ⟨u, rfl, r1⟩ := vals1 r
  cases (show u = Value.ref a from r1)
  obtain ⟨as, rd⟩ := Dp.reads I d (.ref a) (.ref a) hd rfl
  refine str_of_reads rd h1 (fun z => by rw [h2] at z; cases z) gd (by omega) (fun _ _ z => z) (fun h' u tk hk => ?_) h4
  exact ⟨.str d.shown, H, I.kept (t' := tk) hk, ⟨u, rfl⟩, q⟩
abbrev rStrA (K : PySem.W.Frag) : List V → Hp → VK → Prop := fun xs H Q => ((∃ i, xs = [.int i] ∧ i.natAbs.log2 < 1920 ∧ Q (.str (toString i)) H) ∨ ∃ a, xs = [.str a] ∧ Q (.str a) H) ∨ rStrD K xs H Q
theorem call_strA (gd : X.A.guards = some []) (hu : X.A.units + 200 < cLine) : CallR X (.type "str") (rStrA X.K) := (call_str_int.or SkE.call_str_str).or (call_strD gd hu)
theorem cs_str : CallS K (rStrA K) strD := by
  intro b G H σ ρ x dx Q r hx h
  cases dx with
  | str z =>
    have hx := hx.da fun l z => nomatch z
    cases hx
    exact .inl (.inr ⟨z, rfl, post_str r h⟩)
  | int i =>
    have hx := hx.da fun l z => nomatch z
    cases hx
    obtain ⟨c, h⟩ := post_if h
    exact .inl (.inl ⟨i, rfl, c, post_str r h⟩)
  | tuple l =>
    obtain ⟨c, h⟩ := post_if h
    simp only [Bool.and_eq_true, decide_eq_true_eq, Bool.not_eq_true'] at c
    have dp := hx.dp r.le
    cases hx.da fun l z => nomatch z
    exact .inr ⟨_, _, rfl, dp, c.1.1.1, c.1.1.2, c.1.2, c.2, post_str r h⟩
  | list l =>
    obtain ⟨c, h⟩ := post_if h
    simp only [Bool.and_eq_true, decide_eq_true_eq, Bool.not_eq_true'] at c
    have dp := hx.dp r.le
    obtain ⟨a, vs, rfl, g1, g2⟩ := hx.lst r.le
    exact .inr ⟨_, _, rfl, dp, c.1.1.1, c.1.1.2, c.1.2, c.2, post_str r h⟩
  | _ => exact h.elim
theorem e_strOf {e : Expr} {o : Opd} {p pos : Pos} (gd : X.A.guards = some []) (hu : X.A.units + 200 < cLine) (hg : Gl X "str") (hm : X.mg "str" = none) (he : PO2 X b W e o)
    (h1 : starEach [e] X.env = (false, eval e X.env) :: starEach [] X.env := by rfl) (h2 : (backTo pos (starEach [] X.env)).any (·.1) = false := by rfl) : PE X (.Call (.Name "str" p) [e] [] pos) (tE X.K b W (fUn strD o)) :=
  e_callTy (call_strA gd hu) cs_str hg hm (by decide +kernel) he (by decide) (by decide) h1 h2

/-! ### the script: read alone -/
def fLenF (i : Nat) : Ev → RE := fun ρ => match ρ[i]? with
  | some (some (.fz l)) => .ok (.d (.int l.length)) ρ
  | _ => .stuck
theorem e_lenF {i : Nat} {e : Expr} {p pos : Pos} (hg : Gl X "len") (hm : X.mg "len" = none) (he : PE X e (tVar i)) (h1 : starEach [e] X.env = (false, eval e X.env) :: starEach [] X.env := by rfl) (h2 : (backTo pos (starEach [] X.env)).any (·.1) = false := by rfl) :
    PE X (.Call (.Name "len" p) [e] [] pos) (tE X.K b W (fLenF i)) := PE.imp (pe_callB call_len hg hm boot_len (pa_cons he pa_nil h1) (by decide) (by decide) h1 h2) fun σ H Q ⟨ρ, G, r, q⟩ => by
  unfold fLenF at q
  split at q
  · rename_i l e1
    obtain ⟨v, h4, a, xs, rfl, sq, d⟩ := r.slot _ _ e1
    refine ⟨_, h4, _, _, rfl, .inl ⟨xs, r.le.seq sq, rfl⟩, ?_⟩
    rw [d.length]
    exact q _ _ _ r (Same.refl _) (.int _)
  · exact q.elim
def fIxF (i : Nat) (f : Ev → RE) : Ev → RE := fun ρ => match ρ[i]? with
  | some (some (.fz l)) => (f ρ).bindD fun x ρ1 => match x with
    | .int j => match atI l j with
      | some y => .ok (.d y) ρ1
      | none => .stuck
    | _ => .stuck
  | _ => .stuck
theorem e_ixF {i : Nat} {e k : Expr} {f : Ev → RE} {pos : Pos} (he : PE X e (tVar i)) (hk : PE X k (tE X.K b W f)) (hs : PlainIx k := by exact fun _ _ => rfl) : PE X (.Subscript e k pos) (tE X.K b W (fIxF i f)) := PE.imp (pe_ix ix_list he hk hs) fun σ H Q ⟨ρ, G, r, q⟩ => by
  unfold fIxF at q
  split at q
  · rename_i l e1
    obtain ⟨v, h4, a, xs, rfl, sq, d⟩ := r.slot _ _ e1
    refine ⟨_, h4, ?_⟩
    show tE X.K b W f σ H _
    refine stepD r q fun v H1 ρ1 G1 x r1 s1 d1 q1 => ?_
    cases x with
    | int j =>
      cases d1
      dsimp only at q1
      cases ea : atI l j with
      | none => rw [ea] at q1; exact q1.elim
      | some y =>
        rw [ea] at q1
        obtain ⟨u, g1, g2⟩ := atI_da (DaAll.mono s1 d) ea
        exact ⟨a, xs, j, u, rfl, rfl, r1.le.seq (s1.seq sq), g1, q1 _ _ _ r1 (Same.refl _) g2⟩
    | _ => exact q1.elim
  · exact q.elim
end
end Dl
set_option maxHeartbeats 4000000
/-! Dl9: any sequence to go through; what the top of the text says of an error's class. -/
namespace Dl
open PySem PySem.Spec L2
def fuel : Nat := 100000
def kSeq : D → Option (List D)
  | .list xs => some xs
  | .tuple xs => some xs
  | .str z => some (z.cps.toList.map fun c => .str ⟨#[c]⟩)
  | _ => none
section
variable {X : Cx} {b : Bx} {W : WX} {K : PySem.W.Frag} {G G1 H : Hp} {σ : St} {ρ : Ev} {Q : VK}
theorem PI.or {tg l : Expr} {t t' : TI} (h : PI X tg l t) (h' : PI X tg l t') : PI X tg l (fun σ H R => t σ H R ∨ t' σ H R) :=
  ⟨fun pins s σ H R I q => by
    rcases q with q | q
    · exact h.run pins s σ H R I q
    · exact h'.run pins s σ H R I q⟩
theorem i_seq {tg l : Expr} {f : Ev → RE} (h : PE X l (tE X.K b W f)) : PI X tg l (tI X.K b W fun ρ => RI.of (f ρ) kSeq) := PI.imp (PI.or (i_list h) (PI.or (i_tup h) (i_str h))) fun σ H R ⟨ρ, G, r, q⟩ => by
  have q : PostI X.K b W G σ R (RI.of (f ρ) kSeq) := q
  have go : ∀ k : D → Option (List D), RI.of (f ρ) kSeq = RI.of (f ρ) k → tI X.K b W (fun ρ => RI.of (f ρ) k) σ H R := fun k e => ⟨ρ, G, r, by show PostI X.K b W G σ R (RI.of (f ρ) k); rw [← e]; exact q⟩
  cases e : f ρ with
  | raise c ρ1 => exact .inl (go kList (by rw [e]; rfl))
  | stuck => exact .inl (go kList (by rw [e]; rfl))
  | ok sv ρ1 =>
    cases e2 : sv.dat? with
    | none => exact .inl (go kList (by rw [e]; simp only [RI.of, e2]))
    | some x =>
      cases x with
      | tuple xs => exact .inr (.inl (go kTuple (by rw [e]; simp only [RI.of, e2, kSeq, kTuple])))
      | str z => exact .inr (.inr (go kStr (by rw [e]; simp only [RI.of, e2, kSeq, kStr])))
      | _ => exact .inl (go kList (by rw [e]; simp only [RI.of, e2, kSeq, kList]))
theorem isT_no {cv : Value} : IsT K cv (fun _ => none) := fun _ _ h => nomatch h
end
/-- a class of errors of the text's, whose __init__ is ValueError's own -/
structure ExcF (K : PySem.W.Frag) (mg : Str → Option Value) (x : Str) (C : Addr) : Prop where
  q : PySem.W.excIn K C [.type "ValueError", .type "Exception", .type "BaseException", .type "object"] "ValueError.__new__" = true
  gC : mg x = some (.ref C)
  kC : PySem.W.keepIn K (.ref C) = true
  s : PySem.W.subIn K (.ref C) (.type "BaseException") = some true
  t : PySem.W.typeIn K (.ref C) = some (.type "type")
theorem ExcF.ok {K : PySem.W.Frag} {mg : Str → Option Value} {x : Str} {C : Addr} (F : ExcF K mg x C) {X : Cx} (hK : X.K = K) (hm : X.mg = mg) (hg : Gl X x := by rfl) : RaiseOk X x C := by
  subst hK hm
  exact ⟨F.q, F.gC, F.kC, raises_own F.s F.t, hg⟩
/-- one class of the text's against another -/
theorem kit_ref {K : PySem.W.Frag} {C D : Addr} {y : Bool} (self : PySem.W.subIn K (.ref C) (.ref C) = some true) (hd : PySem.W.hasDictIn K D = true) (ht : PySem.W.typeIn K (.ref D) = some (.type "type")) (hs : PySem.W.subIn K (.ref C) (.ref D) = some y) : PySem.W.kitOne K (.ref C) (.ref D) = some y := by
  unfold PySem.W.kitOne
  by_cases e : C = D
  · subst e
    rw [self] at hs
    cases hs
    rw [if_pos (by simp)]
  · rw [if_neg (by simpa using e)]
    unfold PySem.W.kitCls
    obtain ⟨cd, hc, _⟩ := PySem.W.any_some hd
    dsimp only
    rw [hc, ht]
    rw [if_pos (by simp)]
    exact hs
theorem kit_val {K : PySem.W.Frag} {C : Addr} {T : String} {y : Bool} (hm : PySem.W.kitMeta T = true) (hs : PySem.W.subIn K (.ref C) (.type T) = some y) : PySem.W.kitOne K (.ref C) (.type T) = some y := by
  unfold PySem.W.kitOne
  rw [if_neg (by intro z; cases z)]
  unfold PySem.W.kitCls
  dsimp only
  rw [if_pos hm]
  exact hs
end Dl
set_option maxHeartbeats 4000000
/-! DlW: a dict of the text's top, with text keys and ints; minus. -/
namespace Dl
open PySem PySem.Spec L2
inductive TabOk : List DictEntry → List (Str × Int) → Prop where
  | nil : TabOk [] []
  | cons {e : DictEntry} {r : List DictEntry} {x : Str} {t t' : Tok} {i : Int} {tb : List (Str × Int)} : e.key = .str x t → e.val = .int i t' → TabOk r tb → TabOk (e :: r) ((x, i) :: tb)
structure KTab (K : PySem.W.Frag) (w : World) (d : Addr) (tb : List (Str × Int)) : Prop where
  ex : ∃ es n, KDict K w d es n ∧ TabOk es.toList tb
theorem tab_find {l : List DictEntry} {tb : List (Str × Int)} (h : TabOk l tb) (z : Str) : (∀ i, tb.lookup z = some i → ∃ e t, l.find? (·.key.isStr z) = some e ∧ e.val = .int i t) ∧ (tb.lookup z = none → l.find? (·.key.isStr z) = none) ∧ l.any (·.refKey) = false := by
  induction h with
  | nil => exact ⟨fun i e => (nomatch e), fun _ => rfl, rfl⟩
  | @cons e r x t t' i tb hk hv _ ih =>
    obtain ⟨h1, h2, h3⟩ := ih
    have ek : e.key.isStr z = (x == z) := by rw [hk]; rfl
    have er : e.refKey = false := by unfold DictEntry.refKey; rw [hk]
    refine ⟨fun j q => ?_, fun q => ?_, by rw [List.any_cons, er, h3]; rfl⟩
    · rw [List.lookup_cons] at q
      by_cases c : z = x
      · subst c
        rw [beq_self_eq_true] at q
        cases q
        exact ⟨e, t', by rw [List.find?_cons, ek, beq_self_eq_true], hv⟩
      · rw [beq_eq_false_iff_ne.mpr c] at q
        obtain ⟨e2, t2, g1, g2⟩ := h1 j q
        exact ⟨e2, t2, by rw [List.find?_cons, ek, beq_eq_false_iff_ne.mpr (Ne.symm c)]; exact g1, g2⟩
    · rw [List.lookup_cons] at q
      by_cases c : z = x
      · subst c
        rw [beq_self_eq_true] at q
        cases q
      · rw [beq_eq_false_iff_ne.mpr c] at q
        rw [List.find?_cons, ek, beq_eq_false_iff_ne.mpr (Ne.symm c)]
        exact h2 q
theorem KTab.ns {K : PySem.W.Frag} {w : World} {d : Addr} {tb : List (Str × Int)} (T : KTab K w d tb) (z : Str) : (∀ i, tb.lookup z = some i → ∃ t, PySem.W.nsIn K d z = some (some (.int i t))) ∧ (tb.lookup z = none → PySem.W.nsIn K d z = some none) := by
  obtain ⟨es, n, D, T⟩ := T.ex
  obtain ⟨h1, h2, h3⟩ := tab_find T z
  unfold PySem.W.nsIn
  rw [D.at_]
  dsimp only
  refine ⟨fun i q => ?_, fun q => ?_⟩
  · obtain ⟨e, t, g1, g2⟩ := h1 i q
    rw [g1]
    exact ⟨t, congrArg (fun v => some (some v)) g2⟩
  · rw [h2 q, h3]
    rfl
def kgetD (tb : List (Str × Int)) : D → Option Sv | .str z => (tb.lookup z).map fun i => .d (.int i) | _ => none
def kinD (tb : List (Str × Int)) : D → Option Sv | .str z => some (bol (tb.lookup z).isSome) | _ => none
def kninD (tb : List (Str × Int)) : D → Option Sv | .str z => some (bol (!(tb.lookup z).isSome)) | _ => none
def negD : D → Option Sv | .int i => some (.d (.int (-i))) | _ => none
section
variable {X : Cx} {b : Bx} {W : WX} {K : PySem.W.Frag} {G G1 H : Hp} {σ : St} {ρ : Ev} {Q : VK} {d : Addr} {tb : List (Str × Int)}
theorem e_kget {ne i : Expr} {pos : Pos} {o : Opd} (T : KTab X.K X.w d tb) (hn : PE X ne (tC (.ref d))) (hi : PO2 X b W i o) (hs : PlainIx i := by exact fun _ _ => rfl) : PE X (.Subscript ne i pos) (tE X.K b W (fUn (kgetD tb) o)) :=
  PE.imp (pe_ix ix_kdict hn hi hs) fun σ H Q ⟨ρ, G, r, q⟩ => by
    show tO X.K b W o σ H _
    refine stepO r q fun v H1 ρ1 G1 x r1 s1 d1 q1 => ?_
    obtain ⟨dx, e, p⟩ := of1_post q1
    have vw := d1.vw r1 e
    cases dx with
    | str z =>
      cases vw.da fun l q => nomatch q
      cases el : tb.lookup z with
      | none => rw [show kgetD tb (.str z) = (tb.lookup z).map fun i => .d (.int i) from rfl, el] at p; exact p.elim
      | some i =>
        rw [show kgetD tb (.str z) = (tb.lookup z).map fun i => .d (.int i) from rfl, el] at p
        obtain ⟨t, g⟩ := (T.ns z).1 i el
        obtain ⟨es, n, D, _⟩ := T.ex
        exact ⟨d, z, .int i, rfl, rfl, ⟨es, n, _, D.at_, D.lit, g, ⟨t, rfl⟩⟩, post_int r1 p⟩
    | _ => exact p.elim
theorem kin_post {o : Opd} (T : KTab X.K X.w d tb) {r : R2} (hr : ∀ z H Q, (∃ r', PySem.W.nsIn X.K d z = some r' ∧ Q (.bl r'.isSome) H) → r (.str z) (.ref d) H Q) : ∀ σ H Q, tE X.K b W (fUn (kinD tb) o) σ H Q → tOp r (tO X.K b W o) (tC (.ref d)) σ H Q := by
  rintro σ H Q ⟨ρ, G, rl, q⟩
  refine stepO rl q fun v H1 ρ1 G1 x r1 s1 d1 q1 => ?_
  obtain ⟨dx, e, p⟩ := of1_post q1
  have vw := d1.vw r1 e
  cases dx with
  | str z =>
    cases vw.da fun l q => nomatch q
    cases el : tb.lookup z with
    | none =>
      rw [show kinD tb (.str z) = some (bol (tb.lookup z).isSome) from rfl, el] at p
      exact hr z H1 Q ⟨_, (T.ns z).2 el, post_bl r1 p⟩
    | some i =>
      rw [show kinD tb (.str z) = some (bol (tb.lookup z).isSome) from rfl, el] at p
      obtain ⟨t, g⟩ := (T.ns z).1 i el
      exact hr z H1 Q ⟨_, g, post_bl r1 p⟩
  | _ => exact p.elim
theorem knin_post {o : Opd} (T : KTab X.K X.w d tb) {r : R2} (hr : ∀ z H Q, (∃ r', PySem.W.nsIn X.K d z = some r' ∧ Q (.bl (!r'.isSome)) H) → r (.str z) (.ref d) H Q) : ∀ σ H Q, tE X.K b W (fUn (kninD tb) o) σ H Q → tOp r (tO X.K b W o) (tC (.ref d)) σ H Q := by
  rintro σ H Q ⟨ρ, G, rl, q⟩
  refine stepO rl q fun v H1 ρ1 G1 x r1 s1 d1 q1 => ?_
  obtain ⟨dx, e, p⟩ := of1_post q1
  have vw := d1.vw r1 e
  cases dx with
  | str z =>
    cases vw.da fun l q => nomatch q
    cases el : tb.lookup z with
    | none =>
      rw [show kninD tb (.str z) = some (bol (!(tb.lookup z).isSome)) from rfl, el] at p
      exact hr z H1 Q ⟨_, (T.ns z).2 el, post_bl r1 p⟩
    | some i =>
      rw [show kninD tb (.str z) = some (bol (!(tb.lookup z).isSome)) from rfl, el] at p
      obtain ⟨t, g⟩ := (T.ns z).1 i el
      exact hr z H1 Q ⟨_, g, post_bl r1 p⟩
  | _ => exact p.elim
theorem e_kin {a ne : Expr} {pos : Pos} {o : Opd} (T : KTab X.K X.w d tb) (hn : PE X ne (tC (.ref d))) (ha : PO2 X b W a o) (hm : behindInMarks .In ne = false := by first | exact nomark _ | rfl) : PE X (.Compare a [.In] [ne] pos) (tE X.K b W (fUn (kinD tb) o)) := by
  obtain ⟨es, n, D, _⟩ := T.ex
  exact PE.imp (pe_cmpR (op_in_kd D) ha hn hm) (kin_post T fun z H Q ⟨r', g, q⟩ => ⟨z, r', rfl, rfl, g, q⟩)
theorem e_knin {a ne : Expr} {pos : Pos} {o : Opd} (T : KTab X.K X.w d tb) (hn : PE X ne (tC (.ref d))) (ha : PO2 X b W a o) (hm : behindInMarks .NotIn ne = false := by first | exact nomark _ | rfl) : PE X (.Compare a [.NotIn] [ne] pos) (tE X.K b W (fUn (kninD tb) o)) := by
  obtain ⟨es, n, D, _⟩ := T.ex
  exact PE.imp (pe_cmpR (op_notIn_kd D) ha hn hm) (knin_post T fun z H Q ⟨r', g, q⟩ => ⟨z, r', rfl, rfl, g, q⟩)
theorem t_kin {a ne : Expr} {pos : Pos} {o : Opd} (T : KTab X.K X.w d tb) (hn : PE X ne (tC (.ref d))) (ha : PO2 X b W a o) (hm : behindInMarks .In ne = false := by first | exact nomark _ | rfl) : PT X (.Compare a [.In] [ne] pos) (tT X.K b W (fTest (fUn (kinD tb) o))) := by
  obtain ⟨es, n, D, _⟩ := T.ex
  exact PT.imp (pt_cmpR (op_in_kd D) ha hn hm) fun σ H Q h => kin_post T (fun z H Q ⟨r', g, q⟩ => ⟨z, r', rfl, rfl, g, q⟩) σ H _ (test_post σ H Q h)
theorem t_knin {a ne : Expr} {pos : Pos} {o : Opd} (T : KTab X.K X.w d tb) (hn : PE X ne (tC (.ref d))) (ha : PO2 X b W a o) (hm : behindInMarks .NotIn ne = false := by first | exact nomark _ | rfl) : PT X (.Compare a [.NotIn] [ne] pos) (tT X.K b W (fTest (fUn (kninD tb) o))) := by
  obtain ⟨es, n, D, _⟩ := T.ex
  exact PT.imp (pt_cmpR (op_notIn_kd D) ha hn hm) fun σ H Q h => knin_post T (fun z H Q ⟨r', g, q⟩ => ⟨z, r', rfl, rfl, g, q⟩) σ H _ (test_post σ H Q h)
theorem e_neg {a : Expr} {pos : Pos} {o : Opd} (ha : PO2 X b W a o) : PE X (.UnaryOp .USub a pos) (tE X.K b W (fUn negD o)) := PE.imp (pe_un un_neg ha) fun σ H Q ⟨ρ, G, r, q⟩ => by
  refine stepO r q fun v H1 ρ1 G1 x r1 s1 d1 q1 => ?_
  obtain ⟨dx, e, p⟩ := of1_post q1
  have vw := d1.vw r1 e
  cases dx with
  | int i =>
    cases vw.da fun l q => nomatch q
    exact ⟨i, rfl, post_int r1 p⟩
  | _ => exact p.elim
end
end Dl
set_option maxHeartbeats 4000000
/-! DlZ: the law's own promise, from what its def does on data. -/
namespace Dl
open PySem PySem.Spec L2
/-- law(script): True, whatever the script's ints are -/
def spLaw (n : Nat) : PySem.W.Frag → Sp := fun K vs H Q _ => ∃ (a : Addr) (ns : List Int), vs = [.ref a] ∧ SqL K H a (ns.map V.int) ∧ ns.length ≤ n ∧ ∀ H', Q (.bl true) H'
section
variable {P : Program} {w : World} {K : PySem.W.Frag} {mg : Str → Option Value} {base : Heap} {k : Nat} {f : Addr} {fd : FuncData} {ps : List Str} {sp sp' : Sp}
theorem FnG.weak (F : FnG P w K mg base k f fd ps sp) (h : ∀ vs H Q E, sp' vs H Q E → sp vs H Q E) : FnG P w K mg base k f fd ps sp' :=
  ⟨fun vs H Q E q => F.len vs H Q E (h _ _ _ _ q), fun A outer s H args us vs Q E g r e b v q => F.run A outer s H args us vs Q E g r e b v (h _ _ _ _ q)⟩
theorem da_ints {G : Hp} : ∀ ns : List Int, DaAll K G (ns.map V.int) (ns.map PyData.int)
  | [] => .nil
  | n :: ns => .cons (.int n) (da_ints ns)
theorem law_sp {cl : Nat → Addr} {F : Fn} {n : Nat} (h : ∀ ns : List Int, ns.length ≤ n → ∃ out, F [.fz (ns.map PyData.int)] = .ok (.d (.bool true)) out) : ∀ vs H Q E, spLaw n K vs H Q E → spF K cl F 1 vs H Q E := by
  rintro vs H Q E ⟨a, ns, rfl, hS, hl, q⟩
  obtain ⟨out, e⟩ := h ns hl
  refine ⟨rfl, H, [.fz (ns.map PyData.int)], none, Same.refl _, ?_, ?_⟩
  · have z := ArgsOk.cons (K := K) (cl := cl) (G := H) (H := H) (v := .ref a) (sv := .fz (ns.map PyData.int)) ⟨a, _, rfl, hS, da_ints ns⟩ .nil
    exact z
  · rw [e]
    intro v G' H' x d
    cases d
    exact q H'
end
end Dl
set_option maxHeartbeats 4000000
/-! DlS: how a def's functional body is computed, step by step: every construct as an equation whose rest waits for the value. -/
namespace Dl
open PySem
/-- an equation that simp is not to take for one by definition: the kernel then follows it step by step -/
theorem nrfl {α : Sort _} {a : α} : a = a := of_eq_true (eq_self a)
section
variable {ρ ρ1 ρ2 : Ev} {x y : D} {l l' : List D} {sv : Sv} {c i j : Nat} {q : Bool} {o : Option Sv}
def orS : Option D → RE → RE | some _, r => r | none, _ => .stuck
def orL : Option (List D) → RE → RE | some _, r => r | none, _ => .stuck
def orLS : Option (List D) → RS → RS | some _, r => r | none, _ => .stuck
def re1 (g : D → Option Sv) : Option D → Ev → RE | some x, ρ => RE.of (g x) ρ | none, _ => .stuck
def re2 (g : D → D → Option Sv) : Option D → Option D → Ev → RE | some x, some y, ρ => RE.of (g x y) ρ | _, _, _ => .stuck
def varR : Option (Option Sv) → Nat → Ev → RE
  | some (some (.d x)), _, ρ => .ok (.d x) ρ
  | some (some (.ow l)), i, ρ => .ok (.d (.list l)) (ρ.set i (some (.d (.list l))))
  | some (some (.ex c)), _, ρ => .ok (.ex c) ρ
  | some (some (.fz l)), _, ρ => .ok (.fz l) ρ
  | _, _, _ => .stuck
def moveR : Option (Option Sv) → Nat → Ev → RE
  | some (some (.d x)), _, ρ => .ok (.d x) ρ
  | some (some (.ow l)), i, ρ => .ok (.ow l) (ρ.set i none)
  | some (some (.ex c)), _, ρ => .ok (.ex c) ρ
  | some (some (.fz l)), _, ρ => .ok (.fz l) ρ
  | _, _, _ => .stuck
def RS.seq (r : RS) (g : Ev → RS) : RS := match r with | .next ρ1 => g ρ1 | r => r
def RT.br (t : RT) (f g : Ev → RS) : RS := match t with | .ok true ρ1 => f ρ1 | .ok false ρ1 => g ρ1 | .raise k ρ1 => .raise k ρ1 | .stuck => .stuck
def RT.brE (t : RT) (f g : Ev → RE) : RE := match t with | .ok true ρ1 => f ρ1 | .ok false ρ1 => g ρ1 | .raise k ρ1 => .raise k ρ1 | .stuck => .stuck
def RT.not (t : RT) : RT := match t with | .ok c ρ1 => .ok (!c) ρ1 | r => r
def RT.andT (t : RT) (g : Ev → RT) : RT := match t with | .ok true ρ1 => g ρ1 | r => r
def RT.orT (t : RT) (g : Ev → RT) : RT := match t with | .ok false ρ1 => g ρ1 | r => r
def RE.argR (r : RE) (k : AV → Ev → RE) : RE := match r with
  | .ok (.d x) ρ1 => k (.dat x) ρ1
  | .ok (.ow l) ρ1 => k (.dat (.list l)) ρ1
  | .ok (.ex c) ρ1 => k (.ex c) ρ1
  | .ok (.fz l) ρ1 => k (.fz l) ρ1
  | .ok (.rf _) _ => .stuck
  | .ok (.px _) _ => .stuck
  | .raise c ρ1 => .raise c ρ1
  | .stuck => .stuck
def callO : Out → List Nat → Ev → RE
  | .ok sv out, is, ρ => .ok sv (putR ρ is out)
  | .raise c out, is, ρ => .raise c (putR ρ is out)
  | .stuck, _, _ => .stuck
def callS (F : Fn) : Option (List Sv) → List Nat → Ev → RE
  | some svs, is, ρ => if is.length ≤ 1 then callO (F svs) is ρ else .stuck
  | none, _, _ => .stuck
def callK (F : Fn) (xs : List AV) (ρ : Ev) : RE := callS F (seen ρ xs) (refs xs) ρ
def seenR : Option (List D) → Option (List Sv) → Option (List Sv) | some l, s => s.map (.rf l :: ·) | none, _ => none
def RI.forK (r : RI) (p : Pat) (body : Ev → RS) : RS := match r with | .ok xs ρ1 => forL p body xs ρ1 | .raise c ρ1 => .raise c ρ1 | .stuck => .stuck
def lcO (vs : List Nat) (ρ1 : Ev) : Option (List D × Ev) → RE | some (ys, ρ2) => if ys.length ≤ sizeLine then .ok (.ow ys) (backE ρ1 ρ2 vs) else .stuck | none => .stuck
def RI.lcK (r : RI) (vs : List Nat) (p : Pat) (fc : Ev → RT) (fe : Ev → RE) : RE := match r with
  | .ok xs ρ1 => if okW ρ1 vs = true then lcO vs ρ1 (lcL vs p fc fe xs (wipeE ρ1 vs)) else .stuck
  | .raise c ρ1 => .raise c ρ1
  | .stuck => .stuck
def riO : Option (List D) → Ev → RI | some xs, ρ => .ok xs ρ | none, _ => .stuck
def appO : Option (List D) → Nat → D → Ev → RS | some l, i, x, ρ => if l.length < sizeLine then .next (putL ρ i (l ++ [x])) else .stuck | none, _, _, _ => .stuck
def setO : D → Option (List D) → Nat → D → Ev → RS
  | .int n, some l, i, x, ρ => match L2.ixN l.length n with | some j => .next (putL ρ i (l.set j x)) | none => .stuck
  | _, _, _, _, _ => .stuck
def setJ (l : List D) (x : D) (i : Nat) (ρ : Ev) : Option Nat → RS | some j => .next (putL ρ i (l.set j x)) | none => .stuck
def lcC (y : D) : Option (List D × Ev) → Option (List D × Ev) | some (ys, ρ4) => some (y :: ys, ρ4) | none => none
def lcE (vs : List Nat) (p : Pat) (fc : Ev → RT) (fe : Ev → RE) (xs : List D) : RE → Option (List D × Ev)
  | .ok (.d y) ρ3 => lcC y (lcL vs p fc fe xs (wipeE ρ3 vs))
  | .ok (.ow l) ρ3 => lcC (.list l) (lcL vs p fc fe xs (wipeE ρ3 vs))
  | _ => none
def lcT (vs : List Nat) (p : Pat) (fc : Ev → RT) (fe : Ev → RE) (xs : List D) : RT → Option (List D × Ev)
  | .ok true ρ2 => lcE vs p fc fe xs (fe ρ2)
  | .ok false ρ2 => lcL vs p fc fe xs (wipeE ρ2 vs)
  | _ => none
def lcB (vs : List Nat) (p : Pat) (fc : Ev → RT) (fe : Ev → RE) (xs : List D) : Option Ev → Option (List D × Ev)
  | some ρ1 => lcT vs p fc fe xs (fc ρ1)
  | none => none
def popO : Option (List D) → Nat → Ev → RE
  | some l, i, ρ => match l[l.length - 1]? with | some x => .ok (.d x) (putL ρ i l.dropLast) | none => .stuck
  | none, _, _ => .stuck
def nextO : Option Ev → RS | some ρ2 => .next ρ2 | none => .stuck
def tryO (i : Nat) (fs : Ev → RS) (c : Nat) (ρ1 : Ev) : Option Bool → RS
  | some true => if okW ρ1 [i] = true then match (fs (ρ1.set i (some (.ex c)))) with
      | .next ρ2 => if okW ρ2 [i] = true then .next (wipeE ρ2 [i]) else .stuck
      | .ret v ρ2 => .ret v ρ2
      | _ => .stuck
      else .stuck
  | some false => .raise c ρ1
  | none => .stuck
def RS.tryK (r : RS) (m : Nat → Option Bool) (i : Nat) (fs : Ev → RS) : RS := match r with | .raise c ρ1 => tryO i fs c ρ1 (m c) | r => r
def isNO (T : D → Option Bool) (E : Nat → Option Bool) : Option (Option Sv) → Ev → RE
  | some (some (.ex c)), ρ => RE.of ((E c).map bol) ρ
  | some (some (.d x)), ρ => RE.of ((T x).map bol) ρ
  | some (some (.ow l)), ρ => RE.of ((T (.list l)).map bol) ρ
  | some (some (.rf l)), ρ => RE.of ((T (.list l)).map bol) ρ
  | _, _ => .stuck
def lenFO : Option (Option Sv) → Ev → RE | some (some (.fz l)), ρ => .ok (.d (.int l.length)) ρ | _, _ => .stuck
def ixFR : Option D → Ev → RE | some y, ρ => .ok (.d y) ρ | none, _ => .stuck
def ixFK (l : List D) : D → Ev → RE | .int j, ρ => ixFR (L2.atI l j) ρ | _, _ => .stuck
def ixFO (f : Ev → RE) : Option (Option Sv) → Ev → RE | some (some (.fz l)), ρ => (f ρ).bindD (ixFK l) | _, _ => .stuck
def m1K (g : D → D → Option Sv) (c : Opd) : D → Ev → RE | .str z, ρ1 => c.run ρ1 fun y ρ2 => RE.of1 (g (.str z)) y ρ2 | _, _ => .stuck
def prK (k : Option Int → Ev → RE) : D → Ev → RE | .int i, ρ1 => k (some i) ρ1 | _, _ => .stuck
def slO (lo hi : Option Int) : Option D → Ev → RE | some x, ρ => RE.of (slD x lo hi) ρ | none, _ => .stuck
def chO (g g' : D → D → Option Sv) (y : Ov) (e : Opd) : Option D → Option D → Ev → RE
  | some dx, some dy, ρ2 => RE.ofB (g dx dy) fun k => if k = true then e.run ρ2 fun z ρ3 => RE.of2 g' y z ρ3 else .ok (bol false) ρ2
  | _, _, _ => .stuck
def bindB0 (k : Bool → Ev → RE) : D → Ev → RE | .bool c, ρ1 => k c ρ1 | _, _ => .stuck
def outO (r : RS) : Out := match r with
  | .ret sv ρ => .ok sv (rfOf ρ)
  | .next ρ => .ok (.d .none) (rfOf ρ)
  | .raise c ρ => .raise c (rfOf ρ)
  | _ => .stuck
namespace S
theorem bindD_d {k} : (RE.ok (.d x) ρ).bindD k = k x ρ := nrfl
theorem bindD_ow {k} : (RE.ok (.ow l) ρ).bindD k = k (.list l) ρ := nrfl
theorem bindD_r {k} : (RE.raise c ρ).bindD k = .raise c ρ := nrfl
theorem toS_ok {k} : (RE.ok sv ρ).toS k = k sv ρ := nrfl
theorem toS_r {k} : (RE.raise c ρ).toS k = .raise c ρ := nrfl
theorem toSD_d {k} : (RE.ok (.d x) ρ).toSD k = k x ρ := nrfl
theorem toSD_ow {k} : (RE.ok (.ow l) ρ).toSD k = k (.list l) ρ := nrfl
theorem toSD_r {k} : (RE.raise c ρ).toSD k = .raise c ρ := nrfl
theorem bol_eq : bol q = .d (.bool q) := nrfl
theorem cast0 : ((0 : Nat) : Int) = 0 := nrfl
theorem cast1 : ((1 : Nat) : Int) = 1 := nrfl
theorem of_some : RE.of (some sv) ρ = .ok sv ρ := nrfl
theorem tst_b : (RE.ok (.d (.bool q)) ρ).tst = .ok q ρ := nrfl
theorem tst_r : (RE.raise c ρ).tst = .raise c ρ := nrfl
theorem run_e {f k} : Opd.run (.e f) ρ k = (f ρ).bindD fun x ρ1 => k (.val x) ρ1 := nrfl
theorem run_n {k} : Opd.run (.n i) ρ k = orS (viewAt ρ i) (k (.nm i) ρ) := by
  show (match viewAt ρ i with | some _ => k (.nm i) ρ | none => .stuck) = _
  cases viewAt ρ i <;> rfl
theorem orS_some {r} : orS (some x) r = r := nrfl
theorem orL_some {r} : orL (some l) r = r := nrfl
theorem orLS_some {r} : orLS (some l) r = r := nrfl
theorem get_val : Ov.get ρ (.val x) = some x := nrfl
theorem get_nm : Ov.get ρ (.nm i) = viewAt ρ i := nrfl
theorem of2_eq {g a c} : RE.of2 g a c ρ = re2 g (a.get ρ) (c.get ρ) ρ := by
  unfold RE.of2 re2
  cases a.get ρ <;> cases c.get ρ <;> rfl
theorem re2_s {g} : re2 g (some x) (some y) ρ = RE.of (g x y) ρ := nrfl
theorem of1_eq {g a} : RE.of1 g a ρ = re1 g (a.get ρ) ρ := by
  unfold RE.of1 re1
  cases a.get ρ <;> rfl
theorem re1_s {g} : re1 g (some x) ρ = RE.of (g x) ρ := nrfl
theorem view_d : viewAt (some (.d x) :: ρ) 0 = some x := nrfl
theorem view_ow : viewAt (some (.ow l) :: ρ) 0 = some (.list l) := nrfl
theorem view_rf : viewAt (some (.rf l) :: ρ) 0 = some (.list l) := nrfl
theorem view_s : viewAt (o :: ρ) (i + 1) = viewAt ρ i := nrfl
theorem rf_d : rfAt (some (.d x) :: ρ) 0 = false := nrfl
theorem rf_ow : rfAt (some (.ow l) :: ρ) 0 = false := nrfl
theorem rf_ex : rfAt (some (.ex c) :: ρ) 0 = false := nrfl
theorem rf_fz : rfAt (some (.fz l) :: ρ) 0 = false := nrfl
theorem rf_n : rfAt (none :: ρ) 0 = false := nrfl
theorem rf_s : rfAt (o :: ρ) (i + 1) = rfAt ρ i := nrfl
theorem own_ow : ownAt (some (.ow l) :: ρ) 0 = some l := nrfl
theorem own_rf : ownAt (some (.rf l) :: ρ) 0 = some l := nrfl
theorem own_s : ownAt (o :: ρ) (i + 1) = ownAt ρ i := nrfl
theorem put_ow : putL (some (.ow l) :: ρ) 0 l' = some (.ow l') :: ρ := nrfl
theorem put_rf : putL (some (.rf l) :: ρ) 0 l' = some (.rf l') :: ρ := nrfl
theorem put_s : putL (o :: ρ) (i + 1) l' = o :: putL ρ i l' := by
  unfold putL
  rw [List.getElem?_cons_succ]
  split <;> first | rfl | (split <;> simp_all)
theorem fC_eq : fC x ρ = .ok (.d x) ρ := nrfl
theorem fVar_eq : fVar i ρ = varR ρ[i]? i ρ := by
  unfold fVar varR
  split <;> simp_all
theorem fMove_eq : fMove i ρ = moveR ρ[i]? i ρ := by
  unfold fMove moveR
  split <;> simp_all
theorem var_d : varR (some (some (.d x))) i ρ = .ok (.d x) ρ := nrfl
theorem var_ow : varR (some (some (.ow l))) i ρ = .ok (.d (.list l)) (ρ.set i (some (.d (.list l)))) := nrfl
theorem var_ex : varR (some (some (.ex c))) i ρ = .ok (.ex c) ρ := nrfl
theorem var_fz : varR (some (some (.fz l))) i ρ = .ok (.fz l) ρ := nrfl
theorem move_d : moveR (some (some (.d x))) i ρ = .ok (.d x) ρ := nrfl
theorem move_ow : moveR (some (some (.ow l))) i ρ = .ok (.ow l) (ρ.set i none) := nrfl
theorem move_ex : moveR (some (some (.ex c))) i ρ = .ok (.ex c) ρ := nrfl
theorem fSet_eq {f} : fSet i f ρ = (f ρ).toS fun sv ρ1 => if rfAt ρ1 i = false then .next (ρ1.set i (some sv)) else .stuck := nrfl
theorem fSeq_eq {f g} : fSeq f g ρ = (f ρ).seq g := by unfold fSeq RS.seq; rfl
theorem seq_next {g} : (RS.next ρ).seq g = g ρ := nrfl
theorem seq_ret {g} : (RS.ret sv ρ).seq g = .ret sv ρ := nrfl
theorem seq_brk {g} : (RS.brk ρ).seq g = .brk ρ := nrfl
theorem seq_cnt {g} : (RS.cnt ρ).seq g = .cnt ρ := nrfl
theorem seq_r {g} : (RS.raise c ρ).seq g = .raise c ρ := nrfl
theorem fSkip_eq : fSkip ρ = .next ρ := nrfl
theorem fIf_eq {t f g} : fIf t f g ρ = (t ρ).br f g := by unfold fIf RT.br; rfl
theorem br_t {f g} : (RT.ok true ρ).br f g = f ρ := nrfl
theorem br_f {f g} : (RT.ok false ρ).br f g = g ρ := nrfl
theorem br_r {f g} : (RT.raise c ρ).br f g = .raise c ρ := nrfl
theorem fIfE_eq {t f g} : fIfE t f g ρ = (t ρ).brE f g := by unfold fIfE RT.brE; rfl
theorem brE_t {f g} : (RT.ok true ρ).brE f g = f ρ := nrfl
theorem brE_f {f g} : (RT.ok false ρ).brE f g = g ρ := nrfl
theorem fRet_eq {f} : fRet f ρ = (f ρ).toS fun sv ρ1 => .ret sv ρ1 := nrfl
theorem fDrop_eq {f} : fDrop f ρ = (f ρ).toS fun _ ρ1 => .next ρ1 := nrfl
theorem fTest_eq {f} : fTest f ρ = (f ρ).tst := nrfl
theorem fYes_eq : fYes ρ = .ok true ρ := nrfl
theorem fNotT_eq {f} : fNotT f ρ = (f ρ).not := by unfold fNotT RT.not; rfl
theorem not_ok : (RT.ok q ρ).not = .ok (!q) ρ := nrfl
theorem not_r : (RT.raise c ρ).not = .raise c ρ := nrfl
theorem fAndT_eq {f g} : fAndT f g ρ = (f ρ).andT g := by unfold fAndT RT.andT; rfl
theorem and_t {g} : (RT.ok true ρ).andT g = g ρ := nrfl
theorem and_f {g} : (RT.ok false ρ).andT g = .ok false ρ := nrfl
theorem and_r {g} : (RT.raise c ρ).andT g = .raise c ρ := nrfl
theorem fOrT_eq {f g} : fOrT f g ρ = (f ρ).orT g := by unfold fOrT RT.orT; rfl
theorem or_t {g} : (RT.ok true ρ).orT g = .ok true ρ := nrfl
theorem or_f {g} : (RT.ok false ρ).orT g = g ρ := nrfl
theorem or_r {g} : (RT.raise c ρ).orT g = .raise c ρ := nrfl
theorem bindB_b {k} : (RE.ok (.d (.bool q)) ρ).bindB k = k q ρ := nrfl
theorem bindB_r {k} : (RE.raise c ρ).bindB k = .raise c ρ := nrfl
theorem fAndV_eq {f g} : fAndV f g ρ = (f ρ).bindB fun c ρ1 => if c = true then g ρ1 else .ok (.d (.bool false)) ρ1 := nrfl
theorem fOrV_eq {f g} : fOrV f g ρ = (f ρ).bindB fun c ρ1 => if c = true then .ok (.d (.bool true)) ρ1 else g ρ1 := nrfl
theorem fNotV_eq {f} : fNotV f ρ = (f ρ).bindB fun c ρ1 => .ok (.d (.bool (!c))) ρ1 := nrfl
theorem runA_nil {k} : runA [] ρ k = k [] ρ := nrfl
theorem runA_cons {f fs k} : runA (f :: fs) ρ k = (f ρ).bindD fun x ρ1 => runA fs ρ1 fun xs ρ2 => k (x :: xs) ρ2 := nrfl
theorem fTup_eq {fs} : fTup fs ρ = runA fs ρ fun xs ρ1 => if xs.length ≤ sizeLine then .ok (.d (.tuple xs)) ρ1 else .stuck := nrfl
theorem fLst_eq {fs} : fLst fs ρ = runA fs ρ fun xs ρ1 => if xs.length ≤ sizeLine then .ok (.ow xs) ρ1 else .stuck := nrfl
theorem fUn_eq {g o} : fUn g o ρ = o.run ρ fun x ρ1 => RE.of1 g x ρ1 := nrfl
theorem fOp_eq {g a e} : fOp g a e ρ = a.run ρ fun x ρ1 => e.run ρ1 fun y ρ2 => RE.of2 g x y ρ2 := nrfl
theorem fChain_eq {g g' a e z} : fChain g g' a e z ρ = a.run ρ fun x ρ1 => e.run ρ1 fun y ρ2 => chO g g' y z (x.get ρ2) (y.get ρ2) ρ2 := by
  unfold fChain
  congr 1
  funext x ρ1
  congr 1
  funext y ρ2
  unfold chO
  split <;> simp_all
theorem ch_s {g g' e z} : chO g g' z e (some x) (some y) ρ = RE.ofB (g x y) fun k => if k = true then e.run ρ fun w ρ3 => RE.of2 g' z w ρ3 else .ok (.d (.bool false)) ρ := nrfl
theorem ofB_s {k} : RE.ofB (some (.d (.bool q))) k = k q := nrfl
theorem pr_no {k} : Prt.run .no ρ k = k none ρ := nrfl
theorem pr_e {f k} : Prt.run (.e f) ρ k = (f ρ).bindD (prK k) := by
  show (f ρ).bindD _ = _
  congr 1
  funext x ρ1
  cases x <;> rfl
theorem prK_i {k} {n : Int} : prK k (.int n) ρ = k (some n) ρ := nrfl
theorem fSl_eq {o' lo hi} : fSl o' lo hi ρ = o'.run ρ fun x ρ1 => lo.run ρ1 fun l ρ2 => hi.run ρ2 fun h ρ3 => slO l h (x.get ρ3) ρ3 := by
  unfold fSl
  congr 1
  funext x ρ1
  congr 1
  funext l ρ2
  congr 1
  funext h ρ3
  unfold slO
  cases x.get ρ3 <;> rfl
theorem sl_s {lo hi} : slO lo hi (some x) ρ = RE.of (slD x lo hi) ρ := nrfl
theorem fM1_eq {g a e} : fM1 g a e ρ = (a ρ).bindD (m1K g e) := by
  unfold fM1
  congr 1
  funext x ρ1
  cases x <;> rfl
theorem m1_s {g e} {z : Str} : m1K g e (.str z) ρ = e.run ρ fun y ρ2 => RE.of1 (g (.str z)) y ρ2 := nrfl
theorem fCall_eq {F as} : fCall F as ρ = runArgs as ρ (callK F) := by
  unfold fCall
  congr 1
  funext xs ρ1
  unfold callK callS
  cases seen ρ1 xs with
  | none => rfl
  | some svs =>
    dsimp only
    by_cases h : (refs xs).length ≤ 1
    · rw [if_pos h, if_pos h]
      unfold callO
      cases F svs <;> rfl
    · rw [if_neg h, if_neg h]
theorem args_nil {k} : runArgs [] ρ k = k [] ρ := nrfl
theorem args_v {f as k} : runArgs (.v f :: as) ρ k = (f ρ).argR fun a ρ1 => runArgs as ρ1 fun xs => k (a :: xs) := by
  rw [runArgs]
  unfold RE.argR
  cases f ρ with
  | ok sv ρ1 => cases sv <;> rfl
  | raise c ρ1 => rfl
  | stuck => rfl
theorem args_r {as k} : runArgs (.r i :: as) ρ k = orL (ownAt ρ i) (runArgs as ρ fun xs => k (.rf i :: xs)) := by
  rw [runArgs]
  cases ownAt ρ i <;> rfl
theorem arg_d {k} : (RE.ok (.d x) ρ).argR k = k (.dat x) ρ := nrfl
theorem arg_ow {k} : (RE.ok (.ow l) ρ).argR k = k (.dat (.list l)) ρ := nrfl
theorem arg_ex {k} : (RE.ok (.ex c) ρ).argR k = k (.ex c) ρ := nrfl
theorem arg_fz {k} : (RE.ok (.fz l) ρ).argR k = k (.fz l) ρ := nrfl
theorem arg_rs {k} : (RE.raise c ρ).argR k = .raise c ρ := nrfl
theorem callK_eq {F xs} : callK F xs ρ = callS F (seen ρ xs) (refs xs) ρ := nrfl
theorem callS_s {F svs is} : callS F (some svs) is ρ = if is.length ≤ 1 then callO (F svs) is ρ else .stuck := nrfl
theorem callO_ok {is} : callO (.ok sv l) is ρ = .ok sv (putR ρ is l) := nrfl
theorem callO_r {is} : callO (.raise c l) is ρ = .raise c (putR ρ is l) := nrfl
theorem seen_nil : seen ρ [] = some [] := nrfl
theorem seen_d {as} : seen ρ (.dat x :: as) = (seen ρ as).map (.d x :: ·) := nrfl
theorem seen_ex {as} : seen ρ (.ex c :: as) = (seen ρ as).map (.ex c :: ·) := nrfl
theorem seen_fz {as} : seen ρ (.fz l :: as) = (seen ρ as).map (.fz l :: ·) := nrfl
theorem seen_rf {as} : seen ρ (.rf i :: as) = seenR (ownAt ρ i) (seen ρ as) := by
  rw [seen]
  cases ownAt ρ i <;> rfl
theorem seenR_s {s} : seenR (some l) s = s.map (.rf l :: ·) := nrfl
theorem refs_nil : refs [] = [] := nrfl
theorem refs_rf {as} : refs (.rf i :: as) = i :: refs as := nrfl
theorem refs_d {as} : refs (.dat x :: as) = refs as := nrfl
theorem refs_ex {as} : refs (.ex c :: as) = refs as := nrfl
theorem refs_fz {as} : refs (.fz l :: as) = refs as := nrfl
theorem putR_nil : putR ρ [] l = ρ := nrfl
theorem putR_one {is} : putR ρ (i :: is) l = putL ρ i l := nrfl
theorem fFor_eq {s p body} : fFor s p body ρ = (s ρ).forK p body := by unfold fFor RI.forK; rfl
theorem forK_ok {p body} : (RI.ok l ρ).forK p body = forL p body l ρ := nrfl
theorem fLc_eq {s vs p fc fe} : fLc s vs p fc fe ρ = (s ρ).lcK vs p fc fe := by
  unfold fLc RI.lcK
  cases s ρ with
  | ok xs ρ1 =>
    dsimp only
    by_cases h : okW ρ1 vs = true
    · rw [if_pos h, if_pos h]
      unfold lcO
      rfl
    · rw [if_neg h, if_neg h]
  | _ => rfl
theorem lcK_ok {vs p fc fe} : (RI.ok l ρ).lcK vs p fc fe = if okW ρ vs = true then lcO vs ρ (lcL vs p fc fe l (wipeE ρ vs)) else .stuck := nrfl
theorem lcO_s {vs} : lcO vs ρ1 (some (l, ρ2)) = if l.length ≤ sizeLine then .ok (.ow l) (backE ρ1 ρ2 vs) else .stuck := nrfl
theorem okW_nil : okW ρ [] = true := nrfl
theorem okW_cons {vs} : okW ρ (i :: vs) = (!rfAt ρ i && okW ρ vs) := nrfl
theorem wipe_nil : wipeE ρ [] = ρ := nrfl
theorem wipe_cons {vs} : wipeE ρ (i :: vs) = (wipeE ρ vs).set i none := nrfl
theorem back_nil : backE ρ1 ρ2 [] = ρ2 := nrfl
theorem back_cons {vs} : backE ρ1 ρ2 (i :: vs) = (backE ρ1 ρ2 vs).set i (keepS ρ1[i]?) := nrfl
theorem keep_n : keepS (some none) = none := nrfl
theorem keep_d : keepS (some (some (.d x))) = some (.d x) := nrfl
theorem keep_ow : keepS (some (some (.ow l))) = none := nrfl
theorem ri_d {k} : RI.of (.ok (.d x) ρ) k = riO (k x) ρ := by
  show (match k x with | some xs => RI.ok xs ρ | none => .stuck) = _
  cases k x <;> rfl
theorem ri_ow {k} : RI.of (.ok (.ow l) ρ) k = riO (k (.list l)) ρ := by
  show (match k (.list l) with | some xs => RI.ok xs ρ | none => .stuck) = _
  cases k (.list l) <;> rfl
theorem ri_r {k} : RI.of (.raise c ρ) k = .raise c ρ := nrfl
theorem riO_s : riO (some l) ρ = .ok l ρ := nrfl
theorem kSeq_l : kSeq (.list l) = some l := nrfl
theorem kSeq_t : kSeq (.tuple l) = some l := nrfl
theorem fApp_eq {f} : fApp i f ρ = orLS (ownAt ρ i) ((f ρ).toSD fun x ρ1 => appO (ownAt ρ1 i) i x ρ1) := by
  unfold fApp
  cases ownAt ρ i with
  | none => rfl
  | some m =>
    show (f ρ).toSD _ = (f ρ).toSD _
    congr 1
    funext x ρ1
    cases ownAt ρ1 i <;> rfl
theorem app_s : appO (some l) i x ρ = if l.length < sizeLine then .next (putL ρ i (l ++ [x])) else .stuck := nrfl
theorem fSetIx_eq {fk f} : fSetIx i fk f ρ = (f ρ).toSD fun x ρ1 => orLS (ownAt ρ1 i) ((fk ρ1).toSD fun k ρ2 => setO k (ownAt ρ2 i) i x ρ2) := by
  unfold fSetIx
  congr 1
  funext x ρ1
  cases ownAt ρ1 i with
  | none => rfl
  | some m =>
    show (fk ρ1).toSD _ = (fk ρ1).toSD _
    congr 1
    funext k ρ2
    cases k <;> cases ownAt ρ2 i <;> first | rfl | (unfold setO; rfl)
theorem set_s {n : Int} : setO (.int n) (some l) i x ρ = setJ l x i ρ (L2.ixN l.length n) := by
  show (match L2.ixN l.length n with | some j => RS.next (putL ρ i (l.set j x)) | none => .stuck) = _
  cases L2.ixN l.length n <;> rfl
theorem setJ_s : setJ l x i ρ (some j) = .next (putL ρ i (l.set j x)) := nrfl
theorem ixN0 : L2.ixN (j + 1) 0 = some 0 := by
  unfold L2.ixN
  rw [if_pos (by decide), if_pos (by omega)]
  rfl
theorem fUnp_eq {p f} : fUnp p f ρ = (f ρ).toSD fun x ρ1 => nextO (bindP p x ρ1) := by
  unfold fUnp
  congr 1
theorem nextO_s : nextO (some ρ) = .next ρ := nrfl
theorem bind_n : bindP (.n i) x ρ = if rfAt ρ i = false then some (ρ.set i (some (.d x))) else none := by rw [bindP]
theorem bind_t {ps} : bindP (.t ps) (.tuple l) ρ = bindPs ps l ρ := by rw [bindP]
theorem binds_nil : bindPs [] [] ρ = some ρ := by rw [bindPs]
theorem binds_cons {p ps} : bindPs (p :: ps) (x :: l) ρ = (bindP p x ρ).bind fun ρ1 => bindPs ps l ρ1 := by
  rw [bindPs]
  cases bindP p x ρ <;> rfl
theorem bind_some {α β : Type} {a : α} {f : α → Option β} : (some a).bind f = f a := nrfl
theorem fRaise_eq : fRaise c ρ = .raise c ρ := nrfl
theorem fTryAs_eq {m fb fs} : fTryAs m i fb fs ρ = (fb ρ).tryK m i fs := by
  unfold fTryAs RS.tryK
  cases fb ρ with
  | raise c ρ1 =>
    dsimp only
    unfold tryO
    cases m c with
    | none => rfl
    | some b => cases b <;> rfl
  | _ => rfl
theorem try_next {m fs} : (RS.next ρ).tryK m i fs = .next ρ := nrfl
theorem try_ret {m fs} : (RS.ret sv ρ).tryK m i fs = .ret sv ρ := nrfl
theorem try_r {m fs} : (RS.raise c ρ).tryK m i fs = tryO i fs c ρ (m c) := nrfl
theorem try_t {fs} : tryO i fs c ρ (some true) = if okW ρ [i] = true then match (fs (ρ.set i (some (.ex c)))) with
      | .next ρ2 => if okW ρ2 [i] = true then .next (wipeE ρ2 [i]) else .stuck
      | .ret v ρ2 => .ret v ρ2
      | _ => .stuck
      else .stuck := nrfl
theorem try_f {fs} : tryO i fs c ρ (some false) = .raise c ρ := nrfl
theorem fIsN_eq {T E} : fIsN i T E ρ = isNO T E ρ[i]? ρ := by
  unfold fIsN isNO viewAt
  split
  · rename_i h; rw [h]
  · rename_i h
    cases e : ρ[i]? with
    | none => rfl
    | some o =>
      cases o with
      | none => rfl
      | some sv => cases sv <;> first | rfl | exact absurd e (h _)
theorem isN_ex {T E} : isNO T E (some (some (.ex c))) ρ = RE.of ((E c).map bol) ρ := nrfl
theorem isN_d {T E} : isNO T E (some (some (.d x))) ρ = RE.of ((T x).map bol) ρ := nrfl
theorem isN_ow {T E} : isNO T E (some (some (.ow l))) ρ = RE.of ((T (.list l)).map bol) ρ := nrfl
theorem isN_rf {T E} : isNO T E (some (some (.rf l))) ρ = RE.of ((T (.list l)).map bol) ρ := nrfl
theorem fIsE_eq {f T} : fIsE f T ρ = (f ρ).bindD fun x ρ1 => RE.of ((T x).map bol) ρ1 := nrfl
theorem fLenF_eq : fLenF i ρ = lenFO ρ[i]? ρ := by
  unfold fLenF lenFO
  split <;> simp_all
theorem lenF_s : lenFO (some (some (.fz l))) ρ = .ok (.d (.int l.length)) ρ := nrfl
theorem fIxF_eq {f} : fIxF i f ρ = ixFO f ρ[i]? ρ := by
  unfold fIxF ixFO
  split
  · rename_i m h
    rw [h]
    dsimp only
    congr 1
    funext y ρ1
    cases y <;> first | rfl | (unfold ixFK ixFR; dsimp only; split <;> simp_all)
  · rename_i h
    cases e : ρ[i]? with
    | none => rfl
    | some o =>
      cases o with
      | none => rfl
      | some sv => cases sv <;> first | rfl | exact absurd e (h _)
theorem ixF_s {f} : ixFO f (some (some (.fz l))) ρ = (f ρ).bindD (ixFK l) := nrfl
theorem ixFK_i {n : Int} : ixFK l (.int n) ρ = ixFR (L2.atI l n) ρ := nrfl
theorem ixFR_s : ixFR (some x) ρ = .ok (.d x) ρ := nrfl
theorem runF_eq {n f svs} : runF n f svs = outO (f (svs.map some ++ List.replicate (n - svs.length) none)) := by
  unfold runF outO
  rfl
theorem out_ret : outO (.ret sv ρ) = .ok sv (rfOf ρ) := nrfl
theorem out_next : outO (.next ρ) = .ok (.d .none) (rfOf ρ) := nrfl
theorem out_r : outO (.raise c ρ) = .raise c (rfOf ρ) := nrfl
theorem rfOf_nil : rfOf [] = [] := nrfl
theorem rfOf_rf : rfOf (some (.rf l) :: ρ) = l := nrfl
theorem rfOf_n : rfOf (none :: ρ) = rfOf ρ := nrfl
theorem rfOf_d : rfOf (some (.d x) :: ρ) = rfOf ρ := nrfl
theorem rfOf_ow : rfOf (some (.ow l) :: ρ) = rfOf ρ := nrfl
theorem rfOf_ex : rfOf (some (.ex c) :: ρ) = rfOf ρ := nrfl
theorem rfOf_fz : rfOf (some (.fz l) :: ρ) = rfOf ρ := nrfl
theorem for_nil {p body} : forL p body [] ρ = .next ρ := nrfl
theorem lc_nil {vs p fc fe} : lcL vs p fc fe [] ρ = some ([], ρ) := nrfl
theorem lc_cons {vs p fc fe} : lcL vs p fc fe (x :: l) ρ = lcB vs p fc fe l (bindP p x ρ) := by
  rw [lcL]
  cases bindP p x ρ with
  | none => rfl
  | some ρ1 =>
    unfold lcB lcT
    dsimp only
    cases fc ρ1 with
    | raise c ρ2 => rfl
    | stuck => rfl
    | ok c ρ2 =>
      cases c with
      | false => rfl
      | true =>
        unfold lcE
        dsimp only
        cases fe ρ2 with
        | raise c ρ2 => rfl
        | stuck => rfl
        | ok sv ρ3 =>
          unfold lcC Sv.dat?
          cases sv <;> dsimp only <;> cases lcL vs p fc fe l (wipeE ρ3 vs) <;> rfl
theorem lcB_s {vs p fc fe} : lcB vs p fc fe l (some ρ) = lcT vs p fc fe l (fc ρ) := nrfl
theorem lcT_t {vs p fc fe} : lcT vs p fc fe l (.ok true ρ) = lcE vs p fc fe l (fe ρ) := nrfl
theorem lcT_f {vs p fc fe} : lcT vs p fc fe l (.ok false ρ) = lcL vs p fc fe l (wipeE ρ vs) := nrfl
theorem lcE_d {vs p fc fe} : lcE vs p fc fe l (.ok (.d y) ρ) = lcC y (lcL vs p fc fe l (wipeE ρ vs)) := nrfl
theorem lcE_ow {vs p fc fe} : lcE vs p fc fe l (.ok (.ow l') ρ) = lcC (.list l') (lcL vs p fc fe l (wipeE ρ vs)) := nrfl
theorem lcC_s : lcC y (some (l, ρ)) = some (y :: l, ρ) := nrfl
theorem ints_nil : intsOf [] = some [] := nrfl
theorem ints_cons {n : Int} : intsOf (.int n :: l) = (intsOf l).map (n :: ·) := nrfl
theorem bools_nil : boolsOf [] = some [] := nrfl
theorem bools_cons : boolsOf (.bool q :: l) = (boolsOf l).map (q :: ·) := nrfl
theorem strs_nil : strsOf [] = some [] := nrfl
theorem strs_cons {z : Str} : strsOf (.str z :: l) = (strsOf l).map (z :: ·) := nrfl
theorem sumL : sumD (.list l) = (intsOf l).map fun ns => .d (.int ns.sum) := nrfl
theorem allL : allD (.list l) = (boolsOf l).map fun ns => .d (.bool (ns.all id)) := nrfl
theorem anyL : anyD (.list l) = (boolsOf l).map fun ns => .d (.bool (ns.any id)) := nrfl
def joinO (a : Str) : Option (List Str) → Option Sv | some ys => if (ys.map Str.length).sum + ys.length * a.length ≤ 16777216 then some (.d (.str (Txt.join a ys))) else none | none => none
theorem join_eq {a : Str} : joinD (.str a) (.list l) = joinO a (strsOf l) := by
  show (match strsOf l with | some ys => if (ys.map Str.length).sum + ys.length * a.length ≤ 16777216 then some (Sv.d (.str (Txt.join a ys))) else none | none => none) = _
  cases strsOf l <;> rfl
theorem joinO_s {a : Str} {ys : List Str} : joinO a (some ys) = if (ys.map Str.length).sum + ys.length * a.length ≤ 16777216 then some (.d (.str (Txt.join a ys))) else none := nrfl
theorem addI {a b : Int} : addD (.int a) (.int b) = some (.d (.int (a + b))) := nrfl
theorem subI {a b : Int} : subD (.int a) (.int b) = some (.d (.int (a - b))) := nrfl
theorem mulI {a b : Int} : mulD (.int a) (.int b) = if a.natAbs.log2 + b.natAbs.log2 < 1000000 then some (.d (.int (a * b))) else none := nrfl
theorem divI {a b : Int} : fdivD (.int a) (.int b) = if 0 < b ∧ b.natAbs.log2 < 9000 then some (.d (.int (a / b))) else none := nrfl
theorem modI {a b : Int} : modD (.int a) (.int b) = if 0 < b then some (.d (.int (a % b))) else none := nrfl
theorem powI {a b : Int} : powD (.int a) (.int b) = if 0 ≤ b ∧ b ≤ 1000000 ∧ a.natAbs < 2 ^ 64 then some (.d (.int (a ^ b.toNat))) else none := nrfl
theorem ltI {a b : Int} : ltD (.int a) (.int b) = some (.d (.bool (decide (a < b)))) := nrfl
theorem leI {a b : Int} : leD (.int a) (.int b) = some (.d (.bool (decide (a ≤ b)))) := nrfl
theorem gtI {a b : Int} : gtD (.int a) (.int b) = some (.d (.bool (decide (b < a)))) := nrfl
theorem geI {a b : Int} : geD (.int a) (.int b) = some (.d (.bool (decide (b ≤ a)))) := nrfl
theorem maxI {a b : Int} : maxD (.int a) (.int b) = some (.d (.int (if b > a then b else a))) := nrfl
theorem minI {a b : Int} : minD (.int a) (.int b) = some (.d (.int (if b < a then b else a))) := nrfl
theorem eqI {a b : Int} : eqD (.int a) (.int b) = some (.d (.bool (decide (a = b)))) := by
  simp [eqD, eqB, SeqAt.shaped, PyData.eqv, bol, PyData.canLay0, PyData.depth]
  rfl
theorem neI {a b : Int} : neD (.int a) (.int b) = some (.d (.bool (!decide (a = b)))) := by
  simp [neD, eqB, SeqAt.shaped, PyData.eqv, bol, PyData.canLay0, PyData.depth]
  rfl
theorem eqS {a b : Str} : eqD (.str a) (.str b) = some (.d (.bool (a == b))) := nrfl
theorem neS {a b : Str} : neD (.str a) (.str b) = some (.d (.bool (!(a == b)))) := nrfl
theorem addS {a b : Str} : addD (.str a) (.str b) = if a.length + b.length ≤ sizeLine then some (.d (.str (a ++ b))) else none := nrfl
theorem addT : addD (.tuple l) (.tuple l') = if l.length + l'.length ≤ sizeLine then some (.d (.tuple (l ++ l'))) else none := nrfl
theorem addL : addD (.list l) (.list l') = if l.length + l'.length ≤ sizeLine then some (.ow (l ++ l')) else none := nrfl
theorem ixT {n : Int} : ixD (.tuple l) (.int n) = (L2.atI l n).map .d := nrfl
theorem ixL {n : Int} : ixD (.list l) (.int n) = (L2.atI l n).map .d := nrfl
theorem lenL : lenD (.list l) = some (.d (.int l.length)) := nrfl
theorem lenT : lenD (.tuple l) = some (.d (.int l.length)) := nrfl
theorem lenS {z : Str} : lenD (.str z) = if z.length ≤ sizeLine then some (.d (.int z.length)) else none := nrfl
theorem tupL : tupleD (.list l) = some (.d (.tuple l)) := nrfl
theorem tupT : tupleD (.tuple l) = some (.d (.tuple l)) := nrfl
theorem lisL : listD (.list l) = some (.ow l) := nrfl
theorem lisT : listD (.tuple l) = some (.ow l) := nrfl
theorem strI {n : Int} : strD (.int n) = if n.natAbs.log2 < 1920 then some (.d (.str (toString n))) else none := nrfl
theorem strS {z : Str} : strD (.str z) = some (.d (.str z)) := nrfl
theorem map_s {α β : Type} {f : α → β} {a : α} : Option.map f (some a) = some (f a) := nrfl
theorem at0 : L2.atI (x :: l) 0 = some x := by unfold L2.atI L2.ixN; simp
theorem at1 : L2.atI (y :: x :: l) 1 = some x := by
  unfold L2.atI L2.ixN
  rw [if_pos (by decide), if_pos (by simp only [List.length_cons]; omega)]
  rfl
theorem at2 {z : D} : L2.atI (z :: y :: x :: l) 2 = some x := by
  unfold L2.atI L2.ixN
  rw [if_pos (by decide), if_pos (by simp only [List.length_cons]; omega)]
  rfl
end S
end

/-! ### loops -/
section
variable {ρ ρ1 ρ2 : Ev} {x : D} {l : List D}
def whN (c : Ev → RT) (body : Ev → RS) (n : Nat) : RS → RS
  | .next ρ2 => whileL c body n ρ2
  | .cnt ρ2 => whileL c body n ρ2
  | .brk ρ2 => .next ρ2
  | r => r
def whK (c : Ev → RT) (body : Ev → RS) (n : Nat) : RT → RS
  | .ok true ρ1 => whN c body n (body ρ1)
  | .ok false ρ1 => .next ρ1
  | .raise k ρ1 => .raise k ρ1
  | .stuck => .stuck
namespace S
theorem while_s {c : Ev → RT} {body : Ev → RS} {n : Nat} : whileL c body (n + 1) ρ = whK c body n (c ρ) := by
  rw [whileL]
  unfold whK
  cases c ρ with
  | ok q ρ1 =>
    cases q with
    | false => rfl
    | true =>
      unfold whN
      dsimp only
      all_goals (cases body ρ1 <;> rfl)
  | _ => rfl
theorem whK_t {c : Ev → RT} {body : Ev → RS} {n : Nat} : whK c body n (.ok true ρ) = whN c body n (body ρ) := nrfl
theorem whK_f {c : Ev → RT} {body : Ev → RS} {n : Nat} : whK c body n (.ok false ρ) = .next ρ := nrfl
theorem whN_n {c : Ev → RT} {body : Ev → RS} {n : Nat} : whN c body n (.next ρ) = whileL c body n ρ := nrfl
end S
def frS (p : Pat) (body : Ev → RS) (xs : List D) : RS → RS
  | .next ρ2 => forL p body xs ρ2
  | .cnt ρ2 => forL p body xs ρ2
  | .brk ρ2 => .next ρ2
  | r => r
def frB (p : Pat) (body : Ev → RS) (xs : List D) : Option Ev → RS
  | some ρ1 => frS p body xs (body ρ1)
  | none => .stuck
namespace S
theorem for_cons {p : Pat} {body : Ev → RS} : forL p body (x :: l) ρ = frB p body l (bindP p x ρ) := by
  rw [forL]
  cases bindP p x ρ with
  | none => rfl
  | some ρ1 =>
    unfold frB frS
    dsimp only
    all_goals (cases body ρ1 <;> rfl)
theorem frB_s {p : Pat} {body : Ev → RS} : frB p body l (some ρ) = frS p body l (body ρ) := nrfl
theorem frS_n {p : Pat} {body : Ev → RS} : frS p body l (.next ρ) = forL p body l ρ := nrfl
theorem frS_c {p : Pat} {body : Ev → RS} : frS p body l (.cnt ρ) = forL p body l ρ := nrfl
theorem frS_b {p : Pat} {body : Ev → RS} : frS p body l (.brk ρ) = .next ρ := nrfl
end S
/-- a for loop whose turns all go on -/
theorem for_list {p : Pat} {body : Ev → RS} {I : Nat → Ev → Prop} : ∀ (xs : List D) (i : Nat) (ρ : Ev), (∀ j x ρ, xs[j]? = some x → I (i + j) ρ → ∃ ρ1 ρ2, bindP p x ρ = some ρ1 ∧ body ρ1 = .next ρ2 ∧ I (i + j + 1) ρ2) → I i ρ → ∃ ρ', forL p body xs ρ = .next ρ' ∧ I (i + xs.length) ρ'
  | [], i, ρ, _, h => ⟨ρ, rfl, h⟩
  | x :: xs, i, ρ, st, h => by
    obtain ⟨ρ1, ρ2, e1, e2, h2⟩ := st 0 x ρ rfl h
    obtain ⟨ρ', e3, h3⟩ := for_list (I := I) xs (i + 1) ρ2 (fun j y r e hj => by
      have := st (j + 1) y r (by simpa using e) (by rw [show i + (j + 1) = i + 1 + j by omega]; exact hj)
      rw [show i + (j + 1) = i + 1 + j by omega] at this
      exact this) h2
    refine ⟨ρ', ?_, by rw [List.length_cons, show i + (xs.length + 1) = i + 1 + xs.length by omega]; exact h3⟩
    rw [forL, e1]
    dsimp only
    rw [e2]
    exact e3
theorem for_up {p : Pat} {body : Ev → RS} {I : Nat → Ev → Prop} {lo : Int} {n : Nat} {ρ : Ev} (st : ∀ j ρ, j < n → I j ρ → ∃ ρ1 ρ2, bindP p (.int (lo + (j : Nat))) ρ = some ρ1 ∧ body ρ1 = .next ρ2 ∧ I (j + 1) ρ2) (h : I 0 ρ) :
    ∃ ρ', forL p body (upFrom lo n) ρ = .next ρ' ∧ I n ρ' := by
  obtain ⟨ρ', e, h2⟩ := for_list (I := I) (upFrom lo n) 0 ρ (fun j x r e hj => by
    rw [Nat.zero_add] at hj ⊢
    have hl : j < n := by
      have := (List.getElem?_eq_some_iff.mp e).1
      rw [len_up] at this
      exact this
    have hx : x = .int (lo + (j : Nat)) := by
      unfold upFrom at e
      rw [List.getElem?_map, List.getElem?_range hl] at e
      exact (Option.some.inj e).symm
    subst hx
    exact st j r hl hj) h
  rw [len_up, Nat.zero_add] at h2
  exact ⟨ρ', e, h2⟩
/-- for x in range(n): x's slot is v -/
theorem for_n {v : Nat} {body : Ev → RS} {I : Nat → Ev → Prop} {n : Nat} {ρ : Ev} (st : ∀ j ρ, j < n → I j ρ → rfAt ρ v = false ∧ ∃ ρ2, body (ρ.set v (some (.d (.int (j : Nat))))) = .next ρ2 ∧ I (j + 1) ρ2) (h : I 0 ρ) :
    ∃ ρ', forL (.n v) body (upFrom 0 n) ρ = .next ρ' ∧ I n ρ' := for_up (fun j r hj hi => by
      obtain ⟨h1, ρ2, h2, h3⟩ := st j r hj hi
      refine ⟨_, ρ2, ?_, h2, h3⟩
      rw [S.bind_n, if_pos h1, Int.zero_add]) h
theorem kRng_up {n : Nat} (h : n < 4611686018427387904) : kRng (.int (n : Nat)) = some (upFrom 0 n) := by
  unfold kRng
  dsimp only
  rw [if_pos ⟨by omega, by omega⟩]
  simp
end

/-! ### texts by their code points -/
theorem S_len (z : List Nat) : (SX.S z).length = z.length := SX.S_len z
theorem cut_S (z : List Nat) {i : Nat} : L2.cutS (SX.S z) (some ((i : Nat) : Int)) (some (((i : Nat) : Int) + 1)) = SX.S ((z.drop i).take 1) := by
  unfold L2.cutS
  rw [SX.S_len, show ((i : Nat) : Int) + 1 = ((i + 1 : Nat) : Int) by omega]
  rw [HT.sIx_nat, HT.sIx_nat]
  show SX.S _ = _
  congr 1
  show (z.drop (min i z.length)).take (min (i + 1) z.length - min i z.length) = _
  by_cases h : i < z.length
  · rw [Nat.min_eq_left (by omega), Nat.min_eq_left (by omega), show i + 1 - i = 1 by omega]
  · rw [List.drop_eq_nil_of_le (by omega), List.drop_eq_nil_of_le (by omega)]
    simp
/-- text[i:i+1] -/
theorem sl_one {z : List Nat} {a b : Int} {i : Nat} (hz : z.length ≤ 16777216) (ha : a = (i : Int)) (hb : b = a + 1) : slD (.str (SX.S z)) (some a) (some b) = some (.d (.str (SX.S ((z.drop i).take 1)))) := by
  subst ha hb
  unfold slD
  dsimp only
  rw [S_len, if_pos (by rw [sizeLine_eq]; exact hz), cut_S]
/-- text[i] -/
theorem ix_one {z : List Nat} {a : Int} {i c : Nat} (hz : z.length ≤ 16777216) (ha : a = (i : Int)) (hc : z[i]? = some c) : ixD (.str (SX.S z)) (.int a) = some (.d (.str (SX.S [c]))) := by
  subst ha
  unfold ixD
  dsimp only
  rw [S_len, if_pos (by rw [sizeLine_eq]; exact hz)]
  show (L2.atI z _).map _ = _
  rw [L2.atI_nat hc]
  rfl
theorem log_le {a : Nat} {k : Nat} (h : a < 2 ^ k) (hk : 0 < k) : a.log2 < k := by
  by_cases e : a = 0
  · subst e; rw [Nat.log2_zero]; exact hk
  · exact (Nat.log2_lt e).mpr h
/-- ints of no great length may be multiplied -/
theorem mul_small {a b : Int} (ha : a.natAbs < 2 ^ 4000) (hb : b.natAbs < 2 ^ 4000) : a.natAbs.log2 + b.natAbs.log2 < 1000000 := by
  have := log_le ha (by omega)
  have := log_le hb (by omega)
  omega
theorem pow_big {a : Nat} {n : Nat} (h : a < n) (hn : n ≤ 2 ^ 4000) : a < 2 ^ 4000 := Nat.lt_of_lt_of_le h hn
end Dl

local macro_rules
  | `(tactic| simp_arith) => `(tactic| simp_arith [])
  | `(tactic| simp_arith [$ls,*]) => `(tactic| simp only [Dl.S.bindD_d, Dl.S.bindD_ow, Dl.S.bindD_r, Dl.S.toS_ok, Dl.S.toS_r, Dl.S.toSD_d, Dl.S.toSD_ow, Dl.S.toSD_r, Dl.S.of_some, Dl.S.tst_b, Dl.S.tst_r, Dl.S.run_e, Dl.S.run_n, Dl.S.orS_some, Dl.S.orL_some, Dl.S.orLS_some, Dl.S.get_val, Dl.S.get_nm, Dl.S.of2_eq, Dl.S.re2_s, Dl.S.of1_eq, Dl.S.re1_s,
      Dl.S.view_d, Dl.S.view_ow, Dl.S.view_rf, Dl.S.view_s, Dl.S.rf_d, Dl.S.rf_ow, Dl.S.rf_ex, Dl.S.rf_fz, Dl.S.rf_n, Dl.S.rf_s, Dl.S.own_ow, Dl.S.own_rf, Dl.S.own_s, Dl.S.put_ow, Dl.S.put_rf, Dl.S.put_s, Dl.S.fC_eq, Dl.S.fVar_eq, Dl.S.fMove_eq, Dl.S.var_d, Dl.S.var_ow, Dl.S.var_ex, Dl.S.var_fz, Dl.S.move_d, Dl.S.move_ow, Dl.S.move_ex, Dl.S.fSet_eq, Dl.S.fSeq_eq,
      Dl.S.seq_next, Dl.S.seq_ret, Dl.S.seq_brk, Dl.S.seq_cnt, Dl.S.seq_r, Dl.S.fSkip_eq, Dl.S.fIf_eq, Dl.S.br_t, Dl.S.br_f, Dl.S.br_r, Dl.S.fIfE_eq, Dl.S.brE_t, Dl.S.brE_f, Dl.S.fRet_eq, Dl.S.fDrop_eq, Dl.S.fTest_eq, Dl.S.fYes_eq, Dl.S.fNotT_eq, Dl.S.not_ok, Dl.S.not_r, Dl.S.fAndT_eq, Dl.S.and_t, Dl.S.and_f, Dl.S.and_r, Dl.S.fOrT_eq, Dl.S.or_t, Dl.S.or_f, Dl.S.or_r,
      Dl.S.bindB_b, Dl.S.bindB_r, Dl.S.fAndV_eq, Dl.S.fOrV_eq, Dl.S.fNotV_eq, Dl.S.runA_nil, Dl.S.runA_cons, Dl.S.fTup_eq, Dl.S.fLst_eq, Dl.S.fUn_eq, Dl.S.fOp_eq, Dl.S.fChain_eq, Dl.S.ch_s, Dl.S.ofB_s, Dl.S.pr_no, Dl.S.pr_e, Dl.S.prK_i, Dl.S.fSl_eq, Dl.S.sl_s, Dl.S.fM1_eq, Dl.S.m1_s, Dl.S.fCall_eq, Dl.S.args_nil, Dl.S.args_v, Dl.S.args_r, Dl.S.arg_d, Dl.S.arg_ow, Dl.S.arg_ex,
      Dl.S.arg_fz, Dl.S.arg_rs, Dl.S.callK_eq, Dl.S.callS_s, Dl.S.callO_ok, Dl.S.callO_r, Dl.S.seen_nil, Dl.S.seen_d, Dl.S.seen_ex, Dl.S.seen_fz, Dl.S.seen_rf, Dl.S.seenR_s, Dl.S.refs_nil, Dl.S.refs_rf, Dl.S.refs_d, Dl.S.refs_ex, Dl.S.refs_fz, Dl.S.putR_nil, Dl.S.putR_one, Dl.S.fFor_eq, Dl.S.forK_ok, Dl.S.fLc_eq, Dl.S.lcK_ok, Dl.S.lcO_s, Dl.S.okW_nil, Dl.S.okW_cons,
      Dl.S.wipe_nil, Dl.S.wipe_cons, Dl.S.back_nil, Dl.S.back_cons, Dl.S.keep_n, Dl.S.keep_d, Dl.S.keep_ow, Dl.S.ri_d, Dl.S.ri_ow, Dl.S.ri_r, Dl.S.riO_s, Dl.S.kSeq_l, Dl.S.kSeq_t, Dl.S.fApp_eq, Dl.S.app_s, Dl.S.fSetIx_eq, Dl.S.set_s, Dl.S.setJ_s, Dl.S.ixN0, Dl.S.fUnp_eq, Dl.S.nextO_s, Dl.S.bind_n, Dl.S.bind_t, Dl.S.binds_nil, Dl.S.binds_cons, Dl.S.bind_some, Dl.S.fRaise_eq, Dl.S.fTryAs_eq,
      Dl.S.try_next, Dl.S.try_ret, Dl.S.try_r, Dl.S.try_t, Dl.S.try_f, Dl.S.fIsN_eq, Dl.S.isN_ex, Dl.S.isN_d, Dl.S.isN_ow, Dl.S.isN_rf, Dl.S.fIsE_eq, Dl.S.fLenF_eq, Dl.S.lenF_s, Dl.S.fIxF_eq, Dl.S.ixF_s, Dl.S.ixFK_i, Dl.S.ixFR_s, Dl.S.runF_eq, Dl.S.out_ret, Dl.S.out_next, Dl.S.out_r, Dl.S.rfOf_nil, Dl.S.rfOf_rf, Dl.S.rfOf_n, Dl.S.rfOf_d, Dl.S.rfOf_ow, Dl.S.rfOf_ex, Dl.S.rfOf_fz, Dl.S.for_nil, Dl.S.lc_nil, Dl.S.whK_t, Dl.S.whK_f, Dl.S.whN_n, Dl.S.for_cons, Dl.S.frB_s, Dl.S.frS_n, Dl.S.frS_c, Dl.S.frS_b,
      Dl.S.lc_cons, Dl.S.lcB_s, Dl.S.lcT_t, Dl.S.lcT_f, Dl.S.lcE_d, Dl.S.lcE_ow, Dl.S.lcC_s, Dl.S.ints_nil, Dl.S.ints_cons, Dl.S.bools_nil, Dl.S.bools_cons, Dl.S.strs_nil, Dl.S.strs_cons, Dl.S.sumL, Dl.S.allL, Dl.S.anyL, Dl.S.join_eq, Dl.S.joinO_s, List.sum_cons, List.sum_nil, List.all_cons, List.all_nil, List.any_cons, List.any_nil, id_eq, Dl.S.addI, Dl.S.subI, Dl.S.mulI, Dl.S.divI, Dl.S.modI, Dl.S.powI, Dl.S.ltI, Dl.S.leI, Dl.S.gtI, Dl.S.geI, Dl.S.maxI, Dl.S.minI, Dl.S.eqI, Dl.S.neI, Dl.S.eqS, Dl.S.neS, Dl.S.addS, Dl.S.addT, Dl.S.addL, Dl.S.ixT, Dl.S.ixL, Dl.S.lenL, Dl.S.lenT, Dl.S.lenS, Dl.S.tupL, Dl.S.tupT, Dl.S.lisL, Dl.S.lisT, Dl.S.strS, Dl.S.map_s, Dl.S.at0, Dl.S.at1, Dl.S.at2,
      List.map_cons, List.map_nil, List.length_cons, List.length_nil, List.replicate, List.cons_append, List.nil_append, List.getElem?_cons_zero, List.getElem?_cons_succ, List.set_cons_zero, List.set_cons_succ, PySem.sizeLine_eq, reduceIte, if_true, if_false, Bool.not_true, Bool.not_false, Bool.and_true, Bool.true_and,
      Dl.S.bol_eq, Dl.S.cast0, Dl.S.cast1, Int.cast_ofNat_Int, Int.reduceLT, Int.reduceLE, Int.reduceEq, Int.reduceNe, Int.reduceAdd, Int.reduceSub, Int.reduceMul, Int.reduceNeg, Int.reduceToNat, Nat.reduceLT, Nat.reduceMul, Nat.reducePow, Nat.reduceAdd, Nat.reduceSub, Nat.reduceLeDiff, Nat.reduceEqDiff, Bool.false_eq_true, and_self, true_and, and_true, decide_true, decide_false, eq_self, ite_true, ite_false, $ls,*])
local macro_rules
  | `(tactic| simp_all_arith) => `(tactic| simp_all_arith [])
  | `(tactic| simp_all_arith [$ls,*]) => `(tactic| simp (disch := first | omega | assumption) only [if_pos, if_neg, decide_eq_true, decide_eq_false, Dl.S.bindD_d, Dl.S.bindD_ow, Dl.S.bindD_r, Dl.S.toS_ok, Dl.S.toS_r, Dl.S.toSD_d, Dl.S.toSD_ow, Dl.S.toSD_r, Dl.S.of_some, Dl.S.tst_b, Dl.S.tst_r, Dl.S.run_e, Dl.S.run_n, Dl.S.orS_some, Dl.S.orL_some, Dl.S.orLS_some, Dl.S.get_val, Dl.S.get_nm, Dl.S.of2_eq, Dl.S.re2_s, Dl.S.of1_eq, Dl.S.re1_s,
      Dl.S.view_d, Dl.S.view_ow, Dl.S.view_rf, Dl.S.view_s, Dl.S.rf_d, Dl.S.rf_ow, Dl.S.rf_ex, Dl.S.rf_fz, Dl.S.rf_n, Dl.S.rf_s, Dl.S.own_ow, Dl.S.own_rf, Dl.S.own_s, Dl.S.put_ow, Dl.S.put_rf, Dl.S.put_s, Dl.S.fC_eq, Dl.S.fVar_eq, Dl.S.fMove_eq, Dl.S.var_d, Dl.S.var_ow, Dl.S.var_ex, Dl.S.var_fz, Dl.S.move_d, Dl.S.move_ow, Dl.S.move_ex, Dl.S.fSet_eq, Dl.S.fSeq_eq,
      Dl.S.seq_next, Dl.S.seq_ret, Dl.S.seq_brk, Dl.S.seq_cnt, Dl.S.seq_r, Dl.S.fSkip_eq, Dl.S.fIf_eq, Dl.S.br_t, Dl.S.br_f, Dl.S.br_r, Dl.S.fIfE_eq, Dl.S.brE_t, Dl.S.brE_f, Dl.S.fRet_eq, Dl.S.fDrop_eq, Dl.S.fTest_eq, Dl.S.fYes_eq, Dl.S.fNotT_eq, Dl.S.not_ok, Dl.S.not_r, Dl.S.fAndT_eq, Dl.S.and_t, Dl.S.and_f, Dl.S.and_r, Dl.S.fOrT_eq, Dl.S.or_t, Dl.S.or_f, Dl.S.or_r,
      Dl.S.bindB_b, Dl.S.bindB_r, Dl.S.fAndV_eq, Dl.S.fOrV_eq, Dl.S.fNotV_eq, Dl.S.runA_nil, Dl.S.runA_cons, Dl.S.fTup_eq, Dl.S.fLst_eq, Dl.S.fUn_eq, Dl.S.fOp_eq, Dl.S.fChain_eq, Dl.S.ch_s, Dl.S.ofB_s, Dl.S.pr_no, Dl.S.pr_e, Dl.S.prK_i, Dl.S.fSl_eq, Dl.S.sl_s, Dl.S.fM1_eq, Dl.S.m1_s, Dl.S.fCall_eq, Dl.S.args_nil, Dl.S.args_v, Dl.S.args_r, Dl.S.arg_d, Dl.S.arg_ow, Dl.S.arg_ex,
      Dl.S.arg_fz, Dl.S.arg_rs, Dl.S.callK_eq, Dl.S.callS_s, Dl.S.callO_ok, Dl.S.callO_r, Dl.S.seen_nil, Dl.S.seen_d, Dl.S.seen_ex, Dl.S.seen_fz, Dl.S.seen_rf, Dl.S.seenR_s, Dl.S.refs_nil, Dl.S.refs_rf, Dl.S.refs_d, Dl.S.refs_ex, Dl.S.refs_fz, Dl.S.putR_nil, Dl.S.putR_one, Dl.S.fFor_eq, Dl.S.forK_ok, Dl.S.fLc_eq, Dl.S.lcK_ok, Dl.S.lcO_s, Dl.S.okW_nil, Dl.S.okW_cons,
      Dl.S.wipe_nil, Dl.S.wipe_cons, Dl.S.back_nil, Dl.S.back_cons, Dl.S.keep_n, Dl.S.keep_d, Dl.S.keep_ow, Dl.S.ri_d, Dl.S.ri_ow, Dl.S.ri_r, Dl.S.riO_s, Dl.S.kSeq_l, Dl.S.kSeq_t, Dl.S.fApp_eq, Dl.S.app_s, Dl.S.fSetIx_eq, Dl.S.set_s, Dl.S.setJ_s, Dl.S.ixN0, Dl.S.fUnp_eq, Dl.S.nextO_s, Dl.S.bind_n, Dl.S.bind_t, Dl.S.binds_nil, Dl.S.binds_cons, Dl.S.bind_some, Dl.S.fRaise_eq, Dl.S.fTryAs_eq,
      Dl.S.try_next, Dl.S.try_ret, Dl.S.try_r, Dl.S.try_t, Dl.S.try_f, Dl.S.fIsN_eq, Dl.S.isN_ex, Dl.S.isN_d, Dl.S.isN_ow, Dl.S.isN_rf, Dl.S.fIsE_eq, Dl.S.fLenF_eq, Dl.S.lenF_s, Dl.S.fIxF_eq, Dl.S.ixF_s, Dl.S.ixFK_i, Dl.S.ixFR_s, Dl.S.runF_eq, Dl.S.out_ret, Dl.S.out_next, Dl.S.out_r, Dl.S.rfOf_nil, Dl.S.rfOf_rf, Dl.S.rfOf_n, Dl.S.rfOf_d, Dl.S.rfOf_ow, Dl.S.rfOf_ex, Dl.S.rfOf_fz, Dl.S.for_nil, Dl.S.lc_nil, Dl.S.whK_t, Dl.S.whK_f, Dl.S.whN_n, Dl.S.for_cons, Dl.S.frB_s, Dl.S.frS_n, Dl.S.frS_c, Dl.S.frS_b,
      Dl.S.lc_cons, Dl.S.lcB_s, Dl.S.lcT_t, Dl.S.lcT_f, Dl.S.lcE_d, Dl.S.lcE_ow, Dl.S.lcC_s, Dl.S.ints_nil, Dl.S.ints_cons, Dl.S.bools_nil, Dl.S.bools_cons, Dl.S.strs_nil, Dl.S.strs_cons, Dl.S.sumL, Dl.S.allL, Dl.S.anyL, Dl.S.join_eq, Dl.S.joinO_s, List.sum_cons, List.sum_nil, List.all_cons, List.all_nil, List.any_cons, List.any_nil, id_eq, Dl.S.addI, Dl.S.subI, Dl.S.mulI, Dl.S.divI, Dl.S.modI, Dl.S.powI, Dl.S.ltI, Dl.S.leI, Dl.S.gtI, Dl.S.geI, Dl.S.maxI, Dl.S.minI, Dl.S.eqI, Dl.S.neI, Dl.S.eqS, Dl.S.neS, Dl.S.addS, Dl.S.addT, Dl.S.addL, Dl.S.ixT, Dl.S.ixL, Dl.S.lenL, Dl.S.lenT, Dl.S.lenS, Dl.S.tupL, Dl.S.tupT, Dl.S.lisL, Dl.S.lisT, Dl.S.strS, Dl.S.map_s, Dl.S.at0, Dl.S.at1, Dl.S.at2,
      List.map_cons, List.map_nil, List.length_cons, List.length_nil, List.replicate, List.cons_append, List.nil_append, List.getElem?_cons_zero, List.getElem?_cons_succ, List.set_cons_zero, List.set_cons_succ, PySem.sizeLine_eq, reduceIte, if_true, if_false, Bool.not_true, Bool.not_false, Bool.and_true, Bool.true_and,
      Dl.S.bol_eq, Dl.S.cast0, Dl.S.cast1, Int.cast_ofNat_Int, Int.reduceLT, Int.reduceLE, Int.reduceEq, Int.reduceNe, Int.reduceAdd, Int.reduceSub, Int.reduceMul, Int.reduceNeg, Int.reduceToNat, Nat.reduceLT, Nat.reduceMul, Nat.reducePow, Nat.reduceAdd, Nat.reduceSub, Nat.reduceLeDiff, Nat.reduceEqDiff, Bool.false_eq_true, and_self, true_and, and_true, decide_true, decide_false, eq_self, ite_true, ite_false, $ls,*])
set_option maxHeartbeats 1000000
/-! DlN: the text of an int, by code points. -/
namespace Dl
open PySem
def nt (i : Int) : List Nat := if i < 0 then 45 :: TL.numL i.natAbs else TL.numL i.natAbs
theorem str_nt (i : Int) : ((toString i : String) : Str) = SX.S (nt i) := by
  cases i with
  | ofNat n =>
    have h : nt (Int.ofNat n) = TL.numL n := by unfold nt; rw [if_neg (by simp)]; rfl
    rw [h]
    exact SX.num_S n
  | negSucc n =>
    have h : nt (Int.negSucc n) = 45 :: TL.numL (n + 1) := by unfold nt; rw [if_pos (Int.negSucc_lt_zero n)]; rfl
    rw [h]
    have e := SX.num_S (n + 1)
    have e2 : (toString (Int.negSucc n) : String) = "-" ++ toString (((n + 1 : Nat)) : Int) := rfl
    rw [e2]
    show Str.ofString _ = _
    rw [Str.ofString_eq_toList] at e ⊢
    have e3 := congrArg (fun z : Str => z.cps.toList) e
    show SX.S _ = SX.S _
    congr 1
    rw [String.toList_append, List.map_append]
    show [45] ++ _ = _
    exact congrArg (45 :: ·) e3
theorem strD_nt {i : Int} (h : i.natAbs < 2 ^ 1000) : strD (.int i) = some (.d (.str (SX.S (nt i)))) := by
  unfold strD
  dsimp only
  rw [if_pos (Nat.lt_trans (log_le h (by decide)) (by decide)), str_nt]
theorem numL_head : ∀ (n : Nat), 1 ≤ n → ∃ c r, TL.numL n = c :: r ∧ 49 ≤ c ∧ c ≤ 57
  | n, h => by
    by_cases hl : n < 10
    · exact ⟨_, _, TL.numL_lt hl, by omega, by omega⟩
    · obtain ⟨c, r, e, h1, h2⟩ := numL_head (n / 10) (by omega)
      exact ⟨c, r ++ [48 + n % 10], by rw [TL.numL_step (by omega), e]; rfl, h1, h2⟩
  termination_by n => n
theorem numL_0 : TL.numL 0 = [48] := TL.numL_lt (by decide)
theorem nt_ne (i : Int) : nt i ≠ [] := by
  unfold nt
  split
  · exact List.cons_ne_nil _ _
  · exact TL.numL_ne _
theorem nt_len {i : Int} {k : Nat} (hk : 0 < k) (h : i.natAbs < 10 ^ k) : (nt i).length ≤ k + 1 := by
  have := TL.numL_len hk h
  unfold nt
  split
  · rw [List.length_cons]; omega
  · omega
theorem int_nt {i : Int} (h : i.natAbs < 10 ^ 100) : intD (.str (SX.S (nt i))) = some (.d (.int i)) := by
  have hl := nt_len (i := i) (k := 100) (by decide) h
  have e : PySem.intText? (SX.S (nt i)) = some i := by
    by_cases c : i < 0
    · have en : nt i = 45 :: TL.numL i.natAbs := by unfold nt; rw [if_pos c]
      rw [en] at hl ⊢
      rw [PySem.intText_neg (cs := TL.numL i.natAbs) rfl (TL.numL_digits _) (TL.numL_ne _) (by rw [S_len]; omega), TL.numL_val]
      congr 1
      omega
    · have en : nt i = TL.numL i.natAbs := by unfold nt; rw [if_neg c]
      rw [en] at hl ⊢
      have := TL.int_num (n := i.natAbs) (by omega)
      rw [SX.num_S] at this
      rw [this]
      congr 1
      omega
  unfold intD
  dsimp only
  rw [S_len, if_pos (by omega), e]
  rfl
end Dl
set_option maxHeartbeats 4000000
/-! DlG: {text: int, ..}.get(x, int): a display asked at once. -/
namespace Dl
open PySem PySem.Spec L2
def dgetD (tb : List (Str × Int)) (j : Int) : D → Option Sv | .str z => some (.d (.int ((tb.lookup z).getD j))) | _ => none
def tabT (tb : List (Str × Int)) : List (TE × TE) := tb.map fun p => (tC (.str p.1), tC (.int p.2))
def tabK (tb : List (Str × Int)) : List (L2.Key × V) := tb.map fun p => (.inr p.1, .int p.2)
theorem tabT_run {σ : St} {H : Hp} : ∀ {tb : List (Str × Int)} {Q : List (V × V) → Hp → Prop}, Q ((tabK tb).map fun kv => (kV kv.1, kv.2)) H → tPairs (tabT tb) σ H Q
  | [], Q, h => h
  | p :: tb, Q, h => tabT_run (tb := tb) (Q := fun ps H3 => Q ((.str p.1, .int p.2) :: ps) H3) h
theorem merge_id : ∀ {more kvs : List (L2.Key × V)}, (∀ p ∈ more, (kvs.any fun kv => decide (kv.1 = p.1)) = false) → (more.map (·.1)).Nodup → mergeK kvs more = kvs ++ more
  | [], kvs, _, _ => (List.append_nil _).symm
  | p :: r, kvs, h, n => by
    have e : putK kvs p.1 p.2 = kvs ++ [p] := by
      unfold putK
      rw [if_neg (by rw [h p List.mem_cons_self]; exact Bool.false_ne_true)]
    show mergeK (putK kvs p.1 p.2) r = _
    rw [List.map_cons, List.nodup_cons] at n
    rw [e, merge_id (fun q hq => ?_) n.2, List.append_assoc]
    · rfl
    · rw [List.any_append, h q (List.mem_cons_of_mem _ hq), Bool.false_or, List.any_cons, List.any_nil, Bool.or_false]
      exact decide_eq_false fun z => n.1 (z ▸ List.mem_map_of_mem hq)
theorem tab_val {tb : List (Str × Int)} (z : Str) : valV (tabK tb) (.inr z) = (tb.lookup z).map .int := by
  induction tb with
  | nil => rfl
  | cons p tb ih =>
    rw [List.lookup_cons]
    by_cases c : z = p.1
    · rw [show (z == p.1) = true from by rw [c]; exact beq_self_eq_true _]
      exact valV_pos (p := ((.inr p.1 : L2.Key), V.int p.2)) (by rw [c])
    · rw [beq_eq_false_iff_ne.mpr c]
      refine (valV_neg (p := ((.inr p.1 : L2.Key), V.int p.2)) (fun q => c ?_)).trans ih
      exact (Sum.inr.inj q).symm
section
variable {X : Cx} {b : Bx} {W : WX} {K : PySem.W.Frag} {tb : List (Str × Int)}
theorem e_dget {keys : List (Option Expr)} {values : List Expr} {e f : Expr} {dp apos cpos : Pos} {o : Opd} {j : Int} (hu : X.A.units + 64 < cLine) (hn : (tabK tb).map (·.1) |>.Nodup) (h15 : tb.length ≤ 15)
    (hp : PPs X dp keys values (tabT tb)) (hall : keys.all (·.isSome) = true) (hl : keys.length = values.length) (h0 : keys ≠ []) (hk : keys.length ≤ 15)
    (he : ∀ b' : Bx, b'.cl = b.cl → PO2 X b' W e o) (hf : PE X f (tC (.int j))) (m : M2 X (.Dict keys values dp) "get" apos e f cpos) :
    PE X (.Call (.Attribute (.Dict keys values dp) "get" apos) [e, f] [] cpos) (tE X.K b W (fUn (dgetD tb j) o)) := by
  have he' : PE X e (fun σ H Q => ∃ b' : Bx, b'.cl = b.cl ∧ tO X.K b' W o σ H Q) := ⟨fun pins s σ H Q I ⟨b', hb, q⟩ => (he b' hb).run pins s σ H Q I q⟩
  refine PE.imp (pe_dget2 (by omega) (pe_disp hp hall hl h0 hk) he' hf m) ?_
  rintro σ H Q ⟨ρ, G, r, q⟩
  intro p hp0
  refine tabT_run ⟨upd_same, tabK tb, rfl, by unfold tabK; rw [List.length_map]; exact h15, ?_⟩
  rw [merge_id (fun _ _ => rfl) hn, List.nil_append]
  have eU : upd (upd H p (.dK [])) p (.dK (tabK tb)) = upd H p (.dK (tabK tb)) := by
    funext c
    by_cases e : c = p
    · subst e; rw [upd_same, upd_same]
    · rw [upd_ne e, upd_ne e, upd_ne e]
  rw [eU]
  refine ⟨p, rfl, .inl ⟨_, .inl upd_same⟩, ?_⟩
  have noP : ∀ i, ¬ Owns σ ρ i p := fun i ⟨z1, l, z2⟩ => by
    rcases z2 with z2 | z2
    · obtain ⟨v, h1, a, ys, e1, h2, _⟩ := r.slot _ _ z2
      rw [z1] at h1; cases h1; cases e1
      rw [hp0] at h2; cases h2
    · obtain ⟨v, h1, a, ys, e1, h2, _⟩ := r.slot _ _ z2
      rw [z1] at h1; cases h1; cases e1
      rw [hp0] at h2; cases h2
  have r1 : Rel X.K b G (upd H p (.dK (tabK tb))) σ ρ := r.ext (Ext.updH r.le hp0 _)
  have r2 := r1.hold (o := .dK (tabK tb)) upd_same (r.g0 hp0) (r.h0 hp0) noP
  refine ⟨b.hold p (.dK (tabK tb)), rfl, ?_⟩
  cases o with
  | n i =>
    have q : PostE X.K b W G σ Q (match viewAt ρ i with
      | some _ => RE.of1 (dgetD tb j) (.nm i) ρ
      | none => .stuck) := q
    cases ev : viewAt ρ i with
    | none => rw [ev] at q; exact q.elim
    | some x =>
      rw [ev] at q
      obtain ⟨v, h1, h2⟩ := r1.view ev
      refine ⟨v, h1, ?_⟩
      obtain ⟨dx, e1, q⟩ := of1_post q
      have e1 : viewAt ρ i = some dx := e1
      rw [ev] at e1
      cases e1
      cases x with
      | str z =>
        rcases h2 with h2 | ⟨_, _, _, _, e2, _⟩
        · cases h2
          refine ⟨_, .inl ⟨tabK tb, .inr z, .inl upd_same, rfl, rfl⟩, ?_⟩
          rw [tab_val]
          cases el : tb.lookup z with
          | none =>
            rw [show dgetD tb j (.str z) = some (.d (.int ((tb.lookup z).getD j))) from rfl, el] at q
            exact post_int r1 q
          | some k =>
            rw [show dgetD tb j (.str z) = some (.d (.int ((tb.lookup z).getD j))) from rfl, el] at q
            exact post_int r1 q
        · cases e2
      | _ => exact q.elim
  | e fa =>
    refine ⟨ρ, G, r2, ?_⟩
    have q : PostE X.K b W G σ Q ((fa ρ).bindD fun x ρ1 => RE.of1 (dgetD tb j) (.val x) ρ1) := q
    cases e0 : fa ρ with
    | stuck => rw [e0] at q; exact q.elim
    | raise c ρ1 =>
      rw [e0] at q
      exact fun G' H' rr ss => q G' H' (rr.unhold (r.t0 hp0)).1 ss
    | ok sv ρ1 =>
      rw [e0] at q
      intro v G1 H1 r3 s1 d1
      have q : PostE X.K b W G σ Q (match sv.dat? with
        | some x => RE.of1 (dgetD tb j) (.val x) ρ1
        | none => .stuck) := q
      cases ed : sv.dat? with
      | none => rw [ed] at q; exact q.elim
      | some x =>
        rw [ed] at q
        obtain ⟨G2, r4, s2, d2⟩ := r3.pub d1 ed
        obtain ⟨r5, hd, _, _, _⟩ := r4.unhold (r.t0 hp0)
        obtain ⟨dx, e1, q⟩ := of1_post q
        cases e1
        cases x with
        | str z =>
          cases d2
          refine ⟨_, .inl ⟨tabK tb, .inr z, .inl hd, rfl, rfl⟩, ?_⟩
          rw [tab_val]
          have q2 := fun v G' H' rr ss => q v G' H' rr (((s1.trans s2).trans ss))
          cases el : tb.lookup z with
          | none =>
            rw [show dgetD tb j (.str z) = some (.d (.int ((tb.lookup z).getD j))) from rfl, el] at q
            exact q _ G2 _ r5 (s1.trans s2) (.int _)
          | some k =>
            rw [show dgetD tb j (.str z) = some (.d (.int ((tb.lookup z).getD j))) from rfl, el] at q
            exact q _ G2 _ r5 (s1.trans s2) (.int _)
        | _ => exact q.elim
end
end Dl
set_option maxHeartbeats 4000000
/-! DlX: a pair of a value and what was caught, told and taken apart. -/
namespace Dl
open PySem PySem.Spec L2
def fPair (i j : Nat) : Ev → RE := fun ρ => match ρ[i]?, ρ[j]? with
  | some (some (.d .none)), some (some (.ex c)) => .ok (.px c) ρ
  | _, _ => fTup [fVar i, fVar j] ρ
def unpX (i j : Nat) (r : RE) : RS := match r with
  | .ok (.px c) ρ1 => if rfAt ρ1 i = false then (if rfAt (ρ1.set i (some (.d .none))) j = false then .next ((ρ1.set i (some (.d .none))).set j (some (.ex c))) else .stuck) else .stuck
  | r => r.toSD fun x ρ1 => match bindP (.t [.n i, .n j]) x ρ1 with
    | some ρ2 => .next ρ2
    | none => .stuck
def fUnpX (i j : Nat) (f : Ev → RE) : Ev → RS := fun ρ => unpX i j (f ρ)
section
variable {X : Cx} {b : Bx} {W : WX}
theorem e_pair {x y : Str} {p1 p2 pos : Pos} {k : Nat} {i j : Nat} (hx : X.N[i]? = some x) (hy : X.N[j]? = some y) (vx : Vis X.env.scope x) (vy : Vis X.env.scope y) (dx : (x == ("__debug__" : Str)) = false) (dy : (y == ("__debug__" : Str)) = false)
    (cx : (x == ("__classdict__" : Str)) = false) (cy : (y == ("__classdict__" : Str)) = false) (h : PE X (.Tuple [.Name x p1, .Name y p2] k pos) (tE X.K b W (fTup [fVar i, fVar j])))
    (s1 : starEach [.Name x p1, .Name y p2] X.env = (false, eval (.Name x p1) X.env) :: starEach [.Name y p2] X.env := by rfl) (s2 : starEach [.Name y p2] X.env = (false, eval (.Name y p2) X.env) :: starEach [] X.env := by rfl) :
    PE X (.Tuple [.Name x p1, .Name y p2] k pos) (tE X.K b W (fPair i j)) := by
  have g : PE X (.Tuple [.Name x p1, .Name y p2] k pos) (tTup (tCons (tVar i) (tCons (tVar j) tNil))) := pe_tup (pa_cons (pe_var hx vx dx cx) (pa_cons (pe_var hy vy dy cy) pa_nil s2) s1)
  refine ⟨fun pins s σ H Q I z => ?_⟩
  obtain ⟨ρ, G, r, q⟩ := z
  by_cases e : ∃ c, ρ[i]? = some (some (.d .none)) ∧ ρ[j]? = some (some (.ex c))
  · obtain ⟨c, e1, e2⟩ := e
    simp only [fPair, e1, e2] at q
    refine g.run pins s σ H Q I ?_
    obtain ⟨v, h1, h2⟩ := r.slot _ _ e1
    obtain ⟨u, h3, a, rfl, h4⟩ := r.slot _ _ e2
    cases (show Da X.K G v .none from h2)
    refine ⟨_, h1, _, h3, by show (2 : Nat) ≤ sizeLine; rw [sizeLine_eq]; decide, fun p hp => ?_⟩
    have ex := Ext.upd r.le hp (.tup [.non, .ref a])
    exact q _ _ _ (r.ext ex) ex.g ⟨p, a, rfl, SqT.of upd_same, ex.g _ _ h4⟩
  · refine h.run pins s σ H Q I ⟨ρ, G, r, ?_⟩
    have e3 : fPair i j ρ = fTup [fVar i, fVar j] ρ := by
      unfold fPair
      split
      · rename_i c e1 e2
        exact absurd ⟨c, e1, e2⟩ e
      · rfl
    rw [e3] at q
    exact q
theorem s_unpX {x y : Str} {p1 p2 tp pos : Pos} {k : Nat} {e : Expr} {i j : Nat} {f : Ev → RE} (hc : X.calm = true) (hN : X.N.Nodup) (hx : X.N[i]? = some x) (hy : X.N[j]? = some y) (lx : Loc X.env.scope x) (ly : Loc X.env.scope y)
    (fx : X.fn x = true ∨ X.env.scope.names.lookup x = some .local) (fy : X.fn y = true ∨ X.env.scope.names.lookup y = some .local) (he : PE X e (tE X.K b W f))
    (hs : swapsWithSole [.Tuple [.Name x p1, .Name y p2] k tp] e pos.line X.env = pure false := by rfl) (hw : swappedStores [.Tuple [.Name x p1, .Name y p2] k tp] e X.env = pure none := by rfl) (h1 : (assignEach [.Tuple [.Name x p1, .Name y p2] k tp] X.env).map (·.2) = [assign (.Tuple [.Name x p1, .Name y p2] k tp) X.env] := by rfl)
    (a1 : (assignEach [.Name x p1, .Name y p2] X.env).map (·.2) = assign (.Name x p1) X.env :: (assignEach [.Name y p2] X.env).map (·.2) := by rfl) (a2 : (assignEach [.Name y p2] X.env).map (·.2) = assign (.Name y p2) X.env :: (assignEach [] X.env).map (·.2) := by rfl)
    (n1 : (assignEach [.Name x p1, .Name y p2] X.env).length = 2 := by rfl) (n2 : (assignEach [.Name x p1, .Name y p2] X.env).findIdx? (·.1) = none := by rfl) :
    PS X (.Assign [.Tuple [.Name x p1, .Name y p2] k tp] e pos) (tS X.K b W (fUnpX i j f)) := by
  have g : PG X (.Tuple [.Name x p1, .Name y p2] k tp) (gTup X.K 2 (gCons (gName i) (gCons (gName j) gNil))) := pg_tup hc (pgs_cons (pg_name hN hx lx fx) (pgs_cons (pg_name hN hy ly fy) pgs_nil a2) a1) n1 n2
  refine PS.imp (ps_asg he g hs hw h1) fun Dn σ H ⟨ρ, G, r, q⟩ => ?_
  have q : PostS X.K b W G Dn (unpX i j (f ρ)) := q
  refine ⟨ρ, G, r, ?_⟩
  cases ef : f ρ with
  | stuck => rw [ef] at q; exact q.elim
  | raise c ρ1 => rw [ef] at q; exact q σ
  | ok sv ρ1 =>
    rw [ef] at q
    intro v G1 H1 r1 s1 d1
    have gen : ∀ {dx : D} {G2 : Hp}, Rel X.K b G2 H1 σ ρ1 → Same G1 G2 → Da X.K G2 v dx → PostS X.K b W G Dn (match bindP (.t [.n i, .n j]) dx ρ1 with | some ρ2 => .next ρ2 | none => .stuck) → gTup X.K 2 (gCons (gName i) (gCons (gName j) gNil)) v σ H1 fun σ' H' => Dn.nx σ' H' := fun {dx G2} r2 s2 d2 q => by
      cases eb : bindP (.t [.n i, .n j]) dx ρ1 with
      | none => rw [eb] at q; exact q.elim
      | some ρ2 =>
        rw [eb] at q
        cases dx with
        | tuple xs =>
          cases d2 with
          | @tup a vs _ h1 h2 =>
            cases xs with
            | nil => simp [bindP, bindPs] at eb
            | cons x1 xs =>
              cases xs with
              | nil =>
                simp only [bindP, bindPs] at eb
                split at eb
                · cases eb
                · cases eb
              | cons x2 xs =>
                cases xs with
                | cons _ _ =>
                  simp only [bindP, bindPs] at eb
                  split at eb
                  · split at eb <;> cases eb
                  · cases eb
                | nil =>
                  cases h2 with
                  | cons d3 d4 =>
                    cases d4 with
                    | cons d4 d5 =>
                      cases d5
                      simp only [bindP, bindPs] at eb
                      split at eb
                      · rename_i ρ3 e3
                        split at e3
                        · rename_i c3
                          cases e3
                          split at eb
                          · rename_i ρ4 e4
                            split at e4
                            · rename_i c4
                              cases e4
                              cases eb
                              refine ⟨a, _, rfl, seqT r2.le h1, rfl, ?_⟩
                              refine ⟨_, _, rfl, ⟨_, _, rfl, rfl, ?_⟩⟩
                              have r3 := (r2.assign (sv := .d x1) d3 c3).assign (sv := .d x2) d4 c4
                              exact q _ G2 H1 r3 (s1.trans s2)
                            · cases e4
                          · cases eb
                        · cases e3
                      · cases eb
        | _ => simp [bindP] at eb
    cases sv with
    | px c =>
      have q : PostS X.K b W G Dn (if rfAt ρ1 i = false then (if rfAt (ρ1.set i (some (.d .none))) j = false then .next ((ρ1.set i (some (.d .none))).set j (some (.ex c))) else .stuck) else .stuck) := q
      obtain ⟨c1, q⟩ := postS_if q
      obtain ⟨c2, q⟩ := postS_if q
      obtain ⟨a, u, rfl, h2, h3⟩ := d1
      refine ⟨a, _, rfl, seqT r1.le h2, rfl, ?_⟩
      refine ⟨_, _, rfl, ⟨_, _, rfl, rfl, ?_⟩⟩
      have r3 := (r1.assign (v := .non) (sv := .d .none) .non c1).assign (v := .ref u) (sv := .ex c) ⟨u, rfl, h3⟩ c2
      exact q _ G1 H1 r3 s1
    | d x => exact gen r1 (Same.refl _) d1 q
    | ow l =>
      obtain ⟨G2, r2, s2, d2⟩ := r1.pub d1 rfl
      exact gen r2 s2 d2 q
    | rf l => exact d1.elim
    | ex c => exact q.elim
    | fz l => exact q.elim
end
namespace S
end S
end Dl
set_option maxHeartbeats 4000000
/-! DlC: comprehensions whose element may raise. -/
namespace Dl
open PySem PySem.Spec L2 PyProof.Rows
/-- an exception that a call in the block's element lets out goes on behind the block -/
theorem block_fails {X : Cx} {W : WX} {pins : List (Addr × Obj)} {σ : L2.St} {H : Hp} {s : Shared} (hs : X.stack = X.env :: X.outer) (hf : X.env.frame = some X.env.locals) (tk : Takes X W) (I : Inv X pins σ H s) {C : Addr} (fC : FpOk X pins H C) {m : Str → Option Value} (nC : s.heap.Ns C m)
    {ce : Env} (hcl : ce.locals = C) (hcf : ce.frame = X.env.frame) {E : XK} (hW : ∀ cls d H', E cls d H' → W cls d σ H') {u : Value} {s' : Shared} (c : CX X.prog X.w X.stack H s E u s') :
    notedBy (model X.prog X.w) X.A ce (fun e s'' => CompFails (model X.prog X.w) X.A X.xe ce e s'') u s' := by
  obtain ⟨a, B, H', cls, d, rfl, fl, hok, ub, na, os, ag, hE⟩ := c
  obtain ⟨f0, f1, f2, f3, f4, f5⟩ := fC
  have nCf : C ∉ frs X.stack := fun z => by
    rcases List.mem_cons.mp (I.stkSub C z) with e | e
    · exact f1 e
    · exact f2 e
  obtain ⟨oC, es, ep, hoC, rC⟩ := nC
  have bC := ub.keep C oC hoC f0 nCf
  have ns' : s'.heap.Ns C m := ⟨oC, es, ep, fl.1 _ _ bC, rC⟩
  have hC' : H' C = none := ub.free C oC hoC f0
  -- the state without the exception
  obtain ⟨G, g1, g2⟩ := restrict s'.heap fun b => (B.get? b).isSome || decide (b ∈ frs X.stack)
  have st0 : B.StaysIn s'.heap := fl.1
  have inB : ∀ b o, B.get? b = some o → G.get? b = some o := fun b o e => (g1 b (by simp [e])).trans (st0 b o e)
  have inF : ∀ b, b ∈ frs X.stack → G.get? b = s'.heap.get? b := fun b hb => g1 b (by simp [hb])
  have ofG : ∀ b o, G.get? b = some o → s'.heap.get? b = some o ∧ ((B.get? b).isSome = true ∨ b ∈ frs X.stack) := fun b o e => by
    cases q : ((B.get? b).isSome || decide (b ∈ frs X.stack)) with
    | false => rw [g2 b q] at e; cases e
    | true => exact ⟨(g1 b q).symm.trans e, by simpa [Bool.or_eq_true] using q⟩
  have IG : Inv X pins σ H' { s with heap := G, gens := s'.gens, drawn := s'.drawn, toks := s'.toks } := by
    refine I.call (ch := []) ⟨fun b o e n hb _ => inB b o (ub.keep b o e n hb), fun b o e n hb _ => ?_, fun b o e n _ => ub.free b o e n, fun b o e _ => ?_, ub.tups, ub.frzs, ub.tbls⟩ (hok.kept inB) ag (fun _ z => nomatch z)
    · obtain ⟨sl, q⟩ := ub.slot b o e hb
      exact ⟨sl, (inF b hb).trans q⟩
    · by_cases hb : b ∈ frs X.stack
      · obtain ⟨sl, q⟩ := ub.slot b o e hb
        exact ⟨_, (inF b hb).trans q⟩
      · obtain ⟨o', q⟩ := ub.there b o e hb
        exact ⟨o', inB b o' q⟩
  -- noted at the def's frame
  show wpAny _ _ (noteFrame (.ref a) ce) _ _ s'
  rw [noteFrame_env _ hcf]
  have hfr : X.A.frames = some (X.env :: X.outer) := by rw [I.ok.frames, hs]
  have fl' : HandSPX.FlyingZ B (X.env :: X.outer) a (Zc cls d) s'.heap := hs ▸ fl
  refine HandSPX.looks_onZ Zc.steady hfr hf fl' fun h1 hh up1 => ?_
  subst hcl
  refine ⟨m, ns'.upToSlots up1, fun h2 m2 hn2 sb2 => ?_⟩
  obtain ⟨b1, b0, ff1, t1⟩ := hh
  have sb : ∀ b o, b ≠ ce.locals → h1.get? b = some o → h2.get? b = some o := fun b o hb e => (sb2.2 b hb).trans e
  -- the ground without the block's names
  have nB : ∀ b o, (PySem.W.hideAll B [ce.locals]).get? b = some o → B.get? b = some o ∧ b ≠ ce.locals := fun b o e => ⟨PySem.W.of_hideAll _ e, fun z => by
    rw [PySem.W.hideAll_none _ (by rw [z]; exact List.mem_singleton_self _)] at e; cases e⟩
  have nG : ∀ b o, (PySem.W.hideAll G [ce.locals]).get? b = some o → G.get? b = some o ∧ b ≠ ce.locals := fun b o e => ⟨PySem.W.of_hideAll _ e, fun z => by
    rw [PySem.W.hideAll_none _ (by rw [z]; exact List.mem_singleton_self _)] at e; cases e⟩
  have b2 : (PySem.W.hideAll B [ce.locals]).StaysIn h2 := fun b o e => sb b o (nB b o e).2 (b1 b o (nB b o e).1)
  have none2 : ∀ b, B.get? b = none → (PySem.W.hideAll B [ce.locals]).get? b = none := fun b e => by
    cases q : (PySem.W.hideAll B [ce.locals]).get? b with
    | none => rfl
    | some o => rw [(nB b o q).1] at e; cases e
  have nf1 : ∀ b, B.get? b = none → b ≠ ce.locals := fun b e z => by rw [z, bC] at e; cases e
  have ff2 : h2.FunFrames (PySem.W.hideAll B [ce.locals]) (X.env :: X.outer) := by
    have z : h1.FunFrames (PySem.W.hideAll B [ce.locals]) (X.env :: X.outer) := funFrames_none ff1 fun L hL => none2 L (ff1.mem hL).1
    exact Heap.FunFrames.sameBut sb2 hn2 z
  obtain ⟨oe, vs, T, oT, ts, he, hz, hd, hv1, hnT, hTe, hT, hdT, hv3⟩ := t1
  have t2 : HandSPX.TracedZ h2 (PySem.W.hideAll B [ce.locals]) a (Zc cls d) (rawInt X.env.locals) :=
    ⟨oe, vs, T, oT, ts, sb a oe (nf1 a b0) he, hz, hd, hv1, none2 T hnT, hTe, sb T oT (nf1 T hnT) hT, hdT, hv3⟩
  unfold PySem.passOn
  refine wpAny_bind (wpAny_field (sb a oe (nf1 a b0) he) hd hv1 ?_)
  rw [if_neg (show ¬ ((Value.ref T == Value.none) = true) from by simp)]
  rw [hcf, hf]
  refine wpAny_bind (HandSPX.setFlight_onZ ⟨b2, none2 a b0, ff2, t2⟩ fun h3 hh3 up3 => ?_)
  refine wpAny_throw ?_
  refine tk _ _ ⟨a, PySem.W.hideAll B [ce.locals], { s with heap := PySem.W.hideAll G [ce.locals], gens := s'.gens, drawn := s'.drawn, toks := s'.toks }, pins, σ, H', cls, d, rfl, ?_, fun b o e hb => ?_, ?_, .inr (.inr (hs ▸ hh3)), na, os, ag, hW _ _ _ hE⟩
  · exact IG.turned (t' := s'.toks) (fun b o hb e => PySem.W.hideAll_get _ e (by rw [List.mem_singleton]; exact hb)) hC' f1 f3 f4 f5
  · obtain ⟨e1, ne⟩ := nG b o e
    obtain ⟨e2, q⟩ := ofG b o e1
    rcases q with q | q
    · obtain ⟨o', q⟩ := Option.isSome_iff_exists.mp q
      have z := st0 b o' q
      rw [e2] at z; cases z
      exact PySem.W.hideAll_get _ q (by rw [List.mem_singleton]; exact ne)
    · exact absurd q hb
  · refine Heap.UpToSlots.trans (h₂ := h2) ?_ up3
    intro b o e hnf
    obtain ⟨e1, ne⟩ := nG b o e
    obtain ⟨sl, e3⟩ := up1 b o (ofG b o e1).1 hnf
    exact ⟨sl, sb b _ ne e3⟩

/-- the block's context, its exceptions told by E -/
abbrev blkX (X : Cx) (E : XK) (s : Shared) (H : Hp) (scope : Scope) (cenv : Env) (fp : List Addr) : Cx :=
  { X.blk s H scope cenv fp with xe := fun u s' => ∃ (pins : List (Addr × Obj)) (σ1 : L2.St) (H1 : Hp) (s1 : Shared), Inv (X.blk s H scope cenv fp) pins σ1 H1 s1 ∧ CX X.prog X.w X.stack H1 s1 E u s' }
theorem Inv.xe {X : Cx} {xe : Value → Shared → Prop} {pins : List (Addr × Obj)} {σ : L2.St} {H : Hp} {s : Shared} (I : Inv X pins σ H s) : Inv { X with xe := xe } pins σ H s := by
  obtain ⟨⟨a1, a2, a3, a4, a5, a6, a7, a8, a9, a10, a11, a12, a13, a14, a15, a16, a17, a18⟩, b1, b2, b3, b4, b5, b6, b7, b8, b9, b10⟩ := I
  exact ⟨⟨a1, a2, a3, a4, a5, a6, a7, a8, a9, a10, a11, a12, a13, a14, a15, a16, a17, a18⟩, b1, b2, b3, b4, b5, b6, b7, b8, b9, b10⟩
theorem Inv.unxe {X : Cx} {xe : Value → Shared → Prop} {pins : List (Addr × Obj)} {σ : L2.St} {H : Hp} {s : Shared} (I : Inv { X with xe := xe } pins σ H s) : Inv X pins σ H s := by
  obtain ⟨⟨a1, a2, a3, a4, a5, a6, a7, a8, a9, a10, a11, a12, a13, a14, a15, a16, a17, a18⟩, b1, b2, b3, b4, b5, b6, b7, b8, b9, b10⟩ := I
  exact ⟨⟨a1, a2, a3, a4, a5, a6, a7, a8, a9, a10, a11, a12, a13, a14, a15, a16, a17, a18⟩, b1, b2, b3, b4, b5, b6, b7, b8, b9, b10⟩
theorem lets_blk {X : Cx} {E : XK} {s : Shared} {H : Hp} {scope : Scope} {cenv : Env} {fp : List Addr} : Lets (blkX X E s H scope cenv fp) (fun cls d _ H => E cls d H) := fun σ pins H1 s1 e s' I c => ⟨pins, σ, H1, s1, Inv.unxe I, c⟩
/-- [elt for tg in iter if ..], where the element may let an exception out -/
theorem pe_lcX {X : Cx} {W : WX} {elt tg iter : Expr} {ifs : List Expr} {scope : Scope} {own : List (Str × Nat)} {pos : Pos} {wi : TI} {g : TG} {tt : TT} {te : XK → TE} (hc : X.calm = true) (hs : X.stack = X.env :: X.outer) (hf : X.env.frame = some X.env.locals) (tk : Takes X W) (hN : X.N.Nodup) (hi : PI X tg iter wi) (ok : BlkOk X.N X.env.scope scope own)
    (hg : ∀ (s : Shared) (H : Hp) (C : Addr) (cl : List (Str × Addr)) (fp : List Addr), PG (X.blk s H scope (compEnvC scope cl C X.env) fp) tg g)
    (ht : ∀ (s : Shared) (H : Hp) (C : Addr) (cl : List (Str × Addr)) (fp : List Addr), PTs (X.blk s H scope (compEnvC scope cl C X.env) fp) ifs tt)
    (he : ∀ (E : XK) (s : Shared) (H : Hp) (C : Addr) (cl : List (Str × Addr)) (fp : List Addr), PE (blkX X E s H scope (compEnvC scope cl C X.env) fp) elt (te E)) (hfold : ∀ x, foldedSetIterable iter X.env x = pure x := by intro _; rfl) :
    PE X (.ListComp elt [⟨tg, iter, ifs, 0⟩] scope pos) (fun σ H Q => tLc wi g tt (te fun cls d H => W cls d σ H) (own.map (·.2)) σ H Q) := by
  refine ⟨fun pins s σ H Q I hq => ?_⟩
  rw [eval_ListComp]
  have closed : ∀ y ∈ scope.names, y.2 = .free → ∃ c, X.env.cells.lookup y.1 = some c := fun y hy e => (ok.free y hy e).elim (fun k => I.ok.has _ (.inl k)) (fun k => I.ok.has _ (.inr k))
  refine comprehension_at (use := none) rfl hfold (closure_ok closed) ok.kind (fun y hy e => (ok.uniq y hy).trans (by rw [e])) (thn (hi.run pins s σ H _ I hq) fun xv sa ha => thn ha fun itv sb hb => ?_)
  obtain ⟨it, fp, tn, J, Hb, e, Ib, T, stb, fb, q⟩ := hb
  subst e
  refine wpAny_newObj_type (newEnv_comp ?_) (by show 0 ≤ sizeLine; decide)
  generalize hD : sb.heap.objs.size = D
  have nD : Hb D = none := Ib.hok.fresh (Nat.le_of_eq hD)
  obtain ⟨Wv, ⟨m0, w0⟩, turn⟩ := q D nD
  generalize hsc : ({ sb with heap := sb.heap.push { cls := .type "list", data := .seq ([] : List Value).toArray } } : Shared) = sc
  have hpc : sc.heap = sb.heap.push { cls := .type "list", data := .seq ([] : List Value).toArray } := by rw [← hsc]
  have Ic : Inv X pins σ (upd Hb D (.lst [])) sc := by
    rw [← hsc]
    refine Ib.laid (t' := sb.toks) (fun b o e => Heap.get?_push_of_some _ e) (Nat.le_of_eq hD) ⟨Nat.zero_le _, [], 0, .nil, ?_⟩
    rw [← hD]
    exact Heap.get?_push_size _ rfl
  have small : ∀ b ∈ fp, b < sb.heap.objs.size := fun b hb => (T.obj _ _ stb b hb).elim fun o ⟨e, _⟩ => Heap.lt_size e
  have fc : ∀ b ∈ fp, FpOk X pins (upd Hb D (.lst [])) b ∧ b < sc.heap.objs.size := fun b hb => by
    have lt := small b hb
    have ne : b ≠ D := by rw [← hD]; exact Nat.ne_of_lt lt
    exact ⟨⟨by rw [upd_ne ne]; exact (fb b hb).1, (fb b hb).2⟩, by rw [hpc, Heap.size_push]; exact Nat.lt_succ_of_lt lt⟩
  have stc : tn 0 sc.heap := T.keep _ _ _ stb fun b _ o e => by rw [hpc]; exact Heap.get?_push_of_some _ e
  have Id := block_start Ic ok hN fc
  have pg := hg sc (upd Hb D (.lst [])) sc.heap.objs.size (cellsFrom (sc.heap.objs.size + 1) scope.names (cloFrom X.env.cells scope.names [])) fp
  have pt := ht sc (upd Hb D (.lst [])) sc.heap.objs.size (cellsFrom (sc.heap.objs.size + 1) scope.names (cloFrom X.env.cells scope.names [])) fp
  have pe := he (fun cls d H => W cls d σ H) sc (upd Hb D (.lst [])) sc.heap.objs.size (cellsFrom (sc.heap.objs.size + 1) scope.names (cloFrom X.env.cells scope.names [])) fp
  show codeAny _ _ (.compStart (.ListComp elt [⟨tg, iter, ifs, 0⟩] scope pos) 0 (.ref it) (.ref D) (compEnvC scope (cellsFrom (sc.heap.objs.size + 1) scope.names (cloFrom X.env.cells scope.names [])) sc.heap.objs.size X.env))
    (compEnds (model X.prog X.w) X.A X.xe none (EP X pins σ Q) (.ref D) (compEnvC scope (cellsFrom (sc.heap.objs.size + 1) scope.names (cloFrom X.env.cells scope.names [])) sc.heap.objs.size X.env)) { sc with heap := pushCells (sc.heap.push { cls := .type "dict", data := .dict #[] }) scope.names }
  have nfp : ∀ b ∈ fp, (upd Hb D (.lst [])) b = none := fun b hb => (fc b hb).1.1
  generalize hce : compEnvC scope (cellsFrom (sc.heap.objs.size + 1) scope.names (cloFrom X.env.cells scope.names [])) sc.heap.objs.size X.env = ce at Id pg pt pe ⊢
  have cL : ce.locals = sc.heap.objs.size := by subst hce; rfl
  have cF : ce.frame = X.env.frame := by subst hce; rfl
  generalize hHc : upd Hb D (.lst []) = Hc at Ic Id pg pt pe w0 nfp fc
  generalize hsd : ({ sc with heap := pushCells (sc.heap.push { cls := .type "dict", data := .dict #[] }) scope.names } : Shared) = sd at Id ⊢
  have std : tn 0 sd.heap := T.keep _ _ _ stc fun b _ o e => by rw [← hsd]; exact pushCells_keeps _ _ _ _ (Heap.get?_push_of_some _ e)
  have steady : ∀ {σ' : L2.St} {H' : Hp} {s' : Shared}, Inv (X.blk sc Hc scope ce fp) [] σ' H' s' → (∀ b ∈ fp, H' b = none) → ∀ b ∈ fp, FpOk (X.blk sc Hc scope ce fp) [] H' b := fun I' hn b hb =>
    ⟨hn b hb, (I'.ok.exf b hb).1, I'.ok.exfs b hb, .inl hb, fun x c e => (I'.ok.exf b hb).2 x c e, fun p hp => absurd (show p ∈ ([] : List (Addr × Obj)) ++ [] from hp) (by simp)⟩
  -- back in the def's context, at any time
  have outer : ∀ {pins' : List (Addr × Obj)} {σ' : L2.St} {H' : Hp} {s' : Shared}, Inv (X.blk sc Hc scope ce fp) pins' σ' H' s' → Inv X pins σ H' s' ∧ FpOk X pins H' sc.heap.objs.size ∧ ∃ m, s'.heap.Ns sc.heap.objs.size m := fun {pins' σ' H' s'} I' => by
    have z : H' ce.locals = none := I'.free
    rw [cL] at z
    obtain ⟨m, hn, _⟩ := I'.loc
    have hn : s'.heap.Ns ce.locals m := hn
    rw [cL] at hn
    exact ⟨Ic.call' (ch := fp) I'.os I'.base I'.hok I'.bare fun b hb => ⟨(fc b hb).1.2.2.2.1, (fc b hb).1.2.1, (fc b hb).1.2.2.2.2.1, (fc b hb).1.2.2.2.2.2⟩, Ic.fpOk (Nat.le_refl _) z, m, hn⟩
  have loop : codeAny (model X.prog X.w) X.A (.compLoop (.ListComp elt [⟨tg, iter, ifs, 0⟩] scope pos) 0 (.ref it) (.ref D) ce) (compEnds (model X.prog X.w) X.A X.xe none (EP X pins σ Q) (.ref D) ce) sd := by
    refine compLoop_any (fun n s' => ∃ i H', Inv (X.blk sc Hc scope ce fp) [] (wipe σ (own.map (·.2))) H' s' ∧ tn i s'.heap ∧ (∀ b ∈ fp, H' b = none) ∧ Wv i n H') ?_ m0 ⟨0, Hc, Id, std, nfp, w0⟩
    rintro n se ⟨i, He, Ie, ste, ne, we⟩
    rcases turn i n He we with ⟨stop, qq⟩ | ⟨go, Nx, hNx, step⟩
    · refine thnF (T.done (X.blk sc Hc scope ce fp) rfl rfl rfl hc i [] se _ He (fun _ _ => False) Ie (steady Ie ne) ste stop) fun r sf ⟨hr, If⟩ => ?_
      subst hr
      obtain ⟨Io, ⟨f0, f1, f2, f3, f4, f5⟩, m, hn⟩ := outer If
      refine ⟨m, by rw [cL]; exact hn, fun h'' same => ?_⟩
      rw [cL] at same
      exact ⟨.ref D, He, Io.turned (t' := sf.toks) (fun b o hb e => (same.2 b hb).trans e) f0 f1 f3 f4 f5, rfl, qq⟩
    · refine thnF (T.item (X.blk sc Hc scope ce fp) rfl rfl rfl hc i [] se _ He (fun _ _ => False) Ie (steady Ie ne) ste go) fun r sf ⟨u, hr, hfz⟩ => ?_
      subst hr
      refine thnF hfz fun _ sg ⟨x, Hg, Ig, rg, yg, stg, ng⟩ => ?_
      have Ig' := Ig.pinned (steady Ig ng) (T.obj _ _ stg)
      refine thnF (pg.run _ sg _ Hg x u _ Ig' rg (step x Hg yg)) fun _ sh ⟨σh, Hh, Ih, hwh, qh⟩ => ?_
      refine thnF (pt.run _ sh σh Hh _ Ih qh) fun b si ⟨Hi, Ii, qi⟩ => ?_
      have fin : ∀ {s' : Shared} {H' : Hp}, Inv (X.blk sc Hc scope ce fp) ([] ++ pinsAt fp sg.heap) σh H' s' → Nx H' → ∃ m, m < n ∧ ∃ i H', Inv (X.blk sc Hc scope ce fp) [] (wipe σ (own.map (·.2))) H' s' ∧ tn i s'.heap ∧ (∀ b ∈ fp, H' b = none) ∧ Wv i m H' := fun {s' H'} I' nx => by
        obtain ⟨m', hm, w'⟩ := hNx H' nx
        have kept : ∀ b ∈ fp, ∀ o, sg.heap.get? b = some o → s'.heap.get? b = some o ∧ H' b = none := fun b hb o e =>
          have z := I'.pin (b, o) (List.mem_append_right _ (List.mem_append_right _ (mem_pinsAt hb e)))
          ⟨z.1, z.2.1⟩
        have len : (wipe σ (own.map (·.2))).length = σh.length := by rw [← hwh, wipe_length]
        refine ⟨m', hm, i + 1, H', (I'.unpinned (pins := [])).weak len (fun j v e => (wipe_some (by rw [hwh]; exact e)).1), T.keep _ _ _ stg fun b hb o e => (kept b hb o e).1, fun b hb => ?_, w'⟩
        obtain ⟨o, e, _⟩ := T.obj _ _ stg b hb
        exact (kept b hb o e).2
      cases b with
      | false =>
        simp only [Bool.false_eq_true, if_false] at qi ⊢
        exact fin Ii qi
      | true =>
        simp only [if_true] at qi ⊢
        refine wpAny_mono (pe.run _ si σh Hi _ (Inv.xe Ii) qi) (fun z sj ⟨yv, Hj, Ij, rj, acc, hDj, hzj, nx⟩ => ?_) fun u2 s2 ⟨p2, σ2, H2, s3, I2, c2⟩ => ?_
        · exact app_ok (X := X.blk sc Hc scope ce fp) (Inv.unxe Ij) hDj hzj rj fun sk Ik => fin Ik nx
        · obtain ⟨Io, fC, m, hn⟩ := outer I2
          exact block_fails hs hf tk Io fC hn cL cF (fun cls d H' h => h) c2
  exact codeAny_compStart_list loop (T.self X.A 0 _ _ _ std loop)
end Dl
set_option maxHeartbeats 4000000
/-! DlD: comprehensions whose element may raise, on data. -/
namespace Dl
open PySem PySem.Spec L2
inductive LcR where
  | ok (ys : List D) (ρ : Ev)
  | raise (c : Nat) (ρ : Ev)
  | stuck
def LcR.cons (y : D) : LcR → LcR
  | .ok ys ρ => .ok (y :: ys) ρ
  | r => r
def lcX (vs : List Nat) (p : Pat) (fe : Ev → RE) : List D → Ev → LcR
  | [], ρ => .ok [] ρ
  | x :: xs, ρ => match bindP p x ρ with
    | none => .stuck
    | some ρ1 => match fe ρ1 with
      | .ok sv ρ3 => match sv.dat? with
        | some y => (lcX vs p fe xs (wipeE ρ3 vs)).cons y
        | none => .stuck
      | .raise c ρ3 => .raise c (wipeE ρ3 vs)
      | .stuck => .stuck
def lcXo (vs : List Nat) (ρ1 : Ev) : LcR → RE
  | .ok ys ρ2 => .ok (.ow ys) (backE ρ1 ρ2 vs)
  | .raise c ρ2 => .raise c (backE ρ1 ρ2 vs)
  | .stuck => .stuck
def lcXk (vs : List Nat) (p : Pat) (fe : Ev → RE) : RI → RE
  | .ok xs ρ1 => if okW ρ1 vs = true ∧ xs.length ≤ sizeLine then lcXo vs ρ1 (lcX vs p fe xs (wipeE ρ1 vs)) else .stuck
  | .raise c ρ1 => .raise c ρ1
  | .stuck => .stuck
def fLcX (src : Ev → RI) (vs : List Nat) (p : Pat) (fe : Ev → RE) : Ev → RE := fun ρ => lcXk vs p fe (src ρ)
def tEY (K : PySem.W.Frag) (cl : Nat → Addr) (f : Ev → RE) (E : XK) : TE := fun σ H Q => ∃ b : Bx, b.cl = cl ∧ tE K b (fun c d _ H => E c d H) f σ H Q
/-- what is left of the walk: behind the items accd the rest of the list gives what the whole gives -/
def Rest (whole : LcR) (accd : List D) : LcR → Prop
  | .ok ys ρ => whole = .ok (accd ++ ys) ρ
  | .raise c ρ => whole = .raise c ρ
  | .stuck => False
section
variable {X : Cx} {b : Bx} {W : WX} {K : PySem.W.Frag}
theorem lcX_post {src : Ev → RI} {vs : List Nat} {p : Pat} {fe : Ev → RE} (hp : ∀ i ∈ pvars p, i ∈ vs) : ∀ σ H Q, tE K b W (fLcX src vs p fe) σ H Q → tLc (tI K b W src) (gX K b.cl p) (tTX K b.cl fYes) (tEY K b.cl fe fun c d H => W c d σ H) vs σ H Q := by
  rintro σ H Q ⟨ρ, G, r, q⟩
  refine ⟨ρ, G, r, ?_⟩
  cases e0 : src ρ with
  | stuck => simp only [fLcX, e0] at q; exact q
  | raise c ρ1 => simp only [fLcX, e0] at q; exact q
  | ok xs ρ1 =>
    simp only [fLcX, e0] at q
    intro J G1 H1 r1 s1 o1 D hD
    obtain ⟨⟨hw, hsz⟩, q⟩ := postE_if (show PostE K b W G σ Q (if okW ρ1 vs = true ∧ xs.length ≤ sizeLine then lcXo vs ρ1 (lcX vs p fe xs (wipeE ρ1 vs)) else .stuck) from q)
    generalize el : lcX vs p fe xs (wipeE ρ1 vs) = whole at q
    have htD : b.T D = none := r1.t0 hD
    have rD : Rel K b G1 (upd H1 D (.lst [])) σ ρ1 := r1.ext (Ext.updH r1.le hD (.lst []))
    have noD : ∀ i, ¬ Owns σ ρ1 i D := fun i ⟨z1, l, z2⟩ => by
      rcases z2 with z2 | z2 <;> (obtain ⟨v, h1, a, ys, e1, h2, _⟩ := r1.slot _ _ z2; rw [z1] at h1; cases h1; cases e1; rw [hD] at h2; cases h2)
    have rW : Rel K (b.hold D (.lst [])) G1 (upd H1 D (.lst [])) (wipe σ vs) (wipeE ρ1 vs) := (rD.hold upd_same (r1.g0 hD) (r1.h0 hD) noD).wipe hw
    have st0 : Rest whole [] (lcX vs p fe xs (wipeE ρ1 vs)) := by
      rw [el]
      cases whole with
      | ok ys ρe => rfl
      | raise c ρe => rfl
      | stuck => exact q.elim
    refine ⟨fun i m H => m = xs.length - i ∧ i ≤ xs.length ∧ ∃ ρ G acc accd, accd.length = i ∧ Rel K (b.hold D (.lst acc)) G H (wipe σ vs) ρ ∧ Same G1 G ∧ DaAll K G acc accd ∧ Rest whole accd (lcX vs p fe (xs.drop i) ρ),
      ⟨xs.length, by simp, Nat.zero_le _, wipeE ρ1 vs, G1, [], [], rfl, rW, Same.refl _, .nil, st0⟩, ?_⟩
    rintro i m H2 ⟨rfl, hi, ρ2, G2, acc, accd, hla, r2, s2, d2, e2⟩
    by_cases hlt : i < xs.length
    · refine .inr ⟨o1.go i H2 (s2.trans r2.le) hlt, fun H => i + 1 ≤ xs.length ∧ ∃ ρ G acc accd, accd.length = i + 1 ∧ Rel K (b.hold D (.lst acc)) G H (wipe σ vs) ρ ∧ Same G1 G ∧ DaAll K G acc accd ∧ Rest whole accd (lcX vs p fe (xs.drop (i + 1)) ρ),
        fun H' z => ⟨xs.length - (i + 1), by omega, rfl, z.1, z.2⟩, fun x H3 y => ?_⟩
      have ed : xs.drop i = xs[i] :: xs.drop (i + 1) := List.drop_eq_getElem_cons hlt
      rw [ed] at e2
      obtain ⟨G3, r3, s3, d3⟩ := o1.step r2 s2 (List.getElem?_eq_getElem hlt) y
      cases e1 : bindP p xs[i] ρ2 with
      | none => simp only [lcX, e1] at e2; exact e2.elim
      | some ρ3 =>
        simp only [lcX, e1] at e2
        refine ⟨b.hold D (.lst acc), rfl, ρ2, G3, xs[i], r3, d3, ρ3, e1, fun σ4 r4 ag => ?_⟩
        have ag' : Agree vs (wipe σ vs) σ4 := ⟨ag.1, fun j hj => ag.2 j fun z => hj (hp j z)⟩
        have ew : wipe σ4 vs = wipe σ vs := wipe_agree ag'
        have ok4 : ∀ {G4 H4 ρ4 o}, Rel K (b.hold D o) G4 H4 σ4 ρ4 → okW ρ4 vs = true := fun {G4 H4 ρ4 o} r5 => by
          refine List.all_eq_true.mpr fun j hj => ?_
          have q1 : rfAt ρ1 j = false := by
            have z := List.all_eq_true.mp hw j hj
            cases e : rfAt ρ1 j with
            | false => rfl
            | true => rw [e] at z; cases z
          cases e : rfAt ρ4 j with
          | false => rfl
          | true =>
            obtain ⟨a, hB⟩ := r5.rfB e
            obtain ⟨l, _, h2⟩ := r1.byr _ hB
            exact absurd h2 (no_rf q1 l)
        refine ⟨ew, b.hold D (.lst acc), rfl, ρ3, G3, r4, ?_⟩
        intro G4 H4 r5 s5
        rw [if_pos rfl]
        refine ⟨b.hold D (.lst acc), rfl, ρ3, G4, r5, ?_⟩
        cases e4 : fe ρ3 with
        | stuck => simp only [e4] at e2; exact e2.elim
        | raise c ρ5 =>
          simp only [e4] at e2
          have e2 : whole = .raise c (wipeE ρ5 vs) := e2
          rw [e2] at q
          intro G5 H5 r6 s6
          have r7 := r6.wipe (ok4 r6)
          rw [ew] at r7
          obtain ⟨r8, a1, a2, a3, a4⟩ := r7.unhold htD
          obtain ⟨r9, ob⟩ := Rel.back r1 r8 (((s2.trans s3).trans s5).trans s6) hw
          exact q G5 H5 r9 ((((s1.trans s2).trans s3).trans s5).trans s6)
        | ok sv ρ5 =>
          simp only [e4] at e2
          intro u G5 H5 r6 s6 d6
          cases e5 : sv.dat? with
          | none => simp only [e5] at e2; exact e2.elim
          | some w =>
            simp only [e5] at e2
            obtain ⟨G6, r7, s7, d7⟩ := r6.pub d6 e5
            obtain ⟨r8, a1, a2, a3, a4⟩ := r7.unhold htD
            have la : acc.length = accd.length := d2.length
            have e6 : Rest whole (accd ++ [w]) (lcX vs p fe (xs.drop (i + 1)) (wipeE ρ5 vs)) := by
              cases eq : lcX vs p fe (xs.drop (i + 1)) (wipeE ρ5 vs) with
              | stuck => rw [eq] at e2; exact e2.elim
              | raise c ρ6 => rw [eq] at e2; exact e2
              | ok ys ρ6 =>
                rw [eq] at e2
                have e2 : whole = .ok (accd ++ (w :: ys)) ρ6 := e2
                show whole = .ok ((accd ++ [w]) ++ ys) ρ6
                rw [e2, List.append_assoc]
                rfl
            have lt : acc.length < sizeLine := by omega
            refine ⟨acc, a1, lt, hlt, wipeE ρ5 vs, G6, acc ++ [u], accd ++ [w], by rw [List.length_append, List.length_singleton, hla], ?_, ((s2.trans s3).trans s5).trans (s6.trans s7), (DaAll.mono (s3.trans (s5.trans (s6.trans s7))) d2).append (.cons d7 .nil), e6⟩
            have r9 : Rel K b G6 (upd H5 D (.lst (acc ++ [u]))) σ4 ρ5 := r8.setTmp a2 a3 htD a4
            have r10 := (r9.hold (o := .lst (acc ++ [u])) upd_same a2 a3 a4).wipe (ok4 r7)
            rw [ew] at r10
            exact r10
    · have e : i = xs.length := by omega
      subst e
      rw [List.drop_length] at e2
      have e2 : whole = .ok (accd ++ []) ρ2 := e2
      rw [List.append_nil] at e2
      rw [e2] at q
      obtain ⟨r8, a1, a2, a3, a4⟩ := r2.unhold htD
      obtain ⟨r9, ob⟩ := Rel.back r1 r8 s2 hw
      exact .inl ⟨o1.stop _ H2 (s2.trans r2.le) (Nat.le_refl _), q _ G2 H2 r9 (s1.trans s2) ⟨D, acc, rfl, a1, a2, a3, htD, fun j z => a4 j (ob j D z), d2⟩⟩
theorem e_lcX {elt tg iter : Expr} {scope : Scope} {own : List (Str × Nat)} {pos : Pos} {src : Ev → RI} {p : Pat} {fe : Ev → RE} (hc : X.calm = true) (hs : X.stack = X.env :: X.outer) (hf : X.env.frame = some X.env.locals) (tk : Takes X W) (hN : X.N.Nodup) (hp : ∀ i ∈ pvars p, i ∈ own.map (·.2)) (hi : PI X tg iter (tI X.K b W src)) (ok : BlkOk X.N X.env.scope scope own)
    (hg : ∀ (s : Shared) (H : Hp) (C : Addr) (cs : List (Str × Addr)) (fp : List Addr) (b' : Bx), b'.cl = b.cl → PG (Blk X s H scope cs C fp) tg (gP X.K b' p))
    (he : ∀ (E : XK) (s : Shared) (H : Hp) (C : Addr) (cs : List (Str × Addr)) (fp : List Addr) (b' : Bx), b'.cl = b.cl → PE (blkX X E s H scope (compEnvC scope cs C X.env) fp) elt (tE X.K b' (fun c d _ H => E c d H) fe)) (hfold : ∀ x, foldedSetIterable iter X.env x = pure x := by intro _; rfl) :
    PE X (.ListComp elt [⟨tg, iter, [], 0⟩] scope pos) (tE X.K b W (fLcX src (own.map (·.2)) p fe)) :=
  PE.imp (pe_lcX (te := tEY X.K b.cl fe) hc hs hf tk hN hi ok (fun s H C cl fp => PG.ex (hg s H C cl fp)) (fun s H C cl fp => PTs.ex fun b' _ => ts_nil) (fun E s H C cl fp => ⟨fun pins s' σ H' Q I ⟨b', hb, q⟩ => (he E s H C cl fp b' hb).run pins s' σ H' Q I q⟩) hfold) (lcX_post hp)
end
namespace S
variable {ρ ρ1 : Ev} {x y : D} {l : List D}
theorem fLcX_eq {s vs p fe} : fLcX s vs p fe ρ = lcXk vs p fe (s ρ) := nrfl
theorem xk_ok {vs p fe} : lcXk vs p fe (.ok l ρ) = if okW ρ vs = true ∧ l.length ≤ sizeLine then lcXo vs ρ (lcX vs p fe l (wipeE ρ vs)) else .stuck := nrfl
theorem xo_ok {vs} : lcXo vs ρ1 (.ok l ρ) = .ok (.ow l) (backE ρ1 ρ vs) := nrfl
theorem xo_r {vs c} : lcXo vs ρ1 (.raise c ρ) = .raise c (backE ρ1 ρ vs) := nrfl
theorem x_nil {vs p fe} : lcX vs p fe [] ρ = .ok [] ρ := nrfl
def xE (vs : List Nat) (p : Pat) (fe : Ev → RE) (xs : List D) : RE → LcR
  | .ok (.d y) ρ3 => (lcX vs p fe xs (wipeE ρ3 vs)).cons y
  | .ok (.ow l) ρ3 => (lcX vs p fe xs (wipeE ρ3 vs)).cons (.list l)
  | .ok _ _ => .stuck
  | .raise c ρ3 => .raise c (wipeE ρ3 vs)
  | .stuck => .stuck
def xB (vs : List Nat) (p : Pat) (fe : Ev → RE) (xs : List D) : Option Ev → LcR
  | some ρ1 => xE vs p fe xs (fe ρ1)
  | none => .stuck
theorem x_cons {vs p fe} : lcX vs p fe (x :: l) ρ = xB vs p fe l (bindP p x ρ) := by
  rw [lcX]
  unfold xB xE
  cases bindP p x ρ with
  | none => rfl
  | some ρ1 =>
    dsimp only
    cases fe ρ1 with
    | raise c ρ2 => rfl
    | stuck => rfl
    | ok sv ρ3 => cases sv <;> rfl
theorem xB_s {vs p fe} : xB vs p fe l (some ρ) = xE vs p fe l (fe ρ) := nrfl
theorem xE_d {vs p fe} : xE vs p fe l (.ok (.d y) ρ) = (lcX vs p fe l (wipeE ρ vs)).cons y := nrfl
theorem xE_r {vs p fe c} : xE vs p fe l (.raise c ρ) = .raise c (wipeE ρ vs) := nrfl
theorem xc_ok : (LcR.ok l ρ).cons y = .ok (y :: l) ρ := nrfl
theorem xc_r {c} : (LcR.raise c ρ).cons y = .raise c ρ := nrfl
end S
end Dl
set_option maxHeartbeats 4000000
namespace K81
open PySem PySem.Spec L2 Dl
def top (i : Nat) : Stmt := PySem.Challenge.pw_updownworths_k81_whole_texts_bent.main.body.getD i (.Pass ⟨0, 0, 0, 0⟩)
abbrev Sem := Nat → Fn
def tab_WORDS : List (Str × Int) := [("sum", 2), ("less", 2), ("least", 2), ("greatest", 2), ("pick", 3), ("times", 1), ("rest", 1), ("num", 0), ("worth", 0)]
def isx_BookError : Nat → Option Bool | 17 => some true | _ => none
def isx_ValueError : Nat → Option Bool | 17 => some true | _ => none
def isx_NoFormula : Nat → Option Bool | 17 => some false | _ => none
def isx_NoWorth : Nat → Option Bool | 17 => some false | _ => none
def isx_NoBook : Nat → Option Bool | 17 => some false | _ => none
def isx_NoRule : Nat → Option Bool | 17 => some false | _ => none
def isx_NoName : Nat → Option Bool | 17 => some false | _ => none
def isx_NoSign : Nat → Option Bool | 17 => some false | _ => none
def isx_NoTree : Nat → Option Bool | 17 => some false | _ => none
def isx_NoPath : Nat → Option Bool | 17 => some false | _ => none
def isx_NoGiven : Nat → Option Bool | 17 => some false | _ => none
def isx_NoGraph : Nat → Option Bool | 17 => some false | _ => none
def isx_NoNeed : Nat → Option Bool | 17 => some false | _ => none
def isx_NoVisits : Nat → Option Bool | 17 => some false | _ => none
def isx_NoPlan : Nat → Option Bool | 17 => some false | _ => none
def isx_NoJoin : Nat → Option Bool | 17 => some false | _ => none
def isx_NoText : Nat → Option Bool | 17 => some true | _ => none
def isx_NoLine : Nat → Option Bool | 17 => some false | _ => none
def isx_TooMany : Nat → Option Bool | 17 => some false | _ => none
def isx_HasRing : Nat → Option Bool | 17 => some false | _ => none
def isx_NoBridge : Nat → Option Bool | 17 => some false | _ => none
def isx_UnitedRing : Nat → Option Bool | 17 => some false | _ => none
def isx_NoOrder : Nat → Option Bool | 17 => some false | _ => none
def isx_OtherShape : Nat → Option Bool | 17 => some false | _ => none
def isx_NotFit : Nat → Option Bool | 17 => some false | _ => none
def exm_BookError : Nat → Option Bool | 17 => some true | _ => none
/-- is_number(thing): 0 thing -/
def fb0 (S : Sem) : Ev → RS :=
  (fRet (fAndV (fIsN 0 isIntT (fun _ => none)) (fNotV (fIsN 0 isBoolT (fun _ => none)))))
/-- numbers_fit(thing): 0 thing, 1 part -/
def fb1 (S : Sem) : Ev → RS :=
  (fSeq (fIf (fTest (fOp eqD (.e (fOp ixD (.n 0) (.e (fC (.int 0))))) (.e (fC (.str "num")))))
    (fRet (fAndV (fOp eqD (.e (fUn lenD (.n 0))) (.e (fC (.int 2)))) (fAndV (fCall (S 0) [.v (fOp ixD (.n 0) (.e (fC (.int 1))))]) (fOp ltD (.e (fUn absD (.e (fOp ixD (.n 0) (.e (fC (.int 1))))))) (.e (fOp powD (.e (fC (.int 10))) (.e (fC (.int 6)))))))))
    fSkip)
    (fSeq (fIf (fTest (fOp eqD (.e (fOp ixD (.n 0) (.e (fC (.int 0))))) (.e (fC (.str "worth")))))
    (fRet (fAndV (fOp eqD (.e (fUn lenD (.n 0))) (.e (fC (.int 3)))) (fUn allD (.e (fLc (fun ρ => RI.of ((fSl (.n 0) (.e (fC (.int 1))) .no) ρ) kSeq) [1] (.n 1) fYes (fAndV (fCall (S 0) [.v (fVar 1)]) (fOp geD (.n 1) (.e (fC (.int 0))))))))))
    fSkip)
    (fSeq (fIf (fTest (fOp eqD (.e (fOp ixD (.n 0) (.e (fC (.int 0))))) (.e (fC (.str "times")))))
    (fRet (fAndV (fOp eqD (.e (fUn lenD (.n 0))) (.e (fC (.int 3)))) (fAndV (fCall (S 0) [.v (fOp ixD (.n 0) (.e (fC (.int 1))))]) (fOp ltD (.e (fUn absD (.e (fOp ixD (.n 0) (.e (fC (.int 1))))))) (.e (fOp powD (.e (fC (.int 10))) (.e (fC (.int 4)))))))))
    fSkip)
    (fSeq (fIf (fTest (fOp eqD (.e (fOp ixD (.n 0) (.e (fC (.int 0))))) (.e (fC (.str "rest")))))
    (fRet (fAndV (fOp eqD (.e (fUn lenD (.n 0))) (.e (fC (.int 3)))) (fAndV (fCall (S 0) [.v (fOp ixD (.n 0) (.e (fC (.int 1))))]) (fChain ltD ltD (.e (fC (.int 0))) (.e (fOp ixD (.n 0) (.e (fC (.int 1))))) (.e (fOp powD (.e (fC (.int 10))) (.e (fC (.int 4)))))))))
    fSkip)
    (fRet (fOp eqD (.e (fUn lenD (.n 0))) (.e (fOp addD (.e (fC (.int 1))) (.e (fUn (kgetD tab_WORDS) (.e (fOp ixD (.n 0) (.e (fC (.int 0)))))))))))))))
/-- inner_of(formula): 0 formula, 1 many -/
def fb2 (S : Sem) : Ev → RS :=
  (fSeq (fSet 1 (fUn (kgetD tab_WORDS) (.e (fOp ixD (.n 0) (.e (fC (.int 0)))))))
    (fRet (fSl (.n 0) (.e (fOp subD (.e (fUn lenD (.n 0))) (.n 1))) .no)))
/-- deep_of(thing, deep): 0 thing, 1 deep, 2 part -/
def fb3 (S : Sem) : Ev → RS :=
  (fSeq (fIf (fOrT (fTest (fOp gtD (.n 1) (.e (fC (.int 4))))) (fOrT (fNotT (fTest (fIsN 0 isTupleT (fun _ => none)))) (fOrT (fTest (fOp eqD (.e (fUn lenD (.n 0))) (.e (fC (.int 0))))) (fNotT (fTest (fIsE (fOp ixD (.n 0) (.e (fC (.int 0)))) isStrT))))))
    (fRet (fOp addD (.e (fC (.int 15))) (.e (fC (.int 1)))))
    fSkip)
    (fSeq (fIf (fOrT (fTest (fUn (kninD tab_WORDS) (.e (fOp ixD (.n 0) (.e (fC (.int 0))))))) (fNotT (fTest (fCall (S 1) [.v (fVar 0)]))))
    (fRet (fOp addD (.e (fC (.int 15))) (.e (fC (.int 1)))))
    fSkip)
    (fRet (fOp addD (.e (fC (.int 1))) (.e (fUn sumD (.e (fLc (fun ρ => RI.of ((fCall (S 2) [.v (fVar 0)]) ρ) kSeq) [2] (.n 2) fYes (fCall (S 3) [.v (fVar 2), .v (fOp addD (.n 1) (.e (fC (.int 1))))])))))))))
/-- is_formula(thing): 0 thing -/
def fb4 (S : Sem) : Ev → RS :=
  (fRet (fOp leD (.e (fCall (S 3) [.v (fVar 0), .v (fC (.int 1))])) (.e (fC (.int 15)))))
/-- knots_of(tree): 0 tree, 1 bough -/
def fb5 (S : Sem) : Ev → RS :=
  (fRet (fOp addD (.e (fC (.int 1))) (.e (fUn sumD (.e (fLc (fun ρ => RI.of ((fOp ixD (.n 0) (.e (fC (.int 1)))) ρ) kSeq) [1] (.n 1) fYes (fCall (S 5) [.v (fVar 1)])))))))
/-- number_read(text): 0 text, 1 figures, 2 sign -/
def fb6 (S : Sem) : Ev → RS :=
  (fSeq (fSet 1 (fVar 0))
    (fSeq (fIf (fTest (fOp eqD (.e (fSl (.n 0) .no (.e (fC (.int 1))))) (.e (fC (.str "-")))))
    (fSet 1 (fSl (.n 0) (.e (fC (.int 1))) .no))
    fSkip)
    (fSeq (fIf (fOrT (fTest (fOp ltD (.e (fUn lenD (.n 1))) (.e (fC (.int 1))))) (fOrT (fTest (fOp gtD (.e (fUn lenD (.n 1))) (.e (fC (.int 40))))) (fNotT (fTest (fUn allD (.e (fLc (fun ρ => RI.of ((fVar 1) ρ) kSeq) [2] (.n 2) fYes (fOp inD (.n 2) (.e (fC (.str "0123456789")))))))))))
    (fRaise 17)
    fSkip)
    (fSeq (fIf (fAndT (fTest (fOp eqD (.e (fOp ixD (.n 1) (.e (fC (.int 0))))) (.e (fC (.str "0"))))) (fTest (fOp neD (.n 0) (.e (fC (.str "0"))))))
    (fRaise 17)
    fSkip)
    (fRet (fUn intD (.n 0)))))))
/-- count_read(text): 0 text, 1 number -/
def fb7 (S : Sem) : Ev → RS :=
  (fSeq (fSet 1 (fCall (S 6) [.v (fVar 0)]))
    (fSeq (fIf (fTest (fOp eqD (.e (fOp ixD (.n 0) (.e (fC (.int 0))))) (.e (fC (.str "-")))))
    (fRaise 17)
    fSkip)
    (fRet (fMove 1))))
/-- name_read(text): 0 text, 1 parts -/
def fb8 (S : Sem) : Ev → RS :=
  (fSeq (fSet 1 (fM1 splitD (fSl (.n 0) (.e (fC (.int 1))) .no) (.e (fC (.str ".")))))
    (fSeq (fIf (fTest (fOp neD (.e (fUn lenD (.n 1))) (.e (fC (.int 2)))))
    (fRaise 17)
    fSkip)
    (fRet (fTup [(fC (.str "worth")), (fCall (S 7) [.v (fOp ixD (.n 1) (.e (fC (.int 0))))]), (fCall (S 7) [.v (fOp ixD (.n 1) (.e (fC (.int 1))))])]))))
/-- pieces_of(text): 0 text, 1 found, 2 deep, 3 sign -/
def fb9 (S : Sem) : Ev → RS :=
  (fSeq (fSet 1 (fLst [(fC (.str ""))]))
    (fSeq (fSet 2 (fC (.int 0)))
    (fSeq (fFor (fun ρ => RI.of ((fVar 0) ρ) kSeq) (.n 3)
    (fSeq (fSet 2 (fOp subD (.e (fOp addD (.n 2) (.e (fUn intD (.e (fOp eqD (.n 3) (.e (fC (.str "("))))))))) (.e (fUn intD (.e (fOp eqD (.n 3) (.e (fC (.str ")")))))))))
    (fSeq (fIf (fOrT (fTest (fOp ltD (.n 2) (.e (fC (.int 0))))) (fTest (fOp gtD (.n 2) (.e (fC (.int 40))))))
    (fRaise 17)
    fSkip)
    (fIf (fAndT (fTest (fOp eqD (.n 3) (.e (fC (.str " "))))) (fTest (fOp eqD (.n 2) (.e (fC (.int 0))))))
    (fApp 1 (fC (.str "")))
    (fSetIx 1 (fUn negD (.e (fC (.int 1)))) (fOp addD (.e (fOp ixD (.n 1) (.e (fUn negD (.e (fC (.int 1))))))) (.n 3)))))))
    (fRet (fMove 1)))))
/-- formula_from(text, deep): 0 text, 1 deep, 2 pieces, 3 word, 4 found, 5 piece -/
def fb10 (S : Sem) : Ev → RS :=
  (fSeq (fIf (fTest (fOp gtD (.n 1) (.e (fC (.int 40)))))
    (fRaise 17)
    fSkip)
    (fSeq (fIf (fTest (fOp eqD (.e (fSl (.n 0) .no (.e (fC (.int 1))))) (.e (fC (.str "@")))))
    (fRet (fCall (S 8) [.v (fVar 0)]))
    fSkip)
    (fSeq (fIf (fOrT (fTest (fOp neD (.e (fSl (.n 0) .no (.e (fC (.int 1))))) (.e (fC (.str "("))))) (fTest (fOp neD (.e (fSl (.n 0) (.e (fUn negD (.e (fC (.int 1))))) .no)) (.e (fC (.str ")"))))))
    (fRet (fTup [(fC (.str "num")), (fCall (S 6) [.v (fVar 0)])]))
    fSkip)
    (fSeq (fSet 2 (fCall (S 9) [.v (fSl (.n 0) (.e (fC (.int 1))) (.e (fUn negD (.e (fC (.int 1))))))]))
    (fSeq (fSet 3 (fOp ixD (.n 2) (.e (fC (.int 0)))))
    (fSeq (fIf (fOrT (fTest (fUn (kninD tab_WORDS) (.n 3))) (fTest (fOp inD (.n 3) (.e (fTup [(fC (.str "num")), (fC (.str "worth"))])))))
    (fRaise 17)
    fSkip)
    (fSeq (fSet 4 (fLst [(fVar 3)]))
    (fSeq (fIf (fAndT (fTest (fOp inD (.n 3) (.e (fTup [(fC (.str "times")), (fC (.str "rest"))])))) (fTest (fOp gtD (.e (fUn lenD (.n 2))) (.e (fC (.int 1))))))
    (fSeq (fApp 4 (fCall (S 6) [.v (fOp ixD (.n 2) (.e (fC (.int 1))))]))
    (fSet 2 (fSl (.n 2) (.e (fC (.int 1))) .no)))
    fSkip)
    (fSeq (fIf (fTest (fOp neD (.e (fUn lenD (.n 2))) (.e (fOp addD (.e (fC (.int 1))) (.e (fUn (kgetD tab_WORDS) (.n 3)))))))
    (fRaise 17)
    fSkip)
    (fRet (fUn tupleD (.e (fOp addD (.n 4) (.e (fLcX (fun ρ => RI.of ((fSl (.n 2) (.e (fC (.int 1))) .no) ρ) kSeq) [5] (.n 5) (fCall (S 10) [.v (fVar 5), .v (fOp addD (.n 1) (.e (fC (.int 1))))]))))))))))))))))
/-- read_formula(text): 0 text, 1 found -/
def fb11 (S : Sem) : Ev → RS :=
  (fSeq (fSet 1 (fCall (S 10) [.v (fVar 0), .v (fC (.int 0))]))
    (fSeq (fIf (fNotT (fTest (fCall (S 4) [.v (fVar 1)])))
    (fRaise 17)
    fSkip)
    (fRet (fMove 1))))
/-- tree_from(text, place, deep): 0 text, 1 place, 2 deep, 3 rule, 4 boughs, 5 bough -/
def fb12 (S : Sem) : Ev → RS :=
  (fSeq (fIf (fOrT (fTest (fOp gtD (.n 2) (.e (fC (.int 30))))) (fTest (fOp ninD (.e (fSl (.n 0) (.e (fVar 1)) (.e (fOp addD (.n 1) (.e (fC (.int 1))))))) (.e (fTup [(fC (.str "0")), (fC (.str "1")), (fC (.str "2")), (fC (.str "3")), (fC (.str "4")), (fC (.str "5")), (fC (.str "6")), (fC (.str "7"))])))))
    (fRaise 17)
    fSkip)
    (fSeq (fSet 3 (fUn intD (.e (fOp ixD (.n 0) (.n 1)))))
    (fSeq (fSet 1 (fOp addD (.n 1) (.e (fC (.int 1)))))
    (fSeq (fSet 4 (fLst []))
    (fSeq (fIf (fTest (fOp eqD (.e (fSl (.n 0) (.e (fVar 1)) (.e (fOp addD (.n 1) (.e (fC (.int 1))))))) (.e (fC (.str "(")))))
    (fSeq (fUnp (.t [(.n 5), (.n 1)]) (fCall (S 12) [.v (fVar 0), .v (fOp addD (.n 1) (.e (fC (.int 1)))), .v (fOp addD (.n 2) (.e (fC (.int 1))))]))
    (fSeq (fApp 4 (fVar 5))
    (fSeq (fIf (fTest (fOp eqD (.e (fSl (.n 0) (.e (fVar 1)) (.e (fOp addD (.n 1) (.e (fC (.int 1))))))) (.e (fC (.str ",")))))
    (fSeq (fUnp (.t [(.n 5), (.n 1)]) (fCall (S 12) [.v (fVar 0), .v (fOp addD (.n 1) (.e (fC (.int 1)))), .v (fOp addD (.n 2) (.e (fC (.int 1))))]))
    (fApp 4 (fVar 5)))
    fSkip)
    (fSeq (fIf (fTest (fOp neD (.e (fSl (.n 0) (.e (fVar 1)) (.e (fOp addD (.n 1) (.e (fC (.int 1))))))) (.e (fC (.str ")")))))
    (fRaise 17)
    fSkip)
    (fSet 1 (fOp addD (.n 1) (.e (fC (.int 1)))))))))
    fSkip)
    (fRet (fTup [(fTup [(fVar 3), (fUn tupleD (.n 4))]), (fVar 1)])))))))
/-- read_tree(text): 0 text, 1 found, 2 place -/
def fb13 (S : Sem) : Ev → RS :=
  (fSeq (fUnp (.t [(.n 1), (.n 2)]) (fCall (S 12) [.v (fVar 0), .v (fC (.int 0)), .v (fC (.int 1))]))
    (fSeq (fIf (fOrT (fTest (fOp neD (.n 2) (.e (fUn lenD (.n 0))))) (fTest (fOp gtD (.e (fCall (S 5) [.v (fVar 1)])) (.e (fC (.int 60))))))
    (fRaise 17)
    fSkip)
    (fRet (fMove 1))))
/-- _law_mixed(_law_cell_here, _law_k): 0 _law_cell_here, 1 _law_k, 2 _law_number -/
def fb14 (S : Sem) : Ev → RS :=
  (fSeq (fSet 2 (fOp modD (.e (fOp addD (.e (fOp addD (.e (fOp mulD (.e (fOp modD (.n 0) (.e (fC (.int 2147483647))))) (.e (fC (.int 48271))))) (.e (fOp mulD (.n 1) (.e (fC (.int 69621))))))) (.e (fC (.int 1048583))))) (.e (fC (.int 2147483629)))))
    (fSeq (fSet 2 (fOp modD (.e (fOp mulD (.n 2) (.n 2))) (.e (fC (.int 2147483587)))))
    (fRet (fOp modD (.e (fOp mulD (.n 2) (.e (fOp addD (.n 2) (.e (fC (.int 2))))))) (.e (fC (.int 2147483579)))))))
/-- _law_cell(_law_script, _law_k): 0 _law_script, 1 _law_k, 2 _law_cell_here, 3 _law_found, 4 _law_j -/
def fb15 (S : Sem) : Ev → RS :=
  (fSeq (fSet 2 (fC (.int 0)))
    (fSeq (fIf (fTest (fOp ltD (.n 1) (.e (fLenF 0))))
    (fSet 2 (fIxF 0 (fVar 1)))
    fSkip)
    (fSeq (fIf (fTest (fOp geD (.n 2) (.e (fOp powD (.e (fC (.int 10))) (.e (fC (.int 18)))))))
    (fRet (fOp modD (.e (fOp subD (.n 2) (.e (fOp powD (.e (fC (.int 10))) (.e (fC (.int 18))))))) (.e (fOp mulD (.e (fOp mulD (.e (fOp mulD (.e (fOp powD (.e (fC (.int 10))) (.e (fC (.int 60))))) (.e (fOp powD (.e (fC (.int 10))) (.e (fC (.int 60))))))) (.e (fOp powD (.e (fC (.int 10))) (.e (fC (.int 60))))))) (.e (fOp powD (.e (fC (.int 10))) (.e (fC (.int 60)))))))))
    fSkip)
    (fSeq (fSet 3 (fC (.int 0)))
    (fSeq (fFor (fun ρ => RI.of ((fC (.int 24)) ρ) kRng) (.n 4)
    (fSet 3 (fOp addD (.e (fOp mulD (.n 3) (.e (fC (.int 2147483579))))) (.e (fCall (S 14) [.v (fVar 2), .v (fOp addD (.e (fOp addD (.e (fOp mulD (.e (fC (.int 7))) (.n 1))) (.e (fOp mulD (.e (fC (.int 100))) (.n 4))))) (.e (fOp mulD (.n 4) (.n 4))))])))))
    (fRet (fMove 3)))))))
/-- _law_take(_law_pile, _law_size): 0 _law_pile, 1 _law_size, 2 _law_digit -/
def fb16 (S : Sem) : Ev → RS :=
  (fSeq (fSet 2 (fOp modD (.e (fOp ixD (.n 0) (.e (fC (.int 0))))) (.n 1)))
    (fSeq (fSetIx 0 (fC (.int 0)) (fOp fdivD (.e (fOp ixD (.n 0) (.e (fC (.int 0))))) (.n 1)))
    (fRet (fMove 2))))
/-- _law_grown(_law_pile, _law_most, _law_deep, _law_far): 0 _law_pile, 1 _law_most, 2 _law_deep, 3 _law_far, 4 _law_way, 5 _law_many_here, 6 _law_place, 7 _law_left, 8 _law_inner, 9 _law_k, 10 _law_spare, 11 _law_word -/
def fb17 (S : Sem) : Ev → RS :=
  (fSeq (fSet 4 (fCall (S 16) [.r 0, .v (fC (.int 10))]))
    (fSeq (fSet 5 (fOp ixD (.e (fLst [(fC (.int 0)), (fC (.int 0)), (fC (.int 0)), (fC (.int 2)), (fC (.int 2)), (fC (.int 2)), (fC (.int 2)), (fC (.int 1)), (fC (.int 1)), (fC (.int 3))])) (.n 4)))
    (fSeq (fIf (fOrT (fTest (fOp eqD (.n 2) (.e (fC (.int 1))))) (fOrT (fTest (fOp eqD (.n 5) (.e (fC (.int 0))))) (fTest (fOp ltD (.n 1) (.e (fOp addD (.e (fC (.int 1))) (.n 5)))))))
    (fSeq (fIf (fTest (fOp eqD (.e (fCall (S 16) [.r 0, .v (fC (.int 2))])) (.e (fC (.int 0)))))
    (fRet (fTup [(fC (.str "num")), (fOp addD (.e (fOp subD (.e (fCall (S 16) [.r 0, .v (fOp subD (.e (fOp mulD (.e (fC (.int 2))) (.e (fOp powD (.e (fC (.int 10))) (.e (fC (.int 6))))))) (.e (fC (.int 1))))])) (.e (fOp powD (.e (fC (.int 10))) (.e (fC (.int 6))))))) (.e (fC (.int 1))))]))
    fSkip)
    (fSeq (fSet 6 (fCall (S 16) [.r 0, .v (fOp ixD (.e (fLst [(fC (.int 3)), (fVar 3)])) (.e (fCall (S 16) [.r 0, .v (fC (.int 2))])))]))
    (fRet (fTup [(fC (.str "worth")), (fVar 6), (fCall (S 16) [.r 0, .v (fOp ixD (.e (fLst [(fC (.int 4)), (fVar 3)])) (.e (fCall (S 16) [.r 0, .v (fC (.int 2))])))])]))))
    fSkip)
    (fSeq (fSet 7 (fOp subD (.e (fOp subD (.n 1) (.e (fC (.int 1))))) (.n 5)))
    (fSeq (fSet 8 (fLst []))
    (fSeq (fFor (fun ρ => RI.of ((fVar 5) ρ) kRng) (.n 9)
    (fSeq (fSet 10 (fCall (S 16) [.r 0, .v (fOp addD (.n 7) (.e (fC (.int 1))))]))
    (fSeq (fSet 7 (fOp subD (.n 7) (.n 10)))
    (fApp 8 (fCall (S 17) [.r 0, .v (fOp addD (.e (fC (.int 1))) (.n 10)), .v (fOp subD (.n 2) (.e (fC (.int 1)))), .v (fVar 3)])))))
    (fSeq (fSet 11 (fOp ixD (.e (fLst [(fC (.str "sum")), (fC (.str "less")), (fC (.str "least")), (fC (.str "greatest")), (fC (.str "times")), (fC (.str "rest")), (fC (.str "pick"))])) (.e (fOp subD (.n 4) (.e (fC (.int 3)))))))
    (fSeq (fIf (fTest (fOp eqD (.n 11) (.e (fC (.str "times")))))
    (fRet (fTup [(fVar 11), (fOp subD (.e (fCall (S 16) [.r 0, .v (fC (.int 19999))])) (.e (fC (.int 9999)))), (fOp ixD (.n 8) (.e (fC (.int 0))))]))
    fSkip)
    (fSeq (fIf (fTest (fOp eqD (.n 11) (.e (fC (.str "rest")))))
    (fRet (fTup [(fVar 11), (fOp addD (.e (fC (.int 1))) (.e (fCall (S 16) [.r 0, .v (fC (.int 9999))]))), (fOp ixD (.n 8) (.e (fC (.int 0))))]))
    fSkip)
    (fRet (fUn tupleD (.e (fOp addD (.e (fLst [(fVar 11)])) (.n 8))))))))))))))
/-- _law_text(_law_formula): 0 _law_formula, 1 _law_words, 2 _law_part -/
def fb18 (S : Sem) : Ev → RS :=
  (fSeq (fIf (fTest (fOp eqD (.e (fOp ixD (.n 0) (.e (fC (.int 0))))) (.e (fC (.str "num")))))
    (fRet (fUn strD (.e (fOp ixD (.n 0) (.e (fC (.int 1)))))))
    fSkip)
    (fSeq (fIf (fTest (fOp eqD (.e (fOp ixD (.n 0) (.e (fC (.int 0))))) (.e (fC (.str "worth")))))
    (fRet (fOp addD (.e (fOp addD (.e (fOp addD (.e (fC (.str "@"))) (.e (fUn strD (.e (fOp ixD (.n 0) (.e (fC (.int 1))))))))) (.e (fC (.str "."))))) (.e (fUn strD (.e (fOp ixD (.n 0) (.e (fC (.int 2)))))))))
    fSkip)
    (fSeq (fSet 1 (fLst [(fOp ixD (.n 0) (.e (fC (.int 0))))]))
    (fSeq (fFor (fun ρ => RI.of ((fSl (.n 0) (.e (fC (.int 1))) .no) ρ) kSeq) (.n 2)
    (fIf (fTest (fIsN 2 isTupleT (fun _ => none)))
    (fApp 1 (fCall (S 18) [.v (fVar 2)]))
    (fApp 1 (fUn strD (.n 2)))))
    (fRet (fOp addD (.e (fOp addD (.e (fC (.str "("))) (.e (fM1 joinD (fC (.str " ")) (.n 1))))) (.e (fC (.str ")")))))))))
/-- _law_wood(_law_pile, _law_knots_here, _law_deep): 0 _law_pile, 1 _law_knots_here, 2 _law_deep, 3 _law_rule, 4 _law_boughs, 5 _law_left, 6 _law_many_here, 7 _law_share -/
def fb19 (S : Sem) : Ev → RS :=
  (fSeq (fSet 3 (fCall (S 16) [.r 0, .v (fC (.int 8))]))
    (fSeq (fSet 4 (fLst []))
    (fSeq (fSet 5 (fOp subD (.n 1) (.e (fC (.int 1)))))
    (fSeq (fSet 6 (fCall (S 16) [.r 0, .v (fC (.int 3))]))
    (fSeq (whileL (fAndT (fTest (fOp gtD (.n 2) (.e (fC (.int 1))))) (fAndT (fTest (fOp gtD (.n 5) (.e (fC (.int 0))))) (fTest (fOp ltD (.e (fUn lenD (.n 4))) (.e (fOp maxD (.e (fC (.int 1))) (.n 6)))))))
    (fSeq (fSet 7 (fVar 5))
    (fSeq (fIf (fAndT (fTest (fOp ltD (.e (fOp addD (.e (fUn lenD (.n 4))) (.e (fC (.int 1))))) (.n 6))) (fTest (fOp gtD (.n 5) (.e (fC (.int 1))))))
    (fSet 7 (fOp addD (.e (fC (.int 1))) (.e (fCall (S 16) [.r 0, .v (fOp subD (.n 5) (.e (fC (.int 1))))]))))
    fSkip)
    (fSeq (fApp 4 (fCall (S 19) [.r 0, .v (fVar 7), .v (fOp subD (.n 2) (.e (fC (.int 1))))]))
    (fSet 5 (fOp subD (.n 5) (.n 7)))))) fuel)
    (fRet (fTup [(fVar 3), (fUn tupleD (.n 4))])))))))
/-- _law_tree_text(_law_tree): 0 _law_tree, 1 _law_bough -/
def fb20 (S : Sem) : Ev → RS :=
  (fSeq (fIf (fTest (fOp eqD (.e (fOp ixD (.n 0) (.e (fC (.int 1))))) (.e (fTup []))))
    (fRet (fUn strD (.e (fOp ixD (.n 0) (.e (fC (.int 0)))))))
    fSkip)
    (fRet (fOp addD (.e (fOp addD (.e (fOp addD (.e (fUn strD (.e (fOp ixD (.n 0) (.e (fC (.int 0))))))) (.e (fC (.str "("))))) (.e (fM1 joinD (fC (.str ",")) (.e (fLc (fun ρ => RI.of ((fOp ixD (.n 0) (.e (fC (.int 1)))) ρ) kSeq) [1] (.n 1) fYes (fCall (S 20) [.v (fVar 1)]))))))) (.e (fC (.str ")"))))))
/-- _law_only(_law_caught, _law_name): 0 _law_caught, 1 _law_name, 2 _law_found, 3 _law_names, 4 _law_one -/
def fb21 (S : Sem) : Ev → RS :=
  (fSeq (fIf (fOrT (fNotT (fTest (fIsN 0 (fun _ => none) isx_BookError))) (fNotT (fTest (fIsN 0 (fun _ => none) isx_ValueError))))
    (fRet (fC (.bool false)))
    fSkip)
    (fSeq (fSet 2 (fLst [(fIsN 0 (fun _ => none) isx_NoFormula), (fIsN 0 (fun _ => none) isx_NoWorth), (fIsN 0 (fun _ => none) isx_NoBook)]))
    (fSeq (fSet 2 (fOp addD (.n 2) (.e (fLst [(fIsN 0 (fun _ => none) isx_NoRule), (fIsN 0 (fun _ => none) isx_NoName), (fIsN 0 (fun _ => none) isx_NoSign)]))))
    (fSeq (fSet 2 (fOp addD (.n 2) (.e (fLst [(fIsN 0 (fun _ => none) isx_NoTree), (fIsN 0 (fun _ => none) isx_NoPath), (fIsN 0 (fun _ => none) isx_NoGiven)]))))
    (fSeq (fSet 2 (fOp addD (.n 2) (.e (fLst [(fIsN 0 (fun _ => none) isx_NoGraph), (fIsN 0 (fun _ => none) isx_NoNeed), (fIsN 0 (fun _ => none) isx_NoVisits)]))))
    (fSeq (fSet 2 (fOp addD (.n 2) (.e (fLst [(fIsN 0 (fun _ => none) isx_NoPlan), (fIsN 0 (fun _ => none) isx_NoJoin), (fIsN 0 (fun _ => none) isx_NoText)]))))
    (fSeq (fSet 2 (fOp addD (.n 2) (.e (fLst [(fIsN 0 (fun _ => none) isx_NoLine), (fIsN 0 (fun _ => none) isx_TooMany), (fIsN 0 (fun _ => none) isx_HasRing)]))))
    (fSeq (fSet 2 (fOp addD (.n 2) (.e (fLst [(fIsN 0 (fun _ => none) isx_NoBridge), (fIsN 0 (fun _ => none) isx_UnitedRing), (fIsN 0 (fun _ => none) isx_NoOrder)]))))
    (fSeq (fApp 2 (fIsN 0 (fun _ => none) isx_OtherShape))
    (fSeq (fSet 3 (fLst [(fC (.str "NoFormula")), (fC (.str "NoWorth")), (fC (.str "NoBook")), (fC (.str "NoRule")), (fC (.str "NoName")), (fC (.str "NoSign")), (fC (.str "NoTree")), (fC (.str "NoPath")), (fC (.str "NoGiven"))]))
    (fSeq (fSet 3 (fOp addD (.n 3) (.e (fLst [(fC (.str "NoGraph")), (fC (.str "NoNeed")), (fC (.str "NoVisits")), (fC (.str "NoPlan")), (fC (.str "NoJoin")), (fC (.str "NoText")), (fC (.str "NoLine")), (fC (.str "TooMany"))]))))
    (fSeq (fSet 3 (fOp addD (.n 3) (.e (fLst [(fC (.str "HasRing")), (fC (.str "NoBridge")), (fC (.str "UnitedRing")), (fC (.str "NoOrder")), (fC (.str "OtherShape")), (fC (.str "NotFit"))]))))
    (fRet (fOp eqD (.e (fOp addD (.n 2) (.e (fLst [(fIsN 0 (fun _ => none) isx_NotFit)])))) (.e (fLc (fun ρ => RI.of ((fVar 3) ρ) kSeq) [4] (.n 4) fYes (fOp eqD (.n 4) (.n 1))))))))))))))))))
/-- _law_digits(_law_text_here): 0 _law_text_here, 1 _law_sign -/
def fb22 (S : Sem) : Ev → RS :=
  (fSeq (fIf (fOrT (fTest (fOp eqD (.n 0) (.e (fC (.str ""))))) (fOrT (fTest (fOp gtD (.e (fUn lenD (.n 0))) (.e (fC (.int 40))))) (fNotT (fTest (fUn allD (.e (fLc (fun ρ => RI.of ((fVar 0) ρ) kSeq) [1] (.n 1) fYes (fOp inD (.n 1) (.e (fC (.str "0123456789")))))))))))
    (fRet (fC (.bool false)))
    fSkip)
    (fRet (fOrV (fOp eqD (.n 0) (.e (fC (.str "0")))) (fOp neD (.e (fOp ixD (.n 0) (.e (fC (.int 0))))) (.e (fC (.str "0")))))))
/-- _law_number_in(_law_text_here): 0 _law_text_here -/
def fb23 (S : Sem) : Ev → RS :=
  (fSeq (fIf (fTest (fCall (S 22) [.v (fVar 0)]))
    (fRet (fUn intD (.n 0)))
    fSkip)
    (fSeq (fIf (fAndT (fTest (fOp eqD (.e (fSl (.n 0) .no (.e (fC (.int 1))))) (.e (fC (.str "-"))))) (fAndT (fTest (fOp neD (.n 0) (.e (fC (.str "-0"))))) (fTest (fCall (S 22) [.v (fSl (.n 0) (.e (fC (.int 1))) .no)]))))
    (fRet (fOp subD (.e (fC (.int 0))) (.e (fUn intD (.e (fSl (.n 0) (.e (fC (.int 1))) .no))))))
    fSkip)
    (fRet (fC .none))))
/-- _law_end(_law_text_here, _law_place): 0 _law_text_here, 1 _law_place, 2 _law_deep, 3 _law_k -/
def fb24 (S : Sem) : Ev → RS :=
  (fSeq (fSet 2 (fC (.int 0)))
    (fSeq (fFor (fRng2 (fVar 1) (fUn lenD (.n 0))) (.n 3)
    (fSeq (fSet 2 (fOp subD (.e (fOp addD (.n 2) (.e (fUn intD (.e (fOp eqD (.e (fOp ixD (.n 0) (.n 3))) (.e (fC (.str "("))))))))) (.e (fUn intD (.e (fOp eqD (.e (fOp ixD (.n 0) (.n 3))) (.e (fC (.str ")")))))))))
    (fIf (fOrT (fTest (fOp ltD (.n 2) (.e (fC (.int 0))))) (fAndT (fTest (fOp eqD (.n 2) (.e (fC (.int 0))))) (fTest (fOp eqD (.e (fOp ixD (.n 0) (.n 3))) (.e (fC (.str " ")))))))
    (fRet (fMove 3))
    fSkip)))
    (fRet (fUn lenD (.n 0)))))
/-- _law_entries(_law_text_here): 0 _law_text_here, 1 _law_found, 2 _law_place, 3 _law_end_here -/
def fb25 (S : Sem) : Ev → RS :=
  (fSeq (fSet 1 (fLst []))
    (fSeq (fSet 2 (fC (.int 0)))
    (fSeq (whileL (fTest (fOp leD (.n 2) (.e (fUn lenD (.n 0)))))
    (fSeq (fSet 3 (fCall (S 24) [.v (fVar 0), .v (fVar 2)]))
    (fSeq (fApp 1 (fSl (.n 0) (.e (fVar 2)) (.e (fVar 3))))
    (fSeq (fIf (fAndT (fTest (fOp ltD (.n 3) (.e (fUn lenD (.n 0))))) (fTest (fOp neD (.e (fOp ixD (.n 0) (.n 3))) (.e (fC (.str " "))))))
    (fRet (fLst [(fC (.str ""))]))
    fSkip)
    (fSet 2 (fOp addD (.n 3) (.e (fC (.int 1)))))))) fuel)
    (fRet (fMove 1)))))
/-- _law_name_in(_law_text_here): 0 _law_text_here, 1 _law_numbers -/
def fb26 (S : Sem) : Ev → RS :=
  (fSeq (fSet 1 (fM1 splitD (fVar 0) (.e (fC (.str ".")))))
    (fSeq (fIf (fOrT (fTest (fOp neD (.e (fUn lenD (.n 1))) (.e (fC (.int 2))))) (fOrT (fNotT (fTest (fCall (S 22) [.v (fOp ixD (.n 1) (.e (fC (.int 0))))]))) (fNotT (fTest (fCall (S 22) [.v (fOp ixD (.n 1) (.e (fC (.int 1))))])))))
    (fRet (fC .none))
    fSkip)
    (fRet (fTup [(fC (.str "worth")), (fUn intD (.e (fOp ixD (.n 1) (.e (fC (.int 0)))))), (fUn intD (.e (fOp ixD (.n 1) (.e (fC (.int 1))))))]))))
/-- _law_formula_in(_law_text_here, _law_deep): 0 _law_text_here, 1 _law_deep, 2 _law_number, 3 _law_entries_here, 4 _law_many_here, 5 _law_front, 6 _law_least, 7 _law_inner, 8 _law_some, 9 _law_entry -/
def fb27 (S : Sem) : Ev → RS :=
  (fSeq (fIf (fTest (fOp eqD (.e (fSl (.n 0) .no (.e (fC (.int 1))))) (.e (fC (.str "@")))))
    (fRet (fCall (S 26) [.v (fSl (.n 0) (.e (fC (.int 1))) .no)]))
    fSkip)
    (fSeq (fIf (fTest (fOp neD (.e (fSl (.n 0) .no (.e (fC (.int 1))))) (.e (fC (.str "(")))))
    (fSeq (fSet 2 (fCall (S 23) [.v (fVar 0)]))
    (fSeq (fIf (fOrT (fTest (fOp isD (.n 2) (.e (fC .none)))) (fTest (fOp geD (.e (fUn absD (.n 2))) (.e (fOp powD (.e (fC (.int 10))) (.e (fC (.int 6))))))))
    (fRet (fC .none))
    fSkip)
    (fRet (fTup [(fC (.str "num")), (fVar 2)]))))
    fSkip)
    (fSeq (fSet 3 (fCall (S 25) [.v (fSl (.n 0) (.e (fC (.int 1))) (.e (fUn negD (.e (fC (.int 1))))))]))
    (fSeq (fSet 4 (fUn (dgetD [("sum", 2), ("less", 2), ("least", 2), ("greatest", 2), ("times", 1), ("rest", 1), ("pick", 3)] 9) (.e (fOp ixD (.n 3) (.e (fC (.int 0)))))))
    (fSeq (fSet 5 (fSl (.n 3) .no (.e (fC (.int 1)))))
    (fSeq (fIf (fOrT (fTest (fOp eqD (.e (fOp ixD (.n 3) (.e (fC (.int 0))))) (.e (fC (.str "times"))))) (fTest (fOp eqD (.e (fOp ixD (.n 3) (.e (fC (.int 0))))) (.e (fC (.str "rest"))))))
    (fSeq (fSet 2 (fCall (S 23) [.v (fOp ixD (.e (fOp addD (.n 3) (.e (fLst [(fC (.str "")), (fC (.str ""))])))) (.e (fC (.int 1))))]))
    (fSeq (fSet 6 (fOp ixD (.e (fLst [(fC (.int 1)), (fOp subD (.e (fC (.int 0))) (.e (fC (.int 9999))))])) (.e (fUn intD (.e (fOp eqD (.e (fOp ixD (.n 3) (.e (fC (.int 0))))) (.e (fC (.str "times")))))))))
    (fSeq (fIf (fOrT (fTest (fOp isD (.n 2) (.e (fC .none)))) (fOrT (fTest (fOp ltD (.n 2) (.n 6))) (fTest (fOp gtD (.n 2) (.e (fC (.int 9999)))))))
    (fRet (fC .none))
    fSkip)
    (fSet 5 (fLst [(fOp ixD (.n 3) (.e (fC (.int 0)))), (fVar 2)])))))
    fSkip)
    (fSeq (fSet 7 (fSl (.n 3) (.e (fUn lenD (.n 5))) .no))
    (fSeq (fIf (fOrT (fTest (fOp neD (.e (fUn lenD (.n 7))) (.n 4))) (fOrT (fTest (fOp eqD (.n 1) (.e (fC (.int 4))))) (fTest (fOp neD (.e (fOp ixD (.n 0) (.e (fUn negD (.e (fC (.int 1))))))) (.e (fC (.str ")")))))))
    (fRet (fC .none))
    fSkip)
    (fSeq (fSet 8 (fLc (fun ρ => RI.of ((fVar 7) ρ) kSeq) [9] (.n 9) fYes (fCall (S 27) [.v (fVar 9), .v (fOp addD (.n 1) (.e (fC (.int 1))))])))
    (fSeq (fIf (fTest (fOp inD (.e (fC .none)) (.n 8)))
    (fRet (fC .none))
    fSkip)
    (fRet (fUn tupleD (.e (fOp addD (.n 5) (.n 8)))))))))))))))
/-- _law_many(_law_formula): 0 _law_formula, 1 _law_part -/
def fb28 (S : Sem) : Ev → RS :=
  (fRet (fOp addD (.e (fC (.int 1))) (.e (fUn sumD (.e (fLc (fun ρ => RI.of ((fSl (.n 0) (.e (fC (.int 1))) .no) ρ) kSeq) [1] (.n 1) (fTest (fIsN 1 isTupleT (fun _ => none))) (fCall (S 28) [.v (fVar 1)])))))))
/-- _law_read_formula(_law_text_here): 0 _law_text_here, 1 _law_found -/
def fb29 (S : Sem) : Ev → RS :=
  (fSeq (fSet 1 (fCall (S 27) [.v (fVar 0), .v (fC (.int 1))]))
    (fSeq (fIf (fOrT (fTest (fOp isD (.n 1) (.e (fC .none)))) (fTest (fOp gtD (.e (fCall (S 28) [.v (fVar 1)])) (.e (fC (.int 15))))))
    (fRet (fC .none))
    fSkip)
    (fRet (fMove 1))))
/-- _law_tree_in(_law_text_here, _law_place, _law_deep): 0 _law_text_here, 1 _law_place, 2 _law_deep, 3 _law_rule, 4 _law_boughs, 5 _law_bough -/
def fb30 (S : Sem) : Ev → RS :=
  (fSeq (fIf (fOrT (fTest (fOp gtD (.n 2) (.e (fC (.int 30))))) (fTest (fOp ninD (.e (fSl (.n 0) (.e (fVar 1)) (.e (fOp addD (.n 1) (.e (fC (.int 1))))))) (.e (fLst [(fC (.str "0")), (fC (.str "1")), (fC (.str "2")), (fC (.str "3")), (fC (.str "4")), (fC (.str "5")), (fC (.str "6")), (fC (.str "7"))])))))
    (fRet (fTup [(fC .none), (fC (.int 0))]))
    fSkip)
    (fSeq (fSet 3 (fUn intD (.e (fOp ixD (.n 0) (.n 1)))))
    (fSeq (fSet 4 (fLst []))
    (fSeq (fSet 1 (fOp addD (.n 1) (.e (fC (.int 1)))))
    (fSeq (fIf (fTest (fOp neD (.e (fSl (.n 0) (.e (fVar 1)) (.e (fOp addD (.n 1) (.e (fC (.int 1))))))) (.e (fC (.str "(")))))
    (fRet (fTup [(fTup [(fVar 3), (fTup [])]), (fVar 1)]))
    fSkip)
    (fSeq (whileL (fOrT (fAndT (fTest (fOp eqD (.e (fSl (.n 0) (.e (fVar 1)) (.e (fOp addD (.n 1) (.e (fC (.int 1))))))) (.e (fC (.str "("))))) (fTest (fOp eqD (.n 4) (.e (fLst []))))) (fAndT (fTest (fOp eqD (.e (fSl (.n 0) (.e (fVar 1)) (.e (fOp addD (.n 1) (.e (fC (.int 1))))))) (.e (fC (.str ","))))) (fTest (fOp eqD (.e (fUn lenD (.n 4))) (.e (fC (.int 1)))))))
    (fSeq (fUnp (.t [(.n 5), (.n 1)]) (fCall (S 30) [.v (fVar 0), .v (fOp addD (.n 1) (.e (fC (.int 1)))), .v (fOp addD (.n 2) (.e (fC (.int 1))))]))
    (fSeq (fApp 4 (fVar 5))
    (fIf (fTest (fOp isD (.n 5) (.e (fC .none))))
    (fRet (fTup [(fC .none), (fC (.int 0))]))
    fSkip))) fuel)
    (fSeq (fIf (fTest (fOp neD (.e (fSl (.n 0) (.e (fVar 1)) (.e (fOp addD (.n 1) (.e (fC (.int 1))))))) (.e (fC (.str ")")))))
    (fRet (fTup [(fC .none), (fC (.int 0))]))
    fSkip)
    (fRet (fTup [(fTup [(fVar 3), (fUn tupleD (.n 4))]), (fOp addD (.n 1) (.e (fC (.int 1))))])))))))))
/-- _law_knots(_law_tree): 0 _law_tree, 1 _law_bough -/
def fb31 (S : Sem) : Ev → RS :=
  (fRet (fOp addD (.e (fC (.int 1))) (.e (fUn sumD (.e (fLc (fun ρ => RI.of ((fOp ixD (.n 0) (.e (fC (.int 1)))) ρ) kSeq) [1] (.n 1) fYes (fCall (S 31) [.v (fVar 1)])))))))
/-- _law_read_tree(_law_text_here): 0 _law_text_here, 1 _law_found, 2 _law_place -/
def fb32 (S : Sem) : Ev → RS :=
  (fSeq (fUnp (.t [(.n 1), (.n 2)]) (fCall (S 30) [.v (fVar 0), .v (fC (.int 0)), .v (fC (.int 1))]))
    (fSeq (fIf (fOrT (fTest (fOp isD (.n 1) (.e (fC .none)))) (fOrT (fTest (fOp neD (.n 2) (.e (fUn lenD (.n 0))))) (fTest (fOp gtD (.e (fCall (S 31) [.v (fVar 1)])) (.e (fC (.int 60)))))))
    (fRet (fC .none))
    fSkip)
    (fRet (fMove 1))))
/-- _law_due(_law_way, _law_text_here): 0 _law_way, 1 _law_text_here -/
def fb33 (S : Sem) : Ev → RS :=
  (fSeq (fIf (fTest (fOp eqD (.n 0) (.e (fC (.int 0)))))
    (fRet (fCall (S 29) [.v (fVar 1)]))
    fSkip)
    (fRet (fCall (S 32) [.v (fVar 1)])))
/-- _law_asked(_law_way, _law_text_here): 0 _law_way, 1 _law_text_here, 2 _law_found, 3 _law_caught, 4 e -/
def fb34 (S : Sem) : Ev → RS :=
  (fSeq (fSet 2 (fC .none))
    (fSeq (fSet 3 (fC .none))
    (fSeq (fTryAs exm_BookError 4
    (fIf (fTest (fOp eqD (.n 0) (.e (fC (.int 0)))))
    (fSet 2 (fCall (S 11) [.v (fVar 1)]))
    (fSet 2 (fCall (S 13) [.v (fVar 1)])))
    (fSet 3 (fVar 4)))
    (fRet (fPair 2 3)))))
/-- _law_right(_law_way, _law_text_here): 0 _law_way, 1 _law_text_here, 2 _law_due_here, 3 _law_found, 4 _law_caught -/
def fb35 (S : Sem) : Ev → RS :=
  (fSeq (fSet 2 (fCall (S 33) [.v (fVar 0), .v (fVar 1)]))
    (fSeq (fUnpX 3 4 (fCall (S 34) [.v (fVar 0), .v (fVar 1)]))
    (fSeq (fIf (fTest (fOp isD (.n 2) (.e (fC .none))))
    (fRet (fCall (S 21) [.v (fVar 4), .v (fC (.str "NoText"))]))
    fSkip)
    (fRet (fAndV (fOp isD (.n 4) (.e (fC .none))) (fOp eqD (.e (fUn strD (.n 3))) (.e (fUn strD (.n 2)))))))))
/-- _law_bent(_law_pile, _law_text_here): 0 _law_pile, 1 _law_text_here, 2 _law_place, 3 _law_other, 4 _law_sign, 5 _law_way, 6 _law_both, 7 _law_ends -/
def fb36 (S : Sem) : Ev → RS :=
  (fSeq (fSet 2 (fCall (S 16) [.r 0, .v (fOp addD (.e (fUn lenD (.n 1))) (.e (fC (.int 1))))]))
    (fSeq (fSet 3 (fCall (S 16) [.r 0, .v (fOp addD (.e (fUn lenD (.n 1))) (.e (fC (.int 1))))]))
    (fSeq (fSet 4 (fOp ixD (.e (fC (.str "(()).,,@-0012789  amkersu\nS+_~"))) (.e (fCall (S 16) [.r 0, .v (fC (.int 30))]))))
    (fSeq (fSet 5 (fCall (S 16) [.r 0, .v (fC (.int 8))]))
    (fSeq (fIf (fTest (fOp eqD (.n 5) (.e (fC (.int 0)))))
    (fRet (fOp addD (.e (fOp addD (.e (fSl (.n 1) .no (.e (fVar 2)))) (.n 4))) (.e (fSl (.n 1) (.e (fVar 2)) .no))))
    fSkip)
    (fSeq (fIf (fTest (fOp eqD (.n 5) (.e (fC (.int 1)))))
    (fRet (fOp addD (.e (fSl (.n 1) .no (.e (fVar 2)))) (.e (fSl (.n 1) (.e (fOp addD (.n 2) (.e (fC (.int 1))))) .no))))
    fSkip)
    (fSeq (fIf (fTest (fOp eqD (.n 5) (.e (fC (.int 2)))))
    (fRet (fOp addD (.e (fOp addD (.e (fSl (.n 1) .no (.e (fVar 2)))) (.n 4))) (.e (fSl (.n 1) (.e (fOp addD (.n 2) (.e (fC (.int 1))))) .no))))
    fSkip)
    (fSeq (fIf (fTest (fOp eqD (.n 5) (.e (fC (.int 3)))))
    (fRet (fOp addD (.e (fOp addD (.e (fSl (.n 1) .no (.e (fVar 2)))) (.e (fSl (.n 1) (.e (fVar 2)) (.e (fOp addD (.n 2) (.e (fC (.int 1))))))))) (.e (fSl (.n 1) (.e (fVar 2)) .no))))
    fSkip)
    (fSeq (fIf (fTest (fOp eqD (.n 5) (.e (fC (.int 4)))))
    (fSeq (fSet 6 (fOp addD (.e (fSl (.n 1) (.e (fOp addD (.n 2) (.e (fC (.int 1))))) (.e (fOp addD (.n 2) (.e (fC (.int 2))))))) (.e (fSl (.n 1) (.e (fVar 2)) (.e (fOp addD (.n 2) (.e (fC (.int 1)))))))))
    (fRet (fOp addD (.e (fOp addD (.e (fSl (.n 1) .no (.e (fVar 2)))) (.n 6))) (.e (fSl (.n 1) (.e (fOp addD (.n 2) (.e (fC (.int 2))))) .no)))))
    fSkip)
    (fSeq (fIf (fTest (fOp eqD (.n 5) (.e (fC (.int 5)))))
    (fRet (fOp addD (.e (fSl (.n 1) .no (.e (fVar 2)))) (.e (fSl (.n 1) (.e (fOp maxD (.n 2) (.n 3))) .no))))
    fSkip)
    (fSeq (fIf (fTest (fOp eqD (.n 5) (.e (fC (.int 6)))))
    (fSeq (fSet 7 (fLst [(fOp addD (.e (fC (.str " "))) (.n 1)), (fOp addD (.n 1) (.e (fC (.str " ")))), (fOp addD (.n 1) (.e (fC (.str "\n")))), (fOp addD (.e (fC (.str "\n"))) (.n 1)), (fC (.str ""))]))
    (fRet (fOp ixD (.n 7) (.e (fCall (S 16) [.r 0, .v (fC (.int 5))])))))
    fSkip)
    (fRet (fMove 1)))))))))))))
/-- _law_fixed(_law_pile): 0 _law_pile, 1 _law_some -/
def fb37 (S : Sem) : Ev → RS :=
  (fSeq (fSet 1 (fLst [(fTup [(fC (.int 0)), (fC (.str "-0"))]), (fTup [(fC (.int 0)), (fC (.str "007"))]), (fTup [(fC (.int 0)), (fC (.str "1_0"))]), (fTup [(fC (.int 0)), (fC (.str "+1"))]), (fTup [(fC (.int 0)), (fC (.str "(sum 1 2"))]), (fTup [(fC (.int 0)), (fC (.str "sum 1 2"))]), (fTup [(fC (.int 0)), (fC (.str "@1"))]), (fTup [(fC (.int 0)), (fC (.str "@1.2.3"))])]))
    (fSeq (fSet 1 (fOp addD (.n 1) (.e (fLst [(fTup [(fC (.int 0)), (fC (.str "((sum 1 2))"))]), (fTup [(fC (.int 0)), (fC (.str "(sum (1) 2)"))]), (fTup [(fC (.int 0)), (fC (.str "(times @0.0 1)"))]), (fTup [(fC (.int 0)), (fC (.str "1000000"))]), (fTup [(fC (.int 0)), (fC (.str "(num 1)"))])]))))
    (fSeq (fSet 1 (fOp addD (.n 1) (.e (fLst [(fTup [(fC (.int 0)), (fC (.str "()"))]), (fTup [(fC (.int 0)), (fC (.str "(sum 1  2)"))]), (fTup [(fC (.int 0)), (fC (.str "(sum 1 2 )"))]), (fTup [(fC (.int 0)), (fC (.str "(rest 0 1)"))]), (fTup [(fC (.int 0)), (fC (.str "(rest -1 1)"))]), (fTup [(fC (.int 0)), (fC (.str "@-1.0"))])]))))
    (fSeq (fSet 1 (fOp addD (.n 1) (.e (fLst [(fTup [(fC (.int 0)), (fOp addD (.e (fC (.str "@0."))) (.e (fOp mulD (.e (fC (.str "9"))) (.e (fC (.int 40))))))]), (fTup [(fC (.int 0)), (fOp addD (.e (fC (.str "@0."))) (.e (fOp mulD (.e (fC (.str "9"))) (.e (fC (.int 41))))))]), (fTup [(fC (.int 0)), (fOp addD (.e (fOp addD (.e (fC (.str "@"))) (.e (fOp mulD (.e (fC (.str "9"))) (.e (fC (.int 40))))))) (.e (fC (.str ".1"))))]), (fTup [(fC (.int 0)), (fOp addD (.e (fOp addD (.e (fC (.str "@"))) (.e (fOp mulD (.e (fC (.str "9"))) (.e (fC (.int 41))))))) (.e (fC (.str ".1"))))])]))))
    (fSeq (fSet 1 (fOp addD (.n 1) (.e (fLst [(fTup [(fC (.int 0)), (fOp addD (.e (fOp addD (.e (fC (.str "(sum @0."))) (.e (fOp mulD (.e (fC (.str "9"))) (.e (fC (.int 40))))))) (.e (fC (.str " 1)"))))]), (fTup [(fC (.int 0)), (fOp mulD (.e (fC (.str "9"))) (.e (fC (.int 41))))]), (fTup [(fC (.int 0)), (fOp addD (.e (fC (.str "-"))) (.e (fOp mulD (.e (fC (.str "9"))) (.e (fC (.int 40))))))])]))))
    (fSeq (fSet 1 (fOp addD (.n 1) (.e (fLst [(fTup [(fC (.int 0)), (fC (.str "(times 10000 1)"))]), (fTup [(fC (.int 0)), (fC (.str "(pick 1 2)"))]), (fTup [(fC (.int 0)), (fC (.str "(worth 0 1)"))]), (fTup [(fC (.int 1)), (fC (.str "8"))]), (fTup [(fC (.int 1)), (fC (.str "12"))]), (fTup [(fC (.int 1)), (fC (.str "0()"))])]))))
    (fSeq (fSet 1 (fOp addD (.n 1) (.e (fLst [(fTup [(fC (.int 1)), (fC (.str ""))]), (fTup [(fC (.int 1)), (fC (.str "0(1"))]), (fTup [(fC (.int 1)), (fC (.str "0(1)2"))]), (fTup [(fC (.int 1)), (fC (.str "0(1,2,3)"))]), (fTup [(fC (.int 1)), (fC (.str "0(1, 2)"))]), (fTup [(fC (.int 1)), (fC (.str "0(,1)"))])]))))
    (fSeq (fSet 1 (fOp addD (.n 1) (.e (fLst [(fTup [(fC (.int 1)), (fC (.str "(0)"))]), (fTup [(fC (.int 1)), (fC (.str "00"))]), (fTup [(fC (.int 0)), (fC (.str "(times -10000 1)"))]), (fTup [(fC (.int 0)), (fC (.str "(times -9999 1)"))])]))))
    (fSeq (fSet 1 (fOp addD (.n 1) (.e (fLst [(fTup [(fC (.int 1)), (fOp addD (.e (fOp addD (.e (fOp mulD (.e (fC (.str "0("))) (.e (fC (.int 30))))) (.e (fC (.str "0"))))) (.e (fOp mulD (.e (fC (.str ")"))) (.e (fC (.int 30))))))]), (fTup [(fC (.int 1)), (fOp addD (.e (fOp addD (.e (fOp mulD (.e (fC (.str "0("))) (.e (fC (.int 29))))) (.e (fC (.str "0"))))) (.e (fOp mulD (.e (fC (.str ")"))) (.e (fC (.int 29))))))])]))))
    (fRet (fOp ixD (.n 1) (.e (fCall (S 16) [.r 0, .v (fUn lenD (.n 1))])))))))))))))
/-- _law_long_good(): 0 _law_some, 1 _law_way, 2 _law_text_here -/
def fb38 (S : Sem) : Ev → RS :=
  (fSeq (fSet 0 (fLst [(fTup [(fC (.int 0)), (fOp mulD (.e (fC (.str "("))) (.e (fC (.int 2000))))]), (fTup [(fC (.int 0)), (fOp mulD (.e (fC (.str ")"))) (.e (fC (.int 2000))))]), (fTup [(fC (.int 0)), (fOp addD (.e (fOp addD (.e (fOp mulD (.e (fC (.str "(times 1 "))) (.e (fC (.int 390))))) (.e (fC (.str "1"))))) (.e (fOp mulD (.e (fC (.str ")"))) (.e (fC (.int 390))))))]), (fTup [(fC (.int 1)), (fOp mulD (.e (fC (.str "0("))) (.e (fC (.int 1990))))])]))
    (fSeq (fSet 0 (fOp addD (.n 0) (.e (fLst [(fTup [(fC (.int 1)), (fOp addD (.e (fOp addD (.e (fOp mulD (.e (fC (.str "0("))) (.e (fC (.int 990))))) (.e (fC (.str "0"))))) (.e (fOp mulD (.e (fC (.str ")"))) (.e (fC (.int 990))))))]), (fTup [(fC (.int 0)), (fOp addD (.e (fOp addD (.e (fOp mulD (.e (fC (.str "(sum 1 "))) (.e (fC (.int 3))))) (.e (fC (.str "1"))))) (.e (fOp mulD (.e (fC (.str ")"))) (.e (fC (.int 3))))))])]))))
    (fRet (fUn allD (.e (fLc (fun ρ => RI.of ((fOp addD (.n 0) (.e (fLst [(fTup [(fC (.int 0)), (fOp addD (.e (fOp addD (.e (fOp mulD (.e (fC (.str "(sum 1 "))) (.e (fC (.int 4))))) (.e (fC (.str "1"))))) (.e (fOp mulD (.e (fC (.str ")"))) (.e (fC (.int 4))))))])]))) ρ) kSeq) [1, 2] (.t [(.n 1), (.n 2)]) fYes (fCall (S 35) [.v (fVar 1), .v (fVar 2)])))))))
/-- law(_law_script): 0 _law_script, 1 _law_k, 2 _law_pile, 3 _law_some, 4 _law_way, 5 _law_text_here, 6 _law_turn, 7 _law_bent_here -/
def fb39 (S : Sem) : Ev → RS :=
  (fSeq (fIf (fNotT (fTest (fCall (S 38) [])))
    (fRet (fC (.bool false)))
    fSkip)
    (fSeq (fFor (fun ρ => RI.of ((fC (.int 4)) ρ) kRng) (.n 1)
    (fSeq (fSet 2 (fLst [(fCall (S 15) [.v (fVar 0), .v (fVar 1)])]))
    (fSeq (fSet 3 (fLst [(fTup [(fC (.int 0)), (fCall (S 18) [.v (fCall (S 17) [.r 2, .v (fOp addD (.e (fC (.int 1))) (.e (fCall (S 16) [.r 2, .v (fC (.int 15))]))), .v (fC (.int 4)), .v (fOp powD (.e (fC (.int 10))) (.e (fC (.int 9))))])])])]))
    (fSeq (fApp 3 (fTup [(fC (.int 1)), (fCall (S 20) [.v (fCall (S 19) [.r 2, .v (fOp addD (.e (fC (.int 1))) (.e (fCall (S 16) [.r 2, .v (fC (.int 12))]))), .v (fC (.int 30))])])]))
    (fSeq (fFor (fun ρ => RI.of ((fVar 3) ρ) kSeq) (.t [(.n 4), (.n 5)])
    (fFor (fun ρ => RI.of ((fC (.int 4)) ρ) kRng) (.n 6)
    (fSeq (fSet 7 (fCall (S 36) [.r 2, .v (fVar 5)]))
    (fIf (fOrT (fNotT (fTest (fCall (S 35) [.v (fVar 4), .v (fVar 7)]))) (fNotT (fTest (fCall (S 35) [.v (fVar 4), .v (fCall (S 36) [.r 2, .v (fVar 7)])]))))
    (fRet (fC (.bool false)))
    fSkip))))
    (fFor (fun ρ => RI.of ((fC (.int 4)) ρ) kRng) (.n 6)
    (fSeq (fUnp (.t [(.n 4), (.n 5)]) (fCall (S 37) [.r 2]))
    (fIf (fNotT (fTest (fCall (S 35) [.v (fVar 4), .v (fVar 5)])))
    (fRet (fC (.bool false)))
    fSkip))))))))
    (fRet (fC (.bool true)))))
def bodyOf (S : Sem) (i : Nat) : Fn := match i with
  | 0 => runF 1 (fb0 S)
  | 1 => runF 2 (fb1 S)
  | 2 => runF 2 (fb2 S)
  | 3 => runF 3 (fb3 S)
  | 4 => runF 1 (fb4 S)
  | 5 => runF 2 (fb5 S)
  | 6 => runF 3 (fb6 S)
  | 7 => runF 2 (fb7 S)
  | 8 => runF 2 (fb8 S)
  | 9 => runF 4 (fb9 S)
  | 10 => runF 6 (fb10 S)
  | 11 => runF 2 (fb11 S)
  | 12 => runF 6 (fb12 S)
  | 13 => runF 3 (fb13 S)
  | 14 => runF 3 (fb14 S)
  | 15 => runF 5 (fb15 S)
  | 16 => runF 3 (fb16 S)
  | 17 => runF 12 (fb17 S)
  | 18 => runF 3 (fb18 S)
  | 19 => runF 8 (fb19 S)
  | 20 => runF 2 (fb20 S)
  | 21 => runF 5 (fb21 S)
  | 22 => runF 2 (fb22 S)
  | 23 => runF 1 (fb23 S)
  | 24 => runF 4 (fb24 S)
  | 25 => runF 4 (fb25 S)
  | 26 => runF 2 (fb26 S)
  | 27 => runF 10 (fb27 S)
  | 28 => runF 2 (fb28 S)
  | 29 => runF 2 (fb29 S)
  | 30 => runF 6 (fb30 S)
  | 31 => runF 2 (fb31 S)
  | 32 => runF 3 (fb32 S)
  | 33 => runF 2 (fb33 S)
  | 34 => runF 5 (fb34 S)
  | 35 => runF 5 (fb35 S)
  | 36 => runF 8 (fb36 S)
  | 37 => runF 2 (fb37 S)
  | 38 => runF 3 (fb38 S)
  | 39 => runF 8 (fb39 S)
  | _ => fun _ => .stuck
def sem : Nat → Sem
  | 0, _ => fun _ => .stuck
  | n + 1, i => bodyOf (sem n) i
end K81
set_option maxHeartbeats 1000000
set_option exponentiation.threshold 10000
namespace K81
open Dl PySem
theorem sem_succ (n i : Nat) : sem (n + 1) i = bodyOf (sem n) i := rfl
theorem take_eq {n : Nat} {p k : Int} (hn : 1 ≤ n) (h0 : 0 < k) (h1 : k.natAbs.log2 < 9000) : sem n 16 [.rf [.int p], .d (.int k)] = .ok (.d (.int (p % k))) [.int (p / k)] := by
  obtain ⟨n, rfl⟩ : ∃ m, n = m + 1 := ⟨n - 1, by omega⟩
  simp only [sem_succ, bodyOf, fb16]
  simp_arith [h0, h1]
def isI : D → Bool | .int _ => true | _ => false
theorem num_eq {n : Nat} {x : D} (hn : 1 ≤ n) (h : ∀ kv, x ≠ .dict kv) : sem n 0 [.d x] = .ok (.d (.bool (isI x))) [] := by
  obtain ⟨n, rfl⟩ : ∃ m, n = m + 1 := ⟨n - 1, by omega⟩
  simp only [sem_succ, bodyOf, fb0]
  cases x with
  | dict kv => exact absurd rfl (h kv)
  | _ => simp_arith [isIntT, isBoolT, isI]
/-- the words of two entries -/
inductive W2 where
  | sum
  | less
  | least
  | greatest
def W2.s : W2 → Str | .sum => "sum" | .less => "less" | .least => "least" | .greatest => "greatest"
/-- a formula -/
inductive F where
  | num (i : Int)
  | wor (a b : Int)
  | two (w : W2) (a b : F)
  | pick (a b c : F)
  | times (k : Int) (a : F)
  | rest (k : Int) (a : F)
def F.d : F → D
  | .num i => .tuple [.str "num", .int i]
  | .wor a b => .tuple [.str "worth", .int a, .int b]
  | .two w a b => .tuple [.str w.s, a.d, b.d]
  | .pick a b c => .tuple [.str "pick", a.d, b.d, c.d]
  | .times k a => .tuple [.str "times", .int k, a.d]
  | .rest k a => .tuple [.str "rest", .int k, a.d]
def F.parts : F → Int
  | .num _ => 1
  | .wor _ _ => 1
  | .two _ a b => 1 + (a.parts + b.parts)
  | .pick a b c => 1 + (a.parts + (b.parts + c.parts))
  | .times _ a => 1 + a.parts
  | .rest _ a => 1 + a.parts
def F.deep : F → Nat
  | .num _ => 1
  | .wor _ _ => 1
  | .two _ a b => max a.deep b.deep + 1
  | .pick a b c => max a.deep (max b.deep c.deep) + 1
  | .times _ a => a.deep + 1
  | .rest _ a => a.deep + 1
def F.ok : F → Prop
  | .num i => -1000000 < i ∧ i < 1000000
  | .wor a b => (0 ≤ a ∧ a < 10000000000000000000000000000000000000000) ∧ (0 ≤ b ∧ b < 10000000000000000000000000000000000000000)
  | .two _ a b => a.ok ∧ b.ok
  | .pick a b c => a.ok ∧ b.ok ∧ c.ok
  | .times k a => (-10000 < k ∧ k < 10000) ∧ a.ok
  | .rest k a => (0 < k ∧ k < 10000) ∧ a.ok

/-! ### words -/
theorem kg_w (w : W2) : kgetD tab_WORDS (.str w.s) = some (.d (.int 2)) := by cases w <;> kernel_rfl
theorem kg_p : kgetD tab_WORDS (.str "pick") = some (.d (.int 3)) := by kernel_rfl
theorem kg_t : kgetD tab_WORDS (.str "times") = some (.d (.int 1)) := by kernel_rfl
theorem kg_r : kgetD tab_WORDS (.str "rest") = some (.d (.int 1)) := by kernel_rfl
theorem kg_n : kgetD tab_WORDS (.str "num") = some (.d (.int 0)) := by kernel_rfl
theorem kg_o : kgetD tab_WORDS (.str "worth") = some (.d (.int 0)) := by kernel_rfl
theorem kn_w (w : W2) : kninD tab_WORDS (.str w.s) = some (.d (.bool false)) := by cases w <;> kernel_rfl
theorem kn_p : kninD tab_WORDS (.str "pick") = some (.d (.bool false)) := by kernel_rfl
theorem kn_t : kninD tab_WORDS (.str "times") = some (.d (.bool false)) := by kernel_rfl
theorem kn_r : kninD tab_WORDS (.str "rest") = some (.d (.bool false)) := by kernel_rfl
theorem kn_n : kninD tab_WORDS (.str "num") = some (.d (.bool false)) := by kernel_rfl
theorem kn_o : kninD tab_WORDS (.str "worth") = some (.d (.bool false)) := by kernel_rfl
theorem w_num (w : W2) : (w.s == ("num" : Str)) = false := by cases w <;> decide +kernel
theorem w_wor (w : W2) : (w.s == ("worth" : Str)) = false := by cases w <;> decide +kernel
theorem w_tim (w : W2) : (w.s == ("times" : Str)) = false := by cases w <;> decide +kernel
theorem w_res (w : W2) : (w.s == ("rest" : Str)) = false := by cases w <;> decide +kernel
theorem nn : (("num" : Str) == ("num" : Str)) = true := by decide +kernel
theorem on : (("worth" : Str) == ("num" : Str)) = false := by decide +kernel
theorem oo : (("worth" : Str) == ("worth" : Str)) = true := by decide +kernel
theorem pn : (("pick" : Str) == ("num" : Str)) = false := by decide +kernel
theorem po : (("pick" : Str) == ("worth" : Str)) = false := by decide +kernel
theorem pt : (("pick" : Str) == ("times" : Str)) = false := by decide +kernel
theorem pr : (("pick" : Str) == ("rest" : Str)) = false := by decide +kernel
theorem tn : (("times" : Str) == ("num" : Str)) = false := by decide +kernel
theorem to : (("times" : Str) == ("worth" : Str)) = false := by decide +kernel
theorem tt : (("times" : Str) == ("times" : Str)) = true := by decide +kernel
theorem rn : (("rest" : Str) == ("num" : Str)) = false := by decide +kernel
theorem ro : (("rest" : Str) == ("worth" : Str)) = false := by decide +kernel
theorem rt : (("rest" : Str) == ("times" : Str)) = false := by decide +kernel
theorem rr : (("rest" : Str) == ("rest" : Str)) = true := by decide +kernel
theorem p6 : powD (.int 10) (.int 6) = some (.d (.int 1000000)) := by kernel_rfl
theorem n10 : (10 : Int).natAbs = 10 := rfl
theorem e6 : (10 : Int) ^ 6 = 1000000 := by decide
theorem e4 : (10 : Int) ^ 4 = 10000 := by decide
theorem sl_drop {l : List D} {k : Nat} (h : k ≤ l.length) : slD (.tuple l) (some (k : Int)) none = some (.d (.tuple (l.drop k))) := by
  show some (Sv.d (.tuple (cutL l (some (k : Int)) none))) = _
  have e : cutL l (some (k : Int)) none = l.drop k := by
    unfold cutL
    rw [HT.sIx_nat, Nat.min_eq_left h]
    have h2 : HT.sIx l.length l.length none = l.length := rfl
    rw [h2]
    exact List.take_of_length_le (by rw [List.length_drop]; omega)
  rw [e]
theorem sl1 {x : D} {l : List D} : slD (.tuple (x :: l)) (some 1) none = some (.d (.tuple l)) := sl_drop (l := x :: l) (k := 1) (by simp)
theorem sl2 {x y : D} {l : List D} : slD (.tuple (x :: y :: l)) (some 2) none = some (.d (.tuple l)) := sl_drop (l := x :: y :: l) (k := 2) (by simp)
theorem sl3 {x y z : D} {l : List D} : slD (.tuple (x :: y :: z :: l)) (some 3) none = some (.d (.tuple l)) := sl_drop (l := x :: y :: z :: l) (k := 3) (by simp)
theorem abs_i {i : Int} : absD (.int i) = some (.d (.int (if i < 0 then -i else i))) := rfl
theorem fit_eq {t : F} {n : Nat} (hn : 2 ≤ n) (ho : t.ok) : sem n 1 [.d t.d] = .ok (.d (.bool true)) [] := by
  obtain ⟨n, rfl⟩ : ∃ m, n = m + 1 := ⟨n - 1, by omega⟩
  have e := fun {i : Int} => num_eq (n := n) (x := .int i) (by omega) (fun _ z => nomatch z)
  cases t with
  | num i =>
    obtain ⟨h1, h2⟩ : -1000000 < i ∧ i < 1000000 := ho
    have h3 : (if i < 0 then -i else i) < 1000000 := by split <;> omega
    simp only [sem_succ, bodyOf, fb1, F.d]
    simp_arith [nn, e, isI, abs_i, n10, e6, h3]
  | wor a b =>
    obtain ⟨h1, h2⟩ : (0 ≤ a ∧ a < 10000000000000000000000000000000000000000) ∧ (0 ≤ b ∧ b < 10000000000000000000000000000000000000000) := ho
    simp only [sem_succ, bodyOf, fb1, F.d]
    simp_arith [on, oo, e, isI, sl1, h1, h2]
  | two w a b =>
    simp only [sem_succ, bodyOf, fb1, F.d]
    simp_arith [w_num, w_wor, w_tim, w_res, kg_w]
  | pick a b c =>
    simp only [sem_succ, bodyOf, fb1, F.d]
    simp_arith [pn, po, pt, pr, kg_p]
  | times k a =>
    obtain ⟨⟨h1, h2⟩, _⟩ : (-10000 < k ∧ k < 10000) ∧ a.ok := ho
    have h3 : (if k < 0 then -k else k) < 10000 := by split <;> omega
    simp only [sem_succ, bodyOf, fb1, F.d]
    simp_arith [tn, to, tt, e, isI, abs_i, n10, e4, h3]
  | rest k a =>
    obtain ⟨⟨h1, h2⟩, _⟩ : (0 < k ∧ k < 10000) ∧ a.ok := ho
    simp only [sem_succ, bodyOf, fb1, F.d]
    simp_arith [rn, ro, rt, rr, e, isI, n10, e4, h1, h2]

def F.inner : F → List D
  | .num _ => []
  | .wor _ _ => []
  | .two _ a b => [a.d, b.d]
  | .pick a b c => [a.d, b.d, c.d]
  | .times _ a => [a.d]
  | .rest _ a => [a.d]
theorem inner_eq (t : F) {n : Nat} (hn : 1 ≤ n) : sem n 2 [.d t.d] = .ok (.d (.tuple t.inner)) [] := by
  obtain ⟨n, rfl⟩ : ∃ m, n = m + 1 := ⟨n - 1, by omega⟩
  cases t with
  | num i => simp only [sem_succ, bodyOf, fb2, F.d, F.inner]; simp_arith [kg_n, sl2]
  | wor a b => simp only [sem_succ, bodyOf, fb2, F.d, F.inner]; simp_arith [kg_o, sl3]
  | two w a b => simp only [sem_succ, bodyOf, fb2, F.d, F.inner]; simp_arith [kg_w, sl1]
  | pick a b c => simp only [sem_succ, bodyOf, fb2, F.d, F.inner]; simp_arith [kg_p, sl1]
  | times k a => simp only [sem_succ, bodyOf, fb2, F.d, F.inner]; simp_arith [kg_t, sl2]
  | rest k a => simp only [sem_succ, bodyOf, fb2, F.d, F.inner]; simp_arith [kg_r, sl2]
theorem F.deep1 (t : F) : 1 ≤ t.deep := by cases t <;> unfold F.deep <;> omega
theorem F.parts1 : ∀ t : F, 1 ≤ t.parts
  | .num _ => Int.le_refl _
  | .wor _ _ => Int.le_refl _
  | .two _ a b => by have := F.parts1 a; have := F.parts1 b; unfold F.parts; omega
  | .pick a b c => by have := F.parts1 a; have := F.parts1 b; have := F.parts1 c; unfold F.parts; omega
  | .times _ a => by have := F.parts1 a; unfold F.parts; omega
  | .rest _ a => by have := F.parts1 a; unfold F.parts; omega
theorem deep_eq : ∀ (t : F) {n k : Nat}, t.ok → k + t.deep ≤ 5 → t.deep + 2 ≤ n → sem n 3 [.d t.d, .d (.int (k : Int))] = .ok (.d (.int t.parts)) []
  | .num i, n, k, ho, hk, hn => by
    unfold F.deep at hk hn
    obtain ⟨n, rfl⟩ : ∃ m, n = m + 1 := ⟨n - 1, by omega⟩
    have e1 := fit_eq (t := .num i) (n := n) (by omega) ho
    have e2 := inner_eq (.num i) (n := n) (by omega)
    have h : ¬ (4 : Int) < (k : Int) := by omega
    simp only [F.d, F.inner] at e1 e2
    simp only [sem_succ, bodyOf, fb3, F.d, F.parts]
    simp_arith [h, isTupleT, isStrT, kn_n, e1, e2]
  | .wor a b, n, k, ho, hk, hn => by
    unfold F.deep at hk hn
    obtain ⟨n, rfl⟩ : ∃ m, n = m + 1 := ⟨n - 1, by omega⟩
    have e1 := fit_eq (t := .wor a b) (n := n) (by omega) ho
    have e2 := inner_eq (.wor a b) (n := n) (by omega)
    have h : ¬ (4 : Int) < (k : Int) := by omega
    simp only [F.d, F.inner] at e1 e2
    simp only [sem_succ, bodyOf, fb3, F.d, F.parts]
    simp_arith [h, isTupleT, isStrT, kn_o, e1, e2]
  | .two w a b, n, k, ho, hk, hn => by
    unfold F.deep at hk hn
    obtain ⟨n, rfl⟩ : ∃ m, n = m + 1 := ⟨n - 1, by omega⟩
    have e1 := fit_eq (t := .two w a b) (n := n) (by omega) ho
    have e2 := inner_eq (.two w a b) (n := n) (by omega)
    have e3 := deep_eq a (n := n) (k := k + 1) ho.1 (by omega) (by omega)
    have e4 := deep_eq b (n := n) (k := k + 1) ho.2 (by omega) (by omega)
    have h : ¬ (4 : Int) < (k : Int) := by omega
    rw [show ((k + 1 : Nat) : Int) = (k : Int) + 1 by omega] at e3 e4
    simp only [F.d, F.inner] at e1 e2
    simp only [sem_succ, bodyOf, fb3, F.d, F.parts]
    simp_arith [h, isTupleT, isStrT, kn_w, e1, e2, e3, e4, Int.add_zero]
  | .pick a b c, n, k, ho, hk, hn => by
    unfold F.deep at hk hn
    obtain ⟨n, rfl⟩ : ∃ m, n = m + 1 := ⟨n - 1, by omega⟩
    have e1 := fit_eq (t := .pick a b c) (n := n) (by omega) ho
    have e2 := inner_eq (.pick a b c) (n := n) (by omega)
    have e3 := deep_eq a (n := n) (k := k + 1) ho.1 (by omega) (by omega)
    have e4 := deep_eq b (n := n) (k := k + 1) ho.2.1 (by omega) (by omega)
    have e5 := deep_eq c (n := n) (k := k + 1) ho.2.2 (by omega) (by omega)
    have h : ¬ (4 : Int) < (k : Int) := by omega
    rw [show ((k + 1 : Nat) : Int) = (k : Int) + 1 by omega] at e3 e4 e5
    simp only [F.d, F.inner] at e1 e2
    simp only [sem_succ, bodyOf, fb3, F.d, F.parts]
    simp_arith [h, isTupleT, isStrT, kn_p, e1, e2, e3, e4, e5, Int.add_zero]
  | .times i a, n, k, ho, hk, hn => by
    unfold F.deep at hk hn
    obtain ⟨n, rfl⟩ : ∃ m, n = m + 1 := ⟨n - 1, by omega⟩
    have e1 := fit_eq (t := .times i a) (n := n) (by omega) ho
    have e2 := inner_eq (.times i a) (n := n) (by omega)
    have e3 := deep_eq a (n := n) (k := k + 1) ho.2 (by omega) (by omega)
    have h : ¬ (4 : Int) < (k : Int) := by omega
    rw [show ((k + 1 : Nat) : Int) = (k : Int) + 1 by omega] at e3
    simp only [F.d, F.inner] at e1 e2
    simp only [sem_succ, bodyOf, fb3, F.d, F.parts]
    simp_arith [h, isTupleT, isStrT, kn_t, e1, e2, e3, Int.add_zero]
  | .rest i a, n, k, ho, hk, hn => by
    unfold F.deep at hk hn
    obtain ⟨n, rfl⟩ : ∃ m, n = m + 1 := ⟨n - 1, by omega⟩
    have e1 := fit_eq (t := .rest i a) (n := n) (by omega) ho
    have e2 := inner_eq (.rest i a) (n := n) (by omega)
    have e3 := deep_eq a (n := n) (k := k + 1) ho.2 (by omega) (by omega)
    have h : ¬ (4 : Int) < (k : Int) := by omega
    rw [show ((k + 1 : Nat) : Int) = (k : Int) + 1 by omega] at e3
    simp only [F.d, F.inner] at e1 e2
    simp only [sem_succ, bodyOf, fb3, F.d, F.parts]
    simp_arith [h, isTupleT, isStrT, kn_r, e1, e2, e3, Int.add_zero]
end K81
set_option maxHeartbeats 1000000
set_option exponentiation.threshold 10000
namespace K81
open Dl PySem
def W2.l : W2 → List Nat | .sum => [115, 117, 109] | .less => [108, 101, 115, 115] | .least => [108, 101, 97, 115, 116] | .greatest => [103, 114, 101, 97, 116, 101, 115, 116]
def pickL : List Nat := [112, 105, 99, 107]
def timesL : List Nat := [116, 105, 109, 101, 115]
def restL : List Nat := [114, 101, 115, 116]
theorem ws (w : W2) : w.s = SX.S w.l := by cases w <;> kernel_rfl
theorem ps : ("pick" : Str) = SX.S pickL := by kernel_rfl
theorem ts : ("times" : Str) = SX.S timesL := by kernel_rfl
theorem rs : ("rest" : Str) = SX.S restL := by kernel_rfl
def F.txt : F → List Nat
  | .num i => nt i
  | .wor a b => 64 :: (nt a ++ 46 :: nt b)
  | .two w a b => 40 :: (w.l ++ 32 :: (a.txt ++ 32 :: (b.txt ++ [41])))
  | .pick a b c => 40 :: (pickL ++ 32 :: (a.txt ++ 32 :: (b.txt ++ 32 :: (c.txt ++ [41]))))
  | .times k a => 40 :: (timesL ++ 32 :: (nt k ++ 32 :: (a.txt ++ [41])))
  | .rest k a => 40 :: (restL ++ 32 :: (nt k ++ 32 :: (a.txt ++ [41])))
theorem l_o : (("(" : String) : Str) = SX.S [40] := by kernel_rfl
theorem l_c : ((")" : String) : Str) = SX.S [41] := by kernel_rfl
theorem l_b : ((" " : String) : Str) = SX.S [32] := by kernel_rfl
theorem l_at : (("@" : String) : Str) = SX.S [64] := by kernel_rfl
theorem l_dot : (("." : String) : Str) = SX.S [46] := by kernel_rfl
theorem join3 (w a b : List Nat) : Txt.join (SX.S [32]) [SX.S w, SX.S a, SX.S b] = SX.S (w ++ 32 :: (a ++ 32 :: b)) := SX.join_S [32] [w, a, b]
theorem join4 (w a b c : List Nat) : Txt.join (SX.S [32]) [SX.S w, SX.S a, SX.S b, SX.S c] = SX.S (w ++ 32 :: (a ++ 32 :: (b ++ 32 :: c))) := SX.join_S [32] [w, a, b, c]
theorem w_len (w : W2) : w.l.length ≤ 8 := by cases w <;> decide
theorem nt_small {i : Int} (h : -10000000000000000000000000000000000000000 < i ∧ i < 10000000000000000000000000000000000000000) : (nt i).length ≤ 41 := nt_len (k := 40) (by decide) (by omega)
theorem txt_len : ∀ t : F, t.ok → (t.txt.length : Int) ≤ 100 * t.parts
  | .num i, ho => by
    obtain ⟨h1, h2⟩ : -1000000 < i ∧ i < 1000000 := ho
    have := nt_small (i := i) (by omega)
    unfold F.txt F.parts
    omega
  | .wor a b, ho => by
    obtain ⟨h1, h2⟩ : (0 ≤ a ∧ a < 10000000000000000000000000000000000000000) ∧ (0 ≤ b ∧ b < 10000000000000000000000000000000000000000) := ho
    have := nt_small (i := a) (by omega)
    have := nt_small (i := b) (by omega)
    unfold F.txt F.parts
    simp only [List.length_cons, List.length_append]
    omega
  | .two w a b, ho => by
    have := txt_len a ho.1
    have := txt_len b ho.2
    have := w_len w
    unfold F.txt F.parts
    simp only [List.length_cons, List.length_append, List.length_nil]
    omega
  | .pick a b c, ho => by
    have := txt_len a ho.1
    have := txt_len b ho.2.1
    have := txt_len c ho.2.2
    unfold F.txt F.parts pickL
    simp only [List.length_cons, List.length_append, List.length_nil]
    omega
  | .times k a, ho => by
    obtain ⟨⟨h1, h2⟩, h3⟩ : (-10000 < k ∧ k < 10000) ∧ a.ok := ho
    have := nt_small (i := k) (by omega)
    have := txt_len a h3
    unfold F.txt F.parts timesL
    simp only [List.length_cons, List.length_append, List.length_nil]
    omega
  | .rest k a, ho => by
    obtain ⟨⟨h1, h2⟩, h3⟩ : (0 < k ∧ k < 10000) ∧ a.ok := ho
    have := nt_small (i := k) (by omega)
    have := txt_len a h3
    unfold F.txt F.parts restL
    simp only [List.length_cons, List.length_append, List.length_nil]
    omega
theorem nin2_w (w : W2) : inD (.str w.s) (.tuple [.str "times", .str "rest"]) = some (.d (.bool false)) := by cases w <;> kernel_rfl
theorem nin2_p : inD (.str "pick") (.tuple [.str "times", .str "rest"]) = some (.d (.bool false)) := by kernel_rfl
theorem in2_t : inD (.str "times") (.tuple [.str "times", .str "rest"]) = some (.d (.bool true)) := by kernel_rfl
theorem in2_r : inD (.str "rest") (.tuple [.str "times", .str "rest"]) = some (.d (.bool true)) := by kernel_rfl
theorem sD {i : Int} (h : -10000000000000000000000000000000000000000 < i ∧ i < 10000000000000000000000000000000000000000) : strD (.int i) = some (.d (.str (SX.S (nt i)))) := strD_nt (Nat.lt_of_lt_of_le (show i.natAbs < 2 ^ 140 by omega) (Nat.pow_le_pow_right (by decide) (by decide)))
theorem nd_int {k : Int} : isTupleT (.int k) = some false := rfl
theorem F.nd (t : F) : isTupleT t.d = some true := by cases t <;> rfl
theorem ltext_eq : ∀ (t : F) {n : Nat}, t.ok → t.parts ≤ 1000 → t.deep ≤ n → sem n 18 [.d t.d] = .ok (.d (.str (SX.S t.txt))) []
  | .num i, n, ho, hp, hn => by
    unfold F.deep at hn
    obtain ⟨n, rfl⟩ : ∃ m, n = m + 1 := ⟨n - 1, by omega⟩
    obtain ⟨h1, h2⟩ : -1000000 < i ∧ i < 1000000 := ho
    have s := sD (i := i) (by omega)
    simp only [sem_succ, bodyOf, fb18, F.d, F.txt]
    simp_arith [nn, s]
  | .wor a b, n, ho, hp, hn => by
    unfold F.deep at hn
    obtain ⟨n, rfl⟩ : ∃ m, n = m + 1 := ⟨n - 1, by omega⟩
    obtain ⟨h1, h2⟩ : (0 ≤ a ∧ a < 10000000000000000000000000000000000000000) ∧ (0 ≤ b ∧ b < 10000000000000000000000000000000000000000) := ho
    have s := sD (i := a) (by omega)
    have s2 := sD (i := b) (by omega)
    have l1 := nt_small (i := a) (by omega)
    have l2 := nt_small (i := b) (by omega)
    simp only [sem_succ, bodyOf, fb18, F.d, F.txt]
    simp_all_arith [on, oo, s, s2, l_at, l_dot, S_len, SX.S_cat, List.append_assoc, List.length_append]
  | .two w a b, n, ho, hp, hn => by
    unfold F.deep at hn
    unfold F.parts at hp
    obtain ⟨n, rfl⟩ : ∃ m, n = m + 1 := ⟨n - 1, by omega⟩
    have k1 := F.parts1 a
    have k2 := F.parts1 b
    have e1 := ltext_eq a (n := n) ho.1 (by omega) (by omega)
    have e2 := ltext_eq b (n := n) ho.2 (by omega) (by omega)
    have l1 := txt_len a ho.1
    have l2 := txt_len b ho.2
    have l3 := w_len w
    have j := join3 w.l a.txt b.txt
    have wl : w.s.length = w.l.length := by rw [ws, S_len]
    rw [← ws] at j
    simp only [sem_succ, bodyOf, fb18, F.d, F.txt]
    simp_all_arith [w_num, w_wor, sl1, F.nd, e1, e2, l_o, l_c, l_b, j, wl, S_len, SX.S_cat, List.append_assoc, List.length_append]
  | .pick a b c, n, ho, hp, hn => by
    unfold F.deep at hn
    unfold F.parts at hp
    obtain ⟨n, rfl⟩ : ∃ m, n = m + 1 := ⟨n - 1, by omega⟩
    have k1 := F.parts1 a
    have k2 := F.parts1 b
    have k3 := F.parts1 c
    have e1 := ltext_eq a (n := n) ho.1 (by omega) (by omega)
    have e2 := ltext_eq b (n := n) ho.2.1 (by omega) (by omega)
    have e3 := ltext_eq c (n := n) ho.2.2 (by omega) (by omega)
    have l1 := txt_len a ho.1
    have l2 := txt_len b ho.2.1
    have l3 := txt_len c ho.2.2
    have j := join4 pickL a.txt b.txt c.txt
    have wl : ("pick" : Str).length = 4 := by kernel_rfl
    have pl : pickL.length = 4 := rfl
    rw [← ps] at j
    simp only [sem_succ, bodyOf, fb18, F.d, F.txt]
    simp_all_arith [pn, po, kg_p, sl1, nin2_p, e1, e2, e3, l_o, l_c, l_b, j, wl, pl, F.nd, S_len, SX.S_cat, List.append_assoc, List.length_append]
  | .times k a, n, ho, hp, hn => by
    unfold F.deep at hn
    unfold F.parts at hp
    obtain ⟨n, rfl⟩ : ∃ m, n = m + 1 := ⟨n - 1, by omega⟩
    obtain ⟨⟨h1, h2⟩, h3⟩ : (-10000 < k ∧ k < 10000) ∧ a.ok := ho
    have s := sD (i := k) (by omega)
    have l0 := nt_small (i := k) (by omega)
    have e1 := ltext_eq a (n := n) h3 (by omega) (by omega)
    have l1 := txt_len a h3
    have j := join3 timesL (nt k) a.txt
    have wl : ("times" : Str).length = 5 := by kernel_rfl
    have pl : timesL.length = 5 := rfl
    rw [← ts] at j
    simp only [sem_succ, bodyOf, fb18, F.d, F.txt]
    simp_all_arith [tn, to, kg_t, sl1, in2_t, s, e1, l_o, l_c, l_b, j, wl, pl, F.nd, nd_int, S_len, SX.S_cat, List.append_assoc, List.length_append]
  | .rest k a, n, ho, hp, hn => by
    unfold F.deep at hn
    unfold F.parts at hp
    obtain ⟨n, rfl⟩ : ∃ m, n = m + 1 := ⟨n - 1, by omega⟩
    obtain ⟨⟨h1, h2⟩, h3⟩ : (0 < k ∧ k < 10000) ∧ a.ok := ho
    have s := sD (i := k) (by omega)
    have l0 := nt_small (i := k) (by omega)
    have e1 := ltext_eq a (n := n) h3 (by omega) (by omega)
    have l1 := txt_len a h3
    have j := join3 restL (nt k) a.txt
    have wl : ("rest" : Str).length = 4 := by kernel_rfl
    have pl : restL.length = 4 := rfl
    rw [← rs] at j
    simp only [sem_succ, bodyOf, fb18, F.d, F.txt]
    simp_all_arith [rn, ro, kg_r, sl1, in2_r, s, e1, l_o, l_c, l_b, j, wl, pl, F.nd, nd_int, S_len, SX.S_cat, List.append_assoc, List.length_append]
end K81
set_option maxHeartbeats 1000000
set_option exponentiation.threshold 10000
namespace K81
open Dl PySem PySem.NumText
theorem kSeq_S (l : List Nat) : kSeq (.str (SX.S l)) = some (l.map fun c => .str (SX.S [c])) := rfl
theorem sl_to {z : List Nat} {k : Nat} (hz : z.length ≤ 16777216) : slD (.str (SX.S z)) none (some (k : Int)) = some (.d (.str (SX.S (z.take k)))) := by
  unfold slD
  dsimp only
  rw [S_len, if_pos (by rw [sizeLine_eq]; exact hz)]
  unfold L2.cutS
  rw [S_len, HT.sIx_nat]
  show some (Sv.d (.str (SX.S ((z.drop (HT.sIx z.length 0 none)).take (min k z.length - HT.sIx z.length 0 none))))) = _
  have h0 : HT.sIx z.length 0 none = 0 := rfl
  rw [h0, List.drop_zero, Nat.sub_zero]
  by_cases h : k ≤ z.length
  · rw [Nat.min_eq_left h]
  · rw [Nat.min_eq_right (by omega), List.take_of_length_le (Nat.le_refl _), List.take_of_length_le (by omega)]
theorem sl_from {z : List Nat} {k : Nat} (hz : z.length ≤ 16777216) (hk : k ≤ z.length) : slD (.str (SX.S z)) (some (k : Int)) none = some (.d (.str (SX.S (z.drop k)))) := by
  unfold slD
  dsimp only
  rw [S_len, if_pos (by rw [sizeLine_eq]; exact hz)]
  unfold L2.cutS
  rw [S_len, HT.sIx_nat, Nat.min_eq_left hk]
  show some (Sv.d (.str (SX.S ((z.drop k).take (z.length - k))))) = _
  rw [List.take_of_length_le (by rw [List.length_drop]; omega)]
theorem sl_last {z : List Nat} (hz : z.length ≤ 16777216) (h1 : 1 ≤ z.length) : slD (.str (SX.S z)) (some (-1)) none = some (.d (.str (SX.S (z.drop (z.length - 1))))) := by
  unfold slD
  dsimp only
  rw [S_len, if_pos (by rw [sizeLine_eq]; exact hz)]
  unfold L2.cutS
  rw [S_len]
  have h : HT.sIx z.length 0 (some (-1)) = z.length - 1 := by
    show (if (-1 : Int) < 0 then ((-1 : Int) + (z.length : Int)).toNat else min (-1 : Int).toNat z.length) = _
    rw [if_pos (by decide)]
    omega
  rw [h]
  show some (Sv.d (.str (SX.S ((z.drop (z.length - 1)).take (z.length - (z.length - 1)))))) = _
  rw [List.take_of_length_le (by rw [List.length_drop]; omega)]
theorem sl_mid {z : List Nat} (hz : z.length ≤ 16777216) (h1 : 2 ≤ z.length) : slD (.str (SX.S z)) (some 1) (some (-1)) = some (.d (.str (SX.S ((z.drop 1).take (z.length - 2))))) := by
  unfold slD
  dsimp only
  rw [S_len, if_pos (by rw [sizeLine_eq]; exact hz)]
  unfold L2.cutS
  rw [S_len]
  have h : HT.sIx z.length z.length (some (-1)) = z.length - 1 := by
    show (if (-1 : Int) < 0 then ((-1 : Int) + (z.length : Int)).toNat else min (-1 : Int).toNat z.length) = _
    rw [if_pos (by decide)]
    omega
  have h2 : HT.sIx z.length 0 (some 1) = 1 := by
    have := HT.sIx_nat z.length 0 1
    rw [show ((1 : Nat) : Int) = 1 from rfl] at this
    rw [this]
    omega
  rw [h, h2]
  show some (Sv.d (.str (SX.S ((z.drop 1).take (z.length - 1 - 1))))) = _
  rw [show z.length - 1 - 1 = z.length - 2 by omega]
theorem l_min : (("-" : String) : Str) = SX.S [45] := by kernel_rfl
theorem l_0 : (("0" : String) : Str) = SX.S [48] := by kernel_rfl
theorem numL_dig {n : Nat} : ∀ c ∈ TL.numL n, 48 ≤ c ∧ c ≤ 57 := fun c hc => TL.numL_digits n c hc
theorem ix0 {c : Nat} {r : List Nat} (h : (c :: r).length ≤ 16777216) : ixD (.str (SX.S (c :: r))) (.int 0) = some (.d (.str (SX.S [c]))) := ix_one h (i := 0) rfl rfl
theorem nt_pos {i : Int} (h : 0 ≤ i) : ∃ c r, nt i = c :: r ∧ 48 ≤ c ∧ c ≤ 57 := by
  have e : nt i = TL.numL i.natAbs := by unfold nt; rw [if_neg (by omega)]
  have hd := numL_dig (n := i.natAbs)
  rw [← e] at hd
  cases q : nt i with
  | nil => exact absurd q (nt_ne i)
  | cons c r => rw [q] at hd; exact ⟨c, r, rfl, hd c List.mem_cons_self⟩
theorem nt_free {i : Int} {s : Nat} (h : s < 45 ∨ s = 46 ∨ s = 47 ∨ 57 < s) : s ∉ nt i := by
  have := TL.numL_free (n := i.natAbs) (s := s)
  unfold nt
  split
  · rw [List.mem_cons, not_or]
    exact ⟨by omega, this (by omega)⟩
  · exact this (by omega)

/-! ### numbers -/
def isD (c : Nat) : Bool := decide (48 ≤ c ∧ c ≤ 57)
def digs (l : List Nat) : Bool := decide (l ≠ []) && decide (l.length ≤ 40) && l.all isD && (decide (l = [48]) || decide (l.head? ≠ some 48))
def numOf (l : List Nat) : Option Int := if digs l = true then some (digitsVal l : Int) else match l with
  | 45 :: r => if digs r = true ∧ r ≠ [48] then some (-(digitsVal r : Int)) else none
  | _ => none
theorem isD_iff {c : Nat} : isD c = true ↔ 48 ≤ c ∧ c ≤ 57 := decide_eq_true_iff
theorem all_iff {l : List Nat} : l.all isD = true ↔ AllDigits l := by
  rw [List.all_eq_true]
  exact ⟨fun h c hc => isD_iff.mp (h c hc), fun h c hc => isD_iff.mpr (h c hc)⟩
theorem digs_iff {l : List Nat} : digs l = true ↔ l ≠ [] ∧ l.length ≤ 40 ∧ l.all isD = true ∧ (l = [48] ∨ l.head? ≠ some 48) := by
  unfold digs
  simp only [Bool.and_eq_true, Bool.or_eq_true, decide_eq_true_eq]
  exact ⟨fun ⟨⟨⟨h1, h2⟩, h3⟩, h4⟩ => ⟨h1, h2, h3, h4⟩, fun ⟨h1, h2, h3, h4⟩ => ⟨⟨⟨h1, h2⟩, h3⟩, h4⟩⟩
theorem snoc_of {l : List Nat} (h : l ≠ []) : ∃ (t : List Nat) (c : Nat), l = t ++ [c] := ⟨l.dropLast, l.getLast h, (List.dropLast_concat_getLast h).symm⟩
theorem num_back' : ∀ (k : Nat) (l : List Nat), l.length ≤ k → l.all isD = true → l ≠ [] → (l = [48] ∨ l.head? ≠ some 48) → TL.numL (digitsVal l) = l
  | 0, l, hk, _, hn, _ => absurd (List.eq_nil_of_length_eq_zero (by omega)) hn
  | k + 1, l, hk, h, hn, h0 => by
    obtain ⟨t, c, rfl⟩ := snoc_of hn
    rw [List.length_append, List.length_singleton] at hk
    rw [List.all_append, Bool.and_eq_true] at h
    have hc : 48 ≤ c ∧ c ≤ 57 := isD_iff.mp (by simpa using h.2)
    rw [digitsVal_snoc]
    by_cases ht : t = []
    · subst ht
      show TL.numL (0 * 10 + (c - 48)) = [c]
      rw [TL.numL_lt (by omega)]
      congr 1
      omega
    · have hh : t.head? ≠ some 48 := by
        cases t with
        | nil => exact absurd rfl ht
        | cons d t =>
          rcases h0 with h0 | h0
          · simp at h0
          · exact h0
      have ih := num_back' k t (by omega) h.1 ht (.inr hh)
      have hp : digitsVal t ≠ 0 := fun e => by
        rw [e, numL_0] at ih
        rw [← ih] at hh
        exact hh rfl
      rw [TL.numL_step (by omega)]
      have e1 : (digitsVal t * 10 + (c - 48)) / 10 = digitsVal t := by omega
      have e2 : 48 + (digitsVal t * 10 + (c - 48)) % 10 = c := by omega
      rw [e1, e2, ih]
theorem num_back (l : List Nat) (h : l.all isD = true) (hn : l ≠ []) (h0 : l = [48] ∨ l.head? ≠ some 48) : TL.numL (digitsVal l) = l := num_back' l.length l (Nat.le_refl _) h hn h0
theorem val_lt' : ∀ (k : Nat) (l : List Nat), l.length ≤ k → l.all isD = true → digitsVal l < 10 ^ l.length
  | 0, l, hk, _ => by rw [List.eq_nil_of_length_eq_zero (show l.length = 0 by omega)]; decide
  | k + 1, l, hk, h => by
    by_cases hn : l = []
    · subst hn; decide
    · obtain ⟨t, c, rfl⟩ := snoc_of hn
      rw [List.length_append, List.length_singleton] at hk
      rw [List.all_append, Bool.and_eq_true] at h
      have hc : 48 ≤ c ∧ c ≤ 57 := isD_iff.mp (by simpa using h.2)
      have ih := val_lt' k t (by omega) h.1
      rw [digitsVal_snoc, List.length_append, List.length_singleton, Nat.pow_succ]
      omega
theorem val_lt (l : List Nat) (h : l.all isD = true) : digitsVal l < 10 ^ l.length := val_lt' l.length l (Nat.le_refl _) h
theorem val_lt40 {l : List Nat} (h : digs l = true) : digitsVal l < 10000000000000000000000000000000000000000 := by
  obtain ⟨h1, h2, h3, h4⟩ := digs_iff.mp h
  exact Nat.lt_of_lt_of_le (val_lt l h3) (Nat.le_trans (Nat.pow_le_pow_right (by decide) h2) (by decide))
theorem digs_nt {l : List Nat} (h : digs l = true) : l = nt (digitsVal l : Int) := by
  obtain ⟨h1, h2, h3, h4⟩ := digs_iff.mp h
  unfold nt
  rw [if_neg (by omega), Int.natAbs_natCast, num_back l h3 h1 h4]
theorem digs_neg {r : List Nat} (h : digs r = true) (hr : r ≠ [48]) : 45 :: r = nt (-(digitsVal r : Int)) ∧ 0 < digitsVal r := by
  obtain ⟨h1, h2, h3, h4⟩ := digs_iff.mp h
  have hb := num_back r h3 h1 h4
  have hp : digitsVal r ≠ 0 := fun e => by
    rw [e, numL_0] at hb
    exact hr hb.symm
  unfold nt
  rw [if_pos (by omega), Int.natAbs_neg, Int.natAbs_natCast, hb]
  exact ⟨rfl, by omega⟩
theorem numOf_some {l : List Nat} {i : Int} (h : numOf l = some i) : l = nt i ∧ (-10000000000000000000000000000000000000000 < i ∧ i < 10000000000000000000000000000000000000000) := by
  unfold numOf at h
  split at h
  · rename_i hd
    cases h
    have := val_lt40 hd
    exact ⟨digs_nt hd, by omega, by omega⟩
  · split at h
    · rename_i r _
      split at h
      · rename_i hd
        cases h
        have := val_lt40 hd.1
        have e := digs_neg hd.1 hd.2
        exact ⟨e.1, by omega, by omega⟩
      · cases h
    · cases h
theorem digs_numL {v : Nat} (h : v < 10000000000000000000000000000000000000000) : digs (TL.numL v) = true := by
  refine digs_iff.mpr ⟨TL.numL_ne v, TL.numL_len (by decide) (by omega), all_iff.mpr (TL.numL_digits v), ?_⟩
  by_cases h0 : v = 0
  · subst h0; exact .inl numL_0
  · obtain ⟨c, r, e, h1, h2⟩ := numL_head v (by omega)
    rw [e]
    exact .inr (fun z => by cases z; omega)
theorem numOf_nt {i : Int} (h : -10000000000000000000000000000000000000000 < i ∧ i < 10000000000000000000000000000000000000000) : numOf (nt i) = some i := by
  have hd := digs_numL (v := i.natAbs) (by omega)
  by_cases h0 : i < 0
  · have e : nt i = 45 :: TL.numL i.natAbs := by unfold nt; rw [if_pos h0]
    have hn : digs (45 :: TL.numL i.natAbs) = false := by
      cases q : digs (45 :: TL.numL i.natAbs) with
      | false => rfl
      | true =>
        have := (digs_iff.mp q).2.2.1
        simp [isD] at this
    have h48 : TL.numL i.natAbs ≠ [48] := fun z => by
      have := TL.numL_inj (z.trans numL_0.symm)
      omega
    unfold numOf
    rw [e, hn, if_neg Bool.false_ne_true]
    show (if _ then _ else _) = _
    rw [if_pos ⟨hd, h48⟩, TL.numL_val]
    congr 1
    omega
  · have e : nt i = TL.numL i.natAbs := by unfold nt; rw [if_neg h0]
    unfold numOf
    rw [e, if_pos hd, TL.numL_val]
    congr 1
    omega
theorem figL : (("0123456789" : String) : Str).cps.toList = [48, 49, 50, 51, 52, 53, 54, 55, 56, 57] := by kernel_rfl
theorem in_fig (c : Nat) : inD (.str (SX.S [c])) (.str "0123456789") = some (.d (.bool (isD c))) := by
  have e : inB (.str (SX.S [c])) (.str "0123456789") = some (decide (c ∈ (("0123456789" : String) : Str).cps.toList)) := rfl
  unfold inD
  rw [e, figL]
  show some (bol _) = _
  have e2 : decide (c ∈ [48, 49, 50, 51, 52, 53, 54, 55, 56, 57]) = isD c := by
    unfold isD
    refine decide_eq_decide.mpr ?_
    simp only [List.mem_cons, List.not_mem_nil, or_false]
    omega
  rw [e2]
  rfl
theorem figs {a b : Option Sv} : ∀ {l : List Nat}, lcL [2] (.n 2) fYes (fOp inD (.n 2) (.e (fC (.str "0123456789")))) (l.map fun c => .str (SX.S [c])) [a, b, none] = some (l.map (fun c => .bool (isD c)), [a, b, none])
  | [] => rfl
  | c :: l => by
    have ih := figs (a := a) (b := b) (l := l)
    have e := in_fig c
    simp_arith [e, ih]
theorem figs1 {a : Option Sv} : ∀ {l : List Nat}, lcL [1] (.n 1) fYes (fOp inD (.n 1) (.e (fC (.str "0123456789")))) (l.map fun c => .str (SX.S [c])) [a, none] = some (l.map (fun c => .bool (isD c)), [a, none])
  | [] => rfl
  | c :: l => by
    have ih := figs1 (a := a) (l := l)
    have e := in_fig c
    simp_arith [e, ih]
theorem bools : ∀ l : List Nat, boolsOf (l.map fun c => .bool (isD c)) = some (l.map isD)
  | [] => rfl
  | c :: l => by rw [List.map_cons, S.bools_cons, bools l]; rfl
theorem alls : ∀ l : List Nat, (l.map isD).all id = l.all isD
  | [] => rfl
  | c :: l => by rw [List.map_cons, List.all_cons, alls l]; rfl
theorem int_pos {l : List Nat} (h : l.all isD = true) (h1 : l ≠ []) (h2 : l.length ≤ 640) : intD (.str (SX.S l)) = some (.d (.int (digitsVal l))) := by
  unfold intD
  dsimp only
  rw [S_len, if_pos h2, intText_digits (x := SX.S l) (all_iff.mp h) h1 (by rw [S_len]; omega)]
  rfl
theorem int_neg {l : List Nat} (h : l.all isD = true) (h1 : l ≠ []) (h2 : l.length ≤ 630) : intD (.str (SX.S (45 :: l))) = some (.d (.int (-(digitsVal l)))) := by
  unfold intD
  dsimp only
  rw [S_len, if_pos (by rw [List.length_cons]; omega), intText_neg (x := SX.S (45 :: l)) (cs := l) rfl (all_iff.mp h) h1 (by rw [S_len, List.length_cons]; omega)]
  rfl
theorem nd45 {r : List Nat} : digs (45 :: r) = false := by
  cases q : digs (45 :: r) with
  | false => rfl
  | true =>
    have := (digs_iff.mp q).2.2.1
    simp [isD] at this
theorem numOf45 {r : List Nat} : numOf (45 :: r) = if digs r = true ∧ r ≠ [48] then some (-(digitsVal r : Int)) else none := by
  unfold numOf
  rw [nd45, if_neg Bool.false_ne_true]
  rfl
theorem numOfP {c : Nat} {r : List Nat} (h : c ≠ 45) : numOf (c :: r) = if digs (c :: r) = true then some (digitsVal (c :: r) : Int) else none := by
  unfold numOf
  split
  · rfl
  · split
    · rename_i e; cases e; exact absurd rfl h
    · rfl
def numR (o : Option Int) : Out := match o with | some i => .ok (.d (.int i)) [] | none => .raise 17 []
theorem sem6_eq {n : Nat} {l : List Nat} (hn : 1 ≤ n) (hl : l.length ≤ 16777216) : sem n 6 [.d (.str (SX.S l))] = numR (numOf l) := by
  obtain ⟨n, rfl⟩ : ∃ m, n = m + 1 := ⟨n - 1, by omega⟩
  cases l with
  | nil => kernel_rfl
  | cons c r =>
    have s1 := sl_to (z := c :: r) (k := 1) hl
    simp only [List.take_succ_cons, List.take_zero, S.cast1] at s1
    by_cases h45 : c = 45
    · subst h45
      rw [numOf45]
      cases r with
      | nil => kernel_rfl
      | cons d t =>
        have s2 := sl_from (z := 45 :: d :: t) (k := 1) hl (by simp)
        simp only [List.drop_succ_cons, List.drop_zero, S.cast1] at s2
        have f := figs (a := some (.d (.str (SX.S (45 :: d :: t))))) (b := some (.d (.str (SX.S (d :: t))))) (l := d :: t)
        have B := bools (d :: t)
        have A := alls (d :: t)
        have i0 := ix0 (c := d) (r := t) (by simp at hl ⊢; omega)
        have g1 : ¬ (((d :: t).length : Nat) : Int) < 1 := by rw [List.length_cons]; omega
        have hz2 : (d :: t).length ≤ 16777216 := by simp at hl ⊢; omega
        generalize hz : d :: t = z at *
        by_cases h40 : z.length ≤ 40
        · have g2 : ¬ (40 : Int) < ((z.length : Nat) : Int) := by omega
          have h100 : z.length ≤ 16777216 := by omega
          cases ha : z.all isD with
          | true =>
            have fin := int_neg (l := z) ha (by rw [← hz]; simp) (by omega)
            by_cases h48 : d = 48
            · rw [if_neg (fun q => by
                have q1 := (digs_iff.mp q.1).2.2.2
                rcases q1 with q1 | q1
                · exact q.2 q1
                · rw [← hz, h48] at q1; exact q1 rfl)]
              simp only [sem_succ, bodyOf, fb6]
              simp_arith [s1, s2, l_min, l_0, SX.S_beq_eq, S_len, kSeq_S, f, B, A, ha, i0, fin, g1, g2, h48, hz2, numR, List.cons.injEq, false_and, List.length_map, h100]
            · rw [if_pos ⟨digs_iff.mpr ⟨by rw [← hz]; simp, h40, ha, .inr (by rw [← hz]; exact fun q => h48 (Option.some.inj q))⟩, fun q => h48 (by rw [← hz] at q; cases q; rfl)⟩]
              simp only [sem_succ, bodyOf, fb6]
              simp_arith [s1, s2, l_min, l_0, SX.S_beq_eq, S_len, kSeq_S, f, B, A, ha, i0, fin, g1, g2, h48, hz2, numR, List.cons.injEq, false_and, List.length_map, h100]
          | false =>
            rw [if_neg (fun q => by have q1 := (digs_iff.mp q.1).2.2.1; rw [ha] at q1; cases q1)]
            simp only [sem_succ, bodyOf, fb6]
            simp_arith [s1, s2, l_min, l_0, SX.S_beq_eq, S_len, kSeq_S, f, B, A, ha, i0, g1, g2, hz2, numR, List.length_map, h100]
        · have g2 : (40 : Int) < ((z.length : Nat) : Int) := by omega
          rw [if_neg (fun q => h40 (digs_iff.mp q.1).2.1)]
          simp only [sem_succ, bodyOf, fb6]
          simp_arith [s1, s2, l_min, l_0, SX.S_beq_eq, S_len, g1, g2, hz2, numR]
    · rw [numOfP h45]
      have f := figs (a := some (.d (.str (SX.S (c :: r))))) (b := some (.d (.str (SX.S (c :: r))))) (l := c :: r)
      have B := bools (c :: r)
      have A := alls (c :: r)
      have i0 := ix0 (c := c) (r := r) hl
      have g1 : ¬ (((c :: r).length : Nat) : Int) < 1 := by rw [List.length_cons]; omega
      have hm : ¬ ([c] = [45]) := fun q => h45 (by cases q; rfl)
      generalize hz : c :: r = z at *
      by_cases h40 : z.length ≤ 40
      · have g2 : ¬ (40 : Int) < ((z.length : Nat) : Int) := by omega
        have h100 : z.length ≤ 16777216 := by omega
        cases ha : z.all isD with
        | true =>
          have fin := int_pos (l := z) ha (by rw [← hz]; simp) (by omega)
          by_cases h48 : c = 48
          · by_cases hz48 : z = [48]
            · rw [hz48]
              kernel_rfl
            · rw [if_neg (fun q => by
                rcases (digs_iff.mp q).2.2.2 with q1 | q1
                · exact hz48 q1
                · rw [← hz, h48] at q1; exact q1 rfl)]
              simp only [sem_succ, bodyOf, fb6]
              simp_arith [s1, l_min, l_0, SX.S_beq_eq, S_len, kSeq_S, f, B, A, ha, i0, fin, g1, g2, h48, hl, hm, hz48, numR, List.cons.injEq, false_and, List.length_map, h100]
          · rw [if_pos (digs_iff.mpr ⟨by rw [← hz]; simp, h40, ha, .inr (by rw [← hz]; exact fun q => h48 (Option.some.inj q))⟩)]
            have h48' : ¬ ([c] = [48]) := fun q => h48 (by cases q; rfl)
            simp only [sem_succ, bodyOf, fb6]
            simp_arith [s1, l_min, l_0, SX.S_beq_eq, S_len, kSeq_S, f, B, A, ha, i0, fin, g1, g2, h48', hl, hm, numR, List.length_map, h100]
        | false =>
          rw [if_neg (fun q => by have q1 := (digs_iff.mp q).2.2.1; rw [ha] at q1; cases q1)]
          simp only [sem_succ, bodyOf, fb6]
          simp_arith [s1, l_min, l_0, SX.S_beq_eq, S_len, kSeq_S, f, B, A, ha, i0, g1, g2, hl, hm, numR, List.length_map, h100]
      · have g2 : (40 : Int) < ((z.length : Nat) : Int) := by omega
        rw [if_neg (fun q => h40 (digs_iff.mp q).2.1)]
        simp only [sem_succ, bodyOf, fb6]
        simp_arith [s1, l_min, l_0, SX.S_beq_eq, S_len, g1, g2, hl, hm, numR]
end K81
set_option maxHeartbeats 1000000
set_option exponentiation.threshold 10000
namespace K81
open Dl PySem PySem.NumText
/-! ### counts and names; the law's numbers -/
def cntOf (l : List Nat) : Option Int := if digs l = true then some (digitsVal l : Int) else none
theorem sem7_eq {n : Nat} {l : List Nat} (hn : 2 ≤ n) (hl : l.length ≤ 16777216) : sem n 7 [.d (.str (SX.S l))] = numR (cntOf l) := by
  obtain ⟨n, rfl⟩ : ∃ m, n = m + 1 := ⟨n - 1, by omega⟩
  have e := sem6_eq (n := n) (l := l) (by omega) hl
  cases l with
  | nil =>
    have q : numOf [] = none := rfl
    have q2 : cntOf [] = none := rfl
    rw [q] at e
    rw [q2]
    simp only [sem_succ, bodyOf, fb7]
    simp_arith [e, numR]
  | cons c r =>
    have i0 := ix0 (c := c) (r := r) hl
    unfold cntOf
    by_cases h : c = 45
    · subst h
      rw [nd45, if_neg Bool.false_ne_true]
      cases q : numOf (45 :: r) with
      | none =>
        rw [q] at e
        simp only [sem_succ, bodyOf, fb7]
        simp_arith [e, numR]
      | some i =>
        rw [q] at e
        simp only [sem_succ, bodyOf, fb7]
        simp_arith [e, numR, i0, l_min, SX.S_beq_eq]
    · rw [numOfP h] at e
      have hm : ¬ ([c] = [45]) := fun q => h (by cases q; rfl)
      by_cases hd : digs (c :: r) = true
      · rw [if_pos hd] at e ⊢
        simp only [sem_succ, bodyOf, fb7]
        simp_arith [e, numR, i0, l_min, SX.S_beq_eq, hm]
      · rw [if_neg hd] at e ⊢
        simp only [sem_succ, bodyOf, fb7]
        simp_arith [e, numR]
theorem pre1 {c : Nat} {r : List Nat} : TL.pre [46] (c :: r) = decide (c = 46) := by
  unfold TL.pre
  show ([c] == [46]) = _
  by_cases h : c = 46
  · subst h; rfl
  · rw [decide_eq_false h]
    exact beq_eq_false_iff_ne.mpr fun q => h (by cases q; rfl)
theorem spl_ne (acc : List Nat) : ∀ l : List Nat, TL.spl [46] 0 acc l ≠ []
  | [] => by rw [TL.spl_nil]; simp
  | c :: r => by
    by_cases h : c = 46
    · rw [TL.spl_hit (by rw [pre1]; exact decide_eq_true h)]; simp
    · rw [TL.spl_miss (by rw [pre1]; exact decide_eq_false h)]
      exact spl_ne _ r
theorem spl_back : ∀ (l acc : List Nat), TL.joinL [46] (TL.spl [46] 0 acc l) = acc ++ l
  | [], acc => by rw [TL.spl_nil, List.append_nil]; rfl
  | c :: r, acc => by
    by_cases h : c = 46
    · subst h
      rw [TL.spl_hit (by rw [pre1]; rfl)]
      have ih := spl_back r []
      have ne := spl_ne [] r
      show TL.joinL [46] (acc :: TL.spl [46] 0 [] r) = _
      cases q : TL.spl [46] 0 [] r with
      | nil => exact absurd q ne
      | cons x xs =>
        rw [q] at ih
        show acc ++ ([46] ++ TL.joinL [46] (x :: xs)) = _
        rw [ih]
        rfl
    · rw [TL.spl_miss (by rw [pre1]; exact decide_eq_false h), spl_back r (acc ++ [c])]
      simp
def nameOf (r : List Nat) : Option (Int × Int) := match TL.spl [46] 0 [] r with
  | [p, q] => if digs p = true then (if digs q = true then some (digitsVal p, digitsVal q) else none) else none
  | _ => none
theorem split_S {r : List Nat} : Txt.split (SX.S r) (SX.S [46]) = (TL.spl [46] 0 [] r).map SX.S := SX.split_S (by simp) (by decide)
theorem splitD_S {r : List Nat} (hl : r.length ≤ 16777000) : splitD (.str (SX.S r)) (.str (SX.S [46])) = some (.ow ((TL.spl [46] 0 [] r).map fun z => .str (SX.S z))) := by
  unfold splitD
  dsimp only
  rw [if_pos ⟨by decide, by rw [S_len, sizeLine_eq]; omega⟩, split_S, List.map_map]
  rfl
theorem two_of {r p q : List Nat} (h : TL.spl [46] 0 [] r = [p, q]) : r = p ++ 46 :: q := by
  have := spl_back r []
  rw [h] at this
  exact this.symm
def nameR (o : Option (Int × Int)) : Out := match o with | some (a, b) => .ok (.d (.tuple [.str "worth", .int a, .int b])) [] | none => .raise 17 []
theorem sem8_eq {n : Nat} {r : List Nat} (hn : 3 ≤ n) (hl : r.length ≤ 16770000) : sem n 8 [.d (.str (SX.S (64 :: r)))] = nameR (nameOf r) := by
  obtain ⟨n, rfl⟩ : ∃ m, n = m + 1 := ⟨n - 1, by omega⟩
  have s1 := sl_from (z := 64 :: r) (k := 1) (by simp; omega) (by simp)
  simp only [List.drop_succ_cons, List.drop_zero, S.cast1] at s1
  have sp := splitD_S (r := r) (by omega)
  unfold nameOf
  cases h : TL.spl [46] 0 [] r with
  | nil => exact absurd h (spl_ne [] r)
  | cons p t =>
    rw [h] at sp
    cases t with
    | nil =>
      simp only [sem_succ, bodyOf, fb8]
      simp_arith [s1, l_dot, sp, nameR]
    | cons q u =>
      cases u with
      | cons _ u =>
        have g : ¬ (((u.length + 1 + 1 + 1 : Nat) : Int) = 2) := by omega
        simp only [sem_succ, bodyOf, fb8]
        simp_arith [s1, l_dot, sp, nameR, List.length_map, g]
      | nil =>
        have er := two_of h
        have hp : p.length ≤ 16777216 := by rw [er] at hl; simp at hl; omega
        have hq : q.length ≤ 16777216 := by rw [er] at hl; simp at hl; omega
        have e1 := sem7_eq (n := n) (l := p) (by omega) hp
        have e2 := sem7_eq (n := n) (l := q) (by omega) hq
        unfold cntOf at e1 e2
        by_cases d1 : digs p = true
        · by_cases d2 : digs q = true
          · rw [if_pos d1] at e1
            rw [if_pos d2] at e2
            show _ = nameR (if digs p = true then (if digs q = true then _ else none) else none)
            rw [if_pos d1, if_pos d2]
            simp only [sem_succ, bodyOf, fb8]
            simp_arith [s1, l_dot, sp, nameR, e1, e2, numR]
          · rw [if_pos d1] at e1
            rw [if_neg d2] at e2
            show _ = nameR (if digs p = true then (if digs q = true then _ else none) else none)
            rw [if_pos d1, if_neg d2]
            simp only [sem_succ, bodyOf, fb8]
            simp_arith [s1, l_dot, sp, nameR, e1, e2, numR]
        · rw [if_neg d1] at e1
          show _ = nameR (if digs p = true then (if digs q = true then _ else none) else none)
          rw [if_neg d1]
          simp only [sem_succ, bodyOf, fb8]
          simp_arith [s1, l_dot, sp, nameR, e1, numR]
theorem nameOf_some {r : List Nat} {a b : Int} (h : nameOf r = some (a, b)) : 64 :: r = 64 :: (nt a ++ 46 :: nt b) ∧ (0 ≤ a ∧ a < 10000000000000000000000000000000000000000) ∧ (0 ≤ b ∧ b < 10000000000000000000000000000000000000000) := by
  unfold nameOf at h
  split at h
  · rename_i p q e
    split at h
    · rename_i d1
      split at h
      · rename_i d2
        cases h
        have v1 := val_lt40 d1
        have v2 := val_lt40 d2
        rw [← digs_nt d1, ← digs_nt d2, two_of e]
        exact ⟨rfl, ⟨by omega, by omega⟩, ⟨by omega, by omega⟩⟩
      · cases h
    · cases h
  · cases h
theorem nameOf_nt {a b : Int} (ha : 0 ≤ a ∧ a < 10000000000000000000000000000000000000000) (hb : 0 ≤ b ∧ b < 10000000000000000000000000000000000000000) : nameOf (nt a ++ 46 :: nt b) = some (a, b) := by
  have e := SX.spl_join (c := 46) (sep := []) (parts := [nt a, nt b]) (by simp) (fun x hx => by
    simp only [List.mem_cons, List.not_mem_nil, or_false] at hx
    rcases hx with rfl | rfl
    · exact nt_free (by omega)
    · exact nt_free (by omega))
  have e2 : TL.joinL [46] [nt a, nt b] = nt a ++ 46 :: nt b := rfl
  rw [e2] at e
  unfold nameOf
  rw [e]
  have ea : nt a = TL.numL a.natAbs := by unfold nt; rw [if_neg (by omega)]
  have eb : nt b = TL.numL b.natAbs := by unfold nt; rw [if_neg (by omega)]
  show (if digs (nt a) = true then (if digs (nt b) = true then _ else none) else none) = _
  rw [ea, eb, if_pos (digs_numL (by omega)), if_pos (digs_numL (by omega)), TL.numL_val, TL.numL_val]
  congr 2
  · omega
  · omega
theorem sem22_eq {n : Nat} {l : List Nat} (hn : 1 ≤ n) (hl : l.length ≤ 16777216) : sem n 22 [.d (.str (SX.S l))] = .ok (.d (.bool (digs l))) [] := by
  obtain ⟨n, rfl⟩ : ∃ m, n = m + 1 := ⟨n - 1, by omega⟩
  have l_e : (("" : String) : Str) = SX.S [] := by kernel_rfl
  cases l with
  | nil => kernel_rfl
  | cons c r =>
    have f := figs1 (a := some (.d (.str (SX.S (c :: r))))) (l := c :: r)
    have B := bools (c :: r)
    have A := alls (c :: r)
    have i0 := ix0 (c := c) (r := r) hl
    have hne : ¬ (c :: r = []) := by simp
    have hz0 : c :: r ≠ [] := by simp
    have hhd : (c :: r).head? = some c := rfl
    generalize hz : c :: r = z at *
    by_cases h40 : z.length ≤ 40
    · have g2 : ¬ (40 : Int) < ((z.length : Nat) : Int) := by omega
      have h100 : z.length ≤ 16777216 := hl
      cases ha : z.all isD with
      | true =>
        by_cases hz48 : z = [48]
        · rw [hz48]; kernel_rfl
        · by_cases h48 : c = 48
          · have hd : digs z = false := by
              cases q : digs z with
              | false => rfl
              | true =>
                rcases (digs_iff.mp q).2.2.2 with q1 | q1
                · exact absurd q1 hz48
                · rw [hhd, h48] at q1; exact absurd rfl q1
            rw [hd]
            simp only [sem_succ, bodyOf, fb22]
            simp_arith [l_e, l_0, SX.S_beq_eq, S_len, kSeq_S, f, B, A, ha, i0, g2, hne, hz48, h48, h100, List.length_map]
          · have hd : digs z = true := digs_iff.mpr ⟨hz0, h40, ha, .inr (by rw [hhd]; exact fun q => h48 (Option.some.inj q))⟩
            have h48' : ¬ ([c] = [48]) := fun q => h48 (by cases q; rfl)
            rw [hd]
            simp only [sem_succ, bodyOf, fb22]
            simp_arith [l_e, l_0, SX.S_beq_eq, S_len, kSeq_S, f, B, A, ha, i0, g2, hne, hz48, h48', h100, List.length_map]
      | false =>
        have hd : digs z = false := by
          cases q : digs z with
          | false => rfl
          | true => have q1 := (digs_iff.mp q).2.2.1; rw [ha] at q1; cases q1
        rw [hd]
        simp only [sem_succ, bodyOf, fb22]
        simp_arith [l_e, l_0, SX.S_beq_eq, S_len, kSeq_S, f, B, A, ha, g2, hne, h100, List.length_map]
    · have g2 : (40 : Int) < ((z.length : Nat) : Int) := by omega
      have hd : digs z = false := by
        cases q : digs z with
        | false => rfl
        | true => exact absurd (digs_iff.mp q).2.1 h40
      rw [hd]
      simp only [sem_succ, bodyOf, fb22]
      simp_arith [l_e, SX.S_beq_eq, S_len, g2, hne, hl]
def optI (o : Option Int) : D := match o with | some i => .int i | none => .none
theorem sem23_eq {n : Nat} {l : List Nat} (hn : 2 ≤ n) (hl : l.length ≤ 16777000) : sem n 23 [.d (.str (SX.S l))] = .ok (.d (optI (numOf l))) [] := by
  obtain ⟨n, rfl⟩ : ∃ m, n = m + 1 := ⟨n - 1, by omega⟩
  have e := sem22_eq (n := n) (l := l) (by omega) (by omega)
  have l_m0 : (("-0" : String) : Str) = SX.S [45, 48] := by kernel_rfl
  cases l with
  | nil =>
    have q : digs [] = false := rfl
    rw [q] at e
    have s1 : slD (.str (SX.S [])) none (some 1) = some (.d (.str (SX.S []))) := by kernel_rfl
    have q2 : numOf [] = none := rfl
    rw [q2]
    simp only [sem_succ, bodyOf, fb23]
    simp_arith [e, s1, l_min, SX.S_beq_eq, optI, List.nil_eq, reduceCtorEq]
  | cons c r =>
    have s1 := sl_to (z := c :: r) (k := 1) (by omega)
    simp only [List.take_succ_cons, List.take_zero, S.cast1] at s1
    by_cases h45 : c = 45
    · subst h45
      have s2 := sl_from (z := 45 :: r) (k := 1) (by omega) (by simp)
      simp only [List.drop_succ_cons, List.drop_zero, S.cast1] at s2
      rw [nd45] at e
      have e2 := sem22_eq (n := n) (l := r) (by omega) (by simp at hl; omega)
      rw [numOf45]
      by_cases h48 : r = [48]
      · rw [if_neg (fun q => q.2 h48)]
        subst h48
        simp only [sem_succ, bodyOf, fb23]
        simp_arith [e, s1, l_min, l_m0, SX.S_beq_eq, optI]
      · have h48' : ¬ (45 :: r = [45, 48]) := fun q => h48 (by cases q; rfl)
        cases hd : digs r with
        | true =>
          rw [if_pos ⟨rfl, h48⟩]
          rw [hd] at e2
          obtain ⟨d1, d2, d3, d4⟩ := digs_iff.mp hd
          have fin := int_pos (l := r) d3 d1 (by omega)
          have g : (0 : Int) - (digitsVal r : Int) = -(digitsVal r : Int) := by omega
          simp only [sem_succ, bodyOf, fb23]
          simp_arith [e, s1, s2, l_min, l_m0, SX.S_beq_eq, optI, h48', e2, fin, g]
        | false =>
          rw [if_neg (fun q => Bool.false_ne_true q.1)]
          rw [hd] at e2
          simp only [sem_succ, bodyOf, fb23]
          simp_arith [e, s1, s2, l_min, l_m0, SX.S_beq_eq, optI, h48', e2]
    · rw [numOfP h45]
      have hm : ¬ ([c] = [45]) := fun q => h45 (by cases q; rfl)
      cases hd : digs (c :: r) with
      | true =>
        rw [hd] at e
        obtain ⟨d1, d2, d3, d4⟩ := digs_iff.mp hd
        have fin := int_pos (l := c :: r) d3 d1 (by omega)
        rw [if_pos rfl]
        simp only [sem_succ, bodyOf, fb23]
        simp_arith [e, fin, optI]
      | false =>
        rw [hd] at e
        rw [if_neg Bool.false_ne_true]
        simp only [sem_succ, bodyOf, fb23]
        simp_arith [e, s1, l_min, SX.S_beq_eq, hm, optI]
def optN (o : Option (Int × Int)) : D := match o with | some (a, b) => .tuple [.str "worth", .int a, .int b] | none => .none
theorem sem26_eq {n : Nat} {r : List Nat} (hn : 2 ≤ n) (hl : r.length ≤ 16770000) : sem n 26 [.d (.str (SX.S r))] = .ok (.d (optN (nameOf r))) [] := by
  obtain ⟨n, rfl⟩ : ∃ m, n = m + 1 := ⟨n - 1, by omega⟩
  have sp := splitD_S (r := r) (by omega)
  unfold nameOf
  cases h : TL.spl [46] 0 [] r with
  | nil => exact absurd h (spl_ne [] r)
  | cons p t =>
    rw [h] at sp
    cases t with
    | nil =>
      simp only [sem_succ, bodyOf, fb26]
      simp_arith [l_dot, sp, optN]
    | cons q u =>
      cases u with
      | cons _ u =>
        have g : ¬ (((u.length + 1 + 1 + 1 : Nat) : Int) = 2) := by omega
        simp only [sem_succ, bodyOf, fb26]
        simp_arith [l_dot, sp, optN, List.length_map, g]
      | nil =>
        have er := two_of h
        have hp : p.length ≤ 16777216 := by rw [er] at hl; simp at hl; omega
        have hq : q.length ≤ 16777216 := by rw [er] at hl; simp at hl; omega
        have e1 := sem22_eq (n := n) (l := p) (by omega) hp
        have e2 := sem22_eq (n := n) (l := q) (by omega) hq
        show _ = Out.ok (.d (optN (if digs p = true then (if digs q = true then _ else none) else none))) []
        cases d1 : digs p with
        | true =>
          rw [d1] at e1
          cases d2 : digs q with
          | true =>
            rw [d2] at e2
            obtain ⟨c1, c2, c3, c4⟩ := digs_iff.mp d1
            obtain ⟨c5, c6, c7, c8⟩ := digs_iff.mp d2
            have f1 := int_pos (l := p) c3 c1 (by omega)
            have f2 := int_pos (l := q) c7 c5 (by omega)
            simp only [sem_succ, bodyOf, fb26]
            simp_arith [l_dot, sp, optN, e1, e2, f1, f2]
          | false =>
            rw [d2] at e2
            simp only [sem_succ, bodyOf, fb26]
            simp_arith [l_dot, sp, optN, e1, e2]
        | false =>
          rw [d1] at e1
          simp only [sem_succ, bodyOf, fb26]
          simp_arith [l_dot, sp, optN, e1]
end K81
set_option maxHeartbeats 1000000
set_option exponentiation.threshold 10000
namespace K81
open Dl PySem
/-- brackets and blanks: the depth behind l; none: it falls apart -/
def wk : Nat → List Nat → Option Nat
  | d, [] => some d
  | d, c :: l => if c = 40 then (if d < 40 then wk (d + 1) l else none) else if c = 41 then (if 1 ≤ d then wk (d - 1) l else none) else if c = 32 then (if 1 ≤ d then wk d l else none) else wk d l
theorem wk_app : ∀ (l m : List Nat) (d e : Nat), wk d l = some e → wk d (l ++ m) = wk e m
  | [], m, d, e, h => by cases h; rfl
  | c :: l, m, d, e, h => by
    rw [List.cons_append]
    rw [wk] at h ⊢
    split
    · rename_i h1; rw [if_pos h1] at h
      split
      · rename_i h2; rw [if_pos h2] at h; exact wk_app l m _ e h
      · rename_i h2; rw [if_neg h2] at h; cases h
    · rename_i h1; rw [if_neg h1] at h
      split
      · rename_i h2; rw [if_pos h2] at h
        split
        · rename_i h3; rw [if_pos h3] at h; exact wk_app l m _ e h
        · rename_i h3; rw [if_neg h3] at h; cases h
      · rename_i h2; rw [if_neg h2] at h
        split
        · rename_i h3; rw [if_pos h3] at h
          split
          · rename_i h4; rw [if_pos h4] at h; exact wk_app l m _ e h
          · rename_i h4; rw [if_neg h4] at h; cases h
        · rename_i h3; rw [if_neg h3] at h; exact wk_app l m _ e h
theorem wk_plain : ∀ (l : List Nat) (d : Nat), (∀ c ∈ l, c ≠ 40 ∧ c ≠ 41 ∧ c ≠ 32) → wk d l = some d
  | [], _, _ => rfl
  | c :: l, d, h => by
    obtain ⟨h1, h2, h3⟩ := h c List.mem_cons_self
    unfold wk
    rw [if_neg h1, if_neg h2, if_neg h3]
    exact wk_plain l d fun x hx => h x (List.mem_cons_of_mem _ hx)
theorem intB {q : Bool} : intD (.bool q) = some (.d (.int (if q then 1 else 0))) := rfl
theorem neg1 : negD (.int 1) = some (.d (.int (-1))) := rfl
theorem at_last {l : List D} {x : D} : L2.atI (l ++ [x]) (-1) = some x := by
  unfold L2.atI L2.ixN
  rw [if_neg (by decide), if_pos (by simp; omega)]
  show (l ++ [x])[((-1 : Int) + ((l ++ [x]).length : Int)).toNat]? = _
  rw [show ((-1 : Int) + ((l ++ [x]).length : Int)).toNat = l.length by simp; omega]
  simp
theorem ixN_last {n : Nat} : L2.ixN (n + 1) (-1) = some n := by
  unfold L2.ixN
  rw [if_neg (by decide), if_pos (by omega)]
  congr 1
  omega
theorem set_last {l : List D} {x y : D} : (l ++ [x]).set l.length y = l ++ [y] := by
  rw [List.set_append_right _ _ (Nat.le_refl _), Nat.sub_self]
  rfl
theorem len_last {l : List D} {x : D} : (l ++ [x]).length = l.length + 1 := by simp
def NR (o : Option Sv) : Prop := ∀ l, o ≠ some (.rf l)
theorem nr_rf {o : Option Sv} (h : NR o) (ρ : Ev) : rfAt (o :: ρ) 0 = false := by
  unfold rfAt
  split
  · rename_i l e
    exact absurd (Option.some.inj e) (h l)
  · rfl
theorem nr_d (x : D) : NR (some (.d x)) := fun l z => nomatch z
theorem nr_ow (x : List D) : NR (some (.ow x)) := fun l z => nomatch z
theorem nr_n : NR none := fun l z => nomatch z
def pbody : Ev → RS := (fSeq (fSet 2 (fOp subD (.e (fOp addD (.n 2) (.e (fUn intD (.e (fOp eqD (.n 3) (.e (fC (.str "("))))))))) (.e (fUn intD (.e (fOp eqD (.n 3) (.e (fC (.str ")")))))))))
    (fSeq (fIf (fOrT (fTest (fOp ltD (.n 2) (.e (fC (.int 0))))) (fTest (fOp gtD (.n 2) (.e (fC (.int 40))))))
    (fRaise 17)
    fSkip)
    (fIf (fAndT (fTest (fOp eqD (.n 3) (.e (fC (.str " "))))) (fTest (fOp eqD (.n 2) (.e (fC (.int 0))))))
    (fApp 1 (fC (.str "")))
    (fSetIx 1 (fUn negD (.e (fC (.int 1)))) (fOp addD (.e (fOp ixD (.n 1) (.e (fUn negD (.e (fC (.int 1))))))) (.n 3))))))
/-- one sign of a piece -/
theorem char_eq {c d d' : Nat} {t : Sv} {fs : List D} {cur : List Nat} (hl : cur.length < 16777000) (hd : d ≤ 40) (h : wk d [c] = some d') :
    pbody [some t, some (.ow (fs ++ [.str (SX.S cur)])), some (.d (.int d)), some (.d (.str (SX.S [c])))] = .next [some t, some (.ow (fs ++ [.str (SX.S (cur ++ [c]))])), some (.d (.int d')), some (.d (.str (SX.S [c])))] := by
  rw [wk] at h
  unfold pbody
  by_cases h1 : c = 40
  · rw [if_pos h1] at h
    by_cases h2 : d < 40
    · rw [if_pos h2] at h
      cases h
      subst h1
      have g1 : ¬ ((d : Int) + 1 - 0 < 0) := by omega
      have g2 : ¬ ((40 : Int) < (d : Int) + 1 - 0) := by omega
      have g3 : (d : Int) + 1 - 0 = ((d + 1 : Nat) : Int) := by omega
      simp_all_arith [l_o, l_c, l_b, SX.S_beq_eq, List.cons.injEq, intB, g1, g2, g3, false_and, neg1, at_last, S_len, SX.S_cat, len_last, ixN_last, set_last]
    · rw [if_neg h2] at h; cases h
  · rw [if_neg h1] at h
    by_cases h2 : c = 41
    · rw [if_pos h2] at h
      by_cases h3 : 1 ≤ d
      · rw [if_pos h3] at h
        cases h
        subst h2
        have g1 : ¬ ((d : Int) + 0 - 1 < 0) := by omega
        have g2 : ¬ ((40 : Int) < (d : Int) + 0 - 1) := by omega
        have g3 : (d : Int) + 0 - 1 = ((d - 1 : Nat) : Int) := by omega
        simp_all_arith [l_o, l_c, l_b, SX.S_beq_eq, List.cons.injEq, intB, g1, g2, g3, false_and, neg1, at_last, S_len, SX.S_cat, len_last, ixN_last, set_last]
      · rw [if_neg h3] at h; cases h
    · rw [if_neg h2] at h
      have g1 : ¬ ((d : Int) + 0 - 0 < 0) := by omega
      have g2 : ¬ ((40 : Int) < (d : Int) + 0 - 0) := by omega
      have g3 : (d : Int) + 0 - 0 = (d : Int) := by omega
      by_cases h3 : c = 32
      · rw [if_pos h3] at h
        by_cases h4 : 1 ≤ d
        · rw [if_pos h4] at h
          cases h
          subst h3
          have g4 : ¬ ((d : Int) = 0) := by omega
          simp_all_arith [l_o, l_c, l_b, SX.S_beq_eq, List.cons.injEq, intB, g1, g2, g3, g4, false_and, neg1, at_last, S_len, SX.S_cat, len_last, ixN_last, set_last]
        · rw [if_neg h4] at h; cases h
      · rw [if_neg h3] at h
        cases h
        simp_all_arith [l_o, l_c, l_b, SX.S_beq_eq, List.cons.injEq, intB, h1, h2, h3, g1, g2, g3, false_and, neg1, at_last, S_len, SX.S_cat, len_last, ixN_last, set_last]
/-- the blank between two pieces -/
theorem blank_eq {t : Sv} {fs : List D} (hl : fs.length < 16777000) :
    pbody [some t, some (.ow fs), some (.d (.int 0)), some (.d (.str (SX.S [32])))] = .next [some t, some (.ow (fs ++ [.str (SX.S [])])), some (.d (.int 0)), some (.d (.str (SX.S [32])))] := by
  have l_e : (("" : String) : Str) = SX.S [] := by kernel_rfl
  unfold pbody
  simp_all_arith [l_o, l_c, l_b, l_e, SX.S_beq_eq, List.cons.injEq, intB, false_and]
theorem piece_go {t : Sv} {fs : List D} {rest : List D} : ∀ {l cur : List Nat} {d d' : Nat} {x : Option Sv}, (cur ++ l).length < 16777000 → d ≤ 40 → wk d l = some d' → NR x →
    ∃ x', NR x' ∧ forL (.n 3) pbody ((l.map fun c => .str (SX.S [c])) ++ rest) [some t, some (.ow (fs ++ [.str (SX.S cur)])), some (.d (.int d)), x] =
      forL (.n 3) pbody rest [some t, some (.ow (fs ++ [.str (SX.S (cur ++ l))])), some (.d (.int d')), x'] ∧ d' ≤ 40
  | [], cur, d, d', x, hl, hd, h, hx => by
    cases h
    exact ⟨x, hx, by rw [List.append_nil]; rfl, hd⟩
  | c :: l, cur, d, d', x, hl, hd, h, hx => by
    obtain ⟨e, h1, h2⟩ : ∃ e, wk d [c] = some e ∧ wk e l = some d' := by
      cases q : wk d [c] with
      | none =>
        exfalso
        rw [wk] at h q
        split at h
        · rename_i c1; rw [if_pos c1] at q
          split at h
          · rename_i c2; rw [if_pos c2] at q; cases q
          · cases h
        · rename_i c1; rw [if_neg c1] at q
          split at h
          · rename_i c2; rw [if_pos c2] at q
            split at h
            · rename_i c3; rw [if_pos c3] at q; cases q
            · cases h
          · rename_i c2; rw [if_neg c2] at q
            split at h
            · rename_i c3; rw [if_pos c3] at q
              split at h
              · rename_i c4; rw [if_pos c4] at q; cases q
              · cases h
            · rename_i c3; rw [if_neg c3] at q; cases q
      | some e =>
        have := wk_app [c] l d e q
        rw [List.cons_append, List.nil_append, h] at this
        exact ⟨e, rfl, this.symm⟩
    have he : e ≤ 40 := by
      rw [wk] at h1
      split at h1
      · split at h1
        · cases h1; omega
        · cases h1
      · split at h1
        · split at h1
          · cases h1; omega
          · cases h1
        · split at h1
          · split at h1
            · cases h1; omega
            · cases h1
          · cases h1; omega
    have hl2 : cur.length < 16777000 := by rw [List.length_append] at hl; omega
    obtain ⟨x', n1, e1, n2⟩ := piece_go (fs := fs) (rest := rest) (l := l) (cur := cur ++ [c]) (d := e) (d' := d') (x := some (.d (.str (SX.S [c])))) (by rw [List.append_assoc]; exact hl) he h2 (nr_d _)
    refine ⟨x', n1, ?_, n2⟩
    rw [List.append_assoc] at e1
    rw [List.map_cons, List.cons_append, S.for_cons, S.bind_n, if_pos (show rfAt _ 3 = false from nr_rf hx [])]
    show frB _ _ _ (some [some t, some (.ow (fs ++ [.str (SX.S cur)])), some (.d (.int d)), some (.d (.str (SX.S [c])))]) = _
    rw [S.frB_s, char_eq hl2 hd h1, S.frS_n]
    exact e1
end K81
set_option maxHeartbeats 1000000
set_option exponentiation.threshold 10000
namespace K81
open Dl PySem
theorem number_eq {n : Nat} {i : Int} (hn : 1 ≤ n) (hi : -10000000000000000000000000000000000000000 < i ∧ i < 10000000000000000000000000000000000000000) : sem n 6 [.d (.str (SX.S (nt i)))] = .ok (.d (.int i)) [] := by
  have := nt_small hi
  rw [sem6_eq hn (by omega), numOf_nt hi]
  rfl
theorem name_eq {n : Nat} {a b : Int} (hn : 3 ≤ n) (ha : 0 ≤ a ∧ a < 10000000000000000000000000000000000000000) (hb : 0 ≤ b ∧ b < 10000000000000000000000000000000000000000) : sem n 8 [.d (.str (SX.S (64 :: (nt a ++ 46 :: nt b))))] = .ok (.d (.tuple [.str "worth", .int a, .int b])) [] := by
  have la := nt_small (i := a) (by omega)
  have lb := nt_small (i := b) (by omega)
  rw [sem8_eq hn (by simp; omega), nameOf_nt ha hb]
  rfl
theorem nr_of {o : Option Sv} (h : NR o) : rfOf [o] = [] := by
  cases o with
  | none => rfl
  | some sv => cases sv <;> first | rfl | exact absurd rfl (h _)
theorem join_cons (p q : List Nat) (r : List (List Nat)) : TL.joinL [32] (p :: q :: r) = p ++ 32 :: TL.joinL [32] (q :: r) := rfl
theorem pieces_go {t : Sv} : ∀ {ps : List (List Nat)} {p : List Nat} {fs : List D} {x : Option Sv}, (TL.joinL [32] (p :: ps)).length < 16777000 → fs.length + ps.length < 16770000 → (∀ q ∈ p :: ps, wk 0 q = some 0) → NR x →
    ∃ x', NR x' ∧ forL (.n 3) pbody ((TL.joinL [32] (p :: ps)).map fun c => .str (SX.S [c])) [some t, some (.ow (fs ++ [.str (SX.S [])])), some (.d (.int 0)), x] =
      .next [some t, some (.ow (fs ++ (p :: ps).map fun q => .str (SX.S q))), some (.d (.int 0)), x']
  | [], p, fs, x, hl, hf, hw, hx => by
    obtain ⟨x', n1, e, _⟩ := piece_go (t := t) (fs := fs) (rest := []) (l := p) (cur := []) (d := 0) (d' := 0) (x := x) hl (by decide) (hw p List.mem_cons_self) hx
    refine ⟨x', n1, ?_⟩
    rw [List.append_nil] at e
    exact e
  | q :: r, p, fs, x, hl, hf, hw, hx => by
    rw [join_cons] at hl ⊢
    have hl2 : p.length < 16777000 := by rw [List.length_append] at hl; omega
    obtain ⟨x1, n1, e1, _⟩ := piece_go (t := t) (fs := fs) (rest := (32 :: TL.joinL [32] (q :: r)).map fun c => .str (SX.S [c])) (l := p) (cur := []) (d := 0) (d' := 0) (x := x) hl2 (by decide) (hw p List.mem_cons_self) hx
    obtain ⟨x', n2, e2⟩ := pieces_go (t := t) (ps := r) (p := q) (fs := fs ++ [.str (SX.S p)]) (x := some (.d (.str (SX.S [32])))) (by rw [List.length_append, List.length_cons] at hl; omega) (by simp at hf ⊢; omega) (fun z hz => hw z (List.mem_cons_of_mem _ hz)) (nr_d _)
    refine ⟨x', n2, ?_⟩
    simp only [S.cast0] at e1
    rw [List.map_append, e1, List.map_cons, S.for_cons, S.bind_n, if_pos (show rfAt _ 3 = false from nr_rf n1 [])]
    show frB _ _ _ (some [some t, some (.ow (fs ++ [.str (SX.S ([] ++ p))])), some (.d (.int 0)), some (.d (.str (SX.S [32])))]) = _
    rw [S.frB_s, blank_eq (by simp; omega), S.frS_n, List.nil_append, e2, List.append_assoc]
    rfl
theorem pieces_eq {n : Nat} {p : List Nat} {ps : List (List Nat)} (hn : 1 ≤ n) (hl : (TL.joinL [32] (p :: ps)).length < 16777000) (hf : ps.length < 1000) (hw : ∀ q ∈ p :: ps, wk 0 q = some 0) :
    sem n 9 [.d (.str (SX.S (TL.joinL [32] (p :: ps))))] = .ok (.ow ((p :: ps).map fun q => .str (SX.S q))) [] := by
  obtain ⟨n, rfl⟩ : ∃ m, n = m + 1 := ⟨n - 1, by omega⟩
  obtain ⟨x', n1, e⟩ := pieces_go (t := .d (.str (SX.S (TL.joinL [32] (p :: ps))))) (ps := ps) (p := p) (fs := []) (x := none) hl (by simp; omega) hw nr_n
  have l_e : (("" : String) : Str) = SX.S [] := by kernel_rfl
  rw [List.nil_append] at e
  unfold pbody at e
  generalize hz : TL.joinL [32] (p :: ps) = z at e ⊢
  generalize hm : (p :: ps).map (fun q => (.str (SX.S q) : D)) = m at e ⊢
  rw [← l_e, List.nil_append] at e
  simp only [sem_succ, bodyOf, fb9]
  simp_arith [kSeq_S, e]
  rw [nr_of n1]
/-! ### the texts hold together -/
theorem nt_plain {i : Int} {d : Nat} : wk d (nt i) = some d := wk_plain _ _ fun c hc => ⟨fun e => nt_free (by omega) (e ▸ hc), fun e => nt_free (by omega) (e ▸ hc), fun e => nt_free (by omega) (e ▸ hc)⟩
theorem w_plain (w : W2) {d : Nat} : wk d w.l = some d := wk_plain _ _ (by cases w <;> decide)
theorem wk_o {d : Nat} {l : List Nat} (h : d < 40) : wk d (40 :: l) = wk (d + 1) l := by rw [wk, if_pos rfl, if_pos h]
theorem wk_b {d : Nat} {l : List Nat} (h : 1 ≤ d) : wk d (32 :: l) = wk d l := by rw [wk, if_neg (by decide), if_neg (by decide), if_pos rfl, if_pos h]
theorem wk_c {d : Nat} : wk (d + 1) [41] = some d := by rw [wk, if_neg (by decide), if_pos rfl, if_pos (by omega), wk]; rfl
theorem wk_txt : ∀ (t : F) {d : Nat}, d + t.deep ≤ 41 → wk d t.txt = some d
  | .num i, d, h => nt_plain
  | .wor a b, d, h => by
    have e : wk d (64 :: (nt a ++ 46 :: nt b)) = some d := by
      rw [wk, if_neg (by decide), if_neg (by decide), if_neg (by decide), wk_app _ _ _ _ nt_plain, wk, if_neg (by decide), if_neg (by decide), if_neg (by decide)]
      exact nt_plain
    exact e
  | .two w a b, d, h => by
    unfold F.deep at h
    have d1 := F.deep1 a
    have e1 := wk_txt a (d := d + 1) (by omega)
    have e2 := wk_txt b (d := d + 1) (by omega)
    unfold F.txt
    rw [wk_o (by omega), wk_app _ _ _ _ (w_plain w), wk_b (by omega), wk_app _ _ _ _ e1, wk_b (by omega), wk_app _ _ _ _ e2, wk_c]
  | .pick a b c, d, h => by
    unfold F.deep at h
    have d1 := F.deep1 a
    have e1 := wk_txt a (d := d + 1) (by omega)
    have e2 := wk_txt b (d := d + 1) (by omega)
    have e3 := wk_txt c (d := d + 1) (by omega)
    have e0 : wk (d + 1) pickL = some (d + 1) := wk_plain _ _ (by decide)
    unfold F.txt
    rw [wk_o (by omega), wk_app _ _ _ _ e0, wk_b (by omega), wk_app _ _ _ _ e1, wk_b (by omega), wk_app _ _ _ _ e2, wk_b (by omega), wk_app _ _ _ _ e3, wk_c]
  | .times k a, d, h => by
    unfold F.deep at h
    have d1 := F.deep1 a
    have e1 := wk_txt a (d := d + 1) (by omega)
    have e0 : wk (d + 1) timesL = some (d + 1) := wk_plain _ _ (by decide)
    unfold F.txt
    rw [wk_o (by omega), wk_app _ _ _ _ e0, wk_b (by omega), wk_app _ _ _ _ nt_plain, wk_b (by omega), wk_app _ _ _ _ e1, wk_c]
  | .rest k a, d, h => by
    unfold F.deep at h
    have d1 := F.deep1 a
    have e1 := wk_txt a (d := d + 1) (by omega)
    have e0 : wk (d + 1) restL = some (d + 1) := wk_plain _ _ (by decide)
    unfold F.txt
    rw [wk_o (by omega), wk_app _ _ _ _ e0, wk_b (by omega), wk_app _ _ _ _ nt_plain, wk_b (by omega), wk_app _ _ _ _ e1, wk_c]
/-- a bracketed text's inner part -/
theorem inner_txt {n : Nat} {p : List Nat} {ps : List (List Nat)} {z : List Nat} (hz : z = 40 :: (TL.joinL [32] (p :: ps) ++ [41])) (hl : z.length < 16777000) :
    slD (.str (SX.S z)) none (some 1) = some (.d (.str (SX.S [40]))) ∧ slD (.str (SX.S z)) (some (-1)) none = some (.d (.str (SX.S [41]))) ∧ slD (.str (SX.S z)) (some 1) (some (-1)) = some (.d (.str (SX.S (TL.joinL [32] (p :: ps))))) := by
  subst hz
  have h1 := sl_to (z := 40 :: (TL.joinL [32] (p :: ps) ++ [41])) (k := 1) (by omega)
  have h2 := sl_last (z := 40 :: (TL.joinL [32] (p :: ps) ++ [41])) (by omega) (by simp)
  have h3 := sl_mid (z := 40 :: (TL.joinL [32] (p :: ps) ++ [41])) (by omega) (by simp)
  refine ⟨h1, ?_, ?_⟩
  · rw [h2]
    simp
  · rw [h3]
    simp

theorem knS_w (w : W2) : kninD tab_WORDS (.str (SX.S w.l)) = some (.d (.bool false)) := by rw [← ws]; exact kn_w w
theorem kgS_w (w : W2) : kgetD tab_WORDS (.str (SX.S w.l)) = some (.d (.int 2)) := by rw [← ws]; exact kg_w w
theorem knS_p : kninD tab_WORDS (.str (SX.S pickL)) = some (.d (.bool false)) := by rw [← ps]; exact kn_p
theorem kgS_p : kgetD tab_WORDS (.str (SX.S pickL)) = some (.d (.int 3)) := by rw [← ps]; exact kg_p
theorem knS_t : kninD tab_WORDS (.str (SX.S timesL)) = some (.d (.bool false)) := by rw [← ts]; exact kn_t
theorem kgS_t : kgetD tab_WORDS (.str (SX.S timesL)) = some (.d (.int 1)) := by rw [← ts]; exact kg_t
theorem knS_r : kninD tab_WORDS (.str (SX.S restL)) = some (.d (.bool false)) := by rw [← rs]; exact kn_r
theorem kgS_r : kgetD tab_WORDS (.str (SX.S restL)) = some (.d (.int 1)) := by rw [← rs]; exact kg_r
theorem i1_w (w : W2) : inD (.str (SX.S w.l)) (.tuple [.str "num", .str "worth"]) = some (.d (.bool false)) := by cases w <;> kernel_rfl
theorem i1_p : inD (.str (SX.S pickL)) (.tuple [.str "num", .str "worth"]) = some (.d (.bool false)) := by kernel_rfl
theorem i1_t : inD (.str (SX.S timesL)) (.tuple [.str "num", .str "worth"]) = some (.d (.bool false)) := by kernel_rfl
theorem i1_r : inD (.str (SX.S restL)) (.tuple [.str "num", .str "worth"]) = some (.d (.bool false)) := by kernel_rfl
theorem i2_w (w : W2) : inD (.str (SX.S w.l)) (.tuple [.str "times", .str "rest"]) = some (.d (.bool false)) := by cases w <;> kernel_rfl
theorem i2_p : inD (.str (SX.S pickL)) (.tuple [.str "times", .str "rest"]) = some (.d (.bool false)) := by kernel_rfl
theorem i2_t : inD (.str (SX.S timesL)) (.tuple [.str "times", .str "rest"]) = some (.d (.bool true)) := by kernel_rfl
theorem i2_r : inD (.str (SX.S restL)) (.tuple [.str "times", .str "rest"]) = some (.d (.bool true)) := by kernel_rfl
theorem slL1 {x : D} {l : List D} : slD (.list (x :: l)) (some 1) none = some (.ow l) := by
  have h := sl1 (x := x) (l := l)
  have e : cutL (x :: l) (some 1) none = l := by
    have h : some (Sv.d (.tuple (cutL (x :: l) (some 1) none))) = some (Sv.d (.tuple l)) := h
    injection h with h
    injection h with h
    injection h
  show some (Sv.ow (cutL (x :: l) (some 1) none)) = _
  rw [e]
theorem nt_first {i : Int} (hi : -10000000000000000000000000000000000000000 < i ∧ i < 10000000000000000000000000000000000000000) : ∃ c, slD (.str (SX.S (nt i))) none (some 1) = some (.d (.str (SX.S [c]))) ∧ (c = 45 ∨ (48 ≤ c ∧ c ≤ 57)) := by
  have hl := nt_small hi
  have s1 := sl_to (z := nt i) (k := 1) (by omega)
  by_cases h : i < 0
  · have ez : nt i = 45 :: TL.numL i.natAbs := by unfold nt; rw [if_pos h]
    rw [ez] at s1 ⊢
    exact ⟨45, s1, .inl rfl⟩
  · obtain ⟨c, r, ez, hc⟩ := nt_pos (i := i) (by omega)
    rw [ez] at s1 ⊢
    exact ⟨c, s1, .inr hc⟩
theorem from_eq : ∀ (t : F) {n k : Nat}, t.ok → t.parts ≤ 1000 → k + t.deep ≤ 40 → t.deep + 4 ≤ n → sem n 10 [.d (.str (SX.S t.txt)), .d (.int (k : Int))] = .ok (.d t.d) []
  | .num i, n, k, ho, hp, hk, hn => by
    unfold F.deep at hk hn
    obtain ⟨n, rfl⟩ : ∃ m, n = m + 1 := ⟨n - 1, by omega⟩
    obtain ⟨h1, h2⟩ : -1000000 < i ∧ i < 1000000 := ho
    obtain ⟨c, s1, hc⟩ := nt_first (i := i) (by omega)
    have e := number_eq (n := n) (i := i) (by omega) (by omega)
    have h : ¬ (40 : Int) < (k : Int) := by omega
    have c1 : ¬ c = 64 := by omega
    have c2 : ¬ c = 40 := by omega
    simp only [sem_succ, bodyOf, fb10, F.d, F.txt]
    simp_arith [h, s1, l_at, l_o, SX.S_beq_eq, List.cons.injEq, c1, c2, false_and, e]
  | .wor a b, n, k, ho, hp, hk, hn => by
    unfold F.deep at hk hn
    obtain ⟨n, rfl⟩ : ∃ m, n = m + 1 := ⟨n - 1, by omega⟩
    obtain ⟨h1, h2⟩ : (0 ≤ a ∧ a < 10000000000000000000000000000000000000000) ∧ (0 ≤ b ∧ b < 10000000000000000000000000000000000000000) := ho
    have la := nt_small (i := a) (by omega)
    have lb := nt_small (i := b) (by omega)
    have s1 := sl_to (z := 64 :: (nt a ++ 46 :: nt b)) (k := 1) (by simp; omega)
    have e := name_eq (n := n) (a := a) (b := b) (by omega) h1 h2
    have h : ¬ (40 : Int) < (k : Int) := by omega
    simp only [List.take_succ_cons, List.take_zero, S.cast1] at s1
    simp only [sem_succ, bodyOf, fb10, F.d, F.txt]
    simp_arith [h, s1, l_at, SX.S_beq_eq, e]
  | .two w a b, n, k, ho, hp, hk, hn => by
    have hx : (F.two w a b).txt = 40 :: (TL.joinL [32] [w.l, a.txt, b.txt] ++ [41]) := by
      show 40 :: (w.l ++ 32 :: (a.txt ++ 32 :: (b.txt ++ [41]))) = 40 :: ((w.l ++ ([32] ++ (a.txt ++ ([32] ++ b.txt)))) ++ [41])
      simp
    have hl := txt_len _ ho
    obtain ⟨s1, s2, s3⟩ := inner_txt (n := 0) hx (by omega)
    have hl2 : (TL.joinL [32] [w.l, a.txt, b.txt]).length < 16777000 := by
      have := congrArg List.length hx
      simp only [List.length_cons, List.length_append] at this
      omega
    unfold F.deep at hk hn
    unfold F.parts at hp
    obtain ⟨n, rfl⟩ : ∃ m, n = m + 1 := ⟨n - 1, by omega⟩
    have k1 := F.parts1 a
    have k2 := F.parts1 b
    have pc := pieces_eq (n := n) (p := w.l) (ps := [a.txt, b.txt]) (by omega) hl2 (by simp) (fun q hq => by
      simp only [List.mem_cons, List.not_mem_nil, or_false] at hq
      rcases hq with rfl | rfl | rfl
      · exact w_plain w
      · exact wk_txt a (by omega)
      · exact wk_txt b (by omega))
    have e1 := from_eq a (n := n) (k := k + 1) ho.1 (by omega) (by omega) (by omega)
    have e2 := from_eq b (n := n) (k := k + 1) ho.2 (by omega) (by omega) (by omega)
    rw [show ((k + 1 : Nat) : Int) = (k : Int) + 1 by omega] at e1 e2
    have h : ¬ (40 : Int) < (k : Int) := by omega
    simp only [List.map_cons, List.map_nil] at pc
    generalize hz : (F.two w a b).txt = z at s1 s2 s3
    simp only [sem_succ, bodyOf, fb10, F.d, ws]
    simp_arith [h, s1, s2, s3, l_at, l_o, l_c, SX.S_beq_eq, List.cons.injEq, false_and, neg1, pc, knS_w, i1_w, i2_w, kgS_w, slL1, S.fLcX_eq, S.xk_ok, S.xo_ok, S.xo_r, S.x_nil, S.x_cons, S.xB_s, S.xE_d, S.xE_r, S.xc_ok, S.xc_r, e1, e2]
  | .pick a b c, n, k, ho, hp, hk, hn => by
    have hx : (F.pick a b c).txt = 40 :: (TL.joinL [32] [pickL, a.txt, b.txt, c.txt] ++ [41]) := by
      show 40 :: (pickL ++ 32 :: (a.txt ++ 32 :: (b.txt ++ 32 :: (c.txt ++ [41])))) = 40 :: ((pickL ++ ([32] ++ (a.txt ++ ([32] ++ (b.txt ++ ([32] ++ c.txt)))))) ++ [41])
      simp
    have hl := txt_len _ ho
    obtain ⟨s1, s2, s3⟩ := inner_txt (n := 0) hx (by omega)
    have hl2 : (TL.joinL [32] [pickL, a.txt, b.txt, c.txt]).length < 16777000 := by
      have := congrArg List.length hx
      simp only [List.length_cons, List.length_append] at this
      omega
    unfold F.deep at hk hn
    unfold F.parts at hp
    obtain ⟨n, rfl⟩ : ∃ m, n = m + 1 := ⟨n - 1, by omega⟩
    have k1 := F.parts1 a
    have k2 := F.parts1 b
    have k3 := F.parts1 c
    have pc := pieces_eq (n := n) (p := pickL) (ps := [a.txt, b.txt, c.txt]) (by omega) hl2 (by simp) (fun q hq => by
      simp only [List.mem_cons, List.not_mem_nil, or_false] at hq
      rcases hq with rfl | rfl | rfl | rfl
      · exact wk_plain _ _ (by decide)
      · exact wk_txt a (by omega)
      · exact wk_txt b (by omega)
      · exact wk_txt c (by omega))
    have e1 := from_eq a (n := n) (k := k + 1) ho.1 (by omega) (by omega) (by omega)
    have e2 := from_eq b (n := n) (k := k + 1) ho.2.1 (by omega) (by omega) (by omega)
    have e3 := from_eq c (n := n) (k := k + 1) ho.2.2 (by omega) (by omega) (by omega)
    rw [show ((k + 1 : Nat) : Int) = (k : Int) + 1 by omega] at e1 e2 e3
    have h : ¬ (40 : Int) < (k : Int) := by omega
    simp only [List.map_cons, List.map_nil] at pc
    generalize hz : (F.pick a b c).txt = z at s1 s2 s3
    simp only [sem_succ, bodyOf, fb10, F.d, ps]
    simp_arith [h, s1, s2, s3, l_at, l_o, l_c, SX.S_beq_eq, List.cons.injEq, false_and, neg1, pc, knS_p, i1_p, i2_p, kgS_p, slL1, S.fLcX_eq, S.xk_ok, S.xo_ok, S.xo_r, S.x_nil, S.x_cons, S.xB_s, S.xE_d, S.xE_r, S.xc_ok, S.xc_r, e1, e2, e3]
  | .times i a, n, k, ho, hp, hk, hn => by
    have hx : (F.times i a).txt = 40 :: (TL.joinL [32] [timesL, nt i, a.txt] ++ [41]) := by
      show 40 :: (timesL ++ 32 :: (nt i ++ 32 :: (a.txt ++ [41]))) = 40 :: ((timesL ++ ([32] ++ (nt i ++ ([32] ++ a.txt)))) ++ [41])
      simp
    have hl := txt_len _ ho
    obtain ⟨s1, s2, s3⟩ := inner_txt (n := 0) hx (by omega)
    have hl2 : (TL.joinL [32] [timesL, nt i, a.txt]).length < 16777000 := by
      have := congrArg List.length hx
      simp only [List.length_cons, List.length_append] at this
      omega
    unfold F.deep at hk hn
    unfold F.parts at hp
    obtain ⟨n, rfl⟩ : ∃ m, n = m + 1 := ⟨n - 1, by omega⟩
    obtain ⟨⟨h1, h2⟩, h3⟩ : (_ < i ∧ i < 10000) ∧ a.ok := ho
    have k1 := F.parts1 a
    have pc := pieces_eq (n := n) (p := timesL) (ps := [nt i, a.txt]) (by omega) hl2 (by simp) (fun q hq => by
      simp only [List.mem_cons, List.not_mem_nil, or_false] at hq
      rcases hq with rfl | rfl | rfl
      · exact wk_plain _ _ (by decide)
      · exact nt_plain
      · exact wk_txt a (by omega))
    have e0 := number_eq (n := n) (i := i) (by omega) (by omega)
    have e1 := from_eq a (n := n) (k := k + 1) h3 (by omega) (by omega) (by omega)
    rw [show ((k + 1 : Nat) : Int) = (k : Int) + 1 by omega] at e1
    have h : ¬ (40 : Int) < (k : Int) := by omega
    simp only [List.map_cons, List.map_nil] at pc
    generalize hz : (F.times i a).txt = z at s1 s2 s3
    have i2 := i2_t
    rw [ts] at i2
    simp only [sem_succ, bodyOf, fb10, F.d, ts]
    simp_arith [h, s1, s2, s3, l_at, l_o, l_c, SX.S_beq_eq, List.cons.injEq, false_and, neg1, pc, knS_t, i1_t, i2, kgS_t, slL1, S.fLcX_eq, S.xk_ok, S.xo_ok, S.xo_r, S.x_nil, S.x_cons, S.xB_s, S.xE_d, S.xE_r, S.xc_ok, S.xc_r, e0, e1]
  | .rest i a, n, k, ho, hp, hk, hn => by
    have hx : (F.rest i a).txt = 40 :: (TL.joinL [32] [restL, nt i, a.txt] ++ [41]) := by
      show 40 :: (restL ++ 32 :: (nt i ++ 32 :: (a.txt ++ [41]))) = 40 :: ((restL ++ ([32] ++ (nt i ++ ([32] ++ a.txt)))) ++ [41])
      simp
    have hl := txt_len _ ho
    obtain ⟨s1, s2, s3⟩ := inner_txt (n := 0) hx (by omega)
    have hl2 : (TL.joinL [32] [restL, nt i, a.txt]).length < 16777000 := by
      have := congrArg List.length hx
      simp only [List.length_cons, List.length_append] at this
      omega
    unfold F.deep at hk hn
    unfold F.parts at hp
    obtain ⟨n, rfl⟩ : ∃ m, n = m + 1 := ⟨n - 1, by omega⟩
    obtain ⟨⟨h1, h2⟩, h3⟩ : (_ < i ∧ i < 10000) ∧ a.ok := ho
    have k1 := F.parts1 a
    have pc := pieces_eq (n := n) (p := restL) (ps := [nt i, a.txt]) (by omega) hl2 (by simp) (fun q hq => by
      simp only [List.mem_cons, List.not_mem_nil, or_false] at hq
      rcases hq with rfl | rfl | rfl
      · exact wk_plain _ _ (by decide)
      · exact nt_plain
      · exact wk_txt a (by omega))
    have e0 := number_eq (n := n) (i := i) (by omega) (by omega)
    have e1 := from_eq a (n := n) (k := k + 1) h3 (by omega) (by omega) (by omega)
    rw [show ((k + 1 : Nat) : Int) = (k : Int) + 1 by omega] at e1
    have h : ¬ (40 : Int) < (k : Int) := by omega
    simp only [List.map_cons, List.map_nil] at pc
    generalize hz : (F.rest i a).txt = z at s1 s2 s3
    have i2 := i2_r
    rw [rs] at i2
    simp only [sem_succ, bodyOf, fb10, F.d, rs]
    simp_arith [h, s1, s2, s3, l_at, l_o, l_c, SX.S_beq_eq, List.cons.injEq, false_and, neg1, pc, knS_r, i1_r, i2, kgS_r, slL1, S.fLcX_eq, S.xk_ok, S.xo_ok, S.xo_r, S.x_nil, S.x_cons, S.xB_s, S.xE_d, S.xE_r, S.xc_ok, S.xc_r, e0, e1]
theorem is_eq {t : F} {n : Nat} (ho : t.ok) (hd : t.deep ≤ 4) (hp : t.parts ≤ 15) (hn : t.deep + 3 ≤ n) : sem n 4 [.d t.d] = .ok (.d (.bool true)) [] := by
  obtain ⟨n, rfl⟩ : ∃ m, n = m + 1 := ⟨n - 1, by omega⟩
  have e := deep_eq t (n := n) (k := 1) ho (by omega) (by omega)
  rw [S.cast1] at e
  simp only [sem_succ, bodyOf, fb4]
  simp_arith [e, hp]
theorem read_eq {t : F} {n : Nat} (ho : t.ok) (hd : t.deep ≤ 4) (hp : t.parts ≤ 15) (hn : t.deep + 5 ≤ n) : sem n 11 [.d (.str (SX.S t.txt))] = .ok (.d t.d) [] := by
  obtain ⟨n, rfl⟩ : ∃ m, n = m + 1 := ⟨n - 1, by omega⟩
  have e := from_eq t (n := n) (k := 0) ho (by omega) (by omega) (by omega)
  have e2 := is_eq (t := t) (n := n) ho hd hp (by omega)
  rw [S.cast0] at e
  simp only [sem_succ, bodyOf, fb11]
  simp_arith [e, e2]
end K81
set_option maxHeartbeats 1000000
set_option exponentiation.threshold 10000
namespace K81
open Dl PySem PySem.NumText
/-- the entries of a text, parted at blanks outside of brackets -/
def pcs : Nat → List Nat → List Nat → Option (List (List Nat))
  | _, cur, [] => some [cur]
  | d, cur, c :: l => if c = 40 then (if d < 40 then pcs (d + 1) (cur ++ [c]) l else none) else if c = 41 then (if 1 ≤ d then pcs (d - 1) (cur ++ [c]) l else none)
    else if c = 32 ∧ d = 0 then (pcs 0 [] l).map (cur :: ·) else pcs d (cur ++ [c]) l
theorem char_bad {c d : Nat} {t : Sv} {fs : List D} {cur : List Nat} (h : (c = 40 ∧ d = 40) ∨ (c = 41 ∧ d = 0)) :
    pbody [some t, some (.ow (fs ++ [.str (SX.S cur)])), some (.d (.int d)), some (.d (.str (SX.S [c])))] = .raise 17 [some t, some (.ow (fs ++ [.str (SX.S cur)])), some (.d (.int (if c = 40 then 41 else -1))), some (.d (.str (SX.S [c])))] := by
  unfold pbody
  rcases h with ⟨rfl, rfl⟩ | ⟨rfl, rfl⟩
  · have g1 : ((40 : Nat) : Int) = 40 := rfl
    simp_all_arith [l_o, l_c, l_b, SX.S_beq_eq, List.cons.injEq, intB, false_and, g1]
  · simp_all_arith [l_o, l_c, l_b, SX.S_beq_eq, List.cons.injEq, intB, false_and]
theorem pcs_ne : ∀ {l cur : List Nat} {d : Nat} {ps : List (List Nat)}, pcs d cur l = some ps → ps ≠ []
  | [], cur, d, ps, h => by unfold pcs at h; cases h; simp
  | c :: l, cur, d, ps, h => by
    unfold pcs at h
    split at h
    · split at h
      · exact pcs_ne h
      · cases h
    · split at h
      · split at h
        · exact pcs_ne h
        · cases h
      · split at h
        · cases q : pcs 0 [] l with
          | none => rw [q] at h; cases h
          | some qs => rw [q] at h; cases h; simp
        · exact pcs_ne h
theorem pcs_join : ∀ {l cur : List Nat} {d : Nat} {ps : List (List Nat)}, pcs d cur l = some ps → TL.joinL [32] ps = cur ++ l
  | [], cur, d, ps, h => by unfold pcs at h; cases h; simp [TL.joinL]
  | c :: l, cur, d, ps, h => by
    have app : (cur ++ [c]) ++ l = cur ++ c :: l := by simp
    unfold pcs at h
    split at h
    · split at h
      · rw [pcs_join h, app]
      · cases h
    · split at h
      · split at h
        · rw [pcs_join h, app]
        · cases h
      · split at h
        · rename_i hc
          cases q : pcs 0 [] l with
          | none => rw [q] at h; cases h
          | some qs =>
            rw [q] at h
            cases h
            have ih := pcs_join q
            cases qs with
            | nil => exact absurd rfl (pcs_ne q)
            | cons x xs =>
              show cur ++ ([32] ++ TL.joinL [32] (x :: xs)) = _
              rw [ih, hc.1]
              rfl
        · rw [pcs_join h, app]
theorem pcs_go {z : D} : ∀ {l cur : List Nat} {d : Nat} {fs : List D} {x : Option Sv}, (cur ++ l).length < 16777000 → fs.length + l.length < 16770000 → d ≤ 40 → NR x →
    match pcs d cur l with
    | some ps => ∃ (d' : Nat) (x' : Option Sv), NR x' ∧ forL (.n 3) pbody (l.map fun c => .str (SX.S [c])) [some (.d z), some (.ow (fs ++ [.str (SX.S cur)])), some (.d (.int d)), x] = .next [some (.d z), some (.ow (fs ++ ps.map fun q => .str (SX.S q))), some (.d (.int d')), x']
    | none => ∃ ρ', rfOf ρ' = [] ∧ forL (.n 3) pbody (l.map fun c => .str (SX.S [c])) [some (.d z), some (.ow (fs ++ [.str (SX.S cur)])), some (.d (.int d)), x] = .raise 17 ρ'
  | [], cur, d, fs, x, hl, hf, hd, hx => ⟨d, x, hx, rfl⟩
  | c :: l, cur, d, fs, x, hl, hf, hd, hx => by
    have hl2 : cur.length < 16777000 := by rw [List.length_append] at hl; omega
    have hl3 : ((cur ++ [c]) ++ l).length < 16777000 := by simp at hl ⊢; omega
    have hl4 : (([] : List Nat) ++ l).length < 16777000 := by simp at hl ⊢; omega
    simp only [List.length_cons] at hf
    have first : ∀ (r : RS), pbody [some (.d z), some (.ow (fs ++ [.str (SX.S cur)])), some (.d (.int d)), some (.d (.str (SX.S [c])))] = r →
        forL (.n 3) pbody ((c :: l).map fun c => .str (SX.S [c])) [some (.d z), some (.ow (fs ++ [.str (SX.S cur)])), some (.d (.int d)), x] = frS (.n 3) pbody (l.map fun c => .str (SX.S [c])) r := fun r e => by
      rw [List.map_cons, S.for_cons, S.bind_n, if_pos (show rfAt _ 3 = false from nr_rf hx [])]
      show frB _ _ _ (some [some (.d z), some (.ow (fs ++ [.str (SX.S cur)])), some (.d (.int d)), some (.d (.str (SX.S [c])))]) = _
      rw [S.frB_s, e]
    have go : ∀ {e : Nat}, e ≤ 40 → wk d [c] = some e → match pcs e (cur ++ [c]) l with
        | some ps => ∃ (d' : Nat) (x' : Option Sv), NR x' ∧ forL (.n 3) pbody ((c :: l).map fun c => .str (SX.S [c])) [some (.d z), some (.ow (fs ++ [.str (SX.S cur)])), some (.d (.int d)), x] = .next [some (.d z), some (.ow (fs ++ ps.map fun q => .str (SX.S q))), some (.d (.int d')), x']
        | none => ∃ ρ', rfOf ρ' = [] ∧ forL (.n 3) pbody ((c :: l).map fun c => .str (SX.S [c])) [some (.d z), some (.ow (fs ++ [.str (SX.S cur)])), some (.d (.int d)), x] = .raise 17 ρ' := fun {e} he hw => by
      have ih := pcs_go (z := z) (l := l) (cur := cur ++ [c]) (d := e) (fs := fs) (x := some (.d (.str (SX.S [c])))) hl3 (by omega) he (nr_d _)
      have f := first _ (char_eq (t := .d z) (fs := fs) (cur := cur) hl2 hd hw)
      cases q : pcs e (cur ++ [c]) l with
      | none =>
        rw [q] at ih
        obtain ⟨ρ', h1, h2⟩ := ih
        exact ⟨ρ', h1, by rw [f, S.frS_n]; exact h2⟩
      | some ps =>
        rw [q] at ih
        obtain ⟨d', x', h1, h2⟩ := ih
        exact ⟨d', x', h1, by rw [f, S.frS_n]; exact h2⟩
    unfold pcs
    by_cases h1 : c = 40
    · rw [if_pos h1]
      by_cases h2 : d < 40
      · rw [if_pos h2]
        exact go (by omega) (by rw [wk, if_pos h1, if_pos h2]; rfl)
      · rw [if_neg h2]
        have f := first _ (char_bad (t := .d z) (fs := fs) (cur := cur) (.inl ⟨h1, by omega⟩))
        exact ⟨_, rfl, f⟩
    · rw [if_neg h1]
      by_cases h2 : c = 41
      · rw [if_pos h2]
        by_cases h3 : 1 ≤ d
        · rw [if_pos h3]
          exact go (by omega) (by rw [wk, if_neg h1, if_pos h2, if_pos h3]; rfl)
        · rw [if_neg h3]
          have f := first _ (char_bad (t := .d z) (fs := fs) (cur := cur) (.inr ⟨h2, by omega⟩))
          exact ⟨_, rfl, f⟩
      · rw [if_neg h2]
        by_cases h3 : c = 32 ∧ d = 0
        · rw [if_pos h3]
          obtain ⟨rfl, rfl⟩ := h3
          have f := first _ (blank_eq (t := .d z) (fs := fs ++ [.str (SX.S cur)]) (by simp; omega))
          have ih := pcs_go (z := z) (l := l) (cur := []) (d := 0) (fs := fs ++ [.str (SX.S cur)]) (x := some (.d (.str (SX.S [32])))) hl4 (by simp; omega) (by decide) (nr_d _)
          cases q : pcs 0 [] l with
          | none =>
            rw [q] at ih
            obtain ⟨ρ', h1, h2⟩ := ih
            exact ⟨ρ', h1, by rw [f, S.frS_n]; exact h2⟩
          | some ps =>
            rw [q] at ih
            obtain ⟨d', x', h1, h2⟩ := ih
            refine ⟨d', x', h1, ?_⟩
            rw [f, S.frS_n, List.map_cons]
            simp only [List.append_assoc, List.cons_append, List.nil_append, S.cast0] at h2 ⊢
            exact h2
        · rw [if_neg h3]
          refine go hd ?_
          rw [wk, if_neg h1, if_neg h2]
          split
          · rename_i h4
            rw [if_pos (by omega)]; rfl
          · rfl
def psR (o : Option (List (List Nat))) : Out := match o with | some ps => .ok (.ow (ps.map fun q => .str (SX.S q))) [] | none => .raise 17 []
theorem sem9_eq {n : Nat} {l : List Nat} (hn : 1 ≤ n) (hl : l.length < 16000000) : sem n 9 [.d (.str (SX.S l))] = psR (pcs 0 [] l) := by
  obtain ⟨n, rfl⟩ : ∃ m, n = m + 1 := ⟨n - 1, by omega⟩
  have g := pcs_go (z := .str (SX.S l)) (l := l) (cur := []) (d := 0) (fs := []) (x := none) (by simp; omega) (by simp; omega) (by decide) nr_n
  have l_e : (("" : String) : Str) = SX.S [] := by kernel_rfl
  cases q : pcs 0 [] l with
  | none =>
    rw [q] at g
    obtain ⟨ρ', h1, e⟩ := g
    unfold pbody at e
    rw [← l_e, List.nil_append, S.cast0] at e
    simp only [sem_succ, bodyOf, fb9]
    simp_arith [kSeq_S, e, psR, h1]
  | some ps =>
    rw [q] at g
    obtain ⟨d', x', h1, e⟩ := g
    unfold pbody at e
    rw [List.nil_append] at e
    generalize hm : ps.map (fun q => (.str (SX.S q) : D)) = m at e
    rw [← l_e, List.nil_append, S.cast0] at e
    simp only [sem_succ, bodyOf, fb9]
    simp_arith [kSeq_S, e, psR, hm]
    rw [nr_of h1]
end K81
set_option maxHeartbeats 1000000
set_option exponentiation.threshold 10000
namespace K81
open Dl PySem PySem.NumText
def F.gd : F → Prop
  | .num i => -10000000000000000000000000000000000000000 < i ∧ i < 10000000000000000000000000000000000000000
  | .wor a b => (0 ≤ a ∧ a < 10000000000000000000000000000000000000000) ∧ (0 ≤ b ∧ b < 10000000000000000000000000000000000000000)
  | .two _ a b => a.gd ∧ b.gd
  | .pick a b c => a.gd ∧ b.gd ∧ c.gd
  | .times k a => (-10000000000000000000000000000000000000000 < k ∧ k < 10000000000000000000000000000000000000000) ∧ a.gd
  | .rest k a => (-10000000000000000000000000000000000000000 < k ∧ k < 10000000000000000000000000000000000000000) ∧ a.gd
/-- the entries behind the word, read one by one -/
theorem recs {n m k : Nat} {a0 a2 a3 a4 : Option Sv} (h0 : NR a0) (h2 : NR a2) (h3 : NR a3) (h4 : NR a4)
    (ih : ∀ q : List Nat, q.length < 16000000 → sem n 10 [.d (.str (SX.S q)), .d (.int ((k + 1 : Nat) : Int))] = .raise 17 [] ∨ ∃ f : F, f.gd ∧ q = f.txt ∧ f.deep ≤ m ∧ sem n 10 [.d (.str (SX.S q)), .d (.int ((k + 1 : Nat) : Int))] = .ok (.d f.d) []) :
    ∀ qs : List (List Nat), (∀ q ∈ qs, q.length < 16000000) →
      lcX [5] (.n 5) (fCall (sem n 10) [.v (fVar 5), .v (fOp addD (.n 1) (.e (fC (.int 1))))]) (qs.map fun q => .str (SX.S q)) [a0, some (.d (.int (k : Int))), a2, a3, a4, none] = .raise 17 [a0, some (.d (.int (k : Int))), a2, a3, a4, none] ∨
      ∃ fs : List F, qs = fs.map F.txt ∧ (∀ f ∈ fs, f.gd ∧ f.deep ≤ m) ∧ lcX [5] (.n 5) (fCall (sem n 10) [.v (fVar 5), .v (fOp addD (.n 1) (.e (fC (.int 1))))]) (qs.map fun q => .str (SX.S q)) [a0, some (.d (.int (k : Int))), a2, a3, a4, none] = .ok (fs.map F.d) [a0, some (.d (.int (k : Int))), a2, a3, a4, none]
  | [], _ => .inr ⟨[], rfl, (fun _ h => nomatch h), rfl⟩
  | q :: qs, hl => by
    have e0 := ih q (hl q List.mem_cons_self)
    have er := recs h0 h2 h3 h4 ih qs fun x hx => hl x (List.mem_cons_of_mem _ hx)
    have g : (k : Int) + 1 = ((k + 1 : Nat) : Int) := by omega
    rcases e0 with e0 | ⟨f, f1, f2, f3, e0⟩
    · refine .inl ?_
      simp_arith [S.x_cons, S.xB_s, S.xE_r, g, e0]
    · rcases er with er | ⟨fs, r1, r2, er⟩
      · refine .inl ?_
        simp_arith [S.x_cons, S.xB_s, S.xE_d, S.xc_r, g, e0, er]
      · refine .inr ⟨f :: fs, by rw [List.map_cons, ← r1, ← f2], fun x hx => ?_, ?_⟩
        · rcases List.mem_cons.mp hx with rfl | hx
          · exact ⟨f1, f3⟩
          · exact r2 x hx
        · simp_arith [S.x_cons, S.xB_s, S.xE_d, S.xc_ok, g, e0, er]
theorem z_n : ("num" : Str) = SX.S [110, 117, 109] := by kernel_rfl
theorem z_o : ("worth" : Str) = SX.S [119, 111, 114, 116, 104] := by kernel_rfl
theorem z_su : ("sum" : Str) = SX.S W2.sum.l := by kernel_rfl
theorem z_le : ("less" : Str) = SX.S W2.less.l := by kernel_rfl
theorem z_la : ("least" : Str) = SX.S W2.least.l := by kernel_rfl
theorem z_gr : ("greatest" : Str) = SX.S W2.greatest.l := by kernel_rfl
/-- a word is one of a formula's, or refused -/
theorem word_cases (w : List Nat) : (∃ x : W2, w = x.l) ∨ w = pickL ∨ w = timesL ∨ w = restL ∨ kninD tab_WORDS (.str (SX.S w)) = some (.d (.bool true)) ∨ (kninD tab_WORDS (.str (SX.S w)) = some (.d (.bool false)) ∧ inD (.str (SX.S w)) (.tuple [.str "num", .str "worth"]) = some (.d (.bool true))) := by
  by_cases h1 : w = W2.sum.l
  · exact .inl ⟨_, h1⟩
  by_cases h2 : w = W2.less.l
  · exact .inl ⟨_, h2⟩
  by_cases h3 : w = W2.least.l
  · exact .inl ⟨_, h3⟩
  by_cases h4 : w = W2.greatest.l
  · exact .inl ⟨_, h4⟩
  by_cases h5 : w = pickL
  · exact .inr (.inl h5)
  by_cases h6 : w = timesL
  · exact .inr (.inr (.inl h6))
  by_cases h7 : w = restL
  · exact .inr (.inr (.inr (.inl h7)))
  by_cases h8 : w = [110, 117, 109]
  · subst h8; exact .inr (.inr (.inr (.inr (.inr ⟨by kernel_rfl, by kernel_rfl⟩))))
  by_cases h9 : w = [119, 111, 114, 116, 104]
  · subst h9; exact .inr (.inr (.inr (.inr (.inr ⟨by kernel_rfl, by kernel_rfl⟩))))
  refine .inr (.inr (.inr (.inr (.inl ?_))))
  have e : tab_WORDS.lookup (SX.S w) = none := by
    unfold tab_WORDS
    simp only [List.lookup_cons, z_n, z_o, z_su, z_le, z_la, z_gr, ps, ts, rs, SX.S_beq_eq, h1, h2, h3, h4, h5, h6, h7, h8, h9, decide_false, List.lookup_nil]
  show some (bol (!(tab_WORDS.lookup (SX.S w)).isSome)) = _
  rw [e]
  rfl
theorem last_cases (r : List Nat) : (∃ M, r = M ++ [41]) ∨ (∀ z, (40 :: r).drop ((40 :: r).length - 1) = z → z ≠ [41]) := by
  by_cases hr : r = []
  · subst hr; exact .inr fun z h => by simp at h; subst h; decide
  · obtain ⟨t, c, rfl⟩ := snoc_of hr
    by_cases h : c = 41
    · subst h; exact .inl ⟨t, rfl⟩
    · refine .inr fun z e => ?_
      have e2 : (40 :: (t ++ [c])).drop ((40 :: (t ++ [c])).length - 1) = [c] := by
        have : (40 :: (t ++ [c])).length - 1 = (40 :: t).length := by simp
        rw [this, ← List.cons_append, List.drop_left]
      rw [e2] at e
      subst e
      intro q
      cases q
      exact h rfl
theorem numOf40 {r : List Nat} : numOf (40 :: r) = none := by
  rw [numOfP (by decide), if_neg]
  intro h
  have := (digs_iff.mp h).2.2.1
  simp [isD] at this
theorem bodies {fs : List F} {a : F} (h : fs.map F.txt = [a.txt]) : ∃ f, fs = [f] := by
  cases fs with
  | nil => simp at h
  | cons f fs => cases fs with
    | nil => exact ⟨f, rfl⟩
    | cons _ _ => simp at h
theorem join_len {w : List Nat} : ∀ {ws : List (List Nat)}, ∀ q ∈ w :: ws, q.length ≤ (TL.joinL [32] (w :: ws)).length
  | [], q, h => by
    rw [List.mem_singleton] at h; subst h; exact Nat.le_refl _
  | x :: xs, q, h => by
    rw [join_cons, List.length_append, List.length_cons]
    rcases List.mem_cons.mp h with rfl | h
    · omega
    · have := join_len (w := x) (ws := xs) q h
      omega
end K81
set_option maxHeartbeats 2000000
set_option exponentiation.threshold 10000
namespace K81
open Dl PySem PySem.NumText
theorem txt_two (w : W2) (a b : F) : (F.two w a b).txt = 40 :: (TL.joinL [32] [w.l, a.txt, b.txt] ++ [41]) := by
  show 40 :: (w.l ++ 32 :: (a.txt ++ 32 :: (b.txt ++ [41]))) = 40 :: ((w.l ++ ([32] ++ (a.txt ++ ([32] ++ b.txt)))) ++ [41])
  simp
theorem txt_pick (a b c : F) : (F.pick a b c).txt = 40 :: (TL.joinL [32] [pickL, a.txt, b.txt, c.txt] ++ [41]) := by
  show 40 :: (pickL ++ 32 :: (a.txt ++ 32 :: (b.txt ++ 32 :: (c.txt ++ [41])))) = 40 :: ((pickL ++ ([32] ++ (a.txt ++ ([32] ++ (b.txt ++ ([32] ++ c.txt)))))) ++ [41])
  simp
theorem txt_times (k : Int) (a : F) : (F.times k a).txt = 40 :: (TL.joinL [32] [timesL, nt k, a.txt] ++ [41]) := by
  show 40 :: (timesL ++ 32 :: (nt k ++ 32 :: (a.txt ++ [41]))) = 40 :: ((timesL ++ ([32] ++ (nt k ++ ([32] ++ a.txt)))) ++ [41])
  simp
theorem txt_rest (k : Int) (a : F) : (F.rest k a).txt = 40 :: (TL.joinL [32] [restL, nt k, a.txt] ++ [41]) := by
  show 40 :: (restL ++ 32 :: (nt k ++ 32 :: (a.txt ++ [41]))) = 40 :: ((restL ++ ([32] ++ (nt k ++ ([32] ++ a.txt)))) ++ [41])
  simp
def Snd (m n k : Nat) (l : List Nat) : Prop := sem n 10 [.d (.str (SX.S l)), .d (.int (k : Int))] = .raise 17 [] ∨ ∃ f : F, f.gd ∧ l = f.txt ∧ f.deep ≤ m ∧ sem n 10 [.d (.str (SX.S l)), .d (.int (k : Int))] = .ok (.d f.d) []
/-- a bracketed text -/
theorem snd_br {m n k : Nat} {M : List Nat} (hk : k ≤ 40) (hn : 5 ≤ n) (hl : (40 :: (M ++ [41])).length < 16000000) (ih : ∀ q : List Nat, q.length < 16000000 → Snd m n (k + 1) q) : Snd (m + 1) (n + 1) k (40 :: (M ++ [41])) := by
  have hk' : ¬ (40 : Int) < (k : Int) := by omega
  have s1 := sl_to (z := 40 :: (M ++ [41])) (k := 1) (by omega)
  simp only [List.take_succ_cons, List.take_zero, S.cast1] at s1
  have s2 : slD (.str (SX.S (40 :: (M ++ [41])))) (some (-1)) none = some (.d (.str (SX.S [41]))) := by
    rw [sl_last (by omega) (by simp)]
    simp
  have s3 : slD (.str (SX.S (40 :: (M ++ [41])))) (some 1) (some (-1)) = some (.d (.str (SX.S M))) := by
    rw [sl_mid (by omega) (by simp)]
    simp
  have hM : M.length < 16000000 := by simp at hl; omega
  have pc := sem9_eq (n := n) (l := M) (by omega) hM
  cases hp : pcs 0 [] M with
  | none =>
    rw [hp] at pc
    refine .inl ?_
    simp only [sem_succ, bodyOf, fb10]
    simp_arith [hk', s1, s2, s3, l_at, l_o, l_c, SX.S_beq_eq, List.cons.injEq, false_and, neg1, pc, psR]
  | some ps =>
    rw [hp] at pc
    cases ps with
    | nil => exact absurd rfl (pcs_ne hp)
    | cons w ws =>
      have hj := pcs_join hp
      rw [List.nil_append] at hj
      have hq : ∀ q ∈ w :: ws, q.length < 16000000 := fun q h => by
        have := join_len q h
        rw [hj] at this
        omega
      have hqs : ∀ q ∈ ws, q.length < 16000000 := fun q h => hq q (List.mem_cons_of_mem _ h)
      have pc : sem n 9 [.d (.str (SX.S M))] = .ok (.ow (.str (SX.S w) :: ws.map fun q => .str (SX.S q))) [] := pc
      have hwl : ((ws.map fun q => (.str (SX.S q) : D)).length) = ws.length := List.length_map _
      have hws : ws.length ≤ 16777216 := by
        have hcount : ∀ {x : List Nat} {xs : List (List Nat)}, xs.length ≤ (TL.joinL [32] (x :: xs)).length := by
          intro x xs
          induction xs generalizing x with
          | nil => exact Nat.zero_le _
          | cons y ys ihc =>
            rw [join_cons, List.length_append, List.length_cons, List.length_cons]
            have := ihc (x := y)
            omega
        have := hcount (x := w) (xs := ws)
        rw [hj] at this
        omega
      rcases word_cases w with ⟨x, rfl⟩ | rfl | rfl | rfl | hbad | ⟨hb1, hb2⟩
      · -- two
        have er := recs (n := n) (m := m) (k := k) (a0 := some (.d (.str (SX.S (40 :: (M ++ [41])))))) (a2 := some (.ow (.str (SX.S x.l) :: ws.map fun q => .str (SX.S q)))) (a3 := some (.d (.str (SX.S x.l)))) (a4 := some (.ow [.str (SX.S x.l)])) (nr_d _) (nr_ow _) (nr_d _) (nr_ow _) ih ws hqs
        by_cases h2 : ws.length = 2
        · have g : ((ws.length + 1 : Nat) : Int) = 3 := by omega
          rcases er with er | ⟨fs, r1, r2, er⟩
          · refine .inl ?_
            simp only [sem_succ, bodyOf, fb10]
            simp_arith [hk', s1, s2, s3, l_at, l_o, l_c, SX.S_beq_eq, List.cons.injEq, false_and, neg1, pc, knS_w, i1_w, i2_w, kgS_w, slL1, hwl, hws, g, S.fLcX_eq, S.xk_ok, S.xo_ok, S.xo_r, er]
          · have hfl : fs.length = 2 := by rw [r1, List.length_map] at h2; exact h2
            match fs, hfl with
            | [a, b], _ =>
              subst r1
              have ga := r2 a (by simp)
              have gb := r2 b (by simp)
              refine .inr ⟨.two x a b, ⟨ga.1, gb.1⟩, ?_, ?_, ?_⟩
              · rw [txt_two, ← hj]; rfl
              · unfold F.deep; omega
              · simp only [sem_succ, bodyOf, fb10, F.d, ws]
                simp only [List.map_cons, List.map_nil] at er pc
                simp_arith [hk', s1, s2, s3, l_at, l_o, l_c, SX.S_beq_eq, List.cons.injEq, false_and, neg1, pc, knS_w, i1_w, i2_w, kgS_w, slL1, S.fLcX_eq, S.xk_ok, S.xo_ok, S.xo_r, er]
        · have g : ¬ ((ws.length + 1 : Nat) : Int) = 3 := by omega
          refine .inl ?_
          simp only [sem_succ, bodyOf, fb10]
          simp_arith [hk', s1, s2, s3, l_at, l_o, l_c, SX.S_beq_eq, List.cons.injEq, false_and, neg1, pc, knS_w, i1_w, i2_w, kgS_w, hwl, hws, g]
      · -- pick
        have er := recs (n := n) (m := m) (k := k) (a0 := some (.d (.str (SX.S (40 :: (M ++ [41])))))) (a2 := some (.ow (.str (SX.S pickL) :: ws.map fun q => .str (SX.S q)))) (a3 := some (.d (.str (SX.S pickL)))) (a4 := some (.ow [.str (SX.S pickL)])) (nr_d _) (nr_ow _) (nr_d _) (nr_ow _) ih ws hqs
        have i2 := i2_p
        by_cases h2 : ws.length = 3
        · have g : ((ws.length + 1 : Nat) : Int) = 4 := by omega
          rcases er with er | ⟨fs, r1, r2, er⟩
          · refine .inl ?_
            simp only [sem_succ, bodyOf, fb10]
            simp_arith [hk', s1, s2, s3, l_at, l_o, l_c, SX.S_beq_eq, List.cons.injEq, false_and, neg1, pc, knS_p, i1_p, i2, kgS_p, slL1, hwl, hws, g, S.fLcX_eq, S.xk_ok, S.xo_ok, S.xo_r, er]
          · have hfl : fs.length = 3 := by rw [r1, List.length_map] at h2; exact h2
            match fs, hfl with
            | [a, b, c], _ =>
              subst r1
              have ga := r2 a (by simp)
              have gb := r2 b (by simp)
              have gc := r2 c (by simp)
              refine .inr ⟨.pick a b c, ⟨ga.1, gb.1, gc.1⟩, ?_, ?_, ?_⟩
              · rw [txt_pick, ← hj]; rfl
              · unfold F.deep; omega
              · simp only [sem_succ, bodyOf, fb10, F.d, ps]
                simp only [List.map_cons, List.map_nil] at er pc
                simp_arith [hk', s1, s2, s3, l_at, l_o, l_c, SX.S_beq_eq, List.cons.injEq, false_and, neg1, pc, knS_p, i1_p, i2, kgS_p, slL1, S.fLcX_eq, S.xk_ok, S.xo_ok, S.xo_r, er]
        · have g : ¬ ((ws.length + 1 : Nat) : Int) = 4 := by omega
          refine .inl ?_
          simp only [sem_succ, bodyOf, fb10]
          simp_arith [hk', s1, s2, s3, l_at, l_o, l_c, SX.S_beq_eq, List.cons.injEq, false_and, neg1, pc, knS_p, i1_p, i2, kgS_p, hwl, hws, g]
      · -- times
        have i2 := i2_t
        rw [ts, rs] at i2
        cases ws with
        | nil =>
          refine .inl ?_
          simp only [List.map_nil] at pc
          simp only [sem_succ, bodyOf, fb10]
          simp_arith [hk', s1, s2, s3, l_at, l_o, l_c, SX.S_beq_eq, List.cons.injEq, false_and, neg1, pc, knS_t, i1_t, ts, rs, i2, kgS_t]
        | cons q rest =>
          have hq1 := hqs q List.mem_cons_self
          have e6 := sem6_eq (n := n) (l := q) (by omega) (by omega)
          have g1 : (1 : Int) < ((rest.length + 1 + 1 : Nat) : Int) := by omega
          have hrl : ((rest.map fun q => (.str (SX.S q) : D)).length) = rest.length := List.length_map _
          simp only [List.length_cons] at hws
          have hr1 : rest.length + 1 + 1 ≤ 16777216 + 1 := by omega
          have hr2 : rest.length + 1 ≤ 16777216 := by omega
          have hr0 : rest.length ≤ 16777216 := by omega
          have hMc : rest.length + 2 ≤ 16777216 := by
            have hcount : ∀ {x : List Nat} {xs : List (List Nat)}, xs.length ≤ (TL.joinL [32] (x :: xs)).length := by
              intro x xs
              induction xs generalizing x with
              | nil => exact Nat.zero_le _
              | cons y ys ihc =>
                rw [join_cons, List.length_append, List.length_cons, List.length_cons]
                have := ihc (x := y)
                omega
            have := hcount (x := timesL) (xs := q :: rest)
            rw [hj, List.length_cons] at this
            omega
          simp only [List.map_cons] at pc
          cases hno : numOf q with
          | none =>
            rw [hno] at e6
            refine .inl ?_
            simp only [sem_succ, bodyOf, fb10]
            simp_arith [hk', s1, s2, s3, l_at, l_o, l_c, SX.S_beq_eq, List.cons.injEq, false_and, neg1, pc, knS_t, i1_t, ts, rs, i2, kgS_t, hrl, hMc, g1, e6, numR]
          | some i =>
            rw [hno] at e6
            obtain ⟨n1, n2⟩ := numOf_some hno
            have er := recs (n := n) (m := m) (k := k) (a0 := some (.d (.str (SX.S (40 :: (M ++ [41])))))) (a2 := some (.ow (.str (SX.S q) :: rest.map fun q => .str (SX.S q)))) (a3 := some (.d (.str (SX.S timesL)))) (a4 := some (.ow [.str (SX.S timesL), .int i])) (nr_d _) (nr_ow _) (nr_d _) (nr_ow _) ih rest fun q hq => hqs q (List.mem_cons_of_mem _ hq)
            by_cases h2 : rest.length = 1
            · have g : ((rest.length + 1 : Nat) : Int) = 2 := by omega
              rcases er with er | ⟨fs, r1, r2, er⟩
              · refine .inl ?_
                simp only [sem_succ, bodyOf, fb10]
                simp_arith [hk', s1, s2, s3, l_at, l_o, l_c, SX.S_beq_eq, List.cons.injEq, false_and, neg1, pc, knS_t, i1_t, ts, rs, i2, kgS_t, slL1, hrl, hMc, hr2, hr0, hws, g1, e6, numR, g, S.fLcX_eq, S.xk_ok, S.xo_ok, S.xo_r, er]
              · have hfl : fs.length = 1 := by rw [r1, List.length_map] at h2; exact h2
                match fs, hfl with
                | [a], _ =>
                  subst r1
                  have ga := r2 a (by simp)
                  refine .inr ⟨.times i a, ⟨n2, ga.1⟩, ?_, ?_, ?_⟩
                  · rw [txt_times, ← hj, n1]; rfl
                  · unfold F.deep; omega
                  · simp only [sem_succ, bodyOf, fb10, F.d]
                    simp only [List.map_cons, List.map_nil] at er pc
                    simp_arith [hk', s1, s2, s3, l_at, l_o, l_c, SX.S_beq_eq, List.cons.injEq, false_and, neg1, pc, knS_t, i1_t, ts, rs, i2, kgS_t, slL1, e6, numR, S.fLcX_eq, S.xk_ok, S.xo_ok, S.xo_r, er]
            · have g : ¬ ((rest.length + 1 : Nat) : Int) = 2 := by omega
              refine .inl ?_
              simp only [sem_succ, bodyOf, fb10]
              simp_arith [hk', s1, s2, s3, l_at, l_o, l_c, SX.S_beq_eq, List.cons.injEq, false_and, neg1, pc, knS_t, i1_t, ts, rs, i2, kgS_t, slL1, hrl, hMc, hr2, hr0, hws, g1, e6, numR, g]
      · -- rest
        have i2 := i2_r
        rw [ts, rs] at i2
        cases ws with
        | nil =>
          refine .inl ?_
          simp only [List.map_nil] at pc
          simp only [sem_succ, bodyOf, fb10]
          simp_arith [hk', s1, s2, s3, l_at, l_o, l_c, SX.S_beq_eq, List.cons.injEq, false_and, neg1, pc, knS_r, i1_r, ts, rs, i2, kgS_r]
        | cons q rest =>
          have hq1 := hqs q List.mem_cons_self
          have e6 := sem6_eq (n := n) (l := q) (by omega) (by omega)
          have g1 : (1 : Int) < ((rest.length + 1 + 1 : Nat) : Int) := by omega
          have hrl : ((rest.map fun q => (.str (SX.S q) : D)).length) = rest.length := List.length_map _
          simp only [List.length_cons] at hws
          have hr1 : rest.length + 1 + 1 ≤ 16777216 + 1 := by omega
          have hr2 : rest.length + 1 ≤ 16777216 := by omega
          have hr0 : rest.length ≤ 16777216 := by omega
          have hMc : rest.length + 2 ≤ 16777216 := by
            have hcount : ∀ {x : List Nat} {xs : List (List Nat)}, xs.length ≤ (TL.joinL [32] (x :: xs)).length := by
              intro x xs
              induction xs generalizing x with
              | nil => exact Nat.zero_le _
              | cons y ys ihc =>
                rw [join_cons, List.length_append, List.length_cons, List.length_cons]
                have := ihc (x := y)
                omega
            have := hcount (x := restL) (xs := q :: rest)
            rw [hj, List.length_cons] at this
            omega
          simp only [List.map_cons] at pc
          cases hno : numOf q with
          | none =>
            rw [hno] at e6
            refine .inl ?_
            simp only [sem_succ, bodyOf, fb10]
            simp_arith [hk', s1, s2, s3, l_at, l_o, l_c, SX.S_beq_eq, List.cons.injEq, false_and, neg1, pc, knS_r, i1_r, ts, rs, i2, kgS_r, hrl, hMc, g1, e6, numR]
          | some i =>
            rw [hno] at e6
            obtain ⟨n1, n2⟩ := numOf_some hno
            have er := recs (n := n) (m := m) (k := k) (a0 := some (.d (.str (SX.S (40 :: (M ++ [41])))))) (a2 := some (.ow (.str (SX.S q) :: rest.map fun q => .str (SX.S q)))) (a3 := some (.d (.str (SX.S restL)))) (a4 := some (.ow [.str (SX.S restL), .int i])) (nr_d _) (nr_ow _) (nr_d _) (nr_ow _) ih rest fun q hq => hqs q (List.mem_cons_of_mem _ hq)
            by_cases h2 : rest.length = 1
            · have g : ((rest.length + 1 : Nat) : Int) = 2 := by omega
              rcases er with er | ⟨fs, r1, r2, er⟩
              · refine .inl ?_
                simp only [sem_succ, bodyOf, fb10]
                simp_arith [hk', s1, s2, s3, l_at, l_o, l_c, SX.S_beq_eq, List.cons.injEq, false_and, neg1, pc, knS_r, i1_r, ts, rs, i2, kgS_r, slL1, hrl, hMc, hr2, hr0, hws, g1, e6, numR, g, S.fLcX_eq, S.xk_ok, S.xo_ok, S.xo_r, er]
              · have hfl : fs.length = 1 := by rw [r1, List.length_map] at h2; exact h2
                match fs, hfl with
                | [a], _ =>
                  subst r1
                  have ga := r2 a (by simp)
                  refine .inr ⟨.rest i a, ⟨n2, ga.1⟩, ?_, ?_, ?_⟩
                  · rw [txt_rest, ← hj, n1]; rfl
                  · unfold F.deep; omega
                  · simp only [sem_succ, bodyOf, fb10, F.d]
                    simp only [List.map_cons, List.map_nil] at er pc
                    simp_arith [hk', s1, s2, s3, l_at, l_o, l_c, SX.S_beq_eq, List.cons.injEq, false_and, neg1, pc, knS_r, i1_r, ts, rs, i2, kgS_r, slL1, e6, numR, S.fLcX_eq, S.xk_ok, S.xo_ok, S.xo_r, er]
            · have g : ¬ ((rest.length + 1 : Nat) : Int) = 2 := by omega
              refine .inl ?_
              simp only [sem_succ, bodyOf, fb10]
              simp_arith [hk', s1, s2, s3, l_at, l_o, l_c, SX.S_beq_eq, List.cons.injEq, false_and, neg1, pc, knS_r, i1_r, ts, rs, i2, kgS_r, slL1, hrl, hMc, hr2, hr0, hws, g1, e6, numR, g]
      · refine .inl ?_
        simp only [sem_succ, bodyOf, fb10]
        simp_arith [hk', s1, s2, s3, l_at, l_o, l_c, SX.S_beq_eq, List.cons.injEq, false_and, neg1, pc, hbad]
      · refine .inl ?_
        simp only [sem_succ, bodyOf, fb10]
        simp_arith [hk', s1, s2, s3, l_at, l_o, l_c, SX.S_beq_eq, List.cons.injEq, false_and, neg1, pc, hb1, hb2]
theorem from_sound : ∀ (m : Nat) {n k : Nat} {l : List Nat}, k + m = 41 → m + 6 ≤ n → l.length < 16000000 → Snd m n k l
  | 0, n, k, l, hk, hn, hl => by
    obtain ⟨n, rfl⟩ : ∃ m, n = m + 1 := ⟨n - 1, by omega⟩
    refine .inl ?_
    have g : (40 : Int) < (k : Int) := by omega
    simp only [sem_succ, bodyOf, fb10]
    simp_arith [g]
  | m + 1, n, k, l, hk, hn, hl => by
    obtain ⟨n, rfl⟩ : ∃ m, n = m + 1 := ⟨n - 1, by omega⟩
    have hk' : ¬ (40 : Int) < (k : Int) := by omega
    cases l with
    | nil =>
      have s1 : slD (.str (SX.S [])) none (some 1) = some (.d (.str (SX.S []))) := by kernel_rfl
      have e := sem6_eq (n := n) (l := []) (by omega) (by decide)
      have q : numOf [] = none := rfl
      rw [q] at e
      refine .inl ?_
      simp only [sem_succ, bodyOf, fb10]
      simp_arith [hk', s1, l_at, l_o, SX.S_beq_eq, reduceCtorEq, e, numR]
    | cons c r =>
      have s1 := sl_to (z := c :: r) (k := 1) (by omega)
      simp only [List.take_succ_cons, List.take_zero, S.cast1] at s1
      by_cases h64 : c = 64
      · subst h64
        have e := sem8_eq (n := n) (r := r) (by omega) (by simp at hl; omega)
        cases q : nameOf r with
        | none =>
          rw [q] at e
          refine .inl ?_
          simp only [sem_succ, bodyOf, fb10]
          simp_arith [hk', s1, l_at, SX.S_beq_eq, e, nameR]
        | some ab =>
          obtain ⟨a, b⟩ := ab
          rw [q] at e
          obtain ⟨h1, h2, h3⟩ := nameOf_some q
          refine .inr ⟨.wor a b, ⟨h2, h3⟩, h1, by unfold F.deep; omega, ?_⟩
          simp only [sem_succ, bodyOf, fb10, F.d]
          simp_arith [hk', s1, l_at, SX.S_beq_eq, e, nameR]
      · have n64 : ¬ ([c] = [64]) := fun q => h64 (by cases q; rfl)
        by_cases h40 : c = 40
        · subst h40
          rcases last_cases r with ⟨M, rfl⟩ | hz
          · exact snd_br (by omega) (by omega) hl fun q hq => from_sound m (by omega) (by omega) hq
          · have s2 := sl_last (z := 40 :: r) (by omega) (by simp)
            generalize hzz : (40 :: r).drop ((40 :: r).length - 1) = z at s2
            have nz := hz z hzz
            have e := sem6_eq (n := n) (l := 40 :: r) (by omega) (by omega)
            rw [numOf40] at e
            refine .inl ?_
            simp only [sem_succ, bodyOf, fb10]
            simp_arith [hk', s1, s2, l_at, l_o, l_c, SX.S_beq_eq, n64, List.cons.injEq, false_and, neg1, nz, e, numR]
        · have n40 : ¬ ([c] = [40]) := fun q => h40 (by cases q; rfl)
          have e := sem6_eq (n := n) (l := c :: r) (by omega) (by omega)
          cases q : numOf (c :: r) with
          | none =>
            rw [q] at e
            refine .inl ?_
            simp only [sem_succ, bodyOf, fb10]
            simp_arith [hk', s1, l_at, l_o, SX.S_beq_eq, n64, n40, e, numR]
          | some i =>
            rw [q] at e
            obtain ⟨h1, h2⟩ := numOf_some q
            refine .inr ⟨.num i, h2, h1, by unfold F.deep; omega, ?_⟩
            simp only [sem_succ, bodyOf, fb10, F.d]
            simp_arith [hk', s1, l_at, l_o, SX.S_beq_eq, n64, n40, e, numR]
end K81
set_option maxHeartbeats 2000000
set_option exponentiation.threshold 10000
namespace K81
open Dl PySem PySem.NumText
def F.fit : F → Bool
  | .num i => decide (-1000000 < i ∧ i < 1000000)
  | .times k _ => decide (-10000 < k ∧ k < 10000)
  | .rest k _ => decide (0 < k ∧ k < 10000)
  | _ => true
theorem abs_lt {i c : Int} : decide ((if i < 0 then -i else i) < c) = decide (-c < i ∧ i < c) := by
  refine decide_eq_decide.mpr ?_
  split <;> omega
theorem fit_gen {t : F} {n : Nat} (hn : 2 ≤ n) (ho : t.gd) : sem n 1 [.d t.d] = .ok (.d (.bool t.fit)) [] := by
  obtain ⟨n, rfl⟩ : ∃ m, n = m + 1 := ⟨n - 1, by omega⟩
  have e := fun {i : Int} => num_eq (n := n) (x := .int i) (by omega) (fun _ z => nomatch z)
  cases t with
  | num i =>
    have h3 := abs_lt (i := i) (c := 1000000)
    simp only [sem_succ, bodyOf, fb1, F.d, F.fit]
    rw [← h3]
    by_cases h : (if i < 0 then -i else i) < 1000000
    · simp_arith [nn, e, isI, abs_i, n10, e6, h]
    · simp_arith [nn, e, isI, abs_i, n10, e6, h]
  | wor a b =>
    obtain ⟨h1, h2⟩ : (0 ≤ a ∧ a < 10000000000000000000000000000000000000000) ∧ (0 ≤ b ∧ b < 10000000000000000000000000000000000000000) := ho
    simp only [sem_succ, bodyOf, fb1, F.d, F.fit]
    simp_arith [on, oo, e, isI, sl1, h1, h2]
  | two w a b =>
    simp only [sem_succ, bodyOf, fb1, F.d, F.fit]
    simp_arith [w_num, w_wor, w_tim, w_res, kg_w]
  | pick a b c =>
    simp only [sem_succ, bodyOf, fb1, F.d, F.fit]
    simp_arith [pn, po, pt, pr, kg_p]
  | times k a =>
    have h3 := abs_lt (i := k) (c := 10000)
    simp only [sem_succ, bodyOf, fb1, F.d, F.fit]
    rw [← h3]
    by_cases h : (if k < 0 then -k else k) < 10000
    · simp_arith [tn, to, tt, e, isI, abs_i, n10, e4, h]
    · simp_arith [tn, to, tt, e, isI, abs_i, n10, e4, h]
  | rest k a =>
    simp only [sem_succ, bodyOf, fb1, F.d, F.fit]
    by_cases h : 0 < k
    · by_cases h2 : k < 10000
      · rw [decide_eq_true ⟨h, h2⟩]
        simp_arith [rn, ro, rt, rr, e, isI, n10, e4, h, h2]
      · rw [decide_eq_false (fun q => h2 q.2)]
        simp_arith [rn, ro, rt, rr, e, isI, n10, e4, h, h2]
    · rw [decide_eq_false (fun q => h q.1)]
      simp_arith [rn, ro, rt, rr, e, isI, n10, e4, h]
/-- what deep_of tells of a formula of any size -/
def F.cnt : Nat → F → Int
  | k, .num i => if 4 < k then 16 else if (F.num i).fit = true then 1 else 16
  | k, .wor a b => if 4 < k then 16 else 1
  | k, .two w a b => if 4 < k then 16 else 1 + (a.cnt (k + 1) + b.cnt (k + 1))
  | k, .pick a b c => if 4 < k then 16 else 1 + (a.cnt (k + 1) + (b.cnt (k + 1) + c.cnt (k + 1)))
  | k, .times i a => if 4 < k then 16 else if (F.times i a).fit = true then 1 + a.cnt (k + 1) else 16
  | k, .rest i a => if 4 < k then 16 else if (F.rest i a).fit = true then 1 + a.cnt (k + 1) else 16
theorem F.head (t : F) : ∃ (z : Str) (l : List D), t.d = .tuple (.str z :: l) ∧ kninD tab_WORDS (.str z) = some (.d (.bool false)) ∧ l.length ≤ 3 := by
  cases t with
  | num i => exact ⟨_, _, rfl, kn_n, by simp⟩
  | wor a b => exact ⟨_, _, rfl, kn_o, by simp⟩
  | two w a b => exact ⟨_, _, rfl, kn_w w, by simp⟩
  | pick a b c => exact ⟨_, _, rfl, kn_p, by simp⟩
  | times k a => exact ⟨_, _, rfl, kn_t, by simp⟩
  | rest k a => exact ⟨_, _, rfl, kn_r, by simp⟩
theorem cnt_deep {t : F} {n k : Nat} (h : 4 < k) : sem (n + 1) 3 [.d t.d, .d (.int (k : Int))] = .ok (.d (.int 16)) [] := by
  obtain ⟨z, l, e, _, _⟩ := t.head
  have g : (4 : Int) < (k : Int) := by omega
  rw [e]
  simp only [sem_succ, bodyOf, fb3]
  simp_arith [g]
theorem cnt_unfit {t : F} {n k : Nat} (h : ¬ 4 < k) (hf : sem n 1 [.d t.d] = .ok (.d (.bool false)) []) : sem (n + 1) 3 [.d t.d, .d (.int (k : Int))] = .ok (.d (.int 16)) [] := by
  obtain ⟨z, l, e, hz, hl⟩ := t.head
  have g : ¬ (4 : Int) < (k : Int) := by omega
  have g2 : ¬ ((l.length + 1 : Nat) : Int) = 0 := by omega
  rw [e] at hf ⊢
  simp only [sem_succ, bodyOf, fb3]
  simp_all_arith [g, isTupleT, isStrT, hz, hf, g2]
theorem cnt_eq : ∀ (t : F) {n k : Nat}, t.gd → 8 ≤ n + k → 3 ≤ n → sem n 3 [.d t.d, .d (.int (k : Int))] = .ok (.d (.int (t.cnt k))) []
  | .num i, n, k, ho, hn, hn3 => by
    obtain ⟨n, rfl⟩ : ∃ m, n = m + 1 := ⟨n - 1, by omega⟩
    unfold F.cnt
    by_cases h4 : 4 < k
    · rw [if_pos h4]; exact cnt_deep h4
    · rw [if_neg h4]
      have e1 := fit_gen (t := .num i) (n := n) (by omega) ho
      have e2 := inner_eq (.num i) (n := n) (by omega)
      have h : ¬ (4 : Int) < (k : Int) := by omega
      cases hf : (F.num i).fit with
      | false => rw [hf] at e1; exact cnt_unfit h4 e1
      | true =>
        rw [hf] at e1
        rw [if_pos rfl]
        simp only [F.d, F.inner] at e1 e2
        simp only [sem_succ, bodyOf, fb3, F.d]
        simp_arith [h, isTupleT, isStrT, kn_n, e1, e2]
  | .wor a b, n, k, ho, hn, hn3 => by
    obtain ⟨n, rfl⟩ : ∃ m, n = m + 1 := ⟨n - 1, by omega⟩
    unfold F.cnt
    by_cases h4 : 4 < k
    · rw [if_pos h4]; exact cnt_deep h4
    · rw [if_neg h4]
      have e1 := fit_gen (t := .wor a b) (n := n) (by omega) ho
      have e2 := inner_eq (.wor a b) (n := n) (by omega)
      have h : ¬ (4 : Int) < (k : Int) := by omega
      simp only [F.d, F.inner, F.fit] at e1 e2
      simp only [sem_succ, bodyOf, fb3, F.d]
      simp_arith [h, isTupleT, isStrT, kn_o, e1, e2]
  | .two w a b, n, k, ho, hn, hn3 => by
    obtain ⟨n, rfl⟩ : ∃ m, n = m + 1 := ⟨n - 1, by omega⟩
    unfold F.cnt
    by_cases h4 : 4 < k
    · rw [if_pos h4]; exact cnt_deep h4
    · rw [if_neg h4]
      have e1 := fit_gen (t := .two w a b) (n := n) (by omega) ho
      have e2 := inner_eq (.two w a b) (n := n) (by omega)
      have e3 := cnt_eq a (n := n) (k := k + 1) ho.1 (by omega) (by omega)
      have e4 := cnt_eq b (n := n) (k := k + 1) ho.2 (by omega) (by omega)
      have h : ¬ (4 : Int) < (k : Int) := by omega
      rw [show ((k + 1 : Nat) : Int) = (k : Int) + 1 by omega] at e3 e4
      simp only [F.d, F.inner, F.fit] at e1 e2
      simp only [sem_succ, bodyOf, fb3, F.d]
      simp_arith [h, isTupleT, isStrT, kn_w, e1, e2, e3, e4, Int.add_zero]
  | .pick a b c, n, k, ho, hn, hn3 => by
    obtain ⟨n, rfl⟩ : ∃ m, n = m + 1 := ⟨n - 1, by omega⟩
    unfold F.cnt
    by_cases h4 : 4 < k
    · rw [if_pos h4]; exact cnt_deep h4
    · rw [if_neg h4]
      have e1 := fit_gen (t := .pick a b c) (n := n) (by omega) ho
      have e2 := inner_eq (.pick a b c) (n := n) (by omega)
      have e3 := cnt_eq a (n := n) (k := k + 1) ho.1 (by omega) (by omega)
      have e4 := cnt_eq b (n := n) (k := k + 1) ho.2.1 (by omega) (by omega)
      have e5 := cnt_eq c (n := n) (k := k + 1) ho.2.2 (by omega) (by omega)
      have h : ¬ (4 : Int) < (k : Int) := by omega
      rw [show ((k + 1 : Nat) : Int) = (k : Int) + 1 by omega] at e3 e4 e5
      simp only [F.d, F.inner, F.fit] at e1 e2
      simp only [sem_succ, bodyOf, fb3, F.d]
      simp_arith [h, isTupleT, isStrT, kn_p, e1, e2, e3, e4, e5, Int.add_zero]
  | .times i a, n, k, ho, hn, hn3 => by
    obtain ⟨n, rfl⟩ : ∃ m, n = m + 1 := ⟨n - 1, by omega⟩
    unfold F.cnt
    by_cases h4 : 4 < k
    · rw [if_pos h4]; exact cnt_deep h4
    · rw [if_neg h4]
      have e1 := fit_gen (t := .times i a) (n := n) (by omega) ho
      have e2 := inner_eq (.times i a) (n := n) (by omega)
      have e3 := cnt_eq a (n := n) (k := k + 1) ho.2 (by omega) (by omega)
      have h : ¬ (4 : Int) < (k : Int) := by omega
      rw [show ((k + 1 : Nat) : Int) = (k : Int) + 1 by omega] at e3
      cases hf : (F.times i a).fit with
      | false => rw [hf] at e1; exact cnt_unfit h4 e1
      | true =>
        rw [hf] at e1
        rw [if_pos rfl]
        simp only [F.d, F.inner] at e1 e2
        simp only [sem_succ, bodyOf, fb3, F.d]
        simp_arith [h, isTupleT, isStrT, kn_t, e1, e2, e3, Int.add_zero]
  | .rest i a, n, k, ho, hn, hn3 => by
    obtain ⟨n, rfl⟩ : ∃ m, n = m + 1 := ⟨n - 1, by omega⟩
    unfold F.cnt
    by_cases h4 : 4 < k
    · rw [if_pos h4]; exact cnt_deep h4
    · rw [if_neg h4]
      have e1 := fit_gen (t := .rest i a) (n := n) (by omega) ho
      have e2 := inner_eq (.rest i a) (n := n) (by omega)
      have e3 := cnt_eq a (n := n) (k := k + 1) ho.2 (by omega) (by omega)
      have h : ¬ (4 : Int) < (k : Int) := by omega
      rw [show ((k + 1 : Nat) : Int) = (k : Int) + 1 by omega] at e3
      cases hf : (F.rest i a).fit with
      | false => rw [hf] at e1; exact cnt_unfit h4 e1
      | true =>
        rw [hf] at e1
        rw [if_pos rfl]
        simp only [F.d, F.inner] at e1 e2
        simp only [sem_succ, bodyOf, fb3, F.d]
        simp_arith [h, isTupleT, isStrT, kn_r, e1, e2, e3, Int.add_zero]
theorem cnt_ok : ∀ (t : F) {k : Nat}, t.gd → 1 ≤ t.cnt k ∧ (t.cnt k ≤ 15 → t.ok ∧ k + t.deep ≤ 5 ∧ t.cnt k = t.parts)
  | .num i, k, ho => by
    unfold F.cnt F.parts F.deep F.ok
    split
    · exact ⟨by omega, fun h => by omega⟩
    · split
      · rename_i h
        have h := of_decide_eq_true h
        exact ⟨by omega, fun _ => ⟨h, by omega, rfl⟩⟩
      · exact ⟨by omega, fun h => by omega⟩
  | .wor a b, k, ho => by
    unfold F.cnt F.parts F.deep F.ok
    split
    · exact ⟨by omega, fun h => by omega⟩
    · exact ⟨by omega, fun _ => ⟨ho, by omega, rfl⟩⟩
  | .two w a b, k, ho => by
    have ha := cnt_ok a (k := k + 1) ho.1
    have hb := cnt_ok b (k := k + 1) ho.2
    unfold F.cnt F.parts F.deep F.ok
    split
    · exact ⟨by omega, fun h => by omega⟩
    · refine ⟨by omega, fun h => ?_⟩
      have h1 := ha.2 (by omega)
      have h2 := hb.2 (by omega)
      exact ⟨⟨h1.1, h2.1⟩, by omega, by omega⟩
  | .pick a b c, k, ho => by
    have ha := cnt_ok a (k := k + 1) ho.1
    have hb := cnt_ok b (k := k + 1) ho.2.1
    have hc := cnt_ok c (k := k + 1) ho.2.2
    unfold F.cnt F.parts F.deep F.ok
    split
    · exact ⟨by omega, fun h => by omega⟩
    · refine ⟨by omega, fun h => ?_⟩
      have h1 := ha.2 (by omega)
      have h2 := hb.2 (by omega)
      have h3 := hc.2 (by omega)
      exact ⟨⟨h1.1, h2.1, h3.1⟩, by omega, by omega⟩
  | .times i a, k, ho => by
    have ha := cnt_ok a (k := k + 1) ho.2
    unfold F.cnt F.parts F.deep F.ok
    split
    · exact ⟨by omega, fun h => by omega⟩
    · split
      · rename_i hf
        have hf := of_decide_eq_true hf
        refine ⟨by omega, fun h => ?_⟩
        have h1 := ha.2 (by omega)
        exact ⟨⟨hf, h1.1⟩, by omega, by omega⟩
      · exact ⟨by omega, fun h => by omega⟩
  | .rest i a, k, ho => by
    have ha := cnt_ok a (k := k + 1) ho.2
    unfold F.cnt F.parts F.deep F.ok
    split
    · exact ⟨by omega, fun h => by omega⟩
    · split
      · rename_i hf
        have hf := of_decide_eq_true hf
        refine ⟨by omega, fun h => ?_⟩
        have h1 := ha.2 (by omega)
        exact ⟨⟨hf, h1.1⟩, by omega, by omega⟩
      · exact ⟨by omega, fun h => by omega⟩
/-- a formula as the document asks it -/
def F.fine (f : F) : Prop := f.ok ∧ f.deep ≤ 4 ∧ f.parts ≤ 15
theorem read_f {n : Nat} {l : List Nat} (hn : 50 ≤ n) (hl : l.length < 16000000) :
    (∃ f : F, f.fine ∧ l = f.txt ∧ sem n 11 [.d (.str (SX.S l))] = .ok (.d f.d) []) ∨ ((∀ f : F, f.fine → l ≠ f.txt) ∧ sem n 11 [.d (.str (SX.S l))] = .raise 17 []) := by
  by_cases h : ∃ f : F, f.fine ∧ l = f.txt
  · obtain ⟨f, h1, h2⟩ := h
    refine .inl ⟨f, h1, h2, ?_⟩
    rw [h2]
    exact read_eq h1.1 h1.2.1 h1.2.2 (by have := h1.2.1; omega)
  · refine .inr ⟨fun f h1 h2 => h ⟨f, h1, h2⟩, ?_⟩
    obtain ⟨n, rfl⟩ : ∃ m, n = m + 1 := ⟨n - 1, by omega⟩
    have c0 : ((0 : Nat) : Int) = 0 := rfl
    rcases from_sound 41 (n := n) (k := 0) (l := l) (by omega) (by omega) hl with e | ⟨f, g1, g2, g3, e⟩
    · rw [c0] at e
      simp only [sem_succ, bodyOf, fb11]
      simp_arith [e]
    · rw [c0] at e
      have ec := cnt_eq f (n := n - 1) (k := 1) g1 (by omega) (by omega)
      have hc : ¬ f.cnt 1 ≤ 15 := fun q => by
        have := (cnt_ok f (k := 1) g1).2 q
        exact h ⟨f, ⟨this.1, by omega, by omega⟩, g2⟩
      have ei : sem n 4 [.d f.d] = .ok (.d (.bool false)) [] := by
        obtain ⟨n, rfl⟩ : ∃ m, n = m + 1 := ⟨n - 1, by omega⟩
        rw [S.cast1] at ec
        simp only [Nat.add_sub_cancel] at ec
        simp only [sem_succ, bodyOf, fb4]
        simp_arith [ec, hc]
      simp only [sem_succ, bodyOf, fb11]
      simp_arith [e, ei]
end K81
set_option maxHeartbeats 1000000
set_option exponentiation.threshold 10000
namespace K81
open Dl PySem PySem.NumText
def stp (d : Int) (c : Nat) : Int := d + (if c = 40 then 1 else 0) - (if c = 41 then 1 else 0)
def halt (d : Int) (c : Nat) : Prop := stp d c < 0 ∨ (stp d c = 0 ∧ c = 32)
instance (d : Int) (c : Nat) : Decidable (halt d c) := by unfold halt; infer_instance
/-- where the law's walk over an entry stops -/
def stopL : Int → List Nat → Option Nat
  | _, [] => none
  | d, c :: l => if halt d c then some 0 else (stopL (stp d c) l).map (· + 1)
theorem up_cons (lo : Int) (n : Nat) : upFrom lo (n + 1) = .int lo :: upFrom (lo + 1) n := by
  unfold upFrom
  rw [List.range_succ_eq_map, List.map_cons, List.map_map]
  congr 1
  · simp
  · refine List.map_congr_left fun i _ => ?_
    show PyData.int _ = PyData.int _
    congr 1
    show lo + ((i + 1 : Nat) : Int) = lo + 1 + (i : Int)
    omega
def ebody : Ev → RS := (fSeq (fSet 2 (fOp subD (.e (fOp addD (.n 2) (.e (fUn intD (.e (fOp eqD (.e (fOp ixD (.n 0) (.n 3))) (.e (fC (.str "("))))))))) (.e (fUn intD (.e (fOp eqD (.e (fOp ixD (.n 0) (.n 3))) (.e (fC (.str ")")))))))))
    (fIf (fOrT (fTest (fOp ltD (.n 2) (.e (fC (.int 0))))) (fAndT (fTest (fOp eqD (.n 2) (.e (fC (.int 0))))) (fTest (fOp eqD (.e (fOp ixD (.n 0) (.n 3))) (.e (fC (.str " ")))))))
    (fRet (fMove 3))
    fSkip))
theorem ebody_eq {L : List Nat} {c p : Nat} {pl : D} {d : Int} (hL : L.length ≤ 16777216) (hc : L[p]? = some c) :
    ebody [some (.d (.str (SX.S L))), some (.d pl), some (.d (.int d)), some (.d (.int (p : Int)))] =
      if halt d c then .ret (.d (.int (p : Int))) [some (.d (.str (SX.S L))), some (.d pl), some (.d (.int (stp d c))), some (.d (.int (p : Int)))] else .next [some (.d (.str (SX.S L))), some (.d pl), some (.d (.int (stp d c))), some (.d (.int (p : Int)))] := by
  have i0 : ixD (.str (SX.S L)) (.int (p : Int)) = some (.d (.str (SX.S [c]))) := ix_one hL (i := p) rfl hc
  unfold ebody halt stp
  by_cases h1 : c = 40
  · subst h1
    by_cases h : d + 1 - 0 < 0
    · simp_arith [i0, l_o, l_c, l_b, SX.S_beq_eq, List.cons.injEq, intB, h, false_and, and_false, or_false, true_or, false_or]
    · by_cases h3 : d + 1 - 0 = 0
      · simp_arith [i0, l_o, l_c, l_b, SX.S_beq_eq, List.cons.injEq, intB, h, h3, false_and, and_false, or_false, true_or, false_or]
      · simp_arith [i0, l_o, l_c, l_b, SX.S_beq_eq, List.cons.injEq, intB, h, h3, false_and, and_false, or_false, true_or, false_or]
  · by_cases h2 : c = 41
    · subst h2
      by_cases h : d + 0 - 1 < 0
      · simp_arith [i0, l_o, l_c, l_b, SX.S_beq_eq, List.cons.injEq, intB, h, false_and, and_false, or_false, true_or, false_or]
      · by_cases h3 : d + 0 - 1 = 0
        · simp_arith [i0, l_o, l_c, l_b, SX.S_beq_eq, List.cons.injEq, intB, h, h3, false_and, and_false, or_false, true_or, false_or]
        · simp_arith [i0, l_o, l_c, l_b, SX.S_beq_eq, List.cons.injEq, intB, h, h3, false_and, and_false, or_false, true_or, false_or]
    · by_cases h : d + 0 - 0 < 0
      · simp_arith [i0, l_o, l_c, l_b, SX.S_beq_eq, List.cons.injEq, intB, h1, h2, h, false_and, and_false, or_false, true_or, false_or]
      · by_cases h3 : d + 0 - 0 = 0
        · by_cases h4 : c = 32
          · simp_arith [i0, l_o, l_c, l_b, SX.S_beq_eq, List.cons.injEq, intB, h1, h2, h, h3, h4, false_and, and_false, or_false, true_or, false_or]
          · simp_arith [i0, l_o, l_c, l_b, SX.S_beq_eq, List.cons.injEq, intB, h1, h2, h, h3, h4, false_and, and_false, or_false, true_or, false_or]
        · simp_arith [i0, l_o, l_c, l_b, SX.S_beq_eq, List.cons.injEq, intB, h1, h2, h, h3, false_and, and_false, or_false, true_or, false_or]
theorem end_go {L : List Nat} {pl : D} (hL : L.length ≤ 16777216) : ∀ (l : List Nat) {p : Nat} {d : Int} {x : Option Sv}, L.drop p = l → NR x →
    match stopL d l with
    | some i => ∃ ρ', rfOf ρ' = [] ∧ forL (.n 3) ebody (upFrom (p : Int) l.length) [some (.d (.str (SX.S L))), some (.d pl), some (.d (.int d)), x] = .ret (.d (.int ((p + i : Nat) : Int))) ρ'
    | none => ∃ (d' : Int) (x' : Option Sv), NR x' ∧ forL (.n 3) ebody (upFrom (p : Int) l.length) [some (.d (.str (SX.S L))), some (.d pl), some (.d (.int d)), x] = .next [some (.d (.str (SX.S L))), some (.d pl), some (.d (.int d')), x']
  | [], p, d, x, h, hx => ⟨d, x, hx, rfl⟩
  | c :: l, p, d, x, h, hx => by
    have hc : L[p]? = some c := by
      have := congrArg List.head? h
      rw [List.head?_drop] at this
      exact this
    have hd : L.drop (p + 1) = l := by
      have : L.drop (p + 1) = (L.drop p).drop 1 := by rw [List.drop_drop]
      rw [this, h]
      rfl
    have eb := ebody_eq (L := L) (c := c) (p := p) (pl := pl) (d := d) hL hc
    have first : forL (.n 3) ebody (upFrom (p : Int) (c :: l).length) [some (.d (.str (SX.S L))), some (.d pl), some (.d (.int d)), x] = frS (.n 3) ebody (upFrom ((p + 1 : Nat) : Int) l.length) (ebody [some (.d (.str (SX.S L))), some (.d pl), some (.d (.int d)), some (.d (.int (p : Int)))]) := by
      rw [List.length_cons, up_cons, S.for_cons, S.bind_n, if_pos (show rfAt _ 3 = false from nr_rf hx [])]
      rfl
    unfold stopL
    by_cases hh : halt d c
    · rw [if_pos hh]
      rw [if_pos hh] at eb
      exact ⟨_, rfl, by rw [first, eb]; rfl⟩
    · rw [if_neg hh]
      rw [if_neg hh] at eb
      have ih := end_go (pl := pl) hL l (p := p + 1) (d := stp d c) (x := some (.d (.int (p : Int)))) hd (nr_d _)
      cases q : stopL (stp d c) l with
      | some i =>
        rw [q] at ih
        obtain ⟨ρ', h1, h2⟩ := ih
        refine ⟨ρ', h1, ?_⟩
        rw [first, eb, S.frS_n, h2]
        congr 3
        show ((p + 1 + i : Nat) : Int) = ((p + (i + 1) : Nat) : Int)
        omega
      | none =>
        rw [q] at ih
        obtain ⟨d', x', h1, h2⟩ := ih
        exact ⟨d', x', h1, by rw [first, eb, S.frS_n, h2]⟩
theorem sem24_eq {n : Nat} {L : List Nat} {p : Nat} (hn : 1 ≤ n) (hL : L.length ≤ 16777216) (hp : p ≤ L.length) : sem n 24 [.d (.str (SX.S L)), .d (.int (p : Int))] = .ok (.d (.int ((match stopL 0 (L.drop p) with | some i => p + i | none => L.length : Nat) : Int))) [] := by
  obtain ⟨n, rfl⟩ : ∃ m, n = m + 1 := ⟨n - 1, by omega⟩
  have g := end_go (L := L) (pl := .int (p : Int)) hL (L.drop p) (p := p) (d := 0) (x := none) rfl nr_n
  have hr : fRng2 (fVar 1) (fUn lenD (.n 0)) [some (.d (.str (SX.S L))), some (.d (.int (p : Int))), some (.d (.int 0)), none] = .ok (upFrom (p : Int) (L.drop p).length) [some (.d (.str (SX.S L))), some (.d (.int (p : Int))), some (.d (.int 0)), none] := by
    unfold fRng2
    simp_arith [S_len, hL]
    rw [if_pos ⟨by omega, by omega, by omega, by omega⟩]
    rw [List.length_drop]
    show RI.ok (upFrom (p : Int) ((L.length : Int) - (p : Int)).toNat) _ = _
    congr 2
    omega
  cases q : stopL 0 (L.drop p) with
  | some i =>
    rw [q] at g
    obtain ⟨ρ', h1, h2⟩ := g
    unfold ebody at h2
    simp only [sem_succ, bodyOf, fb24]
    simp_arith [hr, h2, h1]
  | none =>
    rw [q] at g
    obtain ⟨d', x', h1, h2⟩ := g
    unfold ebody at h2
    simp only [sem_succ, bodyOf, fb24]
    simp_arith [hr, h2, S_len, hL]
    rw [nr_of h1]
end K81
set_option maxHeartbeats 1000000
set_option exponentiation.threshold 10000
namespace K81
open Dl PySem PySem.NumText
theorem sl_rng {z : List Nat} {p e : Nat} (hz : z.length ≤ 16777216) (hp : p ≤ z.length) (he : e ≤ z.length) : slD (.str (SX.S z)) (some (p : Int)) (some (e : Int)) = some (.d (.str (SX.S ((z.drop p).take (e - p))))) := by
  unfold slD
  dsimp only
  rw [S_len, if_pos (by rw [sizeLine_eq]; exact hz)]
  unfold L2.cutS
  rw [S_len, HT.sIx_nat, HT.sIx_nat, Nat.min_eq_left hp, Nat.min_eq_left he]
theorem stop_lt : ∀ {l : List Nat} {d : Int} {i : Nat}, stopL d l = some i → ∃ c, l[i]? = some c ∧ i < l.length
  | [], d, i, h => by unfold stopL at h; cases h
  | c :: l, d, i, h => by
    unfold stopL at h
    split at h
    · cases h; exact ⟨c, rfl, by simp⟩
    · cases q : stopL (stp d c) l with
      | none => rw [q] at h; cases h
      | some j =>
        rw [q] at h
        cases h
        obtain ⟨c', h1, h2⟩ := stop_lt q
        exact ⟨c', by simpa using h1, by simp; omega⟩
/-- the law's entries -/
def entL : Nat → List Nat → Option (List (List Nat))
  | 0, _ => none
  | f + 1, l => match stopL 0 l with
    | none => some [l]
    | some i => if l[i]? = some 32 then (entL f (l.drop (i + 1))).map (l.take i :: ·) else none
def wcond : Ev → RT := fTest (fOp leD (.n 2) (.e (fUn lenD (.n 0))))
def wbody (n : Nat) : Ev → RS := (fSeq (fSet 3 (fCall (sem n 24) [.v (fVar 0), .v (fVar 2)]))
    (fSeq (fApp 1 (fSl (.n 0) (.e (fVar 2)) (.e (fVar 3))))
    (fSeq (fIf (fAndT (fTest (fOp ltD (.n 3) (.e (fUn lenD (.n 0))))) (fTest (fOp neD (.e (fOp ixD (.n 0) (.n 3))) (.e (fC (.str " "))))))
    (fRet (fLst [(fC (.str ""))]))
    fSkip)
    (fSet 2 (fOp addD (.n 3) (.e (fC (.int 1))))))))
theorem ent_go {n : Nat} {L : List Nat} (hn : 1 ≤ n) (hL : L.length < 16000000) : ∀ (f : Nat) {F p : Nat} {acc : List D} {x : Option Sv}, p ≤ L.length → L.length - p < f → f < F → acc.length + f < 16770000 → NR x →
    match entL f (L.drop p) with
    | some es => ∃ (y : Int) (x' : Option Sv), NR x' ∧ whileL wcond (wbody n) F [some (.d (.str (SX.S L))), some (.ow acc), some (.d (.int (p : Int))), x] = .next [some (.d (.str (SX.S L))), some (.ow (acc ++ es.map fun q => .str (SX.S q))), some (.d (.int y)), x']
    | none => ∃ ρ', rfOf ρ' = [] ∧ whileL wcond (wbody n) F [some (.d (.str (SX.S L))), some (.ow acc), some (.d (.int (p : Int))), x] = .ret (.ow [.str (SX.S [])]) ρ'
  | 0, F, p, acc, x, hp, hf, hF, ha, hx => by omega
  | f + 1, F, p, acc, x, hp, hf, hF, ha, hx => by
    obtain ⟨F, rfl⟩ : ∃ m, F = m + 1 := ⟨F - 1, by omega⟩
    have e24 := sem24_eq (n := n) (L := L) (p := p) hn (by omega) hp
    have hc : (p : Int) ≤ (L.length : Int) := by omega
    have rx := nr_rf hx
    have l_e : (("" : String) : Str) = SX.S [] := by kernel_rfl
    have hla : acc.length < 16777216 := by omega
    have hLL : L.length ≤ 16777216 := by omega
    have cn : wcond [some (.d (.str (SX.S L))), some (.ow acc), some (.d (.int (p : Int))), x] = .ok true [some (.d (.str (SX.S L))), some (.ow acc), some (.d (.int (p : Int))), x] := by
      unfold wcond
      simp_arith [S_len, hLL, hc]
    unfold entL
    cases q : stopL 0 (L.drop p) with
    | none =>
      rw [q] at e24
      have e24 : sem n 24 [.d (.str (SX.S L)), .d (.int (p : Int))] = .ok (.d (.int (L.length : Int))) [] := e24
      have sl := sl_rng (z := L) (p := p) (e := L.length) (by omega) hp (Nat.le_refl _)
      rw [List.take_of_length_le (by rw [List.length_drop]; exact Nat.le_refl _)] at sl
      have hlt : ¬ (L.length : Int) < (L.length : Int) := by omega
      refine ⟨(L.length : Int) + 1, some (.d (.int (L.length : Int))), nr_d _, ?_⟩
      have body : wbody n [some (.d (.str (SX.S L))), some (.ow acc), some (.d (.int (p : Int))), x] = .next [some (.d (.str (SX.S L))), some (.ow (acc ++ [.str (SX.S (L.drop p))])), some (.d (.int ((L.length : Int) + 1))), some (.d (.int (L.length : Int)))] := by
        unfold wbody
        simp_arith [e24, sl, rx, hla, S_len, hLL, hlt]
      have cn2 : wcond [some (.d (.str (SX.S L))), some (.ow (acc ++ [.str (SX.S (L.drop p))])), some (.d (.int ((L.length : Int) + 1))), some (.d (.int (L.length : Int)))] = .ok false [some (.d (.str (SX.S L))), some (.ow (acc ++ [.str (SX.S (L.drop p))])), some (.d (.int ((L.length : Int) + 1))), some (.d (.int (L.length : Int)))] := by
        have h : ¬ (L.length : Int) + 1 ≤ (L.length : Int) := by omega
        unfold wcond
        simp_arith [S_len, hLL, h]
      obtain ⟨F, rfl⟩ : ∃ m, F = m + 1 := ⟨F - 1, by omega⟩
      rw [S.while_s, cn, S.whK_t, body, S.whN_n, S.while_s, cn2, S.whK_f]
      rfl
    | some i =>
      rw [q] at e24
      have e24 : sem n 24 [.d (.str (SX.S L)), .d (.int (p : Int))] = .ok (.d (.int ((p + i : Nat) : Int))) [] := e24
      obtain ⟨c, hc1, hc2⟩ := stop_lt q
      rw [List.length_drop] at hc2
      have hci : L[p + i]? = some c := by rw [List.getElem?_drop] at hc1; exact hc1
      have sl := sl_rng (z := L) (p := p) (e := p + i) (by omega) hp (by omega)
      rw [Nat.add_sub_cancel_left] at sl
      have hlt : ((p + i : Nat) : Int) < (L.length : Int) := by omega
      have i0 : ixD (.str (SX.S L)) (.int ((p + i : Nat) : Int)) = some (.d (.str (SX.S [c]))) := ix_one hLL (i := p + i) rfl hci
      dsimp only
      by_cases h32 : c = 32
      · subst h32
        rw [if_pos hc1]
        have body : wbody n [some (.d (.str (SX.S L))), some (.ow acc), some (.d (.int (p : Int))), x] = .next [some (.d (.str (SX.S L))), some (.ow (acc ++ [.str (SX.S ((L.drop p).take i))])), some (.d (.int (((p + i : Nat) : Int) + 1))), some (.d (.int ((p + i : Nat) : Int)))] := by
          unfold wbody
          simp_arith [e24, sl, rx, hla, S_len, hLL, hlt, i0, l_b, SX.S_beq_eq]
        have hd : (L.drop p).drop (i + 1) = L.drop (p + i + 1) := by rw [List.drop_drop]; rfl
        have ih := ent_go (n := n) (L := L) hn hL f (F := F) (p := p + i + 1) (acc := acc ++ [.str (SX.S ((L.drop p).take i))]) (x := some (.d (.int ((p + i : Nat) : Int)))) (by omega) (by omega) (by omega) (by simp; omega) (nr_d _)
        have hcast : (((p + i : Nat) : Int) + 1) = ((p + i + 1 : Nat) : Int) := by omega
        rw [hd]
        cases qe : entL f (L.drop (p + i + 1)) with
        | none =>
          rw [qe] at ih
          obtain ⟨ρ', h1, h2⟩ := ih
          refine ⟨ρ', h1, ?_⟩
          rw [S.while_s, cn, S.whK_t, body, S.whN_n, hcast]
          exact h2
        | some es =>
          rw [qe] at ih
          obtain ⟨y, x', h1, h2⟩ := ih
          refine ⟨y, x', h1, ?_⟩
          rw [S.while_s, cn, S.whK_t, body, S.whN_n, hcast, h2, List.append_assoc]
          rfl
      · rw [if_neg (fun z => h32 (by rw [hc1] at z; exact Option.some.inj z))]
        have h32' : ¬ ([c] = [32]) := fun z => h32 (by cases z; rfl)
        have body : ∃ ρ', rfOf ρ' = [] ∧ wbody n [some (.d (.str (SX.S L))), some (.ow acc), some (.d (.int (p : Int))), x] = .ret (.ow [.str (SX.S [])]) ρ' := by
          refine ⟨[some (.d (.str (SX.S L))), some (.ow (acc ++ [.str (SX.S ((L.drop p).take i))])), some (.d (.int (p : Int))), some (.d (.int ((p + i : Nat) : Int)))], rfl, ?_⟩
          unfold wbody
          simp_arith [e24, sl, rx, hla, S_len, hLL, hlt, i0, l_b, l_e, SX.S_beq_eq, h32']
        obtain ⟨ρ', h1, h2⟩ := body
        refine ⟨ρ', h1, ?_⟩
        rw [S.while_s, cn, S.whK_t, h2]
        rfl
def ents (L : List Nat) : List (List Nat) := (entL (L.length + 1) L).getD [[]]
theorem sem25_eq {n : Nat} {L : List Nat} (hn : 2 ≤ n) (hL : L.length < 90000) : sem n 25 [.d (.str (SX.S L))] = .ok (.ow ((ents L).map fun q => .str (SX.S q))) [] := by
  obtain ⟨n, rfl⟩ : ∃ m, n = m + 1 := ⟨n - 1, by omega⟩
  have g := ent_go (n := n) (L := L) (by omega) (by omega) (L.length + 1) (F := fuel) (p := 0) (acc := []) (x := none) (by omega) (by omega) (by show _ < 100000; omega) (by simp; omega) nr_n
  rw [List.drop_zero] at g
  unfold ents
  cases q : entL (L.length + 1) L with
  | none =>
    rw [q] at g
    obtain ⟨ρ', h1, h2⟩ := g
    unfold wcond wbody at h2
    rw [S.cast0] at h2
    simp only [sem_succ, bodyOf, fb25]
    simp_arith [h2, h1, Option.getD_none]
  | some es =>
    rw [q] at g
    obtain ⟨y, x', h1, h2⟩ := g
    unfold wcond wbody at h2
    rw [S.cast0, List.nil_append] at h2
    generalize hm : es.map (fun q => (.str (SX.S q) : D)) = m at h2
    simp only [sem_succ, bodyOf, fb25]
    simp_arith [h2, Option.getD_some, hm]
    rw [nr_of h1]
/-! ### what the entries are -/
theorem ent_ne : ∀ {f : Nat} {l : List Nat} {es : List (List Nat)}, entL f l = some es → es ≠ []
  | 0, l, es, h => by unfold entL at h; cases h
  | f + 1, l, es, h => by
    unfold entL at h
    split at h
    · cases h; simp
    · split at h
      · rename_i i _ _
        cases q : entL f (l.drop (i + 1)) with
        | none => rw [q] at h; cases h
        | some ys => rw [q] at h; cases h; simp
      · cases h
theorem ent_join : ∀ {f : Nat} {l : List Nat} {es : List (List Nat)}, entL f l = some es → TL.joinL [32] es = l
  | 0, l, es, h => by unfold entL at h; cases h
  | f + 1, l, es, h => by
    unfold entL at h
    split at h
    · cases h; rfl
    · rename_i i hi
      split at h
      · rename_i h32
        cases q : entL f (l.drop (i + 1)) with
        | none => rw [q] at h; cases h
        | some ys =>
          rw [q] at h
          cases h
          have ih := ent_join q
          have hne := ent_ne q
          obtain ⟨c, hc, hlt⟩ := stop_lt hi
          cases ys with
          | nil => exact absurd rfl hne
          | cons y ys =>
            rw [join_cons, ih]
            have e1 : l.drop i = 32 :: l.drop (i + 1) := by
              rw [List.drop_eq_getElem_cons hlt]
              congr 1
              rw [List.getElem?_eq_getElem hlt] at h32
              exact Option.some.inj h32
            rw [← e1, List.take_append_drop]
      · cases h
theorem stop_wk : ∀ {p : List Nat} {d e : Nat} (r : List Nat), wk d p = some e → stopL (d : Int) (p ++ r) = (stopL (e : Int) r).map (· + p.length)
  | [], d, e, r, h => by
    cases h
    show stopL (d : Int) r = _
    cases stopL (d : Int) r <;> rfl
  | c :: p, d, e, r, h => by
    have step : ∀ {d' : Nat}, stp (d : Int) c = (d' : Int) → ¬ halt (d : Int) c → wk d' p = some e → stopL (d : Int) ((c :: p) ++ r) = (stopL (e : Int) r).map (· + (c :: p).length) := fun {d'} h1 h2 h3 => by
      rw [List.cons_append, stopL, if_neg h2, h1, stop_wk r h3]
      cases stopL (e : Int) r with
      | none => rfl
      | some j => show some _ = some _; congr 1
    rw [wk] at h
    split at h
    · rename_i h1
      split at h
      · refine step (d' := d + 1) ?_ ?_ h
        · unfold stp; rw [if_pos h1, if_neg (by omega)]; omega
        · unfold halt stp; rw [if_pos h1, if_neg (by omega)]; omega
      · cases h
    · rename_i h1
      split at h
      · rename_i h2
        split at h
        · refine step (d' := d - 1) ?_ ?_ h
          · unfold stp; rw [if_neg h1, if_pos h2]; omega
          · unfold halt stp; rw [if_neg h1, if_pos h2]; omega
        · cases h
      · rename_i h2
        split at h
        · rename_i h3
          split at h
          · refine step (d' := d) ?_ ?_ h
            · unfold stp; rw [if_neg h1, if_neg h2]; omega
            · unfold halt stp; rw [if_neg h1, if_neg h2]; omega
          · cases h
        · rename_i h3
          refine step (d' := d) ?_ ?_ h
          · unfold stp; rw [if_neg h1, if_neg h2]; omega
          · unfold halt stp; rw [if_neg h1, if_neg h2]; omega
theorem ent_ok : ∀ {ps : List (List Nat)} {p : List Nat} {f : Nat}, (∀ q ∈ p :: ps, wk 0 q = some 0) → (TL.joinL [32] (p :: ps)).length < f → entL f (TL.joinL [32] (p :: ps)) = some (p :: ps)
  | [], p, f, hw, hf => by
    obtain ⟨f, rfl⟩ : ∃ m, f = m + 1 := ⟨f - 1, by omega⟩
    have h := stop_wk (p := p) [] (hw p List.mem_cons_self)
    rw [List.append_nil] at h
    have h : stopL 0 p = none := h
    show entL (f + 1) p = some [p]
    unfold entL
    rw [h]
  | q :: ps, p, f, hw, hf => by
    obtain ⟨f, rfl⟩ : ∃ m, f = m + 1 := ⟨f - 1, by omega⟩
    rw [join_cons] at hf ⊢
    have h := stop_wk (p := p) (32 :: TL.joinL [32] (q :: ps)) (hw p List.mem_cons_self)
    have h0 : stopL ((0 : Nat) : Int) (32 :: TL.joinL [32] (q :: ps)) = some 0 := by
      unfold stopL
      rw [if_pos (by unfold halt stp; decide)]
    rw [h0] at h
    have h : stopL 0 (p ++ 32 :: TL.joinL [32] (q :: ps)) = some p.length := by
      have h : stopL 0 (p ++ 32 :: TL.joinL [32] (q :: ps)) = some (0 + p.length) := h
      rw [h, Nat.zero_add]
    have ih := ent_ok (ps := ps) (p := q) (f := f) (fun x hx => hw x (List.mem_cons_of_mem _ hx)) (by rw [List.length_append, List.length_cons] at hf; omega)
    unfold entL
    rw [h]
    show (if (p ++ 32 :: TL.joinL [32] (q :: ps))[p.length]? = some 32 then _ else none) = _
    rw [if_pos (by simp)]
    have e1 : (p ++ 32 :: TL.joinL [32] (q :: ps)).drop (p.length + 1) = TL.joinL [32] (q :: ps) := by
      rw [List.drop_append, List.drop_of_length_le (by omega)]
      simp
    rw [e1, ih, List.take_left]
    rfl
end K81
set_option maxHeartbeats 2000000
set_option exponentiation.threshold 10000
namespace K81
open Dl PySem PySem.NumText
def oD : Option F → D | some f => f.d | none => .none
theorem so_n : PyData.strOk "num" = true := by decide +kernel
theorem so_o : PyData.strOk "worth" = true := by decide +kernel
theorem so_w (w : W2) : PyData.strOk w.s = true := by cases w <;> decide +kernel
theorem so_p : PyData.strOk "pick" = true := by decide +kernel
theorem so_t : PyData.strOk "times" = true := by decide +kernel
theorem so_r : PyData.strOk "rest" = true := by decide +kernel
theorem lay_d : ∀ t : F, PyData.canLay0 t.d = true ∧ PyData.depth t.d ≤ t.deep + 1
  | .num i => by simp [F.d, PyData.canLay0, PyData.canLayAll0, PyData.depth, PyData.depthAll, so_n, so_o]
  | .wor a b => by simp [F.d, PyData.canLay0, PyData.canLayAll0, PyData.depth, PyData.depthAll, so_n, so_o]
  | .two w a b => by
    obtain ⟨h1, h2⟩ := lay_d a
    obtain ⟨h3, h4⟩ := lay_d b
    simp [F.d, PyData.canLay0, PyData.canLayAll0, PyData.depth, PyData.depthAll, so_w, so_p, so_t, so_r, h1, h3, F.deep]
    omega
  | .pick a b c => by
    obtain ⟨h1, h2⟩ := lay_d a
    obtain ⟨h3, h4⟩ := lay_d b
    obtain ⟨h5, h6⟩ := lay_d c
    simp [F.d, PyData.canLay0, PyData.canLayAll0, PyData.depth, PyData.depthAll, so_w, so_p, so_t, so_r, h1, h3, h5, F.deep]
    omega
  | .times k a => by
    obtain ⟨h1, h2⟩ := lay_d a
    simp [F.d, PyData.canLay0, PyData.canLayAll0, PyData.depth, PyData.depthAll, so_w, so_p, so_t, so_r, h1, F.deep]
    omega
  | .rest k a => by
    obtain ⟨h1, h2⟩ := lay_d a
    simp [F.d, PyData.canLay0, PyData.canLayAll0, PyData.depth, PyData.depthAll, so_w, so_p, so_t, so_r, h1, F.deep]
    omega
theorem lay_all : ∀ os : List (Option F), (∀ f, some f ∈ os → f.deep ≤ 10) → PyData.canLayAll0 (os.map oD) = true ∧ PyData.depthAll (os.map oD) ≤ 20
  | [], _ => by simp [PyData.canLayAll0, PyData.depthAll]
  | o :: os, h => by
    obtain ⟨h1, h2⟩ := lay_all os fun f hf => h f (List.mem_cons_of_mem _ hf)
    cases o with
    | none => simp [oD, PyData.canLayAll0, PyData.canLay0, PyData.depthAll, PyData.depth, h1, h2]
    | some f =>
      obtain ⟨h3, h4⟩ := lay_d f
      have := h f List.mem_cons_self
      simp [oD, PyData.canLayAll0, PyData.depthAll, h1, h2, h3]
      omega
theorem eqv_d (t : F) : PyData.eqv t.d .none = false := by cases t <;> simp [F.d, PyData.eqv]
theorem none_in {os : List (Option F)} (h : ∀ f, some f ∈ os → f.deep ≤ 10) : inD .none (.list (os.map oD)) = some (.d (.bool (os.any (·.isNone)))) := by
  obtain ⟨h1, h2⟩ := lay_all os h
  have s1 : SeqAt.shaped .none = true := by decide +kernel
  have s2 : SeqAt.shaped (.list (os.map oD)) = true := by
    simp [SeqAt.shaped, PyData.canLay0, PyData.depth, h1]
    omega
  have e : inB .none (.list (os.map oD)) = some ((os.map oD).any fun z => PyData.eqv z .none) := by
    show (if SeqAt.shaped .none && SeqAt.shaped (.list (os.map oD)) then _ else none) = _
    rw [s1, s2]
    rfl
  unfold inD
  rw [e]
  have e2 : ∀ os : List (Option F), ((os.map oD).any fun z => PyData.eqv z .none) = os.any (·.isNone) := by
    intro os
    induction os with
    | nil => rfl
    | cons o os ih =>
      rw [List.map_cons, List.any_cons, List.any_cons, ih]
      congr 1
      cases o with
      | none => simp [oD, PyData.eqv]
      | some f => exact eqv_d f
  rw [e2]
  rfl
/-- a piece that a walk from depth 0 leaves at the blank behind it -/
def bal (p : List Nat) : Prop := stopL 0 (p ++ [32]) = some p.length
def flat (ps : List (List Nat)) : List Nat := ps.flatMap fun p => p ++ [32]
def known (w : List Nat) : Prop := (∃ x : W2, w = x.l) ∨ w = pickL ∨ w = timesL ∨ w = restL
/-- no bracket of an unknown word with nine entries -/
def NoNine (L : List Nat) : Prop := ∀ (A B : List Nat) (p : List Nat) (ps : List (List Nat)), L = A ++ 40 :: (flat (p :: ps) ++ B) → ps.length = 8 → (∀ q ∈ p :: ps, bal q) → known p
theorem NoNine.sub {L X M Y : List Nat} (h : NoNine L) (e : L = X ++ (M ++ Y)) : NoNine M := fun A B p ps e2 hl hb => h (X ++ A) (B ++ Y) p ps (by rw [e, e2]; simp) hl hb
theorem stop_pre : ∀ {p r : List Nat} {d : Int} {i : Nat}, stopL d (p ++ r) = some i → i < p.length → stopL d p = some i
  | [], r, d, i, h, hi => by simp at hi
  | c :: p, r, d, i, h, hi => by
    rw [List.cons_append, stopL] at h
    rw [stopL]
    by_cases hh : halt d c
    · rw [if_pos hh] at h ⊢; exact h
    · rw [if_neg hh] at h ⊢
      cases q : stopL (stp d c) (p ++ r) with
      | none => rw [q] at h; cases h
      | some j =>
        rw [q] at h
        cases h
        rw [stop_pre q (by simp at hi; omega)]
        rfl
theorem stop_pre2 : ∀ {p r : List Nat} {d : Int} {i : Nat}, stopL d p = some i → stopL d (p ++ r) = some i
  | [], r, d, i, h => by unfold stopL at h; cases h
  | c :: p, r, d, i, h => by
    rw [List.cons_append, stopL]
    rw [stopL] at h
    by_cases hh : halt d c
    · rw [if_pos hh] at h ⊢; exact h
    · rw [if_neg hh] at h ⊢
      cases q : stopL (stp d c) p with
      | none => rw [q] at h; cases h
      | some j =>
        rw [q] at h
        cases h
        rw [stop_pre2 q]
        rfl
theorem ent_flat : ∀ {f : Nat} {l : List Nat} {es : List (List Nat)}, entL f l = some es → ∃ (ps : List (List Nat)) (z : List Nat), es = ps ++ [z] ∧ l = flat ps ++ z ∧ ∀ p ∈ ps, bal p
  | 0, l, es, h => by unfold entL at h; cases h
  | f + 1, l, es, h => by
    unfold entL at h
    split at h
    · cases h; exact ⟨[], l, rfl, rfl, fun _ h => nomatch h⟩
    · rename_i i hi
      split at h
      · rename_i h32
        cases q : entL f (l.drop (i + 1)) with
        | none => rw [q] at h; cases h
        | some ys =>
          rw [q] at h
          cases h
          obtain ⟨ps, z, e1, e2, e3⟩ := ent_flat q
          obtain ⟨c, hc, hlt⟩ := stop_lt hi
          have hd : l.drop i = 32 :: l.drop (i + 1) := by
            rw [List.drop_eq_getElem_cons hlt]
            congr 1
            rw [List.getElem?_eq_getElem hlt] at h32
            exact Option.some.inj h32
          refine ⟨l.take i :: ps, z, by rw [e1]; rfl, ?_, fun p hp => ?_⟩
          · show l = ((l.take i ++ [32]) ++ flat ps) ++ z
            rw [List.append_assoc, ← e2, List.append_assoc]
            show l = l.take i ++ (32 :: l.drop (i + 1))
            rw [← hd, List.take_append_drop]
          · rcases List.mem_cons.mp hp with rfl | hp
            · unfold bal
              have hl : (l.take i).length = i := by rw [List.length_take]; omega
              have e4 : l = (l.take i ++ [32]) ++ l.drop (i + 1) := by
                rw [List.append_assoc]
                show l = l.take i ++ (32 :: l.drop (i + 1))
                rw [← hd, List.take_append_drop]
              rw [hl]
              have hi2 := hi
              rw [e4] at hi2
              exact stop_pre hi2 (by rw [List.length_append, hl]; simp)
            · exact e3 p hp
      · cases h
end K81
set_option maxHeartbeats 2000000
set_option exponentiation.threshold 10000
namespace K81
open Dl PySem PySem.NumText
abbrev tb9 : List (Str × Int) := [("sum", 2), ("less", 2), ("least", 2), ("greatest", 2), ("times", 1), ("rest", 1), ("pick", 3)]
theorem dg_w (x : W2) : dgetD tb9 9 (.str (SX.S x.l)) = some (.d (.int 2)) := by cases x <;> kernel_rfl
theorem dg_p : dgetD tb9 9 (.str (SX.S pickL)) = some (.d (.int 3)) := by kernel_rfl
theorem dg_t : dgetD tb9 9 (.str (SX.S timesL)) = some (.d (.int 1)) := by kernel_rfl
theorem dg_r : dgetD tb9 9 (.str (SX.S restL)) = some (.d (.int 1)) := by kernel_rfl
theorem dg_bad {w : List Nat} (h : ¬ known w) : dgetD tb9 9 (.str (SX.S w)) = some (.d (.int 9)) := by
  have h1 : ¬ w = W2.sum.l := fun e => h (.inl ⟨_, e⟩)
  have h2 : ¬ w = W2.less.l := fun e => h (.inl ⟨_, e⟩)
  have h3 : ¬ w = W2.least.l := fun e => h (.inl ⟨_, e⟩)
  have h4 : ¬ w = W2.greatest.l := fun e => h (.inl ⟨_, e⟩)
  have h5 : ¬ w = pickL := fun e => h (.inr (.inl e))
  have h6 : ¬ w = timesL := fun e => h (.inr (.inr (.inl e)))
  have h7 : ¬ w = restL := fun e => h (.inr (.inr (.inr e)))
  have e : tb9.lookup (SX.S w) = none := by
    simp only [tb9, List.lookup_cons, z_su, z_le, z_la, z_gr, ps, ts, rs, SX.S_beq_eq, h1, h2, h3, h4, h5, h6, h7, decide_false, List.lookup_nil]
  show some (Sv.d (PyData.int ((tb9.lookup (SX.S w)).getD 9))) = _
  rw [e]
  rfl
theorem is_i {i : Int} : Dl.isD (.int i) .none = some (.d (.bool false)) := rfl
theorem is_n : Dl.isD .none .none = some (.d (.bool true)) := rfl
theorem is_d (t : F) : Dl.isD t.d .none = some (.d (.bool false)) := by cases t <;> rfl
theorem x_nt (x : W2) : ¬ x.l = timesL := by cases x <;> decide
theorem x_nr (x : W2) : ¬ x.l = restL := by cases x <;> decide
theorem p_nt : ¬ pickL = timesL := by decide
theorem p_nr : ¬ pickL = restL := by decide
theorem r_nt : ¬ restL = timesL := by decide
theorem sl_1 {x : D} {l : List D} : slD (.list (x :: l)) none (some 1) = some (.ow [x]) := by
  have h : cutL (x :: l) none (some 1) = [x] := by
    unfold cutL
    simp [HT.sIx]
  show some (Sv.ow (cutL (x :: l) none (some 1))) = _
  rw [h]
theorem slL2 {x y : D} {l : List D} : slD (.list (x :: y :: l)) (some 2) none = some (.ow l) := by
  have h := sl2 (x := x) (y := y) (l := l)
  have e : cutL (x :: y :: l) (some 2) none = l := by
    have h : some (Sv.d (.tuple (cutL (x :: y :: l) (some 2) none))) = some (Sv.d (.tuple l)) := h
    injection h with h
    injection h with h
    injection h
  show some (Sv.ow (cutL (x :: y :: l) (some 2) none)) = _
  rw [e]
theorem last_ix {t : List Nat} {z : Nat} (h : (t ++ [z]).length ≤ 16777216) : ixD (.str (SX.S (t ++ [z]))) (.int (-1)) = some (.d (.str (SX.S [z]))) := by
  unfold ixD
  dsimp only
  rw [S_len, if_pos (by rw [sizeLine_eq]; exact h)]
  show (L2.atI (t ++ [z]) _).map _ = _
  have e : L2.atI (t ++ [z]) (-1) = some z := by
    unfold L2.atI L2.ixN
    rw [if_neg (by decide), if_pos (by simp; omega)]
    show (t ++ [z])[((-1 : Int) + ((t ++ [z]).length : Int)).toNat]? = _
    rw [show ((-1 : Int) + ((t ++ [z]).length : Int)).toNat = t.length by simp; omega]
    simp
  rw [e]
  rfl
def InR (n dp : Nat) (L : List Nat) : Prop := ∃ o : Option F, sem n 27 [.d (.str (SX.S L)), .d (.int (dp : Int))] = .ok (.d (oD o)) [] ∧ ∀ f, o = some f → f.ok ∧ dp + f.deep ≤ 5 ∧ L = f.txt
theorem recsL {n dp : Nat} {a0 a2 a3 a4 a5 a6 a7 a8 : Option Sv} (ih : ∀ q : List Nat, q.length < 80000 → NoNine q → InR n (dp + 1) q) :
    ∀ qs : List (List Nat), (∀ q ∈ qs, q.length < 80000 ∧ NoNine q) →
      ∃ os : List (Option F), os.length = qs.length ∧ (∀ f, some f ∈ os → f.ok ∧ dp + 1 + f.deep ≤ 5) ∧ (∀ fs : List F, os = fs.map some → qs = fs.map F.txt) ∧ lcL [9] (.n 9) fYes (fCall (sem n 27) [.v (fVar 9), .v (fOp addD (.n 1) (.e (fC (.int 1))))]) (qs.map fun q => .str (SX.S q)) [a0, some (.d (.int (dp : Int))), a2, a3, a4, a5, a6, a7, a8, none] = some (os.map oD, [a0, some (.d (.int (dp : Int))), a2, a3, a4, a5, a6, a7, a8, none])
  | [], _ => ⟨[], rfl, (fun _ h => nomatch h), (fun fs h => by cases fs with | nil => rfl | cons _ _ => simp at h), rfl⟩
  | q :: qs, hl => by
    obtain ⟨o, e0, h0⟩ := ih q (hl q List.mem_cons_self).1 (hl q List.mem_cons_self).2
    obtain ⟨os, r1, r2, r3, er⟩ := recsL (a0 := a0) (a2 := a2) (a3 := a3) (a4 := a4) (a5 := a5) (a6 := a6) (a7 := a7) (a8 := a8) ih qs fun x hx => hl x (List.mem_cons_of_mem _ hx)
    have g : (dp : Int) + 1 = ((dp + 1 : Nat) : Int) := by omega
    refine ⟨o :: os, by simp [r1], fun f hf => ?_, fun fs hf => ?_, ?_⟩
    · rcases List.mem_cons.mp hf with e | hf
      · have := h0 f e.symm
        exact ⟨this.1, this.2.1⟩
      · exact r2 f hf
    · cases fs with
      | nil => simp at hf
      | cons f fs =>
        simp only [List.map_cons, List.cons.injEq] at hf
        rw [List.map_cons, ← (h0 f hf.1).2.2, r3 fs hf.2]
    · simp_arith [g, e0, er]
theorem all_some {os : List (Option F)} (h : os.any (·.isNone) = false) : ∃ fs : List F, os = fs.map some := by
  induction os with
  | nil => exact ⟨[], rfl⟩
  | cons o os ih =>
    rw [List.any_cons, Bool.or_eq_false_iff] at h
    obtain ⟨fs, rfl⟩ := ih h.2
    cases o with
    | none => simp at h
    | some f => exact ⟨f :: fs, rfl⟩
theorem oD_map (fs : List F) : (fs.map some).map oD = fs.map F.d := by
  rw [List.map_map]
  rfl
end K81
set_option maxHeartbeats 4000000
set_option exponentiation.threshold 10000
namespace K81
open Dl PySem PySem.NumText
theorem eqT {w : List Nat} : (SX.S w == ("times" : Str)) = decide (w = timesL) := by rw [ts, SX.S_beq_eq]
theorem eqR {w : List Nat} : (SX.S w == ("rest" : Str)) = decide (w = restL) := by rw [rs, SX.S_beq_eq]
theorem l_e : (("" : String) : Str) = SX.S [] := by kernel_rfl
theorem join_sub {w : List Nat} : ∀ {ws : List (List Nat)}, ∀ q ∈ w :: ws, ∃ X Y, TL.joinL [32] (w :: ws) = X ++ (q ++ Y)
  | [], q, h => by
    rw [List.mem_singleton] at h; subst h; exact ⟨[], [], by simp [TL.joinL]⟩
  | x :: xs, q, h => by
    rw [join_cons]
    rcases List.mem_cons.mp h with rfl | h
    · exact ⟨[], 32 :: TL.joinL [32] (x :: xs), rfl⟩
    · obtain ⟨X, Y, e⟩ := join_sub (w := x) (ws := xs) q h
      exact ⟨w ++ 32 :: X, Y, by rw [e]; simp⟩
theorem drop_last {r : List Nat} {t : List Nat} {z : Nat} (h : 40 :: r = t ++ [z]) (hr : r ≠ []) : r = r.dropLast ++ [z] := by
  obtain ⟨u, c, rfl⟩ := snoc_of hr
  rw [List.dropLast_concat]
  have h2 := congrArg List.reverse h
  simp at h2
  rw [h2.1]
theorem sl_in {r : List Nat} (hl : (40 :: r).length ≤ 16777216) : slD (.str (SX.S (40 :: r))) (some 1) (some (-1)) = some (.d (.str (SX.S r.dropLast))) := by
  cases r with
  | nil => kernel_rfl
  | cons c r =>
    rw [sl_mid hl (by simp), List.dropLast_eq_take]
    rfl
/-- a bracketed text -/
theorem in_br {n j dp : Nat} {r : List Nat} (hj4 : dp + j = 4) (hd1 : 1 ≤ dp) (hn : 4 ≤ n) (hl : (40 :: r).length < 80000) (hN : NoNine (40 :: r)) (ih : 1 ≤ j → ∀ q : List Nat, q.length < 80000 → NoNine q → InR n (dp + 1) q) : InR (n + 1) dp (40 :: r) := by
  have hL : (40 :: r).length ≤ 16777216 := by omega
  have s1 := sl_to (z := 40 :: r) (k := 1) hL
  simp only [List.take_succ_cons, List.take_zero, S.cast1] at s1
  have s3 := sl_in hL
  have hM : r.dropLast.length < 90000 := by rw [List.length_dropLast]; simp at hl; omega
  have e25 := sem25_eq (n := n) (L := r.dropLast) (by omega) hM
  obtain ⟨t, z, etz⟩ := snoc_of (l := 40 :: r) (by simp)
  have lx := last_ix (t := t) (z := z) (by rw [← etz]; exact hL)
  rw [← etz] at lx
  obtain ⟨w, ws, hes, hjn⟩ : ∃ w ws, ents r.dropLast = w :: ws ∧ ((w = [] ∧ ws = []) ∨ entL (r.dropLast.length + 1) r.dropLast = some (w :: ws)) := by
    unfold ents
    cases q : entL (r.dropLast.length + 1) r.dropLast with
    | none => exact ⟨[], [], rfl, .inl ⟨rfl, rfl⟩⟩
    | some es =>
      cases es with
      | nil => exact absurd rfl (ent_ne q)
      | cons w ws => exact ⟨w, ws, rfl, .inr rfl⟩
  have hjoin : ws ≠ [] → TL.joinL [32] (w :: ws) = r.dropLast := fun h => by
    rcases hjn with ⟨_, h2⟩ | h2
    · exact absurd h2 h
    · exact ent_join h2
  have hrne : ws ≠ [] → r ≠ [] := fun h e => by
    have := hjoin h
    rw [e] at this
    cases ws with
    | nil => exact h rfl
    | cons x xs => rw [join_cons] at this; simp at this
  have hsub : ∀ q ∈ ws, q.length < 80000 ∧ NoNine q := fun q hq => by
    have hne : ws ≠ [] := fun e => by rw [e] at hq; cases hq
    obtain ⟨X, Y, e⟩ := join_sub (w := w) (ws := ws) q (List.mem_cons_of_mem _ hq)
    rw [hjoin hne] at e
    have er := drop_last etz (hrne hne)
    have e2 : 40 :: r = (40 :: X) ++ (q ++ (Y ++ [z])) := by
      rw [er, e]; simp
    refine ⟨?_, hN.sub e2⟩
    have := congrArg List.length e2
    rw [List.length_append, List.length_append] at this
    omega
  have hwl : ((ws.map fun q => (.str (SX.S q) : D)).length) = ws.length := List.length_map _
  have hws : ws.length < 90000 := by
    by_cases h : ws = []
    · rw [h]; decide
    · have hcount : ∀ {x : List Nat} {xs : List (List Nat)}, xs.length ≤ (TL.joinL [32] (x :: xs)).length := by
        intro x xs
        induction xs generalizing x with
        | nil => exact Nat.zero_le _
        | cons y ys ihc =>
          rw [join_cons, List.length_append, List.length_cons, List.length_cons]
          have := ihc (x := y)
          omega
      have := hcount (x := w) (xs := ws)
      rw [hjoin h] at this
      omega
  have hws2 : ws.length ≤ 16777216 := by omega
  have hws3 : ws.length + 1 ≤ 16777216 := by omega
  have hws4 : ws.length + 1 + 2 ≤ 16777216 := by omega
  by_cases hk : known w
  · rcases hk with ⟨x, rfl⟩ | rfl | rfl | rfl
    · -- two
      by_cases hlen : ws.length = 2
      · have g : ((ws.length : Nat) : Int) = 2 := by omega
        by_cases hd4 : dp = 4
        · have g4 : (dp : Int) = 4 := by omega
          refine ⟨none, ?_, fun _ h => nomatch h⟩
          simp only [sem_succ, bodyOf, fb27]
          simp_arith [hL, s1, s3, e25, hes, l_at, l_o, l_c, l_e, SX.S_beq_eq, List.cons.injEq, false_and, neg1, eqT, eqR, sl_1, lx, dg_w, x_nt, x_nr, slL1, hwl, hws2, hws3, g, g4, oD]
        · have g4 : ¬ (dp : Int) = 4 := by omega
          by_cases hz : z = 41
          · have hz' : ([z] : List Nat) = [41] := by rw [hz]
            obtain ⟨os, r1, r2, r3, er⟩ := recsL (n := n) (dp := dp) (a0 := some (.d (.str (SX.S (40 :: r))))) (a2 := none) (a3 := some (.ow (.str (SX.S x.l) :: ws.map fun q => .str (SX.S q)))) (a4 := some (.d (.int 2))) (a5 := some (.ow [.str (SX.S x.l)])) (a6 := none) (a7 := some (.d (.list (ws.map fun q => .str (SX.S q))))) (a8 := none) (ih (by omega)) ws hsub
            have hol : (os.map oD).length ≤ 16777216 := by rw [List.length_map, r1]; exact hws2
            have hol2 : os.length + 1 ≤ 16777216 := by rw [r1]; exact hws3
            have hol3 : os.length ≤ 16777216 := by rw [r1]; exact hws2
            have ni := none_in (os := os) fun f hf => by have := (r2 f hf).2; omega
            cases hany : os.any (·.isNone) with
            | true =>
              rw [hany] at ni
              refine ⟨none, ?_, fun _ h => nomatch h⟩
              simp only [sem_succ, bodyOf, fb27]
              simp_arith [hL, s1, s3, e25, hes, l_at, l_o, l_c, l_e, SX.S_beq_eq, List.cons.injEq, false_and, neg1, eqT, eqR, sl_1, lx, dg_w, x_nt, x_nr, slL1, hwl, hws2, hws3, g, g4, hz', er, hol, hol2, hol3, List.length_map, ni, oD]
            | false =>
              rw [hany] at ni
              obtain ⟨fs, rfl⟩ := all_some hany
              have hfl : fs.length = 2 := by rw [List.length_map] at r1; omega
              match fs, hfl with
              | [a, b], _ =>
                have ew := r3 [a, b] rfl
                have ga := r2 a (by simp); have gb := r2 b (by simp)
                refine ⟨some (.two x a b), ?_, fun f hf => ?_⟩
                · simp only [List.map_cons, List.map_nil, oD] at er ni
                  have ed : oD (some (F.two x a b)) = .tuple [.str (SX.S x.l), a.d, b.d] := by
                    show PyData.tuple [.str x.s, a.d, b.d] = _; rw [K81.ws]
                  rw [ed]
                  simp only [sem_succ, bodyOf, fb27]
                  simp_arith [hL, s1, s3, e25, hes, l_at, l_o, l_c, l_e, SX.S_beq_eq, List.cons.injEq, false_and, neg1, eqT, eqR, sl_1, lx, dg_w, x_nt, x_nr, slL1, hwl, hws2, hws3, g, g4, hz', er, ni]
                · cases hf
                  refine ⟨⟨ga.1, gb.1⟩, ?_, ?_⟩
                  · have := ga.2; have := gb.2; unfold F.deep; omega
                  · have hne : ws ≠ [] := fun e => by rw [e] at hlen; simp at hlen
                    rw [txt_two]
                    have hjw := hjoin hne
                    rw [ew] at hjw
                    have er2 := drop_last etz (hrne hne)
                    rw [hz, ← hjw] at er2
                    rw [er2]
                    rfl
          · have hz' : ¬ ([z] : List Nat) = [41] := fun e => hz (by cases e; rfl)
            refine ⟨none, ?_, fun _ h => nomatch h⟩
            simp only [sem_succ, bodyOf, fb27]
            simp_arith [hL, s1, s3, e25, hes, l_at, l_o, l_c, l_e, SX.S_beq_eq, List.cons.injEq, false_and, neg1, eqT, eqR, sl_1, lx, dg_w, x_nt, x_nr, slL1, hwl, hws2, hws3, g, g4, hz', oD]
      · have g : ¬ ((ws.length : Nat) : Int) = 2 := by omega
        refine ⟨none, ?_, fun _ h => nomatch h⟩
        simp only [sem_succ, bodyOf, fb27]
        simp_arith [hL, s1, s3, e25, hes, l_at, l_o, l_c, l_e, SX.S_beq_eq, List.cons.injEq, false_and, neg1, eqT, eqR, sl_1, lx, dg_w, x_nt, x_nr, slL1, hwl, hws2, hws3, g, oD]
    · -- pick
      by_cases hlen : ws.length = 3
      · have g : ((ws.length : Nat) : Int) = 3 := by omega
        by_cases hd4 : dp = 4
        · have g4 : (dp : Int) = 4 := by omega
          refine ⟨none, ?_, fun _ h => nomatch h⟩
          simp only [sem_succ, bodyOf, fb27]
          simp_arith [hL, s1, s3, e25, hes, l_at, l_o, l_c, l_e, SX.S_beq_eq, List.cons.injEq, false_and, neg1, eqT, eqR, sl_1, lx, dg_p, p_nt, p_nr, slL1, hwl, hws2, hws3, g, g4, oD]
        · have g4 : ¬ (dp : Int) = 4 := by omega
          by_cases hz : z = 41
          · have hz' : ([z] : List Nat) = [41] := by rw [hz]
            obtain ⟨os, r1, r2, r3, er⟩ := recsL (n := n) (dp := dp) (a0 := some (.d (.str (SX.S (40 :: r))))) (a2 := none) (a3 := some (.ow (.str (SX.S pickL) :: ws.map fun q => .str (SX.S q)))) (a4 := some (.d (.int 3))) (a5 := some (.ow [.str (SX.S pickL)])) (a6 := none) (a7 := some (.d (.list (ws.map fun q => .str (SX.S q))))) (a8 := none) (ih (by omega)) ws hsub
            have hol : (os.map oD).length ≤ 16777216 := by rw [List.length_map, r1]; exact hws2
            have hol2 : os.length + 1 ≤ 16777216 := by rw [r1]; exact hws3
            have hol3 : os.length ≤ 16777216 := by rw [r1]; exact hws2
            have ni := none_in (os := os) fun f hf => by have := (r2 f hf).2; omega
            cases hany : os.any (·.isNone) with
            | true =>
              rw [hany] at ni
              refine ⟨none, ?_, fun _ h => nomatch h⟩
              simp only [sem_succ, bodyOf, fb27]
              simp_arith [hL, s1, s3, e25, hes, l_at, l_o, l_c, l_e, SX.S_beq_eq, List.cons.injEq, false_and, neg1, eqT, eqR, sl_1, lx, dg_p, p_nt, p_nr, slL1, hwl, hws2, hws3, g, g4, hz', er, hol, hol2, hol3, List.length_map, ni, oD]
            | false =>
              rw [hany] at ni
              obtain ⟨fs, rfl⟩ := all_some hany
              have hfl : fs.length = 3 := by rw [List.length_map] at r1; omega
              match fs, hfl with
              | [a, b, c], _ =>
                have ew := r3 [a, b, c] rfl
                have ga := r2 a (by simp); have gb := r2 b (by simp); have gc := r2 c (by simp)
                refine ⟨some (.pick a b c), ?_, fun f hf => ?_⟩
                · simp only [List.map_cons, List.map_nil, oD] at er ni
                  have ed : oD (some (F.pick a b c)) = .tuple [.str (SX.S pickL), a.d, b.d, c.d] := by
                    show PyData.tuple [.str "pick", a.d, b.d, c.d] = _; rw [ps]
                  rw [ed]
                  simp only [sem_succ, bodyOf, fb27]
                  simp_arith [hL, s1, s3, e25, hes, l_at, l_o, l_c, l_e, SX.S_beq_eq, List.cons.injEq, false_and, neg1, eqT, eqR, sl_1, lx, dg_p, p_nt, p_nr, slL1, hwl, hws2, hws3, g, g4, hz', er, ni]
                · cases hf
                  refine ⟨⟨ga.1, gb.1, gc.1⟩, ?_, ?_⟩
                  · have := ga.2; have := gb.2; have := gc.2; unfold F.deep; omega
                  · have hne : ws ≠ [] := fun e => by rw [e] at hlen; simp at hlen
                    rw [txt_pick]
                    have hjw := hjoin hne
                    rw [ew] at hjw
                    have er2 := drop_last etz (hrne hne)
                    rw [hz, ← hjw] at er2
                    rw [er2]
                    rfl
          · have hz' : ¬ ([z] : List Nat) = [41] := fun e => hz (by cases e; rfl)
            refine ⟨none, ?_, fun _ h => nomatch h⟩
            simp only [sem_succ, bodyOf, fb27]
            simp_arith [hL, s1, s3, e25, hes, l_at, l_o, l_c, l_e, SX.S_beq_eq, List.cons.injEq, false_and, neg1, eqT, eqR, sl_1, lx, dg_p, p_nt, p_nr, slL1, hwl, hws2, hws3, g, g4, hz', oD]
      · have g : ¬ ((ws.length : Nat) : Int) = 3 := by omega
        refine ⟨none, ?_, fun _ h => nomatch h⟩
        simp only [sem_succ, bodyOf, fb27]
        simp_arith [hL, s1, s3, e25, hes, l_at, l_o, l_c, l_e, SX.S_beq_eq, List.cons.injEq, false_and, neg1, eqT, eqR, sl_1, lx, dg_p, p_nt, p_nr, slL1, hwl, hws2, hws3, g, oD]
    · -- times
      cases ws with
      | nil =>
        have e23 := sem23_eq (n := n) (l := []) (by omega) (by decide)
        have q0 : optI (numOf []) = .none := rfl
        rw [q0] at e23
        refine ⟨none, ?_, fun _ h => nomatch h⟩
        simp only [sem_succ, bodyOf, fb27]
        simp_arith [hL, s1, s3, e25, hes, l_at, l_o, l_c, l_e, SX.S_beq_eq, List.cons.injEq, false_and, neg1, eqT, eqR, sl_1, lx, dg_t, e23, is_n, intB, oD]
      | cons q rest =>
        have hq := hsub q List.mem_cons_self
        have e23 := sem23_eq (n := n) (l := q) (by omega) (by omega)
        have hrl : ((rest.map fun q => (.str (SX.S q) : D)).length) = rest.length := List.length_map _
        simp only [List.length_cons] at hws hws2 hws3 hws4
        have hr0 : rest.length ≤ 16777216 := by omega
        have hr4 : rest.length + 1 + 1 + 2 ≤ 16777216 := by omega
        cases hno : numOf q with
        | none =>
          rw [hno] at e23
          refine ⟨none, ?_, fun _ h => nomatch h⟩
          simp only [sem_succ, bodyOf, fb27]
          simp_arith [hL, s1, s3, e25, hes, l_at, l_o, l_c, l_e, SX.S_beq_eq, List.cons.injEq, false_and, neg1, eqT, eqR, sl_1, lx, dg_t, hrl, hr0, hws2, hws3, hr4, e23, is_n, intB, oD, optI]
        | some i =>
          rw [hno] at e23
          obtain ⟨n1, n2⟩ := numOf_some hno
          by_cases hlo : i < (-9999 : Int)
          · refine ⟨none, ?_, fun _ h => nomatch h⟩
            simp only [sem_succ, bodyOf, fb27]
            simp_arith [hL, s1, s3, e25, hes, l_at, l_o, l_c, l_e, SX.S_beq_eq, List.cons.injEq, false_and, neg1, eqT, eqR, sl_1, lx, dg_t, hrl, hr0, hws2, hws3, hr4, e23, is_i, intB, hlo, oD, optI]
          · by_cases hhi : (9999 : Int) < i
            · refine ⟨none, ?_, fun _ h => nomatch h⟩
              simp only [sem_succ, bodyOf, fb27]
              simp_arith [hL, s1, s3, e25, hes, l_at, l_o, l_c, l_e, SX.S_beq_eq, List.cons.injEq, false_and, neg1, eqT, eqR, sl_1, lx, dg_t, hrl, hr0, hws2, hws3, hr4, e23, is_i, intB, hlo, hhi, oD, optI]
            · by_cases hlen : rest.length = 1
              · have g : ((rest.length : Nat) : Int) = 1 := by omega
                by_cases hd4 : dp = 4
                · have g4 : (dp : Int) = 4 := by omega
                  refine ⟨none, ?_, fun _ h => nomatch h⟩
                  simp only [sem_succ, bodyOf, fb27]
                  simp_arith [hL, s1, s3, e25, hes, l_at, l_o, l_c, l_e, SX.S_beq_eq, List.cons.injEq, false_and, neg1, eqT, eqR, sl_1, lx, dg_t, slL2, hrl, hr0, hws2, hws3, hr4, e23, is_i, intB, hlo, hhi, g, g4, oD, optI]
                · have g4 : ¬ (dp : Int) = 4 := by omega
                  by_cases hz : z = 41
                  · have hz' : ([z] : List Nat) = [41] := by rw [hz]
                    obtain ⟨os, r1, r2, r3, er⟩ := recsL (n := n) (dp := dp) (a0 := some (.d (.str (SX.S (40 :: r))))) (a2 := some (.d (.int i))) (a3 := some (.ow (PyData.str (SX.S timesL) :: PyData.str (SX.S q) :: rest.map fun q => PyData.str (SX.S q)))) (a4 := some (.d (.int 1))) (a5 := some (.ow [PyData.str (SX.S timesL), PyData.int i])) (a6 := some (.d (.int (-9999)))) (a7 := some (.d (.list (rest.map fun q => .str (SX.S q))))) (a8 := none) (ih (by omega)) rest fun q hq => hsub q (List.mem_cons_of_mem _ hq)
                    have hol2 : os.length + 1 + 1 ≤ 16777216 := by rw [r1]; omega
                    have hol3 : os.length ≤ 16777216 := by rw [r1]; exact hr0
                    have hol4 : 2 + os.length ≤ 16777216 := by rw [r1]; omega
                    have ni := none_in (os := os) fun f hf => by have := (r2 f hf).2; omega
                    cases hany : os.any (·.isNone) with
                    | true =>
                      rw [hany] at ni
                      refine ⟨none, ?_, fun _ h => nomatch h⟩
                      simp only [sem_succ, bodyOf, fb27]
                      simp_arith [hL, s1, s3, e25, hes, l_at, l_o, l_c, l_e, SX.S_beq_eq, List.cons.injEq, false_and, neg1, eqT, eqR, sl_1, lx, dg_t, slL2, hrl, hr0, hws2, hws3, hr4, e23, is_i, intB, hlo, hhi, g, g4, hz', er, hol2, hol3, hol4, List.length_map, ni, oD, optI]
                    | false =>
                      rw [hany] at ni
                      obtain ⟨fs, rfl⟩ := all_some hany
                      have hfl : fs.length = 1 := by rw [List.length_map] at r1; omega
                      match fs, hfl with
                      | [a], _ =>
                        have ew := r3 [a] rfl
                        have ga := r2 a (by simp)
                        refine ⟨some (.times i a), ?_, fun f hf => ?_⟩
                        · simp only [List.map_cons, List.map_nil, oD] at er ni
                          have ed : oD (some (F.times i a)) = .tuple [.str (SX.S timesL), .int i, a.d] := by
                            show PyData.tuple [.str "times", .int i, a.d] = _; rw [ts]
                          rw [ed]
                          simp only [sem_succ, bodyOf, fb27]
                          simp_arith [hL, s1, s3, e25, hes, l_at, l_o, l_c, l_e, SX.S_beq_eq, List.cons.injEq, false_and, neg1, eqT, eqR, sl_1, lx, dg_t, slL2, hrl, hr0, hws2, hws3, hr4, e23, is_i, intB, hlo, hhi, g, g4, hz', er, ni, optI]
                        · cases hf
                          refine ⟨⟨by omega, ga.1⟩, ?_, ?_⟩
                          · have := ga.2; unfold F.deep; omega
                          · have hjw := hjoin (by simp)
                            rw [ew, n1] at hjw
                            rw [txt_times]
                            have er2 := drop_last etz (hrne (by simp))
                            rw [hz, ← hjw] at er2
                            rw [er2]
                            rfl
                  · have hz' : ¬ ([z] : List Nat) = [41] := fun e => hz (by cases e; rfl)
                    refine ⟨none, ?_, fun _ h => nomatch h⟩
                    simp only [sem_succ, bodyOf, fb27]
                    simp_arith [hL, s1, s3, e25, hes, l_at, l_o, l_c, l_e, SX.S_beq_eq, List.cons.injEq, false_and, neg1, eqT, eqR, sl_1, lx, dg_t, slL2, hrl, hr0, hws2, hws3, hr4, e23, is_i, intB, hlo, hhi, g, g4, hz', oD, optI]
              · have g : ¬ ((rest.length : Nat) : Int) = 1 := by omega
                refine ⟨none, ?_, fun _ h => nomatch h⟩
                simp only [sem_succ, bodyOf, fb27]
                simp_arith [hL, s1, s3, e25, hes, l_at, l_o, l_c, l_e, SX.S_beq_eq, List.cons.injEq, false_and, neg1, eqT, eqR, sl_1, lx, dg_t, slL2, hrl, hr0, hws2, hws3, hr4, e23, is_i, intB, hlo, hhi, g, oD, optI]
    · -- rest
      cases ws with
      | nil =>
        have e23 := sem23_eq (n := n) (l := []) (by omega) (by decide)
        have q0 : optI (numOf []) = .none := rfl
        rw [q0] at e23
        refine ⟨none, ?_, fun _ h => nomatch h⟩
        simp only [sem_succ, bodyOf, fb27]
        simp_arith [hL, s1, s3, e25, hes, l_at, l_o, l_c, l_e, SX.S_beq_eq, List.cons.injEq, false_and, neg1, eqT, eqR, sl_1, lx, dg_r, r_nt, e23, is_n, intB, oD]
      | cons q rest =>
        have hq := hsub q List.mem_cons_self
        have e23 := sem23_eq (n := n) (l := q) (by omega) (by omega)
        have hrl : ((rest.map fun q => (.str (SX.S q) : D)).length) = rest.length := List.length_map _
        simp only [List.length_cons] at hws hws2 hws3 hws4
        have hr0 : rest.length ≤ 16777216 := by omega
        have hr4 : rest.length + 1 + 1 + 2 ≤ 16777216 := by omega
        cases hno : numOf q with
        | none =>
          rw [hno] at e23
          refine ⟨none, ?_, fun _ h => nomatch h⟩
          simp only [sem_succ, bodyOf, fb27]
          simp_arith [hL, s1, s3, e25, hes, l_at, l_o, l_c, l_e, SX.S_beq_eq, List.cons.injEq, false_and, neg1, eqT, eqR, sl_1, lx, dg_r, r_nt, hrl, hr0, hws2, hws3, hr4, e23, is_n, intB, oD, optI]
        | some i =>
          rw [hno] at e23
          obtain ⟨n1, n2⟩ := numOf_some hno
          by_cases hlo : i < (1 : Int)
          · refine ⟨none, ?_, fun _ h => nomatch h⟩
            simp only [sem_succ, bodyOf, fb27]
            simp_arith [hL, s1, s3, e25, hes, l_at, l_o, l_c, l_e, SX.S_beq_eq, List.cons.injEq, false_and, neg1, eqT, eqR, sl_1, lx, dg_r, r_nt, hrl, hr0, hws2, hws3, hr4, e23, is_i, intB, hlo, oD, optI]
          · by_cases hhi : (9999 : Int) < i
            · refine ⟨none, ?_, fun _ h => nomatch h⟩
              simp only [sem_succ, bodyOf, fb27]
              simp_arith [hL, s1, s3, e25, hes, l_at, l_o, l_c, l_e, SX.S_beq_eq, List.cons.injEq, false_and, neg1, eqT, eqR, sl_1, lx, dg_r, r_nt, hrl, hr0, hws2, hws3, hr4, e23, is_i, intB, hlo, hhi, oD, optI]
            · by_cases hlen : rest.length = 1
              · have g : ((rest.length : Nat) : Int) = 1 := by omega
                by_cases hd4 : dp = 4
                · have g4 : (dp : Int) = 4 := by omega
                  refine ⟨none, ?_, fun _ h => nomatch h⟩
                  simp only [sem_succ, bodyOf, fb27]
                  simp_arith [hL, s1, s3, e25, hes, l_at, l_o, l_c, l_e, SX.S_beq_eq, List.cons.injEq, false_and, neg1, eqT, eqR, sl_1, lx, dg_r, r_nt, slL2, hrl, hr0, hws2, hws3, hr4, e23, is_i, intB, hlo, hhi, g, g4, oD, optI]
                · have g4 : ¬ (dp : Int) = 4 := by omega
                  by_cases hz : z = 41
                  · have hz' : ([z] : List Nat) = [41] := by rw [hz]
                    obtain ⟨os, r1, r2, r3, er⟩ := recsL (n := n) (dp := dp) (a0 := some (.d (.str (SX.S (40 :: r))))) (a2 := some (.d (.int i))) (a3 := some (.ow (PyData.str (SX.S restL) :: PyData.str (SX.S q) :: rest.map fun q => PyData.str (SX.S q)))) (a4 := some (.d (.int 1))) (a5 := some (.ow [PyData.str (SX.S restL), PyData.int i])) (a6 := some (.d (.int (1)))) (a7 := some (.d (.list (rest.map fun q => .str (SX.S q))))) (a8 := none) (ih (by omega)) rest fun q hq => hsub q (List.mem_cons_of_mem _ hq)
                    have hol2 : os.length + 1 + 1 ≤ 16777216 := by rw [r1]; omega
                    have hol3 : os.length ≤ 16777216 := by rw [r1]; exact hr0
                    have hol4 : 2 + os.length ≤ 16777216 := by rw [r1]; omega
                    have ni := none_in (os := os) fun f hf => by have := (r2 f hf).2; omega
                    cases hany : os.any (·.isNone) with
                    | true =>
                      rw [hany] at ni
                      refine ⟨none, ?_, fun _ h => nomatch h⟩
                      simp only [sem_succ, bodyOf, fb27]
                      simp_arith [hL, s1, s3, e25, hes, l_at, l_o, l_c, l_e, SX.S_beq_eq, List.cons.injEq, false_and, neg1, eqT, eqR, sl_1, lx, dg_r, r_nt, slL2, hrl, hr0, hws2, hws3, hr4, e23, is_i, intB, hlo, hhi, g, g4, hz', er, hol2, hol3, hol4, List.length_map, ni, oD, optI]
                    | false =>
                      rw [hany] at ni
                      obtain ⟨fs, rfl⟩ := all_some hany
                      have hfl : fs.length = 1 := by rw [List.length_map] at r1; omega
                      match fs, hfl with
                      | [a], _ =>
                        have ew := r3 [a] rfl
                        have ga := r2 a (by simp)
                        refine ⟨some (.rest i a), ?_, fun f hf => ?_⟩
                        · simp only [List.map_cons, List.map_nil, oD] at er ni
                          have ed : oD (some (F.rest i a)) = .tuple [.str (SX.S restL), .int i, a.d] := by
                            show PyData.tuple [.str "rest", .int i, a.d] = _; rw [rs]
                          rw [ed]
                          simp only [sem_succ, bodyOf, fb27]
                          simp_arith [hL, s1, s3, e25, hes, l_at, l_o, l_c, l_e, SX.S_beq_eq, List.cons.injEq, false_and, neg1, eqT, eqR, sl_1, lx, dg_r, r_nt, slL2, hrl, hr0, hws2, hws3, hr4, e23, is_i, intB, hlo, hhi, g, g4, hz', er, ni, optI]
                        · cases hf
                          refine ⟨⟨by omega, ga.1⟩, ?_, ?_⟩
                          · have := ga.2; unfold F.deep; omega
                          · have hjw := hjoin (by simp)
                            rw [ew, n1] at hjw
                            rw [txt_rest]
                            have er2 := drop_last etz (hrne (by simp))
                            rw [hz, ← hjw] at er2
                            rw [er2]
                            rfl
                  · have hz' : ¬ ([z] : List Nat) = [41] := fun e => hz (by cases e; rfl)
                    refine ⟨none, ?_, fun _ h => nomatch h⟩
                    simp only [sem_succ, bodyOf, fb27]
                    simp_arith [hL, s1, s3, e25, hes, l_at, l_o, l_c, l_e, SX.S_beq_eq, List.cons.injEq, false_and, neg1, eqT, eqR, sl_1, lx, dg_r, r_nt, slL2, hrl, hr0, hws2, hws3, hr4, e23, is_i, intB, hlo, hhi, g, g4, hz', oD, optI]
              · have g : ¬ ((rest.length : Nat) : Int) = 1 := by omega
                refine ⟨none, ?_, fun _ h => nomatch h⟩
                simp only [sem_succ, bodyOf, fb27]
                simp_arith [hL, s1, s3, e25, hes, l_at, l_o, l_c, l_e, SX.S_beq_eq, List.cons.injEq, false_and, neg1, eqT, eqR, sl_1, lx, dg_r, r_nt, slL2, hrl, hr0, hws2, hws3, hr4, e23, is_i, intB, hlo, hhi, g, oD, optI]
  · have nT : ¬ w = timesL := fun e => hk (.inr (.inr (.inl e)))
    have nR : ¬ w = restL := fun e => hk (.inr (.inr (.inr e)))
    have db := dg_bad hk
    have hlen : ¬ ws.length = 9 := fun h9 => by
      rcases hjn with ⟨_, h2⟩ | h2
      · rw [h2] at h9; simp at h9
      · obtain ⟨pp, zz, p1, p2, p3⟩ := ent_flat h2
        have hpl : pp.length = 9 := by
          have := congrArg List.length p1
          simp at this
          omega
        cases pp with
        | nil => simp at hpl
        | cons p pp =>
          have ep : w = p := by
            have := congrArg List.head? p1
            exact Option.some.inj this
          have hne : ws ≠ [] := fun e => by rw [e] at h9; simp at h9
          have er := drop_last etz (hrne hne)
          refine hk (ep ▸ hN [] (zz ++ [z]) p pp ?_ (by simpa using hpl) p3)
          rw [List.nil_append, er, p2]
          simp
    have g : ¬ ((ws.length : Nat) : Int) = 9 := by omega
    refine ⟨none, ?_, fun _ h => nomatch h⟩
    simp only [sem_succ, bodyOf, fb27]
    simp_arith [hL, s1, s3, e25, hes, l_at, l_o, l_c, l_e, SX.S_beq_eq, List.cons.injEq, false_and, neg1, eqT, eqR, sl_1, lx, db, nT, nR, slL1, hwl, hws2, hws3, g, oD]
theorem in_step {n j dp : Nat} {L : List Nat} (hj4 : dp + j = 4) (hd1 : 1 ≤ dp) (hn : 6 ≤ n) (hl : L.length < 80000) (hN : NoNine L) (ih : 1 ≤ j → ∀ q : List Nat, q.length < 80000 → NoNine q → InR (n - 1) (dp + 1) q) : InR n dp L := by
  obtain ⟨n, rfl⟩ : ∃ m, n = m + 1 := ⟨n - 1, by omega⟩
  cases L with
  | nil =>
    have s1 : slD (.str (SX.S [])) none (some 1) = some (.d (.str (SX.S []))) := by kernel_rfl
    have e := sem23_eq (n := n) (l := []) (by omega) (by decide)
    have q : optI (numOf []) = .none := rfl
    rw [q] at e
    refine ⟨none, ?_, fun _ h => nomatch h⟩
    simp only [sem_succ, bodyOf, fb27]
    simp_arith [s1, l_at, l_o, SX.S_beq_eq, reduceCtorEq, e, is_n, oD]
  | cons c r =>
    have s1 := sl_to (z := c :: r) (k := 1) (by omega)
    simp only [List.take_succ_cons, List.take_zero, S.cast1] at s1
    by_cases h64 : c = 64
    · subst h64
      have s2 := sl_from (z := 64 :: r) (k := 1) (by omega) (by simp)
      simp only [List.drop_succ_cons, List.drop_zero, S.cast1] at s2
      have e := sem26_eq (n := n) (r := r) (by omega) (by simp at hl; omega)
      cases q : nameOf r with
      | none =>
        rw [q] at e
        refine ⟨none, ?_, fun _ h => nomatch h⟩
        simp only [sem_succ, bodyOf, fb27]
        simp_arith [s1, s2, l_at, SX.S_beq_eq, e, optN, oD]
      | some ab =>
        obtain ⟨a, b⟩ := ab
        rw [q] at e
        obtain ⟨h1, h2, h3⟩ := nameOf_some q
        refine ⟨some (.wor a b), ?_, fun f hf => ?_⟩
        · simp only [sem_succ, bodyOf, fb27, oD, F.d]
          simp_arith [s1, s2, l_at, SX.S_beq_eq, e, optN]
        · cases hf
          exact ⟨⟨h2, h3⟩, by unfold F.deep; omega, h1⟩
    · have n64 : ¬ ([c] = [64]) := fun q => h64 (by cases q; rfl)
      by_cases h40 : c = 40
      · subst h40
        exact in_br hj4 hd1 (by omega) hl hN ih
      · have n40 : ¬ ([c] = [40]) := fun q => h40 (by cases q; rfl)
        have e := sem23_eq (n := n) (l := c :: r) (by omega) (by omega)
        cases q : numOf (c :: r) with
        | none =>
          rw [q] at e
          refine ⟨none, ?_, fun _ h => nomatch h⟩
          simp only [sem_succ, bodyOf, fb27]
          simp_arith [s1, l_at, l_o, SX.S_beq_eq, n64, n40, e, optI, is_n, oD]
        | some i =>
          rw [q] at e
          obtain ⟨h1, h2⟩ := numOf_some q
          by_cases hb : (1000000 : Int) ≤ (if i < 0 then -i else i)
          · refine ⟨none, ?_, fun _ h => nomatch h⟩
            simp only [sem_succ, bodyOf, fb27]
            simp_arith [s1, l_at, l_o, SX.S_beq_eq, n64, n40, e, optI, is_i, abs_i, n10, e6, hb, oD]
          · refine ⟨some (.num i), ?_, fun f hf => ?_⟩
            · simp only [sem_succ, bodyOf, fb27, oD, F.d]
              simp_arith [s1, l_at, l_o, SX.S_beq_eq, n64, n40, e, optI, is_i, abs_i, n10, e6, hb]
            · cases hf
              refine ⟨?_, by unfold F.deep; omega, h1⟩
              unfold F.ok
              split at hb <;> omega
theorem in_sound : ∀ (j : Nat) {n dp : Nat} {L : List Nat}, dp + j = 4 → 1 ≤ dp → j + 6 ≤ n → L.length < 80000 → NoNine L → InR n dp L := by
  intro j
  induction j with
  | zero => intro n dp L h1 h2 h3 h4 h5; exact in_step (j := 0) h1 h2 (by omega) h4 h5 (fun h => by omega)
  | succ j ih => intro n dp L h1 h2 h3 h4 h5; exact in_step (j := j + 1) h1 h2 (by omega) h4 h5 fun _ q hq hn => ih (by omega) (by omega) (by omega) hq hn
end K81
set_option maxHeartbeats 4000000
set_option exponentiation.threshold 10000
namespace K81
open Dl PySem PySem.NumText
theorem br_facts {n : Nat} {p : List Nat} {ps : List (List Nat)} {L : List Nat} (hn : 2 ≤ n) (e : L = 40 :: (TL.joinL [32] (p :: ps) ++ [41])) (hl : L.length < 80000) (hw : ∀ q ∈ p :: ps, wk 0 q = some 0) :
    slD (.str (SX.S L)) none (some 1) = some (.d (.str (SX.S [40]))) ∧ slD (.str (SX.S L)) (some 1) (some (-1)) = some (.d (.str (SX.S (TL.joinL [32] (p :: ps))))) ∧
    ixD (.str (SX.S L)) (.int (-1)) = some (.d (.str (SX.S [41]))) ∧ sem n 25 [.d (.str (SX.S (TL.joinL [32] (p :: ps))))] = .ok (.ow ((p :: ps).map fun q => .str (SX.S q))) [] := by
  have hM : (TL.joinL [32] (p :: ps)).length < 90000 := by rw [e] at hl; simp at hl; omega
  have hjl := ent_ok (ps := ps) (p := p) (f := (TL.joinL [32] (p :: ps)).length + 1) hw (by omega)
  subst e
  refine ⟨sl_to (k := 1) (by omega), ?_, ?_, ?_⟩
  · rw [sl_in (by omega), List.dropLast_concat]
  · exact last_ix (t := 40 :: TL.joinL [32] (p :: ps)) (z := 41) (by rw [List.cons_append]; omega)
  · rw [sem25_eq hn hM]
    unfold ents
    rw [hjl]
    rfl
theorem in_eq : ∀ (t : F) {n dp : Nat}, t.ok → t.parts ≤ 500 → 1 ≤ dp → dp + t.deep ≤ 5 → t.deep + 5 ≤ n → sem n 27 [.d (.str (SX.S t.txt)), .d (.int (dp : Int))] = .ok (.d t.d) []
  | .num i, n, dp, ho, hp, hd, hk, hn => by
    obtain ⟨n, rfl⟩ : ∃ m, n = m + 1 := ⟨n - 1, by omega⟩
    obtain ⟨h1, h2⟩ : -1000000 < i ∧ i < 1000000 := ho
    obtain ⟨c, s1, hc⟩ := nt_first (i := i) (by omega)
    have hl := nt_small (i := i) (by omega)
    have e := sem23_eq (n := n) (l := nt i) (by omega) (by omega)
    rw [numOf_nt (by omega)] at e
    have c1 : ¬ c = 64 := by omega
    have c2 : ¬ c = 40 := by omega
    have hb : ¬ (1000000 : Int) ≤ (if i < 0 then -i else i) := by split <;> omega
    simp only [sem_succ, bodyOf, fb27, F.d, F.txt]
    simp_arith [s1, l_at, l_o, SX.S_beq_eq, List.cons.injEq, c1, c2, false_and, e, optI, is_i, abs_i, n10, e6, hb]
  | .wor a b, n, dp, ho, hp, hd, hk, hn => by
    obtain ⟨n, rfl⟩ : ∃ m, n = m + 1 := ⟨n - 1, by omega⟩
    obtain ⟨h1, h2⟩ : (0 ≤ a ∧ a < 10000000000000000000000000000000000000000) ∧ (0 ≤ b ∧ b < 10000000000000000000000000000000000000000) := ho
    have la := nt_small (i := a) (by omega)
    have lb := nt_small (i := b) (by omega)
    have s1 := sl_to (z := 64 :: (nt a ++ 46 :: nt b)) (k := 1) (by simp; omega)
    have s2 := sl_from (z := 64 :: (nt a ++ 46 :: nt b)) (k := 1) (by simp; omega) (by simp)
    simp only [List.take_succ_cons, List.take_zero, S.cast1] at s1
    simp only [List.drop_succ_cons, List.drop_zero, S.cast1] at s2
    have e := sem26_eq (n := n) (r := nt a ++ 46 :: nt b) (by omega) (by simp; omega)
    rw [nameOf_nt h1 h2] at e
    simp only [sem_succ, bodyOf, fb27, F.d, F.txt]
    simp_arith [s1, s2, l_at, SX.S_beq_eq, e, optN]
  | .two w a b, n, dp, ho, hp, hd, hk, hn => by
    have hl := txt_len _ ho
    unfold F.parts at hp hl
    unfold F.deep at hk hn
    obtain ⟨n, rfl⟩ : ∃ m, n = m + 1 := ⟨n - 1, by omega⟩
    have hx := txt_two w a b
    have hlen : ((F.two w a b).txt).length < 80000 := by omega
    obtain ⟨s1, s3, lx, e25⟩ := br_facts (n := n) (by omega) hx hlen (by
      intro q hq
      simp only [List.mem_cons, List.not_mem_nil, or_false] at hq
      rcases hq with rfl | rfl | rfl
      · exact w_plain w
      · exact wk_txt a (by omega)
      · exact wk_txt b (by omega)
      )
    have hL : ((F.two w a b).txt).length ≤ 16777216 := by omega
    have hda := F.deep1 a
    have h4 : ¬ (dp : Int) = 4 := by omega
    have g1 : (dp : Int) + 1 = ((dp + 1 : Nat) : Int) := by omega
    generalize ((F.two w a b)).txt = z at *
    have e1 := in_eq a (n := n) (dp := dp + 1) ho.1 (by have := F.parts1 b; omega) (by omega) (by omega) (by omega)
    have e2 := in_eq b (n := n) (dp := dp + 1) ho.2 (by have := F.parts1 a; omega) (by omega) (by omega) (by omega)
    have ni := none_in (os := [some a, some b]) fun f hf => by
      simp only [List.mem_cons, Option.some.injEq, List.not_mem_nil, or_false] at hf
      rcases hf with rfl | rfl <;> omega
    simp only [List.map_cons, List.map_nil, oD, List.any_cons, List.any_nil, Option.isNone_some, Bool.or_false] at ni
    have ed : (F.two w a b).d = .tuple [.str (SX.S w.l), a.d, b.d] := by show PyData.tuple [.str w.s, a.d, b.d] = _; rw [ws]
    rw [ed]
    simp only [sem_succ, bodyOf, fb27]
    simp_arith [hL, s1, s3, e25, l_at, l_o, l_c, l_e, SX.S_beq_eq, List.cons.injEq, false_and, neg1, eqT, eqR, sl_1, lx, h4, dg_w, x_nt, x_nr, slL1, g1, e1, e2, ni]
  | .pick a b c, n, dp, ho, hp, hd, hk, hn => by
    have hl := txt_len _ ho
    unfold F.parts at hp hl
    unfold F.deep at hk hn
    obtain ⟨n, rfl⟩ : ∃ m, n = m + 1 := ⟨n - 1, by omega⟩
    have hx := txt_pick a b c
    have hlen : ((F.pick a b c).txt).length < 80000 := by omega
    obtain ⟨s1, s3, lx, e25⟩ := br_facts (n := n) (by omega) hx hlen (by
      intro q hq
      simp only [List.mem_cons, List.not_mem_nil, or_false] at hq
      rcases hq with rfl | rfl | rfl | rfl
      · exact wk_plain _ _ (by decide)
      · exact wk_txt a (by omega)
      · exact wk_txt b (by omega)
      · exact wk_txt c (by omega)
      )
    have hL : ((F.pick a b c).txt).length ≤ 16777216 := by omega
    have hda := F.deep1 a
    have h4 : ¬ (dp : Int) = 4 := by omega
    have g1 : (dp : Int) + 1 = ((dp + 1 : Nat) : Int) := by omega
    generalize ((F.pick a b c)).txt = z at *
    have e1 := in_eq a (n := n) (dp := dp + 1) ho.1 (by have := F.parts1 b; have := F.parts1 c; omega) (by omega) (by omega) (by omega)
    have e2 := in_eq b (n := n) (dp := dp + 1) ho.2.1 (by have := F.parts1 a; have := F.parts1 c; omega) (by omega) (by omega) (by omega)
    have e3 := in_eq c (n := n) (dp := dp + 1) ho.2.2 (by have := F.parts1 a; have := F.parts1 b; omega) (by omega) (by omega) (by omega)
    have ni := none_in (os := [some a, some b, some c]) fun f hf => by
      simp only [List.mem_cons, Option.some.injEq, List.not_mem_nil, or_false] at hf
      rcases hf with rfl | rfl | rfl <;> omega
    simp only [List.map_cons, List.map_nil, oD, List.any_cons, List.any_nil, Option.isNone_some, Bool.or_false] at ni
    have ed : (F.pick a b c).d = .tuple [.str (SX.S pickL), a.d, b.d, c.d] := by show PyData.tuple [.str "pick", a.d, b.d, c.d] = _; rw [ps]
    rw [ed]
    simp only [sem_succ, bodyOf, fb27]
    simp_arith [hL, s1, s3, e25, l_at, l_o, l_c, l_e, SX.S_beq_eq, List.cons.injEq, false_and, neg1, eqT, eqR, sl_1, lx, h4, dg_p, p_nt, p_nr, slL1, g1, e1, e2, e3, ni]
  | .times k a, n, dp, ho, hp, hd, hk, hn => by
    have hl := txt_len _ ho
    unfold F.parts at hp hl
    unfold F.deep at hk hn
    obtain ⟨n, rfl⟩ : ∃ m, n = m + 1 := ⟨n - 1, by omega⟩
    have hx := txt_times k a
    have hlen : ((F.times k a).txt).length < 80000 := by omega
    obtain ⟨s1, s3, lx, e25⟩ := br_facts (n := n) (by omega) hx hlen (by
      intro q hq
      simp only [List.mem_cons, List.not_mem_nil, or_false] at hq
      rcases hq with rfl | rfl | rfl
      · exact wk_plain _ _ (by decide)
      · exact nt_plain
      · exact wk_txt a (by omega)
      )
    have hL : ((F.times k a).txt).length ≤ 16777216 := by omega
    have hda := F.deep1 a
    have h4 : ¬ (dp : Int) = 4 := by omega
    have g1 : (dp : Int) + 1 = ((dp + 1 : Nat) : Int) := by omega
    generalize ((F.times k a)).txt = z at *
    have hk1 := ho.1
    have lk := nt_small (i := k) (by omega)
    have e23 := sem23_eq (n := n) (l := nt k) (by omega) (by omega)
    rw [numOf_nt (by omega)] at e23
    have e1 := in_eq a (n := n) (dp := dp + 1) ho.2 (by omega) (by omega) (by omega) (by omega)
    have ni := none_in (os := [some a]) fun f hf => by
      simp only [List.mem_cons, Option.some.injEq, List.not_mem_nil, or_false] at hf
      subst hf; omega
    simp only [List.map_cons, List.map_nil, oD, List.any_cons, List.any_nil, Option.isNone_some, Bool.or_false] at ni
    have hlo : ¬ k < (-9999 : Int) := by omega
    have hhi : ¬ (9999 : Int) < k := by omega
    have ed : (F.times k a).d = .tuple [.str (SX.S timesL), .int k, a.d] := by show PyData.tuple [.str "times", .int k, a.d] = _; rw [ts]
    rw [ed]
    simp only [sem_succ, bodyOf, fb27]
    simp_arith [hL, s1, s3, e25, l_at, l_o, l_c, l_e, SX.S_beq_eq, List.cons.injEq, false_and, neg1, eqT, eqR, sl_1, lx, h4, dg_t, slL2, g1, e23, is_i, intB, hlo, hhi, e1, ni, optI]
  | .rest k a, n, dp, ho, hp, hd, hk, hn => by
    have hl := txt_len _ ho
    unfold F.parts at hp hl
    unfold F.deep at hk hn
    obtain ⟨n, rfl⟩ : ∃ m, n = m + 1 := ⟨n - 1, by omega⟩
    have hx := txt_rest k a
    have hlen : ((F.rest k a).txt).length < 80000 := by omega
    obtain ⟨s1, s3, lx, e25⟩ := br_facts (n := n) (by omega) hx hlen (by
      intro q hq
      simp only [List.mem_cons, List.not_mem_nil, or_false] at hq
      rcases hq with rfl | rfl | rfl
      · exact wk_plain _ _ (by decide)
      · exact nt_plain
      · exact wk_txt a (by omega)
      )
    have hL : ((F.rest k a).txt).length ≤ 16777216 := by omega
    have hda := F.deep1 a
    have h4 : ¬ (dp : Int) = 4 := by omega
    have g1 : (dp : Int) + 1 = ((dp + 1 : Nat) : Int) := by omega
    generalize ((F.rest k a)).txt = z at *
    have hk1 := ho.1
    have lk := nt_small (i := k) (by omega)
    have e23 := sem23_eq (n := n) (l := nt k) (by omega) (by omega)
    rw [numOf_nt (by omega)] at e23
    have e1 := in_eq a (n := n) (dp := dp + 1) ho.2 (by omega) (by omega) (by omega) (by omega)
    have ni := none_in (os := [some a]) fun f hf => by
      simp only [List.mem_cons, Option.some.injEq, List.not_mem_nil, or_false] at hf
      subst hf; omega
    simp only [List.map_cons, List.map_nil, oD, List.any_cons, List.any_nil, Option.isNone_some, Bool.or_false] at ni
    have hlo : ¬ k < (1 : Int) := by omega
    have hhi : ¬ (9999 : Int) < k := by omega
    have ed : (F.rest k a).d = .tuple [.str (SX.S restL), .int k, a.d] := by show PyData.tuple [.str "rest", .int k, a.d] = _; rw [rs]
    rw [ed]
    simp only [sem_succ, bodyOf, fb27]
    simp_arith [hL, s1, s3, e25, l_at, l_o, l_c, l_e, SX.S_beq_eq, List.cons.injEq, false_and, neg1, eqT, eqR, sl_1, lx, h4, dg_r, r_nt, slL2, g1, e23, is_i, intB, hlo, hhi, e1, ni, optI]
theorem many_eq : ∀ (t : F) {n : Nat}, t.deep ≤ n → sem n 28 [.d t.d] = .ok (.d (.int t.parts)) []
  | .num i, n, hn => by
    unfold F.deep at hn
    obtain ⟨n, rfl⟩ : ∃ m, n = m + 1 := ⟨n - 1, by omega⟩
    simp only [sem_succ, bodyOf, fb28, F.d, F.parts]
    simp_arith [sl1, isTupleT]
  | .wor a b, n, hn => by
    unfold F.deep at hn
    obtain ⟨n, rfl⟩ : ∃ m, n = m + 1 := ⟨n - 1, by omega⟩
    simp only [sem_succ, bodyOf, fb28, F.d, F.parts]
    simp_arith [sl1, isTupleT]
  | .two w a b, n, hn => by
    unfold F.deep at hn
    obtain ⟨n, rfl⟩ : ∃ m, n = m + 1 := ⟨n - 1, by omega⟩
    have e1 := many_eq a (n := n) (by omega)
    have e2 := many_eq b (n := n) (by omega)
    have a1 := a.nd
    have b1 := b.nd
    simp only [sem_succ, bodyOf, fb28, F.d, F.parts]
    simp_arith [sl1, e1, e2, a1, b1, Int.add_zero]
  | .pick a b c, n, hn => by
    unfold F.deep at hn
    obtain ⟨n, rfl⟩ : ∃ m, n = m + 1 := ⟨n - 1, by omega⟩
    have e1 := many_eq a (n := n) (by omega)
    have e2 := many_eq b (n := n) (by omega)
    have e3 := many_eq c (n := n) (by omega)
    have a1 := a.nd
    have b1 := b.nd
    have c1 := c.nd
    simp only [sem_succ, bodyOf, fb28, F.d, F.parts]
    simp_arith [sl1, e1, e2, e3, a1, b1, c1, Int.add_zero]
  | .times k a, n, hn => by
    unfold F.deep at hn
    obtain ⟨n, rfl⟩ : ∃ m, n = m + 1 := ⟨n - 1, by omega⟩
    have e1 := many_eq a (n := n) (by omega)
    have a1 := a.nd
    simp only [sem_succ, bodyOf, fb28, F.d, F.parts]
    simp_arith [sl1, e1, a1, nd_int, Int.add_zero]
  | .rest k a, n, hn => by
    unfold F.deep at hn
    obtain ⟨n, rfl⟩ : ∃ m, n = m + 1 := ⟨n - 1, by omega⟩
    have e1 := many_eq a (n := n) (by omega)
    have a1 := a.nd
    simp only [sem_succ, bodyOf, fb28, F.d, F.parts]
    simp_arith [sl1, e1, a1, nd_int, Int.add_zero]
/-- the law's reader of formulas -/
theorem law_f {n : Nat} {l : List Nat} (hn : 20 ≤ n) (hl : l.length < 80000) (hN : NoNine l) :
    (∃ f : F, f.fine ∧ l = f.txt ∧ sem n 29 [.d (.str (SX.S l))] = .ok (.d f.d) []) ∨ ((∀ f : F, f.fine → l ≠ f.txt) ∧ sem n 29 [.d (.str (SX.S l))] = .ok (.d .none) []) := by
  obtain ⟨n, rfl⟩ : ∃ m, n = m + 1 := ⟨n - 1, by omega⟩
  have c1 : ((1 : Nat) : Int) = 1 := rfl
  by_cases h : ∃ f : F, f.fine ∧ l = f.txt
  · obtain ⟨f, h1, h2⟩ := h
    refine .inl ⟨f, h1, h2, ?_⟩
    have hf := h1.1
    have hd := h1.2.1
    have hp := h1.2.2
    have e := in_eq f (n := n) (dp := 1) hf (by omega) (by omega) (by omega) (by omega)
    have em := many_eq f (n := n) (by omega)
    have hp' : ¬ (15 : Int) < f.parts := by omega
    have id := is_d f
    rw [c1] at e
    rw [h2]
    simp only [sem_succ, bodyOf, fb29]
    simp_arith [e, em, hp', id]
  · refine .inr ⟨fun f h1 h2 => h ⟨f, h1, h2⟩, ?_⟩
    obtain ⟨o, e, ho⟩ := in_sound 3 (n := n) (dp := 1) (L := l) (by omega) (by omega) (by omega) hl hN
    rw [c1] at e
    cases o with
    | none =>
      simp only [oD] at e
      simp only [sem_succ, bodyOf, fb29]
      simp_arith [e, is_n]
    | some f =>
      simp only [oD] at e
      obtain ⟨g1, g2, g3⟩ := ho f rfl
      have em := many_eq f (n := n) (by omega)
      have hp : (15 : Int) < f.parts := by
        by_cases q : f.parts ≤ 15
        · exact absurd ⟨f, ⟨g1, by omega, q⟩, g3⟩ h
        · omega
      have id := is_d f
      simp only [sem_succ, bodyOf, fb29]
      simp_arith [e, em, hp, id]
end K81
set_option maxHeartbeats 2000000
set_option exponentiation.threshold 10000
namespace K81
open Dl PySem PySem.NumText
inductive T where
  | lf (r : Int)
  | un (r : Int) (a : T)
  | bi (r : Int) (a b : T)
def T.d : T → D
  | .lf r => .tuple [.int r, .tuple []]
  | .un r a => .tuple [.int r, .tuple [a.d]]
  | .bi r a b => .tuple [.int r, .tuple [a.d, b.d]]
def T.knots : T → Int | .lf _ => 1 | .un _ a => 1 + a.knots | .bi _ a b => 1 + (a.knots + b.knots)
def T.deep : T → Nat | .lf _ => 1 | .un _ a => a.deep + 1 | .bi _ a b => max a.deep b.deep + 1
def T.ok : T → Prop | .lf r => 0 ≤ r ∧ r ≤ 7 | .un r a => (0 ≤ r ∧ r ≤ 7) ∧ a.ok | .bi r a b => (0 ≤ r ∧ r ≤ 7) ∧ a.ok ∧ b.ok
def dg (r : Int) : Nat := 48 + r.toNat
def T.txt : T → List Nat
  | .lf r => [dg r]
  | .un r a => dg r :: 40 :: (a.txt ++ [41])
  | .bi r a b => dg r :: 40 :: (a.txt ++ 44 :: (b.txt ++ [41]))
theorem T.deep1 : ∀ t : T, 1 ≤ t.deep | .lf _ => Nat.le_refl _ | .un _ _ => by unfold T.deep; omega | .bi _ _ _ => by unfold T.deep; omega
theorem T.knots1 : ∀ t : T, 1 ≤ t.knots
  | .lf _ => Int.le_refl _
  | .un _ a => by have := T.knots1 a; unfold T.knots; omega
  | .bi _ a b => by have := T.knots1 a; have := T.knots1 b; unfold T.knots; omega
theorem T.txt_len : ∀ t : T, (t.txt.length : Int) ≤ 4 * t.knots
  | .lf _ => by unfold T.txt T.knots; simp
  | .un _ a => by
    have := T.txt_len a
    unfold T.txt T.knots
    simp only [List.length_cons, List.length_append, List.length_nil]
    omega
  | .bi _ a b => by
    have := T.txt_len a
    have := T.txt_len b
    unfold T.txt T.knots
    simp only [List.length_cons, List.length_append, List.length_nil]
    omega
theorem knots_eq : ∀ (t : T) {n : Nat}, t.deep ≤ n → sem n 5 [.d t.d] = .ok (.d (.int t.knots)) []
  | .lf r, n, hn => by
    unfold T.deep at hn
    obtain ⟨n, rfl⟩ : ∃ m, n = m + 1 := ⟨n - 1, by omega⟩
    simp only [sem_succ, bodyOf, fb5, T.d, T.knots]
    simp_arith
  | .un r a, n, hn => by
    unfold T.deep at hn
    obtain ⟨n, rfl⟩ : ∃ m, n = m + 1 := ⟨n - 1, by omega⟩
    have e := knots_eq a (n := n) (by omega)
    simp only [sem_succ, bodyOf, fb5, T.d, T.knots]
    simp_arith [e, Int.add_zero]
  | .bi r a b, n, hn => by
    unfold T.deep at hn
    obtain ⟨n, rfl⟩ : ∃ m, n = m + 1 := ⟨n - 1, by omega⟩
    have e := knots_eq a (n := n) (by omega)
    have e2 := knots_eq b (n := n) (by omega)
    simp only [sem_succ, bodyOf, fb5, T.d, T.knots]
    simp_arith [e, e2, Int.add_zero]
theorem lknots_eq : ∀ (t : T) {n : Nat}, t.deep ≤ n → sem n 31 [.d t.d] = .ok (.d (.int t.knots)) []
  | .lf r, n, hn => by
    unfold T.deep at hn
    obtain ⟨n, rfl⟩ : ∃ m, n = m + 1 := ⟨n - 1, by omega⟩
    simp only [sem_succ, bodyOf, fb31, T.d, T.knots]
    simp_arith
  | .un r a, n, hn => by
    unfold T.deep at hn
    obtain ⟨n, rfl⟩ : ∃ m, n = m + 1 := ⟨n - 1, by omega⟩
    have e := lknots_eq a (n := n) (by omega)
    simp only [sem_succ, bodyOf, fb31, T.d, T.knots]
    simp_arith [e, Int.add_zero]
  | .bi r a b, n, hn => by
    unfold T.deep at hn
    obtain ⟨n, rfl⟩ : ∃ m, n = m + 1 := ⟨n - 1, by omega⟩
    have e := lknots_eq a (n := n) (by omega)
    have e2 := lknots_eq b (n := n) (by omega)
    simp only [sem_succ, bodyOf, fb31, T.d, T.knots]
    simp_arith [e, e2, Int.add_zero]
theorem dig {r : Int} (h : 0 ≤ r ∧ r ≤ 7) : r = 0 ∨ r = 1 ∨ r = 2 ∨ r = 3 ∨ r = 4 ∨ r = 5 ∨ r = 6 ∨ r = 7 := by omega
theorem str_dig {r : Int} (h : 0 ≤ r ∧ r ≤ 7) : strD (.int r) = some (.d (.str (SX.S [dg r]))) := by
  rcases dig h with e | e | e | e | e | e | e | e <;> subst e <;> kernel_rfl
theorem int_dig {r : Int} (h : 0 ≤ r ∧ r ≤ 7) : intD (.str (SX.S [dg r])) = some (.d (.int r)) := by
  rcases dig h with e | e | e | e | e | e | e | e <;> subst e <;> kernel_rfl
theorem lit_o : (("(" : String) : Str) = SX.S [40] := by kernel_rfl
theorem lit_c : ((")" : String) : Str) = SX.S [41] := by kernel_rfl
theorem lit_k : (("," : String) : Str) = SX.S [44] := by kernel_rfl
theorem join1 (a : List Nat) : Txt.join (SX.S [44]) [SX.S a] = SX.S a := SX.join_S [44] [a]
theorem join2 (a b : List Nat) : Txt.join (SX.S [44]) [SX.S a, SX.S b] = SX.S (a ++ 44 :: b) := by
  have := SX.join_S [44] [a, b]
  exact this
theorem eq_nil {l : List D} (h : SeqAt.shaped (.tuple l) = true) : eqD (.tuple l) (.tuple []) = some (.d (.bool l.isEmpty)) := by
  have h2 : SeqAt.shaped (.tuple []) = true := by decide +kernel
  show (if SeqAt.shaped (.tuple l) && SeqAt.shaped (.tuple []) then some (PyData.eqv (.tuple l) (.tuple [])) else none : Option Bool).map bol = _
  rw [h, h2]
  cases l <;> rfl
theorem shape_d : ∀ t : T, PyData.canLay0 t.d = true ∧ PyData.depth t.d ≤ 2 * t.deep
  | .lf r => by
    unfold T.d T.deep
    simp [PyData.canLay0, PyData.canLayAll0, PyData.depth, PyData.depthAll]
  | .un r a => by
    obtain ⟨h1, h2⟩ := shape_d a
    unfold T.d T.deep
    simp [PyData.canLay0, PyData.canLayAll0, PyData.depth, PyData.depthAll, h1]
    omega
  | .bi r a b => by
    obtain ⟨h1, h2⟩ := shape_d a
    obtain ⟨h3, h4⟩ := shape_d b
    unfold T.d T.deep
    simp [PyData.canLay0, PyData.canLayAll0, PyData.depth, PyData.depthAll, h1, h3]
    omega
theorem shape1 {a : T} (h : a.deep ≤ 30) : SeqAt.shaped (.tuple [a.d]) = true := by
  obtain ⟨h1, h2⟩ := shape_d a
  simp [SeqAt.shaped, PyData.canLay0, PyData.canLayAll0, PyData.depth, PyData.depthAll, h1]
  omega
theorem shape2 {a b : T} (h : a.deep ≤ 30) (h' : b.deep ≤ 30) : SeqAt.shaped (.tuple [a.d, b.d]) = true := by
  obtain ⟨h1, h2⟩ := shape_d a
  obtain ⟨h3, h4⟩ := shape_d b
  simp [SeqAt.shaped, PyData.canLay0, PyData.canLayAll0, PyData.depth, PyData.depthAll, h1, h3]
  omega
theorem ttext_eq : ∀ (t : T) {n : Nat}, t.ok → t.knots ≤ 1000 → t.deep ≤ 30 → t.deep ≤ n → sem n 20 [.d t.d] = .ok (.d (.str (SX.S t.txt))) []
  | .lf r, n, ho, hk, hd, hn => by
    unfold T.deep at hn
    obtain ⟨n, rfl⟩ : ∃ m, n = m + 1 := ⟨n - 1, by omega⟩
    have q := eq_nil (l := []) (by decide +kernel)
    simp only [sem_succ, bodyOf, fb20, T.d, T.txt]
    simp_arith [str_dig ho, q, List.isEmpty_nil]
  | .un r a, n, ho, hk, hd, hn => by
    unfold T.deep at hn hd
    unfold T.knots at hk
    obtain ⟨n, rfl⟩ : ∃ m, n = m + 1 := ⟨n - 1, by omega⟩
    have e := ttext_eq a (n := n) ho.2 (by omega) (by omega) (by omega)
    have l := T.txt_len a
    have q := eq_nil (shape1 (a := a) (by omega))
    simp only [sem_succ, bodyOf, fb20, T.d, T.txt]
    simp_all_arith [str_dig ho.1, e, lit_o, lit_c, lit_k, S_len, SX.S_cat, join1, List.length_append, q, List.isEmpty_cons]
  | .bi r a b, n, ho, hk, hd, hn => by
    unfold T.deep at hn hd
    unfold T.knots at hk
    obtain ⟨n, rfl⟩ : ∃ m, n = m + 1 := ⟨n - 1, by omega⟩
    have k1 := T.knots1 a
    have k2 := T.knots1 b
    have e := ttext_eq a (n := n) ho.2.1 (by omega) (by omega) (by omega)
    have e2 := ttext_eq b (n := n) ho.2.2 (by omega) (by omega) (by omega)
    have l := T.txt_len a
    have l2 := T.txt_len b
    have q := eq_nil (shape2 (a := a) (b := b) (by omega) (by omega))
    simp only [sem_succ, bodyOf, fb20, T.d, T.txt]
    simp_all_arith [str_dig ho.1, e, e2, lit_o, lit_c, lit_k, S_len, SX.S_cat, join2, List.length_append, List.append_assoc, q, List.isEmpty_cons]
theorem log_small {k : Int} (h0 : 0 ≤ k) (h : k ≤ 100000) : k.natAbs.log2 < 9000 := log_le (Nat.lt_of_lt_of_le (show k.natAbs < 2 ^ 20 by omega) (Nat.pow_le_pow_right (by decide) (by decide))) (by decide)
theorem wood_eq : ∀ (dp : Nat) {n : Nat} {p k : Int}, 1 ≤ dp → 1 ≤ k → k ≤ 60 → dp + 2 ≤ n → ∃ (t : T) (p' : Int), t.ok ∧ t.knots ≤ k ∧ t.deep ≤ dp ∧ sem n 19 [.rf [.int p], .d (.int k), .d (.int dp)] = .ok (.d t.d) [.int p']
  | 0, n, p, k, h1, _, _, _ => by omega
  | dp + 1, n, p, k, h1, hk, hk2, hn => by
    obtain ⟨n, rfl⟩ : ∃ m, n = m + 1 := ⟨n - 1, by omega⟩
    have T1 : ∀ {p k : Int}, 0 < k → k ≤ 100000 → sem n 16 [.rf [.int p], .d (.int k)] = .ok (.d (.int (p % k))) [.int (p / k)] := fun h h2 => take_eq (by omega) h (log_small (by omega) h2)
    have t8 := T1 (p := p) (k := 8) (by decide) (by decide)
    have t3 := T1 (p := p / 8) (k := 3) (by decide) (by decide)
    have hf : fuel = 99997 + 1 + 1 + 1 := rfl
    have hr : 0 ≤ p % 8 ∧ p % 8 ≤ 7 := by omega
    simp only [sem_succ, bodyOf, fb19, hf]
    simp_arith [t8, t3]
    generalize hm : p / 8 / 3 = p2
    generalize hmm : p / 8 % 3 = m
    have m0 : 0 ≤ m ∧ m ≤ 2 := by omega
    obtain ⟨M, hM, M1, M2, M3⟩ : ∃ M : Int, (if m > 1 then m else 1) = M ∧ 0 < M ∧ (1 < m → 1 < M) ∧ (¬ 1 < m → ¬ 1 < M) := by
      refine ⟨_, rfl, ?_, ?_, ?_⟩ <;> split <;> omega
    have m3 : ¬ (2 : Int) < m := by omega
    rw [S.while_s]
    simp_arith
    have hdp : ((dp + 1 : Nat) : Int) - 1 = (dp : Int) := by omega
    by_cases hd : (1 : Int) < ((dp + 1 : Nat) : Int)
    · by_cases hl : (0 : Int) < k - 1
      · by_cases hs : (1 : Int) < m ∧ (1 : Int) < k - 1
        · -- two boughs
          obtain ⟨hs1, hs2⟩ := hs
          have M4 : (0 : Int) < m := by omega
          have tk := T1 (p := p2) (k := k - 1 - 1) (by omega) (by omega)
          have q0 := Int.emod_nonneg p2 (show (k - 1 - 1 : Int) ≠ 0 by omega)
          have q1 := Int.emod_lt_of_pos p2 (show (0 : Int) < k - 1 - 1 by omega)
          generalize hsh : p2 % (k - 1 - 1) = d at tk q0 q1
          generalize hp3 : p2 / (k - 1 - 1) = p3 at tk
          obtain ⟨t1, p4, o1, k1, d1, e1⟩ := wood_eq dp (n := n) (p := p3) (k := 1 + d) (by omega) (by omega) (by omega) (by omega)
          obtain ⟨t2, p5, o2, k2, d2, e2⟩ := wood_eq dp (n := n) (p := p4) (k := k - 1 - (1 + d)) (by omega) (by omega) (by omega) (by omega)
          refine ⟨.bi (p % 8) t1 t2, p5, ⟨hr, o1, o2⟩, ?_, ?_, ?_⟩
          · unfold T.knots; omega
          · unfold T.deep; omega
          · have l2 : (0 : Int) < k - 1 - (1 + d) := by omega
            have z : k - 1 - (1 + d) - (k - 1 - (1 + d)) = 0 := by omega
            simp_arith [hd, hl, hs1, hs2, tk, hdp, e1, M4]
            rw [S.while_s]
            simp_arith [hd, l2, hdp, e2, z, hs1, m3]
            rw [S.while_s]
            simp_arith [hd]
            rfl
        · -- one bough
          obtain ⟨t1, p4, o1, k1, d1, e1⟩ := wood_eq dp (n := n) (p := p2) (k := k - 1) (by omega) (by omega) (by omega) (by omega)
          refine ⟨.un (p % 8) t1, p4, ⟨hr, o1⟩, ?_, ?_, ?_⟩
          · unfold T.knots; omega
          · unfold T.deep; omega
          · have z : k - 1 - (k - 1) = 0 := by omega
            by_cases hs1 : (1 : Int) < m
            · have hs2 : ¬ (1 : Int) < k - 1 := fun h => hs ⟨hs1, h⟩
              have M4 : (0 : Int) < m := by omega
              simp_arith [hd, hl, M4, hs1, hs2, hdp, e1, z]
              rw [S.while_s]
              simp_arith [hd]
              rfl
            · simp_arith [hd, hl, M1, hs1, hdp, e1, z]
              rw [S.while_s]
              simp_arith [hd]
              rfl
      · refine ⟨.lf (p % 8), p2, hr, ?_, ?_, ?_⟩
        · unfold T.knots; omega
        · unfold T.deep; omega
        · simp_arith [hd, hl]
          rfl
    · refine ⟨.lf (p % 8), p2, hr, ?_, ?_, ?_⟩
      · unfold T.knots; omega
      · unfold T.deep; omega
      · simp_arith [hd]
        rfl
theorem slen (x y : Str) : (x ++ y).length = x.length + y.length := by
  show (x.cps ++ y.cps).size = _
  rw [Array.size_append]
  rfl
theorem tt0 : (tupleText []).length = 2 := by kernel_rfl
theorem tt1 (a : Str) : (tupleText [a]).length = a.length + 3 := by
  show ((("(" : String) : Str) ++ a ++ ((",)" : String) : Str)).length = _
  rw [slen, slen]
  have e1 : ((("(" : String) : Str)).length = 1 := by kernel_rfl
  have e2 : (((",)" : String) : Str)).length = 2 := by kernel_rfl
  omega
theorem tt2 (a b : Str) : (tupleText [a, b]).length = a.length + b.length + 4 := by
  show ((("(" : String) : Str) ++ (a ++ ((", " : String) : Str) ++ b) ++ ((")" : String) : Str)).length = _
  rw [slen, slen, slen, slen]
  have e1 : ((("(" : String) : Str)).length = 1 := by kernel_rfl
  have e2 : (((", " : String) : Str)).length = 2 := by kernel_rfl
  have e3 : ((((")" : String) : Str))).length = 1 := by kernel_rfl
  omega
theorem dig_len {r : Int} (h : 0 ≤ r ∧ r ≤ 7) : ((toString r : String) : Str).length = 1 := by
  rcases dig h with e | e | e | e | e | e | e | e <;> subst e <;> kernel_rfl
theorem dig_log {r : Int} (h : 0 ≤ r ∧ r ≤ 7) : r.natAbs.log2 < 1920 := log_le (Nat.lt_of_lt_of_le (show r.natAbs < 2 ^ 3 by omega) (Nat.pow_le_pow_right (by decide) (by decide))) (by decide)
theorem tshown_d : ∀ t : T, t.ok → PyData.showable t.d = true ∧ PyData.hasDict t.d = false ∧ ((PyData.shown t.d).length : Int) ≤ 10 * t.knots
  | .lf r, ho => by
    have l := dig_len ho
    have g := dig_log ho
    refine ⟨?_, ?_, ?_⟩
    · simp [T.d, PyData.showable, PyData.showableAll, g]
    · simp [T.d, PyData.hasDict, PyData.hasDictAll]
    · simp only [T.d, PyData.shown, PyData.shownAll, T.knots, tt2, tt0, l]
      omega
  | .un r a, ho => by
    have l := dig_len ho.1
    have g := dig_log ho.1
    obtain ⟨h1, h2, h3⟩ := tshown_d a ho.2
    refine ⟨?_, ?_, ?_⟩
    · simp [T.d, PyData.showable, PyData.showableAll, g, h1]
    · simp [T.d, PyData.hasDict, PyData.hasDictAll, h2]
    · simp only [T.d, PyData.shown, PyData.shownAll, T.knots, tt2, tt1, l]
      omega
  | .bi r a b, ho => by
    have l := dig_len ho.1
    have g := dig_log ho.1
    obtain ⟨h1, h2, h3⟩ := tshown_d a ho.2.1
    obtain ⟨h4, h5, h6⟩ := tshown_d b ho.2.2
    refine ⟨?_, ?_, ?_⟩
    · simp [T.d, PyData.showable, PyData.showableAll, g, h1, h4]
    · simp [T.d, PyData.hasDict, PyData.hasDictAll, h2, h5]
    · simp only [T.d, PyData.shown, PyData.shownAll, T.knots, tt2, l]
      omega
theorem tstr_d {t : T} (ho : t.ok) (hk : t.knots ≤ 60) (hd : t.deep ≤ 31) : ∃ s, strD t.d = some (.d (.str s)) := by
  obtain ⟨h1, h2, h3⟩ := tshown_d t ho
  obtain ⟨h4, h5⟩ := shape_d t
  obtain ⟨xs, e⟩ : ∃ xs, t.d = .tuple xs := by cases t <;> exact ⟨_, rfl⟩
  rw [e] at h1 h2 h3 h5 ⊢
  refine ⟨(PyData.tuple xs).shown, if_pos ?_⟩
  rw [h1, h2]
  simp only [Bool.not_false, Bool.and_self, Bool.true_and, Bool.and_eq_true, decide_eq_true_eq]
  rw [sizeLine_eq]
  omega
end K81
set_option maxHeartbeats 2000000
set_option exponentiation.threshold 10000
namespace K81
open Dl PySem PySem.NumText
/-! ### trees read, from any text -/
def dgt (l : List Nat) : Bool := match l.head? with | some c => decide (48 ≤ c ∧ c ≤ 55) | none => false
def trb (f : List Nat → Option (T × List Nat)) (k : Int) : Option (T × List Nat) → Option (T × List Nat)
  | none => none
  | some (a, r2) => if r2.take 1 = [44] then (match f (r2.drop 1) with
      | none => none
      | some (b, r4) => if r4.take 1 = [41] then some (.bi k a b, r4.drop 1) else none)
    else if r2.take 1 = [41] then some (.un k a, r2.drop 1) else none
def trd : Nat → List Nat → Option (T × List Nat)
  | 0, _ => none
  | _ + 1, [] => none
  | m + 1, c :: r => if 48 ≤ c ∧ c ≤ 55 then (if r.take 1 = [40] then trb (trd m) ((c : Int) - 48) (trd m (r.drop 1)) else some (.lf ((c : Int) - 48), r)) else none
theorem z0 : ("0" : Str) = SX.S [48] := by kernel_rfl
theorem z1 : ("1" : Str) = SX.S [49] := by kernel_rfl
theorem z2 : ("2" : Str) = SX.S [50] := by kernel_rfl
theorem z3 : ("3" : Str) = SX.S [51] := by kernel_rfl
theorem z4 : ("4" : Str) = SX.S [52] := by kernel_rfl
theorem z5 : ("5" : Str) = SX.S [53] := by kernel_rfl
theorem z6 : ("6" : Str) = SX.S [54] := by kernel_rfl
theorem z7 : ("7" : Str) = SX.S [55] := by kernel_rfl
theorem dgt_any (l : List Nat) : ((SX.S [48] == SX.S (l.take 1)) || ((SX.S [49] == SX.S (l.take 1)) || ((SX.S [50] == SX.S (l.take 1)) || ((SX.S [51] == SX.S (l.take 1)) || ((SX.S [52] == SX.S (l.take 1)) || ((SX.S [53] == SX.S (l.take 1)) || ((SX.S [54] == SX.S (l.take 1)) || (SX.S [55] == SX.S (l.take 1))))))))) = dgt l := by
  simp only [SX.S_beq_eq]
  cases l with
  | nil => rfl
  | cons c r =>
    show _ = decide (48 ≤ c ∧ c ≤ 55)
    simp only [List.take_succ_cons, List.take_zero, List.cons.injEq, and_true]
    rw [← Bool.decide_or, ← Bool.decide_or, ← Bool.decide_or, ← Bool.decide_or, ← Bool.decide_or, ← Bool.decide_or, ← Bool.decide_or]
    exact decide_eq_decide.mpr (by omega)
theorem nin_t (l : List Nat) : ninD (.str (SX.S (l.take 1))) (.tuple [.str "0", .str "1", .str "2", .str "3", .str "4", .str "5", .str "6", .str "7"]) = some (.d (.bool (!dgt l))) := by
  rw [← dgt_any, ← z0, ← z1, ← z2, ← z3, ← z4, ← z5, ← z6, ← z7]
  show some (bol (!([PyData.str "0", .str "1", .str "2", .str "3", .str "4", .str "5", .str "6", .str "7"].any fun | .str z => z == SX.S (l.take 1) | _ => false))) = _
  simp only [List.any_cons, List.any_nil, Bool.or_false]
  rfl
theorem nin_l (l : List Nat) (h : ∀ c ∈ l, c < 1114112) : ninD (.str (SX.S (l.take 1))) (.list [.str "0", .str "1", .str "2", .str "3", .str "4", .str "5", .str "6", .str "7"]) = some (.d (.bool (!dgt l))) := by
  have s1 : SeqAt.shaped (.str (SX.S (l.take 1))) = true := by
    have : PyData.strOk (SX.S (l.take 1)) = true := by
      show (l.take 1).toArray.all (· < 0x110000) = true
      rw [List.all_toArray]
      exact List.all_eq_true.mpr fun c hc => decide_eq_true (h c (List.mem_of_mem_take hc))
    simp [SeqAt.shaped, PyData.canLay0, PyData.depth, this]
  have s2 : SeqAt.shaped (.list [.str "0", .str "1", .str "2", .str "3", .str "4", .str "5", .str "6", .str "7"]) = true := by decide +kernel
  rw [← dgt_any, ← z0, ← z1, ← z2, ← z3, ← z4, ← z5, ← z6, ← z7]
  have e : inB (.str (SX.S (l.take 1))) (.list [.str "0", .str "1", .str "2", .str "3", .str "4", .str "5", .str "6", .str "7"]) = some ([PyData.str "0", .str "1", .str "2", .str "3", .str "4", .str "5", .str "6", .str "7"].any fun z => PyData.eqv z (.str (SX.S (l.take 1)))) := by
    show (if SeqAt.shaped (.str (SX.S (l.take 1))) && SeqAt.shaped _ then _ else none) = _
    rw [s1, s2]
    rfl
  unfold ninD
  rw [e]
  simp only [List.any_cons, List.any_nil, Bool.or_false, PyData.eqv]
  rfl
theorem int_c {c : Nat} (h : 48 ≤ c ∧ c ≤ 55) : intD (.str (SX.S [c])) = some (.d (.int ((c : Int) - 48))) := by
  have e := int_dig (r := (c : Int) - 48) (by omega)
  have e2 : dg ((c : Int) - 48) = c := by unfold dg; omega
  rw [e2] at e
  exact e
theorem drop_cons {z : List Nat} {p c : Nat} {r : List Nat} (h : z.drop p = c :: r) : z[p]? = some c ∧ z.drop (p + 1) = r ∧ p < z.length := by
  refine ⟨?_, ?_, ?_⟩
  · have := congrArg (fun l => l[0]?) h
    simpa using this
  · have := congrArg List.tail h
    simpa using this
  · have := congrArg List.length h
    simp at this
    omega
theorem take1 {l : List Nat} {c : Nat} (h : l.take 1 = [c]) : ∃ r, l = c :: r := by
  cases l with
  | nil => cases h
  | cons d r => simp at h; subst h; exact ⟨r, rfl⟩
theorem tree_p {L : List Nat} (hL : L.length ≤ 16777000) : ∀ (m : Nat) {n p k : Nat} {l : List Nat}, k + m = 31 → m + 2 ≤ n → L.drop p = l → p ≤ L.length →
    match trd m l with
    | some (t, r) => (t.ok ∧ t.deep ≤ m) ∧ ∃ q : Nat, L.drop q = r ∧ q ≤ L.length ∧ sem n 12 [.d (.str (SX.S L)), .d (.int (p : Int)), .d (.int (k : Int))] = .ok (.d (.tuple [t.d, .int (q : Int)])) []
    | none => sem n 12 [.d (.str (SX.S L)), .d (.int (p : Int)), .d (.int (k : Int))] = .raise 17 []
  | 0, n, p, k, l, hk, hn, hp, hpl => by
    obtain ⟨n, rfl⟩ : ∃ m, n = m + 1 := ⟨n - 1, by omega⟩
    have g : (30 : Int) < (k : Int) := by omega
    show sem (n + 1) 12 _ = _
    simp only [sem_succ, bodyOf, fb12]
    simp_arith [g]
  | m + 1, n, p, k, l, hk, hn, hp, hpl => by
    obtain ⟨n, rfl⟩ : ∃ m, n = m + 1 := ⟨n - 1, by omega⟩
    have g : ¬ (30 : Int) < (k : Int) := by omega
    have s0 := sl_one (z := L) (a := p) (b := (p : Int) + 1) (i := p) (by omega) rfl rfl
    rw [hp] at s0
    have nt0 := nin_t l
    cases l with
    | nil =>
      show sem (n + 1) 12 _ = _
      have d0 : dgt [] = false := rfl
      rw [d0] at nt0
      simp only [sem_succ, bodyOf, fb12]
      simp_arith [g, s0, nt0]
    | cons c r =>
      obtain ⟨g1, g2, g3⟩ := drop_cons hp
      simp only [List.take_succ_cons, List.take_zero] at s0 nt0
      unfold trd
      by_cases hc : 48 ≤ c ∧ c ≤ 55
      · rw [if_pos hc]
        have d0 : dgt (c :: r) = true := decide_eq_true hc
        rw [d0] at nt0
        have i1 := ix_one (z := L) (a := p) (i := p) (by omega) rfl g1
        have ic := int_c hc
        have s2 := sl_one (z := L) (a := (p : Int) + 1) (b := (p : Int) + 1 + 1) (i := p + 1) (by omega) (by omega) rfl
        rw [g2] at s2
        by_cases h40 : r.take 1 = [40]
        · rw [if_pos h40]
          obtain ⟨r1, rfl⟩ := take1 h40
          obtain ⟨_, g4, g5⟩ := drop_cons g2
          simp only [List.take_succ_cons, List.take_zero] at s2
          have c1 : ((p + 1 + 1 : Nat) : Int) = (p : Int) + 1 + 1 := by omega
          have c2 : ((k + 1 : Nat) : Int) = (k : Int) + 1 := by omega
          have ih1 := tree_p hL m (n := n) (p := p + 1 + 1) (k := k + 1) (l := r1) (by omega) (by omega) g4 (by omega)
          rw [c1, c2] at ih1
          show match trb (trd m) ((c : Int) - 48) (trd m r1) with | some (t, r) => _ | none => _
          cases q1 : trd m r1 with
          | none =>
            rw [q1] at ih1
            dsimp only at ih1
            show sem (n + 1) 12 _ = _
            simp only [sem_succ, bodyOf, fb12]
            simp_arith [g, s0, nt0, i1, ic, s2, lit_o, SX.S_beq_eq, ih1]
          | some ar =>
            obtain ⟨a, r2⟩ := ar
            rw [q1] at ih1
            obtain ⟨⟨ha, hda⟩, q, hq1, hq2, e1⟩ := ih1
            have s3 := sl_one (z := L) (a := (q : Int)) (b := (q : Int) + 1) (i := q) (by omega) rfl rfl
            rw [hq1] at s3
            unfold trb
            dsimp only
            by_cases h44 : r2.take 1 = [44]
            · rw [if_pos h44]
              obtain ⟨r3, rfl⟩ := take1 h44
              obtain ⟨_, g6, g7⟩ := drop_cons hq1
              simp only [List.take_succ_cons, List.take_zero] at s3
              have c3 : ((q + 1 : Nat) : Int) = (q : Int) + 1 := by omega
              have ih2 := tree_p hL m (n := n) (p := q + 1) (k := k + 1) (l := r3) (by omega) (by omega) g6 (by omega)
              rw [c3, c2] at ih2
              show match (match trd m r3 with | none => none | some (b, r4) => if r4.take 1 = [41] then some (T.bi ((c : Int) - 48) a b, r4.drop 1) else none) with | some (t, r) => _ | none => _
              cases q2 : trd m r3 with
              | none =>
                rw [q2] at ih2
                dsimp only at ih2
                show sem (n + 1) 12 _ = _
                simp only [sem_succ, bodyOf, fb12]
                simp_arith [g, s0, nt0, i1, ic, s2, s3, lit_o, lit_k, SX.S_beq_eq, e1, ih2]
              | some br =>
                obtain ⟨b, r4⟩ := br
                rw [q2] at ih2
                obtain ⟨⟨hb, hdb⟩, q', hq3, hq4, e2⟩ := ih2
                have s4 := sl_one (z := L) (a := (q' : Int)) (b := (q' : Int) + 1) (i := q') (by omega) rfl rfl
                rw [hq3] at s4
                dsimp only
                by_cases h41 : r4.take 1 = [41]
                · rw [if_pos h41]
                  obtain ⟨r5, rfl⟩ := take1 h41
                  obtain ⟨_, g8, g9⟩ := drop_cons hq3
                  simp only [List.take_succ_cons, List.take_zero] at s4
                  have c4 : ((q' + 1 : Nat) : Int) = (q' : Int) + 1 := by omega
                  refine ⟨⟨⟨by omega, ha, hb⟩, by unfold T.deep; omega⟩, q' + 1, g8, by omega, ?_⟩
                  simp only [sem_succ, bodyOf, fb12, T.d]
                  simp_arith [g, s0, nt0, i1, ic, s2, s3, s4, lit_o, lit_k, lit_c, SX.S_beq_eq, c4, e1, e2]
                · rw [if_neg h41]
                  show sem (n + 1) 12 _ = _
                  simp only [sem_succ, bodyOf, fb12]
                  simp_arith [g, s0, nt0, i1, ic, s2, s3, s4, lit_o, lit_k, lit_c, SX.S_beq_eq, e1, e2, h41]
            · rw [if_neg h44]
              by_cases h41 : r2.take 1 = [41]
              · rw [if_pos h41]
                obtain ⟨r3, rfl⟩ := take1 h41
                obtain ⟨_, g8, g9⟩ := drop_cons hq1
                simp only [List.take_succ_cons, List.take_zero] at s3
                have c4 : ((q + 1 : Nat) : Int) = (q : Int) + 1 := by omega
                refine ⟨⟨⟨by omega, ha⟩, by unfold T.deep; omega⟩, q + 1, g8, by omega, ?_⟩
                have n44 : ¬ ([41] : List Nat) = [44] := by decide
                simp only [sem_succ, bodyOf, fb12, T.d]
                simp_arith [g, s0, nt0, i1, ic, s2, s3, lit_o, lit_k, lit_c, SX.S_beq_eq, c4, e1, n44]
              · rw [if_neg h41]
                show sem (n + 1) 12 _ = _
                simp only [sem_succ, bodyOf, fb12]
                simp_arith [g, s0, nt0, i1, ic, s2, s3, lit_o, lit_k, lit_c, SX.S_beq_eq, e1, h44, h41]
        · rw [if_neg h40]
          refine ⟨⟨by show 0 ≤ (c : Int) - 48 ∧ (c : Int) - 48 ≤ 7; omega, by unfold T.deep; omega⟩, p + 1, g2, by omega, ?_⟩
          have c4 : ((p + 1 : Nat) : Int) = (p : Int) + 1 := by omega
          simp only [sem_succ, bodyOf, fb12, T.d]
          simp_arith [g, s0, nt0, i1, ic, s2, lit_o, SX.S_beq_eq, h40, c4]
      · rw [if_neg hc]
        show sem (n + 1) 12 _ = _
        have d0 : dgt (c :: r) = false := decide_eq_false hc
        rw [d0] at nt0
        simp only [sem_succ, bodyOf, fb12]
        simp_arith [g, s0, nt0]
end K81
set_option maxHeartbeats 2000000
set_option exponentiation.threshold 10000
namespace K81
open Dl PySem PySem.NumText
theorem trd_ok : ∀ (m : Nat) {l : List Nat} {t : T} {r : List Nat}, trd m l = some (t, r) → t.ok ∧ t.deep ≤ m
  | 0, l, t, r, h => by unfold trd at h; cases h
  | m + 1, [], t, r, h => by unfold trd at h; cases h
  | m + 1, c :: l, t, r, h => by
    unfold trd at h
    split at h
    · rename_i hc
      split at h
      · unfold trb at h
        split at h
        · cases h
        · rename_i a r2 e1
          have h1 := trd_ok m e1
          split at h
          · split at h
            · cases h
            · rename_i b r4 e2
              have h2 := trd_ok m e2
              split at h
              · cases h
                exact ⟨⟨by omega, h1.1, h2.1⟩, by unfold T.deep; omega⟩
              · cases h
          · split at h
            · cases h
              exact ⟨⟨by omega, h1.1⟩, by unfold T.deep; omega⟩
            · cases h
      · cases h
        exact ⟨by show 0 ≤ (c : Int) - 48 ∧ (c : Int) - 48 ≤ 7; omega, by unfold T.deep; omega⟩
    · cases h
theorem is_t (t : T) : Dl.isD t.d .none = some (.d (.bool false)) := by cases t <;> rfl
theorem eqN0 : eqD (.list []) (.list []) = some (.d (.bool true)) := by kernel_rfl
theorem eqN1 {a : T} (h : a.deep ≤ 30) : eqD (.list [a.d]) (.list []) = some (.d (.bool false)) := by
  obtain ⟨h1, h2⟩ := shape_d a
  have s1 : SeqAt.shaped (.list [a.d]) = true := by
    simp [SeqAt.shaped, PyData.canLay0, PyData.canLayAll0, PyData.depth, PyData.depthAll, h1]
    omega
  have s2 : SeqAt.shaped (.list []) = true := by decide +kernel
  show (if SeqAt.shaped (.list [a.d]) && SeqAt.shaped (.list []) then some (PyData.eqv (.list [a.d]) (.list [])) else none : Option Bool).map bol = _
  rw [s1, s2]
  rfl
theorem eqN2 {a b : T} (h : a.deep ≤ 30) (h' : b.deep ≤ 30) : eqD (.list [a.d, b.d]) (.list []) = some (.d (.bool false)) := by
  obtain ⟨h1, h2⟩ := shape_d a
  obtain ⟨h3, h4⟩ := shape_d b
  have s1 : SeqAt.shaped (.list [a.d, b.d]) = true := by
    simp [SeqAt.shaped, PyData.canLay0, PyData.canLayAll0, PyData.depth, PyData.depthAll, h1, h3]
    omega
  have s2 : SeqAt.shaped (.list []) = true := by decide +kernel
  show (if SeqAt.shaped (.list [a.d, b.d]) && SeqAt.shaped (.list []) then some (PyData.eqv (.list [a.d, b.d]) (.list [])) else none : Option Bool).map bol = _
  rw [s1, s2]
  rfl
def tcond : Ev → RT := (fOrT (fAndT (fTest (fOp eqD (.e (fSl (.n 0) (.e (fVar 1)) (.e (fOp addD (.n 1) (.e (fC (.int 1))))))) (.e (fC (.str "("))))) (fTest (fOp eqD (.n 4) (.e (fLst []))))) (fAndT (fTest (fOp eqD (.e (fSl (.n 0) (.e (fVar 1)) (.e (fOp addD (.n 1) (.e (fC (.int 1))))))) (.e (fC (.str ","))))) (fTest (fOp eqD (.e (fUn lenD (.n 4))) (.e (fC (.int 1)))))))
def tbody (n : Nat) : Ev → RS := (fSeq (fUnp (.t [(.n 5), (.n 1)]) (fCall (sem n 30) [.v (fVar 0), .v (fOp addD (.n 1) (.e (fC (.int 1)))), .v (fOp addD (.n 2) (.e (fC (.int 1))))]))
    (fSeq (fApp 4 (fVar 5))
    (fIf (fTest (fOp Dl.isD (.n 5) (.e (fC .none))))
    (fRet (fTup [(fC .none), (fC (.int 0))]))
    fSkip)))
theorem fuel_s : fuel = 99997 + 1 + 1 + 1 := rfl
section
variable {L : List Nat} {n : Nat} {k p ru : Int} {x5 : Option Sv}
/-- the walk's states -/
abbrev stT (L : List Nat) (p k ru : Int) (bs : List D) (x5 : Option Sv) : Ev := [some (.d (.str (SX.S L))), some (.d (.int p)), some (.d (.int k)), some (.d (.int ru)), some (.ow bs), x5]
theorem tc0 (s : slD (.str (SX.S L)) (some p) (some (p + 1)) = some (.d (.str (SX.S [40])))) : tcond (stT L p k ru [] x5) = .ok true (stT L p k ru [] x5) := by
  have e := eqN0
  unfold tcond stT
  simp_arith [s, lit_o, SX.S_beq_eq, e]
theorem tb_none (nx : NR x5) (e : sem n 30 [.d (.str (SX.S L)), .d (.int (p + 1)), .d (.int (k + 1))] = .ok (.d (.tuple [.none, .int 0])) []) {bs : List D} (hb : bs.length ≤ 10) :
    ∃ ρ', rfOf ρ' = [] ∧ tbody n (stT L p k ru bs x5) = .ret (.d (.tuple [.none, .int 0])) ρ' := by
  have r5 := nr_rf nx
  have hb2 : bs.length < 16777216 := by omega
  refine ⟨[some (.d (.str (SX.S L))), some (.d (.int 0)), some (.d (.int k)), some (.d (.int ru)), some (.ow (bs ++ [.none])), some (.d .none)], rfl, ?_⟩
  unfold tbody stT
  simp_arith [e, r5, hb2, is_n]
theorem tb_some {t : T} {q : Int} (nx : NR x5) (e : sem n 30 [.d (.str (SX.S L)), .d (.int (p + 1)), .d (.int (k + 1))] = .ok (.d (.tuple [t.d, .int q])) []) {bs : List D} (hb : bs.length ≤ 10) :
    tbody n (stT L p k ru bs x5) = .next (stT L q k ru (bs ++ [t.d]) (some (.d t.d))) := by
  have r5 := nr_rf nx
  have hb2 : bs.length < 16777216 := by omega
  have it := is_t t
  unfold tbody stT
  simp_arith [e, r5, hb2, it]
theorem tc1 {l : List Nat} {a : T} (ha : a.deep ≤ 30) (s : slD (.str (SX.S L)) (some p) (some (p + 1)) = some (.d (.str (SX.S l)))) : tcond (stT L p k ru [a.d] x5) = .ok (decide (l = [44])) (stT L p k ru [a.d] x5) := by
  have e := eqN1 ha
  unfold tcond stT
  by_cases h40 : l = [40]
  · have h44 : ¬ ([40] : List Nat) = [44] := by decide
    subst h40
    simp_arith [s, lit_o, lit_k, SX.S_beq_eq, e, h44]
  · by_cases h44 : l = [44]
    · subst h44
      simp_arith [s, lit_o, lit_k, SX.S_beq_eq, h40]
    · simp_arith [s, lit_o, lit_k, SX.S_beq_eq, h40, h44]
theorem tc2 {l : List Nat} {a b : T} (ha : a.deep ≤ 30) (hb : b.deep ≤ 30) (s : slD (.str (SX.S L)) (some p) (some (p + 1)) = some (.d (.str (SX.S l)))) : tcond (stT L p k ru [a.d, b.d] x5) = .ok false (stT L p k ru [a.d, b.d] x5) := by
  have e := eqN2 ha hb
  unfold tcond stT
  by_cases h40 : l = [40]
  · have h44 : ¬ ([40] : List Nat) = [44] := by decide
    subst h40
    simp_arith [s, lit_o, lit_k, SX.S_beq_eq, e, h44]
  · by_cases h44 : l = [44]
    · subst h44
      simp_arith [s, lit_o, lit_k, SX.S_beq_eq, h40]
    · simp_arith [s, lit_o, lit_k, SX.S_beq_eq, h40, h44]
end
theorem tree_l {L : List Nat} (hL : L.length ≤ 16777000) (hA : ∀ c ∈ L, c < 1114112) : ∀ (m : Nat) {n p k : Nat} {l : List Nat}, k + m = 31 → m + 2 ≤ n → L.drop p = l → p ≤ L.length →
    match trd m l with
    | some (t, r) => ∃ q : Nat, L.drop q = r ∧ q ≤ L.length ∧ sem n 30 [.d (.str (SX.S L)), .d (.int (p : Int)), .d (.int (k : Int))] = .ok (.d (.tuple [t.d, .int (q : Int)])) []
    | none => sem n 30 [.d (.str (SX.S L)), .d (.int (p : Int)), .d (.int (k : Int))] = .ok (.d (.tuple [.none, .int 0])) []
  | 0, n, p, k, l, hk, hn, hp, hpl => by
    obtain ⟨n, rfl⟩ : ∃ m, n = m + 1 := ⟨n - 1, by omega⟩
    have g : (30 : Int) < (k : Int) := by omega
    show sem (n + 1) 30 _ = _
    simp only [sem_succ, bodyOf, fb30]
    simp_arith [g]
  | m + 1, n, p, k, l, hk, hn, hp, hpl => by
    obtain ⟨n, rfl⟩ : ∃ m, n = m + 1 := ⟨n - 1, by omega⟩
    have g : ¬ (30 : Int) < (k : Int) := by omega
    have s0 := sl_one (z := L) (a := p) (b := (p : Int) + 1) (i := p) (by omega) rfl rfl
    rw [hp] at s0
    have hAl : ∀ c ∈ l, c < 1114112 := fun c hc => hA c (by rw [← hp] at hc; exact List.mem_of_mem_drop hc)
    have nt0 := nin_l l hAl
    cases l with
    | nil =>
      show sem (n + 1) 30 _ = _
      have d0 : dgt [] = false := rfl
      rw [d0] at nt0
      simp only [sem_succ, bodyOf, fb30]
      simp_arith [g, s0, nt0]
    | cons c r =>
      obtain ⟨g1, g2, g3⟩ := drop_cons hp
      simp only [List.take_succ_cons, List.take_zero] at s0 nt0
      have whole : ∀ x, trd (m + 1) (c :: r) = x → (match x with
          | some (t, r) => ∃ q : Nat, L.drop q = r ∧ q ≤ L.length ∧ sem (n + 1) 30 [.d (.str (SX.S L)), .d (.int (p : Int)), .d (.int (k : Int))] = .ok (.d (.tuple [t.d, .int (q : Int)])) []
          | none => sem (n + 1) 30 [.d (.str (SX.S L)), .d (.int (p : Int)), .d (.int (k : Int))] = .ok (.d (.tuple [.none, .int 0])) []) → (match trd (m + 1) (c :: r) with
          | some (t, r) => ∃ q : Nat, L.drop q = r ∧ q ≤ L.length ∧ sem (n + 1) 30 [.d (.str (SX.S L)), .d (.int (p : Int)), .d (.int (k : Int))] = .ok (.d (.tuple [t.d, .int (q : Int)])) []
          | none => sem (n + 1) 30 [.d (.str (SX.S L)), .d (.int (p : Int)), .d (.int (k : Int))] = .ok (.d (.tuple [.none, .int 0])) []) := fun x e h => by rw [e]; exact h
      by_cases hc : 48 ≤ c ∧ c ≤ 55
      · have d0 : dgt (c :: r) = true := decide_eq_true hc
        rw [d0] at nt0
        have i1 := ix_one (z := L) (a := p) (i := p) (by omega) rfl g1
        have ic := int_c hc
        have s2 := sl_one (z := L) (a := (p : Int) + 1) (b := (p : Int) + 1 + 1) (i := p + 1) (by omega) (by omega) rfl
        rw [g2] at s2
        by_cases h40 : r.take 1 = [40]
        · obtain ⟨r1, rfl⟩ := take1 h40
          obtain ⟨_, g4, g5⟩ := drop_cons g2
          simp only [List.take_succ_cons, List.take_zero] at s2
          have c1 : ((p + 1 + 1 : Nat) : Int) = (p : Int) + 1 + 1 := by omega
          have c2 : ((k + 1 : Nat) : Int) = (k : Int) + 1 := by omega
          have ih1 := tree_l hL hA m (n := n) (p := p + 1 + 1) (k := k + 1) (l := r1) (by omega) (by omega) g4 (by omega)
          rw [c1, c2] at ih1
          have C0 := tc0 (k := (k : Int)) (ru := (c : Int) - 48) (x5 := none) s2
          have tr : trd (m + 1) (c :: 40 :: r1) = trb (trd m) ((c : Int) - 48) (trd m r1) := by
            rw [trd, if_pos hc, if_pos h40]
            rfl
          cases q1 : trd m r1 with
          | none =>
            rw [q1] at ih1 tr
            dsimp only at ih1
            refine whole none tr ?_
            obtain ⟨ρ', w1, w2⟩ := tb_none (L := L) (n := n) (k := (k : Int)) (p := (p : Int) + 1) (ru := (c : Int) - 48) (x5 := none) nr_n ih1 (bs := []) (by simp)
            have wl : whileL tcond (tbody n) fuel (stT L ((p : Int) + 1) (k : Int) ((c : Int) - 48) [] none) = .ret (.d (.tuple [.none, .int 0])) ρ' := by
              rw [fuel_s, S.while_s, C0, S.whK_t, w2]
              rfl
            unfold tcond tbody stT at wl
            simp only [lit_o] at wl
            show sem (n + 1) 30 _ = _
            simp only [sem_succ, bodyOf, fb30]
            simp_arith [g, s0, nt0, i1, ic, s2, lit_o, SX.S_beq_eq, wl, w1]
          | some ar =>
            obtain ⟨a, r2⟩ := ar
            have ha := trd_ok m q1
            rw [q1] at ih1 tr
            obtain ⟨q, hq1, hq2, e1⟩ := ih1
            have s3 := sl_one (z := L) (a := (q : Int)) (b := (q : Int) + 1) (i := q) (by omega) rfl rfl
            rw [hq1] at s3
            have B0 := tb_some (L := L) (n := n) (k := (k : Int)) (p := (p : Int) + 1) (ru := (c : Int) - 48) (x5 := none) (t := a) (q := (q : Int)) nr_n e1 (bs := []) (by simp)
            have C1 := tc1 (L := L) (k := (k : Int)) (p := (q : Int)) (ru := (c : Int) - 48) (x5 := some (.d a.d)) (a := a) (by omega) s3
            unfold trb at tr
            dsimp only at tr
            by_cases h44 : r2.take 1 = [44]
            · rw [if_pos h44] at tr
              obtain ⟨r3, rfl⟩ := take1 h44
              obtain ⟨_, g6, g7⟩ := drop_cons hq1
              simp only [List.take_succ_cons, List.take_zero] at s3 C1
              have c3 : ((q + 1 : Nat) : Int) = (q : Int) + 1 := by omega
              have ih2 := tree_l hL hA m (n := n) (p := q + 1) (k := k + 1) (l := r3) (by omega) (by omega) g6 (by omega)
              rw [c3, c2] at ih2
              have tr : trd (m + 1) (c :: 40 :: r1) = (match trd m r3 with | none => none | some (b, r4) => if r4.take 1 = [41] then some (T.bi ((c : Int) - 48) a b, r4.drop 1) else none) := tr
              cases q2 : trd m r3 with
              | none =>
                rw [q2] at ih2 tr
                dsimp only at ih2 tr
                refine whole none tr ?_
                obtain ⟨ρ', w1, w2⟩ := tb_none (L := L) (n := n) (k := (k : Int)) (p := (q : Int)) (ru := (c : Int) - 48) (x5 := some (.d a.d)) (nr_d _) ih2 (bs := [a.d]) (by simp)
                have wl : whileL tcond (tbody n) fuel (stT L ((p : Int) + 1) (k : Int) ((c : Int) - 48) [] none) = .ret (.d (.tuple [.none, .int 0])) ρ' := by
                  rw [fuel_s, S.while_s, C0, S.whK_t, B0, S.whN_n, S.while_s]
                  show whK _ _ _ (tcond (stT L (q : Int) (k : Int) ((c : Int) - 48) [a.d] (some (.d a.d)))) = _
                  rw [C1]
                  show whK _ _ _ (.ok true _) = _
                  rw [S.whK_t, w2]
                  rfl
                unfold tcond tbody stT at wl
                simp only [lit_o] at wl
                show sem (n + 1) 30 _ = _
                simp only [sem_succ, bodyOf, fb30]
                simp_arith [g, s0, nt0, i1, ic, s2, lit_o, SX.S_beq_eq, wl, w1]
              | some br =>
                obtain ⟨b, r4⟩ := br
                have hb := trd_ok m q2
                rw [q2] at ih2 tr
                dsimp only at tr
                obtain ⟨q', hq3, hq4, e2⟩ := ih2
                have s4 := sl_one (z := L) (a := (q' : Int)) (b := (q' : Int) + 1) (i := q') (by omega) rfl rfl
                rw [hq3] at s4
                have B1 := tb_some (L := L) (n := n) (k := (k : Int)) (p := (q : Int)) (ru := (c : Int) - 48) (x5 := some (.d a.d)) (t := b) (q := (q' : Int)) (nr_d _) e2 (bs := [a.d]) (by simp)
                have C2 := tc2 (L := L) (k := (k : Int)) (p := (q' : Int)) (ru := (c : Int) - 48) (x5 := some (.d b.d)) (a := a) (b := b) (by omega) (by omega) s4
                have wl : whileL tcond (tbody n) fuel (stT L ((p : Int) + 1) (k : Int) ((c : Int) - 48) [] none) = .next (stT L (q' : Int) (k : Int) ((c : Int) - 48) [a.d, b.d] (some (.d b.d))) := by
                  rw [fuel_s, S.while_s, C0, S.whK_t, B0, S.whN_n, S.while_s]
                  show whK _ _ _ (tcond (stT L (q : Int) (k : Int) ((c : Int) - 48) [a.d] (some (.d a.d)))) = _
                  rw [C1]
                  show whK _ _ _ (.ok true _) = _
                  rw [S.whK_t, B1, S.whN_n, S.while_s]
                  show whK _ _ _ (tcond (stT L (q' : Int) (k : Int) ((c : Int) - 48) [a.d, b.d] (some (.d b.d)))) = _
                  rw [C2, S.whK_f]
                unfold tcond tbody stT at wl
                simp only [lit_o] at wl
                by_cases h41 : r4.take 1 = [41]
                · rw [if_pos h41] at tr
                  obtain ⟨r5, rfl⟩ := take1 h41
                  obtain ⟨_, g8, g9⟩ := drop_cons hq3
                  simp only [List.take_succ_cons, List.take_zero] at s4
                  refine whole _ tr ⟨q' + 1, g8, by omega, ?_⟩
                  have c4 : ((q' + 1 : Nat) : Int) = (q' : Int) + 1 := by omega
                  simp only [sem_succ, bodyOf, fb30, T.d]
                  simp_arith [g, s0, nt0, i1, ic, s2, s4, lit_o, lit_c, SX.S_beq_eq, wl, c4]
                · rw [if_neg h41] at tr
                  refine whole none tr ?_
                  show sem (n + 1) 30 _ = _
                  simp only [sem_succ, bodyOf, fb30]
                  simp_arith [g, s0, nt0, i1, ic, s2, s4, lit_o, lit_c, SX.S_beq_eq, wl, h41]
            · rw [if_neg h44] at tr
              have wl : whileL tcond (tbody n) fuel (stT L ((p : Int) + 1) (k : Int) ((c : Int) - 48) [] none) = .next (stT L (q : Int) (k : Int) ((c : Int) - 48) [a.d] (some (.d a.d))) := by
                rw [fuel_s, S.while_s, C0, S.whK_t, B0, S.whN_n, S.while_s]
                show whK _ _ _ (tcond (stT L (q : Int) (k : Int) ((c : Int) - 48) [a.d] (some (.d a.d)))) = _
                rw [C1, decide_eq_false h44, S.whK_f]
              unfold tcond tbody stT at wl
              simp only [lit_o] at wl
              by_cases h41 : r2.take 1 = [41]
              · rw [if_pos h41] at tr
                obtain ⟨r3, rfl⟩ := take1 h41
                obtain ⟨_, g8, g9⟩ := drop_cons hq1
                simp only [List.take_succ_cons, List.take_zero] at s3
                refine whole _ tr ⟨q + 1, g8, by omega, ?_⟩
                have c4 : ((q + 1 : Nat) : Int) = (q : Int) + 1 := by omega
                simp only [sem_succ, bodyOf, fb30, T.d]
                simp_arith [g, s0, nt0, i1, ic, s2, s3, lit_o, lit_c, SX.S_beq_eq, wl, c4]
              · rw [if_neg h41] at tr
                refine whole none tr ?_
                show sem (n + 1) 30 _ = _
                simp only [sem_succ, bodyOf, fb30]
                simp_arith [g, s0, nt0, i1, ic, s2, s3, lit_o, lit_c, SX.S_beq_eq, wl, h41]
        · have tr : trd (m + 1) (c :: r) = some (.lf ((c : Int) - 48), r) := by rw [trd, if_pos hc, if_neg h40]
          refine whole _ tr ⟨p + 1, g2, by omega, ?_⟩
          have c4 : ((p + 1 : Nat) : Int) = (p : Int) + 1 := by omega
          simp only [sem_succ, bodyOf, fb30, T.d]
          simp_arith [g, s0, nt0, i1, ic, s2, lit_o, SX.S_beq_eq, h40, c4]
      · have tr : trd (m + 1) (c :: r) = none := by rw [trd, if_neg hc]
        refine whole none tr ?_
        show sem (n + 1) 30 _ = _
        have d0 : dgt (c :: r) = false := decide_eq_false hc
        rw [d0] at nt0
        simp only [sem_succ, bodyOf, fb30]
        simp_arith [g, s0, nt0]
/-- both readers of trees -/
theorem read_t {n : Nat} {L : List Nat} (hn : 40 ≤ n) (hL : L.length ≤ 16777000) (hA : ∀ c ∈ L, c < 1114112) :
    (∃ t : T, t.ok ∧ t.knots ≤ 60 ∧ t.deep ≤ 30 ∧ sem n 13 [.d (.str (SX.S L))] = .ok (.d t.d) [] ∧ sem n 32 [.d (.str (SX.S L))] = .ok (.d t.d) []) ∨ (sem n 13 [.d (.str (SX.S L))] = .raise 17 [] ∧ sem n 32 [.d (.str (SX.S L))] = .ok (.d .none) []) := by
  obtain ⟨n, rfl⟩ : ∃ m, n = m + 1 := ⟨n - 1, by omega⟩
  have h1 := tree_p hL 30 (n := n) (p := 0) (k := 1) (l := L) (by omega) (by omega) rfl (by omega)
  have h2 := tree_l hL hA 30 (n := n) (p := 0) (k := 1) (l := L) (by omega) (by omega) rfl (by omega)
  rw [S.cast0, S.cast1] at h1 h2
  have hLL : L.length ≤ 16777216 := by omega
  cases q : trd 30 L with
  | none =>
    rw [q] at h1 h2
    dsimp only at h1 h2
    refine .inr ⟨?_, ?_⟩
    · simp only [sem_succ, bodyOf, fb13]
      simp_arith [h1]
    · simp only [sem_succ, bodyOf, fb32]
      simp_arith [h2, is_n]
  | some tr =>
    obtain ⟨t, r⟩ := tr
    have ht := trd_ok 30 q
    rw [q] at h1 h2
    obtain ⟨_, q1, a1, a2, a3⟩ := h1
    obtain ⟨q2, b1, b2, b3⟩ := h2
    have it := is_t t
    have hq : q1 = q2 := by
      have l1 := congrArg List.length a1
      have l2 := congrArg List.length b1
      simp at l1 l2
      omega
    subst hq
    have k1 := knots_eq t (n := n) (by omega)
    have k2 := lknots_eq t (n := n) (by omega)
    by_cases hq : q1 = L.length
    · subst hq
      by_cases hk : t.knots ≤ 60
      · have hk' : ¬ (60 : Int) < t.knots := by omega
        refine .inl ⟨t, ht.1, hk, ht.2, ?_, ?_⟩
        · simp only [sem_succ, bodyOf, fb13]
          simp_arith [a3, S_len, hLL, k1, hk']
        · simp only [sem_succ, bodyOf, fb32]
          simp_arith [b3, it, S_len, hLL, k2, hk']
      · have hk' : (60 : Int) < t.knots := by omega
        refine .inr ⟨?_, ?_⟩
        · simp only [sem_succ, bodyOf, fb13]
          simp_arith [a3, S_len, hLL, k1, hk']
        · simp only [sem_succ, bodyOf, fb32]
          simp_arith [b3, it, S_len, hLL, k2, hk']
    · have hq' : ¬ ((q1 : Int) = (L.length : Int)) := by omega
      refine .inr ⟨?_, ?_⟩
      · simp only [sem_succ, bodyOf, fb13]
        simp_arith [a3, S_len, hLL, hq']
      · simp only [sem_succ, bodyOf, fb32]
        simp_arith [b3, it, S_len, hLL, hq']
end K81
set_option maxHeartbeats 2000000
set_option exponentiation.threshold 10000
namespace K81
open Dl PySem PySem.NumText
theorem tt_len {ts : List Str} (h : 2 ≤ ts.length) : (tupleText ts).length = piled ts := by
  have hj := join_length_add ts (by intro e; subst e; simp at h)
  have h1 : (ts.length == 1) = false := by simp; omega
  unfold tupleText
  rw [h1, slen, slen]
  have e1 : ((("(" : String) : Str)).length = 1 := by kernel_rfl
  have e3 : ((((if false = true then ",)" else ")") : String) : Str)).length = 1 := by kernel_rfl
  omega
theorem tt3 (a b c : Str) : (tupleText [a, b, c]).length = a.length + b.length + c.length + 6 := by
  rw [tt_len (by simp)]
  simp only [piled, List.map_cons, List.map_nil, List.sum_cons, List.sum_nil]
  omega
theorem tt4 (a b c d : Str) : (tupleText [a, b, c, d]).length = a.length + b.length + c.length + d.length + 8 := by
  rw [tt_len (by simp)]
  simp only [piled, List.map_cons, List.map_nil, List.sum_cons, List.sum_nil]
  omega
theorem rw_len (w : W2) : (reprText w.s).length ≤ 10 := by cases w <;> decide +kernel
theorem rn_len : (reprText "num").length ≤ 10 := by decide +kernel
theorem ro_len : (reprText "worth").length ≤ 10 := by decide +kernel
theorem rp_len : (reprText "pick").length ≤ 10 := by decide +kernel
theorem rt_len : (reprText "times").length ≤ 10 := by decide +kernel
theorem rr_len : (reprText "rest").length ≤ 10 := by decide +kernel
theorem i_len {i : Int} (h : -10000000000000000000000000000000000000000 < i ∧ i < 10000000000000000000000000000000000000000) : ((toString i : String) : Str).length ≤ 41 := by
  rw [str_nt]
  exact (nt_small h)
theorem i_log {i : Int} (h : -10000000000000000000000000000000000000000 < i ∧ i < 10000000000000000000000000000000000000000) : i.natAbs.log2 < 1920 := log_le (Nat.lt_of_lt_of_le (show i.natAbs < 2 ^ 140 by omega) (Nat.pow_le_pow_right (by decide) (by decide))) (by decide)
theorem shown_d : ∀ t : F, t.ok → PyData.showable t.d = true ∧ PyData.hasDict t.d = false ∧ PyData.depth t.d ≤ t.deep + 1 ∧ ((PyData.shown t.d).length : Int) ≤ 100 * t.parts
  | .num i, ho => by
    unfold F.ok at ho
    have l := i_len (i := i) (by omega)
    have g := i_log (i := i) (by omega)
    have r := rn_len
    refine ⟨?_, ?_, ?_, ?_⟩
    · simp [F.d, PyData.showable, PyData.showableAll, g]
    · simp [F.d, PyData.hasDict, PyData.hasDictAll]
    · simp [F.d, PyData.depth, PyData.depthAll]
    · simp only [F.d, PyData.shown, PyData.shownAll, F.parts, tt2]
      omega
  | .wor a b, ho => by
    unfold F.ok at ho
    have l := i_len (i := a) (by omega)
    have g := i_log (i := a) (by omega)
    have l2 := i_len (i := b) (by omega)
    have g2 := i_log (i := b) (by omega)
    have r := ro_len
    refine ⟨?_, ?_, ?_, ?_⟩
    · simp [F.d, PyData.showable, PyData.showableAll, g, g2]
    · simp [F.d, PyData.hasDict, PyData.hasDictAll]
    · simp [F.d, PyData.depth, PyData.depthAll]
    · simp only [F.d, PyData.shown, PyData.shownAll, F.parts, tt3]
      omega
  | .two w a b, ho => by
    unfold F.ok at ho
    obtain ⟨h1, h2, h3, h4⟩ := shown_d a ho.1
    obtain ⟨k1, k2, k3, k4⟩ := shown_d b ho.2
    have r := rw_len w
    refine ⟨?_, ?_, ?_, ?_⟩
    · simp [F.d, PyData.showable, PyData.showableAll, h1, k1]
    · simp [F.d, PyData.hasDict, PyData.hasDictAll, h2, k2]
    · simp [F.d, PyData.depth, PyData.depthAll, F.deep]; omega
    · simp only [F.d, PyData.shown, PyData.shownAll, F.parts, tt3]
      omega
  | .pick a b c, ho => by
    unfold F.ok at ho
    obtain ⟨h1, h2, h3, h4⟩ := shown_d a ho.1
    obtain ⟨k1, k2, k3, k4⟩ := shown_d b ho.2.1
    obtain ⟨m1, m2, m3, m4⟩ := shown_d c ho.2.2
    have r := rp_len
    refine ⟨?_, ?_, ?_, ?_⟩
    · simp [F.d, PyData.showable, PyData.showableAll, h1, k1, m1]
    · simp [F.d, PyData.hasDict, PyData.hasDictAll, h2, k2, m2]
    · simp [F.d, PyData.depth, PyData.depthAll, F.deep]; omega
    · simp only [F.d, PyData.shown, PyData.shownAll, F.parts, tt4]
      omega
  | .times k a, ho => by
    unfold F.ok at ho
    have l := i_len (i := k) (by omega)
    have g := i_log (i := k) (by omega)
    obtain ⟨h1, h2, h3, h4⟩ := shown_d a ho.2
    have r := rt_len
    refine ⟨?_, ?_, ?_, ?_⟩
    · simp [F.d, PyData.showable, PyData.showableAll, g, h1]
    · simp [F.d, PyData.hasDict, PyData.hasDictAll, h2]
    · simp [F.d, PyData.depth, PyData.depthAll, F.deep]; omega
    · simp only [F.d, PyData.shown, PyData.shownAll, F.parts, tt3]
      omega
  | .rest k a, ho => by
    unfold F.ok at ho
    have l := i_len (i := k) (by omega)
    have g := i_log (i := k) (by omega)
    obtain ⟨h1, h2, h3, h4⟩ := shown_d a ho.2
    have r := rr_len
    refine ⟨?_, ?_, ?_, ?_⟩
    · simp [F.d, PyData.showable, PyData.showableAll, g, h1]
    · simp [F.d, PyData.hasDict, PyData.hasDictAll, h2]
    · simp [F.d, PyData.depth, PyData.depthAll, F.deep]; omega
    · simp only [F.d, PyData.shown, PyData.shownAll, F.parts, tt3]
      omega
theorem fstr_d {t : F} (h : t.fine) : ∃ s, strD t.d = some (.d (.str s)) := by
  obtain ⟨ho, hd, hk⟩ := h
  obtain ⟨h1, h2, h3, h4⟩ := shown_d t ho
  obtain ⟨z, l, e, _⟩ := t.head
  rw [e] at h1 h2 h3 h4 ⊢
  refine ⟨(PyData.tuple (.str z :: l)).shown, if_pos ?_⟩
  rw [h1, h2]
  simp only [Bool.not_false, Bool.and_self, Bool.true_and, Bool.and_eq_true, decide_eq_true_eq]
  rw [sizeLine_eq]
  omega
theorem only_eq {n : Nat} (hn : 1 ≤ n) : sem n 21 [.ex 17, .d (.str "NoText")] = .ok (.d (.bool true)) [] := by
  obtain ⟨n, rfl⟩ : ∃ m, n = m + 1 := ⟨n - 1, by omega⟩
  simp only [sem_succ, bodyOf, fb21]
  kernel_rfl
theorem pair_x {a b e : Option Sv} {c : Nat} : fPair 2 3 [a, b, some (.d .none), some (.ex c), e] = .ok (.px c) [a, b, some (.d .none), some (.ex c), e] := nrfl
theorem pair_d {a b e : Option Sv} {x y : D} : fPair 2 3 [a, b, some (.d x), some (.d y), e] = fTup [fVar 2, fVar 3] [a, b, some (.d x), some (.d y), e] := by cases x <;> rfl
theorem unp_eq {i j : Nat} {f : Ev → RE} {ρ : Ev} : fUnpX i j f ρ = unpX i j (f ρ) := nrfl
theorem unp_d {i j : Nat} {x : D} {ρ : Ev} : unpX i j (.ok (.d x) ρ) = nextO (bindP (.t [.n i, .n j]) x ρ) := by
  show (match bindP (.t [.n i, .n j]) x ρ with | some ρ2 => RS.next ρ2 | none => .stuck) = _
  cases bindP (.t [.n i, .n j]) x ρ <;> rfl
theorem unp_x {i j c : Nat} {ρ : Ev} : unpX i j (.ok (.px c) ρ) = if rfAt ρ i = false then (if rfAt (ρ.set i (some (.d .none))) j = false then .next ((ρ.set i (some (.d .none))).set j (some (.ex c))) else .stuck) else .stuck := nrfl
theorem em17 : exm_BookError 17 = some true := rfl
/-- what is asked of a text, where both readers agree -/
theorem right_of {n : Nat} {w : Int} {L : List Nat} (hn : 3 ≤ n) (hw : w = 0 ∨ w = 1)
    (h : (∃ (x : D) (s : Str), Dl.isD x .none = some (.d (.bool false)) ∧ strD x = some (.d (.str s)) ∧ sem (n - 2) (if w = 0 then 11 else 13) [.d (.str (SX.S L))] = .ok (.d x) [] ∧ sem (n - 2) (if w = 0 then 29 else 32) [.d (.str (SX.S L))] = .ok (.d x) []) ∨
      (sem (n - 2) (if w = 0 then 11 else 13) [.d (.str (SX.S L))] = .raise 17 [] ∧ sem (n - 2) (if w = 0 then 29 else 32) [.d (.str (SX.S L))] = .ok (.d .none) [])) :
    sem n 35 [.d (.int w), .d (.str (SX.S L))] = .ok (.d (.bool true)) [] := by
  obtain ⟨n, rfl⟩ : ∃ m, n = m + 1 + 1 := ⟨n - 2, by omega⟩
  have ho := only_eq (n := n + 1) (by omega)
  have hm := em17
  rw [show n + 1 + 1 - 2 = n by omega] at h
  rcases h with ⟨x, s, hx, hs, e1, e2⟩ | ⟨e1, e2⟩
  · have ss : (s == s) = true := by simp
    have nn2 : Dl.isD .none .none = some (.d (.bool true)) := rfl
    rcases hw with rfl | rfl
    · rw [if_pos rfl] at e1 e2
      have d33 : sem (n + 1) 33 [.d (.int 0), .d (.str (SX.S L))] = .ok (.d x) [] := by
        rw [sem_succ]
        simp only [bodyOf, fb33]
        simp_arith [e2]
      have d34 : sem (n + 1) 34 [.d (.int 0), .d (.str (SX.S L))] = .ok (.d (.tuple [x, .none])) [] := by
        rw [sem_succ]
        simp only [bodyOf, fb34]
        simp_arith [e1, pair_d]
      rw [sem_succ]
      simp only [bodyOf, fb35]
      simp_arith [d33, d34, unp_eq, unp_d, hx, hs, ss, nn2]
    · rw [if_neg (by decide)] at e1 e2
      have d33 : sem (n + 1) 33 [.d (.int 1), .d (.str (SX.S L))] = .ok (.d x) [] := by
        rw [sem_succ]
        simp only [bodyOf, fb33]
        simp_arith [e2]
      have d34 : sem (n + 1) 34 [.d (.int 1), .d (.str (SX.S L))] = .ok (.d (.tuple [x, .none])) [] := by
        rw [sem_succ]
        simp only [bodyOf, fb34]
        simp_arith [e1, pair_d]
      rw [sem_succ]
      simp only [bodyOf, fb35]
      simp_arith [d33, d34, unp_eq, unp_d, hx, hs, ss, nn2]
  · have nn2 : Dl.isD .none .none = some (.d (.bool true)) := rfl
    rcases hw with rfl | rfl
    · rw [if_pos rfl] at e1 e2
      have d33 : sem (n + 1) 33 [.d (.int 0), .d (.str (SX.S L))] = .ok (.d .none) [] := by
        rw [sem_succ]
        simp only [bodyOf, fb33]
        simp_arith [e2]
      have d34 : sem (n + 1) 34 [.d (.int 0), .d (.str (SX.S L))] = .ok (.px 17) [] := by
        rw [sem_succ]
        simp only [bodyOf, fb34]
        simp_arith [e1, hm, pair_x]
      rw [sem_succ]
      simp only [bodyOf, fb35]
      simp_arith [d33, d34, unp_eq, unp_x, nn2, ho]
    · rw [if_neg (by decide)] at e1 e2
      have d33 : sem (n + 1) 33 [.d (.int 1), .d (.str (SX.S L))] = .ok (.d .none) [] := by
        rw [sem_succ]
        simp only [bodyOf, fb33]
        simp_arith [e2]
      have d34 : sem (n + 1) 34 [.d (.int 1), .d (.str (SX.S L))] = .ok (.px 17) [] := by
        rw [sem_succ]
        simp only [bodyOf, fb34]
        simp_arith [e1, hm, pair_x]
      rw [sem_succ]
      simp only [bodyOf, fb35]
      simp_arith [d33, d34, unp_eq, unp_x, nn2, ho]
theorem right0 {n : Nat} {L : List Nat} (hn : 55 ≤ n) (hl : L.length < 80000) (hN : NoNine L) : sem n 35 [.d (.int 0), .d (.str (SX.S L))] = .ok (.d (.bool true)) [] := by
  refine right_of (by omega) (.inl rfl) ?_
  have h1 := read_f (n := n - 2) (l := L) (by omega) (by omega)
  have h2 := law_f (n := n - 2) (l := L) (by omega) hl hN
  rw [if_pos rfl, if_pos rfl]
  rcases h1 with ⟨f, f1, f2, f3⟩ | ⟨f1, f2⟩
  · rcases h2 with ⟨f', g1, g2, g3⟩ | ⟨g1, g2⟩
    · have : f.d = f'.d := by
        have e := read_eq (t := f') (n := n - 2) g1.1 g1.2.1 g1.2.2 (by have := g1.2.1; omega)
        rw [← g2, f3] at e
        injection e with e
        injection e
      obtain ⟨s, hs⟩ := fstr_d f1
      exact .inl ⟨f.d, s, is_d f, hs, f3, by rw [this]; exact g3⟩
    · exact absurd f2 (g1 f f1)
  · rcases h2 with ⟨f', g1, g2, g3⟩ | ⟨g1, g2⟩
    · exact absurd g2 (f1 f' g1)
    · exact .inr ⟨f2, g2⟩
theorem right1 {n : Nat} {L : List Nat} (hn : 55 ≤ n) (hl : L.length ≤ 16777000) (hA : ∀ c ∈ L, c < 1114112) : sem n 35 [.d (.int 1), .d (.str (SX.S L))] = .ok (.d (.bool true)) [] := by
  refine right_of (by omega) (.inr rfl) ?_
  rw [if_neg (by decide), if_neg (by decide)]
  rcases read_t (n := n - 2) (by omega) hl hA with ⟨t, h1, h2, h3, h4, h5⟩ | h
  · obtain ⟨s, hs⟩ := tstr_d h1 h2 (by omega)
    exact .inl ⟨t.d, s, is_t t, hs, h4, h5⟩
  · exact .inr h
end K81
set_option maxHeartbeats 1000000
namespace K81
open Dl PySem PySem.NumText
/-! ### no text of a formula, twice bent, has nine entries behind an unknown word -/
def dp : List Nat → Int
  | [] => 0
  | c :: l => (if c = 40 then 1 else 0) - (if c = 41 then 1 else 0) + dp l
theorem dp_app (a b : List Nat) : dp (a ++ b) = dp a + dp b := by
  induction a with
  | nil => simp [dp]
  | cons c a ih => rw [List.cons_append, dp, dp, ih]; omega
theorem stp_dp (d : Int) (c : Nat) : stp d c = d + dp [c] := by
  unfold stp dp dp
  omega
theorem bal_dp : ∀ {q : List Nat} {d : Int}, 0 ≤ d → stopL d (q ++ [32]) = some q.length → (∀ X Y, q = X ++ Y → 0 ≤ d + dp X) ∧ d + dp q = 0
  | [], d, h0, h => by
    rw [List.nil_append, stopL] at h
    by_cases hh : halt d 32
    · unfold halt stp at hh
      rw [if_neg (by decide), if_neg (by decide)] at hh
      refine ⟨fun X Y e => ?_, by unfold dp; omega⟩
      cases X with
      | nil => unfold dp; omega
      | cons _ _ => cases e
    · rw [if_neg hh] at h
      unfold stopL at h
      cases h
  | c :: q, d, h0, h => by
    rw [List.cons_append, stopL] at h
    by_cases hh : halt d c
    · rw [if_pos hh] at h; cases h
    · rw [if_neg hh] at h
      have hn : 0 ≤ stp d c := by
        by_cases z : 0 ≤ stp d c
        · exact z
        · exact absurd (.inl (by omega)) hh
      cases qe : stopL (stp d c) (q ++ [32]) with
      | none => rw [qe] at h; cases h
      | some j =>
        rw [qe] at h
        have hj : j = q.length := by
          have : j + 1 = (c :: q).length := Option.some.inj h
          rw [List.length_cons] at this
          omega
        subst hj
        obtain ⟨h1, h2⟩ := bal_dp hn qe
        have es := stp_dp d c
        have ec : dp (c :: q) = dp [c] + dp q := dp_app [c] q
        refine ⟨fun X Y e => ?_, by omega⟩
        cases X with
        | nil => unfold dp; omega
        | cons x X =>
          rw [List.cons_append] at e
          injection e with e1 e2
          subst e1
          have := h1 X Y e2
          have ex : dp (c :: X) = dp [c] + dp X := dp_app [c] X
          omega
theorem flat_dp : ∀ {qs : List (List Nat)}, (∀ q ∈ qs, bal q) → (∀ X Y, flat qs = X ++ Y → 0 ≤ dp X) ∧ dp (flat qs) = 0
  | [], _ => ⟨fun X Y e => by
      have : X = [] := by
        cases X with
        | nil => rfl
        | cons _ _ => cases e
      rw [this]; decide, rfl⟩
  | q :: qs, h => by
    obtain ⟨h1, h2⟩ := bal_dp (q := q) (d := 0) (by omega) (h q List.mem_cons_self)
    obtain ⟨h3, h4⟩ := flat_dp (qs := qs) fun x hx => h x (List.mem_cons_of_mem _ hx)
    have ef : flat (q :: qs) = (q ++ [32]) ++ flat qs := rfl
    have d32 : dp [32] = 0 := by decide
    have eq32 : dp (q ++ [32]) = 0 := by rw [dp_app]; omega
    refine ⟨fun X Y e => ?_, by rw [ef, dp_app]; omega⟩
    rw [ef] at e
    rcases List.append_eq_append_iff.mp e with ⟨a', ea, eb⟩ | ⟨c', ea, eb⟩
    · subst ea
      have := h3 a' Y eb
      rw [dp_app]
      omega
    · rcases List.append_eq_append_iff.mp ea with ⟨a2, e1, e2⟩ | ⟨c2, e1, e2⟩
      · subst e1
        rw [dp_app]
        have : dp a2 = 0 := by
          cases a2 with
          | nil => rfl
          | cons z zs =>
            rw [List.cons_append] at e2
            injection e2 with e3 e4
            subst e3
            have : zs = [] := by
              cases zs with
              | nil => rfl
              | cons _ _ => cases e4
            rw [this]; decide
        omega
      · have := h1 X c2 e1
        omega
theorem wk_split : ∀ {X Y : List Nat} {d e : Nat}, wk d (X ++ Y) = some e → ∃ d1, wk d X = some d1 ∧ wk d1 Y = some e ∧ (d1 : Int) = (d : Int) + dp X
  | [], Y, d, e, h => ⟨d, rfl, h, by unfold dp; omega⟩
  | c :: X, Y, d, e, h => by
    rw [List.cons_append, wk] at h
    rw [wk]
    have ec : dp (c :: X) = dp [c] + dp X := dp_app [c] X
    split at h
    · rename_i h1
      subst h1
      split at h
      · rename_i h2
        obtain ⟨d1, e1, e2, e3⟩ := wk_split h
        have e4 : dp [40] = 1 := by decide
        exact ⟨d1, by rw [if_pos rfl, if_pos h2]; exact e1, e2, by omega⟩
      · cases h
    · rename_i h1
      split at h
      · rename_i h2
        subst h2
        split at h
        · rename_i h3
          obtain ⟨d1, e1, e2, e3⟩ := wk_split h
          have e4 : dp [41] = -1 := by decide
          exact ⟨d1, by rw [if_neg h1, if_pos rfl, if_pos h3]; exact e1, e2, by omega⟩
        · cases h
      · rename_i h2
        have e4 : dp [c] = 0 := by unfold dp dp; rw [if_neg h1, if_neg h2]; rfl
        split at h
        · rename_i h3
          subst h3
          split at h
          · rename_i h5
            obtain ⟨d1, e1, e2, e3⟩ := wk_split h
            exact ⟨d1, by rw [if_neg h1, if_neg h2, if_pos rfl, if_pos h5]; exact e1, e2, by omega⟩
          · cases h
        · rename_i h3
          obtain ⟨d1, e1, e2, e3⟩ := wk_split h
          exact ⟨d1, by rw [if_neg h1, if_neg h2, if_neg h3]; exact e1, e2, by omega⟩
theorem wk_dp {e : List Nat} (h : wk 0 e = some 0) : dp e = 0 := by
  have h' : wk 0 (e ++ []) = some 0 := by rw [List.append_nil]; exact h
  obtain ⟨d1, h1, h2, h3⟩ := wk_split h'
  rw [wk] at h2
  cases h2
  omega
/-- a blank within a balanced piece: what follows goes below -/
theorem in_blank {e X R : List Nat} (h : wk 0 e = some 0) (he : e = X ++ 32 :: R) : dp R < 0 := by
  have h0 := wk_dp h
  rw [he] at h h0
  obtain ⟨d1, h1, h2, h3⟩ := wk_split h
  rw [wk, if_neg (by decide), if_neg (by decide), if_pos rfl] at h2
  split at h2
  · rename_i hd
    rw [dp_app] at h0
    have : dp (32 :: R) = dp [32] + dp R := dp_app [32] R
    have e4 : dp [32] = 0 := by decide
    omega
  · cases h2
theorem in_open {e X R : List Nat} (h : wk 0 e = some 0) (he : e = X ++ 40 :: R) : dp R < 0 := by
  have h0 := wk_dp h
  rw [he] at h h0
  obtain ⟨d1, h1, h2, h3⟩ := wk_split h
  rw [dp_app] at h0
  have : dp (40 :: R) = dp [40] + dp R := dp_app [40] R
  have e4 : dp [40] = 1 := by decide
  omega
/-- a run that begins within goes no further than the piece -/
theorem stays {R Y D : List Nat} {qs : List (List Nat)} (hq : ∀ q ∈ qs, bal q) (hR : dp R < 0) (e : R ++ Y = flat qs ++ D) : ∃ D', R = flat qs ++ D' := by
  rcases List.append_eq_append_iff.mp e with ⟨a', ea, eb⟩ | ⟨c', ea, eb⟩
  · have := (flat_dp hq).1 R a' ea
    omega
  · exact ⟨c', ea⟩
/-- a balanced piece's end is where the walk stops -/
theorem same_end {q e Z Z' : List Nat} {y : Nat} (hq : bal q) (he : wk 0 e = some 0) (hy : y = 32 ∨ y = 41) (h : q ++ 32 :: Z = e ++ y :: Z') : q = e ∧ y = 32 ∧ Z = Z' := by
  have h1 : stopL 0 (q ++ 32 :: Z) = some q.length := by
    have := stop_pre2 (r := Z) hq
    rw [List.append_assoc] at this
    exact this
  have h2 : stopL 0 (e ++ y :: Z') = some e.length := by
    have := stop_wk (y :: Z') he
    have h3 : stopL ((0 : Nat) : Int) (y :: Z') = some 0 := by
      unfold stopL
      rw [if_pos]
      rcases hy with rfl | rfl <;> (unfold halt stp; decide)
    rw [h3] at this
    rw [show (0 : Int) = ((0 : Nat) : Int) from rfl, this]
    show some (0 + e.length) = _
    rw [Nat.zero_add]
  rw [h, h2] at h1
  have hl : e.length = q.length := Option.some.inj h1
  have h3 := List.append_inj h hl.symm
  obtain ⟨h4, h5⟩ := h3
  injection h5 with h6 h7
  exact ⟨h4, h6.symm, h7⟩
theorem run_le : ∀ {es qs : List (List Nat)} {D : List Nat}, es ≠ [] → (∀ e ∈ es, wk 0 e = some 0) → (∀ q ∈ qs, bal q) → TL.joinL [32] es ++ [41] = flat qs ++ D → qs.length + 1 ≤ es.length
  | [], qs, D, hne, _, _, _ => absurd rfl hne
  | [e], qs, D, _, he, hq, h => by
    cases qs with
    | nil => simp
    | cons q qs =>
      have h : e ++ 41 :: [] = q ++ 32 :: (flat qs ++ D) := by
        have e1 : flat (q :: qs) = (q ++ [32]) ++ flat qs := rfl
        rw [e1, List.append_assoc, List.append_assoc] at h
        exact h
      have := same_end (hq q List.mem_cons_self) (he e List.mem_cons_self) (.inr rfl) h.symm
      exact absurd this.2.1 (by decide)
  | e :: e' :: es, qs, D, _, he, hq, h => by
    cases qs with
    | nil => simp
    | cons q qs =>
      have h : q ++ 32 :: (flat qs ++ D) = e ++ 32 :: (TL.joinL [32] (e' :: es) ++ [41]) := by
        have e1 : flat (q :: qs) = (q ++ [32]) ++ flat qs := rfl
        rw [e1, join_cons, List.append_assoc, List.append_assoc, List.append_assoc] at h
        exact h.symm
      obtain ⟨_, _, h3⟩ := same_end (hq q List.mem_cons_self) (he e List.mem_cons_self) (.inl rfl) h
      have := run_le (es := e' :: es) (qs := qs) (D := D) (by simp) (fun x hx => he x (List.mem_cons_of_mem _ hx)) (fun x hx => hq x (List.mem_cons_of_mem _ hx)) h3.symm
      simp at this ⊢
      omega
/-- blanks at one level: few, or all within one entry -/
theorem run_in : ∀ {es qs : List (List Nat)} {C D : List Nat}, es ≠ [] → (∀ e ∈ es, wk 0 e = some 0) → (∀ q ∈ qs, bal q) → TL.joinL [32] es ++ [41] = C ++ 32 :: (flat qs ++ D) →
    qs.length + 2 ≤ es.length ∨ ∃ e ∈ es, ∃ C' D', e = C' ++ 32 :: (flat qs ++ D')
  | [], qs, C, D, hne, _, _, _ => absurd rfl hne
  | [e], qs, C, D, _, he, hq, h => by
    have h : e ++ [41] = C ++ 32 :: (flat qs ++ D) := h
    refine .inr ⟨e, List.mem_cons_self, ?_⟩
    rcases List.append_eq_append_iff.mp h with ⟨a', ea, eb⟩ | ⟨c', ea, eb⟩
    · cases a' with
      | nil => rw [List.nil_append] at eb; injection eb with e1 _; exact absurd e1 (by decide)
      | cons z zs =>
        rw [List.cons_append] at eb
        injection eb with e1 e2
        have : ([] : List Nat) = zs ++ 32 :: (flat qs ++ D) := e2
        simp at this
    · cases c' with
      | nil => rw [List.nil_append] at eb; injection eb with e1 _; exact absurd e1 (by decide)
      | cons z zs =>
        rw [List.cons_append] at eb
        injection eb with e1 e2
        subst e1
        have hR := in_blank (he e List.mem_cons_self) ea
        obtain ⟨D', hD⟩ := stays hq hR e2.symm
        exact ⟨C, D', by rw [ea, hD]⟩
  | e :: e' :: es, qs, C, D, _, he, hq, h => by
    have h : e ++ (32 :: (TL.joinL [32] (e' :: es) ++ [41])) = C ++ 32 :: (flat qs ++ D) := by
      rw [join_cons, List.append_assoc] at h
      exact h
    have rest : ∀ {C2 : List Nat}, TL.joinL [32] (e' :: es) ++ [41] = C2 ++ 32 :: (flat qs ++ D) → qs.length + 2 ≤ (e :: e' :: es).length ∨ ∃ x ∈ e :: e' :: es, ∃ C' D', x = C' ++ 32 :: (flat qs ++ D') := fun h2 => by
      rcases run_in (es := e' :: es) (by simp) (fun x hx => he x (List.mem_cons_of_mem _ hx)) hq h2 with g | ⟨x, hx, g⟩
      · exact .inl (by simp at g ⊢; omega)
      · exact .inr ⟨x, List.mem_cons_of_mem _ hx, g⟩
    have top : ∀ {X : List Nat}, TL.joinL [32] (e' :: es) ++ [41] = flat qs ++ D → qs.length + 2 ≤ (e :: e' :: es).length := fun h2 => by
      have := run_le (es := e' :: es) (by simp) (fun x hx => he x (List.mem_cons_of_mem _ hx)) hq h2
      simp at this ⊢
      omega
    rcases List.append_eq_append_iff.mp h with ⟨a', ea, eb⟩ | ⟨c', ea, eb⟩
    · cases a' with
      | nil =>
        rw [List.nil_append] at eb
        injection eb with _ e2
        exact .inl (top (X := []) e2)
      | cons z zs =>
        rw [List.cons_append] at eb
        injection eb with e1 e2
        exact rest e2
    · cases c' with
      | nil =>
        rw [List.nil_append] at eb
        injection eb with _ e2
        exact .inl (top (X := []) e2.symm)
      | cons z zs =>
        rw [List.cons_append] at eb
        injection eb with e1 e2
        subst e1
        have hR := in_blank (he e List.mem_cons_self) ea
        obtain ⟨D', hD⟩ := stays hq hR e2.symm
        exact .inr ⟨e, List.mem_cons_self, C, D', by rw [ea, hD]⟩
/-- an opening bracket within, with its word: it lies within one entry -/
theorem open_in : ∀ {es : List (List Nat)} {p A C : List Nat}, es ≠ [] → (∀ e ∈ es, wk 0 e = some 0) → bal p → TL.joinL [32] es ++ [41] = A ++ 40 :: (p ++ 32 :: C) → ∃ e ∈ es, ∃ A' C', e = A' ++ 40 :: (p ++ 32 :: C')
  | [], p, A, C, hne, _, _, _ => absurd rfl hne
  | [e], p, A, C, _, he, hp, h => by
    have h : e ++ [41] = A ++ 40 :: (p ++ 32 :: C) := h
    refine ⟨e, List.mem_cons_self, ?_⟩
    rcases List.append_eq_append_iff.mp h with ⟨a', ea, eb⟩ | ⟨c', ea, eb⟩
    · cases a' with
      | nil => rw [List.nil_append] at eb; injection eb with e1 _; exact absurd e1 (by decide)
      | cons z zs =>
        rw [List.cons_append] at eb
        injection eb with e1 e2
        have : ([] : List Nat) = zs ++ 40 :: (p ++ 32 :: C) := e2
        simp at this
    · cases c' with
      | nil => rw [List.nil_append] at eb; injection eb with e1 _; exact absurd e1 (by decide)
      | cons z zs =>
        rw [List.cons_append] at eb
        injection eb with e1 e2
        subst e1
        have hR := in_open (he e List.mem_cons_self) ea
        have e3 : zs ++ [41] = flat [p] ++ C := by
          rw [← e2]
          show p ++ 32 :: C = ((p ++ [32]) ++ []) ++ C
          simp
        obtain ⟨D', hD⟩ := stays (qs := [p]) (by simpa using hp) hR e3
        refine ⟨A, D', ?_⟩
        rw [ea, hD]
        show A ++ 40 :: (((p ++ [32]) ++ []) ++ D') = _
        simp
  | e :: e' :: es, p, A, C, _, he, hp, h => by
    have h : e ++ (32 :: (TL.joinL [32] (e' :: es) ++ [41])) = A ++ 40 :: (p ++ 32 :: C) := by
      rw [join_cons, List.append_assoc] at h
      exact h
    have rest : ∀ {A2 : List Nat}, TL.joinL [32] (e' :: es) ++ [41] = A2 ++ 40 :: (p ++ 32 :: C) → ∃ x ∈ e :: e' :: es, ∃ A' C', x = A' ++ 40 :: (p ++ 32 :: C') := fun h2 => by
      obtain ⟨x, hx, g⟩ := open_in (es := e' :: es) (by simp) (fun x hx => he x (List.mem_cons_of_mem _ hx)) hp h2
      exact ⟨x, List.mem_cons_of_mem _ hx, g⟩
    rcases List.append_eq_append_iff.mp h with ⟨a', ea, eb⟩ | ⟨c', ea, eb⟩
    · cases a' with
      | nil => rw [List.nil_append] at eb; injection eb with e1 _; exact absurd e1 (by decide)
      | cons z zs =>
        rw [List.cons_append] at eb
        injection eb with e1 e2
        exact rest e2
    · cases c' with
      | nil => rw [List.nil_append] at eb; injection eb with e1 _; exact absurd e1 (by decide)
      | cons z zs =>
        rw [List.cons_append] at eb
        injection eb with e1 e2
        subst e1
        have hR := in_open (he e List.mem_cons_self) ea
        have e3 : zs ++ (32 :: (TL.joinL [32] (e' :: es) ++ [41])) = flat [p] ++ C := by
          rw [← e2]
          show p ++ 32 :: C = ((p ++ [32]) ++ []) ++ C
          simp
        obtain ⟨D', hD⟩ := stays (qs := [p]) (by simpa using hp) hR e3
        refine ⟨e, List.mem_cons_self, A, D', ?_⟩
        rw [ea, hD]
        show A ++ 40 :: (((p ++ [32]) ++ []) ++ D') = _
        simp
end K81
set_option maxHeartbeats 1000000
namespace K81
open Dl PySem PySem.NumText
theorem no_mem {e A B : List Nat} {c : Nat} (h : c ∉ e) (q : e = A ++ c :: B) : False := h (by rw [q]; simp)
theorem wl_no32 (w : W2) : 32 ∉ w.l := by cases w <;> decide
theorem wl_no40 (w : W2) : 40 ∉ w.l := by cases w <;> decide
theorem num_no32 {i : Int} : 32 ∉ nt i := nt_free (by omega)
theorem num_no40 {i : Int} : 40 ∉ nt i := nt_free (by omega)
theorem wor_no32 {a b : Int} : 32 ∉ (F.wor a b).txt := by
  show 32 ∉ 64 :: (nt a ++ 46 :: nt b)
  simp [num_no32]
theorem wor_no40 {a b : Int} : 40 ∉ (F.wor a b).txt := by
  show 40 ∉ 64 :: (nt a ++ 46 :: nt b)
  simp [num_no40]
theorem cons_of {l C X : List Nat} {c : Nat} (h : 40 :: l = C ++ c :: X) (hc : c ≠ 40) : ∃ C', l = C' ++ c :: X := by
  cases C with
  | nil => rw [List.nil_append] at h; injection h with e _; exact absurd e.symm hc
  | cons z C => rw [List.cons_append] at h; injection h with _ e; exact ⟨C, e⟩
theorem no4 : ∀ f : F, f.deep ≤ 40 → ∀ (qs : List (List Nat)) (C D : List Nat), (∀ q ∈ qs, bal q) → f.txt = C ++ 32 :: (flat qs ++ D) → qs.length ≤ 2
  | .num i, hd, qs, C, D, hq, h => (no_mem (num_no32 (i := i)) h).elim
  | .wor a b, hd, qs, C, D, hq, h => (no_mem wor_no32 h).elim
  | .two w a b, hd, qs, C, D, hq, h => by
    unfold F.deep at hd
    rw [txt_two] at h
    obtain ⟨C', h⟩ := cons_of h (by decide)
    rcases run_in (es := [w.l, a.txt, b.txt]) (by simp) (by
      intro e he
      simp only [List.mem_cons, List.not_mem_nil, or_false] at he
      rcases he with rfl | rfl | rfl
      · exact w_plain w
      · exact wk_txt a (by omega)
      · exact wk_txt b (by omega)) hq h with g | ⟨e, he, C2, D2, g⟩
    · simp at g; omega
    · simp only [List.mem_cons, List.not_mem_nil, or_false] at he
      rcases he with rfl | rfl | rfl
      · exact (no_mem (wl_no32 w) g).elim
      · exact no4 a (by omega) qs C2 D2 hq g
      · exact no4 b (by omega) qs C2 D2 hq g
  | .pick a b c, hd, qs, C, D, hq, h => by
    unfold F.deep at hd
    rw [txt_pick] at h
    obtain ⟨C', h⟩ := cons_of h (by decide)
    rcases run_in (es := [pickL, a.txt, b.txt, c.txt]) (by simp) (by
      intro e he
      simp only [List.mem_cons, List.not_mem_nil, or_false] at he
      rcases he with rfl | rfl | rfl | rfl
      · exact wk_plain _ _ (by decide)
      · exact wk_txt a (by omega)
      · exact wk_txt b (by omega)
      · exact wk_txt c (by omega)) hq h with g | ⟨e, he, C2, D2, g⟩
    · simp at g; omega
    · simp only [List.mem_cons, List.not_mem_nil, or_false] at he
      rcases he with rfl | rfl | rfl | rfl
      · exact (no_mem (show 32 ∉ pickL by decide) g).elim
      · exact no4 a (by omega) qs C2 D2 hq g
      · exact no4 b (by omega) qs C2 D2 hq g
      · exact no4 c (by omega) qs C2 D2 hq g
  | .times k a, hd, qs, C, D, hq, h => by
    unfold F.deep at hd
    rw [txt_times] at h
    obtain ⟨C', h⟩ := cons_of h (by decide)
    rcases run_in (es := [timesL, nt k, a.txt]) (by simp) (by
      intro e he
      simp only [List.mem_cons, List.not_mem_nil, or_false] at he
      rcases he with rfl | rfl | rfl
      · exact wk_plain _ _ (by decide)
      · exact nt_plain
      · exact wk_txt a (by omega)) hq h with g | ⟨e, he, C2, D2, g⟩
    · simp at g; omega
    · simp only [List.mem_cons, List.not_mem_nil, or_false] at he
      rcases he with rfl | rfl | rfl
      · exact (no_mem (show 32 ∉ timesL by decide) g).elim
      · exact (no_mem num_no32 g).elim
      · exact no4 a (by omega) qs C2 D2 hq g
  | .rest k a, hd, qs, C, D, hq, h => by
    unfold F.deep at hd
    rw [txt_rest] at h
    obtain ⟨C', h⟩ := cons_of h (by decide)
    rcases run_in (es := [restL, nt k, a.txt]) (by simp) (by
      intro e he
      simp only [List.mem_cons, List.not_mem_nil, or_false] at he
      rcases he with rfl | rfl | rfl
      · exact wk_plain _ _ (by decide)
      · exact nt_plain
      · exact wk_txt a (by omega)) hq h with g | ⟨e, he, C2, D2, g⟩
    · simp at g; omega
    · simp only [List.mem_cons, List.not_mem_nil, or_false] at he
      rcases he with rfl | rfl | rfl
      · exact (no_mem (show 32 ∉ restL by decide) g).elim
      · exact (no_mem num_no32 g).elim
      · exact no4 a (by omega) qs C2 D2 hq g
theorem word_at {w : List Nat} {x : List Nat} {es : List (List Nat)} {A p C : List Nat} (hw : wk 0 w = some 0) (hp : bal p) (h : 40 :: (TL.joinL [32] (w :: x :: es) ++ [41]) = A ++ 40 :: (p ++ 32 :: C)) :
    p = w ∨ ∃ A', TL.joinL [32] (w :: x :: es) ++ [41] = A' ++ 40 :: (p ++ 32 :: C) := by
  cases A with
  | nil =>
    rw [List.nil_append] at h
    injection h with _ e
    rw [join_cons, List.append_assoc] at e
    exact .inl (same_end hp hw (.inl rfl) e.symm).1
  | cons z A => rw [List.cons_append] at h; injection h with _ e; exact .inr ⟨A, e⟩
theorem noW : ∀ f : F, f.deep ≤ 40 → ∀ (A p C : List Nat), bal p → f.txt = A ++ 40 :: (p ++ 32 :: C) → known p
  | .num i, hd, A, p, C, hp, h => (no_mem (num_no40 (i := i)) h).elim
  | .wor a b, hd, A, p, C, hp, h => (no_mem wor_no40 h).elim
  | .two w a b, hd, A, p, C, hp, h => by
    unfold F.deep at hd
    rw [txt_two] at h
    rcases word_at (w_plain w) hp h with e | ⟨A', h⟩
    · exact .inl ⟨w, e⟩
    · obtain ⟨e, he, A2, C2, g⟩ := open_in (es := [w.l, a.txt, b.txt]) (by simp) (by
        intro e he
        simp only [List.mem_cons, List.not_mem_nil, or_false] at he
        rcases he with rfl | rfl | rfl
        · exact w_plain w
        · exact wk_txt a (by omega)
        · exact wk_txt b (by omega)) hp h
      simp only [List.mem_cons, List.not_mem_nil, or_false] at he
      rcases he with rfl | rfl | rfl
      · exact (no_mem (wl_no40 w) g).elim
      · exact noW a (by omega) A2 p C2 hp g
      · exact noW b (by omega) A2 p C2 hp g
  | .pick a b c, hd, A, p, C, hp, h => by
    unfold F.deep at hd
    rw [txt_pick] at h
    rcases word_at (wk_plain _ _ (by decide)) hp h with e | ⟨A', h⟩
    · exact .inr (.inl e)
    · obtain ⟨e, he, A2, C2, g⟩ := open_in (es := [pickL, a.txt, b.txt, c.txt]) (by simp) (by
        intro e he
        simp only [List.mem_cons, List.not_mem_nil, or_false] at he
        rcases he with rfl | rfl | rfl | rfl
        · exact wk_plain _ _ (by decide)
        · exact wk_txt a (by omega)
        · exact wk_txt b (by omega)
        · exact wk_txt c (by omega)) hp h
      simp only [List.mem_cons, List.not_mem_nil, or_false] at he
      rcases he with rfl | rfl | rfl | rfl
      · exact (no_mem (show 40 ∉ pickL by decide) g).elim
      · exact noW a (by omega) A2 p C2 hp g
      · exact noW b (by omega) A2 p C2 hp g
      · exact noW c (by omega) A2 p C2 hp g
  | .times k a, hd, A, p, C, hp, h => by
    unfold F.deep at hd
    rw [txt_times] at h
    rcases word_at (wk_plain _ _ (by decide)) hp h with e | ⟨A', h⟩
    · exact .inr (.inr (.inl e))
    · obtain ⟨e, he, A2, C2, g⟩ := open_in (es := [timesL, nt k, a.txt]) (by simp) (by
        intro e he
        simp only [List.mem_cons, List.not_mem_nil, or_false] at he
        rcases he with rfl | rfl | rfl
        · exact wk_plain _ _ (by decide)
        · exact nt_plain
        · exact wk_txt a (by omega)) hp h
      simp only [List.mem_cons, List.not_mem_nil, or_false] at he
      rcases he with rfl | rfl | rfl
      · exact (no_mem (show 40 ∉ timesL by decide) g).elim
      · exact (no_mem num_no40 g).elim
      · exact noW a (by omega) A2 p C2 hp g
  | .rest k a, hd, A, p, C, hp, h => by
    unfold F.deep at hd
    rw [txt_rest] at h
    rcases word_at (wk_plain _ _ (by decide)) hp h with e | ⟨A', h⟩
    · exact .inr (.inr (.inr e))
    · obtain ⟨e, he, A2, C2, g⟩ := open_in (es := [restL, nt k, a.txt]) (by simp) (by
        intro e he
        simp only [List.mem_cons, List.not_mem_nil, or_false] at he
        rcases he with rfl | rfl | rfl
        · exact wk_plain _ _ (by decide)
        · exact nt_plain
        · exact wk_txt a (by omega)) hp h
      simp only [List.mem_cons, List.not_mem_nil, or_false] at he
      rcases he with rfl | rfl | rfl
      · exact (no_mem (show 40 ∉ restL by decide) g).elim
      · exact (no_mem num_no40 g).elim
      · exact noW a (by omega) A2 p C2 hp g
/-! ### a run of blanks, cut at a seam -/
/-- W goes on, behind some signs, with N blanks at one level -/
def Bl (N : Nat) (W : List Nat) : Prop := ∃ (C : List Nat) (ps : List (List Nat)) (B : List Nat), W = C ++ 32 :: (flat ps ++ B) ∧ ps.length + 1 = N ∧ ∀ q ∈ ps, bal q
theorem strip : ∀ (ps : List (List Nat)) {C B Z V : List Nat}, (∀ q ∈ ps, bal q) → Z ++ V = C ++ 32 :: (flat ps ++ B) →
    Bl (ps.length + 1) V ∨ ∃ (ps1 : List (List Nat)) (D : List Nat), Z = C ++ 32 :: (flat ps1 ++ D) ∧ (∀ q ∈ ps1, bal q) ∧ (ps1.length = ps.length ∨ (ps1.length < ps.length ∧ Bl (ps.length - ps1.length) V))
  | ps, C, B, Z, V, hq, h => by
    rcases List.append_eq_append_iff.mp h with ⟨a', ea, eb⟩ | ⟨c', ea, eb⟩
    · exact .inl ⟨a', ps, B, eb, rfl, hq⟩
    · cases c' with
      | nil =>
        rw [List.nil_append] at eb
        exact .inl ⟨[], ps, B, eb.symm, rfl, hq⟩
      | cons z zs =>
        rw [List.cons_append] at eb
        injection eb with e1 e2
        subst e1
        cases ps with
        | nil => exact .inr ⟨[], zs, ea, (fun _ h => nomatch h), .inl rfl⟩
        | cons q ps =>
          have e3 : zs ++ V = q ++ 32 :: (flat ps ++ B) := by
            rw [← e2]
            show ((q ++ [32]) ++ flat ps) ++ B = _
            simp
          rcases strip ps (fun x hx => hq x (List.mem_cons_of_mem _ hx)) e3 with g | ⟨ps1, D, g1, g2, g3⟩
          · exact .inr ⟨[], zs, ea, (fun _ h => nomatch h), .inr ⟨by simp, g⟩⟩
          · refine .inr ⟨q :: ps1, D, ?_, fun x hx => ?_, ?_⟩
            · rw [ea, g1]
              show C ++ 32 :: (q ++ 32 :: (flat ps1 ++ D)) = C ++ 32 :: (((q ++ [32]) ++ flat ps1) ++ D)
              simp
            · rcases List.mem_cons.mp hx with rfl | hx
              · exact hq x List.mem_cons_self
              · exact g2 x hx
            · rcases g3 with g3 | ⟨g3, g4⟩
              · exact .inl (by simp [g3])
              · refine .inr ⟨by simp; omega, ?_⟩
                rw [List.length_cons, List.length_cons, Nat.add_sub_add_right]
                exact g4
theorem flat_count : ∀ ps : List (List Nat), ps.length ≤ (flat ps).count 32
  | [] => Nat.le_refl _
  | p :: ps => by
    have ih := flat_count ps
    have e : flat (p :: ps) = (p ++ [32]) ++ flat ps := rfl
    rw [e, List.count_append, List.count_append, List.length_cons]
    have : ([32] : List Nat).count 32 = 1 := by decide
    omega
/-- a part that comes of T takes at most three of them, a part put in as many as it has -/
theorem strip_seg {T Z V : List Nat} {N : Nat} (h4 : ∀ (qs : List (List Nat)) (C D : List Nat), (∀ q ∈ qs, bal q) → T = C ++ 32 :: (flat qs ++ D) → qs.length ≤ 2) {X Y : List Nat} (hz : T = X ++ (Z ++ Y)) (h : Bl N (Z ++ V)) : N ≤ 3 ∨ ∃ N', N ≤ N' + 3 ∧ Bl N' V := by
  obtain ⟨C, ps, B, e, hl, hq⟩ := h
  rcases strip ps hq e with g | ⟨ps1, D, g1, g2, g3⟩
  · exact .inr ⟨_, by omega, g⟩
  · have := h4 ps1 (X ++ C) (D ++ Y) g2 (by rw [hz, g1]; simp)
    rcases g3 with g3 | ⟨g3, g4⟩
    · exact .inl (by omega)
    · exact .inr ⟨_, by omega, g4⟩
theorem strip_ins {Z V : List Nat} {N : Nat} (h : Bl N (Z ++ V)) : N ≤ Z.count 32 ∨ ∃ N', N ≤ N' + Z.count 32 ∧ Bl N' V := by
  obtain ⟨C, ps, B, e, hl, hq⟩ := h
  rcases strip ps hq e with g | ⟨ps1, D, g1, g2, g3⟩
  · exact .inr ⟨_, by omega, g⟩
  · have hc : ps1.length + 1 ≤ Z.count 32 := by
      have := flat_count ps1
      rw [g1, List.count_append, List.count_cons_self, List.count_append]
      omega
    rcases g3 with g3 | ⟨g3, g4⟩
    · exact .inl (by omega)
    · exact .inr ⟨_, by omega, g4⟩
theorem Bl.nil {N : Nat} (h : Bl N []) : False := by
  obtain ⟨C, ps, B, e, _, _⟩ := h
  simp at e
/-- what is left of T when it is bent twice -/
def Cut (T L : List Nat) : Prop := ∃ s0 a t1 b t2 : List Nat, L = s0 ++ (a ++ (t1 ++ (b ++ t2))) ∧ (∃ Y, T = s0 ++ Y) ∧ (∃ X Y, T = X ++ (t1 ++ Y)) ∧ (∃ X Y, T = X ++ (t2 ++ Y)) ∧ a.count 32 + b.count 32 ≤ 2
theorem nonine_cut {T L : List Nat} (h4 : ∀ (qs : List (List Nat)) (C D : List Nat), (∀ q ∈ qs, bal q) → T = C ++ 32 :: (flat qs ++ D) → qs.length ≤ 2) (hW : ∀ A p C : List Nat, bal p → T = A ++ 40 :: (p ++ 32 :: C) → known p) (h : Cut T L) : NoNine L := by
  obtain ⟨s0, a, t1, b, t2, e, ⟨Y0, h0⟩, ⟨X1, Y1, h1⟩, ⟨X2, Y2, h2⟩, hc⟩ := h
  intro A B p ps e2 hl hb
  have hp := hb p List.mem_cons_self
  have hps : ∀ q ∈ ps, bal q := fun q hq => hb q (List.mem_cons_of_mem _ hq)
  have e3 : s0 ++ (a ++ (t1 ++ (b ++ t2))) = (A ++ 40 :: p) ++ 32 :: (flat ps ++ B) := by
    rw [← e, e2]
    show A ++ 40 :: (((p ++ [32]) ++ flat ps) ++ B) = _
    simp
  rcases strip ps hps e3 with g | ⟨ps1, D, g1, _, _⟩
  · have r1 : Bl 9 (a ++ (t1 ++ (b ++ t2))) := by rw [hl] at g; exact g
    rcases strip_ins r1 with q | ⟨n1, q1, r2⟩
    · omega
    · rcases strip_seg h4 h1 r2 with q | ⟨n2, q2, r3⟩
      · omega
      · rcases strip_ins r3 with q | ⟨n3, q3, r4⟩
        · omega
        · rw [← List.append_nil t2] at r4
          rcases strip_seg h4 h2 r4 with q | ⟨n4, q4, r5⟩
          · omega
          · exact r5.nil.elim
  · refine hW A p (flat ps1 ++ D ++ Y0) hp ?_
    rw [h0, g1]
    simp
/-- few blanks: no nine entries -/
theorem nonine_few {L : List Nat} (h : L.count 32 ≤ 8) : NoNine L := by
  intro A B p ps e hl hb
  exfalso
  have h1 := flat_count (p :: ps)
  rw [List.length_cons, hl] at h1
  have h2 : (flat (p :: ps)).count 32 ≤ L.count 32 := by
    rw [e, List.count_append, List.count_cons, List.count_append]
    omega
  omega
/-! ### bending -/
def Bend (L L' : List Nat) : Prop := ∃ s1 m s2 x : List Nat, L = s1 ++ (m ++ s2) ∧ L' = s1 ++ (x ++ s2) ∧ x.count 32 ≤ 1
theorem cut_one {T L : List Nat} (h : Bend T L) : Cut T L := by
  obtain ⟨s1, m, s2, x, e1, e2, hx⟩ := h
  refine ⟨s1, x, s2, [], [], by rw [e2]; simp, ⟨m ++ s2, e1⟩, ⟨s1 ++ m, [], by rw [e1]; simp⟩, ⟨[], T, rfl⟩, ?_⟩
  show x.count 32 + 0 ≤ 2
  omega
theorem cut_two {T L1 L2 : List Nat} (h : Bend T L1) (h' : Bend L1 L2) : Cut T L2 := by
  obtain ⟨s1, m, s2, x, e1, e2, hx⟩ := h
  obtain ⟨u, k, v, y, e3, e4, hy⟩ := h'
  rw [e2] at e3
  -- L1 = s1 ++ x ++ s2 = u ++ k ++ v
  have pre : ∀ {s u r : List Nat}, s1 = s ++ r → ∃ Y, T = s ++ Y := fun {s u r} e => ⟨r ++ (m ++ s2), by rw [e1, e]; simp⟩
  have suf : ∀ {r t : List Nat}, s2 = r ++ t → ∃ X Y, T = X ++ (t ++ Y) := fun {r t} e => ⟨s1 ++ (m ++ r), [], by rw [e1, e]; simp⟩
  have suf2 : ∃ X Y, T = X ++ (s2 ++ Y) := suf (r := []) rfl
  rcases List.append_eq_append_iff.mp e3 with ⟨a', ea, eb⟩ | ⟨c', ea, eb⟩
  · -- u = s1 ++ a'
    rcases List.append_eq_append_iff.mp eb with ⟨a2, ec, ed⟩ | ⟨c2, ec, ed⟩
    · -- a' = x ++ a2, s2 = a2 ++ (k ++ v)
      refine ⟨s1, x, a2, y, v, ?_, pre (u := u) (r := []) (by simp), ⟨s1 ++ m, k ++ v, by rw [e1, ed]; simp⟩, suf (r := a2 ++ k) (by rw [ed]; simp), by omega⟩
      rw [e4, ea, ec]; simp
    · -- x = a' ++ c2, k ++ v = c2 ++ s2
      have hx2 : a'.count 32 + c2.count 32 ≤ 1 := by rw [ec, List.count_append] at hx; exact hx
      rcases List.append_eq_append_iff.mp ed with ⟨a3, ef, eg⟩ | ⟨c3, ef, eg⟩
      · -- c2 = k ++ a3, v = a3 ++ s2
        refine ⟨s1, a' ++ (y ++ a3), s2, [], [], ?_, pre (u := u) (r := []) (by simp), suf2, ⟨[], T, rfl⟩, ?_⟩
        · rw [e4, ea, eg]; simp
        · rw [ef, List.count_append] at hx2
          rw [List.count_append, List.count_append]
          show _ + 0 ≤ 2
          omega
      · -- k = c2 ++ c3, s2 = c3 ++ v
        refine ⟨s1, a' ++ y, v, [], [], ?_, pre (u := u) (r := []) (by simp), suf (r := c3) eg, ⟨[], T, rfl⟩, ?_⟩
        · rw [e4, ea]; simp
        · rw [List.count_append]
          show _ + 0 ≤ 2
          omega
  · -- s1 = u ++ c', k ++ v = c' ++ (x ++ s2)
    rcases List.append_eq_append_iff.mp eb with ⟨a2, ec, ed⟩ | ⟨c2, ec, ed⟩
    · -- c' = k ++ a2, v = a2 ++ (x ++ s2)
      refine ⟨u, y, a2, x, s2, ?_, pre (u := u) ea, ⟨u ++ k, m ++ s2, by rw [e1, ea, ec]; simp⟩, suf2, by omega⟩
      rw [e4, ed]
    · -- k = c' ++ c2, x ++ s2 = c2 ++ v
      rcases List.append_eq_append_iff.mp ed with ⟨a3, ef, eg⟩ | ⟨c3, ef, eg⟩
      · -- c2 = x ++ a3, s2 = a3 ++ v
        refine ⟨u, y, v, [], [], ?_, pre (u := u) ea, suf (r := a3) eg, ⟨[], T, rfl⟩, ?_⟩
        · rw [e4]; simp
        · show _ + 0 ≤ 2
          omega
      · -- x = c2 ++ c3, v = c3 ++ s2
        refine ⟨u, y ++ c3, s2, [], [], ?_, pre (u := u) ea, suf2, ⟨[], T, rfl⟩, ?_⟩
        · rw [e4, eg]; simp
        · rw [ef, List.count_append] at hx
          rw [List.count_append]
          show _ + 0 ≤ 2
          omega
theorem nonine_bent {f : F} {L1 L2 : List Nat} (hd : f.deep ≤ 40) (h : Bend f.txt L1) (h' : Bend L1 L2) : NoNine L1 ∧ NoNine L2 :=
  ⟨nonine_cut (no4 f hd) (noW f hd) (cut_one h), nonine_cut (no4 f hd) (noW f hd) (cut_two h h')⟩
end K81
set_option maxHeartbeats 2000000
set_option exponentiation.threshold 10000
namespace K81
open Dl PySem
theorem T1 {n : Nat} {p k : Int} (hn : 1 ≤ n) (h : 0 < k) (h2 : k ≤ 2000000000) : sem n 16 [.rf [.int p], .d (.int k)] = .ok (.d (.int (p % k))) [.int (p / k)] :=
  take_eq hn h (log_le (Nat.lt_of_lt_of_le (show k.natAbs < 2 ^ 31 by omega) (Nat.pow_le_pow_right (by decide) (by decide))) (by decide))
/-- a leaf -/
theorem leaf_eq {n : Nat} {p most dp way many : Int} (hn : 1 ≤ n) : ∃ (t : F) (p' : Int), t.ok ∧ t.parts = 1 ∧ t.deep = 1 ∧ ∃ ρ, (fSeq (fIf (fTest (fOp eqD (.e (fCall (sem n 16) [.r 0, .v (fC (.int 2))])) (.e (fC (.int 0)))))
    (fRet (fTup [(fC (.str "num")), (fOp addD (.e (fOp subD (.e (fCall (sem n 16) [.r 0, .v (fOp subD (.e (fOp mulD (.e (fC (.int 2))) (.e (fOp powD (.e (fC (.int 10))) (.e (fC (.int 6))))))) (.e (fC (.int 1))))])) (.e (fOp powD (.e (fC (.int 10))) (.e (fC (.int 6))))))) (.e (fC (.int 1))))]))
    fSkip)
    (fSeq (fSet 6 (fCall (sem n 16) [.r 0, .v (fOp ixD (.e (fLst [(fC (.int 3)), (fVar 3)])) (.e (fCall (sem n 16) [.r 0, .v (fC (.int 2))])))]))
    (fRet (fTup [(fC (.str "worth")), (fVar 6), (fCall (sem n 16) [.r 0, .v (fOp ixD (.e (fLst [(fC (.int 4)), (fVar 3)])) (.e (fCall (sem n 16) [.r 0, .v (fC (.int 2))])))])]))))
    [some (.rf [.int p]), some (.d (.int most)), some (.d (.int dp)), some (.d (.int 1000000000)), some (.d (.int way)), some (.d (.int many)), none, none, none, none, none, none] = .ret (.d t.d) ρ ∧ rfOf ρ = [.int p'] := by
  have t2 := fun {p : Int} => T1 (n := n) (p := p) (k := 2) hn (by decide) (by decide)
  have tm := fun {p : Int} => T1 (n := n) (p := p) (k := 1999999) hn (by decide) (by decide)
  have t3 := fun {p : Int} => T1 (n := n) (p := p) (k := 3) hn (by decide) (by decide)
  have t4 := fun {p : Int} => T1 (n := n) (p := p) (k := 4) hn (by decide) (by decide)
  have t9 := fun {p : Int} => T1 (n := n) (p := p) (k := 1000000000) hn (by decide) (by decide)
  have ml : (2 : Int).natAbs.log2 + (1000000 : Int).natAbs.log2 < 1000000 := by decide
  by_cases h0 : p % 2 = 0
  · refine ⟨.num (p / 2 % 1999999 - 1000000 + 1), p / 2 / 1999999, ⟨by omega, by omega⟩, rfl, rfl, ?_⟩
    refine ⟨[some (.rf [.int (p / 2 / 1999999)]), some (.d (.int most)), some (.d (.int dp)), some (.d (.int 1000000000)), some (.d (.int way)), some (.d (.int many)), none, none, none, none, none, none], ?_, rfl⟩
    simp_arith [t2, h0, n10, e6, ml, tm]
    rfl
  · by_cases hb : p / 2 / 2 = p / 2 / 2 ∧ p / 2 % 2 = 0
    · replace hb := hb.2
      by_cases hc : p / 2 / 2 / 3 % 2 = 0
      · refine ⟨.wor (p / 2 / 2 % 3) (p / 2 / 2 / 3 / 2 % 4), p / 2 / 2 / 3 / 2 / 4, ⟨by omega, by omega⟩, rfl, rfl, ?_⟩
        refine ⟨[some (.rf [.int (p / 2 / 2 / 3 / 2 / 4)]), some (.d (.int most)), some (.d (.int dp)), some (.d (.int 1000000000)), some (.d (.int way)), some (.d (.int many)), some (.d (.int (p / 2 / 2 % 3))), none, none, none, none, none], ?_, rfl⟩
        simp_arith [t2, h0, hb, hc, t3, t4, t9]
        rfl
      · replace hc : p / 2 / 2 / 3 % 2 = 1 := by omega
        refine ⟨.wor (p / 2 / 2 % 3) (p / 2 / 2 / 3 / 2 % 1000000000), p / 2 / 2 / 3 / 2 / 1000000000, ⟨by omega, by omega⟩, rfl, rfl, ?_⟩
        refine ⟨[some (.rf [.int (p / 2 / 2 / 3 / 2 / 1000000000)]), some (.d (.int most)), some (.d (.int dp)), some (.d (.int 1000000000)), some (.d (.int way)), some (.d (.int many)), some (.d (.int (p / 2 / 2 % 3))), none, none, none, none, none], ?_, rfl⟩
        simp_arith [t2, h0, hb, hc, t3, t4, t9]
        rfl
    · replace hb : p / 2 % 2 = 1 := by omega
      by_cases hc : p / 2 / 2 / 1000000000 % 2 = 0
      · refine ⟨.wor (p / 2 / 2 % 1000000000) (p / 2 / 2 / 1000000000 / 2 % 4), p / 2 / 2 / 1000000000 / 2 / 4, ⟨by omega, by omega⟩, rfl, rfl, ?_⟩
        refine ⟨[some (.rf [.int (p / 2 / 2 / 1000000000 / 2 / 4)]), some (.d (.int most)), some (.d (.int dp)), some (.d (.int 1000000000)), some (.d (.int way)), some (.d (.int many)), some (.d (.int (p / 2 / 2 % 1000000000))), none, none, none, none, none], ?_, rfl⟩
        simp_arith [t2, h0, hb, hc, t3, t4, t9]
        rfl
      · replace hc : p / 2 / 2 / 1000000000 % 2 = 1 := by omega
        refine ⟨.wor (p / 2 / 2 % 1000000000) (p / 2 / 2 / 1000000000 / 2 % 1000000000), p / 2 / 2 / 1000000000 / 2 / 1000000000, ⟨by omega, by omega⟩, rfl, rfl, ?_⟩
        refine ⟨[some (.rf [.int (p / 2 / 2 / 1000000000 / 2 / 1000000000)]), some (.d (.int most)), some (.d (.int dp)), some (.d (.int 1000000000)), some (.d (.int way)), some (.d (.int many)), some (.d (.int (p / 2 / 2 % 1000000000))), none, none, none, none, none], ?_, rfl⟩
        simp_arith [t2, h0, hb, hc, t3, t4, t9]
        rfl
def leafB (n : Nat) : Ev → RS := (fSeq (fIf (fTest (fOp eqD (.e (fCall (sem n 16) [.r 0, .v (fC (.int 2))])) (.e (fC (.int 0)))))
    (fRet (fTup [(fC (.str "num")), (fOp addD (.e (fOp subD (.e (fCall (sem n 16) [.r 0, .v (fOp subD (.e (fOp mulD (.e (fC (.int 2))) (.e (fOp powD (.e (fC (.int 10))) (.e (fC (.int 6))))))) (.e (fC (.int 1))))])) (.e (fOp powD (.e (fC (.int 10))) (.e (fC (.int 6))))))) (.e (fC (.int 1))))]))
    fSkip)
    (fSeq (fSet 6 (fCall (sem n 16) [.r 0, .v (fOp ixD (.e (fLst [(fC (.int 3)), (fVar 3)])) (.e (fCall (sem n 16) [.r 0, .v (fC (.int 2))])))]))
    (fRet (fTup [(fC (.str "worth")), (fVar 6), (fCall (sem n 16) [.r 0, .v (fOp ixD (.e (fLst [(fC (.int 4)), (fVar 3)])) (.e (fCall (sem n 16) [.r 0, .v (fC (.int 2))])))])]))))
theorem fb17_eq (n : Nat) : fb17 (sem n) =
  (fSeq (fSet 4 (fCall (sem n 16) [.r 0, .v (fC (.int 10))]))
    (fSeq (fSet 5 (fOp ixD (.e (fLst [(fC (.int 0)), (fC (.int 0)), (fC (.int 0)), (fC (.int 2)), (fC (.int 2)), (fC (.int 2)), (fC (.int 2)), (fC (.int 1)), (fC (.int 1)), (fC (.int 3))])) (.n 4)))
    (fSeq (fIf (fOrT (fTest (fOp eqD (.n 2) (.e (fC (.int 1))))) (fOrT (fTest (fOp eqD (.n 5) (.e (fC (.int 0))))) (fTest (fOp ltD (.n 1) (.e (fOp addD (.e (fC (.int 1))) (.n 5)))))))
    (leafB n)
    fSkip)
    (fSeq (fSet 7 (fOp subD (.e (fOp subD (.n 1) (.e (fC (.int 1))))) (.n 5)))
    (fSeq (fSet 8 (fLst []))
    (fSeq (fFor (fun ρ => RI.of ((fVar 5) ρ) kRng) (.n 9)
    (fSeq (fSet 10 (fCall (sem n 16) [.r 0, .v (fOp addD (.n 7) (.e (fC (.int 1))))]))
    (fSeq (fSet 7 (fOp subD (.n 7) (.n 10)))
    (fApp 8 (fCall (sem n 17) [.r 0, .v (fOp addD (.e (fC (.int 1))) (.n 10)), .v (fOp subD (.n 2) (.e (fC (.int 1)))), .v (fVar 3)])))))
    (fSeq (fSet 11 (fOp ixD (.e (fLst [(fC (.str "sum")), (fC (.str "less")), (fC (.str "least")), (fC (.str "greatest")), (fC (.str "times")), (fC (.str "rest")), (fC (.str "pick"))])) (.e (fOp subD (.n 4) (.e (fC (.int 3)))))))
    (fSeq (fIf (fTest (fOp eqD (.n 11) (.e (fC (.str "times")))))
    (fRet (fTup [(fVar 11), (fOp subD (.e (fCall (sem n 16) [.r 0, .v (fC (.int 19999))])) (.e (fC (.int 9999)))), (fOp ixD (.n 8) (.e (fC (.int 0))))]))
    fSkip)
    (fSeq (fIf (fTest (fOp eqD (.n 11) (.e (fC (.str "rest")))))
    (fRet (fTup [(fVar 11), (fOp addD (.e (fC (.int 1))) (.e (fCall (sem n 16) [.r 0, .v (fC (.int 9999))]))), (fOp ixD (.n 8) (.e (fC (.int 0))))]))
    fSkip)
    (fRet (fUn tupleD (.e (fOp addD (.e (fLst [(fVar 11)])) (.n 8)))))))))))))) := rfl
theorem ix_many {w : Int} (h : 0 ≤ w ∧ w ≤ 9) : ixD (.list [.int 0, .int 0, .int 0, .int 2, .int 2, .int 2, .int 2, .int 1, .int 1, .int 3]) (.int w) = some (.d (.int (if w < 3 then 0 else if w < 7 then 2 else if w < 9 then 1 else 3))) := by
  have : w = 0 ∨ w = 1 ∨ w = 2 ∨ w = 3 ∨ w = 4 ∨ w = 5 ∨ w = 6 ∨ w = 7 ∨ w = 8 ∨ w = 9 := by omega
  rcases this with e | e | e | e | e | e | e | e | e | e <;> subst e <;> rfl

theorem up1 : kRng (.int 1) = some [.int 0] := by rfl
theorem up2 : kRng (.int 2) = some [.int 0, .int 1] := by rfl
theorem up3 : kRng (.int 3) = some [.int 0, .int 1, .int 2] := by rfl
theorem grown_eq : ∀ (dp : Nat) {n : Nat} {p most : Int}, 1 ≤ dp → 1 ≤ most → most ≤ 15 → dp + 1 ≤ n → ∃ (t : F) (p' : Int), t.ok ∧ t.parts ≤ most ∧ t.deep ≤ dp ∧ sem n 17 [.rf [.int p], .d (.int most), .d (.int dp), .d (.int 1000000000)] = .ok (.d t.d) [.int p']
  | 0, _, _, _, h, _, _, _ => by omega
  | dp + 1, n, p, most, h1, hm, hm2, hn => by
    obtain ⟨n, rfl⟩ : ∃ m, n = m + 1 := ⟨n - 1, by omega⟩
    have t10 := T1 (n := n) (p := p) (k := 10) (by omega) (by decide) (by decide)
    have hw : 0 ≤ p % 10 ∧ p % 10 ≤ 9 := by omega
    have im := ix_many hw
    generalize hW : p % 10 = w at *
    generalize hP : p / 10 = p1 at *
    obtain ⟨tl, pl, o1, o2, o3, ρ, el, er⟩ := leaf_eq (n := n) (p := p1) (most := most) (dp := ((dp + 1 : Nat) : Int)) (way := w) (many := if w < 3 then 0 else if w < 7 then 2 else if w < 9 then 1 else 3) (by omega)
    have el : leafB n _ = _ := el
    simp only [sem_succ, bodyOf]
    rw [fb17_eq]
    by_cases hleaf : dp = 0 ∨ w < 3 ∨ most < 1 + (if w < 3 then 0 else if w < 7 then 2 else if w < 9 then 1 else 3 : Int)
    · refine ⟨tl, pl, o1, by omega, by omega, ?_⟩
      generalize hM : (if w < 3 then 0 else if w < 7 then 2 else if w < 9 then 1 else 3 : Int) = M at *
      have c0 : (w < 3) = (M = 0) := by
        rw [← hM]
        by_cases h3 : w < 3
        · simp [h3]
        · simp [h3]; split <;> first | decide | (split <;> decide)
      by_cases hd : ((dp + 1 : Nat) : Int) = 1
      · have hd' := eq_true hd
        simp_arith [t10, im, hd', el, er]
      · have hd' := eq_false hd
        by_cases hm0 : M = 0
        · have hm' := eq_true hm0
          simp_arith [t10, im, hd', hm', el, er]
        · have hm' := eq_false hm0
          have h3 : most < 1 + M := by
            rcases hleaf with h | h | h
            · omega
            · rw [c0] at h; omega
            · exact h
          simp_arith [t10, im, hd', hm', h3, el, er]
    · have hdn : ¬ dp = 0 := fun h => hleaf (.inl h)
      have hw3 : ¬ w < 3 := fun h => hleaf (.inr (.inl h))
      have hM3 : ¬ most < 1 + (if w < 3 then 0 else if w < 7 then 2 else if w < 9 then 1 else 3 : Int) := fun h => hleaf (.inr (.inr h))
      have hd' := eq_false (show ¬ ((dp + 1 : Nat) : Int) = 1 by omega)
      have hdp : ((dp + 1 : Nat) : Int) - 1 = (dp : Int) := by omega
      by_cases w7 : w < 7
      · rw [if_neg hw3, if_pos w7] at im hM3
        have hm2 : ¬ most < 3 := by omega
        have k1 := T1 (n := n) (p := p1) (k := most - 1 - 2 + 1) (by omega) (by omega) (by omega)
        have q0 := Int.emod_nonneg p1 (show (most - 1 - 2 + 1 : Int) ≠ 0 by omega)
        have q1 := Int.emod_lt_of_pos p1 (show (0 : Int) < most - 1 - 2 + 1 by omega)
        generalize p1 % (most - 1 - 2 + 1) = s1 at k1 q0 q1
        generalize p1 / (most - 1 - 2 + 1) = p2 at k1
        obtain ⟨a, p3, a1, a2, a3, ea⟩ := grown_eq dp (n := n) (p := p2) (most := 1 + s1) (by omega) (by omega) (by omega) (by omega)
        have k2 := T1 (n := n) (p := p3) (k := most - 1 - 2 - s1 + 1) (by omega) (by omega) (by omega)
        have r0 := Int.emod_nonneg p3 (show (most - 1 - 2 - s1 + 1 : Int) ≠ 0 by omega)
        have r1 := Int.emod_lt_of_pos p3 (show (0 : Int) < most - 1 - 2 - s1 + 1 by omega)
        generalize p3 % (most - 1 - 2 - s1 + 1) = s2 at k2 r0 r1
        generalize p3 / (most - 1 - 2 - s1 + 1) = p4 at k2
        obtain ⟨b, p5, b1, b2, b3, eb⟩ := grown_eq dp (n := n) (p := p4) (most := 1 + s2) (by omega) (by omega) (by omega) (by omega)
        obtain ⟨wd, iw⟩ : ∃ wd : W2, ixD (.list [.str "sum", .str "less", .str "least", .str "greatest", .str "times", .str "rest", .str "pick"]) (.int (w - 3)) = some (.d (.str wd.s)) := by
          have : w = 3 ∨ w = 4 ∨ w = 5 ∨ w = 6 := by omega
          rcases this with e | e | e | e <;> subst e
          · exact ⟨.sum, rfl⟩
          · exact ⟨.less, rfl⟩
          · exact ⟨.least, rfl⟩
          · exact ⟨.greatest, rfl⟩
        refine ⟨.two wd a b, p5, ⟨a1, b1⟩, by unfold F.parts; omega, by unfold F.deep; omega, ?_⟩
        simp_arith [t10, im, hd', hm2, up2, k1, hdp, ea, k2, eb, iw, w_tim, w_res, F.d]
      · by_cases w9 : w < 9
        · rw [if_neg hw3, if_neg w7, if_pos w9] at im hM3
          have hm2 : ¬ most < 2 := by omega
          have k1 := T1 (n := n) (p := p1) (k := most - 1 - 1 + 1) (by omega) (by omega) (by omega)
          have q0 := Int.emod_nonneg p1 (show (most - 1 - 1 + 1 : Int) ≠ 0 by omega)
          have q1 := Int.emod_lt_of_pos p1 (show (0 : Int) < most - 1 - 1 + 1 by omega)
          generalize p1 % (most - 1 - 1 + 1) = s1 at k1 q0 q1
          generalize p1 / (most - 1 - 1 + 1) = p2 at k1
          obtain ⟨a, p3, a1, a2, a3, ea⟩ := grown_eq dp (n := n) (p := p2) (most := 1 + s1) (by omega) (by omega) (by omega) (by omega)
          have k2 := T1 (n := n) (p := p3) (k := 19999) (by omega) (by decide) (by decide)
          have k3 := T1 (n := n) (p := p3) (k := 9999) (by omega) (by decide) (by decide)
          have : w = 7 ∨ w = 8 := by omega
          rcases this with e | e
          · refine ⟨.times (p3 % 19999 - 9999) a, p3 / 19999, ⟨⟨by omega, by omega⟩, a1⟩, by unfold F.parts; omega, by unfold F.deep; omega, ?_⟩
            have iw : ixD (.list [.str "sum", .str "less", .str "least", .str "greatest", .str "times", .str "rest", .str "pick"]) (.int (w - 3)) = some (.d (.str "times")) := by subst e; rfl
            simp_arith [t10, im, hd', hm2, up1, k1, hdp, ea, k2, iw, tt, F.d]
          · refine ⟨.rest (1 + p3 % 9999) a, p3 / 9999, ⟨⟨by omega, by omega⟩, a1⟩, by unfold F.parts; omega, by unfold F.deep; omega, ?_⟩
            have iw : ixD (.list [.str "sum", .str "less", .str "least", .str "greatest", .str "times", .str "rest", .str "pick"]) (.int (w - 3)) = some (.d (.str "rest")) := by subst e; rfl
            simp_arith [t10, im, hd', hm2, up1, k1, hdp, ea, k3, iw, rt, rr, F.d]
        · rw [if_neg hw3, if_neg w7, if_neg w9] at im hM3
          have hm2 : ¬ most < 4 := by omega
          have k1 := T1 (n := n) (p := p1) (k := most - 1 - 3 + 1) (by omega) (by omega) (by omega)
          have q0 := Int.emod_nonneg p1 (show (most - 1 - 3 + 1 : Int) ≠ 0 by omega)
          have q1 := Int.emod_lt_of_pos p1 (show (0 : Int) < most - 1 - 3 + 1 by omega)
          generalize p1 % (most - 1 - 3 + 1) = s1 at k1 q0 q1
          generalize p1 / (most - 1 - 3 + 1) = p2 at k1
          obtain ⟨a, p3, a1, a2, a3, ea⟩ := grown_eq dp (n := n) (p := p2) (most := 1 + s1) (by omega) (by omega) (by omega) (by omega)
          have k2 := T1 (n := n) (p := p3) (k := most - 1 - 3 - s1 + 1) (by omega) (by omega) (by omega)
          have r0 := Int.emod_nonneg p3 (show (most - 1 - 3 - s1 + 1 : Int) ≠ 0 by omega)
          have r1 := Int.emod_lt_of_pos p3 (show (0 : Int) < most - 1 - 3 - s1 + 1 by omega)
          generalize p3 % (most - 1 - 3 - s1 + 1) = s2 at k2 r0 r1
          generalize p3 / (most - 1 - 3 - s1 + 1) = p4 at k2
          obtain ⟨b, p5, b1, b2, b3, eb⟩ := grown_eq dp (n := n) (p := p4) (most := 1 + s2) (by omega) (by omega) (by omega) (by omega)
          have k3 := T1 (n := n) (p := p5) (k := most - 1 - 3 - s1 - s2 + 1) (by omega) (by omega) (by omega)
          have u0 := Int.emod_nonneg p5 (show (most - 1 - 3 - s1 - s2 + 1 : Int) ≠ 0 by omega)
          have u1 := Int.emod_lt_of_pos p5 (show (0 : Int) < most - 1 - 3 - s1 - s2 + 1 by omega)
          generalize p5 % (most - 1 - 3 - s1 - s2 + 1) = s3 at k3 u0 u1
          generalize p5 / (most - 1 - 3 - s1 - s2 + 1) = p6 at k3
          obtain ⟨c, p7, c1, c2, c3, ec⟩ := grown_eq dp (n := n) (p := p6) (most := 1 + s3) (by omega) (by omega) (by omega) (by omega)
          have e : w = 9 := by omega
          have iw : ixD (.list [.str "sum", .str "less", .str "least", .str "greatest", .str "times", .str "rest", .str "pick"]) (.int (w - 3)) = some (.d (.str "pick")) := by subst e; rfl
          refine ⟨.pick a b c, p7, ⟨a1, b1, c1⟩, by unfold F.parts; omega, by unfold F.deep; omega, ?_⟩
          simp_arith [t10, im, hd', hm2, up3, k1, hdp, ea, k2, eb, k3, ec, iw, pt, pr, F.d]
end K81
set_option maxHeartbeats 2000000
namespace K81
open Dl PySem PySem.NumText
theorem sl_from2 {z : List Nat} {k : Nat} (hz : z.length ≤ 16777216) : slD (.str (SX.S z)) (some (k : Int)) none = some (.d (.str (SX.S (z.drop k)))) := by
  by_cases h : k ≤ z.length
  · exact sl_from hz h
  · unfold slD
    dsimp only
    rw [S_len, if_pos (by rw [sizeLine_eq]; exact hz)]
    unfold L2.cutS
    rw [S_len, HT.sIx_nat, Nat.min_eq_right (by omega)]
    show some (Sv.d (.str (SX.S ((z.drop z.length).take (z.length - z.length))))) = _
    rw [List.drop_of_length_le (by omega), List.drop_of_length_le (by omega)]
    simp
theorem signs : ("(()).,,@-0012789  amkersu\nS+_~" : Str) = SX.S [40, 40, 41, 41, 46, 44, 44, 64, 45, 48, 48, 49, 50, 55, 56, 57, 32, 32, 97, 109, 107, 101, 114, 115, 117, 10, 83, 43, 95, 126] := by kernel_rfl
theorem sign_at {j : Int} (h : 0 ≤ j ∧ j < 30) : ∃ c, c < 128 ∧ ixD (.str "(()).,,@-0012789  amkersu\nS+_~") (.int j) = some (.d (.str (SX.S [c]))) := by
  obtain ⟨m, rfl⟩ : ∃ m : Nat, j = (m : Int) := ⟨j.toNat, by omega⟩
  rw [signs]
  have hm : m < ([40, 40, 41, 41, 46, 44, 44, 64, 45, 48, 48, 49, 50, 55, 56, 57, 32, 32, 97, 109, 107, 101, 114, 115, 117, 10, 83, 43, 95, 126] : List Nat).length := by simp; omega
  have hc := List.getElem?_eq_getElem hm
  refine ⟨_, ?_, ix_one (i := m) (by decide) rfl hc⟩
  have all : ∀ c ∈ ([40, 40, 41, 41, 46, 44, 44, 64, 45, 48, 48, 49, 50, 55, 56, 57, 32, 32, 97, 109, 107, 101, 114, 115, 117, 10, 83, 43, 95, 126] : List Nat), c < 128 := by decide
  exact all _ (List.getElem_mem hm)
def Fit (L : List Nat) : Prop := ∀ c ∈ L, c < 1114112
theorem at5_0 (a b c d e : D) : L2.atI [a, b, c, d, e] 0 = some a := rfl
theorem at5_1 (a b c d e : D) : L2.atI [a, b, c, d, e] 1 = some b := rfl
theorem at5_2 (a b c d e : D) : L2.atI [a, b, c, d, e] 2 = some c := rfl
theorem at5_3 (a b c d e : D) : L2.atI [a, b, c, d, e] 3 = some d := rfl
theorem at5_4 (a b c d e : D) : L2.atI [a, b, c, d, e] 4 = some e := rfl
theorem bent_eq {n : Nat} {p : Int} {L : List Nat} (hn : 2 ≤ n) (hl : L.length ≤ 100000) (hF : Fit L) : ∃ (p' : Int) (L' : List Nat), sem n 36 [.rf [.int p], .d (.str (SX.S L))] = .ok (.d (.str (SX.S L'))) [.int p'] ∧ Bend L L' ∧ L'.length ≤ L.length + 1 ∧ Fit L' := by
  obtain ⟨n, rfl⟩ : ∃ m, n = m + 1 := ⟨n - 1, by omega⟩
  have hL : L.length ≤ 16777216 := by omega
  have t1 := T1 (n := n) (p := p) (k := (L.length : Int) + 1) (by omega) (by omega) (by omega)
  have t2 := T1 (n := n) (p := p / ((L.length : Int) + 1)) (k := (L.length : Int) + 1) (by omega) (by omega) (by omega)
  have t3 := T1 (n := n) (p := p / ((L.length : Int) + 1) / ((L.length : Int) + 1)) (k := 30) (by omega) (by decide) (by decide)
  have t4 := T1 (n := n) (p := p / ((L.length : Int) + 1) / ((L.length : Int) + 1) / 30) (k := 8) (by omega) (by decide) (by decide)
  have t5 := T1 (n := n) (p := p / ((L.length : Int) + 1) / ((L.length : Int) + 1) / 30 / 8) (k := 5) (by omega) (by decide) (by decide)
  obtain ⟨a, ha, hal⟩ : ∃ a : Nat, p % ((L.length : Int) + 1) = (a : Int) ∧ a ≤ L.length := by
    have h1 := Int.emod_nonneg p (show (L.length : Int) + 1 ≠ 0 by omega)
    have h2 := Int.emod_lt_of_pos p (show 0 < (L.length : Int) + 1 by omega)
    exact ⟨(p % ((L.length : Int) + 1)).toNat, by omega, by omega⟩
  obtain ⟨o, ho, hol⟩ : ∃ a : Nat, p / ((L.length : Int) + 1) % ((L.length : Int) + 1) = (a : Int) ∧ a ≤ L.length := by
    have h1 := Int.emod_nonneg (p / ((L.length : Int) + 1)) (show (L.length : Int) + 1 ≠ 0 by omega)
    have h2 := Int.emod_lt_of_pos (p / ((L.length : Int) + 1)) (show 0 < (L.length : Int) + 1 by omega)
    exact ⟨(p / ((L.length : Int) + 1) % ((L.length : Int) + 1)).toNat, by omega, by omega⟩
  rw [ha] at t1
  rw [ho] at t2
  generalize p / ((L.length : Int) + 1) / ((L.length : Int) + 1) = p2 at t2 t3 t4 t5
  generalize p / ((L.length : Int) + 1) = p1 at t1 t2
  have h30 : 0 ≤ p2 % 30 ∧ p2 % 30 < 30 := by omega
  obtain ⟨sg, hsg, es⟩ := sign_at h30
  generalize p2 % 30 = j at t3 es
  have h8 : 0 ≤ p2 / 30 % 8 ∧ p2 / 30 % 8 < 8 := by omega
  generalize p2 / 30 / 8 = p4 at t4 t5
  generalize p2 / 30 % 8 = w at t4 h8
  generalize p2 / 30 = p3 at t3 t4
  have h5 : 0 ≤ p4 % 5 ∧ p4 % 5 < 5 := by omega
  have s1 := sl_to (z := L) (k := a) hL
  have s2 := sl_from2 (z := L) (k := a) hL
  have s3 := sl_from2 (z := L) (k := a + 1) hL
  have s4 := sl_one (z := L) (a := (a : Int)) (b := (a : Int) + 1) (i := a) hL rfl rfl
  have s5 := sl_one (z := L) (a := (a : Int) + 1) (b := (a : Int) + 2) (i := a + 1) hL (by omega) (by omega)
  have s6 := sl_from2 (z := L) (k := a + 2) hL
  have s7 := sl_from2 (z := L) (k := max a o) hL
  have c1 : ((a + 1 : Nat) : Int) = (a : Int) + 1 := by omega
  have c2 : ((a + 2 : Nat) : Int) = (a : Int) + 2 := by omega
  rw [c1] at s3
  rw [c2] at s6
  have hA : L = L.take a ++ L.drop a := (List.take_append_drop a L).symm
  have fT : Fit (L.take a) := fun c hc => hF c (List.mem_of_mem_take hc)
  have fD : ∀ k, Fit (L.drop k) := fun k c hc => hF c (List.mem_of_mem_drop hc)
  have fA : ∀ {x y : List Nat}, Fit x → Fit y → Fit (x ++ y) := fun hx hy c hc => (List.mem_append.mp hc).elim (hx c) (hy c)
  have fS : Fit [sg] := fun c hc => by rw [List.mem_singleton] at hc; omega
  have f10 : Fit [10] := fun c hc => by rw [List.mem_singleton] at hc; omega
  have f32 : Fit [32] := fun c hc => by rw [List.mem_singleton] at hc; omega
  have fK : ∀ {x : List Nat} (k : Nat), Fit x → Fit (x.take k) := fun k hx c hc => hx c (List.mem_of_mem_take hc)
  have one : ∀ {x : List Nat}, x.length ≤ 1 → x.count 32 ≤ 1 := fun {x} h => Nat.le_trans List.count_le_length h
  have hle1 : (L.take a).length ≤ L.length := by rw [List.length_take]; omega
  by_cases w0 : w = 0
  · refine ⟨p4, L.take a ++ ([sg] ++ L.drop a), ?_, ⟨L.take a, [], L.drop a, [sg], by simp, rfl, one (by simp)⟩, by simp; omega, fA fT (fA fS (fD a))⟩
    simp only [sem_succ, bodyOf, fb36]
    simp_all_arith [S_len, hL, t1, t2, t3, t4, es, s1, s2, SX.S_cat, List.length_append, List.length_take, List.length_drop, w0, List.append_assoc]
  by_cases w1 : w = 1
  · refine ⟨p4, L.take a ++ ([] ++ L.drop (a + 1)), ?_, ⟨L.take a, (L.drop a).take 1, L.drop (a + 1), [], ?_, rfl, by decide⟩, by simp; omega, fA fT (fD _)⟩
    · simp only [sem_succ, bodyOf, fb36]
      simp_all_arith [S_len, hL, t1, t2, t3, t4, es, s1, s3, SX.S_cat, List.length_append, List.length_take, List.length_drop, w1, List.nil_append]
    · rw [← List.drop_drop, List.take_append_drop, List.take_append_drop]
  by_cases w2 : w = 2
  · refine ⟨p4, L.take a ++ ([sg] ++ L.drop (a + 1)), ?_, ⟨L.take a, (L.drop a).take 1, L.drop (a + 1), [sg], ?_, rfl, one (by simp)⟩, by simp; omega, fA fT (fA fS (fD _))⟩
    · simp only [sem_succ, bodyOf, fb36]
      simp_all_arith [S_len, hL, t1, t2, t3, t4, es, s1, s3, SX.S_cat, List.length_append, List.length_take, List.length_drop, w2, List.append_assoc]
    · rw [← List.drop_drop, List.take_append_drop, List.take_append_drop]
  by_cases w3 : w = 3
  · refine ⟨p4, L.take a ++ ((L.drop a).take 1 ++ L.drop a), ?_, ⟨L.take a, [], L.drop a, (L.drop a).take 1, by simp, rfl, one (by simp; omega)⟩, by simp; omega, fA fT (fA (fK 1 (fD a)) (fD a))⟩
    simp only [sem_succ, bodyOf, fb36]
    simp_all_arith [S_len, hL, t1, t2, t3, t4, es, s1, s2, s4, SX.S_cat, List.length_append, List.length_take, List.length_drop, w3, List.append_assoc]
  by_cases w4 : w = 4
  · have hm : L = L.take a ++ ((L.drop a).take 2 ++ L.drop (a + 2)) := by rw [← List.drop_drop, List.take_append_drop, List.take_append_drop]
    refine ⟨p4, L.take a ++ (((L.drop (a + 1)).take 1 ++ (L.drop a).take 1) ++ L.drop (a + 2)), ?_, ?_, ?_, fA fT (fA (fA (fK 1 (fD _)) (fK 1 (fD _))) (fD _))⟩
    · simp only [sem_succ, bodyOf, fb36]
      simp_all_arith [S_len, hL, t1, t2, t3, t4, es, s1, s4, s5, s6, SX.S_cat, List.length_append, List.length_take, List.length_drop, w4, List.append_assoc]
    · have hd : L.drop (a + 1) = (L.drop a).drop 1 := by rw [List.drop_drop]
      rw [hd]
      cases q : L.drop a with
      | nil =>
        rw [q] at hm
        exact ⟨L.take a, [], L.drop (a + 2), [], by simpa using hm, by simp, by decide⟩
      | cons c r =>
        rw [q] at hm
        cases r with
        | nil => exact ⟨L.take a, [c], L.drop (a + 2), [c], by simpa using hm, by simp, one (by simp)⟩
        | cons d r =>
          by_cases hb : c = 32 ∧ d = 32
          · obtain ⟨rfl, rfl⟩ := hb
            exact ⟨L.take a ++ [32, 32], [], L.drop (a + 2), [], by simpa using hm, by simp, by decide⟩
          · refine ⟨L.take a, [c, d], L.drop (a + 2), [d, c], by simpa using hm, by simp, ?_⟩
            rw [List.count_cons, List.count_cons]
            by_cases h1 : c = 32
            · have h2 : ¬ d = 32 := fun e => hb ⟨h1, e⟩
              simp [h1, h2]
            · simp [h1]
              split <;> omega
    · simp; omega
  by_cases w5 : w = 5
  · have hmx : (if (o : Int) > (a : Int) then (o : Int) else (a : Int)) = ((max a o : Nat) : Int) := by split <;> omega
    refine ⟨p4, L.take a ++ ([] ++ L.drop (max a o)), ?_, ⟨L.take a, (L.drop a).take (max a o - a), L.drop (max a o), [], ?_, rfl, by decide⟩, by simp; omega, fA fT (fD _)⟩
    · simp only [sem_succ, bodyOf, fb36]
      simp_all_arith [S_len, hL, t1, t2, t3, t4, es, s1, hmx, s7, SX.S_cat, List.length_append, List.length_take, List.length_drop, w5, List.nil_append]
    · have : L.drop (max a o) = (L.drop a).drop (max a o - a) := by rw [List.drop_drop]; congr 1; omega
      rw [this, List.take_append_drop, List.take_append_drop]
  by_cases w6 : w = 6
  · have l_n : ("\n" : Str) = SX.S [10] := by kernel_rfl
    have body : ∀ (L' : List Nat) (k : Int), p4 % 5 = k → (k = 0 ∧ L' = 32 :: L) ∨ (k = 1 ∧ L' = L ++ [32]) ∨ (k = 2 ∧ L' = L ++ [10]) ∨ (k = 3 ∧ L' = 10 :: L) ∨ (k = 4 ∧ L' = []) → sem (n + 1) 36 [.rf [.int p], .d (.str (SX.S L))] = .ok (.d (.str (SX.S L'))) [.int (p4 / 5)] := fun L' k hk hc => by
      rw [hk] at t5
      rcases hc with ⟨rfl, rfl⟩ | ⟨rfl, rfl⟩ | ⟨rfl, rfl⟩ | ⟨rfl, rfl⟩ | ⟨rfl, rfl⟩
      all_goals
        simp only [sem_succ, bodyOf, fb36]
        simp_all_arith [S_len, hL, t1, t2, t3, t4, t5, es, l_b, l_n, l_e, SX.S_cat, List.length_append, List.length_cons, List.length_nil, w6, at5_0, at5_1, at5_2, at5_3, at5_4]
    have k5 : p4 % 5 = 0 ∨ p4 % 5 = 1 ∨ p4 % 5 = 2 ∨ p4 % 5 = 3 ∨ p4 % 5 = 4 := by omega
    rcases k5 with k | k | k | k | k
    · exact ⟨_, 32 :: L, body _ _ k (.inl ⟨rfl, rfl⟩), ⟨[], [], L, [32], rfl, rfl, by decide⟩, by simp, fA f32 hF⟩
    · exact ⟨_, L ++ [32], body _ _ k (.inr (.inl ⟨rfl, rfl⟩)), ⟨L, [], [], [32], by simp, by simp, by decide⟩, by simp, fA hF f32⟩
    · exact ⟨_, L ++ [10], body _ _ k (.inr (.inr (.inl ⟨rfl, rfl⟩))), ⟨L, [], [], [10], by simp, by simp, by decide⟩, by simp, fA hF f10⟩
    · exact ⟨_, 10 :: L, body _ _ k (.inr (.inr (.inr (.inl ⟨rfl, rfl⟩)))), ⟨[], [], L, [10], rfl, rfl, by decide⟩, by simp, fA f10 hF⟩
    · exact ⟨_, [], body _ _ k (.inr (.inr (.inr (.inr ⟨rfl, rfl⟩)))), ⟨[], L, [], [], by simp, rfl, by decide⟩, by simp, fun c hc => nomatch hc⟩
  · refine ⟨p4, L, ?_, ⟨L, [], [], [], by simp, by simp, by decide⟩, by omega, hF⟩
    simp only [sem_succ, bodyOf, fb36]
    simp_all_arith [S_len, hL, t1, t2, t3, t4, es, w0, w1, w2, w3, w4, w5, w6]
end K81
set_option maxHeartbeats 1000000
set_option exponentiation.threshold 10000
namespace K81
open Dl PySem
theorem mixed_eq {n : Nat} {c k : Int} (hn : 1 ≤ n) (h0 : 0 ≤ k) (h1 : k < 100000) : ∃ r, 0 ≤ r ∧ r < 2147483579 ∧ sem n 14 [.d (.int c), .d (.int k)] = .ok (.d (.int r)) [] := by
  obtain ⟨n, rfl⟩ : ∃ m, n = m + 1 := ⟨n - 1, by omega⟩
  have big : (2147483647 : Nat) ≤ 2 ^ 4000 := by decide +kernel
  have m1 : (c % 2147483647).natAbs.log2 + (48271 : Int).natAbs.log2 < 1000000 := mul_small (pow_big (by omega) big) (pow_big (by decide) big)
  have m2 : k.natAbs.log2 + (69621 : Int).natAbs.log2 < 1000000 := mul_small (pow_big (by omega) big) (pow_big (by decide) big)
  have m3 : ∀ a b : Int, 0 ≤ a → a < 2147483647 → 0 ≤ b → b < 2147483647 → a.natAbs.log2 + b.natAbs.log2 < 1000000 := fun a b h1 h2 h3 h4 => mul_small (pow_big (by omega) big) (pow_big (by omega) big)
  simp only [sem_succ, bodyOf, fb14]
  simp_all_arith [m1, m2]
  generalize hx : (c % 2147483647 * 48271 + k * 69621 + 1048583) % 2147483629 = x
  have x0 : 0 ≤ x ∧ x < 2147483629 := by omega
  have m4 := m3 x x x0.1 (by omega) x0.1 (by omega)
  simp_all_arith [m4]
  generalize hy : x * x % 2147483587 = y
  have y0 : 0 ≤ y ∧ y < 2147483587 := by
    have := Int.emod_nonneg (x * x) (show (2147483587 : Int) ≠ 0 by decide)
    have := Int.emod_lt_of_pos (x * x) (show (0 : Int) < 2147483587 by decide)
    omega
  have m5 := m3 y (y + 2) y0.1 (by omega) (by omega) (by omega)
  simp_all_arith [m5]
  exact ⟨_, Int.emod_nonneg _ (by decide), Int.emod_lt_of_pos _ (by decide), rfl⟩
theorem cell_eq {n : Nat} {ns : List Int} {k : Nat} (hn : 2 ≤ n) (hk : k ≤ 3) : ∃ c : Int, sem n 15 [.fz (ns.map PyData.int), .d (.int k)] = .ok (.d (.int c)) [] := by
  obtain ⟨n, rfl⟩ : ∃ m, n = m + 1 := ⟨n - 1, by omega⟩
  have n10 : (10 : Int).natAbs = 10 := rfl
  have l60 : ((10 : Int) ^ 60).natAbs.log2 = 199 := by kernel_rfl
  have l120 : ((10 : Int) ^ 60 * 10 ^ 60).natAbs.log2 = 398 := by kernel_rfl
  have l180 : ((10 : Int) ^ 60 * 10 ^ 60 * 10 ^ 60).natAbs.log2 = 597 := by kernel_rfl
  have pos : (0 : Int) < 10 ^ 60 * 10 ^ 60 * 10 ^ 60 * 10 ^ 60 := by decide +kernel
  -- from the script's number on
  have rest : ∀ c : Int, ∃ c' : Int, outO ((fSeq (fIf (fTest (fOp geD (.n 2) (.e (fOp powD (.e (fC (.int 10))) (.e (fC (.int 18)))))))
    (fRet (fOp modD (.e (fOp subD (.n 2) (.e (fOp powD (.e (fC (.int 10))) (.e (fC (.int 18))))))) (.e (fOp mulD (.e (fOp mulD (.e (fOp mulD (.e (fOp powD (.e (fC (.int 10))) (.e (fC (.int 60))))) (.e (fOp powD (.e (fC (.int 10))) (.e (fC (.int 60))))))) (.e (fOp powD (.e (fC (.int 10))) (.e (fC (.int 60))))))) (.e (fOp powD (.e (fC (.int 10))) (.e (fC (.int 60)))))))))
    fSkip)
    (fSeq (fSet 3 (fC (.int 0)))
    (fSeq (fFor (fun ρ => RI.of ((fC (.int 24)) ρ) kRng) (.n 4)
    (fSet 3 (fOp addD (.e (fOp mulD (.n 3) (.e (fC (.int 2147483579))))) (.e (fCall (sem n 14) [.v (fVar 2), .v (fOp addD (.e (fOp addD (.e (fOp mulD (.e (fC (.int 7))) (.n 1))) (.e (fOp mulD (.e (fC (.int 100))) (.n 4))))) (.e (fOp mulD (.n 4) (.n 4))))])))))
    (fRet (fMove 3))))) [some (.fz (ns.map PyData.int)), some (.d (.int k)), some (.d (.int c)), none, none]) = .ok (.d (.int c')) [] := by
    intro c
    by_cases h : (10 : Int) ^ 18 ≤ c
    · refine ⟨(c - 10 ^ 18) % (10 ^ 60 * 10 ^ 60 * 10 ^ 60 * 10 ^ 60), ?_⟩
      simp_arith [n10, l60, l120, l180, h, pos]
    · have up := kRng_up (n := 24) (by decide)
      have up : kRng (.int 24) = some (upFrom 0 24) := up
      obtain ⟨ρ', e, f, x, rfl, _, hx⟩ := for_n (v := 4) (body := fSet 3 (fOp addD (.e (fOp mulD (.n 3) (.e (fC (.int 2147483579))))) (.e (fCall (sem n 14) [.v (fVar 2), .v (fOp addD (.e (fOp addD (.e (fOp mulD (.e (fC (.int 7))) (.n 1))) (.e (fOp mulD (.e (fC (.int 100))) (.n 4))))) (.e (fOp mulD (.n 4) (.n 4))))]))))
        (I := fun j ρ => ∃ (f : Int) (x : Option Sv), ρ = [some (.fz (ns.map PyData.int)), some (.d (.int k)), some (.d (.int c)), some (.d (.int f)), x] ∧ (0 ≤ f ∧ f < 2 ^ (32 * j)) ∧ (x = none ∨ ∃ y, x = some (.d y))) (n := 24)
        (ρ := [some (.fz (ns.map PyData.int)), some (.d (.int k)), some (.d (.int c)), some (.d (.int 0)), none])
        (fun j ρ hj ⟨f, x, e, hf, hx⟩ => by
          subst e
          have rx : rfAt [x] 0 = false := by rcases hx with rfl | ⟨y, rfl⟩ <;> rfl
          obtain ⟨r, r0, r1, em⟩ := mixed_eq (n := n) (c := c) (k := 7 * (k : Int) + 100 * (j : Int) + (j : Int) * (j : Int)) (by omega) (by
            have : 0 ≤ (j : Int) * (j : Int) := Int.mul_nonneg (by omega) (by omega)
            omega) (by
            have : (j : Int) * (j : Int) ≤ 24 * 24 := Int.mul_le_mul (by omega) (by omega) (by omega) (by omega)
            omega)
          have big : (2147483647 : Nat) ≤ 2 ^ 4000 := by decide +kernel
          have pw : (2 : Int) ^ (32 * j) ≤ 2 ^ 768 := by
            have : (2 : Nat) ^ (32 * j) ≤ 2 ^ 768 := Nat.pow_le_pow_right (by decide) (by omega)
            exact_mod_cast this
          have fb : f.natAbs < 2 ^ 4000 := by
            have h3 : (2 : Int) ^ 768 < 2 ^ 4000 := by decide +kernel
            have h4 : ((f.natAbs : Nat) : Int) = f := by omega
            have h5 : ((f.natAbs : Nat) : Int) < ((2 ^ 4000 : Nat) : Int) := by
              rw [h4]
              have : ((2 ^ 4000 : Nat) : Int) = (2 : Int) ^ 4000 := by norm_cast
              omega
            exact_mod_cast h5
          have m1 : f.natAbs.log2 + (2147483579 : Int).natAbs.log2 < 1000000 := mul_small fb (pow_big (by decide) big)
          have m2 : (7 : Int).natAbs.log2 + ((k : Nat) : Int).natAbs.log2 < 1000000 := mul_small (pow_big (by decide) big) (pow_big (by omega) big)
          have m3 : (100 : Int).natAbs.log2 + ((j : Nat) : Int).natAbs.log2 < 1000000 := mul_small (pow_big (by decide) big) (pow_big (by omega) big)
          have m4 : ((j : Nat) : Int).natAbs.log2 + ((j : Nat) : Int).natAbs.log2 < 1000000 := mul_small (pow_big (by omega) big) (pow_big (by omega) big)
          refine ⟨rx, _, ?_, f * 2147483579 + r, some (.d (.int j)), rfl, ⟨?_, ?_⟩, .inr ⟨_, rfl⟩⟩
          · simp_all_arith [m1, m2, m3, m4, em]
          · have := Int.mul_nonneg hf.1 (show (0 : Int) ≤ 2147483579 by decide)
            omega
          · have h6 : (2 : Int) ^ (32 * (j + 1)) = 2 ^ (32 * j) * 4294967296 := by
              rw [Nat.mul_add, Int.pow_add]
              rfl
            rw [h6]
            have := Int.mul_le_mul_of_nonneg_right (show f + 1 ≤ 2 ^ (32 * j) by omega) (show (0 : Int) ≤ 2147483579 by decide)
            have := Int.mul_le_mul_of_nonneg_left (show (2147483579 : Int) ≤ 4294967296 by decide) (show (0 : Int) ≤ 2 ^ (32 * j) by omega)
            rw [Int.add_mul] at *
            omega) ⟨0, none, rfl, ⟨Int.le_refl _, by decide⟩, .inl rfl⟩
      refine ⟨f, ?_⟩
      simp_arith [n10, h, up, e]
      rcases hx with rfl | ⟨y, rfl⟩ <;> rfl
  simp only [sem_succ, bodyOf, fb15]
  by_cases h : ((k : Nat) : Int) < (((ns.map PyData.int).length : Nat) : Int)
  · have hl : k < ns.length := by rw [List.length_map] at h; omega
    have at1 : L2.atI (ns.map PyData.int) (k : Int) = some (.int ns[k]) := L2.atI_nat (by rw [List.getElem?_map, List.getElem?_eq_getElem hl]; rfl)
    obtain ⟨c', e⟩ := rest ns[k]
    refine ⟨c', ?_⟩
    rw [← e]
    rw [S.runF_eq, S.fSeq_eq]
    simp_arith [h, at1]
  · obtain ⟨c', e⟩ := rest 0
    refine ⟨c', ?_⟩
    rw [← e]
    rw [S.runF_eq, S.fSeq_eq]
    simp_arith [h]

end K81
set_option maxHeartbeats 2000000
namespace K81
open Dl PySem
def rep (n : Nat) (L : List Nat) : List Nat := (List.replicate n L).flatten
theorem rep_succ (n : Nat) (L : List Nat) : rep (n + 1) L = L ++ rep n L := by
  unfold rep
  rw [List.replicate_succ, List.flatten_cons]
theorem rep_len (n : Nat) (L : List Nat) : (rep n L).length = n * L.length := by
  induction n with
  | zero => simp [rep]
  | succ n ih => rw [rep_succ, List.length_append, ih, Nat.succ_mul, Nat.add_comm]
theorem fold_cat (a : Array Nat) : ∀ (k : Nat) (acc : Array Nat), ((List.replicate k a).foldl (· ++ ·) acc).toList = acc.toList ++ rep k a.toList
  | 0, acc => by simp [rep]
  | k + 1, acc => by
    rw [List.replicate_succ, List.foldl_cons, fold_cat a k, rep_succ, Array.toList_append, List.append_assoc]
theorem mul_S {L : List Nat} {n : Nat} (h : 2 ≤ n) (hL : L ≠ []) : Txt.mul (SX.S L) (n : Int) = SX.S (rep n L) := by
  unfold Txt.mul
  have h0 : 0 < L.length := List.length_pos_iff.mpr hL
  rw [if_neg (by omega), if_neg (by
    rw [S_len]
    intro q
    simp at q
    rcases q with q | q
    · omega
    · exact hL q)]
  have e := fold_cat (SX.S L).cps n #[]
  show Str.mk _ = _
  rw [Int.toNat_natCast]
  generalize (List.replicate n (SX.S L).cps).foldl (· ++ ·) #[] = r at e
  have e2 : (SX.S L).cps.toList = L := rfl
  rw [e2] at e
  have : r = ⟨rep n L⟩ := Array.ext' (by simpa using e)
  rw [this]
theorem mulD_S {L : List Nat} {n : Nat} (h : 2 ≤ n) (hL : L ≠ []) (hs : n ≤ 5000) (hs2 : L.length ≤ 100) : mulD (.str (SX.S L)) (.int (n : Int)) = some (.d (.str (SX.S (rep n L)))) := by
  have : L.length * n ≤ 16777216 := Nat.le_trans (Nat.mul_le_mul hs2 hs) (by decide)
  have e : mulD (.str (SX.S L)) (.int (n : Int)) = (if -(2 ^ 63) ≤ (n : Int) ∧ (n : Int) < 2 ^ 63 ∧ (SX.S L).length * (n : Int).toNat ≤ sizeLine then some (Sv.d (.str (Txt.mul (SX.S L) n))) else none) := nrfl
  rw [e, if_pos (by rw [S_len, sizeLine_eq, Int.toNat_natCast]; exact ⟨by omega, by omega, this⟩), mul_S h hL]
def tl : List Nat := [40, 116, 105, 109, 101, 115, 32, 49, 32]
def sl3' : List Nat := [40, 115, 117, 109, 32, 49, 32]
theorem l_tl : ("(times 1 " : Str) = SX.S tl := by kernel_rfl
theorem l_sl : ("(sum 1 " : Str) = SX.S sl3' := by kernel_rfl
theorem l_1 : ("1" : Str) = SX.S [49] := by kernel_rfl
theorem l_0o : ("0(" : Str) = SX.S [48, 40] := by kernel_rfl
theorem lad_at : ∀ (k : Nat) {T A R : List Nat}, 40 ∉ T → rep k tl ++ T = A ++ 40 :: R → ∃ Z, R = timesL ++ 32 :: Z
  | 0, T, A, R, hT, h => by
    exact absurd (show 40 ∈ T by rw [show T = A ++ 40 :: R from h]; simp) hT
  | k + 1, T, A, R, hT, h => by
    rw [rep_succ, List.append_assoc] at h
    have step : ∀ {c : Nat} {X A R : List Nat}, c ≠ 40 → c :: X = A ++ 40 :: R → ∃ A', X = A' ++ 40 :: R := fun {c X A R} hc e => by
      cases A with
      | nil => exact absurd (by injection e) hc
      | cons a A => exact ⟨A, by injection e⟩
    cases A with
    | nil =>
      rw [List.nil_append] at h
      unfold tl at h
      simp only [List.cons_append, List.nil_append, List.cons.injEq, true_and] at h
      exact ⟨49 :: 32 :: (rep k tl ++ T), h.symm⟩
    | cons a A =>
      unfold tl at h
      simp only [List.cons_append, List.nil_append, List.cons.injEq] at h
      obtain ⟨_, h⟩ := step (by decide) h.2
      obtain ⟨_, h⟩ := step (by decide) h
      obtain ⟨_, h⟩ := step (by decide) h
      obtain ⟨_, h⟩ := step (by decide) h
      obtain ⟨_, h⟩ := step (by decide) h
      obtain ⟨_, h⟩ := step (by decide) h
      obtain ⟨_, h⟩ := step (by decide) h
      obtain ⟨_, h⟩ := step (by decide) h
      exact lad_at k hT h
theorem nonine_lad {k : Nat} {T : List Nat} (hT : 40 ∉ T) : NoNine (rep k tl ++ T) := fun A B p ps e hl hb => by
  obtain ⟨Z, h⟩ := lad_at k hT e
  unfold flat at h
  rw [List.flatMap_cons, List.append_assoc, List.append_assoc] at h
  obtain ⟨h1, _, _⟩ := same_end (hb p (List.mem_cons_self ..)) (show wk 0 timesL = some 0 by decide) (.inl rfl) h
  exact .inr (.inr (.inl h1))
theorem long_eq {n : Nat} (hn : 56 ≤ n) : sem n 38 [] = .ok (.d (.bool true)) [] := by
  obtain ⟨n, rfl⟩ : ∃ m, n = m + 1 := ⟨n - 1, by omega⟩
  have m1 : mulD (.str (SX.S [40])) (.int 2000) = some (.d (.str (SX.S (rep 2000 [40])))) := mulD_S (n := 2000) (by decide) (by decide) (by decide) (by decide)
  have m2 : mulD (.str (SX.S [41])) (.int 2000) = some (.d (.str (SX.S (rep 2000 [41])))) := mulD_S (n := 2000) (by decide) (by decide) (by decide) (by decide)
  have m3 : mulD (.str (SX.S tl)) (.int 390) = some (.d (.str (SX.S (rep 390 tl)))) := mulD_S (n := 390) (by decide) (by decide) (by decide) (by decide)
  have m4 : mulD (.str (SX.S [41])) (.int 390) = some (.d (.str (SX.S (rep 390 [41])))) := mulD_S (n := 390) (by decide) (by decide) (by decide) (by decide)
  have m5 : mulD (.str (SX.S [48, 40])) (.int 1990) = some (.d (.str (SX.S (rep 1990 [48, 40])))) := mulD_S (n := 1990) (by decide) (by decide) (by decide) (by decide)
  have m6 : mulD (.str (SX.S [48, 40])) (.int 990) = some (.d (.str (SX.S (rep 990 [48, 40])))) := mulD_S (n := 990) (by decide) (by decide) (by decide) (by decide)
  have m7 : mulD (.str (SX.S [41])) (.int 990) = some (.d (.str (SX.S (rep 990 [41])))) := mulD_S (n := 990) (by decide) (by decide) (by decide) (by decide)
  have m8 : mulD (.str (SX.S sl3')) (.int 3) = some (.d (.str (SX.S (rep 3 sl3')))) := mulD_S (n := 3) (by decide) (by decide) (by decide) (by decide)
  have m9 : mulD (.str (SX.S [41])) (.int 3) = some (.d (.str (SX.S (rep 3 [41])))) := mulD_S (n := 3) (by decide) (by decide) (by decide) (by decide)
  have m10 : mulD (.str (SX.S sl3')) (.int 4) = some (.d (.str (SX.S (rep 4 sl3')))) := mulD_S (n := 4) (by decide) (by decide) (by decide) (by decide)
  have m11 : mulD (.str (SX.S [41])) (.int 4) = some (.d (.str (SX.S (rep 4 [41])))) := mulD_S (n := 4) (by decide) (by decide) (by decide) (by decide)
  have r1 := right0 (n := n) (L := rep 2000 [40]) (by omega) (by decide +kernel) (nonine_few (by decide +kernel))
  have r2 := right0 (n := n) (L := rep 2000 [41]) (by omega) (by decide +kernel) (nonine_few (by decide +kernel))
  have r3 := right0 (n := n) (L := rep 390 tl ++ 49 :: rep 390 [41]) (by omega) (by decide +kernel) (nonine_lad (by decide +kernel))
  have r4 := right1 (n := n) (L := rep 1990 [48, 40]) (by omega) (by decide +kernel) (by decide +kernel)
  have r5 := right1 (n := n) (L := rep 990 [48, 40] ++ 48 :: rep 990 [41]) (by omega) (by decide +kernel) (by decide +kernel)
  have r6 := right0 (n := n) (L := rep 3 sl3' ++ 49 :: rep 3 [41]) (by omega) (by decide +kernel) (nonine_few (by decide +kernel))
  have r7 := right0 (n := n) (L := rep 4 sl3' ++ 49 :: rep 4 [41]) (by omega) (by decide +kernel) (nonine_few (by decide +kernel))
  have lt : tl.length = 9 := rfl
  have ls : sl3'.length = 7 := rfl
  simp only [sem_succ, bodyOf, fb38]
  simp_all_arith [l_o, l_c, l_tl, l_sl, l_1, l_0, l_0o, m1, m2, m3, m4, m5, m6, m7, m8, m9, m10, m11, S_len, SX.S_cat, List.length_append, rep_len, lt, ls, List.append_assoc, List.length_cons, List.length_nil, r1, r2, r3, r4, r5, r6, r7]
end K81
set_option maxHeartbeats 2000000
namespace K81
open Dl PySem
def fixedT : List (Int × List Nat) := [(0, [45, 48]), (0, [48, 48, 55]), (0, [49, 95, 48]), (0, [43, 49]), (0, [40, 115, 117, 109, 32, 49, 32, 50]), (0, [115, 117, 109, 32, 49, 32, 50]), (0, [64, 49]), (0, [64, 49, 46, 50, 46, 51]), (0, [40, 40, 115, 117, 109, 32, 49, 32, 50, 41, 41]), (0, [40, 115, 117, 109, 32, 40, 49, 41, 32, 50, 41]), (0, [40, 116, 105, 109, 101, 115, 32, 64, 48, 46, 48, 32, 49, 41]), (0, [49, 48, 48, 48, 48, 48, 48]), (0, [40, 110, 117, 109, 32, 49, 41]), (0, [40, 41]), (0, [40, 115, 117, 109, 32, 49, 32, 32, 50, 41]), (0, [40, 115, 117, 109, 32, 49, 32, 50, 32, 41]), (0, [40, 114, 101, 115, 116, 32, 48, 32, 49, 41]), (0, [40, 114, 101, 115, 116, 32, 45, 49, 32, 49, 41]), (0, [64, 45, 49, 46, 48]), (0, [64, 48, 46, 57, 57, 57, 57, 57, 57, 57, 57, 57, 57, 57, 57, 57, 57, 57, 57, 57, 57, 57, 57, 57, 57, 57, 57, 57, 57, 57, 57, 57, 57, 57, 57, 57, 57, 57, 57, 57, 57, 57, 57]), (0, [64, 48, 46, 57, 57, 57, 57, 57, 57, 57, 57, 57, 57, 57, 57, 57, 57, 57, 57, 57, 57, 57, 57, 57, 57, 57, 57, 57, 57, 57, 57, 57, 57, 57, 57, 57, 57, 57, 57, 57, 57, 57, 57, 57]), (0, [64, 57, 57, 57, 57, 57, 57, 57, 57, 57, 57, 57, 57, 57, 57, 57, 57, 57, 57, 57, 57, 57, 57, 57, 57, 57, 57, 57, 57, 57, 57, 57, 57, 57, 57, 57, 57, 57, 57, 57, 57, 46, 49]), (0, [64, 57, 57, 57, 57, 57, 57, 57, 57, 57, 57, 57, 57, 57, 57, 57, 57, 57, 57, 57, 57, 57, 57, 57, 57, 57, 57, 57, 57, 57, 57, 57, 57, 57, 57, 57, 57, 57, 57, 57, 57, 57, 46, 49]), (0, [40, 115, 117, 109, 32, 64, 48, 46, 57, 57, 57, 57, 57, 57, 57, 57, 57, 57, 57, 57, 57, 57, 57, 57, 57, 57, 57, 57, 57, 57, 57, 57, 57, 57, 57, 57, 57, 57, 57, 57, 57, 57, 57, 57, 57, 57, 57, 57, 32, 49, 41]), (0, [57, 57, 57, 57, 57, 57, 57, 57, 57, 57, 57, 57, 57, 57, 57, 57, 57, 57, 57, 57, 57, 57, 57, 57, 57, 57, 57, 57, 57, 57, 57, 57, 57, 57, 57, 57, 57, 57, 57, 57, 57]), (0, [45, 57, 57, 57, 57, 57, 57, 57, 57, 57, 57, 57, 57, 57, 57, 57, 57, 57, 57, 57, 57, 57, 57, 57, 57, 57, 57, 57, 57, 57, 57, 57, 57, 57, 57, 57, 57, 57, 57, 57, 57]), (0, [40, 116, 105, 109, 101, 115, 32, 49, 48, 48, 48, 48, 32, 49, 41]), (0, [40, 112, 105, 99, 107, 32, 49, 32, 50, 41]), (0, [40, 119, 111, 114, 116, 104, 32, 48, 32, 49, 41]), (1, [56]), (1, [49, 50]), (1, [48, 40, 41]), (1, []), (1, [48, 40, 49]), (1, [48, 40, 49, 41, 50]), (1, [48, 40, 49, 44, 50, 44, 51, 41]), (1, [48, 40, 49, 44, 32, 50, 41]), (1, [48, 40, 44, 49, 41]), (1, [40, 48, 41]), (1, [48, 48]), (0, [40, 116, 105, 109, 101, 115, 32, 45, 49, 48, 48, 48, 48, 32, 49, 41]), (0, [40, 116, 105, 109, 101, 115, 32, 45, 57, 57, 57, 57, 32, 49, 41]), (1, [48, 40, 48, 40, 48, 40, 48, 40, 48, 40, 48, 40, 48, 40, 48, 40, 48, 40, 48, 40, 48, 40, 48, 40, 48, 40, 48, 40, 48, 40, 48, 40, 48, 40, 48, 40, 48, 40, 48, 40, 48, 40, 48, 40, 48, 40, 48, 40, 48, 40, 48, 40, 48, 40, 48, 40, 48, 40, 48, 40, 48, 41, 41, 41, 41, 41, 41, 41, 41, 41, 41, 41, 41, 41, 41, 41, 41, 41, 41, 41, 41, 41, 41, 41, 41, 41, 41, 41, 41, 41, 41]), (1, [48, 40, 48, 40, 48, 40, 48, 40, 48, 40, 48, 40, 48, 40, 48, 40, 48, 40, 48, 40, 48, 40, 48, 40, 48, 40, 48, 40, 48, 40, 48, 40, 48, 40, 48, 40, 48, 40, 48, 40, 48, 40, 48, 40, 48, 40, 48, 40, 48, 40, 48, 40, 48, 40, 48, 40, 48, 40, 48, 41, 41, 41, 41, 41, 41, 41, 41, 41, 41, 41, 41, 41, 41, 41, 41, 41, 41, 41, 41, 41, 41, 41, 41, 41, 41, 41, 41, 41])]
def fixedD : List D := fixedT.map fun x => .tuple [.int x.1, .str (SX.S x.2)]
theorem fixed_env {p : PyData} (g : Ev → RS) :
  (fSeq (fSet 1 (fLst [(fTup [(fC (.int 0)), (fC (.str "-0"))]), (fTup [(fC (.int 0)), (fC (.str "007"))]), (fTup [(fC (.int 0)), (fC (.str "1_0"))]), (fTup [(fC (.int 0)), (fC (.str "+1"))]), (fTup [(fC (.int 0)), (fC (.str "(sum 1 2"))]), (fTup [(fC (.int 0)), (fC (.str "sum 1 2"))]), (fTup [(fC (.int 0)), (fC (.str "@1"))]), (fTup [(fC (.int 0)), (fC (.str "@1.2.3"))])]))
    (fSeq (fSet 1 (fOp addD (.n 1) (.e (fLst [(fTup [(fC (.int 0)), (fC (.str "((sum 1 2))"))]), (fTup [(fC (.int 0)), (fC (.str "(sum (1) 2)"))]), (fTup [(fC (.int 0)), (fC (.str "(times @0.0 1)"))]), (fTup [(fC (.int 0)), (fC (.str "1000000"))]), (fTup [(fC (.int 0)), (fC (.str "(num 1)"))])]))))
    (fSeq (fSet 1 (fOp addD (.n 1) (.e (fLst [(fTup [(fC (.int 0)), (fC (.str "()"))]), (fTup [(fC (.int 0)), (fC (.str "(sum 1  2)"))]), (fTup [(fC (.int 0)), (fC (.str "(sum 1 2 )"))]), (fTup [(fC (.int 0)), (fC (.str "(rest 0 1)"))]), (fTup [(fC (.int 0)), (fC (.str "(rest -1 1)"))]), (fTup [(fC (.int 0)), (fC (.str "@-1.0"))])]))))
    (fSeq (fSet 1 (fOp addD (.n 1) (.e (fLst [(fTup [(fC (.int 0)), (fOp addD (.e (fC (.str "@0."))) (.e (fOp mulD (.e (fC (.str "9"))) (.e (fC (.int 40))))))]), (fTup [(fC (.int 0)), (fOp addD (.e (fC (.str "@0."))) (.e (fOp mulD (.e (fC (.str "9"))) (.e (fC (.int 41))))))]), (fTup [(fC (.int 0)), (fOp addD (.e (fOp addD (.e (fC (.str "@"))) (.e (fOp mulD (.e (fC (.str "9"))) (.e (fC (.int 40))))))) (.e (fC (.str ".1"))))]), (fTup [(fC (.int 0)), (fOp addD (.e (fOp addD (.e (fC (.str "@"))) (.e (fOp mulD (.e (fC (.str "9"))) (.e (fC (.int 41))))))) (.e (fC (.str ".1"))))])]))))
    (fSeq (fSet 1 (fOp addD (.n 1) (.e (fLst [(fTup [(fC (.int 0)), (fOp addD (.e (fOp addD (.e (fC (.str "(sum @0."))) (.e (fOp mulD (.e (fC (.str "9"))) (.e (fC (.int 40))))))) (.e (fC (.str " 1)"))))]), (fTup [(fC (.int 0)), (fOp mulD (.e (fC (.str "9"))) (.e (fC (.int 41))))]), (fTup [(fC (.int 0)), (fOp addD (.e (fC (.str "-"))) (.e (fOp mulD (.e (fC (.str "9"))) (.e (fC (.int 40))))))])]))))
    (fSeq (fSet 1 (fOp addD (.n 1) (.e (fLst [(fTup [(fC (.int 0)), (fC (.str "(times 10000 1)"))]), (fTup [(fC (.int 0)), (fC (.str "(pick 1 2)"))]), (fTup [(fC (.int 0)), (fC (.str "(worth 0 1)"))]), (fTup [(fC (.int 1)), (fC (.str "8"))]), (fTup [(fC (.int 1)), (fC (.str "12"))]), (fTup [(fC (.int 1)), (fC (.str "0()"))])]))))
    (fSeq (fSet 1 (fOp addD (.n 1) (.e (fLst [(fTup [(fC (.int 1)), (fC (.str ""))]), (fTup [(fC (.int 1)), (fC (.str "0(1"))]), (fTup [(fC (.int 1)), (fC (.str "0(1)2"))]), (fTup [(fC (.int 1)), (fC (.str "0(1,2,3)"))]), (fTup [(fC (.int 1)), (fC (.str "0(1, 2)"))]), (fTup [(fC (.int 1)), (fC (.str "0(,1)"))])]))))
    (fSeq (fSet 1 (fOp addD (.n 1) (.e (fLst [(fTup [(fC (.int 1)), (fC (.str "(0)"))]), (fTup [(fC (.int 1)), (fC (.str "00"))]), (fTup [(fC (.int 0)), (fC (.str "(times -10000 1)"))]), (fTup [(fC (.int 0)), (fC (.str "(times -9999 1)"))])]))))
    (fSeq (fSet 1 (fOp addD (.n 1) (.e (fLst [(fTup [(fC (.int 1)), (fOp addD (.e (fOp addD (.e (fOp mulD (.e (fC (.str "0("))) (.e (fC (.int 30))))) (.e (fC (.str "0"))))) (.e (fOp mulD (.e (fC (.str ")"))) (.e (fC (.int 30))))))]), (fTup [(fC (.int 1)), (fOp addD (.e (fOp addD (.e (fOp mulD (.e (fC (.str "0("))) (.e (fC (.int 29))))) (.e (fC (.str "0"))))) (.e (fOp mulD (.e (fC (.str ")"))) (.e (fC (.int 29))))))])]))))
    g))))))))) [some (.rf [p]), none] = g [some (.rf [p]), some (.ow fixedD)] := by kernel_rfl
def goodB (x : Int × List Nat) : Bool := (if x.1 = 0 then decide (x.2.count 32 ≤ 8) else decide (x.1 = 1)) && decide (x.2.length ≤ 1000) && x.2.all fun c => decide (c < 1114112)
theorem fixed_good : ∀ x ∈ fixedT, goodB x = true := by decide +kernel
theorem fixed_eq {n : Nat} {p : Int} (hn : 60 ≤ n) : ∃ (w : Int) (s : D) (p' : Int), sem n 37 [.rf [.int p]] = .ok (.d (.tuple [.int w, s])) [.int p'] ∧ sem n 35 [.d (.int w), .d s] = .ok (.d (.bool true)) [] := by
  have hn2 := hn
  obtain ⟨n, rfl⟩ : ∃ m, n = m + 1 := ⟨n - 1, by omega⟩
  have q0 := Int.emod_nonneg p (show (44 : Int) ≠ 0 by decide)
  have q1 := Int.emod_lt_of_pos p (show (0 : Int) < 44 by decide)
  obtain ⟨m, hm⟩ : ∃ m : Nat, p % 44 = (m : Int) := ⟨(p % 44).toNat, by omega⟩
  have hl : m < fixedT.length := by show m < 44; omega
  have hl2 : m < fixedD.length := by show m < 44; omega
  have hx := fixed_good fixedT[m] (List.getElem_mem hl)
  have ha : L2.atI fixedD (p % 44) = some (.tuple [.int fixedT[m].1, .str (SX.S fixedT[m].2)]) := by
    rw [hm]
    refine L2.atI_nat ?_
    unfold fixedD
    rw [List.getElem?_map, List.getElem?_eq_getElem hl]
    rfl
  have tk := T1 (n := n) (p := p) (k := 44) (by omega) (by decide) (by decide)
  have hlen : fixedD.length = 44 := by kernel_rfl
  generalize fixedT[m] = x at hx ha
  obtain ⟨w, L⟩ := x
  refine ⟨w, .str (SX.S L), p / 44, ?_, ?_⟩
  · have e : sem (n + 1) 37 [.rf [.int p]] = outO ((fRet (fOp ixD (.n 1) (.e (fCall (sem n 16) [.r 0, .v (fUn lenD (.n 1))])))) [some (.rf [.int p]), some (.ow fixedD)]) := by
      refine Eq.trans ?_ (congrArg outO (fixed_env (p := .int p) (fRet (fOp ixD (.n 1) (.e (fCall (sem n 16) [.r 0, .v (fUn lenD (.n 1))]))))))
      exact nrfl
    rw [e]
    simp_arith [hlen, tk, ha]
  · unfold goodB at hx
    simp only [Bool.and_eq_true, decide_eq_true_eq, List.all_eq_true] at hx
    obtain ⟨⟨h1, h2⟩, h3⟩ := hx
    by_cases h0 : w = 0
    · subst h0
      rw [if_pos rfl, decide_eq_true_eq] at h1
      exact right0 (by omega) (by omega) (nonine_few h1)
    · rw [if_neg h0, decide_eq_true_eq] at h1
      subst h1
      exact right1 (by omega) (by omega) h3
end K81
set_option maxHeartbeats 2000000
namespace K81
open Dl PySem
theorem fit_nt {i : Int} : Fit (nt i) := fun c hc => by
  by_cases h : c < 1114112
  · exact h
  · exact absurd hc (nt_free (by omega))
theorem fit_app {a b : List Nat} (ha : Fit a) (hb : Fit b) : Fit (a ++ b) := fun c hc => (List.mem_append.mp hc).elim (ha c) (hb c)
theorem fit_cons {a : Nat} {b : List Nat} (ha : a < 1114112) (hb : Fit b) : Fit (a :: b) := fun c hc => (List.mem_cons.mp hc).elim (fun e => e ▸ ha) (hb c)
theorem fit_f : ∀ t : F, Fit t.txt
  | .num i => fit_nt
  | .wor a b => fit_cons (by decide) (fit_app fit_nt (fit_cons (by decide) fit_nt))
  | .two w a b => fit_cons (by decide) (fit_app (show Fit w.l by cases w <;> (unfold Fit; decide)) (fit_cons (by decide) (fit_app (fit_f a) (fit_cons (by decide) (fit_app (fit_f b) (by unfold Fit; decide))))))
  | .pick a b c => fit_cons (by decide) (fit_app (by unfold Fit; decide) (fit_cons (by decide) (fit_app (fit_f a) (fit_cons (by decide) (fit_app (fit_f b) (fit_cons (by decide) (fit_app (fit_f c) (by unfold Fit; decide))))))))
  | .times k a => fit_cons (by decide) (fit_app (by unfold Fit; decide) (fit_cons (by decide) (fit_app fit_nt (fit_cons (by decide) (fit_app (fit_f a) (by unfold Fit; decide))))))
  | .rest k a => fit_cons (by decide) (fit_app (by unfold Fit; decide) (fit_cons (by decide) (fit_app fit_nt (fit_cons (by decide) (fit_app (fit_f a) (by unfold Fit; decide))))))
theorem dg_fit {r : Int} (h : 0 ≤ r ∧ r ≤ 7) : dg r < 1114112 := by unfold dg; omega
theorem fit_t : ∀ t : T, t.ok → Fit t.txt
  | .lf r, h => fit_cons (dg_fit h) (by unfold Fit; decide)
  | .un r a, h => fit_cons (dg_fit h.1) (fit_cons (by decide) (fit_app (fit_t a h.2) (by unfold Fit; decide)))
  | .bi r a b, h => fit_cons (dg_fit h.1) (fit_cons (by decide) (fit_app (fit_t a h.2.1) (fit_cons (by decide) (fit_app (fit_t b h.2.2) (by unfold Fit; decide)))))
/-- every text bent from L once or twice is answered rightly -/
def Sound (n : Nat) (w : Int) (L : List Nat) : Prop := ∀ L1 L2 : List Nat, Bend L L1 → L1.length ≤ L.length + 1 → Fit L1 → Bend L1 L2 → L2.length ≤ L1.length + 1 → Fit L2 →
  sem n 35 [.d (.int w), .d (.str (SX.S L1))] = .ok (.d (.bool true)) [] ∧ sem n 35 [.d (.int w), .d (.str (SX.S L2))] = .ok (.d (.bool true)) []
theorem sound0 {n : Nat} {t : F} (hn : 55 ≤ n) (hd : t.deep ≤ 40) (hl : t.txt.length ≤ 50000) : Sound n 0 t.txt := fun L1 L2 b1 l1 f1 b2 l2 f2 => by
  obtain ⟨n1, n2⟩ := nonine_bent hd b1 b2
  exact ⟨right0 hn (by omega) n1, right0 hn (by omega) n2⟩
theorem sound1 {n : Nat} {L : List Nat} (hn : 55 ≤ n) (hl : L.length ≤ 50000) : Sound n 1 L := fun L1 L2 b1 l1 f1 b2 l2 f2 => ⟨right1 hn (by omega) f1, right1 hn (by omega) f2⟩
def turnB (n : Nat) : Ev → RS := (fSeq (fSet 7 (fCall (sem n 36) [.r 2, .v (fVar 5)]))
    (fIf (fOrT (fNotT (fTest (fCall (sem n 35) [.v (fVar 4), .v (fVar 7)]))) (fNotT (fTest (fCall (sem n 35) [.v (fVar 4), .v (fCall (sem n 36) [.r 2, .v (fVar 7)])]))))
    (fRet (fC (.bool false)))
    fSkip))
theorem turn_eq {n : Nat} {l : List D} {k j q w : Int} {L : List Nat} {m x : Option Sv} (hn : 55 ≤ n) (hl : L.length ≤ 50000) (hF : Fit L) (hS : Sound n w L) (hx : NR x) :
    ∃ (q' : Int) (L1 : List Nat), turnB n [some (.fz l), some (.d (.int k)), some (.ow [.int q]), m, some (.d (.int w)), some (.d (.str (SX.S L))), some (.d (.int j)), x] =
      .next [some (.fz l), some (.d (.int k)), some (.ow [.int q']), m, some (.d (.int w)), some (.d (.str (SX.S L))), some (.d (.int j)), some (.d (.str (SX.S L1)))] := by
  obtain ⟨q1, L1, e1, b1, l1, f1⟩ := bent_eq (n := n) (p := q) (L := L) (by omega) (by omega) hF
  obtain ⟨q2, L2, e2, b2, l2, f2⟩ := bent_eq (n := n) (p := q1) (L := L1) (by omega) (by omega) f1
  obtain ⟨r1, r2⟩ := hS L1 L2 b1 l1 f1 b2 l2 f2
  have rx := nr_rf hx
  refine ⟨q2, L1, ?_⟩
  unfold turnB
  simp_arith [e1, e2, r1, r2, rx]
theorem turns_eq {n : Nat} {l : List D} {k q w : Int} {L : List Nat} {m x y : Option Sv} (hn : 55 ≤ n) (hl : L.length ≤ 50000) (hF : Fit L) (hS : Sound n w L) (hx : NR x) (hy : NR y) :
    ∃ (q' : Int) (x' y' : Option Sv), forL (.n 6) (turnB n) (upFrom 0 4) [some (.fz l), some (.d (.int k)), some (.ow [.int q]), m, some (.d (.int w)), some (.d (.str (SX.S L))), x, y] =
      .next [some (.fz l), some (.d (.int k)), some (.ow [.int q']), m, some (.d (.int w)), some (.d (.str (SX.S L))), x', y'] ∧ NR x' ∧ NR y' := by
  obtain ⟨ρ', e, q', x', y', rfl, hx', hy'⟩ := for_n (v := 6) (body := turnB n)
    (I := fun j ρ => ∃ (q : Int) (x y : Option Sv), ρ = [some (.fz l), some (.d (.int k)), some (.ow [.int q]), m, some (.d (.int w)), some (.d (.str (SX.S L))), x, y] ∧ NR x ∧ NR y) (n := 4)
    (ρ := [some (.fz l), some (.d (.int k)), some (.ow [.int q]), m, some (.d (.int w)), some (.d (.str (SX.S L))), x, y])
    (fun j ρ hj ⟨q, x, y, e0, hx, hy⟩ => by
      subst e0
      refine ⟨nr_rf hx [y], ?_⟩
      obtain ⟨q', L1, e⟩ := turn_eq (n := n) (l := l) (m := m) (k := k) (j := j) (q := q) hn hl hF hS hy
      exact ⟨_, e, q', _, _, rfl, nr_d _, nr_d _⟩) ⟨q, x, y, rfl, hx, hy⟩
  exact ⟨q', x', y', e, hx', hy'⟩
def fixB (n : Nat) : Ev → RS := (fSeq (fUnp (.t [(.n 4), (.n 5)]) (fCall (sem n 37) [.r 2]))
    (fIf (fNotT (fTest (fCall (sem n 35) [.v (fVar 4), .v (fVar 5)])))
    (fRet (fC (.bool false)))
    fSkip))
theorem fixes_eq {n : Nat} {l : List D} {k q : Int} {m a b x y : Option Sv} (hn : 60 ≤ n) (ha : NR a) (hb : NR b) (hx : NR x) :
    ∃ (q' : Int) (a' b' x' : Option Sv), forL (.n 6) (fixB n) (upFrom 0 4) [some (.fz l), some (.d (.int k)), some (.ow [.int q]), m, a, b, x, y] =
      .next [some (.fz l), some (.d (.int k)), some (.ow [.int q']), m, a', b', x', y] ∧ NR a' ∧ NR b' ∧ NR x' := by
  obtain ⟨ρ', e, q', a', b', x', rfl, ha', hb', hx'⟩ := for_n (v := 6) (body := fixB n)
    (I := fun j ρ => ∃ (q : Int) (a b x : Option Sv), ρ = [some (.fz l), some (.d (.int k)), some (.ow [.int q]), m, a, b, x, y] ∧ NR a ∧ NR b ∧ NR x) (n := 4)
    (ρ := [some (.fz l), some (.d (.int k)), some (.ow [.int q]), m, a, b, x, y])
    (fun j ρ hj ⟨q, a, b, x, e0, ha, hb, hx⟩ => by
      subst e0
      refine ⟨nr_rf hx [y], ?_⟩
      obtain ⟨w, s, q', e1, e2⟩ := fixed_eq (n := n) (p := q) hn
      have ra := nr_rf ha
      have rb := nr_rf hb
      refine ⟨_, ?_, q', _, _, _, rfl, nr_d (.int w), nr_d s, nr_d (.int j)⟩
      unfold fixB
      simp_arith [e1, e2, ra, rb]) ⟨q, a, b, x, rfl, ha, hb, hx⟩
  exact ⟨q', a', b', x', e, ha', hb', hx'⟩
end K81
set_option maxHeartbeats 4000000
namespace K81
open PySem PySem.Spec L2 Dl
open PyProof.Rows (envOfC)
abbrev N0 : List Str := ["thing"]
theorem sc0 : FnScope N0 ["thing"] (defScope (top 29)) := ⟨rfl, rfl, rfl, by decide +kernel, rfl, by decide +kernel, by decide +kernel⟩
abbrev N1 : List Str := ["thing", "part"]
theorem sc1 : FnScope N1 ["thing"] (defScope (top 30)) := ⟨rfl, rfl, rfl, by decide +kernel, rfl, by decide +kernel, by decide +kernel⟩
abbrev N2 : List Str := ["formula", "many"]
theorem sc2 : FnScope N2 ["formula"] (defScope (top 31)) := ⟨rfl, rfl, rfl, by decide +kernel, rfl, by decide +kernel, by decide +kernel⟩
abbrev N3 : List Str := ["thing", "deep", "part"]
theorem sc3 : FnScope N3 ["thing", "deep"] (defScope (top 32)) := ⟨rfl, rfl, rfl, by decide +kernel, rfl, by decide +kernel, by decide +kernel⟩
abbrev N4 : List Str := ["thing"]
theorem sc4 : FnScope N4 ["thing"] (defScope (top 33)) := ⟨rfl, rfl, rfl, by decide +kernel, rfl, by decide +kernel, by decide +kernel⟩
abbrev N5 : List Str := ["tree", "bough"]
theorem sc5 : FnScope N5 ["tree"] (defScope (top 37)) := ⟨rfl, rfl, rfl, by decide +kernel, rfl, by decide +kernel, by decide +kernel⟩
abbrev N6 : List Str := ["text", "figures", "sign"]
theorem sc6 : FnScope N6 ["text"] (defScope (top 42)) := ⟨rfl, rfl, rfl, by decide +kernel, rfl, by decide +kernel, by decide +kernel⟩
abbrev N7 : List Str := ["text", "number"]
theorem sc7 : FnScope N7 ["text"] (defScope (top 43)) := ⟨rfl, rfl, rfl, by decide +kernel, rfl, by decide +kernel, by decide +kernel⟩
abbrev N8 : List Str := ["text", "parts"]
theorem sc8 : FnScope N8 ["text"] (defScope (top 44)) := ⟨rfl, rfl, rfl, by decide +kernel, rfl, by decide +kernel, by decide +kernel⟩
abbrev N9 : List Str := ["text", "found", "deep", "sign"]
theorem sc9 : FnScope N9 ["text"] (defScope (top 45)) := ⟨rfl, rfl, rfl, by decide +kernel, rfl, by decide +kernel, by decide +kernel⟩
abbrev N10 : List Str := ["text", "deep", "pieces", "word", "found", "piece"]
theorem sc10 : FnScope N10 ["text", "deep"] (defScope (top 46)) := ⟨rfl, rfl, rfl, by decide +kernel, rfl, by decide +kernel, by decide +kernel⟩
abbrev N11 : List Str := ["text", "found"]
theorem sc11 : FnScope N11 ["text"] (defScope (top 47)) := ⟨rfl, rfl, rfl, by decide +kernel, rfl, by decide +kernel, by decide +kernel⟩
abbrev N12 : List Str := ["text", "place", "deep", "rule", "boughs", "bough"]
theorem sc12 : FnScope N12 ["text", "place", "deep"] (defScope (top 48)) := ⟨rfl, rfl, rfl, by decide +kernel, rfl, by decide +kernel, by decide +kernel⟩
abbrev N13 : List Str := ["text", "found", "place"]
theorem sc13 : FnScope N13 ["text"] (defScope (top 49)) := ⟨rfl, rfl, rfl, by decide +kernel, rfl, by decide +kernel, by decide +kernel⟩
abbrev N14 : List Str := ["_law_cell_here", "_law_k", "_law_number"]
theorem sc14 : FnScope N14 ["_law_cell_here", "_law_k"] (defScope (top 51)) := ⟨rfl, rfl, rfl, by decide +kernel, rfl, by decide +kernel, by decide +kernel⟩
abbrev N15 : List Str := ["_law_script", "_law_k", "_law_cell_here", "_law_found", "_law_j"]
theorem sc15 : FnScope N15 ["_law_script", "_law_k"] (defScope (top 52)) := ⟨rfl, rfl, rfl, by decide +kernel, rfl, by decide +kernel, by decide +kernel⟩
abbrev N16 : List Str := ["_law_pile", "_law_size", "_law_digit"]
theorem sc16 : FnScope N16 ["_law_pile", "_law_size"] (defScope (top 53)) := ⟨rfl, rfl, rfl, by decide +kernel, rfl, by decide +kernel, by decide +kernel⟩
abbrev N17 : List Str := ["_law_pile", "_law_most", "_law_deep", "_law_far", "_law_way", "_law_many_here", "_law_place", "_law_left", "_law_inner", "_law_k", "_law_spare", "_law_word"]
theorem sc17 : FnScope N17 ["_law_pile", "_law_most", "_law_deep", "_law_far"] (defScope (top 54)) := ⟨rfl, rfl, rfl, by decide +kernel, rfl, by decide +kernel, by decide +kernel⟩
abbrev N18 : List Str := ["_law_formula", "_law_words", "_law_part"]
theorem sc18 : FnScope N18 ["_law_formula"] (defScope (top 55)) := ⟨rfl, rfl, rfl, by decide +kernel, rfl, by decide +kernel, by decide +kernel⟩
abbrev N19 : List Str := ["_law_pile", "_law_knots_here", "_law_deep", "_law_rule", "_law_boughs", "_law_left", "_law_many_here", "_law_share"]
theorem sc19 : FnScope N19 ["_law_pile", "_law_knots_here", "_law_deep"] (defScope (top 56)) := ⟨rfl, rfl, rfl, by decide +kernel, rfl, by decide +kernel, by decide +kernel⟩
abbrev N20 : List Str := ["_law_tree", "_law_bough"]
theorem sc20 : FnScope N20 ["_law_tree"] (defScope (top 57)) := ⟨rfl, rfl, rfl, by decide +kernel, rfl, by decide +kernel, by decide +kernel⟩
abbrev N21 : List Str := ["_law_caught", "_law_name", "_law_found", "_law_names", "_law_one"]
theorem sc21 : FnScope N21 ["_law_caught", "_law_name"] (defScope (top 58)) := ⟨rfl, rfl, rfl, by decide +kernel, rfl, by decide +kernel, by decide +kernel⟩
abbrev N22 : List Str := ["_law_text_here", "_law_sign"]
theorem sc22 : FnScope N22 ["_law_text_here"] (defScope (top 59)) := ⟨rfl, rfl, rfl, by decide +kernel, rfl, by decide +kernel, by decide +kernel⟩
abbrev N23 : List Str := ["_law_text_here"]
theorem sc23 : FnScope N23 ["_law_text_here"] (defScope (top 60)) := ⟨rfl, rfl, rfl, by decide +kernel, rfl, by decide +kernel, by decide +kernel⟩
abbrev N24 : List Str := ["_law_text_here", "_law_place", "_law_deep", "_law_k"]
theorem sc24 : FnScope N24 ["_law_text_here", "_law_place"] (defScope (top 61)) := ⟨rfl, rfl, rfl, by decide +kernel, rfl, by decide +kernel, by decide +kernel⟩
abbrev N25 : List Str := ["_law_text_here", "_law_found", "_law_place", "_law_end_here"]
theorem sc25 : FnScope N25 ["_law_text_here"] (defScope (top 62)) := ⟨rfl, rfl, rfl, by decide +kernel, rfl, by decide +kernel, by decide +kernel⟩
abbrev N26 : List Str := ["_law_text_here", "_law_numbers"]
theorem sc26 : FnScope N26 ["_law_text_here"] (defScope (top 63)) := ⟨rfl, rfl, rfl, by decide +kernel, rfl, by decide +kernel, by decide +kernel⟩
abbrev N27 : List Str := ["_law_text_here", "_law_deep", "_law_number", "_law_entries_here", "_law_many_here", "_law_front", "_law_least", "_law_inner", "_law_some", "_law_entry"]
theorem sc27 : FnScope N27 ["_law_text_here", "_law_deep"] (defScope (top 64)) := ⟨rfl, rfl, rfl, by decide +kernel, rfl, by decide +kernel, by decide +kernel⟩
abbrev N28 : List Str := ["_law_formula", "_law_part"]
theorem sc28 : FnScope N28 ["_law_formula"] (defScope (top 65)) := ⟨rfl, rfl, rfl, by decide +kernel, rfl, by decide +kernel, by decide +kernel⟩
abbrev N29 : List Str := ["_law_text_here", "_law_found"]
theorem sc29 : FnScope N29 ["_law_text_here"] (defScope (top 66)) := ⟨rfl, rfl, rfl, by decide +kernel, rfl, by decide +kernel, by decide +kernel⟩
abbrev N30 : List Str := ["_law_text_here", "_law_place", "_law_deep", "_law_rule", "_law_boughs", "_law_bough"]
theorem sc30 : FnScope N30 ["_law_text_here", "_law_place", "_law_deep"] (defScope (top 67)) := ⟨rfl, rfl, rfl, by decide +kernel, rfl, by decide +kernel, by decide +kernel⟩
abbrev N31 : List Str := ["_law_tree", "_law_bough"]
theorem sc31 : FnScope N31 ["_law_tree"] (defScope (top 68)) := ⟨rfl, rfl, rfl, by decide +kernel, rfl, by decide +kernel, by decide +kernel⟩
abbrev N32 : List Str := ["_law_text_here", "_law_found", "_law_place"]
theorem sc32 : FnScope N32 ["_law_text_here"] (defScope (top 69)) := ⟨rfl, rfl, rfl, by decide +kernel, rfl, by decide +kernel, by decide +kernel⟩
abbrev N33 : List Str := ["_law_way", "_law_text_here"]
theorem sc33 : FnScope N33 ["_law_way", "_law_text_here"] (defScope (top 70)) := ⟨rfl, rfl, rfl, by decide +kernel, rfl, by decide +kernel, by decide +kernel⟩
abbrev N34 : List Str := ["_law_way", "_law_text_here", "_law_found", "_law_caught", "e"]
theorem sc34 : FnScope N34 ["_law_way", "_law_text_here"] (defScope (top 71)) := ⟨rfl, rfl, rfl, by decide +kernel, rfl, by decide +kernel, by decide +kernel⟩
abbrev N35 : List Str := ["_law_way", "_law_text_here", "_law_due_here", "_law_found", "_law_caught"]
theorem sc35 : FnScope N35 ["_law_way", "_law_text_here"] (defScope (top 72)) := ⟨rfl, rfl, rfl, by decide +kernel, rfl, by decide +kernel, by decide +kernel⟩
abbrev N36 : List Str := ["_law_pile", "_law_text_here", "_law_place", "_law_other", "_law_sign", "_law_way", "_law_both", "_law_ends"]
theorem sc36 : FnScope N36 ["_law_pile", "_law_text_here"] (defScope (top 73)) := ⟨rfl, rfl, rfl, by decide +kernel, rfl, by decide +kernel, by decide +kernel⟩
abbrev N37 : List Str := ["_law_pile", "_law_some"]
theorem sc37 : FnScope N37 ["_law_pile"] (defScope (top 74)) := ⟨rfl, rfl, rfl, by decide +kernel, rfl, by decide +kernel, by decide +kernel⟩
abbrev N38 : List Str := ["_law_some", "_law_way", "_law_text_here"]
theorem sc38 : FnScope N38 [] (defScope (top 75)) := ⟨rfl, rfl, rfl, by decide +kernel, rfl, by decide +kernel, by decide +kernel⟩
abbrev N39 : List Str := ["_law_script", "_law_k", "_law_pile", "_law_some", "_law_way", "_law_text_here", "_law_turn", "_law_bent_here"]
theorem sc39 : FnScope N39 ["_law_script"] (defScope (top 76)) := ⟨rfl, rfl, rfl, by decide +kernel, rfl, by decide +kernel, by decide +kernel⟩
def psOf (i : Nat) : List Str := match i with
  | 0 => ["thing"]
  | 1 => ["thing"]
  | 2 => ["formula"]
  | 3 => ["thing", "deep"]
  | 4 => ["thing"]
  | 5 => ["tree"]
  | 6 => ["text"]
  | 7 => ["text"]
  | 8 => ["text"]
  | 9 => ["text"]
  | 10 => ["text", "deep"]
  | 11 => ["text"]
  | 12 => ["text", "place", "deep"]
  | 13 => ["text"]
  | 14 => ["_law_cell_here", "_law_k"]
  | 15 => ["_law_script", "_law_k"]
  | 16 => ["_law_pile", "_law_size"]
  | 17 => ["_law_pile", "_law_most", "_law_deep", "_law_far"]
  | 18 => ["_law_formula"]
  | 19 => ["_law_pile", "_law_knots_here", "_law_deep"]
  | 20 => ["_law_tree"]
  | 21 => ["_law_caught", "_law_name"]
  | 22 => ["_law_text_here"]
  | 23 => ["_law_text_here"]
  | 24 => ["_law_text_here", "_law_place"]
  | 25 => ["_law_text_here"]
  | 26 => ["_law_text_here"]
  | 27 => ["_law_text_here", "_law_deep"]
  | 28 => ["_law_formula"]
  | 29 => ["_law_text_here"]
  | 30 => ["_law_text_here", "_law_place", "_law_deep"]
  | 31 => ["_law_tree"]
  | 32 => ["_law_text_here"]
  | 33 => ["_law_way", "_law_text_here"]
  | 34 => ["_law_way", "_law_text_here"]
  | 35 => ["_law_way", "_law_text_here"]
  | 36 => ["_law_pile", "_law_text_here"]
  | 37 => ["_law_pile"]
  | 38 => []
  | 39 => ["_law_script"]
  | _ => []
/-- what the top of the text says -/
structure Facts (K : PySem.W.Frag) (w : World) (mg : Str → Option Value) (cl fa dd : Nat → Addr) (fd : Nat → FuncData) : Prop where
  f0 : Fun K "is_number" "is_number" (top 29) (fa 0) (fd 0)
  b0 : Binds K (fd 0) (psOf 0) []
  m0 : mg "is_number" = some (.ref (fa 0))
  f1 : Fun K "numbers_fit" "numbers_fit" (top 30) (fa 1) (fd 1)
  b1 : Binds K (fd 1) (psOf 1) []
  m1 : mg "numbers_fit" = some (.ref (fa 1))
  f2 : Fun K "inner_of" "inner_of" (top 31) (fa 2) (fd 2)
  b2 : Binds K (fd 2) (psOf 2) []
  m2 : mg "inner_of" = some (.ref (fa 2))
  f3 : Fun K "deep_of" "deep_of" (top 32) (fa 3) (fd 3)
  b3 : Binds K (fd 3) (psOf 3) []
  m3 : mg "deep_of" = some (.ref (fa 3))
  f4 : Fun K "is_formula" "is_formula" (top 33) (fa 4) (fd 4)
  b4 : Binds K (fd 4) (psOf 4) []
  m4 : mg "is_formula" = some (.ref (fa 4))
  f5 : Fun K "knots_of" "knots_of" (top 37) (fa 5) (fd 5)
  b5 : Binds K (fd 5) (psOf 5) []
  m5 : mg "knots_of" = some (.ref (fa 5))
  f6 : Fun K "number_read" "number_read" (top 42) (fa 6) (fd 6)
  b6 : Binds K (fd 6) (psOf 6) []
  m6 : mg "number_read" = some (.ref (fa 6))
  f7 : Fun K "count_read" "count_read" (top 43) (fa 7) (fd 7)
  b7 : Binds K (fd 7) (psOf 7) []
  m7 : mg "count_read" = some (.ref (fa 7))
  f8 : Fun K "name_read" "name_read" (top 44) (fa 8) (fd 8)
  b8 : Binds K (fd 8) (psOf 8) []
  m8 : mg "name_read" = some (.ref (fa 8))
  f9 : Fun K "pieces_of" "pieces_of" (top 45) (fa 9) (fd 9)
  b9 : Binds K (fd 9) (psOf 9) []
  m9 : mg "pieces_of" = some (.ref (fa 9))
  f10 : Fun K "formula_from" "formula_from" (top 46) (fa 10) (fd 10)
  b10 : Binds K (fd 10) (psOf 10) []
  m10 : mg "formula_from" = some (.ref (fa 10))
  f11 : Fun K "read_formula" "read_formula" (top 47) (fa 11) (fd 11)
  b11 : Binds K (fd 11) (psOf 11) []
  m11 : mg "read_formula" = some (.ref (fa 11))
  f12 : Fun K "tree_from" "tree_from" (top 48) (fa 12) (fd 12)
  b12 : Binds K (fd 12) (psOf 12) []
  m12 : mg "tree_from" = some (.ref (fa 12))
  f13 : Fun K "read_tree" "read_tree" (top 49) (fa 13) (fd 13)
  b13 : Binds K (fd 13) (psOf 13) []
  m13 : mg "read_tree" = some (.ref (fa 13))
  f14 : Fun K "_law_mixed" "_law_mixed" (top 51) (fa 14) (fd 14)
  b14 : Binds K (fd 14) (psOf 14) []
  m14 : mg "_law_mixed" = some (.ref (fa 14))
  f15 : Fun K "_law_cell" "_law_cell" (top 52) (fa 15) (fd 15)
  b15 : Binds K (fd 15) (psOf 15) []
  m15 : mg "_law_cell" = some (.ref (fa 15))
  f16 : Fun K "_law_take" "_law_take" (top 53) (fa 16) (fd 16)
  b16 : Binds K (fd 16) (psOf 16) []
  m16 : mg "_law_take" = some (.ref (fa 16))
  f17 : Fun K "_law_grown" "_law_grown" (top 54) (fa 17) (fd 17)
  b17 : Binds K (fd 17) (psOf 17) []
  m17 : mg "_law_grown" = some (.ref (fa 17))
  f18 : Fun K "_law_text" "_law_text" (top 55) (fa 18) (fd 18)
  b18 : Binds K (fd 18) (psOf 18) []
  m18 : mg "_law_text" = some (.ref (fa 18))
  f19 : Fun K "_law_wood" "_law_wood" (top 56) (fa 19) (fd 19)
  b19 : Binds K (fd 19) (psOf 19) []
  m19 : mg "_law_wood" = some (.ref (fa 19))
  f20 : Fun K "_law_tree_text" "_law_tree_text" (top 57) (fa 20) (fd 20)
  b20 : Binds K (fd 20) (psOf 20) []
  m20 : mg "_law_tree_text" = some (.ref (fa 20))
  f21 : Fun K "_law_only" "_law_only" (top 58) (fa 21) (fd 21)
  b21 : Binds K (fd 21) (psOf 21) []
  m21 : mg "_law_only" = some (.ref (fa 21))
  f22 : Fun K "_law_digits" "_law_digits" (top 59) (fa 22) (fd 22)
  b22 : Binds K (fd 22) (psOf 22) []
  m22 : mg "_law_digits" = some (.ref (fa 22))
  f23 : Fun K "_law_number_in" "_law_number_in" (top 60) (fa 23) (fd 23)
  b23 : Binds K (fd 23) (psOf 23) []
  m23 : mg "_law_number_in" = some (.ref (fa 23))
  f24 : Fun K "_law_end" "_law_end" (top 61) (fa 24) (fd 24)
  b24 : Binds K (fd 24) (psOf 24) []
  m24 : mg "_law_end" = some (.ref (fa 24))
  f25 : Fun K "_law_entries" "_law_entries" (top 62) (fa 25) (fd 25)
  b25 : Binds K (fd 25) (psOf 25) []
  m25 : mg "_law_entries" = some (.ref (fa 25))
  f26 : Fun K "_law_name_in" "_law_name_in" (top 63) (fa 26) (fd 26)
  b26 : Binds K (fd 26) (psOf 26) []
  m26 : mg "_law_name_in" = some (.ref (fa 26))
  f27 : Fun K "_law_formula_in" "_law_formula_in" (top 64) (fa 27) (fd 27)
  b27 : Binds K (fd 27) (psOf 27) []
  m27 : mg "_law_formula_in" = some (.ref (fa 27))
  f28 : Fun K "_law_many" "_law_many" (top 65) (fa 28) (fd 28)
  b28 : Binds K (fd 28) (psOf 28) []
  m28 : mg "_law_many" = some (.ref (fa 28))
  f29 : Fun K "_law_read_formula" "_law_read_formula" (top 66) (fa 29) (fd 29)
  b29 : Binds K (fd 29) (psOf 29) []
  m29 : mg "_law_read_formula" = some (.ref (fa 29))
  f30 : Fun K "_law_tree_in" "_law_tree_in" (top 67) (fa 30) (fd 30)
  b30 : Binds K (fd 30) (psOf 30) []
  m30 : mg "_law_tree_in" = some (.ref (fa 30))
  f31 : Fun K "_law_knots" "_law_knots" (top 68) (fa 31) (fd 31)
  b31 : Binds K (fd 31) (psOf 31) []
  m31 : mg "_law_knots" = some (.ref (fa 31))
  f32 : Fun K "_law_read_tree" "_law_read_tree" (top 69) (fa 32) (fd 32)
  b32 : Binds K (fd 32) (psOf 32) []
  m32 : mg "_law_read_tree" = some (.ref (fa 32))
  f33 : Fun K "_law_due" "_law_due" (top 70) (fa 33) (fd 33)
  b33 : Binds K (fd 33) (psOf 33) []
  m33 : mg "_law_due" = some (.ref (fa 33))
  f34 : Fun K "_law_asked" "_law_asked" (top 71) (fa 34) (fd 34)
  b34 : Binds K (fd 34) (psOf 34) []
  m34 : mg "_law_asked" = some (.ref (fa 34))
  f35 : Fun K "_law_right" "_law_right" (top 72) (fa 35) (fd 35)
  b35 : Binds K (fd 35) (psOf 35) []
  m35 : mg "_law_right" = some (.ref (fa 35))
  f36 : Fun K "_law_bent" "_law_bent" (top 73) (fa 36) (fd 36)
  b36 : Binds K (fd 36) (psOf 36) []
  m36 : mg "_law_bent" = some (.ref (fa 36))
  f37 : Fun K "_law_fixed" "_law_fixed" (top 74) (fa 37) (fd 37)
  b37 : Binds K (fd 37) (psOf 37) []
  m37 : mg "_law_fixed" = some (.ref (fa 37))
  f38 : Fun K "_law_long_good" "_law_long_good" (top 75) (fa 38) (fd 38)
  b38 : Binds K (fd 38) (psOf 38) []
  m38 : mg "_law_long_good" = some (.ref (fa 38))
  f39 : Fun K "law" "law" (top 76) (fa 39) (fd 39)
  b39 : Binds K (fd 39) (psOf 39) []
  m39 : mg "law" = some (.ref (fa 39))
  g_ValueError : mg "ValueError" = none
  g_abs : mg "abs" = none
  g_all : mg "all" = none
  g_bool : mg "bool" = none
  g_int : mg "int" = none
  g_isinstance : mg "isinstance" = none
  g_len : mg "len" = none
  g_max : mg "max" = none
  g_range : mg "range" = none
  g_str : mg "str" = none
  g_sum : mg "sum" = none
  g_tuple : mg "tuple" = none
  k_MOST_DEEP_formulas : ∃ t, mg "MOST_DEEP_formulas" = some (.int 4 t)
  k_MOST_PARTS : ∃ t, mg "MOST_PARTS" = some (.int 15 t)
  k_MOST_FIGURES : ∃ t, mg "MOST_FIGURES" = some (.int 40 t)
  k_FIGURES : ∃ t, mg "FIGURES" = some (.str "0123456789" t)
  k_MOST_NESTED : ∃ t, mg "MOST_NESTED" = some (.int 40 t)
  k_MOST_DEEP_trees : ∃ t, mg "MOST_DEEP_trees" = some (.int 30 t)
  k_MOST_KNOTS : ∃ t, mg "MOST_KNOTS" = some (.int 60 t)
  n_WORDS : mg "WORDS" = some (.ref (dd 0))
  d_WORDS : KTab K w (dd 0) tab_WORDS
  x_NoText : ExcF K mg "NoText" (cl 17)
  n_BookError : mg "BookError" = some (.ref (cl 0))
  e_BookError : IsEx K cl (.ref (cl 0)) isx_BookError
  e_ValueError : IsEx K cl (.type "ValueError") isx_ValueError
  n_NoFormula : mg "NoFormula" = some (.ref (cl 1))
  e_NoFormula : IsEx K cl (.ref (cl 1)) isx_NoFormula
  n_NoWorth : mg "NoWorth" = some (.ref (cl 2))
  e_NoWorth : IsEx K cl (.ref (cl 2)) isx_NoWorth
  n_NoBook : mg "NoBook" = some (.ref (cl 3))
  e_NoBook : IsEx K cl (.ref (cl 3)) isx_NoBook
  n_NoRule : mg "NoRule" = some (.ref (cl 4))
  e_NoRule : IsEx K cl (.ref (cl 4)) isx_NoRule
  n_NoName : mg "NoName" = some (.ref (cl 5))
  e_NoName : IsEx K cl (.ref (cl 5)) isx_NoName
  n_NoSign : mg "NoSign" = some (.ref (cl 6))
  e_NoSign : IsEx K cl (.ref (cl 6)) isx_NoSign
  n_NoTree : mg "NoTree" = some (.ref (cl 7))
  e_NoTree : IsEx K cl (.ref (cl 7)) isx_NoTree
  n_NoPath : mg "NoPath" = some (.ref (cl 8))
  e_NoPath : IsEx K cl (.ref (cl 8)) isx_NoPath
  n_NoGiven : mg "NoGiven" = some (.ref (cl 9))
  e_NoGiven : IsEx K cl (.ref (cl 9)) isx_NoGiven
  n_NoGraph : mg "NoGraph" = some (.ref (cl 10))
  e_NoGraph : IsEx K cl (.ref (cl 10)) isx_NoGraph
  n_NoNeed : mg "NoNeed" = some (.ref (cl 11))
  e_NoNeed : IsEx K cl (.ref (cl 11)) isx_NoNeed
  n_NoVisits : mg "NoVisits" = some (.ref (cl 12))
  e_NoVisits : IsEx K cl (.ref (cl 12)) isx_NoVisits
  n_NoPlan : mg "NoPlan" = some (.ref (cl 16))
  e_NoPlan : IsEx K cl (.ref (cl 16)) isx_NoPlan
  n_NoJoin : mg "NoJoin" = some (.ref (cl 14))
  e_NoJoin : IsEx K cl (.ref (cl 14)) isx_NoJoin
  n_NoText : mg "NoText" = some (.ref (cl 17))
  e_NoText : IsEx K cl (.ref (cl 17)) isx_NoText
  n_NoLine : mg "NoLine" = some (.ref (cl 18))
  e_NoLine : IsEx K cl (.ref (cl 18)) isx_NoLine
  n_TooMany : mg "TooMany" = some (.ref (cl 19))
  e_TooMany : IsEx K cl (.ref (cl 19)) isx_TooMany
  n_HasRing : mg "HasRing" = some (.ref (cl 20))
  e_HasRing : IsEx K cl (.ref (cl 20)) isx_HasRing
  n_NoBridge : mg "NoBridge" = some (.ref (cl 13))
  e_NoBridge : IsEx K cl (.ref (cl 13)) isx_NoBridge
  n_UnitedRing : mg "UnitedRing" = some (.ref (cl 21))
  e_UnitedRing : IsEx K cl (.ref (cl 21)) isx_UnitedRing
  n_NoOrder : mg "NoOrder" = some (.ref (cl 22))
  e_NoOrder : IsEx K cl (.ref (cl 22)) isx_NoOrder
  n_OtherShape : mg "OtherShape" = some (.ref (cl 15))
  e_OtherShape : IsEx K cl (.ref (cl 15)) isx_OtherShape
  n_NotFit : mg "NotFit" = some (.ref (cl 23))
  e_NotFit : IsEx K cl (.ref (cl 23)) isx_NotFit
  t_BookError : ∀ c y, exm_BookError c = some y → PySem.W.exmOne K (.ref (cl c)) (.ref (cl 0)) = some y
section
variable {P : Program} {w : World} {K : PySem.W.Frag} {mg : Str → Option Value} {base : Heap} {cl fa dd : Nat → Addr} {fd : Nat → FuncData}
theorem Facts.nm_BookError (F : Facts K w mg cl fa dd fd) {X : Cx} (hm : X.mg = mg) (hg : Gl X "BookError") : Names X "BookError" (.ref (cl 0)) := ⟨hg, by decide, .inl (by rw [hm]; exact F.n_BookError)⟩
abbrev Ok (P : Program) (w : World) (K : PySem.W.Frag) (mg : Str → Option Value) (base : Heap) (cl fa : Nat → Addr) (fd : Nat → FuncData) (n i : Nat) : Prop := FnG P w K mg base n (fa i) (fd i) (psOf i) (spF K cl (sem n i) (psOf i).length)
theorem st0 {n : Nat} (F : Facts K w mg cl fa dd fd) (ih : ∀ i, i < 40 → Ok P w K mg base cl fa fd n i) : Ok P w K mg base cl fa fd (n + 1) 0 := by
  refine fn_body (N := N0) (fb := fb0 (sem n)) F.f0 sc0 fun cdv A outer s H E b gd hr hcl => ?_
  have pas := passes_of (X := cxOf (L2.CX P w) P w K mg base N0 "is_number" (defScope (top 29)) (fa 0) cdv A outer s H E) rfl
  have tk := takes_of (X := cxOf (L2.CX P w) P w K mg base N0 "is_number" (defScope (top 29)) (fa 0) cdv A outer s H E) (E := E) rfl rfl rfl rfl
  have lets := lets_of tk
  have U64 : (A.deeper (envOfC "is_number" (defScope (top 29)) s.heap.objs.size (fa 0) cdv)).units + 64 < cLine := by have := hr.un; omega
  have U65 : (A.deeper (envOfC "is_number" (defScope (top 29)) s.heap.objs.size (fa 0) cdv)).units + 65 < cLine := by have := hr.un; omega
  have U200 : (A.deeper (envOfC "is_number" (defScope (top 29)) s.heap.objs.size (fa 0) cdv)).units + 200 < cLine := by have := hr.un; omega
  exact (s_one (s_ret (e_and (e_isN hcl isT_int isEx_none rfl F.g_isinstance (o_n (b := b) (W := W0) 0) (pe_bltn (v := .ty "int") (u := .type "int") rfl F.g_int (by decide +kernel) rfl) (.ty "int")) (e_one (e_not (e_isN hcl isT_bool isEx_none rfl F.g_isinstance (o_n (b := b) (W := W0) 0) (pe_bltn (v := .ty "bool") (u := .type "bool") rfl F.g_bool (by decide +kernel) rfl) (.ty "bool")))))))
theorem st1 {n : Nat} (F : Facts K w mg cl fa dd fd) (ih : ∀ i, i < 40 → Ok P w K mg base cl fa fd n i) : Ok P w K mg base cl fa fd (n + 1) 1 := by
  refine fn_body (N := N1) (fb := fb1 (sem n)) F.f1 sc1 fun cdv A outer s H E b gd hr hcl => ?_
  have pas := passes_of (X := cxOf (L2.CX P w) P w K mg base N1 "numbers_fit" (defScope (top 30)) (fa 1) cdv A outer s H E) rfl
  have tk := takes_of (X := cxOf (L2.CX P w) P w K mg base N1 "numbers_fit" (defScope (top 30)) (fa 1) cdv A outer s H E) (E := E) rfl rfl rfl rfl
  have lets := lets_of tk
  have U64 : (A.deeper (envOfC "numbers_fit" (defScope (top 30)) s.heap.objs.size (fa 1) cdv)).units + 64 < cLine := by have := hr.un; omega
  have U65 : (A.deeper (envOfC "numbers_fit" (defScope (top 30)) s.heap.objs.size (fa 1) cdv)).units + 65 < cLine := by have := hr.un; omega
  have U200 : (A.deeper (envOfC "numbers_fit" (defScope (top 30)) s.heap.objs.size (fa 1) cdv)).units + 200 < cLine := by have := hr.un; omega
  exact (s_cons (s_if (t_cmp (op_eqD2 U64) os_eq (e_ix (o_n 0) e_int) e_str)
    (s_one (s_ret (e_and (e_cmp (op_eqD2 U64) os_eq (e_callB call_len cs_len rfl F.g_len boot_len (o_n 0)) e_int) (e_and (e_call hcl (ih 0 (by decide)) gd hr rfl F.m0 F.f0.kp F.b0 lets (ar_v (e_ix (o_n 0) e_int) ar_nil)) (e_one (e_cmp op_lt os_lt (e_callB call_abs cs_abs rfl F.g_abs (by decide +kernel) (e_ix (o_n 0) e_int)) (e_op L2.op_pow os_pow e_int e_int)))))))
    s_nil)
    (s_cons (s_if (t_cmp (op_eqD2 U64) os_eq (e_ix (o_n 0) e_int) e_str)
    (s_one (s_ret (e_and (e_cmp (op_eqD2 U64) os_eq (e_callB call_len cs_len rfl F.g_len boot_len (o_n 0)) e_int) (e_one (e_callB (cr_all rfl) cs_all rfl F.g_all (by decide +kernel) (e_lc (own := [("part", 1)]) rfl sc1.nd (by decide) (i_seq (e_sl (o_n 0) (pr_e e_int) pr_no)) (blkOk_by (N := N1) (sc := defScope (top 30)) (by decide +kernel)) (fun _ _ _ _ _ b1 h1 => (g_n sc1.nd rfl (by first | exact Or.inl rfl | exact Or.inr rfl))) (fun _ _ _ _ _ b1 h1 => ts_nil) (fun _ _ _ _ _ b1 h1 => (e_and (e_call (h1.trans hcl) (ih 0 (by decide)) gd hr rfl F.m0 F.f0.kp F.b0 lets0 (ar_v (e_var 1) ar_nil)) (e_one (e_cmp op_ge os_ge (o_n 1) e_int))))))))))
    s_nil)
    (s_cons (s_if (t_cmp (op_eqD2 U64) os_eq (e_ix (o_n 0) e_int) e_str)
    (s_one (s_ret (e_and (e_cmp (op_eqD2 U64) os_eq (e_callB call_len cs_len rfl F.g_len boot_len (o_n 0)) e_int) (e_and (e_call hcl (ih 0 (by decide)) gd hr rfl F.m0 F.f0.kp F.b0 lets (ar_v (e_ix (o_n 0) e_int) ar_nil)) (e_one (e_cmp op_lt os_lt (e_callB call_abs cs_abs rfl F.g_abs (by decide +kernel) (e_ix (o_n 0) e_int)) (e_op L2.op_pow os_pow e_int e_int)))))))
    s_nil)
    (s_cons (s_if (t_cmp (op_eqD2 U64) os_eq (e_ix (o_n 0) e_int) e_str)
    (s_one (s_ret (e_and (e_cmp (op_eqD2 U64) os_eq (e_callB call_len cs_len rfl F.g_len boot_len (o_n 0)) e_int) (e_and (e_call hcl (ih 0 (by decide)) gd hr rfl F.m0 F.f0.kp F.b0 lets (ar_v (e_ix (o_n 0) e_int) ar_nil)) (e_one (e_chain op_lt os_lt op_lt os_lt e_int (e_ix (o_n 0) e_int) (e_op L2.op_pow os_pow e_int e_int)))))))
    s_nil)
    (s_one (s_ret (e_cmp (op_eqD2 U64) os_eq (e_callB call_len cs_len rfl F.g_len boot_len (o_n 0)) (e_op op_addD os_add e_int (e_kget F.d_WORDS (pe_glob (v := .ref (dd 0)) rfl F.n_WORDS rfl) (e_ix (o_n 0) e_int))))))))))
theorem st2 {n : Nat} (F : Facts K w mg cl fa dd fd) (ih : ∀ i, i < 40 → Ok P w K mg base cl fa fd n i) : Ok P w K mg base cl fa fd (n + 1) 2 := by
  refine fn_body (N := N2) (fb := fb2 (sem n)) F.f2 sc2 fun cdv A outer s H E b gd hr hcl => ?_
  have pas := passes_of (X := cxOf (L2.CX P w) P w K mg base N2 "inner_of" (defScope (top 31)) (fa 2) cdv A outer s H E) rfl
  have tk := takes_of (X := cxOf (L2.CX P w) P w K mg base N2 "inner_of" (defScope (top 31)) (fa 2) cdv A outer s H E) (E := E) rfl rfl rfl rfl
  have lets := lets_of tk
  have U64 : (A.deeper (envOfC "inner_of" (defScope (top 31)) s.heap.objs.size (fa 2) cdv)).units + 64 < cLine := by have := hr.un; omega
  have U65 : (A.deeper (envOfC "inner_of" (defScope (top 31)) s.heap.objs.size (fa 2) cdv)).units + 65 < cLine := by have := hr.un; omega
  have U200 : (A.deeper (envOfC "inner_of" (defScope (top 31)) s.heap.objs.size (fa 2) cdv)).units + 200 < cLine := by have := hr.un; omega
  exact (s_cons (s_set (i := 1) sc2.nd rfl (by first | exact Or.inl rfl | exact Or.inr rfl) (e_kget F.d_WORDS (pe_glob (v := .ref (dd 0)) rfl F.n_WORDS rfl) (e_ix (o_n 0) e_int)))
    (s_one (s_ret (e_sl (o_n 0) (pr_e (e_op L2.op_sub os_sub (e_callB call_len cs_len rfl F.g_len boot_len (o_n 0)) (o_n 1))) pr_no))))
theorem st3 {n : Nat} (F : Facts K w mg cl fa dd fd) (ih : ∀ i, i < 40 → Ok P w K mg base cl fa fd n i) : Ok P w K mg base cl fa fd (n + 1) 3 := by
  refine fn_body (N := N3) (fb := fb3 (sem n)) F.f3 sc3 fun cdv A outer s H E b gd hr hcl => ?_
  have pas := passes_of (X := cxOf (L2.CX P w) P w K mg base N3 "deep_of" (defScope (top 32)) (fa 3) cdv A outer s H E) rfl
  have tk := takes_of (X := cxOf (L2.CX P w) P w K mg base N3 "deep_of" (defScope (top 32)) (fa 3) cdv A outer s H E) (E := E) rfl rfl rfl rfl
  have lets := lets_of tk
  have U64 : (A.deeper (envOfC "deep_of" (defScope (top 32)) s.heap.objs.size (fa 3) cdv)).units + 64 < cLine := by have := hr.un; omega
  have U65 : (A.deeper (envOfC "deep_of" (defScope (top 32)) s.heap.objs.size (fa 3) cdv)).units + 65 < cLine := by have := hr.un; omega
  have U200 : (A.deeper (envOfC "deep_of" (defScope (top 32)) s.heap.objs.size (fa 3) cdv)).units + 200 < cLine := by have := hr.un; omega
  exact (s_cons (s_if (t_pw (w_or (t_cmp op_gt os_gt (o_n 1) (e_glob (v := (.int 4)) rfl (F.k_MOST_DEEP_formulas).choose_spec ⟨_, rfl⟩ (fun _ => .int _))) (w_or (t_not (t_val (e_isN hcl isT_tuple isEx_none rfl F.g_isinstance (o_n (b := b) (W := W0) 0) (pe_bltn (v := .ty "tuple") (u := .type "tuple") rfl F.g_tuple (by decide +kernel) rfl) (.ty "tuple")))) (w_or (t_cmp (op_eqD2 U64) os_eq (e_callB call_len cs_len rfl F.g_len boot_len (o_n 0)) e_int) (w_or1 (t_not (t_val (e_isE isT_str rfl F.g_isinstance (e_ix (o_n 0) e_int) (pe_bltn (v := .ty "str") (u := .type "str") rfl F.g_str (by decide +kernel) rfl) (.ty "str")))))))))
    (s_one (s_ret (e_op op_addD os_add (e_glob (v := (.int 15)) rfl (F.k_MOST_PARTS).choose_spec ⟨_, rfl⟩ (fun _ => .int _)) e_int)))
    s_nil)
    (s_cons (s_if (t_pw (w_or (t_knin F.d_WORDS (pe_glob (v := .ref (dd 0)) rfl F.n_WORDS rfl) (e_ix (o_n 0) e_int)) (w_or1 (t_not (t_val (e_call hcl (ih 1 (by decide)) gd hr rfl F.m1 F.f1.kp F.b1 lets (ar_v (e_var 0) ar_nil)))))))
    (s_one (s_ret (e_op op_addD os_add (e_glob (v := (.int 15)) rfl (F.k_MOST_PARTS).choose_spec ⟨_, rfl⟩ (fun _ => .int _)) e_int)))
    s_nil)
    (s_one (s_ret (e_op op_addD os_add e_int (e_callB (cr_sum rfl) cs_sum rfl F.g_sum (by decide +kernel) (e_lc (own := [("part", 2)]) rfl sc3.nd (by decide) (i_seq (e_call hcl (ih 2 (by decide)) gd hr rfl F.m2 F.f2.kp F.b2 lets (ar_v (e_var 0) ar_nil))) (blkOk_by (N := N3) (sc := defScope (top 32)) (by decide +kernel)) (fun _ _ _ _ _ b2 h2 => (g_n sc3.nd rfl (by first | exact Or.inl rfl | exact Or.inr rfl))) (fun _ _ _ _ _ b2 h2 => ts_nil) (fun _ _ _ _ _ b2 h2 => (e_call (h2.trans hcl) (ih 3 (by decide)) gd hr rfl F.m3 F.f3.kp F.b3 lets0 (ar_v (e_var 2) (ar_v (e_op op_addD os_add (o_n 1) e_int) ar_nil)))))))))))
theorem st4 {n : Nat} (F : Facts K w mg cl fa dd fd) (ih : ∀ i, i < 40 → Ok P w K mg base cl fa fd n i) : Ok P w K mg base cl fa fd (n + 1) 4 := by
  refine fn_body (N := N4) (fb := fb4 (sem n)) F.f4 sc4 fun cdv A outer s H E b gd hr hcl => ?_
  have pas := passes_of (X := cxOf (L2.CX P w) P w K mg base N4 "is_formula" (defScope (top 33)) (fa 4) cdv A outer s H E) rfl
  have tk := takes_of (X := cxOf (L2.CX P w) P w K mg base N4 "is_formula" (defScope (top 33)) (fa 4) cdv A outer s H E) (E := E) rfl rfl rfl rfl
  have lets := lets_of tk
  have U64 : (A.deeper (envOfC "is_formula" (defScope (top 33)) s.heap.objs.size (fa 4) cdv)).units + 64 < cLine := by have := hr.un; omega
  have U65 : (A.deeper (envOfC "is_formula" (defScope (top 33)) s.heap.objs.size (fa 4) cdv)).units + 65 < cLine := by have := hr.un; omega
  have U200 : (A.deeper (envOfC "is_formula" (defScope (top 33)) s.heap.objs.size (fa 4) cdv)).units + 200 < cLine := by have := hr.un; omega
  exact (s_one (s_ret (e_cmp op_le os_le (e_call hcl (ih 3 (by decide)) gd hr rfl F.m3 F.f3.kp F.b3 lets (ar_v (e_var 0) (ar_v e_int ar_nil))) (e_glob (v := (.int 15)) rfl (F.k_MOST_PARTS).choose_spec ⟨_, rfl⟩ (fun _ => .int _)))))
theorem st5 {n : Nat} (F : Facts K w mg cl fa dd fd) (ih : ∀ i, i < 40 → Ok P w K mg base cl fa fd n i) : Ok P w K mg base cl fa fd (n + 1) 5 := by
  refine fn_body (N := N5) (fb := fb5 (sem n)) F.f5 sc5 fun cdv A outer s H E b gd hr hcl => ?_
  have pas := passes_of (X := cxOf (L2.CX P w) P w K mg base N5 "knots_of" (defScope (top 37)) (fa 5) cdv A outer s H E) rfl
  have tk := takes_of (X := cxOf (L2.CX P w) P w K mg base N5 "knots_of" (defScope (top 37)) (fa 5) cdv A outer s H E) (E := E) rfl rfl rfl rfl
  have lets := lets_of tk
  have U64 : (A.deeper (envOfC "knots_of" (defScope (top 37)) s.heap.objs.size (fa 5) cdv)).units + 64 < cLine := by have := hr.un; omega
  have U65 : (A.deeper (envOfC "knots_of" (defScope (top 37)) s.heap.objs.size (fa 5) cdv)).units + 65 < cLine := by have := hr.un; omega
  have U200 : (A.deeper (envOfC "knots_of" (defScope (top 37)) s.heap.objs.size (fa 5) cdv)).units + 200 < cLine := by have := hr.un; omega
  exact (s_one (s_ret (e_op op_addD os_add e_int (e_callB (cr_sum rfl) cs_sum rfl F.g_sum (by decide +kernel) (e_lc (own := [("bough", 1)]) rfl sc5.nd (by decide) (i_seq (e_ix (o_n 0) e_int)) (blkOk_by (N := N5) (sc := defScope (top 37)) (by decide +kernel)) (fun _ _ _ _ _ b3 h3 => (g_n sc5.nd rfl (by first | exact Or.inl rfl | exact Or.inr rfl))) (fun _ _ _ _ _ b3 h3 => ts_nil) (fun _ _ _ _ _ b3 h3 => (e_call (h3.trans hcl) (ih 5 (by decide)) gd hr rfl F.m5 F.f5.kp F.b5 lets0 (ar_v (e_var 1) ar_nil))))))))
theorem st6 {n : Nat} (F : Facts K w mg cl fa dd fd) (ih : ∀ i, i < 40 → Ok P w K mg base cl fa fd n i) : Ok P w K mg base cl fa fd (n + 1) 6 := by
  refine fn_body (N := N6) (fb := fb6 (sem n)) F.f6 sc6 fun cdv A outer s H E b gd hr hcl => ?_
  have pas := passes_of (X := cxOf (L2.CX P w) P w K mg base N6 "number_read" (defScope (top 42)) (fa 6) cdv A outer s H E) rfl
  have tk := takes_of (X := cxOf (L2.CX P w) P w K mg base N6 "number_read" (defScope (top 42)) (fa 6) cdv A outer s H E) (E := E) rfl rfl rfl rfl
  have lets := lets_of tk
  have U64 : (A.deeper (envOfC "number_read" (defScope (top 42)) s.heap.objs.size (fa 6) cdv)).units + 64 < cLine := by have := hr.un; omega
  have U65 : (A.deeper (envOfC "number_read" (defScope (top 42)) s.heap.objs.size (fa 6) cdv)).units + 65 < cLine := by have := hr.un; omega
  have U200 : (A.deeper (envOfC "number_read" (defScope (top 42)) s.heap.objs.size (fa 6) cdv)).units + 200 < cLine := by have := hr.un; omega
  exact (s_cons (s_set (i := 1) sc6.nd rfl (by first | exact Or.inl rfl | exact Or.inr rfl) (e_var 0))
    (s_cons (s_if (t_cmp (op_eqD2 U64) os_eq (e_sl (o_n 0) pr_no (pr_e e_int)) e_str)
    (s_one (s_set (i := 1) sc6.nd rfl (by first | exact Or.inl rfl | exact Or.inr rfl) (e_sl (o_n 0) (pr_e e_int) pr_no)))
    s_nil)
    (s_cons (s_if (t_pw (w_or (t_cmp op_lt os_lt (e_callB call_len cs_len rfl F.g_len boot_len (o_n 1)) e_int) (w_or (t_cmp op_gt os_gt (e_callB call_len cs_len rfl F.g_len boot_len (o_n 1)) (e_glob (v := (.int 40)) rfl (F.k_MOST_FIGURES).choose_spec ⟨_, rfl⟩ (fun _ => .int _))) (w_or1 (t_not (t_val (e_callB (cr_all rfl) cs_all rfl F.g_all (by decide +kernel) (e_lc (own := [("sign", 2)]) rfl sc6.nd (by decide) (i_seq (e_var 1)) (blkOk_by (N := N6) (sc := defScope (top 42)) (by decide +kernel)) (fun _ _ _ _ _ b4 h4 => (g_n sc6.nd rfl (by first | exact Or.inl rfl | exact Or.inr rfl))) (fun _ _ _ _ _ b4 h4 => ts_nil) (fun _ _ _ _ _ b4 h4 => (e_cmp (op_inA U65) os_in (o_n 2) (e_glob (v := (.str "0123456789")) rfl (F.k_FIGURES).choose_spec ⟨_, rfl⟩ (fun _ => .str _))))))))))))
    (s_one (s_raise 17 hcl rfl tk (F.x_NoText.ok rfl rfl)))
    s_nil)
    (s_cons (s_if (t_pw (w_and (t_cmp (op_eqD2 U64) os_eq (e_ix (o_n 1) e_int) e_str) (w_and1 (t_cmp (op_neD2 U64) os_ne (o_n 0) e_str))))
    (s_one (s_raise 17 hcl rfl tk (F.x_NoText.ok rfl rfl)))
    s_nil)
    (s_one (s_ret (e_callTy call_intD cs_int rfl F.g_int (by decide +kernel) (o_n 0))))))))
theorem st7 {n : Nat} (F : Facts K w mg cl fa dd fd) (ih : ∀ i, i < 40 → Ok P w K mg base cl fa fd n i) : Ok P w K mg base cl fa fd (n + 1) 7 := by
  refine fn_body (N := N7) (fb := fb7 (sem n)) F.f7 sc7 fun cdv A outer s H E b gd hr hcl => ?_
  have pas := passes_of (X := cxOf (L2.CX P w) P w K mg base N7 "count_read" (defScope (top 43)) (fa 7) cdv A outer s H E) rfl
  have tk := takes_of (X := cxOf (L2.CX P w) P w K mg base N7 "count_read" (defScope (top 43)) (fa 7) cdv A outer s H E) (E := E) rfl rfl rfl rfl
  have lets := lets_of tk
  have U64 : (A.deeper (envOfC "count_read" (defScope (top 43)) s.heap.objs.size (fa 7) cdv)).units + 64 < cLine := by have := hr.un; omega
  have U65 : (A.deeper (envOfC "count_read" (defScope (top 43)) s.heap.objs.size (fa 7) cdv)).units + 65 < cLine := by have := hr.un; omega
  have U200 : (A.deeper (envOfC "count_read" (defScope (top 43)) s.heap.objs.size (fa 7) cdv)).units + 200 < cLine := by have := hr.un; omega
  exact (s_cons (s_set (i := 1) sc7.nd rfl (by first | exact Or.inl rfl | exact Or.inr rfl) (e_call hcl (ih 6 (by decide)) gd hr rfl F.m6 F.f6.kp F.b6 lets (ar_v (e_var 0) ar_nil)))
    (s_cons (s_if (t_cmp (op_eqD2 U64) os_eq (e_ix (o_n 0) e_int) e_str)
    (s_one (s_raise 17 hcl rfl tk (F.x_NoText.ok rfl rfl)))
    s_nil)
    (s_one (s_ret (e_move 1)))))
theorem st8 {n : Nat} (F : Facts K w mg cl fa dd fd) (ih : ∀ i, i < 40 → Ok P w K mg base cl fa fd n i) : Ok P w K mg base cl fa fd (n + 1) 8 := by
  refine fn_body (N := N8) (fb := fb8 (sem n)) F.f8 sc8 fun cdv A outer s H E b gd hr hcl => ?_
  have pas := passes_of (X := cxOf (L2.CX P w) P w K mg base N8 "name_read" (defScope (top 44)) (fa 8) cdv A outer s H E) rfl
  have tk := takes_of (X := cxOf (L2.CX P w) P w K mg base N8 "name_read" (defScope (top 44)) (fa 8) cdv A outer s H E) (E := E) rfl rfl rfl rfl
  have lets := lets_of tk
  have U64 : (A.deeper (envOfC "name_read" (defScope (top 44)) s.heap.objs.size (fa 8) cdv)).units + 64 < cLine := by have := hr.un; omega
  have U65 : (A.deeper (envOfC "name_read" (defScope (top 44)) s.heap.objs.size (fa 8) cdv)).units + 65 < cLine := by have := hr.un; omega
  have U200 : (A.deeper (envOfC "name_read" (defScope (top 44)) s.heap.objs.size (fa 8) cdv)).units + 200 < cLine := by have := hr.un; omega
  exact (s_cons (s_set (i := 1) sc8.nd rfl (by first | exact Or.inl rfl | exact Or.inr rfl) (e_split (e_sl (o_n 0) (pr_e e_int) pr_no) e_str))
    (s_cons (s_if (t_cmp (op_neD2 U64) os_ne (e_callB call_len cs_len rfl F.g_len boot_len (o_n 1)) e_int)
    (s_one (s_raise 17 hcl rfl tk (F.x_NoText.ok rfl rfl)))
    s_nil)
    (s_one (s_ret (e_tup (as_cons e_str (as_cons (e_call hcl (ih 7 (by decide)) gd hr rfl F.m7 F.f7.kp F.b7 lets (ar_v (e_ix (o_n 1) e_int) ar_nil)) (as_cons (e_call hcl (ih 7 (by decide)) gd hr rfl F.m7 F.f7.kp F.b7 lets (ar_v (e_ix (o_n 1) e_int) ar_nil)) as_nil))))))))
theorem st9 {n : Nat} (F : Facts K w mg cl fa dd fd) (ih : ∀ i, i < 40 → Ok P w K mg base cl fa fd n i) : Ok P w K mg base cl fa fd (n + 1) 9 := by
  refine fn_body (N := N9) (fb := fb9 (sem n)) F.f9 sc9 fun cdv A outer s H E b gd hr hcl => ?_
  have pas := passes_of (X := cxOf (L2.CX P w) P w K mg base N9 "pieces_of" (defScope (top 45)) (fa 9) cdv A outer s H E) rfl
  have tk := takes_of (X := cxOf (L2.CX P w) P w K mg base N9 "pieces_of" (defScope (top 45)) (fa 9) cdv A outer s H E) (E := E) rfl rfl rfl rfl
  have lets := lets_of tk
  have U64 : (A.deeper (envOfC "pieces_of" (defScope (top 45)) s.heap.objs.size (fa 9) cdv)).units + 64 < cLine := by have := hr.un; omega
  have U65 : (A.deeper (envOfC "pieces_of" (defScope (top 45)) s.heap.objs.size (fa 9) cdv)).units + 65 < cLine := by have := hr.un; omega
  have U200 : (A.deeper (envOfC "pieces_of" (defScope (top 45)) s.heap.objs.size (fa 9) cdv)).units + 200 < cLine := by have := hr.un; omega
  exact (s_cons (s_set (i := 1) sc9.nd rfl (by first | exact Or.inl rfl | exact Or.inr rfl) (e_lst (as_cons e_str as_nil)))
    (s_cons (s_set (i := 2) sc9.nd rfl (by first | exact Or.inl rfl | exact Or.inr rfl) e_int)
    (s_cons (s_for pas rfl (i_seq (e_var 0)) (g_n sc9.nd rfl (by first | exact Or.inl rfl | exact Or.inr rfl))
    (s_cons (s_set (i := 2) sc9.nd rfl (by first | exact Or.inl rfl | exact Or.inr rfl) (e_op L2.op_sub os_sub (e_op op_addD os_add (o_n 2) (e_callTy call_intD cs_int rfl F.g_int (by decide +kernel) (e_cmp (op_eqD2 U64) os_eq (o_n 3) e_str))) (e_callTy call_intD cs_int rfl F.g_int (by decide +kernel) (e_cmp (op_eqD2 U64) os_eq (o_n 3) e_str))))
    (s_cons (s_if (t_pw (w_or (t_cmp op_lt os_lt (o_n 2) e_int) (w_or1 (t_cmp op_gt os_gt (o_n 2) (e_glob (v := (.int 40)) rfl (F.k_MOST_NESTED).choose_spec ⟨_, rfl⟩ (fun _ => .int _))))))
    (s_one (s_raise 17 hcl rfl tk (F.x_NoText.ok rfl rfl)))
    s_nil)
    (s_one (s_if (t_pw (w_and (t_cmp (op_eqD2 U64) os_eq (o_n 3) e_str) (w_and1 (t_cmp (op_eqD2 U64) os_eq (o_n 2) e_int))))
    (s_one (s_append e_str (o_n (b := b) (W := W0) 1)))
    (s_one (PS.imp (ps_asg (e_op op_addD os_add (e_ix (o_n 1) (e_neg e_int)) (o_n 3)) (pg_sub (o_n (b := b) (W := W0) 1) (e_neg e_int) set_list)) set_post)))))))
    (s_one (s_ret (e_move 1))))))
theorem st10 {n : Nat} (F : Facts K w mg cl fa dd fd) (ih : ∀ i, i < 40 → Ok P w K mg base cl fa fd n i) : Ok P w K mg base cl fa fd (n + 1) 10 := by
  refine fn_body (N := N10) (fb := fb10 (sem n)) F.f10 sc10 fun cdv A outer s H E b gd hr hcl => ?_
  have pas := passes_of (X := cxOf (L2.CX P w) P w K mg base N10 "formula_from" (defScope (top 46)) (fa 10) cdv A outer s H E) rfl
  have tk := takes_of (X := cxOf (L2.CX P w) P w K mg base N10 "formula_from" (defScope (top 46)) (fa 10) cdv A outer s H E) (E := E) rfl rfl rfl rfl
  have lets := lets_of tk
  have U64 : (A.deeper (envOfC "formula_from" (defScope (top 46)) s.heap.objs.size (fa 10) cdv)).units + 64 < cLine := by have := hr.un; omega
  have U65 : (A.deeper (envOfC "formula_from" (defScope (top 46)) s.heap.objs.size (fa 10) cdv)).units + 65 < cLine := by have := hr.un; omega
  have U200 : (A.deeper (envOfC "formula_from" (defScope (top 46)) s.heap.objs.size (fa 10) cdv)).units + 200 < cLine := by have := hr.un; omega
  exact (s_cons (s_if (t_cmp op_gt os_gt (o_n 1) (e_glob (v := (.int 40)) rfl (F.k_MOST_NESTED).choose_spec ⟨_, rfl⟩ (fun _ => .int _)))
    (s_one (s_raise 17 hcl rfl tk (F.x_NoText.ok rfl rfl)))
    s_nil)
    (s_cons (s_if (t_cmp (op_eqD2 U64) os_eq (e_sl (o_n 0) pr_no (pr_e e_int)) e_str)
    (s_one (s_ret (e_call hcl (ih 8 (by decide)) gd hr rfl F.m8 F.f8.kp F.b8 lets (ar_v (e_var 0) ar_nil))))
    s_nil)
    (s_cons (s_if (t_pw (w_or (t_cmp (op_neD2 U64) os_ne (e_sl (o_n 0) pr_no (pr_e e_int)) e_str) (w_or1 (t_cmp (op_neD2 U64) os_ne (e_sl (o_n 0) (pr_e (e_neg e_int)) pr_no) e_str))))
    (s_one (s_ret (e_tup (as_cons e_str (as_cons (e_call hcl (ih 6 (by decide)) gd hr rfl F.m6 F.f6.kp F.b6 lets (ar_v (e_var 0) ar_nil)) as_nil)))))
    s_nil)
    (s_cons (s_set (i := 2) sc10.nd rfl (by first | exact Or.inl rfl | exact Or.inr rfl) (e_call hcl (ih 9 (by decide)) gd hr rfl F.m9 F.f9.kp F.b9 lets (ar_v (e_sl (o_n 0) (pr_e e_int) (pr_e (e_neg e_int))) ar_nil)))
    (s_cons (s_set (i := 3) sc10.nd rfl (by first | exact Or.inl rfl | exact Or.inr rfl) (e_ix (o_n 2) e_int))
    (s_cons (s_if (t_pw (w_or (t_knin F.d_WORDS (pe_glob (v := .ref (dd 0)) rfl F.n_WORDS rfl) (o_n 3)) (w_or1 (t_cmp (op_inA U65) os_in (o_n 3) (e_tup (as_cons e_str (as_cons e_str as_nil)))))))
    (s_one (s_raise 17 hcl rfl tk (F.x_NoText.ok rfl rfl)))
    s_nil)
    (s_cons (s_set (i := 4) sc10.nd rfl (by first | exact Or.inl rfl | exact Or.inr rfl) (e_lst (as_cons (e_var 3) as_nil)))
    (s_cons (s_if (t_pw (w_and (t_cmp (op_inA U65) os_in (o_n 3) (e_tup (as_cons e_str (as_cons e_str as_nil)))) (w_and1 (t_cmp op_gt os_gt (e_callB call_len cs_len rfl F.g_len boot_len (o_n 2)) e_int))))
    (s_cons (s_append (e_call hcl (ih 6 (by decide)) gd hr rfl F.m6 F.f6.kp F.b6 lets (ar_v (e_ix (o_n 2) e_int) ar_nil)) (o_n (b := b) (W := W0) 4))
    (s_one (s_set (i := 2) sc10.nd rfl (by first | exact Or.inl rfl | exact Or.inr rfl) (e_sl (o_n 2) (pr_e e_int) pr_no))))
    s_nil)
    (s_cons (s_if (t_cmp (op_neD2 U64) os_ne (e_callB call_len cs_len rfl F.g_len boot_len (o_n 2)) (e_op op_addD os_add e_int (e_kget F.d_WORDS (pe_glob (v := .ref (dd 0)) rfl F.n_WORDS rfl) (o_n 3))))
    (s_one (s_raise 17 hcl rfl tk (F.x_NoText.ok rfl rfl)))
    s_nil)
    (s_one (s_ret (e_callTy call_tuple_of cs_tuple rfl F.g_tuple (by decide +kernel) (e_op op_addD os_add (o_n 4) (e_lcX (own := [("piece", 5)]) rfl rfl rfl tk sc10.nd (by decide) (i_seq (e_sl (o_n 2) (pr_e e_int) pr_no)) (blkOk_by (N := N10) (sc := defScope (top 46)) (by decide +kernel)) (fun _ _ _ _ _ b5 h5 => (g_n sc10.nd rfl (by first | exact Or.inl rfl | exact Or.inr rfl))) (fun _ _ _ _ _ _ b5 h5 => (e_call (h5.trans hcl) (ih 10 (by decide)) gd hr rfl F.m10 F.f10.kp F.b10 lets_blk (ar_v (e_var 5) (ar_v (e_op op_addD os_add (o_n 1) e_int) ar_nil))))))))))))))))))
theorem st11 {n : Nat} (F : Facts K w mg cl fa dd fd) (ih : ∀ i, i < 40 → Ok P w K mg base cl fa fd n i) : Ok P w K mg base cl fa fd (n + 1) 11 := by
  refine fn_body (N := N11) (fb := fb11 (sem n)) F.f11 sc11 fun cdv A outer s H E b gd hr hcl => ?_
  have pas := passes_of (X := cxOf (L2.CX P w) P w K mg base N11 "read_formula" (defScope (top 47)) (fa 11) cdv A outer s H E) rfl
  have tk := takes_of (X := cxOf (L2.CX P w) P w K mg base N11 "read_formula" (defScope (top 47)) (fa 11) cdv A outer s H E) (E := E) rfl rfl rfl rfl
  have lets := lets_of tk
  have U64 : (A.deeper (envOfC "read_formula" (defScope (top 47)) s.heap.objs.size (fa 11) cdv)).units + 64 < cLine := by have := hr.un; omega
  have U65 : (A.deeper (envOfC "read_formula" (defScope (top 47)) s.heap.objs.size (fa 11) cdv)).units + 65 < cLine := by have := hr.un; omega
  have U200 : (A.deeper (envOfC "read_formula" (defScope (top 47)) s.heap.objs.size (fa 11) cdv)).units + 200 < cLine := by have := hr.un; omega
  exact (s_cons (s_set (i := 1) sc11.nd rfl (by first | exact Or.inl rfl | exact Or.inr rfl) (e_call hcl (ih 10 (by decide)) gd hr rfl F.m10 F.f10.kp F.b10 lets (ar_v (e_var 0) (ar_v e_int ar_nil))))
    (s_cons (s_if (t_not (t_val (e_call hcl (ih 4 (by decide)) gd hr rfl F.m4 F.f4.kp F.b4 lets (ar_v (e_var 1) ar_nil))))
    (s_one (s_raise 17 hcl rfl tk (F.x_NoText.ok rfl rfl)))
    s_nil)
    (s_one (s_ret (e_move 1)))))
theorem st12 {n : Nat} (F : Facts K w mg cl fa dd fd) (ih : ∀ i, i < 40 → Ok P w K mg base cl fa fd n i) : Ok P w K mg base cl fa fd (n + 1) 12 := by
  refine fn_body (N := N12) (fb := fb12 (sem n)) F.f12 sc12 fun cdv A outer s H E b gd hr hcl => ?_
  have pas := passes_of (X := cxOf (L2.CX P w) P w K mg base N12 "tree_from" (defScope (top 48)) (fa 12) cdv A outer s H E) rfl
  have tk := takes_of (X := cxOf (L2.CX P w) P w K mg base N12 "tree_from" (defScope (top 48)) (fa 12) cdv A outer s H E) (E := E) rfl rfl rfl rfl
  have lets := lets_of tk
  have U64 : (A.deeper (envOfC "tree_from" (defScope (top 48)) s.heap.objs.size (fa 12) cdv)).units + 64 < cLine := by have := hr.un; omega
  have U65 : (A.deeper (envOfC "tree_from" (defScope (top 48)) s.heap.objs.size (fa 12) cdv)).units + 65 < cLine := by have := hr.un; omega
  have U200 : (A.deeper (envOfC "tree_from" (defScope (top 48)) s.heap.objs.size (fa 12) cdv)).units + 200 < cLine := by have := hr.un; omega
  exact (s_cons (s_if (t_pw (w_or (t_cmp op_gt os_gt (o_n 2) (e_glob (v := (.int 30)) rfl (F.k_MOST_DEEP_trees).choose_spec ⟨_, rfl⟩ (fun _ => .int _))) (w_or1 (t_cmp (op_ninA U65) os_nin (e_sl (o_n 0) (pr_e (e_var 1)) (pr_e (e_op op_addD os_add (o_n 1) e_int))) (e_tup (as_cons e_str (as_cons e_str (as_cons e_str (as_cons e_str (as_cons e_str (as_cons e_str (as_cons e_str (as_cons e_str as_nil)))))))))))))
    (s_one (s_raise 17 hcl rfl tk (F.x_NoText.ok rfl rfl)))
    s_nil)
    (s_cons (s_set (i := 3) sc12.nd rfl (by first | exact Or.inl rfl | exact Or.inr rfl) (e_callTy call_intD cs_int rfl F.g_int (by decide +kernel) (e_ix (o_n 0) (o_n 1))))
    (s_cons (s_set (i := 1) sc12.nd rfl (by first | exact Or.inl rfl | exact Or.inr rfl) (e_op op_addD os_add (o_n 1) e_int))
    (s_cons (s_set (i := 4) sc12.nd rfl (by first | exact Or.inl rfl | exact Or.inr rfl) (e_lst as_nil))
    (s_cons (s_if (t_cmp (op_eqD2 U64) os_eq (e_sl (o_n 0) (pr_e (e_var 1)) (pr_e (e_op op_addD os_add (o_n 1) e_int))) e_str)
    (s_cons (s_unp (e_call hcl (ih 12 (by decide)) gd hr rfl F.m12 F.f12.kp F.b12 lets (ar_v (e_var 0) (ar_v (e_op op_addD os_add (o_n 1) e_int) (ar_v (e_op op_addD os_add (o_n 2) e_int) ar_nil)))) (g_t rfl (gs_cons (g_n sc12.nd rfl (by first | exact Or.inl rfl | exact Or.inr rfl)) (gs_cons (g_n sc12.nd rfl (by first | exact Or.inl rfl | exact Or.inr rfl)) gs_nil))))
    (s_cons (s_append (e_var 5) (o_n (b := b) (W := W0) 4))
    (s_cons (s_if (t_cmp (op_eqD2 U64) os_eq (e_sl (o_n 0) (pr_e (e_var 1)) (pr_e (e_op op_addD os_add (o_n 1) e_int))) e_str)
    (s_cons (s_unp (e_call hcl (ih 12 (by decide)) gd hr rfl F.m12 F.f12.kp F.b12 lets (ar_v (e_var 0) (ar_v (e_op op_addD os_add (o_n 1) e_int) (ar_v (e_op op_addD os_add (o_n 2) e_int) ar_nil)))) (g_t rfl (gs_cons (g_n sc12.nd rfl (by first | exact Or.inl rfl | exact Or.inr rfl)) (gs_cons (g_n sc12.nd rfl (by first | exact Or.inl rfl | exact Or.inr rfl)) gs_nil))))
    (s_one (s_append (e_var 5) (o_n (b := b) (W := W0) 4))))
    s_nil)
    (s_cons (s_if (t_cmp (op_neD2 U64) os_ne (e_sl (o_n 0) (pr_e (e_var 1)) (pr_e (e_op op_addD os_add (o_n 1) e_int))) e_str)
    (s_one (s_raise 17 hcl rfl tk (F.x_NoText.ok rfl rfl)))
    s_nil)
    (s_one (s_set (i := 1) sc12.nd rfl (by first | exact Or.inl rfl | exact Or.inr rfl) (e_op op_addD os_add (o_n 1) e_int)))))))
    s_nil)
    (s_one (s_ret (e_tup (as_cons (e_tup (as_cons (e_var 3) (as_cons (e_callTy call_tuple_of cs_tuple rfl F.g_tuple (by decide +kernel) (o_n 4)) as_nil))) (as_cons (e_var 1) as_nil))))))))))
theorem st13 {n : Nat} (F : Facts K w mg cl fa dd fd) (ih : ∀ i, i < 40 → Ok P w K mg base cl fa fd n i) : Ok P w K mg base cl fa fd (n + 1) 13 := by
  refine fn_body (N := N13) (fb := fb13 (sem n)) F.f13 sc13 fun cdv A outer s H E b gd hr hcl => ?_
  have pas := passes_of (X := cxOf (L2.CX P w) P w K mg base N13 "read_tree" (defScope (top 49)) (fa 13) cdv A outer s H E) rfl
  have tk := takes_of (X := cxOf (L2.CX P w) P w K mg base N13 "read_tree" (defScope (top 49)) (fa 13) cdv A outer s H E) (E := E) rfl rfl rfl rfl
  have lets := lets_of tk
  have U64 : (A.deeper (envOfC "read_tree" (defScope (top 49)) s.heap.objs.size (fa 13) cdv)).units + 64 < cLine := by have := hr.un; omega
  have U65 : (A.deeper (envOfC "read_tree" (defScope (top 49)) s.heap.objs.size (fa 13) cdv)).units + 65 < cLine := by have := hr.un; omega
  have U200 : (A.deeper (envOfC "read_tree" (defScope (top 49)) s.heap.objs.size (fa 13) cdv)).units + 200 < cLine := by have := hr.un; omega
  exact (s_cons (s_unp (e_call hcl (ih 12 (by decide)) gd hr rfl F.m12 F.f12.kp F.b12 lets (ar_v (e_var 0) (ar_v e_int (ar_v e_int ar_nil)))) (g_t rfl (gs_cons (g_n sc13.nd rfl (by first | exact Or.inl rfl | exact Or.inr rfl)) (gs_cons (g_n sc13.nd rfl (by first | exact Or.inl rfl | exact Or.inr rfl)) gs_nil))))
    (s_cons (s_if (t_pw (w_or (t_cmp (op_neD2 U64) os_ne (o_n 2) (e_callB call_len cs_len rfl F.g_len boot_len (o_n 0))) (w_or1 (t_cmp op_gt os_gt (e_call hcl (ih 5 (by decide)) gd hr rfl F.m5 F.f5.kp F.b5 lets (ar_v (e_var 1) ar_nil)) (e_glob (v := (.int 60)) rfl (F.k_MOST_KNOTS).choose_spec ⟨_, rfl⟩ (fun _ => .int _))))))
    (s_one (s_raise 17 hcl rfl tk (F.x_NoText.ok rfl rfl)))
    s_nil)
    (s_one (s_ret (e_move 1)))))
theorem st14 {n : Nat} (F : Facts K w mg cl fa dd fd) (ih : ∀ i, i < 40 → Ok P w K mg base cl fa fd n i) : Ok P w K mg base cl fa fd (n + 1) 14 := by
  refine fn_body (N := N14) (fb := fb14 (sem n)) F.f14 sc14 fun cdv A outer s H E b gd hr hcl => ?_
  have pas := passes_of (X := cxOf (L2.CX P w) P w K mg base N14 "_law_mixed" (defScope (top 51)) (fa 14) cdv A outer s H E) rfl
  have tk := takes_of (X := cxOf (L2.CX P w) P w K mg base N14 "_law_mixed" (defScope (top 51)) (fa 14) cdv A outer s H E) (E := E) rfl rfl rfl rfl
  have lets := lets_of tk
  have U64 : (A.deeper (envOfC "_law_mixed" (defScope (top 51)) s.heap.objs.size (fa 14) cdv)).units + 64 < cLine := by have := hr.un; omega
  have U65 : (A.deeper (envOfC "_law_mixed" (defScope (top 51)) s.heap.objs.size (fa 14) cdv)).units + 65 < cLine := by have := hr.un; omega
  have U200 : (A.deeper (envOfC "_law_mixed" (defScope (top 51)) s.heap.objs.size (fa 14) cdv)).units + 200 < cLine := by have := hr.un; omega
  exact (s_cons (s_set (i := 2) sc14.nd rfl (by first | exact Or.inl rfl | exact Or.inr rfl) (e_op L2.op_mod os_mod (e_op op_addD os_add (e_op op_addD os_add (e_op op_mulD os_mul (e_op L2.op_mod os_mod (o_n 0) e_int) e_int) (e_op op_mulD os_mul (o_n 1) e_int)) e_int) e_int))
    (s_cons (s_set (i := 2) sc14.nd rfl (by first | exact Or.inl rfl | exact Or.inr rfl) (e_op L2.op_mod os_mod (e_op op_mulD os_mul (o_n 2) (o_n 2)) e_int))
    (s_one (s_ret (e_op L2.op_mod os_mod (e_op op_mulD os_mul (o_n 2) (e_op op_addD os_add (o_n 2) e_int)) e_int)))))
theorem st15 {n : Nat} (F : Facts K w mg cl fa dd fd) (ih : ∀ i, i < 40 → Ok P w K mg base cl fa fd n i) : Ok P w K mg base cl fa fd (n + 1) 15 := by
  refine fn_body (N := N15) (fb := fb15 (sem n)) F.f15 sc15 fun cdv A outer s H E b gd hr hcl => ?_
  have pas := passes_of (X := cxOf (L2.CX P w) P w K mg base N15 "_law_cell" (defScope (top 52)) (fa 15) cdv A outer s H E) rfl
  have tk := takes_of (X := cxOf (L2.CX P w) P w K mg base N15 "_law_cell" (defScope (top 52)) (fa 15) cdv A outer s H E) (E := E) rfl rfl rfl rfl
  have lets := lets_of tk
  have U64 : (A.deeper (envOfC "_law_cell" (defScope (top 52)) s.heap.objs.size (fa 15) cdv)).units + 64 < cLine := by have := hr.un; omega
  have U65 : (A.deeper (envOfC "_law_cell" (defScope (top 52)) s.heap.objs.size (fa 15) cdv)).units + 65 < cLine := by have := hr.un; omega
  have U200 : (A.deeper (envOfC "_law_cell" (defScope (top 52)) s.heap.objs.size (fa 15) cdv)).units + 200 < cLine := by have := hr.un; omega
  exact (s_cons (s_set (i := 2) sc15.nd rfl (by first | exact Or.inl rfl | exact Or.inr rfl) e_int)
    (s_cons (s_if (t_cmp op_lt os_lt (o_n 1) (e_lenF rfl F.g_len (o_n (b := b) (W := W0) 0)))
    (s_one (s_set (i := 2) sc15.nd rfl (by first | exact Or.inl rfl | exact Or.inr rfl) (e_ixF (o_n (b := b) (W := W0) 0) (e_var 1))))
    s_nil)
    (s_cons (s_if (t_cmp op_ge os_ge (o_n 2) (e_op L2.op_pow os_pow e_int e_int))
    (s_one (s_ret (e_op L2.op_mod os_mod (e_op L2.op_sub os_sub (o_n 2) (e_op L2.op_pow os_pow e_int e_int)) (e_op op_mulD os_mul (e_op op_mulD os_mul (e_op op_mulD os_mul (e_op L2.op_pow os_pow e_int e_int) (e_op L2.op_pow os_pow e_int e_int)) (e_op L2.op_pow os_pow e_int e_int)) (e_op L2.op_pow os_pow e_int e_int)))))
    s_nil)
    (s_cons (s_set (i := 3) sc15.nd rfl (by first | exact Or.inl rfl | exact Or.inr rfl) e_int)
    (s_cons (s_for pas rfl (i_rng rfl F.g_range e_int) (g_n sc15.nd rfl (by first | exact Or.inl rfl | exact Or.inr rfl))
    (s_one (s_set (i := 3) sc15.nd rfl (by first | exact Or.inl rfl | exact Or.inr rfl) (e_op op_addD os_add (e_op op_mulD os_mul (o_n 3) e_int) (e_call hcl (ih 14 (by decide)) gd hr rfl F.m14 F.f14.kp F.b14 lets (ar_v (e_var 2) (ar_v (e_op op_addD os_add (e_op op_addD os_add (e_op op_mulD os_mul e_int (o_n 1)) (e_op op_mulD os_mul e_int (o_n 4))) (e_op op_mulD os_mul (o_n 4) (o_n 4))) ar_nil)))))))
    (s_one (s_ret (e_move 3))))))))
theorem st16 {n : Nat} (F : Facts K w mg cl fa dd fd) (ih : ∀ i, i < 40 → Ok P w K mg base cl fa fd n i) : Ok P w K mg base cl fa fd (n + 1) 16 := by
  refine fn_body (N := N16) (fb := fb16 (sem n)) F.f16 sc16 fun cdv A outer s H E b gd hr hcl => ?_
  have pas := passes_of (X := cxOf (L2.CX P w) P w K mg base N16 "_law_take" (defScope (top 53)) (fa 16) cdv A outer s H E) rfl
  have tk := takes_of (X := cxOf (L2.CX P w) P w K mg base N16 "_law_take" (defScope (top 53)) (fa 16) cdv A outer s H E) (E := E) rfl rfl rfl rfl
  have lets := lets_of tk
  have U64 : (A.deeper (envOfC "_law_take" (defScope (top 53)) s.heap.objs.size (fa 16) cdv)).units + 64 < cLine := by have := hr.un; omega
  have U65 : (A.deeper (envOfC "_law_take" (defScope (top 53)) s.heap.objs.size (fa 16) cdv)).units + 65 < cLine := by have := hr.un; omega
  have U200 : (A.deeper (envOfC "_law_take" (defScope (top 53)) s.heap.objs.size (fa 16) cdv)).units + 200 < cLine := by have := hr.un; omega
  exact (s_cons (s_set (i := 2) sc16.nd rfl (by first | exact Or.inl rfl | exact Or.inr rfl) (e_op L2.op_mod os_mod (e_ix (o_n 0) e_int) (o_n 1)))
    (s_cons (PS.imp (ps_asg (e_op L2.op_fdivW os_fdiv (e_ix (o_n 0) e_int) (o_n 1)) (pg_sub (o_n (b := b) (W := W0) 0) e_int set_list)) set_post)
    (s_one (s_ret (e_move 2)))))
theorem st17 {n : Nat} (F : Facts K w mg cl fa dd fd) (ih : ∀ i, i < 40 → Ok P w K mg base cl fa fd n i) : Ok P w K mg base cl fa fd (n + 1) 17 := by
  refine fn_body (N := N17) (fb := fb17 (sem n)) F.f17 sc17 fun cdv A outer s H E b gd hr hcl => ?_
  have pas := passes_of (X := cxOf (L2.CX P w) P w K mg base N17 "_law_grown" (defScope (top 54)) (fa 17) cdv A outer s H E) rfl
  have tk := takes_of (X := cxOf (L2.CX P w) P w K mg base N17 "_law_grown" (defScope (top 54)) (fa 17) cdv A outer s H E) (E := E) rfl rfl rfl rfl
  have lets := lets_of tk
  have U64 : (A.deeper (envOfC "_law_grown" (defScope (top 54)) s.heap.objs.size (fa 17) cdv)).units + 64 < cLine := by have := hr.un; omega
  have U65 : (A.deeper (envOfC "_law_grown" (defScope (top 54)) s.heap.objs.size (fa 17) cdv)).units + 65 < cLine := by have := hr.un; omega
  have U200 : (A.deeper (envOfC "_law_grown" (defScope (top 54)) s.heap.objs.size (fa 17) cdv)).units + 200 < cLine := by have := hr.un; omega
  exact (s_cons (s_set (i := 4) sc17.nd rfl (by first | exact Or.inl rfl | exact Or.inr rfl) (e_call hcl (ih 16 (by decide)) gd hr rfl F.m16 F.f16.kp F.b16 lets (ar_r (o_n (b := b) (W := W0) 0) (ar_v e_int ar_nil))))
    (s_cons (s_set (i := 5) sc17.nd rfl (by first | exact Or.inl rfl | exact Or.inr rfl) (e_ix (e_lst (as_cons e_int (as_cons e_int (as_cons e_int (as_cons e_int (as_cons e_int (as_cons e_int (as_cons e_int (as_cons e_int (as_cons e_int (as_cons e_int as_nil))))))))))) (o_n 4)))
    (s_cons (s_if (t_pw (w_or (t_cmp (op_eqD2 U64) os_eq (o_n 2) e_int) (w_or (t_cmp (op_eqD2 U64) os_eq (o_n 5) e_int) (w_or1 (t_cmp op_lt os_lt (o_n 1) (e_op op_addD os_add e_int (o_n 5)))))))
    (s_cons (s_if (t_cmp (op_eqD2 U64) os_eq (e_call hcl (ih 16 (by decide)) gd hr rfl F.m16 F.f16.kp F.b16 lets (ar_r (o_n (b := b) (W := W0) 0) (ar_v e_int ar_nil))) e_int)
    (s_one (s_ret (e_tup (as_cons e_str (as_cons (e_op op_addD os_add (e_op L2.op_sub os_sub (e_call hcl (ih 16 (by decide)) gd hr rfl F.m16 F.f16.kp F.b16 lets (ar_r (o_n (b := b) (W := W0) 0) (ar_v (e_op L2.op_sub os_sub (e_op op_mulD os_mul e_int (e_op L2.op_pow os_pow e_int e_int)) e_int) ar_nil))) (e_op L2.op_pow os_pow e_int e_int)) e_int) as_nil)))))
    s_nil)
    (s_cons (s_set (i := 6) sc17.nd rfl (by first | exact Or.inl rfl | exact Or.inr rfl) (e_call hcl (ih 16 (by decide)) gd hr rfl F.m16 F.f16.kp F.b16 lets (ar_r (o_n (b := b) (W := W0) 0) (ar_v (e_ix (e_lst (as_cons e_int (as_cons (e_var 3) as_nil))) (e_call hcl (ih 16 (by decide)) gd hr rfl F.m16 F.f16.kp F.b16 lets (ar_r (o_n (b := b) (W := W0) 0) (ar_v e_int ar_nil)))) ar_nil))))
    (s_one (s_ret (e_tup (as_cons e_str (as_cons (e_var 6) (as_cons (e_call hcl (ih 16 (by decide)) gd hr rfl F.m16 F.f16.kp F.b16 lets (ar_r (o_n (b := b) (W := W0) 0) (ar_v (e_ix (e_lst (as_cons e_int (as_cons (e_var 3) as_nil))) (e_call hcl (ih 16 (by decide)) gd hr rfl F.m16 F.f16.kp F.b16 lets (ar_r (o_n (b := b) (W := W0) 0) (ar_v e_int ar_nil)))) ar_nil))) as_nil))))))))
    s_nil)
    (s_cons (s_set (i := 7) sc17.nd rfl (by first | exact Or.inl rfl | exact Or.inr rfl) (e_op L2.op_sub os_sub (e_op L2.op_sub os_sub (o_n 1) e_int) (o_n 5)))
    (s_cons (s_set (i := 8) sc17.nd rfl (by first | exact Or.inl rfl | exact Or.inr rfl) (e_lst as_nil))
    (s_cons (s_for pas rfl (i_rng rfl F.g_range (e_var 5)) (g_n sc17.nd rfl (by first | exact Or.inl rfl | exact Or.inr rfl))
    (s_cons (s_set (i := 10) sc17.nd rfl (by first | exact Or.inl rfl | exact Or.inr rfl) (e_call hcl (ih 16 (by decide)) gd hr rfl F.m16 F.f16.kp F.b16 lets (ar_r (o_n (b := b) (W := W0) 0) (ar_v (e_op op_addD os_add (o_n 7) e_int) ar_nil))))
    (s_cons (s_set (i := 7) sc17.nd rfl (by first | exact Or.inl rfl | exact Or.inr rfl) (e_op L2.op_sub os_sub (o_n 7) (o_n 10)))
    (s_one (s_append (e_call hcl (ih 17 (by decide)) gd hr rfl F.m17 F.f17.kp F.b17 lets (ar_r (o_n (b := b) (W := W0) 0) (ar_v (e_op op_addD os_add e_int (o_n 10)) (ar_v (e_op L2.op_sub os_sub (o_n 2) e_int) (ar_v (e_var 3) ar_nil))))) (o_n (b := b) (W := W0) 8))))))
    (s_cons (s_set (i := 11) sc17.nd rfl (by first | exact Or.inl rfl | exact Or.inr rfl) (e_ix (e_lst (as_cons e_str (as_cons e_str (as_cons e_str (as_cons e_str (as_cons e_str (as_cons e_str (as_cons e_str as_nil)))))))) (e_op L2.op_sub os_sub (o_n 4) e_int)))
    (s_cons (s_if (t_cmp (op_eqD2 U64) os_eq (o_n 11) e_str)
    (s_one (s_ret (e_tup (as_cons (e_var 11) (as_cons (e_op L2.op_sub os_sub (e_call hcl (ih 16 (by decide)) gd hr rfl F.m16 F.f16.kp F.b16 lets (ar_r (o_n (b := b) (W := W0) 0) (ar_v e_int ar_nil))) e_int) (as_cons (e_ix (o_n 8) e_int) as_nil))))))
    s_nil)
    (s_cons (s_if (t_cmp (op_eqD2 U64) os_eq (o_n 11) e_str)
    (s_one (s_ret (e_tup (as_cons (e_var 11) (as_cons (e_op op_addD os_add e_int (e_call hcl (ih 16 (by decide)) gd hr rfl F.m16 F.f16.kp F.b16 lets (ar_r (o_n (b := b) (W := W0) 0) (ar_v e_int ar_nil)))) (as_cons (e_ix (o_n 8) e_int) as_nil))))))
    s_nil)
    (s_one (s_ret (e_callTy call_tuple_of cs_tuple rfl F.g_tuple (by decide +kernel) (e_op op_addD os_add (e_lst (as_cons (e_var 11) as_nil)) (o_n 8))))))))))))))
theorem st18 {n : Nat} (F : Facts K w mg cl fa dd fd) (ih : ∀ i, i < 40 → Ok P w K mg base cl fa fd n i) : Ok P w K mg base cl fa fd (n + 1) 18 := by
  refine fn_body (N := N18) (fb := fb18 (sem n)) F.f18 sc18 fun cdv A outer s H E b gd hr hcl => ?_
  have pas := passes_of (X := cxOf (L2.CX P w) P w K mg base N18 "_law_text" (defScope (top 55)) (fa 18) cdv A outer s H E) rfl
  have tk := takes_of (X := cxOf (L2.CX P w) P w K mg base N18 "_law_text" (defScope (top 55)) (fa 18) cdv A outer s H E) (E := E) rfl rfl rfl rfl
  have lets := lets_of tk
  have U64 : (A.deeper (envOfC "_law_text" (defScope (top 55)) s.heap.objs.size (fa 18) cdv)).units + 64 < cLine := by have := hr.un; omega
  have U65 : (A.deeper (envOfC "_law_text" (defScope (top 55)) s.heap.objs.size (fa 18) cdv)).units + 65 < cLine := by have := hr.un; omega
  have U200 : (A.deeper (envOfC "_law_text" (defScope (top 55)) s.heap.objs.size (fa 18) cdv)).units + 200 < cLine := by have := hr.un; omega
  exact (s_cons (s_if (t_cmp (op_eqD2 U64) os_eq (e_ix (o_n 0) e_int) e_str)
    (s_one (s_ret (e_strOf gd U200 rfl F.g_str (e_ix (o_n 0) e_int))))
    s_nil)
    (s_cons (s_if (t_cmp (op_eqD2 U64) os_eq (e_ix (o_n 0) e_int) e_str)
    (s_one (s_ret (e_op op_addD os_add (e_op op_addD os_add (e_op op_addD os_add e_str (e_strOf gd U200 rfl F.g_str (e_ix (o_n 0) e_int))) e_str) (e_strOf gd U200 rfl F.g_str (e_ix (o_n 0) e_int)))))
    s_nil)
    (s_cons (s_set (i := 1) sc18.nd rfl (by first | exact Or.inl rfl | exact Or.inr rfl) (e_lst (as_cons (e_ix (o_n 0) e_int) as_nil)))
    (s_cons (s_for pas rfl (i_seq (e_sl (o_n 0) (pr_e e_int) pr_no)) (g_n sc18.nd rfl (by first | exact Or.inl rfl | exact Or.inr rfl))
    (s_one (s_if (t_val (e_isN hcl isT_tuple isEx_none rfl F.g_isinstance (o_n (b := b) (W := W0) 2) (pe_bltn (v := .ty "tuple") (u := .type "tuple") rfl F.g_tuple (by decide +kernel) rfl) (.ty "tuple")))
    (s_one (s_append (e_call hcl (ih 18 (by decide)) gd hr rfl F.m18 F.f18.kp F.b18 lets (ar_v (e_var 2) ar_nil)) (o_n (b := b) (W := W0) 1)))
    (s_one (s_append (e_strOf gd U200 rfl F.g_str (o_n 2)) (o_n (b := b) (W := W0) 1))))))
    (s_one (s_ret (e_op op_addD os_add (e_op op_addD os_add e_str (e_join e_str (o_n 1))) e_str)))))))
theorem st19 {n : Nat} (F : Facts K w mg cl fa dd fd) (ih : ∀ i, i < 40 → Ok P w K mg base cl fa fd n i) : Ok P w K mg base cl fa fd (n + 1) 19 := by
  refine fn_body (N := N19) (fb := fb19 (sem n)) F.f19 sc19 fun cdv A outer s H E b gd hr hcl => ?_
  have pas := passes_of (X := cxOf (L2.CX P w) P w K mg base N19 "_law_wood" (defScope (top 56)) (fa 19) cdv A outer s H E) rfl
  have tk := takes_of (X := cxOf (L2.CX P w) P w K mg base N19 "_law_wood" (defScope (top 56)) (fa 19) cdv A outer s H E) (E := E) rfl rfl rfl rfl
  have lets := lets_of tk
  have U64 : (A.deeper (envOfC "_law_wood" (defScope (top 56)) s.heap.objs.size (fa 19) cdv)).units + 64 < cLine := by have := hr.un; omega
  have U65 : (A.deeper (envOfC "_law_wood" (defScope (top 56)) s.heap.objs.size (fa 19) cdv)).units + 65 < cLine := by have := hr.un; omega
  have U200 : (A.deeper (envOfC "_law_wood" (defScope (top 56)) s.heap.objs.size (fa 19) cdv)).units + 200 < cLine := by have := hr.un; omega
  exact (s_cons (s_set (i := 3) sc19.nd rfl (by first | exact Or.inl rfl | exact Or.inr rfl) (e_call hcl (ih 16 (by decide)) gd hr rfl F.m16 F.f16.kp F.b16 lets (ar_r (o_n (b := b) (W := W0) 0) (ar_v e_int ar_nil))))
    (s_cons (s_set (i := 4) sc19.nd rfl (by first | exact Or.inl rfl | exact Or.inr rfl) (e_lst as_nil))
    (s_cons (s_set (i := 5) sc19.nd rfl (by first | exact Or.inl rfl | exact Or.inr rfl) (e_op L2.op_sub os_sub (o_n 1) e_int))
    (s_cons (s_set (i := 6) sc19.nd rfl (by first | exact Or.inl rfl | exact Or.inr rfl) (e_call hcl (ih 16 (by decide)) gd hr rfl F.m16 F.f16.kp F.b16 lets (ar_r (o_n (b := b) (W := W0) 0) (ar_v e_int ar_nil))))
    (s_cons (s_while fuel pas (t_pw (w_and (t_cmp op_gt os_gt (o_n 2) e_int) (w_and (t_cmp op_gt os_gt (o_n 5) e_int) (w_and1 (t_cmp op_lt os_lt (e_callB call_len cs_len rfl F.g_len boot_len (o_n 4)) (e_callB2 (call_max2 rfl) cs_max rfl F.g_max (by decide +kernel) e_int (o_n 6)))))))
    (s_cons (s_set (i := 7) sc19.nd rfl (by first | exact Or.inl rfl | exact Or.inr rfl) (e_var 5))
    (s_cons (s_if (t_pw (w_and (t_cmp op_lt os_lt (e_op op_addD os_add (e_callB call_len cs_len rfl F.g_len boot_len (o_n 4)) e_int) (o_n 6)) (w_and1 (t_cmp op_gt os_gt (o_n 5) e_int))))
    (s_one (s_set (i := 7) sc19.nd rfl (by first | exact Or.inl rfl | exact Or.inr rfl) (e_op op_addD os_add e_int (e_call hcl (ih 16 (by decide)) gd hr rfl F.m16 F.f16.kp F.b16 lets (ar_r (o_n (b := b) (W := W0) 0) (ar_v (e_op L2.op_sub os_sub (o_n 5) e_int) ar_nil))))))
    s_nil)
    (s_cons (s_append (e_call hcl (ih 19 (by decide)) gd hr rfl F.m19 F.f19.kp F.b19 lets (ar_r (o_n (b := b) (W := W0) 0) (ar_v (e_var 7) (ar_v (e_op L2.op_sub os_sub (o_n 2) e_int) ar_nil)))) (o_n (b := b) (W := W0) 4))
    (s_one (s_set (i := 5) sc19.nd rfl (by first | exact Or.inl rfl | exact Or.inr rfl) (e_op L2.op_sub os_sub (o_n 5) (o_n 7))))))))
    (s_one (s_ret (e_tup (as_cons (e_var 3) (as_cons (e_callTy call_tuple_of cs_tuple rfl F.g_tuple (by decide +kernel) (o_n 4)) as_nil))))))))))
theorem st20 {n : Nat} (F : Facts K w mg cl fa dd fd) (ih : ∀ i, i < 40 → Ok P w K mg base cl fa fd n i) : Ok P w K mg base cl fa fd (n + 1) 20 := by
  refine fn_body (N := N20) (fb := fb20 (sem n)) F.f20 sc20 fun cdv A outer s H E b gd hr hcl => ?_
  have pas := passes_of (X := cxOf (L2.CX P w) P w K mg base N20 "_law_tree_text" (defScope (top 57)) (fa 20) cdv A outer s H E) rfl
  have tk := takes_of (X := cxOf (L2.CX P w) P w K mg base N20 "_law_tree_text" (defScope (top 57)) (fa 20) cdv A outer s H E) (E := E) rfl rfl rfl rfl
  have lets := lets_of tk
  have U64 : (A.deeper (envOfC "_law_tree_text" (defScope (top 57)) s.heap.objs.size (fa 20) cdv)).units + 64 < cLine := by have := hr.un; omega
  have U65 : (A.deeper (envOfC "_law_tree_text" (defScope (top 57)) s.heap.objs.size (fa 20) cdv)).units + 65 < cLine := by have := hr.un; omega
  have U200 : (A.deeper (envOfC "_law_tree_text" (defScope (top 57)) s.heap.objs.size (fa 20) cdv)).units + 200 < cLine := by have := hr.un; omega
  exact (s_cons (s_if (t_cmp (op_eqD2 U64) os_eq (e_ix (o_n 0) e_int) (e_tup as_nil))
    (s_one (s_ret (e_strOf gd U200 rfl F.g_str (e_ix (o_n 0) e_int))))
    s_nil)
    (s_one (s_ret (e_op op_addD os_add (e_op op_addD os_add (e_op op_addD os_add (e_strOf gd U200 rfl F.g_str (e_ix (o_n 0) e_int)) e_str) (e_join e_str (e_lc (own := [("_law_bough", 1)]) rfl sc20.nd (by decide) (i_seq (e_ix (o_n 0) e_int)) (blkOk_by (N := N20) (sc := defScope (top 57)) (by decide +kernel)) (fun _ _ _ _ _ b6 h6 => (g_n sc20.nd rfl (by first | exact Or.inl rfl | exact Or.inr rfl))) (fun _ _ _ _ _ b6 h6 => ts_nil) (fun _ _ _ _ _ b6 h6 => (e_call (h6.trans hcl) (ih 20 (by decide)) gd hr rfl F.m20 F.f20.kp F.b20 lets0 (ar_v (e_var 1) ar_nil)))))) e_str))))
theorem st21 {n : Nat} (F : Facts K w mg cl fa dd fd) (ih : ∀ i, i < 40 → Ok P w K mg base cl fa fd n i) : Ok P w K mg base cl fa fd (n + 1) 21 := by
  refine fn_body (N := N21) (fb := fb21 (sem n)) F.f21 sc21 fun cdv A outer s H E b gd hr hcl => ?_
  have pas := passes_of (X := cxOf (L2.CX P w) P w K mg base N21 "_law_only" (defScope (top 58)) (fa 21) cdv A outer s H E) rfl
  have tk := takes_of (X := cxOf (L2.CX P w) P w K mg base N21 "_law_only" (defScope (top 58)) (fa 21) cdv A outer s H E) (E := E) rfl rfl rfl rfl
  have lets := lets_of tk
  have U64 : (A.deeper (envOfC "_law_only" (defScope (top 58)) s.heap.objs.size (fa 21) cdv)).units + 64 < cLine := by have := hr.un; omega
  have U65 : (A.deeper (envOfC "_law_only" (defScope (top 58)) s.heap.objs.size (fa 21) cdv)).units + 65 < cLine := by have := hr.un; omega
  have U200 : (A.deeper (envOfC "_law_only" (defScope (top 58)) s.heap.objs.size (fa 21) cdv)).units + 200 < cLine := by have := hr.un; omega
  exact (s_cons (s_if (t_pw (w_or (t_not (t_val (e_isN hcl isT_no F.e_BookError rfl F.g_isinstance (o_n (b := b) (W := W0) 0) (pe_glob (v := .ref (cl 0)) rfl F.n_BookError rfl) (.own _)))) (w_or1 (t_not (t_val (e_isN hcl isT_no F.e_ValueError rfl F.g_isinstance (o_n (b := b) (W := W0) 0) (pe_bltn (v := .ty "ValueError") (u := .type "ValueError") rfl F.g_ValueError (by decide +kernel) rfl) (.ty "ValueError")))))))
    (s_one (s_ret e_bl))
    s_nil)
    (s_cons (s_set (i := 2) sc21.nd rfl (by first | exact Or.inl rfl | exact Or.inr rfl) (e_lst (as_cons (e_isN hcl isT_no F.e_NoFormula rfl F.g_isinstance (o_n (b := b) (W := W0) 0) (pe_glob (v := .ref (cl 1)) rfl F.n_NoFormula rfl) (.own _)) (as_cons (e_isN hcl isT_no F.e_NoWorth rfl F.g_isinstance (o_n (b := b) (W := W0) 0) (pe_glob (v := .ref (cl 2)) rfl F.n_NoWorth rfl) (.own _)) (as_cons (e_isN hcl isT_no F.e_NoBook rfl F.g_isinstance (o_n (b := b) (W := W0) 0) (pe_glob (v := .ref (cl 3)) rfl F.n_NoBook rfl) (.own _)) as_nil)))))
    (s_cons (s_set (i := 2) sc21.nd rfl (by first | exact Or.inl rfl | exact Or.inr rfl) (e_op op_addD os_add (o_n 2) (e_lst (as_cons (e_isN hcl isT_no F.e_NoRule rfl F.g_isinstance (o_n (b := b) (W := W0) 0) (pe_glob (v := .ref (cl 4)) rfl F.n_NoRule rfl) (.own _)) (as_cons (e_isN hcl isT_no F.e_NoName rfl F.g_isinstance (o_n (b := b) (W := W0) 0) (pe_glob (v := .ref (cl 5)) rfl F.n_NoName rfl) (.own _)) (as_cons (e_isN hcl isT_no F.e_NoSign rfl F.g_isinstance (o_n (b := b) (W := W0) 0) (pe_glob (v := .ref (cl 6)) rfl F.n_NoSign rfl) (.own _)) as_nil))))))
    (s_cons (s_set (i := 2) sc21.nd rfl (by first | exact Or.inl rfl | exact Or.inr rfl) (e_op op_addD os_add (o_n 2) (e_lst (as_cons (e_isN hcl isT_no F.e_NoTree rfl F.g_isinstance (o_n (b := b) (W := W0) 0) (pe_glob (v := .ref (cl 7)) rfl F.n_NoTree rfl) (.own _)) (as_cons (e_isN hcl isT_no F.e_NoPath rfl F.g_isinstance (o_n (b := b) (W := W0) 0) (pe_glob (v := .ref (cl 8)) rfl F.n_NoPath rfl) (.own _)) (as_cons (e_isN hcl isT_no F.e_NoGiven rfl F.g_isinstance (o_n (b := b) (W := W0) 0) (pe_glob (v := .ref (cl 9)) rfl F.n_NoGiven rfl) (.own _)) as_nil))))))
    (s_cons (s_set (i := 2) sc21.nd rfl (by first | exact Or.inl rfl | exact Or.inr rfl) (e_op op_addD os_add (o_n 2) (e_lst (as_cons (e_isN hcl isT_no F.e_NoGraph rfl F.g_isinstance (o_n (b := b) (W := W0) 0) (pe_glob (v := .ref (cl 10)) rfl F.n_NoGraph rfl) (.own _)) (as_cons (e_isN hcl isT_no F.e_NoNeed rfl F.g_isinstance (o_n (b := b) (W := W0) 0) (pe_glob (v := .ref (cl 11)) rfl F.n_NoNeed rfl) (.own _)) (as_cons (e_isN hcl isT_no F.e_NoVisits rfl F.g_isinstance (o_n (b := b) (W := W0) 0) (pe_glob (v := .ref (cl 12)) rfl F.n_NoVisits rfl) (.own _)) as_nil))))))
    (s_cons (s_set (i := 2) sc21.nd rfl (by first | exact Or.inl rfl | exact Or.inr rfl) (e_op op_addD os_add (o_n 2) (e_lst (as_cons (e_isN hcl isT_no F.e_NoPlan rfl F.g_isinstance (o_n (b := b) (W := W0) 0) (pe_glob (v := .ref (cl 16)) rfl F.n_NoPlan rfl) (.own _)) (as_cons (e_isN hcl isT_no F.e_NoJoin rfl F.g_isinstance (o_n (b := b) (W := W0) 0) (pe_glob (v := .ref (cl 14)) rfl F.n_NoJoin rfl) (.own _)) (as_cons (e_isN hcl isT_no F.e_NoText rfl F.g_isinstance (o_n (b := b) (W := W0) 0) (pe_glob (v := .ref (cl 17)) rfl F.n_NoText rfl) (.own _)) as_nil))))))
    (s_cons (s_set (i := 2) sc21.nd rfl (by first | exact Or.inl rfl | exact Or.inr rfl) (e_op op_addD os_add (o_n 2) (e_lst (as_cons (e_isN hcl isT_no F.e_NoLine rfl F.g_isinstance (o_n (b := b) (W := W0) 0) (pe_glob (v := .ref (cl 18)) rfl F.n_NoLine rfl) (.own _)) (as_cons (e_isN hcl isT_no F.e_TooMany rfl F.g_isinstance (o_n (b := b) (W := W0) 0) (pe_glob (v := .ref (cl 19)) rfl F.n_TooMany rfl) (.own _)) (as_cons (e_isN hcl isT_no F.e_HasRing rfl F.g_isinstance (o_n (b := b) (W := W0) 0) (pe_glob (v := .ref (cl 20)) rfl F.n_HasRing rfl) (.own _)) as_nil))))))
    (s_cons (s_set (i := 2) sc21.nd rfl (by first | exact Or.inl rfl | exact Or.inr rfl) (e_op op_addD os_add (o_n 2) (e_lst (as_cons (e_isN hcl isT_no F.e_NoBridge rfl F.g_isinstance (o_n (b := b) (W := W0) 0) (pe_glob (v := .ref (cl 13)) rfl F.n_NoBridge rfl) (.own _)) (as_cons (e_isN hcl isT_no F.e_UnitedRing rfl F.g_isinstance (o_n (b := b) (W := W0) 0) (pe_glob (v := .ref (cl 21)) rfl F.n_UnitedRing rfl) (.own _)) (as_cons (e_isN hcl isT_no F.e_NoOrder rfl F.g_isinstance (o_n (b := b) (W := W0) 0) (pe_glob (v := .ref (cl 22)) rfl F.n_NoOrder rfl) (.own _)) as_nil))))))
    (s_cons (s_append (e_isN hcl isT_no F.e_OtherShape rfl F.g_isinstance (o_n (b := b) (W := W0) 0) (pe_glob (v := .ref (cl 15)) rfl F.n_OtherShape rfl) (.own _)) (o_n (b := b) (W := W0) 2))
    (s_cons (s_set (i := 3) sc21.nd rfl (by first | exact Or.inl rfl | exact Or.inr rfl) (e_lst (as_cons e_str (as_cons e_str (as_cons e_str (as_cons e_str (as_cons e_str (as_cons e_str (as_cons e_str (as_cons e_str (as_cons e_str as_nil)))))))))))
    (s_cons (s_set (i := 3) sc21.nd rfl (by first | exact Or.inl rfl | exact Or.inr rfl) (e_op op_addD os_add (o_n 3) (e_lst (as_cons e_str (as_cons e_str (as_cons e_str (as_cons e_str (as_cons e_str (as_cons e_str (as_cons e_str (as_cons e_str as_nil)))))))))))
    (s_cons (s_set (i := 3) sc21.nd rfl (by first | exact Or.inl rfl | exact Or.inr rfl) (e_op op_addD os_add (o_n 3) (e_lst (as_cons e_str (as_cons e_str (as_cons e_str (as_cons e_str (as_cons e_str (as_cons e_str as_nil)))))))))
    (s_one (s_ret (e_cmp (op_eqD2 U64) os_eq (e_op op_addD os_add (o_n 2) (e_lst (as_cons (e_isN hcl isT_no F.e_NotFit rfl F.g_isinstance (o_n (b := b) (W := W0) 0) (pe_glob (v := .ref (cl 23)) rfl F.n_NotFit rfl) (.own _)) as_nil))) (e_lc (own := [("_law_one", 4)]) rfl sc21.nd (by decide) (i_seq (e_var 3)) (blkOk_by (N := N21) (sc := defScope (top 58)) (by decide +kernel)) (fun _ _ _ _ _ b7 h7 => (g_n sc21.nd rfl (by first | exact Or.inl rfl | exact Or.inr rfl))) (fun _ _ _ _ _ b7 h7 => ts_nil) (fun _ _ _ _ _ b7 h7 => (e_cmp (op_eqD2 U64) os_eq (o_n 4) (o_n 1)))))))))))))))))))
theorem st22 {n : Nat} (F : Facts K w mg cl fa dd fd) (ih : ∀ i, i < 40 → Ok P w K mg base cl fa fd n i) : Ok P w K mg base cl fa fd (n + 1) 22 := by
  refine fn_body (N := N22) (fb := fb22 (sem n)) F.f22 sc22 fun cdv A outer s H E b gd hr hcl => ?_
  have pas := passes_of (X := cxOf (L2.CX P w) P w K mg base N22 "_law_digits" (defScope (top 59)) (fa 22) cdv A outer s H E) rfl
  have tk := takes_of (X := cxOf (L2.CX P w) P w K mg base N22 "_law_digits" (defScope (top 59)) (fa 22) cdv A outer s H E) (E := E) rfl rfl rfl rfl
  have lets := lets_of tk
  have U64 : (A.deeper (envOfC "_law_digits" (defScope (top 59)) s.heap.objs.size (fa 22) cdv)).units + 64 < cLine := by have := hr.un; omega
  have U65 : (A.deeper (envOfC "_law_digits" (defScope (top 59)) s.heap.objs.size (fa 22) cdv)).units + 65 < cLine := by have := hr.un; omega
  have U200 : (A.deeper (envOfC "_law_digits" (defScope (top 59)) s.heap.objs.size (fa 22) cdv)).units + 200 < cLine := by have := hr.un; omega
  exact (s_cons (s_if (t_pw (w_or (t_cmp (op_eqD2 U64) os_eq (o_n 0) e_str) (w_or (t_cmp op_gt os_gt (e_callB call_len cs_len rfl F.g_len boot_len (o_n 0)) e_int) (w_or1 (t_not (t_val (e_callB (cr_all rfl) cs_all rfl F.g_all (by decide +kernel) (e_lc (own := [("_law_sign", 1)]) rfl sc22.nd (by decide) (i_seq (e_var 0)) (blkOk_by (N := N22) (sc := defScope (top 59)) (by decide +kernel)) (fun _ _ _ _ _ b8 h8 => (g_n sc22.nd rfl (by first | exact Or.inl rfl | exact Or.inr rfl))) (fun _ _ _ _ _ b8 h8 => ts_nil) (fun _ _ _ _ _ b8 h8 => (e_cmp (op_inA U65) os_in (o_n 1) e_str))))))))))
    (s_one (s_ret e_bl))
    s_nil)
    (s_one (s_ret (e_or (e_cmp (op_eqD2 U64) os_eq (o_n 0) e_str) (e_one (e_cmp (op_neD2 U64) os_ne (e_ix (o_n 0) e_int) e_str))))))
theorem st23 {n : Nat} (F : Facts K w mg cl fa dd fd) (ih : ∀ i, i < 40 → Ok P w K mg base cl fa fd n i) : Ok P w K mg base cl fa fd (n + 1) 23 := by
  refine fn_body (N := N23) (fb := fb23 (sem n)) F.f23 sc23 fun cdv A outer s H E b gd hr hcl => ?_
  have pas := passes_of (X := cxOf (L2.CX P w) P w K mg base N23 "_law_number_in" (defScope (top 60)) (fa 23) cdv A outer s H E) rfl
  have tk := takes_of (X := cxOf (L2.CX P w) P w K mg base N23 "_law_number_in" (defScope (top 60)) (fa 23) cdv A outer s H E) (E := E) rfl rfl rfl rfl
  have lets := lets_of tk
  have U64 : (A.deeper (envOfC "_law_number_in" (defScope (top 60)) s.heap.objs.size (fa 23) cdv)).units + 64 < cLine := by have := hr.un; omega
  have U65 : (A.deeper (envOfC "_law_number_in" (defScope (top 60)) s.heap.objs.size (fa 23) cdv)).units + 65 < cLine := by have := hr.un; omega
  have U200 : (A.deeper (envOfC "_law_number_in" (defScope (top 60)) s.heap.objs.size (fa 23) cdv)).units + 200 < cLine := by have := hr.un; omega
  exact (s_cons (s_if (t_val (e_call hcl (ih 22 (by decide)) gd hr rfl F.m22 F.f22.kp F.b22 lets (ar_v (e_var 0) ar_nil)))
    (s_one (s_ret (e_callTy call_intD cs_int rfl F.g_int (by decide +kernel) (o_n 0))))
    s_nil)
    (s_cons (s_if (t_pw (w_and (t_cmp (op_eqD2 U64) os_eq (e_sl (o_n 0) pr_no (pr_e e_int)) e_str) (w_and (t_cmp (op_neD2 U64) os_ne (o_n 0) e_str) (w_and1 (t_val (e_call hcl (ih 22 (by decide)) gd hr rfl F.m22 F.f22.kp F.b22 lets (ar_v (e_sl (o_n 0) (pr_e e_int) pr_no) ar_nil)))))))
    (s_one (s_ret (e_op L2.op_sub os_sub e_int (e_callTy call_intD cs_int rfl F.g_int (by decide +kernel) (e_sl (o_n 0) (pr_e e_int) pr_no)))))
    s_nil)
    (s_one (s_ret e_non))))
theorem st24 {n : Nat} (F : Facts K w mg cl fa dd fd) (ih : ∀ i, i < 40 → Ok P w K mg base cl fa fd n i) : Ok P w K mg base cl fa fd (n + 1) 24 := by
  refine fn_body (N := N24) (fb := fb24 (sem n)) F.f24 sc24 fun cdv A outer s H E b gd hr hcl => ?_
  have pas := passes_of (X := cxOf (L2.CX P w) P w K mg base N24 "_law_end" (defScope (top 61)) (fa 24) cdv A outer s H E) rfl
  have tk := takes_of (X := cxOf (L2.CX P w) P w K mg base N24 "_law_end" (defScope (top 61)) (fa 24) cdv A outer s H E) (E := E) rfl rfl rfl rfl
  have lets := lets_of tk
  have U64 : (A.deeper (envOfC "_law_end" (defScope (top 61)) s.heap.objs.size (fa 24) cdv)).units + 64 < cLine := by have := hr.un; omega
  have U65 : (A.deeper (envOfC "_law_end" (defScope (top 61)) s.heap.objs.size (fa 24) cdv)).units + 65 < cLine := by have := hr.un; omega
  have U200 : (A.deeper (envOfC "_law_end" (defScope (top 61)) s.heap.objs.size (fa 24) cdv)).units + 200 < cLine := by have := hr.un; omega
  exact (s_cons (s_set (i := 2) sc24.nd rfl (by first | exact Or.inl rfl | exact Or.inr rfl) e_int)
    (s_cons (s_for pas rfl (i_rng2 rfl F.g_range (e_var 1) (e_callB call_len cs_len rfl F.g_len boot_len (o_n 0))) (g_n sc24.nd rfl (by first | exact Or.inl rfl | exact Or.inr rfl))
    (s_cons (s_set (i := 2) sc24.nd rfl (by first | exact Or.inl rfl | exact Or.inr rfl) (e_op L2.op_sub os_sub (e_op op_addD os_add (o_n 2) (e_callTy call_intD cs_int rfl F.g_int (by decide +kernel) (e_cmp (op_eqD2 U64) os_eq (e_ix (o_n 0) (o_n 3)) e_str))) (e_callTy call_intD cs_int rfl F.g_int (by decide +kernel) (e_cmp (op_eqD2 U64) os_eq (e_ix (o_n 0) (o_n 3)) e_str))))
    (s_one (s_if (t_pw (w_or (t_cmp op_lt os_lt (o_n 2) e_int) (w_or1 (t_pw (w_and (t_cmp (op_eqD2 U64) os_eq (o_n 2) e_int) (w_and1 (t_cmp (op_eqD2 U64) os_eq (e_ix (o_n 0) (o_n 3)) e_str)))))))
    (s_one (s_ret (e_move 3)))
    s_nil))))
    (s_one (s_ret (e_callB call_len cs_len rfl F.g_len boot_len (o_n 0))))))
theorem st25 {n : Nat} (F : Facts K w mg cl fa dd fd) (ih : ∀ i, i < 40 → Ok P w K mg base cl fa fd n i) : Ok P w K mg base cl fa fd (n + 1) 25 := by
  refine fn_body (N := N25) (fb := fb25 (sem n)) F.f25 sc25 fun cdv A outer s H E b gd hr hcl => ?_
  have pas := passes_of (X := cxOf (L2.CX P w) P w K mg base N25 "_law_entries" (defScope (top 62)) (fa 25) cdv A outer s H E) rfl
  have tk := takes_of (X := cxOf (L2.CX P w) P w K mg base N25 "_law_entries" (defScope (top 62)) (fa 25) cdv A outer s H E) (E := E) rfl rfl rfl rfl
  have lets := lets_of tk
  have U64 : (A.deeper (envOfC "_law_entries" (defScope (top 62)) s.heap.objs.size (fa 25) cdv)).units + 64 < cLine := by have := hr.un; omega
  have U65 : (A.deeper (envOfC "_law_entries" (defScope (top 62)) s.heap.objs.size (fa 25) cdv)).units + 65 < cLine := by have := hr.un; omega
  have U200 : (A.deeper (envOfC "_law_entries" (defScope (top 62)) s.heap.objs.size (fa 25) cdv)).units + 200 < cLine := by have := hr.un; omega
  exact (s_cons (s_set (i := 1) sc25.nd rfl (by first | exact Or.inl rfl | exact Or.inr rfl) (e_lst as_nil))
    (s_cons (s_set (i := 2) sc25.nd rfl (by first | exact Or.inl rfl | exact Or.inr rfl) e_int)
    (s_cons (s_while fuel pas (t_cmp op_le os_le (o_n 2) (e_callB call_len cs_len rfl F.g_len boot_len (o_n 0)))
    (s_cons (s_set (i := 3) sc25.nd rfl (by first | exact Or.inl rfl | exact Or.inr rfl) (e_call hcl (ih 24 (by decide)) gd hr rfl F.m24 F.f24.kp F.b24 lets (ar_v (e_var 0) (ar_v (e_var 2) ar_nil))))
    (s_cons (s_append (e_sl (o_n 0) (pr_e (e_var 2)) (pr_e (e_var 3))) (o_n (b := b) (W := W0) 1))
    (s_cons (s_if (t_pw (w_and (t_cmp op_lt os_lt (o_n 3) (e_callB call_len cs_len rfl F.g_len boot_len (o_n 0))) (w_and1 (t_cmp (op_neD2 U64) os_ne (e_ix (o_n 0) (o_n 3)) e_str))))
    (s_one (s_ret (e_lst (as_cons e_str as_nil))))
    s_nil)
    (s_one (s_set (i := 2) sc25.nd rfl (by first | exact Or.inl rfl | exact Or.inr rfl) (e_op op_addD os_add (o_n 3) e_int)))))))
    (s_one (s_ret (e_move 1))))))
theorem st26 {n : Nat} (F : Facts K w mg cl fa dd fd) (ih : ∀ i, i < 40 → Ok P w K mg base cl fa fd n i) : Ok P w K mg base cl fa fd (n + 1) 26 := by
  refine fn_body (N := N26) (fb := fb26 (sem n)) F.f26 sc26 fun cdv A outer s H E b gd hr hcl => ?_
  have pas := passes_of (X := cxOf (L2.CX P w) P w K mg base N26 "_law_name_in" (defScope (top 63)) (fa 26) cdv A outer s H E) rfl
  have tk := takes_of (X := cxOf (L2.CX P w) P w K mg base N26 "_law_name_in" (defScope (top 63)) (fa 26) cdv A outer s H E) (E := E) rfl rfl rfl rfl
  have lets := lets_of tk
  have U64 : (A.deeper (envOfC "_law_name_in" (defScope (top 63)) s.heap.objs.size (fa 26) cdv)).units + 64 < cLine := by have := hr.un; omega
  have U65 : (A.deeper (envOfC "_law_name_in" (defScope (top 63)) s.heap.objs.size (fa 26) cdv)).units + 65 < cLine := by have := hr.un; omega
  have U200 : (A.deeper (envOfC "_law_name_in" (defScope (top 63)) s.heap.objs.size (fa 26) cdv)).units + 200 < cLine := by have := hr.un; omega
  exact (s_cons (s_set (i := 1) sc26.nd rfl (by first | exact Or.inl rfl | exact Or.inr rfl) (e_split (e_var 0) e_str))
    (s_cons (s_if (t_pw (w_or (t_cmp (op_neD2 U64) os_ne (e_callB call_len cs_len rfl F.g_len boot_len (o_n 1)) e_int) (w_or (t_not (t_val (e_call hcl (ih 22 (by decide)) gd hr rfl F.m22 F.f22.kp F.b22 lets (ar_v (e_ix (o_n 1) e_int) ar_nil)))) (w_or1 (t_not (t_val (e_call hcl (ih 22 (by decide)) gd hr rfl F.m22 F.f22.kp F.b22 lets (ar_v (e_ix (o_n 1) e_int) ar_nil))))))))
    (s_one (s_ret e_non))
    s_nil)
    (s_one (s_ret (e_tup (as_cons e_str (as_cons (e_callTy call_intD cs_int rfl F.g_int (by decide +kernel) (e_ix (o_n 1) e_int)) (as_cons (e_callTy call_intD cs_int rfl F.g_int (by decide +kernel) (e_ix (o_n 1) e_int)) as_nil))))))))
theorem st27 {n : Nat} (F : Facts K w mg cl fa dd fd) (ih : ∀ i, i < 40 → Ok P w K mg base cl fa fd n i) : Ok P w K mg base cl fa fd (n + 1) 27 := by
  refine fn_body (N := N27) (fb := fb27 (sem n)) F.f27 sc27 fun cdv A outer s H E b gd hr hcl => ?_
  have pas := passes_of (X := cxOf (L2.CX P w) P w K mg base N27 "_law_formula_in" (defScope (top 64)) (fa 27) cdv A outer s H E) rfl
  have tk := takes_of (X := cxOf (L2.CX P w) P w K mg base N27 "_law_formula_in" (defScope (top 64)) (fa 27) cdv A outer s H E) (E := E) rfl rfl rfl rfl
  have lets := lets_of tk
  have U64 : (A.deeper (envOfC "_law_formula_in" (defScope (top 64)) s.heap.objs.size (fa 27) cdv)).units + 64 < cLine := by have := hr.un; omega
  have U65 : (A.deeper (envOfC "_law_formula_in" (defScope (top 64)) s.heap.objs.size (fa 27) cdv)).units + 65 < cLine := by have := hr.un; omega
  have U200 : (A.deeper (envOfC "_law_formula_in" (defScope (top 64)) s.heap.objs.size (fa 27) cdv)).units + 200 < cLine := by have := hr.un; omega
  exact (s_cons (s_if (t_cmp (op_eqD2 U64) os_eq (e_sl (o_n 0) pr_no (pr_e e_int)) e_str)
    (s_one (s_ret (e_call hcl (ih 26 (by decide)) gd hr rfl F.m26 F.f26.kp F.b26 lets (ar_v (e_sl (o_n 0) (pr_e e_int) pr_no) ar_nil))))
    s_nil)
    (s_cons (s_if (t_cmp (op_neD2 U64) os_ne (e_sl (o_n 0) pr_no (pr_e e_int)) e_str)
    (s_cons (s_set (i := 2) sc27.nd rfl (by first | exact Or.inl rfl | exact Or.inr rfl) (e_call hcl (ih 23 (by decide)) gd hr rfl F.m23 F.f23.kp F.b23 lets (ar_v (e_var 0) ar_nil)))
    (s_cons (s_if (t_pw (w_or (t_cmp L2.op_isN os_is (o_n 2) e_non) (w_or1 (t_cmp op_ge os_ge (e_callB call_abs cs_abs rfl F.g_abs (by decide +kernel) (o_n 2)) (e_op L2.op_pow os_pow e_int e_int)))))
    (s_one (s_ret e_non))
    s_nil)
    (s_one (s_ret (e_tup (as_cons e_str (as_cons (e_var 2) as_nil)))))))
    s_nil)
    (s_cons (s_set (i := 3) sc27.nd rfl (by first | exact Or.inl rfl | exact Or.inr rfl) (e_call hcl (ih 25 (by decide)) gd hr rfl F.m25 F.f25.kp F.b25 lets (ar_v (e_sl (o_n 0) (pr_e e_int) (pr_e (e_neg e_int))) ar_nil)))
    (s_cons (s_set (i := 4) sc27.nd rfl (by first | exact Or.inl rfl | exact Or.inr rfl) (e_dget (tb := [("sum", 2), ("less", 2), ("least", 2), ("greatest", 2), ("times", 1), ("rest", 1), ("pick", 3)]) U64 (by decide +kernel) (by decide) (pps_cons pe_str pe_int (pps_cons pe_str pe_int (pps_cons pe_str pe_int (pps_cons pe_str pe_int (pps_cons pe_str pe_int (pps_cons pe_str pe_int (pps_cons pe_str pe_int pps_nil))))))) rfl rfl (by simp) (by decide) (fun b9 h9 => (e_ix (o_n 3) e_int)) pe_int ⟨rfl, rfl, rfl, rfl⟩))
    (s_cons (s_set (i := 5) sc27.nd rfl (by first | exact Or.inl rfl | exact Or.inr rfl) (e_sl (o_n 3) pr_no (pr_e e_int)))
    (s_cons (s_if (t_pw (w_or (t_cmp (op_eqD2 U64) os_eq (e_ix (o_n 3) e_int) e_str) (w_or1 (t_cmp (op_eqD2 U64) os_eq (e_ix (o_n 3) e_int) e_str))))
    (s_cons (s_set (i := 2) sc27.nd rfl (by first | exact Or.inl rfl | exact Or.inr rfl) (e_call hcl (ih 23 (by decide)) gd hr rfl F.m23 F.f23.kp F.b23 lets (ar_v (e_ix (e_op op_addD os_add (o_n 3) (e_lst (as_cons e_str (as_cons e_str as_nil)))) e_int) ar_nil)))
    (s_cons (s_set (i := 6) sc27.nd rfl (by first | exact Or.inl rfl | exact Or.inr rfl) (e_ix (e_lst (as_cons e_int (as_cons (e_op L2.op_sub os_sub e_int e_int) as_nil))) (e_callTy call_intD cs_int rfl F.g_int (by decide +kernel) (e_cmp (op_eqD2 U64) os_eq (e_ix (o_n 3) e_int) e_str))))
    (s_cons (s_if (t_pw (w_or (t_cmp L2.op_isN os_is (o_n 2) e_non) (w_or (t_cmp op_lt os_lt (o_n 2) (o_n 6)) (w_or1 (t_cmp op_gt os_gt (o_n 2) e_int)))))
    (s_one (s_ret e_non))
    s_nil)
    (s_one (s_set (i := 5) sc27.nd rfl (by first | exact Or.inl rfl | exact Or.inr rfl) (e_lst (as_cons (e_ix (o_n 3) e_int) (as_cons (e_var 2) as_nil))))))))
    s_nil)
    (s_cons (s_set (i := 7) sc27.nd rfl (by first | exact Or.inl rfl | exact Or.inr rfl) (e_sl (o_n 3) (pr_e (e_callB call_len cs_len rfl F.g_len boot_len (o_n 5))) pr_no))
    (s_cons (s_if (t_pw (w_or (t_cmp (op_neD2 U64) os_ne (e_callB call_len cs_len rfl F.g_len boot_len (o_n 7)) (o_n 4)) (w_or (t_cmp (op_eqD2 U64) os_eq (o_n 1) e_int) (w_or1 (t_cmp (op_neD2 U64) os_ne (e_ix (o_n 0) (e_neg e_int)) e_str)))))
    (s_one (s_ret e_non))
    s_nil)
    (s_cons (s_setLc (own := [("_law_entry", 9)]) rfl sc27.nd (i := 8) rfl rfl rfl (by decide) (i_seq (e_var 7)) (blkOk_by (N := N27) (sc := defScope (top 64)) (by decide +kernel)) (fun _ _ _ _ _ b10 h10 => (g_n sc27.nd rfl (by first | exact Or.inl rfl | exact Or.inr rfl))) (fun _ _ _ _ _ b10 h10 => ts_nil) (fun _ _ _ _ _ b10 h10 => (e_call (h10.trans hcl) (ih 27 (by decide)) gd hr rfl F.m27 F.f27.kp F.b27 lets0 (ar_v (e_var 9) (ar_v (e_op op_addD os_add (o_n 1) e_int) ar_nil)))))
    (s_cons (s_if (t_cmp (op_inA U65) os_in e_non (o_n 8))
    (s_one (s_ret e_non))
    s_nil)
    (s_one (s_ret (e_callTy call_tuple_of cs_tuple rfl F.g_tuple (by decide +kernel) (e_op op_addD os_add (o_n 5) (o_n 8)))))))))))))))
theorem st28 {n : Nat} (F : Facts K w mg cl fa dd fd) (ih : ∀ i, i < 40 → Ok P w K mg base cl fa fd n i) : Ok P w K mg base cl fa fd (n + 1) 28 := by
  refine fn_body (N := N28) (fb := fb28 (sem n)) F.f28 sc28 fun cdv A outer s H E b gd hr hcl => ?_
  have pas := passes_of (X := cxOf (L2.CX P w) P w K mg base N28 "_law_many" (defScope (top 65)) (fa 28) cdv A outer s H E) rfl
  have tk := takes_of (X := cxOf (L2.CX P w) P w K mg base N28 "_law_many" (defScope (top 65)) (fa 28) cdv A outer s H E) (E := E) rfl rfl rfl rfl
  have lets := lets_of tk
  have U64 : (A.deeper (envOfC "_law_many" (defScope (top 65)) s.heap.objs.size (fa 28) cdv)).units + 64 < cLine := by have := hr.un; omega
  have U65 : (A.deeper (envOfC "_law_many" (defScope (top 65)) s.heap.objs.size (fa 28) cdv)).units + 65 < cLine := by have := hr.un; omega
  have U200 : (A.deeper (envOfC "_law_many" (defScope (top 65)) s.heap.objs.size (fa 28) cdv)).units + 200 < cLine := by have := hr.un; omega
  exact (s_one (s_ret (e_op op_addD os_add e_int (e_callB (cr_sum rfl) cs_sum rfl F.g_sum (by decide +kernel) (e_lc (own := [("_law_part", 1)]) rfl sc28.nd (by decide) (i_seq (e_sl (o_n 0) (pr_e e_int) pr_no)) (blkOk_by (N := N28) (sc := defScope (top 65)) (by decide +kernel)) (fun _ _ _ _ _ b11 h11 => (g_n sc28.nd rfl (by first | exact Or.inl rfl | exact Or.inr rfl))) (fun _ _ _ _ _ b11 h11 => (ts_one (t_val (e_isN (h11.trans hcl) isT_tuple isEx_none rfl F.g_isinstance (o_n (b := b11) (W := W0) 1) (pe_bltn (v := .ty "tuple") (u := .type "tuple") rfl F.g_tuple (by decide +kernel) rfl) (.ty "tuple"))))) (fun _ _ _ _ _ b11 h11 => (e_call (h11.trans hcl) (ih 28 (by decide)) gd hr rfl F.m28 F.f28.kp F.b28 lets0 (ar_v (e_var 1) ar_nil))))))))
theorem st29 {n : Nat} (F : Facts K w mg cl fa dd fd) (ih : ∀ i, i < 40 → Ok P w K mg base cl fa fd n i) : Ok P w K mg base cl fa fd (n + 1) 29 := by
  refine fn_body (N := N29) (fb := fb29 (sem n)) F.f29 sc29 fun cdv A outer s H E b gd hr hcl => ?_
  have pas := passes_of (X := cxOf (L2.CX P w) P w K mg base N29 "_law_read_formula" (defScope (top 66)) (fa 29) cdv A outer s H E) rfl
  have tk := takes_of (X := cxOf (L2.CX P w) P w K mg base N29 "_law_read_formula" (defScope (top 66)) (fa 29) cdv A outer s H E) (E := E) rfl rfl rfl rfl
  have lets := lets_of tk
  have U64 : (A.deeper (envOfC "_law_read_formula" (defScope (top 66)) s.heap.objs.size (fa 29) cdv)).units + 64 < cLine := by have := hr.un; omega
  have U65 : (A.deeper (envOfC "_law_read_formula" (defScope (top 66)) s.heap.objs.size (fa 29) cdv)).units + 65 < cLine := by have := hr.un; omega
  have U200 : (A.deeper (envOfC "_law_read_formula" (defScope (top 66)) s.heap.objs.size (fa 29) cdv)).units + 200 < cLine := by have := hr.un; omega
  exact (s_cons (s_set (i := 1) sc29.nd rfl (by first | exact Or.inl rfl | exact Or.inr rfl) (e_call hcl (ih 27 (by decide)) gd hr rfl F.m27 F.f27.kp F.b27 lets (ar_v (e_var 0) (ar_v e_int ar_nil))))
    (s_cons (s_if (t_pw (w_or (t_cmp L2.op_isN os_is (o_n 1) e_non) (w_or1 (t_cmp op_gt os_gt (e_call hcl (ih 28 (by decide)) gd hr rfl F.m28 F.f28.kp F.b28 lets (ar_v (e_var 1) ar_nil)) e_int))))
    (s_one (s_ret e_non))
    s_nil)
    (s_one (s_ret (e_move 1)))))
theorem st30 {n : Nat} (F : Facts K w mg cl fa dd fd) (ih : ∀ i, i < 40 → Ok P w K mg base cl fa fd n i) : Ok P w K mg base cl fa fd (n + 1) 30 := by
  refine fn_body (N := N30) (fb := fb30 (sem n)) F.f30 sc30 fun cdv A outer s H E b gd hr hcl => ?_
  have pas := passes_of (X := cxOf (L2.CX P w) P w K mg base N30 "_law_tree_in" (defScope (top 67)) (fa 30) cdv A outer s H E) rfl
  have tk := takes_of (X := cxOf (L2.CX P w) P w K mg base N30 "_law_tree_in" (defScope (top 67)) (fa 30) cdv A outer s H E) (E := E) rfl rfl rfl rfl
  have lets := lets_of tk
  have U64 : (A.deeper (envOfC "_law_tree_in" (defScope (top 67)) s.heap.objs.size (fa 30) cdv)).units + 64 < cLine := by have := hr.un; omega
  have U65 : (A.deeper (envOfC "_law_tree_in" (defScope (top 67)) s.heap.objs.size (fa 30) cdv)).units + 65 < cLine := by have := hr.un; omega
  have U200 : (A.deeper (envOfC "_law_tree_in" (defScope (top 67)) s.heap.objs.size (fa 30) cdv)).units + 200 < cLine := by have := hr.un; omega
  exact (s_cons (s_if (t_pw (w_or (t_cmp op_gt os_gt (o_n 2) e_int) (w_or1 (t_cmp (op_ninA U65) os_nin (e_sl (o_n 0) (pr_e (e_var 1)) (pr_e (e_op op_addD os_add (o_n 1) e_int))) (e_lst (as_cons e_str (as_cons e_str (as_cons e_str (as_cons e_str (as_cons e_str (as_cons e_str (as_cons e_str (as_cons e_str as_nil)))))))))))))
    (s_one (s_ret (e_tup (as_cons e_non (as_cons e_int as_nil)))))
    s_nil)
    (s_cons (s_set (i := 3) sc30.nd rfl (by first | exact Or.inl rfl | exact Or.inr rfl) (e_callTy call_intD cs_int rfl F.g_int (by decide +kernel) (e_ix (o_n 0) (o_n 1))))
    (s_cons (s_set (i := 4) sc30.nd rfl (by first | exact Or.inl rfl | exact Or.inr rfl) (e_lst as_nil))
    (s_cons (s_set (i := 1) sc30.nd rfl (by first | exact Or.inl rfl | exact Or.inr rfl) (e_op op_addD os_add (o_n 1) e_int))
    (s_cons (s_if (t_cmp (op_neD2 U64) os_ne (e_sl (o_n 0) (pr_e (e_var 1)) (pr_e (e_op op_addD os_add (o_n 1) e_int))) e_str)
    (s_one (s_ret (e_tup (as_cons (e_tup (as_cons (e_var 3) (as_cons (e_tup as_nil) as_nil))) (as_cons (e_var 1) as_nil)))))
    s_nil)
    (s_cons (s_while fuel pas (t_pw (w_or (t_pw (w_and (t_cmp (op_eqD2 U64) os_eq (e_sl (o_n 0) (pr_e (e_var 1)) (pr_e (e_op op_addD os_add (o_n 1) e_int))) e_str) (w_and1 (t_cmp (op_eqD2 U64) os_eq (o_n 4) (e_lst as_nil))))) (w_or1 (t_pw (w_and (t_cmp (op_eqD2 U64) os_eq (e_sl (o_n 0) (pr_e (e_var 1)) (pr_e (e_op op_addD os_add (o_n 1) e_int))) e_str) (w_and1 (t_cmp (op_eqD2 U64) os_eq (e_callB call_len cs_len rfl F.g_len boot_len (o_n 4)) e_int)))))))
    (s_cons (s_unp (e_call hcl (ih 30 (by decide)) gd hr rfl F.m30 F.f30.kp F.b30 lets (ar_v (e_var 0) (ar_v (e_op op_addD os_add (o_n 1) e_int) (ar_v (e_op op_addD os_add (o_n 2) e_int) ar_nil)))) (g_t rfl (gs_cons (g_n sc30.nd rfl (by first | exact Or.inl rfl | exact Or.inr rfl)) (gs_cons (g_n sc30.nd rfl (by first | exact Or.inl rfl | exact Or.inr rfl)) gs_nil))))
    (s_cons (s_append (e_var 5) (o_n (b := b) (W := W0) 4))
    (s_one (s_if (t_cmp L2.op_isN os_is (o_n 5) e_non)
    (s_one (s_ret (e_tup (as_cons e_non (as_cons e_int as_nil)))))
    s_nil)))))
    (s_cons (s_if (t_cmp (op_neD2 U64) os_ne (e_sl (o_n 0) (pr_e (e_var 1)) (pr_e (e_op op_addD os_add (o_n 1) e_int))) e_str)
    (s_one (s_ret (e_tup (as_cons e_non (as_cons e_int as_nil)))))
    s_nil)
    (s_one (s_ret (e_tup (as_cons (e_tup (as_cons (e_var 3) (as_cons (e_callTy call_tuple_of cs_tuple rfl F.g_tuple (by decide +kernel) (o_n 4)) as_nil))) (as_cons (e_op op_addD os_add (o_n 1) e_int) as_nil))))))))))))
theorem st31 {n : Nat} (F : Facts K w mg cl fa dd fd) (ih : ∀ i, i < 40 → Ok P w K mg base cl fa fd n i) : Ok P w K mg base cl fa fd (n + 1) 31 := by
  refine fn_body (N := N31) (fb := fb31 (sem n)) F.f31 sc31 fun cdv A outer s H E b gd hr hcl => ?_
  have pas := passes_of (X := cxOf (L2.CX P w) P w K mg base N31 "_law_knots" (defScope (top 68)) (fa 31) cdv A outer s H E) rfl
  have tk := takes_of (X := cxOf (L2.CX P w) P w K mg base N31 "_law_knots" (defScope (top 68)) (fa 31) cdv A outer s H E) (E := E) rfl rfl rfl rfl
  have lets := lets_of tk
  have U64 : (A.deeper (envOfC "_law_knots" (defScope (top 68)) s.heap.objs.size (fa 31) cdv)).units + 64 < cLine := by have := hr.un; omega
  have U65 : (A.deeper (envOfC "_law_knots" (defScope (top 68)) s.heap.objs.size (fa 31) cdv)).units + 65 < cLine := by have := hr.un; omega
  have U200 : (A.deeper (envOfC "_law_knots" (defScope (top 68)) s.heap.objs.size (fa 31) cdv)).units + 200 < cLine := by have := hr.un; omega
  exact (s_one (s_ret (e_op op_addD os_add e_int (e_callB (cr_sum rfl) cs_sum rfl F.g_sum (by decide +kernel) (e_lc (own := [("_law_bough", 1)]) rfl sc31.nd (by decide) (i_seq (e_ix (o_n 0) e_int)) (blkOk_by (N := N31) (sc := defScope (top 68)) (by decide +kernel)) (fun _ _ _ _ _ b12 h12 => (g_n sc31.nd rfl (by first | exact Or.inl rfl | exact Or.inr rfl))) (fun _ _ _ _ _ b12 h12 => ts_nil) (fun _ _ _ _ _ b12 h12 => (e_call (h12.trans hcl) (ih 31 (by decide)) gd hr rfl F.m31 F.f31.kp F.b31 lets0 (ar_v (e_var 1) ar_nil))))))))
theorem st32 {n : Nat} (F : Facts K w mg cl fa dd fd) (ih : ∀ i, i < 40 → Ok P w K mg base cl fa fd n i) : Ok P w K mg base cl fa fd (n + 1) 32 := by
  refine fn_body (N := N32) (fb := fb32 (sem n)) F.f32 sc32 fun cdv A outer s H E b gd hr hcl => ?_
  have pas := passes_of (X := cxOf (L2.CX P w) P w K mg base N32 "_law_read_tree" (defScope (top 69)) (fa 32) cdv A outer s H E) rfl
  have tk := takes_of (X := cxOf (L2.CX P w) P w K mg base N32 "_law_read_tree" (defScope (top 69)) (fa 32) cdv A outer s H E) (E := E) rfl rfl rfl rfl
  have lets := lets_of tk
  have U64 : (A.deeper (envOfC "_law_read_tree" (defScope (top 69)) s.heap.objs.size (fa 32) cdv)).units + 64 < cLine := by have := hr.un; omega
  have U65 : (A.deeper (envOfC "_law_read_tree" (defScope (top 69)) s.heap.objs.size (fa 32) cdv)).units + 65 < cLine := by have := hr.un; omega
  have U200 : (A.deeper (envOfC "_law_read_tree" (defScope (top 69)) s.heap.objs.size (fa 32) cdv)).units + 200 < cLine := by have := hr.un; omega
  exact (s_cons (s_unp (e_call hcl (ih 30 (by decide)) gd hr rfl F.m30 F.f30.kp F.b30 lets (ar_v (e_var 0) (ar_v e_int (ar_v e_int ar_nil)))) (g_t rfl (gs_cons (g_n sc32.nd rfl (by first | exact Or.inl rfl | exact Or.inr rfl)) (gs_cons (g_n sc32.nd rfl (by first | exact Or.inl rfl | exact Or.inr rfl)) gs_nil))))
    (s_cons (s_if (t_pw (w_or (t_cmp L2.op_isN os_is (o_n 1) e_non) (w_or (t_cmp (op_neD2 U64) os_ne (o_n 2) (e_callB call_len cs_len rfl F.g_len boot_len (o_n 0))) (w_or1 (t_cmp op_gt os_gt (e_call hcl (ih 31 (by decide)) gd hr rfl F.m31 F.f31.kp F.b31 lets (ar_v (e_var 1) ar_nil)) e_int)))))
    (s_one (s_ret e_non))
    s_nil)
    (s_one (s_ret (e_move 1)))))
theorem st33 {n : Nat} (F : Facts K w mg cl fa dd fd) (ih : ∀ i, i < 40 → Ok P w K mg base cl fa fd n i) : Ok P w K mg base cl fa fd (n + 1) 33 := by
  refine fn_body (N := N33) (fb := fb33 (sem n)) F.f33 sc33 fun cdv A outer s H E b gd hr hcl => ?_
  have pas := passes_of (X := cxOf (L2.CX P w) P w K mg base N33 "_law_due" (defScope (top 70)) (fa 33) cdv A outer s H E) rfl
  have tk := takes_of (X := cxOf (L2.CX P w) P w K mg base N33 "_law_due" (defScope (top 70)) (fa 33) cdv A outer s H E) (E := E) rfl rfl rfl rfl
  have lets := lets_of tk
  have U64 : (A.deeper (envOfC "_law_due" (defScope (top 70)) s.heap.objs.size (fa 33) cdv)).units + 64 < cLine := by have := hr.un; omega
  have U65 : (A.deeper (envOfC "_law_due" (defScope (top 70)) s.heap.objs.size (fa 33) cdv)).units + 65 < cLine := by have := hr.un; omega
  have U200 : (A.deeper (envOfC "_law_due" (defScope (top 70)) s.heap.objs.size (fa 33) cdv)).units + 200 < cLine := by have := hr.un; omega
  exact (s_cons (s_if (t_cmp (op_eqD2 U64) os_eq (o_n 0) e_int)
    (s_one (s_ret (e_call hcl (ih 29 (by decide)) gd hr rfl F.m29 F.f29.kp F.b29 lets (ar_v (e_var 1) ar_nil))))
    s_nil)
    (s_one (s_ret (e_call hcl (ih 32 (by decide)) gd hr rfl F.m32 F.f32.kp F.b32 lets (ar_v (e_var 1) ar_nil)))))
theorem st34 {n : Nat} (F : Facts K w mg cl fa dd fd) (ih : ∀ i, i < 40 → Ok P w K mg base cl fa fd n i) : Ok P w K mg base cl fa fd (n + 1) 34 := by
  refine fn_body (N := N34) (fb := fb34 (sem n)) F.f34 sc34 fun cdv A outer s H E b gd hr hcl => ?_
  have pas := passes_of (X := cxOf (L2.CX P w) P w K mg base N34 "_law_asked" (defScope (top 71)) (fa 34) cdv A outer s H E) rfl
  have tk := takes_of (X := cxOf (L2.CX P w) P w K mg base N34 "_law_asked" (defScope (top 71)) (fa 34) cdv A outer s H E) (E := E) rfl rfl rfl rfl
  have lets := lets_of tk
  have U64 : (A.deeper (envOfC "_law_asked" (defScope (top 71)) s.heap.objs.size (fa 34) cdv)).units + 64 < cLine := by have := hr.un; omega
  have U65 : (A.deeper (envOfC "_law_asked" (defScope (top 71)) s.heap.objs.size (fa 34) cdv)).units + 65 < cLine := by have := hr.un; omega
  have U200 : (A.deeper (envOfC "_law_asked" (defScope (top 71)) s.heap.objs.size (fa 34) cdv)).units + 200 < cLine := by have := hr.un; omega
  exact (s_cons (s_set (i := 2) sc34.nd rfl (by first | exact Or.inl rfl | exact Or.inr rfl) e_non)
    (s_cons (s_set (i := 3) sc34.nd rfl (by first | exact Or.inl rfl | exact Or.inr rfl) e_non)
    (s_cons (s_tryAs (i := 4) hcl F.t_BookError rfl rfl rfl sc34.nd rfl rfl (F.nm_BookError rfl rfl) tk (fun _ _ _ tk13 pas13 => (s_one (s_if (t_cmp (op_eqD2 U64) os_eq (o_n 0) e_int)
    (s_one (s_set (i := 2) sc34.nd rfl (by first | exact Or.inl rfl | exact Or.inr rfl) (e_call hcl (ih 11 (by decide)) gd hr rfl F.m11 F.f11.kp F.b11 (lets_of tk13) (ar_v (e_var 1) ar_nil))))
    (s_one (s_set (i := 2) sc34.nd rfl (by first | exact Or.inl rfl | exact Or.inr rfl) (e_call hcl (ih 13 (by decide)) gd hr rfl F.m13 F.f13.kp F.b13 (lets_of tk13) (ar_v (e_var 1) ar_nil)))))))
    (fun _ _ => (s_one (s_set (i := 3) sc34.nd rfl (by first | exact Or.inl rfl | exact Or.inr rfl) (e_var 4)))))
    (s_one (s_ret (e_pair (i := 2) (j := 3) rfl rfl (by first | exact Or.inl rfl | exact Or.inr (Or.inl rfl) | exact Or.inr (Or.inr rfl)) (by first | exact Or.inl rfl | exact Or.inr (Or.inl rfl) | exact Or.inr (Or.inr rfl)) (by decide) (by decide) (by decide) (by decide) (e_tup (as_cons (e_var 2) (as_cons (e_var 3) as_nil)))))))))
theorem st35 {n : Nat} (F : Facts K w mg cl fa dd fd) (ih : ∀ i, i < 40 → Ok P w K mg base cl fa fd n i) : Ok P w K mg base cl fa fd (n + 1) 35 := by
  refine fn_body (N := N35) (fb := fb35 (sem n)) F.f35 sc35 fun cdv A outer s H E b gd hr hcl => ?_
  have pas := passes_of (X := cxOf (L2.CX P w) P w K mg base N35 "_law_right" (defScope (top 72)) (fa 35) cdv A outer s H E) rfl
  have tk := takes_of (X := cxOf (L2.CX P w) P w K mg base N35 "_law_right" (defScope (top 72)) (fa 35) cdv A outer s H E) (E := E) rfl rfl rfl rfl
  have lets := lets_of tk
  have U64 : (A.deeper (envOfC "_law_right" (defScope (top 72)) s.heap.objs.size (fa 35) cdv)).units + 64 < cLine := by have := hr.un; omega
  have U65 : (A.deeper (envOfC "_law_right" (defScope (top 72)) s.heap.objs.size (fa 35) cdv)).units + 65 < cLine := by have := hr.un; omega
  have U200 : (A.deeper (envOfC "_law_right" (defScope (top 72)) s.heap.objs.size (fa 35) cdv)).units + 200 < cLine := by have := hr.un; omega
  exact (s_cons (s_set (i := 2) sc35.nd rfl (by first | exact Or.inl rfl | exact Or.inr rfl) (e_call hcl (ih 33 (by decide)) gd hr rfl F.m33 F.f33.kp F.b33 lets (ar_v (e_var 0) (ar_v (e_var 1) ar_nil))))
    (s_cons (s_unpX (i := 3) (j := 4) rfl sc35.nd rfl rfl (by first | exact Or.inl rfl | exact Or.inr rfl) (by first | exact Or.inl rfl | exact Or.inr rfl) (by first | exact .inl rfl | exact .inr rfl) (by first | exact .inl rfl | exact .inr rfl) (e_call hcl (ih 34 (by decide)) gd hr rfl F.m34 F.f34.kp F.b34 lets (ar_v (e_var 0) (ar_v (e_var 1) ar_nil))))
    (s_cons (s_if (t_cmp L2.op_isN os_is (o_n 2) e_non)
    (s_one (s_ret (e_call hcl (ih 21 (by decide)) gd hr rfl F.m21 F.f21.kp F.b21 lets (ar_v (e_var 4) (ar_v e_str ar_nil)))))
    s_nil)
    (s_one (s_ret (e_and (e_cmp L2.op_isN os_is (o_n 4) e_non) (e_one (e_cmp (op_eqD2 U64) os_eq (e_strOf gd U200 rfl F.g_str (o_n 3)) (e_strOf gd U200 rfl F.g_str (o_n 2))))))))))
theorem st36 {n : Nat} (F : Facts K w mg cl fa dd fd) (ih : ∀ i, i < 40 → Ok P w K mg base cl fa fd n i) : Ok P w K mg base cl fa fd (n + 1) 36 := by
  refine fn_body (N := N36) (fb := fb36 (sem n)) F.f36 sc36 fun cdv A outer s H E b gd hr hcl => ?_
  have pas := passes_of (X := cxOf (L2.CX P w) P w K mg base N36 "_law_bent" (defScope (top 73)) (fa 36) cdv A outer s H E) rfl
  have tk := takes_of (X := cxOf (L2.CX P w) P w K mg base N36 "_law_bent" (defScope (top 73)) (fa 36) cdv A outer s H E) (E := E) rfl rfl rfl rfl
  have lets := lets_of tk
  have U64 : (A.deeper (envOfC "_law_bent" (defScope (top 73)) s.heap.objs.size (fa 36) cdv)).units + 64 < cLine := by have := hr.un; omega
  have U65 : (A.deeper (envOfC "_law_bent" (defScope (top 73)) s.heap.objs.size (fa 36) cdv)).units + 65 < cLine := by have := hr.un; omega
  have U200 : (A.deeper (envOfC "_law_bent" (defScope (top 73)) s.heap.objs.size (fa 36) cdv)).units + 200 < cLine := by have := hr.un; omega
  exact (s_cons (s_set (i := 2) sc36.nd rfl (by first | exact Or.inl rfl | exact Or.inr rfl) (e_call hcl (ih 16 (by decide)) gd hr rfl F.m16 F.f16.kp F.b16 lets (ar_r (o_n (b := b) (W := W0) 0) (ar_v (e_op op_addD os_add (e_callB call_len cs_len rfl F.g_len boot_len (o_n 1)) e_int) ar_nil))))
    (s_cons (s_set (i := 3) sc36.nd rfl (by first | exact Or.inl rfl | exact Or.inr rfl) (e_call hcl (ih 16 (by decide)) gd hr rfl F.m16 F.f16.kp F.b16 lets (ar_r (o_n (b := b) (W := W0) 0) (ar_v (e_op op_addD os_add (e_callB call_len cs_len rfl F.g_len boot_len (o_n 1)) e_int) ar_nil))))
    (s_cons (s_set (i := 4) sc36.nd rfl (by first | exact Or.inl rfl | exact Or.inr rfl) (e_ix e_str (e_call hcl (ih 16 (by decide)) gd hr rfl F.m16 F.f16.kp F.b16 lets (ar_r (o_n (b := b) (W := W0) 0) (ar_v e_int ar_nil)))))
    (s_cons (s_set (i := 5) sc36.nd rfl (by first | exact Or.inl rfl | exact Or.inr rfl) (e_call hcl (ih 16 (by decide)) gd hr rfl F.m16 F.f16.kp F.b16 lets (ar_r (o_n (b := b) (W := W0) 0) (ar_v e_int ar_nil))))
    (s_cons (s_if (t_cmp (op_eqD2 U64) os_eq (o_n 5) e_int)
    (s_one (s_ret (e_op op_addD os_add (e_op op_addD os_add (e_sl (o_n 1) pr_no (pr_e (e_var 2))) (o_n 4)) (e_sl (o_n 1) (pr_e (e_var 2)) pr_no))))
    s_nil)
    (s_cons (s_if (t_cmp (op_eqD2 U64) os_eq (o_n 5) e_int)
    (s_one (s_ret (e_op op_addD os_add (e_sl (o_n 1) pr_no (pr_e (e_var 2))) (e_sl (o_n 1) (pr_e (e_op op_addD os_add (o_n 2) e_int)) pr_no))))
    s_nil)
    (s_cons (s_if (t_cmp (op_eqD2 U64) os_eq (o_n 5) e_int)
    (s_one (s_ret (e_op op_addD os_add (e_op op_addD os_add (e_sl (o_n 1) pr_no (pr_e (e_var 2))) (o_n 4)) (e_sl (o_n 1) (pr_e (e_op op_addD os_add (o_n 2) e_int)) pr_no))))
    s_nil)
    (s_cons (s_if (t_cmp (op_eqD2 U64) os_eq (o_n 5) e_int)
    (s_one (s_ret (e_op op_addD os_add (e_op op_addD os_add (e_sl (o_n 1) pr_no (pr_e (e_var 2))) (e_sl (o_n 1) (pr_e (e_var 2)) (pr_e (e_op op_addD os_add (o_n 2) e_int)))) (e_sl (o_n 1) (pr_e (e_var 2)) pr_no))))
    s_nil)
    (s_cons (s_if (t_cmp (op_eqD2 U64) os_eq (o_n 5) e_int)
    (s_cons (s_set (i := 6) sc36.nd rfl (by first | exact Or.inl rfl | exact Or.inr rfl) (e_op op_addD os_add (e_sl (o_n 1) (pr_e (e_op op_addD os_add (o_n 2) e_int)) (pr_e (e_op op_addD os_add (o_n 2) e_int))) (e_sl (o_n 1) (pr_e (e_var 2)) (pr_e (e_op op_addD os_add (o_n 2) e_int)))))
    (s_one (s_ret (e_op op_addD os_add (e_op op_addD os_add (e_sl (o_n 1) pr_no (pr_e (e_var 2))) (o_n 6)) (e_sl (o_n 1) (pr_e (e_op op_addD os_add (o_n 2) e_int)) pr_no)))))
    s_nil)
    (s_cons (s_if (t_cmp (op_eqD2 U64) os_eq (o_n 5) e_int)
    (s_one (s_ret (e_op op_addD os_add (e_sl (o_n 1) pr_no (pr_e (e_var 2))) (e_sl (o_n 1) (pr_e (e_callB2 (call_max2 rfl) cs_max rfl F.g_max (by decide +kernel) (o_n 2) (o_n 3))) pr_no))))
    s_nil)
    (s_cons (s_if (t_cmp (op_eqD2 U64) os_eq (o_n 5) e_int)
    (s_cons (s_set (i := 7) sc36.nd rfl (by first | exact Or.inl rfl | exact Or.inr rfl) (e_lst (as_cons (e_op op_addD os_add e_str (o_n 1)) (as_cons (e_op op_addD os_add (o_n 1) e_str) (as_cons (e_op op_addD os_add (o_n 1) e_str) (as_cons (e_op op_addD os_add e_str (o_n 1)) (as_cons e_str as_nil)))))))
    (s_one (s_ret (e_ix (o_n 7) (e_call hcl (ih 16 (by decide)) gd hr rfl F.m16 F.f16.kp F.b16 lets (ar_r (o_n (b := b) (W := W0) 0) (ar_v e_int ar_nil)))))))
    s_nil)
    (s_one (s_ret (e_move 1))))))))))))))
theorem st37 {n : Nat} (F : Facts K w mg cl fa dd fd) (ih : ∀ i, i < 40 → Ok P w K mg base cl fa fd n i) : Ok P w K mg base cl fa fd (n + 1) 37 := by
  refine fn_body (N := N37) (fb := fb37 (sem n)) F.f37 sc37 fun cdv A outer s H E b gd hr hcl => ?_
  have pas := passes_of (X := cxOf (L2.CX P w) P w K mg base N37 "_law_fixed" (defScope (top 74)) (fa 37) cdv A outer s H E) rfl
  have tk := takes_of (X := cxOf (L2.CX P w) P w K mg base N37 "_law_fixed" (defScope (top 74)) (fa 37) cdv A outer s H E) (E := E) rfl rfl rfl rfl
  have lets := lets_of tk
  have U64 : (A.deeper (envOfC "_law_fixed" (defScope (top 74)) s.heap.objs.size (fa 37) cdv)).units + 64 < cLine := by have := hr.un; omega
  have U65 : (A.deeper (envOfC "_law_fixed" (defScope (top 74)) s.heap.objs.size (fa 37) cdv)).units + 65 < cLine := by have := hr.un; omega
  have U200 : (A.deeper (envOfC "_law_fixed" (defScope (top 74)) s.heap.objs.size (fa 37) cdv)).units + 200 < cLine := by have := hr.un; omega
  exact (s_cons (s_set (i := 1) sc37.nd rfl (by first | exact Or.inl rfl | exact Or.inr rfl) (e_lst (as_cons (e_tup (as_cons e_int (as_cons e_str as_nil))) (as_cons (e_tup (as_cons e_int (as_cons e_str as_nil))) (as_cons (e_tup (as_cons e_int (as_cons e_str as_nil))) (as_cons (e_tup (as_cons e_int (as_cons e_str as_nil))) (as_cons (e_tup (as_cons e_int (as_cons e_str as_nil))) (as_cons (e_tup (as_cons e_int (as_cons e_str as_nil))) (as_cons (e_tup (as_cons e_int (as_cons e_str as_nil))) (as_cons (e_tup (as_cons e_int (as_cons e_str as_nil))) as_nil))))))))))
    (s_cons (s_set (i := 1) sc37.nd rfl (by first | exact Or.inl rfl | exact Or.inr rfl) (e_op op_addD os_add (o_n 1) (e_lst (as_cons (e_tup (as_cons e_int (as_cons e_str as_nil))) (as_cons (e_tup (as_cons e_int (as_cons e_str as_nil))) (as_cons (e_tup (as_cons e_int (as_cons e_str as_nil))) (as_cons (e_tup (as_cons e_int (as_cons e_str as_nil))) (as_cons (e_tup (as_cons e_int (as_cons e_str as_nil))) as_nil))))))))
    (s_cons (s_set (i := 1) sc37.nd rfl (by first | exact Or.inl rfl | exact Or.inr rfl) (e_op op_addD os_add (o_n 1) (e_lst (as_cons (e_tup (as_cons e_int (as_cons e_str as_nil))) (as_cons (e_tup (as_cons e_int (as_cons e_str as_nil))) (as_cons (e_tup (as_cons e_int (as_cons e_str as_nil))) (as_cons (e_tup (as_cons e_int (as_cons e_str as_nil))) (as_cons (e_tup (as_cons e_int (as_cons e_str as_nil))) (as_cons (e_tup (as_cons e_int (as_cons e_str as_nil))) as_nil)))))))))
    (s_cons (s_set (i := 1) sc37.nd rfl (by first | exact Or.inl rfl | exact Or.inr rfl) (e_op op_addD os_add (o_n 1) (e_lst (as_cons (e_tup (as_cons e_int (as_cons (e_op op_addD os_add e_str (e_op op_mulD os_mul e_str e_int)) as_nil))) (as_cons (e_tup (as_cons e_int (as_cons (e_op op_addD os_add e_str (e_op op_mulD os_mul e_str e_int)) as_nil))) (as_cons (e_tup (as_cons e_int (as_cons (e_op op_addD os_add (e_op op_addD os_add e_str (e_op op_mulD os_mul e_str e_int)) e_str) as_nil))) (as_cons (e_tup (as_cons e_int (as_cons (e_op op_addD os_add (e_op op_addD os_add e_str (e_op op_mulD os_mul e_str e_int)) e_str) as_nil))) as_nil)))))))
    (s_cons (s_set (i := 1) sc37.nd rfl (by first | exact Or.inl rfl | exact Or.inr rfl) (e_op op_addD os_add (o_n 1) (e_lst (as_cons (e_tup (as_cons e_int (as_cons (e_op op_addD os_add (e_op op_addD os_add e_str (e_op op_mulD os_mul e_str e_int)) e_str) as_nil))) (as_cons (e_tup (as_cons e_int (as_cons (e_op op_mulD os_mul e_str e_int) as_nil))) (as_cons (e_tup (as_cons e_int (as_cons (e_op op_addD os_add e_str (e_op op_mulD os_mul e_str e_int)) as_nil))) as_nil))))))
    (s_cons (s_set (i := 1) sc37.nd rfl (by first | exact Or.inl rfl | exact Or.inr rfl) (e_op op_addD os_add (o_n 1) (e_lst (as_cons (e_tup (as_cons e_int (as_cons e_str as_nil))) (as_cons (e_tup (as_cons e_int (as_cons e_str as_nil))) (as_cons (e_tup (as_cons e_int (as_cons e_str as_nil))) (as_cons (e_tup (as_cons e_int (as_cons e_str as_nil))) (as_cons (e_tup (as_cons e_int (as_cons e_str as_nil))) (as_cons (e_tup (as_cons e_int (as_cons e_str as_nil))) as_nil)))))))))
    (s_cons (s_set (i := 1) sc37.nd rfl (by first | exact Or.inl rfl | exact Or.inr rfl) (e_op op_addD os_add (o_n 1) (e_lst (as_cons (e_tup (as_cons e_int (as_cons e_str as_nil))) (as_cons (e_tup (as_cons e_int (as_cons e_str as_nil))) (as_cons (e_tup (as_cons e_int (as_cons e_str as_nil))) (as_cons (e_tup (as_cons e_int (as_cons e_str as_nil))) (as_cons (e_tup (as_cons e_int (as_cons e_str as_nil))) (as_cons (e_tup (as_cons e_int (as_cons e_str as_nil))) as_nil)))))))))
    (s_cons (s_set (i := 1) sc37.nd rfl (by first | exact Or.inl rfl | exact Or.inr rfl) (e_op op_addD os_add (o_n 1) (e_lst (as_cons (e_tup (as_cons e_int (as_cons e_str as_nil))) (as_cons (e_tup (as_cons e_int (as_cons e_str as_nil))) (as_cons (e_tup (as_cons e_int (as_cons e_str as_nil))) (as_cons (e_tup (as_cons e_int (as_cons e_str as_nil))) as_nil)))))))
    (s_cons (s_set (i := 1) sc37.nd rfl (by first | exact Or.inl rfl | exact Or.inr rfl) (e_op op_addD os_add (o_n 1) (e_lst (as_cons (e_tup (as_cons e_int (as_cons (e_op op_addD os_add (e_op op_addD os_add (e_op op_mulD os_mul e_str e_int) e_str) (e_op op_mulD os_mul e_str e_int)) as_nil))) (as_cons (e_tup (as_cons e_int (as_cons (e_op op_addD os_add (e_op op_addD os_add (e_op op_mulD os_mul e_str e_int) e_str) (e_op op_mulD os_mul e_str e_int)) as_nil))) as_nil)))))
    (s_one (s_ret (e_ix (o_n 1) (e_call hcl (ih 16 (by decide)) gd hr rfl F.m16 F.f16.kp F.b16 lets (ar_r (o_n (b := b) (W := W0) 0) (ar_v (e_callB call_len cs_len rfl F.g_len boot_len (o_n 1)) ar_nil)))))))))))))))
theorem st38 {n : Nat} (F : Facts K w mg cl fa dd fd) (ih : ∀ i, i < 40 → Ok P w K mg base cl fa fd n i) : Ok P w K mg base cl fa fd (n + 1) 38 := by
  refine fn_body (N := N38) (fb := fb38 (sem n)) F.f38 sc38 fun cdv A outer s H E b gd hr hcl => ?_
  have pas := passes_of (X := cxOf (L2.CX P w) P w K mg base N38 "_law_long_good" (defScope (top 75)) (fa 38) cdv A outer s H E) rfl
  have tk := takes_of (X := cxOf (L2.CX P w) P w K mg base N38 "_law_long_good" (defScope (top 75)) (fa 38) cdv A outer s H E) (E := E) rfl rfl rfl rfl
  have lets := lets_of tk
  have U64 : (A.deeper (envOfC "_law_long_good" (defScope (top 75)) s.heap.objs.size (fa 38) cdv)).units + 64 < cLine := by have := hr.un; omega
  have U65 : (A.deeper (envOfC "_law_long_good" (defScope (top 75)) s.heap.objs.size (fa 38) cdv)).units + 65 < cLine := by have := hr.un; omega
  have U200 : (A.deeper (envOfC "_law_long_good" (defScope (top 75)) s.heap.objs.size (fa 38) cdv)).units + 200 < cLine := by have := hr.un; omega
  exact (s_cons (s_set (i := 0) sc38.nd rfl (by first | exact Or.inl rfl | exact Or.inr rfl) (e_lst (as_cons (e_tup (as_cons e_int (as_cons (e_op op_mulD os_mul e_str e_int) as_nil))) (as_cons (e_tup (as_cons e_int (as_cons (e_op op_mulD os_mul e_str e_int) as_nil))) (as_cons (e_tup (as_cons e_int (as_cons (e_op op_addD os_add (e_op op_addD os_add (e_op op_mulD os_mul e_str e_int) e_str) (e_op op_mulD os_mul e_str e_int)) as_nil))) (as_cons (e_tup (as_cons e_int (as_cons (e_op op_mulD os_mul e_str e_int) as_nil))) as_nil))))))
    (s_cons (s_set (i := 0) sc38.nd rfl (by first | exact Or.inl rfl | exact Or.inr rfl) (e_op op_addD os_add (o_n 0) (e_lst (as_cons (e_tup (as_cons e_int (as_cons (e_op op_addD os_add (e_op op_addD os_add (e_op op_mulD os_mul e_str e_int) e_str) (e_op op_mulD os_mul e_str e_int)) as_nil))) (as_cons (e_tup (as_cons e_int (as_cons (e_op op_addD os_add (e_op op_addD os_add (e_op op_mulD os_mul e_str e_int) e_str) (e_op op_mulD os_mul e_str e_int)) as_nil))) as_nil)))))
    (s_one (s_ret (e_callB (cr_all rfl) cs_all rfl F.g_all (by decide +kernel) (e_lc (own := [("_law_way", 1), ("_law_text_here", 2)]) rfl sc38.nd (by decide) (i_seq (e_op op_addD os_add (o_n 0) (e_lst (as_cons (e_tup (as_cons e_int (as_cons (e_op op_addD os_add (e_op op_addD os_add (e_op op_mulD os_mul e_str e_int) e_str) (e_op op_mulD os_mul e_str e_int)) as_nil))) as_nil)))) (blkOk_by (N := N38) (sc := defScope (top 75)) (by decide +kernel)) (fun _ _ _ _ _ b14 h14 => (g_t rfl (gs_cons (g_n sc38.nd rfl (by first | exact Or.inl rfl | exact Or.inr rfl)) (gs_cons (g_n sc38.nd rfl (by first | exact Or.inl rfl | exact Or.inr rfl)) gs_nil)))) (fun _ _ _ _ _ b14 h14 => ts_nil) (fun _ _ _ _ _ b14 h14 => (e_call (h14.trans hcl) (ih 35 (by decide)) gd hr rfl F.m35 F.f35.kp F.b35 lets0 (ar_v (e_var 1) (ar_v (e_var 2) ar_nil))))))))))
theorem st39 {n : Nat} (F : Facts K w mg cl fa dd fd) (ih : ∀ i, i < 40 → Ok P w K mg base cl fa fd n i) : Ok P w K mg base cl fa fd (n + 1) 39 := by
  refine fn_body (N := N39) (fb := fb39 (sem n)) F.f39 sc39 fun cdv A outer s H E b gd hr hcl => ?_
  have pas := passes_of (X := cxOf (L2.CX P w) P w K mg base N39 "law" (defScope (top 76)) (fa 39) cdv A outer s H E) rfl
  have tk := takes_of (X := cxOf (L2.CX P w) P w K mg base N39 "law" (defScope (top 76)) (fa 39) cdv A outer s H E) (E := E) rfl rfl rfl rfl
  have lets := lets_of tk
  have U64 : (A.deeper (envOfC "law" (defScope (top 76)) s.heap.objs.size (fa 39) cdv)).units + 64 < cLine := by have := hr.un; omega
  have U65 : (A.deeper (envOfC "law" (defScope (top 76)) s.heap.objs.size (fa 39) cdv)).units + 65 < cLine := by have := hr.un; omega
  have U200 : (A.deeper (envOfC "law" (defScope (top 76)) s.heap.objs.size (fa 39) cdv)).units + 200 < cLine := by have := hr.un; omega
  exact (s_cons (s_if (t_not (t_val (e_call0 hcl (ih 38 (by decide)) gd hr rfl F.m38 F.f38.kp F.b38 lets)))
    (s_one (s_ret e_bl))
    s_nil)
    (s_cons (s_for pas rfl (i_rng rfl F.g_range e_int) (g_n sc39.nd rfl (by first | exact Or.inl rfl | exact Or.inr rfl))
    (s_cons (s_set (i := 2) sc39.nd rfl (by first | exact Or.inl rfl | exact Or.inr rfl) (e_lst (as_cons (e_call hcl (ih 15 (by decide)) gd hr rfl F.m15 F.f15.kp F.b15 lets (ar_v (e_var 0) (ar_v (e_var 1) ar_nil))) as_nil)))
    (s_cons (s_set (i := 3) sc39.nd rfl (by first | exact Or.inl rfl | exact Or.inr rfl) (e_lst (as_cons (e_tup (as_cons e_int (as_cons (e_call hcl (ih 18 (by decide)) gd hr rfl F.m18 F.f18.kp F.b18 lets (ar_v (e_call hcl (ih 17 (by decide)) gd hr rfl F.m17 F.f17.kp F.b17 lets (ar_r (o_n (b := b) (W := W0) 2) (ar_v (e_op op_addD os_add e_int (e_call hcl (ih 16 (by decide)) gd hr rfl F.m16 F.f16.kp F.b16 lets (ar_r (o_n (b := b) (W := W0) 2) (ar_v e_int ar_nil)))) (ar_v e_int (ar_v (e_op L2.op_pow os_pow e_int e_int) ar_nil))))) ar_nil)) as_nil))) as_nil)))
    (s_cons (s_append (e_tup (as_cons e_int (as_cons (e_call hcl (ih 20 (by decide)) gd hr rfl F.m20 F.f20.kp F.b20 lets (ar_v (e_call hcl (ih 19 (by decide)) gd hr rfl F.m19 F.f19.kp F.b19 lets (ar_r (o_n (b := b) (W := W0) 2) (ar_v (e_op op_addD os_add e_int (e_call hcl (ih 16 (by decide)) gd hr rfl F.m16 F.f16.kp F.b16 lets (ar_r (o_n (b := b) (W := W0) 2) (ar_v e_int ar_nil)))) (ar_v e_int ar_nil)))) ar_nil)) as_nil))) (o_n (b := b) (W := W0) 3))
    (s_cons (s_for pas rfl (i_seq (e_var 3)) (g_t rfl (gs_cons (g_n sc39.nd rfl (by first | exact Or.inl rfl | exact Or.inr rfl)) (gs_cons (g_n sc39.nd rfl (by first | exact Or.inl rfl | exact Or.inr rfl)) gs_nil)))
    (s_one (s_for pas rfl (i_rng rfl F.g_range e_int) (g_n sc39.nd rfl (by first | exact Or.inl rfl | exact Or.inr rfl))
    (s_cons (s_set (i := 7) sc39.nd rfl (by first | exact Or.inl rfl | exact Or.inr rfl) (e_call hcl (ih 36 (by decide)) gd hr rfl F.m36 F.f36.kp F.b36 lets (ar_r (o_n (b := b) (W := W0) 2) (ar_v (e_var 5) ar_nil))))
    (s_one (s_if (t_pw (w_or (t_not (t_val (e_call hcl (ih 35 (by decide)) gd hr rfl F.m35 F.f35.kp F.b35 lets (ar_v (e_var 4) (ar_v (e_var 7) ar_nil))))) (w_or1 (t_not (t_val (e_call hcl (ih 35 (by decide)) gd hr rfl F.m35 F.f35.kp F.b35 lets (ar_v (e_var 4) (ar_v (e_call hcl (ih 36 (by decide)) gd hr rfl F.m36 F.f36.kp F.b36 lets (ar_r (o_n (b := b) (W := W0) 2) (ar_v (e_var 7) ar_nil))) ar_nil))))))))
    (s_one (s_ret e_bl))
    s_nil))))))
    (s_one (s_for pas rfl (i_rng rfl F.g_range e_int) (g_n sc39.nd rfl (by first | exact Or.inl rfl | exact Or.inr rfl))
    (s_cons (s_unp (e_call hcl (ih 37 (by decide)) gd hr rfl F.m37 F.f37.kp F.b37 lets (ar_r (o_n (b := b) (W := W0) 2) ar_nil)) (g_t rfl (gs_cons (g_n sc39.nd rfl (by first | exact Or.inl rfl | exact Or.inr rfl)) (gs_cons (g_n sc39.nd rfl (by first | exact Or.inl rfl | exact Or.inr rfl)) gs_nil))))
    (s_one (s_if (t_not (t_val (e_call hcl (ih 35 (by decide)) gd hr rfl F.m35 F.f35.kp F.b35 lets (ar_v (e_var 4) (ar_v (e_var 5) ar_nil)))))
    (s_one (s_ret e_bl))
    s_nil))))))))))
    (s_one (s_ret e_bl))))
theorem all (F : Facts K w mg cl fa dd fd) : ∀ n i, i < 40 → Ok P w K mg base cl fa fd n i
  | 0, _, _ => fn_zero
  | n + 1, i, h => by
    have ih := all F n
    match i, h with
    | 0, _ => exact st0 F ih
    | 1, _ => exact st1 F ih
    | 2, _ => exact st2 F ih
    | 3, _ => exact st3 F ih
    | 4, _ => exact st4 F ih
    | 5, _ => exact st5 F ih
    | 6, _ => exact st6 F ih
    | 7, _ => exact st7 F ih
    | 8, _ => exact st8 F ih
    | 9, _ => exact st9 F ih
    | 10, _ => exact st10 F ih
    | 11, _ => exact st11 F ih
    | 12, _ => exact st12 F ih
    | 13, _ => exact st13 F ih
    | 14, _ => exact st14 F ih
    | 15, _ => exact st15 F ih
    | 16, _ => exact st16 F ih
    | 17, _ => exact st17 F ih
    | 18, _ => exact st18 F ih
    | 19, _ => exact st19 F ih
    | 20, _ => exact st20 F ih
    | 21, _ => exact st21 F ih
    | 22, _ => exact st22 F ih
    | 23, _ => exact st23 F ih
    | 24, _ => exact st24 F ih
    | 25, _ => exact st25 F ih
    | 26, _ => exact st26 F ih
    | 27, _ => exact st27 F ih
    | 28, _ => exact st28 F ih
    | 29, _ => exact st29 F ih
    | 30, _ => exact st30 F ih
    | 31, _ => exact st31 F ih
    | 32, _ => exact st32 F ih
    | 33, _ => exact st33 F ih
    | 34, _ => exact st34 F ih
    | 35, _ => exact st35 F ih
    | 36, _ => exact st36 F ih
    | 37, _ => exact st37 F ih
    | 38, _ => exact st38 F ih
    | 39, _ => exact st39 F ih
    | k + 40, h => omega
end
end K81
set_option maxHeartbeats 2000000
namespace K81
open Dl PySem
theorem upto4 : kRng (.int 4) = some (upFrom 0 4) := kRng_up (n := 4) (by decide)
theorem p9 : powD (.int 10) (.int 9) = some (.d (.int 1000000000)) := by kernel_rfl
theorem e9 : (10 : Int) ^ 9 = 1000000000 := by decide
theorem half1 {n : Nat} {ns : List Int} {j : Nat} {b c e f g h : Option Sv} (hn : 60 ≤ n) (hj : j < 4) (hb : NR b) (hc : NR c) (G : Ev → RS) :
    ∃ (t : F) (u : T) (q : Int), t.ok ∧ t.parts ≤ 15 ∧ t.deep ≤ 4 ∧ u.ok ∧ u.knots ≤ 12 ∧ (fSeq (fSet 2 (fLst [(fCall (sem n 15) [.v (fVar 0), .v (fVar 1)])]))
    (fSeq (fSet 3 (fLst [(fTup [(fC (.int 0)), (fCall (sem n 18) [.v (fCall (sem n 17) [.r 2, .v (fOp addD (.e (fC (.int 1))) (.e (fCall (sem n 16) [.r 2, .v (fC (.int 15))]))), .v (fC (.int 4)), .v (fOp powD (.e (fC (.int 10))) (.e (fC (.int 9))))])])])]))
    (fSeq (fApp 3 (fTup [(fC (.int 1)), (fCall (sem n 20) [.v (fCall (sem n 19) [.r 2, .v (fOp addD (.e (fC (.int 1))) (.e (fCall (sem n 16) [.r 2, .v (fC (.int 12))]))), .v (fC (.int 30))])])])) G)))
    [some (.fz (ns.map PyData.int)), some (.d (.int j)), b, c, e, f, g, h] =
      G [some (.fz (ns.map PyData.int)), some (.d (.int j)), some (.ow [.int q]), some (.ow [.tuple [.int 0, .str (SX.S t.txt)], .tuple [.int 1, .str (SX.S u.txt)]]), e, f, g, h] := by
  obtain ⟨x, ec⟩ := cell_eq (n := n) (ns := ns) (k := j) (by omega) (by omega)
  have t1 := T1 (n := n) (p := x) (k := 15) (by omega) (by decide) (by decide)
  obtain ⟨t, q, o0, k0, d0, ew⟩ := grown_eq 4 (n := n) (p := x / 15) (most := 1 + x % 15) (by decide) (by omega) (by omega) (by omega)
  have ew : sem n 17 [.rf [.int (x / 15)], .d (.int (1 + x % 15)), .d (.int 4), .d (.int 1000000000)] = .ok (.d t.d) [.int q] := ew
  have e1 := ltext_eq t (n := n) o0 (by omega) (by omega)
  have t2 := T1 (n := n) (p := q) (k := 12) (by omega) (by decide) (by decide)
  obtain ⟨u, q2, o1, k1, d1, ew2⟩ := wood_eq 30 (n := n) (p := q / 12) (k := 1 + q % 12) (by decide) (by omega) (by omega) (by omega)
  have ew2 : sem n 19 [.rf [.int (q / 12)], .d (.int (1 + q % 12)), .d (.int 30)] = .ok (.d u.d) [.int q2] := ew2
  have e2 := ttext_eq u (n := n) o1 (by omega) (by omega) (by omega)
  have rb := nr_rf hb
  have rc := nr_rf hc
  have P := p9
  have E := e9
  refine ⟨t, u, q2, o0, by omega, d0, o1, by omega, ?_⟩
  simp_arith [ec, t1, ew, e1, t2, ew2, e2, rb, rc, P, E, n10]
def tailB (n : Nat) : Ev → RS := (fSeq (fFor (fun ρ => RI.of ((fVar 3) ρ) kSeq) (.t [(.n 4), (.n 5)])
    (fFor (fun ρ => RI.of ((fC (.int 4)) ρ) kRng) (.n 6) (turnB n)))
    (fFor (fun ρ => RI.of ((fC (.int 4)) ρ) kRng) (.n 6) (fixB n)))
theorem tail_eq {n : Nat} {l : List D} {k q : Int} {t : F} {u : T} {a b x y : Option Sv} (hn : 60 ≤ n) (ho : t.ok) (hk : t.parts ≤ 15) (hd : t.deep ≤ 4) (ho2 : u.ok) (hk2 : u.knots ≤ 12) (ha : NR a) (hb : NR b) (hx : NR x) (hy : NR y) :
    ∃ (q' : Int) (a' b' x' y' : Option Sv), tailB n [some (.fz l), some (.d (.int k)), some (.ow [.int q]), some (.ow [.tuple [.int 0, .str (SX.S t.txt)], .tuple [.int 1, .str (SX.S u.txt)]]), a, b, x, y] =
      .next [some (.fz l), some (.d (.int k)), some (.ow [.int q']), some (.d (.list [.tuple [.int 0, .str (SX.S t.txt)], .tuple [.int 1, .str (SX.S u.txt)]])), a', b', x', y'] ∧ NR a' ∧ NR b' ∧ NR x' ∧ NR y' := by
  have l1 := txt_len t ho
  have l2 := T.txt_len u
  obtain ⟨q1, x1, y1, e1, hx1, hy1⟩ := turns_eq (n := n) (l := l) (m := some (.d (.list [.tuple [.int 0, .str (SX.S t.txt)], .tuple [.int 1, .str (SX.S u.txt)]]))) (k := k) (q := q) (w := 0) (x := x) (y := y) (by omega) (by omega) (fit_f t) (sound0 (by omega) (by omega) (by omega)) hx hy
  obtain ⟨q2, x2, y2, e2, hx2, hy2⟩ := turns_eq (n := n) (l := l) (m := some (.d (.list [.tuple [.int 0, .str (SX.S t.txt)], .tuple [.int 1, .str (SX.S u.txt)]]))) (k := k) (q := q1) (w := 1) (x := x1) (y := y1) (by omega) (by omega) (fit_t u ho2) (sound1 (by omega) (by omega)) hx1 hy1
  obtain ⟨q3, a3, b3, x3, e3, ha3, hb3, hx3⟩ := fixes_eq (n := n) (l := l) (m := some (.d (.list [.tuple [.int 0, .str (SX.S t.txt)], .tuple [.int 1, .str (SX.S u.txt)]]))) (k := k) (q := q2) (a := some (.d (.int 1))) (b := some (.d (.str (SX.S u.txt)))) (x := x2) (y := y2) hn (nr_d _) (nr_d _) hx2
  have ra := nr_rf ha
  have rb := nr_rf hb
  have U := upto4
  refine ⟨q3, a3, b3, x3, y2, ?_, ha3, hb3, hx3, hy2⟩
  unfold tailB
  simp_arith [U, e1, e2, e3, ra, rb]
def bodyB (n : Nat) : Ev → RS := (fSeq (fSet 2 (fLst [(fCall (sem n 15) [.v (fVar 0), .v (fVar 1)])]))
    (fSeq (fSet 3 (fLst [(fTup [(fC (.int 0)), (fCall (sem n 18) [.v (fCall (sem n 17) [.r 2, .v (fOp addD (.e (fC (.int 1))) (.e (fCall (sem n 16) [.r 2, .v (fC (.int 15))]))), .v (fC (.int 4)), .v (fOp powD (.e (fC (.int 10))) (.e (fC (.int 9))))])])])]))
    (fSeq (fApp 3 (fTup [(fC (.int 1)), (fCall (sem n 20) [.v (fCall (sem n 19) [.r 2, .v (fOp addD (.e (fC (.int 1))) (.e (fCall (sem n 16) [.r 2, .v (fC (.int 12))]))), .v (fC (.int 30))])])])) (tailB n))))
theorem fb39_eq (n : Nat) : fb39 (sem n) = (fSeq (fIf (fNotT (fTest (fCall (sem n 38) [])))
    (fRet (fC (.bool false)))
    fSkip)
    (fSeq (fFor (fun ρ => RI.of ((fC (.int 4)) ρ) kRng) (.n 1) (bodyB n))
    (fRet (fC (.bool true))))) := rfl
theorem win_at {n : Nat} {ns : List Int} (hn : 60 ≤ n) : ∃ o, sem (n + 1) 39 [.fz (ns.map PyData.int)] = .ok (.d (.bool true)) o := by
  have el := long_eq (n := n) (by omega)
  obtain ⟨ρ', e, b, c, e1, f, g, h, z, hρ, hz, _⟩ := for_n (v := 1) (body := bodyB n)
    (I := fun j ρ => ∃ (b c e f g h z : Option Sv), ρ = [some (.fz (ns.map PyData.int)), z, b, c, e, f, g, h] ∧ NR z ∧ NR b ∧ NR c ∧ NR e ∧ NR f ∧ NR g ∧ NR h) (n := 4) (ρ := [some (.fz (ns.map PyData.int)), none, none, none, none, none, none, none])
    (fun j ρ hj ⟨b, c, e, f, g, h, z, e0, hz, hb, hc, he, hf, hg, hh⟩ => by
      subst e0
      refine ⟨nr_rf hz [b, c, e, f, g, h], ?_⟩
      obtain ⟨t, u, q, ho, hk, hdp, ho2, hk2, eq⟩ := half1 (n := n) (ns := ns) (j := j) (e := e) (f := f) (g := g) (h := h) hn hj hb hc (tailB n)
      obtain ⟨q', a', b', x', y', e2, n1, n2, n3, n4⟩ := tail_eq (n := n) (l := ns.map PyData.int) (k := j) (q := q) (t := t) (u := u) hn ho hk hdp ho2 hk2 he hf hg hh
      exact ⟨_, eq.trans e2, _, _, _, _, _, _, _, rfl, nr_d _, nr_ow _, nr_d _, n1, n2, n3, n4⟩) ⟨none, none, none, none, none, none, none, rfl, nr_n, nr_n, nr_n, nr_n, nr_n, nr_n, nr_n⟩
  refine ⟨rfOf ρ', ?_⟩
  have u := upto4
  simp only [sem_succ, bodyOf, fb39_eq]
  simp_arith [u, e, el]
theorem win : ∀ ns : List Int, ns.length ≤ 63 → ∃ o, sem 64 39 [.fz (ns.map PySem.PyData.int)] = .ok (.d (.bool true)) o := fun ns _ => win_at (n := 63) (by decide)
end K81
set_option maxHeartbeats 4000000
namespace K81
open PySem PySem.Spec L2 Dl
section
variable {l : PySem.W.OpenLaw} {w : World} {K : PySem.W.Frag} {h : Heap} {mg : Str → Option Value} {fa : Addr}
abbrev fdOf (nm : Str) (st : Stmt) (kV doc pm : Value) (an : Option Addr) (cd ct : Value) : FuncData := PySem.W.fnOf nm nm (defArgs st) (defBody st) (defScope st) .none kV doc pm an cd ct
theorem all_mk (KX : K.In h) (G : h.Ns mainGlobals mg) (hfa : mg "law" = some (.ref fa)) (win : ∀ ns : List Int, ns.length ≤ 63 → ∃ o, sem 64 39 [.fz (ns.map PyData.int)] = .ok (.d (.bool true)) o)
    {f0 f1 f2 f3 f4 f5 f6 f7 f8 f9 f10 f11 f12 f13 f14 f15 f16 f17 f18 f19 f20 f21 f22 f23 f24 f25 f26 f27 f28 f29 f30 f31 f32 f33 f34 f35 f36 f37 f38 f39 : Addr}
    {C0 C1 C2 C3 C4 C5 C6 C7 C8 C9 C10 C11 C12 C13 C14 C15 C16 C17 C18 C19 C20 C21 C22 C23 : Addr}
    {od0 an0 od1 an1 od2 an2 od3 an3 od4 an4 od5 an5 od6 an6 od7 an7 od8 an8 od9 an9 od10 an10 od11 an11 od12 an12 od13 an13 od14 an14 od15 an15 od16 an16 od17 an17 od18 an18 od19 an19 od20 an20 od21 an21 od22 an22 od23 an23 od24 an24 od25 an25 od26 an26 od27 an27 od28 an28 od29 an29 od30 an30 od31 an31 od32 an32 od33 an33 od34 an34 od35 an35 od36 an36 od37 an37 od38 an38 od39 an39 : Option Addr}
    {sl0 sl1 sl2 sl3 sl4 sl5 sl6 sl7 sl8 sl9 sl10 sl11 sl12 sl13 sl14 sl15 sl16 sl17 sl18 sl19 sl20 sl21 sl22 sl23 sl24 sl25 sl26 sl27 sl28 sl29 sl30 sl31 sl32 sl33 sl34 sl35 sl36 sl37 sl38 sl39 : Array (Option Value)}
    {oc0 kV0 dc0 pm0 cd0 ct0 oc1 kV1 dc1 pm1 cd1 ct1 oc2 kV2 dc2 pm2 cd2 ct2 oc3 kV3 dc3 pm3 cd3 ct3 oc4 kV4 dc4 pm4 cd4 ct4 oc5 kV5 dc5 pm5 cd5 ct5 oc6 kV6 dc6 pm6 cd6 ct6 oc7 kV7 dc7 pm7 cd7 ct7 oc8 kV8 dc8 pm8 cd8 ct8 oc9 kV9 dc9 pm9 cd9 ct9 oc10 kV10 dc10 pm10 cd10 ct10 oc11 kV11 dc11 pm11 cd11 ct11 oc12 kV12 dc12 pm12 cd12 ct12 oc13 kV13 dc13 pm13 cd13 ct13 oc14 kV14 dc14 pm14 cd14 ct14 oc15 kV15 dc15 pm15 cd15 ct15 oc16 kV16 dc16 pm16 cd16 ct16 oc17 kV17 dc17 pm17 cd17 ct17 oc18 kV18 dc18 pm18 cd18 ct18 oc19 kV19 dc19 pm19 cd19 ct19 oc20 kV20 dc20 pm20 cd20 ct20 oc21 kV21 dc21 pm21 cd21 ct21 oc22 kV22 dc22 pm22 cd22 ct22 oc23 kV23 dc23 pm23 cd23 ct23 oc24 kV24 dc24 pm24 cd24 ct24 oc25 kV25 dc25 pm25 cd25 ct25 oc26 kV26 dc26 pm26 cd26 ct26 oc27 kV27 dc27 pm27 cd27 ct27 oc28 kV28 dc28 pm28 cd28 ct28 oc29 kV29 dc29 pm29 cd29 ct29 oc30 kV30 dc30 pm30 cd30 ct30 oc31 kV31 dc31 pm31 cd31 ct31 oc32 kV32 dc32 pm32 cd32 ct32 oc33 kV33 dc33 pm33 cd33 ct33 oc34 kV34 dc34 pm34 cd34 ct34 oc35 kV35 dc35 pm35 cd35 ct35 oc36 kV36 dc36 pm36 cd36 ct36 oc37 kV37 dc37 pm37 cd37 ct37 oc38 kV38 dc38 pm38 cd38 ct38 oc39 kV39 dc39 pm39 cd39 ct39 : Value}
    {dD_WORDS : Addr} {es_WORDS : Array DictEntry} {nD_WORDS : Nat}
    {tk_MOST_DEEP_formulas tk_MOST_PARTS tk_MOST_FIGURES tk_FIGURES tk_MOST_NESTED tk_MOST_DEEP_trees tk_MOST_KNOTS : Nat}
    (a0 : PySem.W.nsIn K mainGlobals "is_number" = some (some (.ref f0)))
    (l0 : K.lookup f0 = some ⟨oc0, od0, .func (fdOf "is_number" (top 29) kV0 dc0 pm0 an0 cd0 ct0), sl0⟩)
    (c0 : PySem.W.codeIn K cd0 "is_number" = true)
    (k0 : PySem.W.keepIn K (.ref f0) = true)
    (a1 : PySem.W.nsIn K mainGlobals "numbers_fit" = some (some (.ref f1)))
    (l1 : K.lookup f1 = some ⟨oc1, od1, .func (fdOf "numbers_fit" (top 30) kV1 dc1 pm1 an1 cd1 ct1), sl1⟩)
    (c1 : PySem.W.codeIn K cd1 "numbers_fit" = true)
    (k1 : PySem.W.keepIn K (.ref f1) = true)
    (a2 : PySem.W.nsIn K mainGlobals "inner_of" = some (some (.ref f2)))
    (l2 : K.lookup f2 = some ⟨oc2, od2, .func (fdOf "inner_of" (top 31) kV2 dc2 pm2 an2 cd2 ct2), sl2⟩)
    (c2 : PySem.W.codeIn K cd2 "inner_of" = true)
    (k2 : PySem.W.keepIn K (.ref f2) = true)
    (a3 : PySem.W.nsIn K mainGlobals "deep_of" = some (some (.ref f3)))
    (l3 : K.lookup f3 = some ⟨oc3, od3, .func (fdOf "deep_of" (top 32) kV3 dc3 pm3 an3 cd3 ct3), sl3⟩)
    (c3 : PySem.W.codeIn K cd3 "deep_of" = true)
    (k3 : PySem.W.keepIn K (.ref f3) = true)
    (a4 : PySem.W.nsIn K mainGlobals "is_formula" = some (some (.ref f4)))
    (l4 : K.lookup f4 = some ⟨oc4, od4, .func (fdOf "is_formula" (top 33) kV4 dc4 pm4 an4 cd4 ct4), sl4⟩)
    (c4 : PySem.W.codeIn K cd4 "is_formula" = true)
    (k4 : PySem.W.keepIn K (.ref f4) = true)
    (a5 : PySem.W.nsIn K mainGlobals "knots_of" = some (some (.ref f5)))
    (l5 : K.lookup f5 = some ⟨oc5, od5, .func (fdOf "knots_of" (top 37) kV5 dc5 pm5 an5 cd5 ct5), sl5⟩)
    (c5 : PySem.W.codeIn K cd5 "knots_of" = true)
    (k5 : PySem.W.keepIn K (.ref f5) = true)
    (a6 : PySem.W.nsIn K mainGlobals "number_read" = some (some (.ref f6)))
    (l6 : K.lookup f6 = some ⟨oc6, od6, .func (fdOf "number_read" (top 42) kV6 dc6 pm6 an6 cd6 ct6), sl6⟩)
    (c6 : PySem.W.codeIn K cd6 "number_read" = true)
    (k6 : PySem.W.keepIn K (.ref f6) = true)
    (a7 : PySem.W.nsIn K mainGlobals "count_read" = some (some (.ref f7)))
    (l7 : K.lookup f7 = some ⟨oc7, od7, .func (fdOf "count_read" (top 43) kV7 dc7 pm7 an7 cd7 ct7), sl7⟩)
    (c7 : PySem.W.codeIn K cd7 "count_read" = true)
    (k7 : PySem.W.keepIn K (.ref f7) = true)
    (a8 : PySem.W.nsIn K mainGlobals "name_read" = some (some (.ref f8)))
    (l8 : K.lookup f8 = some ⟨oc8, od8, .func (fdOf "name_read" (top 44) kV8 dc8 pm8 an8 cd8 ct8), sl8⟩)
    (c8 : PySem.W.codeIn K cd8 "name_read" = true)
    (k8 : PySem.W.keepIn K (.ref f8) = true)
    (a9 : PySem.W.nsIn K mainGlobals "pieces_of" = some (some (.ref f9)))
    (l9 : K.lookup f9 = some ⟨oc9, od9, .func (fdOf "pieces_of" (top 45) kV9 dc9 pm9 an9 cd9 ct9), sl9⟩)
    (c9 : PySem.W.codeIn K cd9 "pieces_of" = true)
    (k9 : PySem.W.keepIn K (.ref f9) = true)
    (a10 : PySem.W.nsIn K mainGlobals "formula_from" = some (some (.ref f10)))
    (l10 : K.lookup f10 = some ⟨oc10, od10, .func (fdOf "formula_from" (top 46) kV10 dc10 pm10 an10 cd10 ct10), sl10⟩)
    (c10 : PySem.W.codeIn K cd10 "formula_from" = true)
    (k10 : PySem.W.keepIn K (.ref f10) = true)
    (a11 : PySem.W.nsIn K mainGlobals "read_formula" = some (some (.ref f11)))
    (l11 : K.lookup f11 = some ⟨oc11, od11, .func (fdOf "read_formula" (top 47) kV11 dc11 pm11 an11 cd11 ct11), sl11⟩)
    (c11 : PySem.W.codeIn K cd11 "read_formula" = true)
    (k11 : PySem.W.keepIn K (.ref f11) = true)
    (a12 : PySem.W.nsIn K mainGlobals "tree_from" = some (some (.ref f12)))
    (l12 : K.lookup f12 = some ⟨oc12, od12, .func (fdOf "tree_from" (top 48) kV12 dc12 pm12 an12 cd12 ct12), sl12⟩)
    (c12 : PySem.W.codeIn K cd12 "tree_from" = true)
    (k12 : PySem.W.keepIn K (.ref f12) = true)
    (a13 : PySem.W.nsIn K mainGlobals "read_tree" = some (some (.ref f13)))
    (l13 : K.lookup f13 = some ⟨oc13, od13, .func (fdOf "read_tree" (top 49) kV13 dc13 pm13 an13 cd13 ct13), sl13⟩)
    (c13 : PySem.W.codeIn K cd13 "read_tree" = true)
    (k13 : PySem.W.keepIn K (.ref f13) = true)
    (a14 : PySem.W.nsIn K mainGlobals "_law_mixed" = some (some (.ref f14)))
    (l14 : K.lookup f14 = some ⟨oc14, od14, .func (fdOf "_law_mixed" (top 51) kV14 dc14 pm14 an14 cd14 ct14), sl14⟩)
    (c14 : PySem.W.codeIn K cd14 "_law_mixed" = true)
    (k14 : PySem.W.keepIn K (.ref f14) = true)
    (a15 : PySem.W.nsIn K mainGlobals "_law_cell" = some (some (.ref f15)))
    (l15 : K.lookup f15 = some ⟨oc15, od15, .func (fdOf "_law_cell" (top 52) kV15 dc15 pm15 an15 cd15 ct15), sl15⟩)
    (c15 : PySem.W.codeIn K cd15 "_law_cell" = true)
    (k15 : PySem.W.keepIn K (.ref f15) = true)
    (a16 : PySem.W.nsIn K mainGlobals "_law_take" = some (some (.ref f16)))
    (l16 : K.lookup f16 = some ⟨oc16, od16, .func (fdOf "_law_take" (top 53) kV16 dc16 pm16 an16 cd16 ct16), sl16⟩)
    (c16 : PySem.W.codeIn K cd16 "_law_take" = true)
    (k16 : PySem.W.keepIn K (.ref f16) = true)
    (a17 : PySem.W.nsIn K mainGlobals "_law_grown" = some (some (.ref f17)))
    (l17 : K.lookup f17 = some ⟨oc17, od17, .func (fdOf "_law_grown" (top 54) kV17 dc17 pm17 an17 cd17 ct17), sl17⟩)
    (c17 : PySem.W.codeIn K cd17 "_law_grown" = true)
    (k17 : PySem.W.keepIn K (.ref f17) = true)
    (a18 : PySem.W.nsIn K mainGlobals "_law_text" = some (some (.ref f18)))
    (l18 : K.lookup f18 = some ⟨oc18, od18, .func (fdOf "_law_text" (top 55) kV18 dc18 pm18 an18 cd18 ct18), sl18⟩)
    (c18 : PySem.W.codeIn K cd18 "_law_text" = true)
    (k18 : PySem.W.keepIn K (.ref f18) = true)
    (a19 : PySem.W.nsIn K mainGlobals "_law_wood" = some (some (.ref f19)))
    (l19 : K.lookup f19 = some ⟨oc19, od19, .func (fdOf "_law_wood" (top 56) kV19 dc19 pm19 an19 cd19 ct19), sl19⟩)
    (c19 : PySem.W.codeIn K cd19 "_law_wood" = true)
    (k19 : PySem.W.keepIn K (.ref f19) = true)
    (a20 : PySem.W.nsIn K mainGlobals "_law_tree_text" = some (some (.ref f20)))
    (l20 : K.lookup f20 = some ⟨oc20, od20, .func (fdOf "_law_tree_text" (top 57) kV20 dc20 pm20 an20 cd20 ct20), sl20⟩)
    (c20 : PySem.W.codeIn K cd20 "_law_tree_text" = true)
    (k20 : PySem.W.keepIn K (.ref f20) = true)
    (a21 : PySem.W.nsIn K mainGlobals "_law_only" = some (some (.ref f21)))
    (l21 : K.lookup f21 = some ⟨oc21, od21, .func (fdOf "_law_only" (top 58) kV21 dc21 pm21 an21 cd21 ct21), sl21⟩)
    (c21 : PySem.W.codeIn K cd21 "_law_only" = true)
    (k21 : PySem.W.keepIn K (.ref f21) = true)
    (a22 : PySem.W.nsIn K mainGlobals "_law_digits" = some (some (.ref f22)))
    (l22 : K.lookup f22 = some ⟨oc22, od22, .func (fdOf "_law_digits" (top 59) kV22 dc22 pm22 an22 cd22 ct22), sl22⟩)
    (c22 : PySem.W.codeIn K cd22 "_law_digits" = true)
    (k22 : PySem.W.keepIn K (.ref f22) = true)
    (a23 : PySem.W.nsIn K mainGlobals "_law_number_in" = some (some (.ref f23)))
    (l23 : K.lookup f23 = some ⟨oc23, od23, .func (fdOf "_law_number_in" (top 60) kV23 dc23 pm23 an23 cd23 ct23), sl23⟩)
    (c23 : PySem.W.codeIn K cd23 "_law_number_in" = true)
    (k23 : PySem.W.keepIn K (.ref f23) = true)
    (a24 : PySem.W.nsIn K mainGlobals "_law_end" = some (some (.ref f24)))
    (l24 : K.lookup f24 = some ⟨oc24, od24, .func (fdOf "_law_end" (top 61) kV24 dc24 pm24 an24 cd24 ct24), sl24⟩)
    (c24 : PySem.W.codeIn K cd24 "_law_end" = true)
    (k24 : PySem.W.keepIn K (.ref f24) = true)
    (a25 : PySem.W.nsIn K mainGlobals "_law_entries" = some (some (.ref f25)))
    (l25 : K.lookup f25 = some ⟨oc25, od25, .func (fdOf "_law_entries" (top 62) kV25 dc25 pm25 an25 cd25 ct25), sl25⟩)
    (c25 : PySem.W.codeIn K cd25 "_law_entries" = true)
    (k25 : PySem.W.keepIn K (.ref f25) = true)
    (a26 : PySem.W.nsIn K mainGlobals "_law_name_in" = some (some (.ref f26)))
    (l26 : K.lookup f26 = some ⟨oc26, od26, .func (fdOf "_law_name_in" (top 63) kV26 dc26 pm26 an26 cd26 ct26), sl26⟩)
    (c26 : PySem.W.codeIn K cd26 "_law_name_in" = true)
    (k26 : PySem.W.keepIn K (.ref f26) = true)
    (a27 : PySem.W.nsIn K mainGlobals "_law_formula_in" = some (some (.ref f27)))
    (l27 : K.lookup f27 = some ⟨oc27, od27, .func (fdOf "_law_formula_in" (top 64) kV27 dc27 pm27 an27 cd27 ct27), sl27⟩)
    (c27 : PySem.W.codeIn K cd27 "_law_formula_in" = true)
    (k27 : PySem.W.keepIn K (.ref f27) = true)
    (a28 : PySem.W.nsIn K mainGlobals "_law_many" = some (some (.ref f28)))
    (l28 : K.lookup f28 = some ⟨oc28, od28, .func (fdOf "_law_many" (top 65) kV28 dc28 pm28 an28 cd28 ct28), sl28⟩)
    (c28 : PySem.W.codeIn K cd28 "_law_many" = true)
    (k28 : PySem.W.keepIn K (.ref f28) = true)
    (a29 : PySem.W.nsIn K mainGlobals "_law_read_formula" = some (some (.ref f29)))
    (l29 : K.lookup f29 = some ⟨oc29, od29, .func (fdOf "_law_read_formula" (top 66) kV29 dc29 pm29 an29 cd29 ct29), sl29⟩)
    (c29 : PySem.W.codeIn K cd29 "_law_read_formula" = true)
    (k29 : PySem.W.keepIn K (.ref f29) = true)
    (a30 : PySem.W.nsIn K mainGlobals "_law_tree_in" = some (some (.ref f30)))
    (l30 : K.lookup f30 = some ⟨oc30, od30, .func (fdOf "_law_tree_in" (top 67) kV30 dc30 pm30 an30 cd30 ct30), sl30⟩)
    (c30 : PySem.W.codeIn K cd30 "_law_tree_in" = true)
    (k30 : PySem.W.keepIn K (.ref f30) = true)
    (a31 : PySem.W.nsIn K mainGlobals "_law_knots" = some (some (.ref f31)))
    (l31 : K.lookup f31 = some ⟨oc31, od31, .func (fdOf "_law_knots" (top 68) kV31 dc31 pm31 an31 cd31 ct31), sl31⟩)
    (c31 : PySem.W.codeIn K cd31 "_law_knots" = true)
    (k31 : PySem.W.keepIn K (.ref f31) = true)
    (a32 : PySem.W.nsIn K mainGlobals "_law_read_tree" = some (some (.ref f32)))
    (l32 : K.lookup f32 = some ⟨oc32, od32, .func (fdOf "_law_read_tree" (top 69) kV32 dc32 pm32 an32 cd32 ct32), sl32⟩)
    (c32 : PySem.W.codeIn K cd32 "_law_read_tree" = true)
    (k32 : PySem.W.keepIn K (.ref f32) = true)
    (a33 : PySem.W.nsIn K mainGlobals "_law_due" = some (some (.ref f33)))
    (l33 : K.lookup f33 = some ⟨oc33, od33, .func (fdOf "_law_due" (top 70) kV33 dc33 pm33 an33 cd33 ct33), sl33⟩)
    (c33 : PySem.W.codeIn K cd33 "_law_due" = true)
    (k33 : PySem.W.keepIn K (.ref f33) = true)
    (a34 : PySem.W.nsIn K mainGlobals "_law_asked" = some (some (.ref f34)))
    (l34 : K.lookup f34 = some ⟨oc34, od34, .func (fdOf "_law_asked" (top 71) kV34 dc34 pm34 an34 cd34 ct34), sl34⟩)
    (c34 : PySem.W.codeIn K cd34 "_law_asked" = true)
    (k34 : PySem.W.keepIn K (.ref f34) = true)
    (a35 : PySem.W.nsIn K mainGlobals "_law_right" = some (some (.ref f35)))
    (l35 : K.lookup f35 = some ⟨oc35, od35, .func (fdOf "_law_right" (top 72) kV35 dc35 pm35 an35 cd35 ct35), sl35⟩)
    (c35 : PySem.W.codeIn K cd35 "_law_right" = true)
    (k35 : PySem.W.keepIn K (.ref f35) = true)
    (a36 : PySem.W.nsIn K mainGlobals "_law_bent" = some (some (.ref f36)))
    (l36 : K.lookup f36 = some ⟨oc36, od36, .func (fdOf "_law_bent" (top 73) kV36 dc36 pm36 an36 cd36 ct36), sl36⟩)
    (c36 : PySem.W.codeIn K cd36 "_law_bent" = true)
    (k36 : PySem.W.keepIn K (.ref f36) = true)
    (a37 : PySem.W.nsIn K mainGlobals "_law_fixed" = some (some (.ref f37)))
    (l37 : K.lookup f37 = some ⟨oc37, od37, .func (fdOf "_law_fixed" (top 74) kV37 dc37 pm37 an37 cd37 ct37), sl37⟩)
    (c37 : PySem.W.codeIn K cd37 "_law_fixed" = true)
    (k37 : PySem.W.keepIn K (.ref f37) = true)
    (a38 : PySem.W.nsIn K mainGlobals "_law_long_good" = some (some (.ref f38)))
    (l38 : K.lookup f38 = some ⟨oc38, od38, .func (fdOf "_law_long_good" (top 75) kV38 dc38 pm38 an38 cd38 ct38), sl38⟩)
    (c38 : PySem.W.codeIn K cd38 "_law_long_good" = true)
    (k38 : PySem.W.keepIn K (.ref f38) = true)
    (a39 : PySem.W.nsIn K mainGlobals "law" = some (some (.ref f39)))
    (l39 : K.lookup f39 = some ⟨oc39, od39, .func (fdOf "law" (top 76) kV39 dc39 pm39 an39 cd39 ct39), sl39⟩)
    (c39 : PySem.W.codeIn K cd39 "law" = true)
    (k39 : PySem.W.keepIn K (.ref f39) = true)
    (n_WORDS : PySem.W.nsIn K mainGlobals "WORDS" = some (some (.ref dD_WORDS)))
    (l_WORDS : K.lookup dD_WORDS = some ⟨.type "dict", none, .dict es_WORDS nD_WORDS, #[]⟩)
    (kl_WORDS : PySem.W.KeysLit w.params es_WORDS.toList)
    (tb_WORDS : TabOk es_WORDS.toList tab_WORDS)
    (lo_WORDS : (dD_WORDS == sysModules) = false)
    (z_ValueError : PySem.W.nsIn K mainGlobals "ValueError" = some none)
    (z_abs : PySem.W.nsIn K mainGlobals "abs" = some none)
    (z_all : PySem.W.nsIn K mainGlobals "all" = some none)
    (z_bool : PySem.W.nsIn K mainGlobals "bool" = some none)
    (z_int : PySem.W.nsIn K mainGlobals "int" = some none)
    (z_isinstance : PySem.W.nsIn K mainGlobals "isinstance" = some none)
    (z_len : PySem.W.nsIn K mainGlobals "len" = some none)
    (z_max : PySem.W.nsIn K mainGlobals "max" = some none)
    (z_range : PySem.W.nsIn K mainGlobals "range" = some none)
    (z_str : PySem.W.nsIn K mainGlobals "str" = some none)
    (z_sum : PySem.W.nsIn K mainGlobals "sum" = some none)
    (z_tuple : PySem.W.nsIn K mainGlobals "tuple" = some none)
    (v_MOST_DEEP_formulas : PySem.W.nsIn K mainGlobals "MOST_DEEP_formulas" = some (some (.int 4 tk_MOST_DEEP_formulas)))
    (v_MOST_PARTS : PySem.W.nsIn K mainGlobals "MOST_PARTS" = some (some (.int 15 tk_MOST_PARTS)))
    (v_MOST_FIGURES : PySem.W.nsIn K mainGlobals "MOST_FIGURES" = some (some (.int 40 tk_MOST_FIGURES)))
    (v_FIGURES : PySem.W.nsIn K mainGlobals "FIGURES" = some (some (.str "0123456789" tk_FIGURES)))
    (v_MOST_NESTED : PySem.W.nsIn K mainGlobals "MOST_NESTED" = some (some (.int 40 tk_MOST_NESTED)))
    (v_MOST_DEEP_trees : PySem.W.nsIn K mainGlobals "MOST_DEEP_trees" = some (some (.int 30 tk_MOST_DEEP_trees)))
    (v_MOST_KNOTS : PySem.W.nsIn K mainGlobals "MOST_KNOTS" = some (some (.int 60 tk_MOST_KNOTS)))
    (n_BookError : PySem.W.nsIn K mainGlobals "BookError" = some (some (.ref C0)))
    (n_NoFormula : PySem.W.nsIn K mainGlobals "NoFormula" = some (some (.ref C1)))
    (n_NoWorth : PySem.W.nsIn K mainGlobals "NoWorth" = some (some (.ref C2)))
    (n_NoBook : PySem.W.nsIn K mainGlobals "NoBook" = some (some (.ref C3)))
    (n_NoRule : PySem.W.nsIn K mainGlobals "NoRule" = some (some (.ref C4)))
    (n_NoName : PySem.W.nsIn K mainGlobals "NoName" = some (some (.ref C5)))
    (n_NoSign : PySem.W.nsIn K mainGlobals "NoSign" = some (some (.ref C6)))
    (n_NoTree : PySem.W.nsIn K mainGlobals "NoTree" = some (some (.ref C7)))
    (n_NoPath : PySem.W.nsIn K mainGlobals "NoPath" = some (some (.ref C8)))
    (n_NoGiven : PySem.W.nsIn K mainGlobals "NoGiven" = some (some (.ref C9)))
    (n_NoGraph : PySem.W.nsIn K mainGlobals "NoGraph" = some (some (.ref C10)))
    (n_NoNeed : PySem.W.nsIn K mainGlobals "NoNeed" = some (some (.ref C11)))
    (n_NoVisits : PySem.W.nsIn K mainGlobals "NoVisits" = some (some (.ref C12)))
    (n_NoBridge : PySem.W.nsIn K mainGlobals "NoBridge" = some (some (.ref C13)))
    (n_NoJoin : PySem.W.nsIn K mainGlobals "NoJoin" = some (some (.ref C14)))
    (n_OtherShape : PySem.W.nsIn K mainGlobals "OtherShape" = some (some (.ref C15)))
    (n_NoPlan : PySem.W.nsIn K mainGlobals "NoPlan" = some (some (.ref C16)))
    (n_NoText : PySem.W.nsIn K mainGlobals "NoText" = some (some (.ref C17)))
    (n_NoLine : PySem.W.nsIn K mainGlobals "NoLine" = some (some (.ref C18)))
    (n_TooMany : PySem.W.nsIn K mainGlobals "TooMany" = some (some (.ref C19)))
    (n_HasRing : PySem.W.nsIn K mainGlobals "HasRing" = some (some (.ref C20)))
    (n_UnitedRing : PySem.W.nsIn K mainGlobals "UnitedRing" = some (some (.ref C21)))
    (n_NoOrder : PySem.W.nsIn K mainGlobals "NoOrder" = some (some (.ref C22)))
    (n_NotFit : PySem.W.nsIn K mainGlobals "NotFit" = some (some (.ref C23)))
    (q_NoText : PySem.W.excIn K C17 [.type "ValueError", .type "Exception", .type "BaseException", .type "object"] "ValueError.__new__" = true)
    (kc_NoText : PySem.W.keepIn K (.ref C17) = true)
    (s_NoText : PySem.W.subIn K (.ref C17) (.type "BaseException") = some true)
    (t_NoText : PySem.W.typeIn K (.ref C17) = some (.type "type"))
    (hg_NoText : PySem.W.findIn K (.ref C17) "__getattribute__" = some (some (.builtin "BaseException.__getattribute__")))
    (hk_NoText : PySem.W.findIn K (.ref C17) "__getattr__" = some none)
    (hd_NoText : PySem.W.hasDictIn K C17 = true)
    (ha_NoText : PySem.W.findIn K (.ref C17) "__class__" = some (some (.builtin "object.__class__")))
    (hm_NoText : PySem.W.mroIn K C17 (.type "object") = some true)
    (i_NoText_BookError : PySem.W.subIn K (.ref C17) (.ref C0) = some true)
    (i_NoText_ValueError : PySem.W.subIn K (.ref C17) (.type "ValueError") = some true)
    (i_NoText_NoFormula : PySem.W.subIn K (.ref C17) (.ref C1) = some false)
    (i_NoText_NoWorth : PySem.W.subIn K (.ref C17) (.ref C2) = some false)
    (i_NoText_NoBook : PySem.W.subIn K (.ref C17) (.ref C3) = some false)
    (i_NoText_NoRule : PySem.W.subIn K (.ref C17) (.ref C4) = some false)
    (i_NoText_NoName : PySem.W.subIn K (.ref C17) (.ref C5) = some false)
    (i_NoText_NoSign : PySem.W.subIn K (.ref C17) (.ref C6) = some false)
    (i_NoText_NoTree : PySem.W.subIn K (.ref C17) (.ref C7) = some false)
    (i_NoText_NoPath : PySem.W.subIn K (.ref C17) (.ref C8) = some false)
    (i_NoText_NoGiven : PySem.W.subIn K (.ref C17) (.ref C9) = some false)
    (i_NoText_NoGraph : PySem.W.subIn K (.ref C17) (.ref C10) = some false)
    (i_NoText_NoNeed : PySem.W.subIn K (.ref C17) (.ref C11) = some false)
    (i_NoText_NoVisits : PySem.W.subIn K (.ref C17) (.ref C12) = some false)
    (i_NoText_NoPlan : PySem.W.subIn K (.ref C17) (.ref C16) = some false)
    (i_NoText_NoJoin : PySem.W.subIn K (.ref C17) (.ref C14) = some false)
    (i_NoText_NoText : PySem.W.subIn K (.ref C17) (.ref C17) = some true)
    (i_NoText_NoLine : PySem.W.subIn K (.ref C17) (.ref C18) = some false)
    (i_NoText_TooMany : PySem.W.subIn K (.ref C17) (.ref C19) = some false)
    (i_NoText_HasRing : PySem.W.subIn K (.ref C17) (.ref C20) = some false)
    (i_NoText_NoBridge : PySem.W.subIn K (.ref C17) (.ref C13) = some false)
    (i_NoText_UnitedRing : PySem.W.subIn K (.ref C17) (.ref C21) = some false)
    (i_NoText_NoOrder : PySem.W.subIn K (.ref C17) (.ref C22) = some false)
    (i_NoText_OtherShape : PySem.W.subIn K (.ref C17) (.ref C15) = some false)
    (i_NoText_NotFit : PySem.W.subIn K (.ref C17) (.ref C23) = some false)
    (self_NoText : PySem.W.subIn K (.ref C17) (.ref C17) = some true)
    (hn_ : PySem.W.specialIn K (.builtin "object.__class__") "__get__" = some (some (.builtin "getset_descriptor.__get__")))
    (ht_ : PySem.W.takesIn K (.builtin "object.__class__") = some true)
    (d_BookError : PySem.W.hasDictIn K C0 = true)
    (ty_BookError : PySem.W.typeIn K (.ref C0) = some (.type "type"))
    (d_NoFormula : PySem.W.hasDictIn K C1 = true)
    (ty_NoFormula : PySem.W.typeIn K (.ref C1) = some (.type "type"))
    (d_NoWorth : PySem.W.hasDictIn K C2 = true)
    (ty_NoWorth : PySem.W.typeIn K (.ref C2) = some (.type "type"))
    (d_NoBook : PySem.W.hasDictIn K C3 = true)
    (ty_NoBook : PySem.W.typeIn K (.ref C3) = some (.type "type"))
    (d_NoRule : PySem.W.hasDictIn K C4 = true)
    (ty_NoRule : PySem.W.typeIn K (.ref C4) = some (.type "type"))
    (d_NoName : PySem.W.hasDictIn K C5 = true)
    (ty_NoName : PySem.W.typeIn K (.ref C5) = some (.type "type"))
    (d_NoSign : PySem.W.hasDictIn K C6 = true)
    (ty_NoSign : PySem.W.typeIn K (.ref C6) = some (.type "type"))
    (d_NoTree : PySem.W.hasDictIn K C7 = true)
    (ty_NoTree : PySem.W.typeIn K (.ref C7) = some (.type "type"))
    (d_NoPath : PySem.W.hasDictIn K C8 = true)
    (ty_NoPath : PySem.W.typeIn K (.ref C8) = some (.type "type"))
    (d_NoGiven : PySem.W.hasDictIn K C9 = true)
    (ty_NoGiven : PySem.W.typeIn K (.ref C9) = some (.type "type"))
    (d_NoGraph : PySem.W.hasDictIn K C10 = true)
    (ty_NoGraph : PySem.W.typeIn K (.ref C10) = some (.type "type"))
    (d_NoNeed : PySem.W.hasDictIn K C11 = true)
    (ty_NoNeed : PySem.W.typeIn K (.ref C11) = some (.type "type"))
    (d_NoVisits : PySem.W.hasDictIn K C12 = true)
    (ty_NoVisits : PySem.W.typeIn K (.ref C12) = some (.type "type"))
    (d_NoBridge : PySem.W.hasDictIn K C13 = true)
    (ty_NoBridge : PySem.W.typeIn K (.ref C13) = some (.type "type"))
    (d_NoJoin : PySem.W.hasDictIn K C14 = true)
    (ty_NoJoin : PySem.W.typeIn K (.ref C14) = some (.type "type"))
    (d_OtherShape : PySem.W.hasDictIn K C15 = true)
    (ty_OtherShape : PySem.W.typeIn K (.ref C15) = some (.type "type"))
    (d_NoPlan : PySem.W.hasDictIn K C16 = true)
    (ty_NoPlan : PySem.W.typeIn K (.ref C16) = some (.type "type"))
    (d_NoText : PySem.W.hasDictIn K C17 = true)
    (ty_NoText : PySem.W.typeIn K (.ref C17) = some (.type "type"))
    (d_NoLine : PySem.W.hasDictIn K C18 = true)
    (ty_NoLine : PySem.W.typeIn K (.ref C18) = some (.type "type"))
    (d_TooMany : PySem.W.hasDictIn K C19 = true)
    (ty_TooMany : PySem.W.typeIn K (.ref C19) = some (.type "type"))
    (d_HasRing : PySem.W.hasDictIn K C20 = true)
    (ty_HasRing : PySem.W.typeIn K (.ref C20) = some (.type "type"))
    (d_UnitedRing : PySem.W.hasDictIn K C21 = true)
    (ty_UnitedRing : PySem.W.typeIn K (.ref C21) = some (.type "type"))
    (d_NoOrder : PySem.W.hasDictIn K C22 = true)
    (ty_NoOrder : PySem.W.typeIn K (.ref C22) = some (.type "type"))
    (d_NotFit : PySem.W.hasDictIn K C23 = true)
    (ty_NotFit : PySem.W.typeIn K (.ref C23) = some (.type "type"))
    (sb_BookError : PySem.W.subIn K (.ref C0) (.type "BaseException") = some true)
    (e_NoText_BookError : PySem.W.subIn K (.ref C17) (.ref C0) = some true)
    : ∃ fd : FuncData, (∀ (s : Shared) (v : Value), BindsTo s fd ⟨[v], []⟩ [("_law_script", v)]) ∧ ∀ base : Heap, K.In base → base.Ns mainGlobals mg → FnG l.prog w K mg base 64 fa fd ["_law_script"] (spLaw 63 K) := by
  have e := hfa.symm.trans (PySem.W.mg_of KX G a39)
  have e := (PySem.Value.ref.inj (Option.some.inj e)).symm
  subst e
  refine ⟨fdOf "law" (top 76) kV39 dc39 pm39 an39 cd39 ct39, fun s v => .of_eq rfl, fun base _ _ => ?_⟩
  have F0 := fun_mk (st := top 29) l0 c0 k0
  have b0 := F0.binds (ps := psOf 0) fun _ _ _ _ _ _ us hl => match us, hl with | [_], _ => rfl
  have F1 := fun_mk (st := top 30) l1 c1 k1
  have b1 := F1.binds (ps := psOf 1) fun _ _ _ _ _ _ us hl => match us, hl with | [_], _ => rfl
  have F2 := fun_mk (st := top 31) l2 c2 k2
  have b2 := F2.binds (ps := psOf 2) fun _ _ _ _ _ _ us hl => match us, hl with | [_], _ => rfl
  have F3 := fun_mk (st := top 32) l3 c3 k3
  have b3 := F3.binds (ps := psOf 3) fun _ _ _ _ _ _ us hl => match us, hl with | [_, _], _ => rfl
  have F4 := fun_mk (st := top 33) l4 c4 k4
  have b4 := F4.binds (ps := psOf 4) fun _ _ _ _ _ _ us hl => match us, hl with | [_], _ => rfl
  have F5 := fun_mk (st := top 37) l5 c5 k5
  have b5 := F5.binds (ps := psOf 5) fun _ _ _ _ _ _ us hl => match us, hl with | [_], _ => rfl
  have F6 := fun_mk (st := top 42) l6 c6 k6
  have b6 := F6.binds (ps := psOf 6) fun _ _ _ _ _ _ us hl => match us, hl with | [_], _ => rfl
  have F7 := fun_mk (st := top 43) l7 c7 k7
  have b7 := F7.binds (ps := psOf 7) fun _ _ _ _ _ _ us hl => match us, hl with | [_], _ => rfl
  have F8 := fun_mk (st := top 44) l8 c8 k8
  have b8 := F8.binds (ps := psOf 8) fun _ _ _ _ _ _ us hl => match us, hl with | [_], _ => rfl
  have F9 := fun_mk (st := top 45) l9 c9 k9
  have b9 := F9.binds (ps := psOf 9) fun _ _ _ _ _ _ us hl => match us, hl with | [_], _ => rfl
  have F10 := fun_mk (st := top 46) l10 c10 k10
  have b10 := F10.binds (ps := psOf 10) fun _ _ _ _ _ _ us hl => match us, hl with | [_, _], _ => rfl
  have F11 := fun_mk (st := top 47) l11 c11 k11
  have b11 := F11.binds (ps := psOf 11) fun _ _ _ _ _ _ us hl => match us, hl with | [_], _ => rfl
  have F12 := fun_mk (st := top 48) l12 c12 k12
  have b12 := F12.binds (ps := psOf 12) fun _ _ _ _ _ _ us hl => match us, hl with | [_, _, _], _ => rfl
  have F13 := fun_mk (st := top 49) l13 c13 k13
  have b13 := F13.binds (ps := psOf 13) fun _ _ _ _ _ _ us hl => match us, hl with | [_], _ => rfl
  have F14 := fun_mk (st := top 51) l14 c14 k14
  have b14 := F14.binds (ps := psOf 14) fun _ _ _ _ _ _ us hl => match us, hl with | [_, _], _ => rfl
  have F15 := fun_mk (st := top 52) l15 c15 k15
  have b15 := F15.binds (ps := psOf 15) fun _ _ _ _ _ _ us hl => match us, hl with | [_, _], _ => rfl
  have F16 := fun_mk (st := top 53) l16 c16 k16
  have b16 := F16.binds (ps := psOf 16) fun _ _ _ _ _ _ us hl => match us, hl with | [_, _], _ => rfl
  have F17 := fun_mk (st := top 54) l17 c17 k17
  have b17 := F17.binds (ps := psOf 17) fun _ _ _ _ _ _ us hl => match us, hl with | [_, _, _, _], _ => rfl
  have F18 := fun_mk (st := top 55) l18 c18 k18
  have b18 := F18.binds (ps := psOf 18) fun _ _ _ _ _ _ us hl => match us, hl with | [_], _ => rfl
  have F19 := fun_mk (st := top 56) l19 c19 k19
  have b19 := F19.binds (ps := psOf 19) fun _ _ _ _ _ _ us hl => match us, hl with | [_, _, _], _ => rfl
  have F20 := fun_mk (st := top 57) l20 c20 k20
  have b20 := F20.binds (ps := psOf 20) fun _ _ _ _ _ _ us hl => match us, hl with | [_], _ => rfl
  have F21 := fun_mk (st := top 58) l21 c21 k21
  have b21 := F21.binds (ps := psOf 21) fun _ _ _ _ _ _ us hl => match us, hl with | [_, _], _ => rfl
  have F22 := fun_mk (st := top 59) l22 c22 k22
  have b22 := F22.binds (ps := psOf 22) fun _ _ _ _ _ _ us hl => match us, hl with | [_], _ => rfl
  have F23 := fun_mk (st := top 60) l23 c23 k23
  have b23 := F23.binds (ps := psOf 23) fun _ _ _ _ _ _ us hl => match us, hl with | [_], _ => rfl
  have F24 := fun_mk (st := top 61) l24 c24 k24
  have b24 := F24.binds (ps := psOf 24) fun _ _ _ _ _ _ us hl => match us, hl with | [_, _], _ => rfl
  have F25 := fun_mk (st := top 62) l25 c25 k25
  have b25 := F25.binds (ps := psOf 25) fun _ _ _ _ _ _ us hl => match us, hl with | [_], _ => rfl
  have F26 := fun_mk (st := top 63) l26 c26 k26
  have b26 := F26.binds (ps := psOf 26) fun _ _ _ _ _ _ us hl => match us, hl with | [_], _ => rfl
  have F27 := fun_mk (st := top 64) l27 c27 k27
  have b27 := F27.binds (ps := psOf 27) fun _ _ _ _ _ _ us hl => match us, hl with | [_, _], _ => rfl
  have F28 := fun_mk (st := top 65) l28 c28 k28
  have b28 := F28.binds (ps := psOf 28) fun _ _ _ _ _ _ us hl => match us, hl with | [_], _ => rfl
  have F29 := fun_mk (st := top 66) l29 c29 k29
  have b29 := F29.binds (ps := psOf 29) fun _ _ _ _ _ _ us hl => match us, hl with | [_], _ => rfl
  have F30 := fun_mk (st := top 67) l30 c30 k30
  have b30 := F30.binds (ps := psOf 30) fun _ _ _ _ _ _ us hl => match us, hl with | [_, _, _], _ => rfl
  have F31 := fun_mk (st := top 68) l31 c31 k31
  have b31 := F31.binds (ps := psOf 31) fun _ _ _ _ _ _ us hl => match us, hl with | [_], _ => rfl
  have F32 := fun_mk (st := top 69) l32 c32 k32
  have b32 := F32.binds (ps := psOf 32) fun _ _ _ _ _ _ us hl => match us, hl with | [_], _ => rfl
  have F33 := fun_mk (st := top 70) l33 c33 k33
  have b33 := F33.binds (ps := psOf 33) fun _ _ _ _ _ _ us hl => match us, hl with | [_, _], _ => rfl
  have F34 := fun_mk (st := top 71) l34 c34 k34
  have b34 := F34.binds (ps := psOf 34) fun _ _ _ _ _ _ us hl => match us, hl with | [_, _], _ => rfl
  have F35 := fun_mk (st := top 72) l35 c35 k35
  have b35 := F35.binds (ps := psOf 35) fun _ _ _ _ _ _ us hl => match us, hl with | [_, _], _ => rfl
  have F36 := fun_mk (st := top 73) l36 c36 k36
  have b36 := F36.binds (ps := psOf 36) fun _ _ _ _ _ _ us hl => match us, hl with | [_, _], _ => rfl
  have F37 := fun_mk (st := top 74) l37 c37 k37
  have b37 := F37.binds (ps := psOf 37) fun _ _ _ _ _ _ us hl => match us, hl with | [_], _ => rfl
  have F38 := fun_mk (st := top 75) l38 c38 k38
  have b38 := F38.binds (ps := psOf 38) fun _ _ _ _ _ _ us hl => match us, hl with | [], _ => rfl
  have F39 := fun_mk (st := top 76) l39 c39 k39
  have b39 := F39.binds (ps := psOf 39) fun _ _ _ _ _ _ us hl => match us, hl with | [_], _ => rfl
  have ec_NoText : ExcC K C17 := ⟨hg_NoText, hk_NoText, s_NoText, hd_NoText, ha_NoText, hn_, ht_, hm_NoText⟩
  let cl : Nat → Addr := fun n => match n with | 0 => C0 | 1 => C1 | 2 => C2 | 3 => C3 | 4 => C4 | 5 => C5 | 6 => C6 | 7 => C7 | 8 => C8 | 9 => C9 | 10 => C10 | 11 => C11 | 12 => C12 | 13 => C13 | 14 => C14 | 15 => C15 | 16 => C16 | 17 => C17 | 18 => C18 | 19 => C19 | 20 => C20 | 21 => C21 | 22 => C22 | 23 => C23 | _ => f0
  let fs : Nat → Addr := fun n => match n with | 0 => f0 | 1 => f1 | 2 => f2 | 3 => f3 | 4 => f4 | 5 => f5 | 6 => f6 | 7 => f7 | 8 => f8 | 9 => f9 | 10 => f10 | 11 => f11 | 12 => f12 | 13 => f13 | 14 => f14 | 15 => f15 | 16 => f16 | 17 => f17 | 18 => f18 | 19 => f19 | 20 => f20 | 21 => f21 | 22 => f22 | 23 => f23 | 24 => f24 | 25 => f25 | 26 => f26 | 27 => f27 | 28 => f28 | 29 => f29 | 30 => f30 | 31 => f31 | 32 => f32 | 33 => f33 | 34 => f34 | 35 => f35 | 36 => f36 | 37 => f37 | 38 => f38 | 39 => f39 | _ => f0
  let ds : Nat → FuncData := fun n => match n with | 0 => fdOf "is_number" (top 29) kV0 dc0 pm0 an0 cd0 ct0 | 1 => fdOf "numbers_fit" (top 30) kV1 dc1 pm1 an1 cd1 ct1 | 2 => fdOf "inner_of" (top 31) kV2 dc2 pm2 an2 cd2 ct2 | 3 => fdOf "deep_of" (top 32) kV3 dc3 pm3 an3 cd3 ct3 | 4 => fdOf "is_formula" (top 33) kV4 dc4 pm4 an4 cd4 ct4 | 5 => fdOf "knots_of" (top 37) kV5 dc5 pm5 an5 cd5 ct5 | 6 => fdOf "number_read" (top 42) kV6 dc6 pm6 an6 cd6 ct6 | 7 => fdOf "count_read" (top 43) kV7 dc7 pm7 an7 cd7 ct7 | 8 => fdOf "name_read" (top 44) kV8 dc8 pm8 an8 cd8 ct8 | 9 => fdOf "pieces_of" (top 45) kV9 dc9 pm9 an9 cd9 ct9 | 10 => fdOf "formula_from" (top 46) kV10 dc10 pm10 an10 cd10 ct10 | 11 => fdOf "read_formula" (top 47) kV11 dc11 pm11 an11 cd11 ct11 | 12 => fdOf "tree_from" (top 48) kV12 dc12 pm12 an12 cd12 ct12 | 13 => fdOf "read_tree" (top 49) kV13 dc13 pm13 an13 cd13 ct13 | 14 => fdOf "_law_mixed" (top 51) kV14 dc14 pm14 an14 cd14 ct14 | 15 => fdOf "_law_cell" (top 52) kV15 dc15 pm15 an15 cd15 ct15 | 16 => fdOf "_law_take" (top 53) kV16 dc16 pm16 an16 cd16 ct16 | 17 => fdOf "_law_grown" (top 54) kV17 dc17 pm17 an17 cd17 ct17 | 18 => fdOf "_law_text" (top 55) kV18 dc18 pm18 an18 cd18 ct18 | 19 => fdOf "_law_wood" (top 56) kV19 dc19 pm19 an19 cd19 ct19 | 20 => fdOf "_law_tree_text" (top 57) kV20 dc20 pm20 an20 cd20 ct20 | 21 => fdOf "_law_only" (top 58) kV21 dc21 pm21 an21 cd21 ct21 | 22 => fdOf "_law_digits" (top 59) kV22 dc22 pm22 an22 cd22 ct22 | 23 => fdOf "_law_number_in" (top 60) kV23 dc23 pm23 an23 cd23 ct23 | 24 => fdOf "_law_end" (top 61) kV24 dc24 pm24 an24 cd24 ct24 | 25 => fdOf "_law_entries" (top 62) kV25 dc25 pm25 an25 cd25 ct25 | 26 => fdOf "_law_name_in" (top 63) kV26 dc26 pm26 an26 cd26 ct26 | 27 => fdOf "_law_formula_in" (top 64) kV27 dc27 pm27 an27 cd27 ct27 | 28 => fdOf "_law_many" (top 65) kV28 dc28 pm28 an28 cd28 ct28 | 29 => fdOf "_law_read_formula" (top 66) kV29 dc29 pm29 an29 cd29 ct29 | 30 => fdOf "_law_tree_in" (top 67) kV30 dc30 pm30 an30 cd30 ct30 | 31 => fdOf "_law_knots" (top 68) kV31 dc31 pm31 an31 cd31 ct31 | 32 => fdOf "_law_read_tree" (top 69) kV32 dc32 pm32 an32 cd32 ct32 | 33 => fdOf "_law_due" (top 70) kV33 dc33 pm33 an33 cd33 ct33 | 34 => fdOf "_law_asked" (top 71) kV34 dc34 pm34 an34 cd34 ct34 | 35 => fdOf "_law_right" (top 72) kV35 dc35 pm35 an35 cd35 ct35 | 36 => fdOf "_law_bent" (top 73) kV36 dc36 pm36 an36 cd36 ct36 | 37 => fdOf "_law_fixed" (top 74) kV37 dc37 pm37 an37 cd37 ct37 | 38 => fdOf "_law_long_good" (top 75) kV38 dc38 pm38 an38 cd38 ct38 | 39 => fdOf "law" (top 76) kV39 dc39 pm39 an39 cd39 ct39 | _ => fdOf "is_number" (top 29) kV0 dc0 pm0 an0 cd0 ct0
  let dd : Nat → Addr := fun n => match n with | 0 => dD_WORDS | _ => f0
  have F : Facts K w mg cl fs dd ds := {
    f0 := F0, b0 := b0, m0 := PySem.W.mg_of KX G a0
    f1 := F1, b1 := b1, m1 := PySem.W.mg_of KX G a1
    f2 := F2, b2 := b2, m2 := PySem.W.mg_of KX G a2
    f3 := F3, b3 := b3, m3 := PySem.W.mg_of KX G a3
    f4 := F4, b4 := b4, m4 := PySem.W.mg_of KX G a4
    f5 := F5, b5 := b5, m5 := PySem.W.mg_of KX G a5
    f6 := F6, b6 := b6, m6 := PySem.W.mg_of KX G a6
    f7 := F7, b7 := b7, m7 := PySem.W.mg_of KX G a7
    f8 := F8, b8 := b8, m8 := PySem.W.mg_of KX G a8
    f9 := F9, b9 := b9, m9 := PySem.W.mg_of KX G a9
    f10 := F10, b10 := b10, m10 := PySem.W.mg_of KX G a10
    f11 := F11, b11 := b11, m11 := PySem.W.mg_of KX G a11
    f12 := F12, b12 := b12, m12 := PySem.W.mg_of KX G a12
    f13 := F13, b13 := b13, m13 := PySem.W.mg_of KX G a13
    f14 := F14, b14 := b14, m14 := PySem.W.mg_of KX G a14
    f15 := F15, b15 := b15, m15 := PySem.W.mg_of KX G a15
    f16 := F16, b16 := b16, m16 := PySem.W.mg_of KX G a16
    f17 := F17, b17 := b17, m17 := PySem.W.mg_of KX G a17
    f18 := F18, b18 := b18, m18 := PySem.W.mg_of KX G a18
    f19 := F19, b19 := b19, m19 := PySem.W.mg_of KX G a19
    f20 := F20, b20 := b20, m20 := PySem.W.mg_of KX G a20
    f21 := F21, b21 := b21, m21 := PySem.W.mg_of KX G a21
    f22 := F22, b22 := b22, m22 := PySem.W.mg_of KX G a22
    f23 := F23, b23 := b23, m23 := PySem.W.mg_of KX G a23
    f24 := F24, b24 := b24, m24 := PySem.W.mg_of KX G a24
    f25 := F25, b25 := b25, m25 := PySem.W.mg_of KX G a25
    f26 := F26, b26 := b26, m26 := PySem.W.mg_of KX G a26
    f27 := F27, b27 := b27, m27 := PySem.W.mg_of KX G a27
    f28 := F28, b28 := b28, m28 := PySem.W.mg_of KX G a28
    f29 := F29, b29 := b29, m29 := PySem.W.mg_of KX G a29
    f30 := F30, b30 := b30, m30 := PySem.W.mg_of KX G a30
    f31 := F31, b31 := b31, m31 := PySem.W.mg_of KX G a31
    f32 := F32, b32 := b32, m32 := PySem.W.mg_of KX G a32
    f33 := F33, b33 := b33, m33 := PySem.W.mg_of KX G a33
    f34 := F34, b34 := b34, m34 := PySem.W.mg_of KX G a34
    f35 := F35, b35 := b35, m35 := PySem.W.mg_of KX G a35
    f36 := F36, b36 := b36, m36 := PySem.W.mg_of KX G a36
    f37 := F37, b37 := b37, m37 := PySem.W.mg_of KX G a37
    f38 := F38, b38 := b38, m38 := PySem.W.mg_of KX G a38
    f39 := F39, b39 := b39, m39 := PySem.W.mg_of KX G a39
    g_ValueError := PySem.W.mg_none_of KX G z_ValueError
    g_abs := PySem.W.mg_none_of KX G z_abs
    g_all := PySem.W.mg_none_of KX G z_all
    g_bool := PySem.W.mg_none_of KX G z_bool
    g_int := PySem.W.mg_none_of KX G z_int
    g_isinstance := PySem.W.mg_none_of KX G z_isinstance
    g_len := PySem.W.mg_none_of KX G z_len
    g_max := PySem.W.mg_none_of KX G z_max
    g_range := PySem.W.mg_none_of KX G z_range
    g_str := PySem.W.mg_none_of KX G z_str
    g_sum := PySem.W.mg_none_of KX G z_sum
    g_tuple := PySem.W.mg_none_of KX G z_tuple
    k_MOST_DEEP_formulas := ⟨_, PySem.W.mg_of KX G v_MOST_DEEP_formulas⟩
    k_MOST_PARTS := ⟨_, PySem.W.mg_of KX G v_MOST_PARTS⟩
    k_MOST_FIGURES := ⟨_, PySem.W.mg_of KX G v_MOST_FIGURES⟩
    k_FIGURES := ⟨_, PySem.W.mg_of KX G v_FIGURES⟩
    k_MOST_NESTED := ⟨_, PySem.W.mg_of KX G v_MOST_NESTED⟩
    k_MOST_DEEP_trees := ⟨_, PySem.W.mg_of KX G v_MOST_DEEP_trees⟩
    k_MOST_KNOTS := ⟨_, PySem.W.mg_of KX G v_MOST_KNOTS⟩
    n_WORDS := PySem.W.mg_of KX G n_WORDS, d_WORDS := ⟨_, _, ⟨l_WORDS, kl_WORDS, lo_WORDS⟩, tb_WORDS⟩
    x_NoText := ⟨q_NoText, PySem.W.mg_of KX G n_NoText, kc_NoText, s_NoText, t_NoText⟩
    n_BookError := PySem.W.mg_of KX G n_BookError
    e_BookError := fun c y hy => by
      unfold isx_BookError at hy
      split at hy
      · cases hy; exact ⟨ec_NoText, kit_ref self_NoText d_BookError ty_BookError i_NoText_BookError⟩
      · cases hy
    e_ValueError := fun c y hy => by
      unfold isx_ValueError at hy
      split at hy
      · cases hy; exact ⟨ec_NoText, kit_val (by decide +kernel) i_NoText_ValueError⟩
      · cases hy
    n_NoFormula := PySem.W.mg_of KX G n_NoFormula
    e_NoFormula := fun c y hy => by
      unfold isx_NoFormula at hy
      split at hy
      · cases hy; exact ⟨ec_NoText, kit_ref self_NoText d_NoFormula ty_NoFormula i_NoText_NoFormula⟩
      · cases hy
    n_NoWorth := PySem.W.mg_of KX G n_NoWorth
    e_NoWorth := fun c y hy => by
      unfold isx_NoWorth at hy
      split at hy
      · cases hy; exact ⟨ec_NoText, kit_ref self_NoText d_NoWorth ty_NoWorth i_NoText_NoWorth⟩
      · cases hy
    n_NoBook := PySem.W.mg_of KX G n_NoBook
    e_NoBook := fun c y hy => by
      unfold isx_NoBook at hy
      split at hy
      · cases hy; exact ⟨ec_NoText, kit_ref self_NoText d_NoBook ty_NoBook i_NoText_NoBook⟩
      · cases hy
    n_NoRule := PySem.W.mg_of KX G n_NoRule
    e_NoRule := fun c y hy => by
      unfold isx_NoRule at hy
      split at hy
      · cases hy; exact ⟨ec_NoText, kit_ref self_NoText d_NoRule ty_NoRule i_NoText_NoRule⟩
      · cases hy
    n_NoName := PySem.W.mg_of KX G n_NoName
    e_NoName := fun c y hy => by
      unfold isx_NoName at hy
      split at hy
      · cases hy; exact ⟨ec_NoText, kit_ref self_NoText d_NoName ty_NoName i_NoText_NoName⟩
      · cases hy
    n_NoSign := PySem.W.mg_of KX G n_NoSign
    e_NoSign := fun c y hy => by
      unfold isx_NoSign at hy
      split at hy
      · cases hy; exact ⟨ec_NoText, kit_ref self_NoText d_NoSign ty_NoSign i_NoText_NoSign⟩
      · cases hy
    n_NoTree := PySem.W.mg_of KX G n_NoTree
    e_NoTree := fun c y hy => by
      unfold isx_NoTree at hy
      split at hy
      · cases hy; exact ⟨ec_NoText, kit_ref self_NoText d_NoTree ty_NoTree i_NoText_NoTree⟩
      · cases hy
    n_NoPath := PySem.W.mg_of KX G n_NoPath
    e_NoPath := fun c y hy => by
      unfold isx_NoPath at hy
      split at hy
      · cases hy; exact ⟨ec_NoText, kit_ref self_NoText d_NoPath ty_NoPath i_NoText_NoPath⟩
      · cases hy
    n_NoGiven := PySem.W.mg_of KX G n_NoGiven
    e_NoGiven := fun c y hy => by
      unfold isx_NoGiven at hy
      split at hy
      · cases hy; exact ⟨ec_NoText, kit_ref self_NoText d_NoGiven ty_NoGiven i_NoText_NoGiven⟩
      · cases hy
    n_NoGraph := PySem.W.mg_of KX G n_NoGraph
    e_NoGraph := fun c y hy => by
      unfold isx_NoGraph at hy
      split at hy
      · cases hy; exact ⟨ec_NoText, kit_ref self_NoText d_NoGraph ty_NoGraph i_NoText_NoGraph⟩
      · cases hy
    n_NoNeed := PySem.W.mg_of KX G n_NoNeed
    e_NoNeed := fun c y hy => by
      unfold isx_NoNeed at hy
      split at hy
      · cases hy; exact ⟨ec_NoText, kit_ref self_NoText d_NoNeed ty_NoNeed i_NoText_NoNeed⟩
      · cases hy
    n_NoVisits := PySem.W.mg_of KX G n_NoVisits
    e_NoVisits := fun c y hy => by
      unfold isx_NoVisits at hy
      split at hy
      · cases hy; exact ⟨ec_NoText, kit_ref self_NoText d_NoVisits ty_NoVisits i_NoText_NoVisits⟩
      · cases hy
    n_NoPlan := PySem.W.mg_of KX G n_NoPlan
    e_NoPlan := fun c y hy => by
      unfold isx_NoPlan at hy
      split at hy
      · cases hy; exact ⟨ec_NoText, kit_ref self_NoText d_NoPlan ty_NoPlan i_NoText_NoPlan⟩
      · cases hy
    n_NoJoin := PySem.W.mg_of KX G n_NoJoin
    e_NoJoin := fun c y hy => by
      unfold isx_NoJoin at hy
      split at hy
      · cases hy; exact ⟨ec_NoText, kit_ref self_NoText d_NoJoin ty_NoJoin i_NoText_NoJoin⟩
      · cases hy
    n_NoText := PySem.W.mg_of KX G n_NoText
    e_NoText := fun c y hy => by
      unfold isx_NoText at hy
      split at hy
      · cases hy; exact ⟨ec_NoText, kit_ref self_NoText d_NoText ty_NoText i_NoText_NoText⟩
      · cases hy
    n_NoLine := PySem.W.mg_of KX G n_NoLine
    e_NoLine := fun c y hy => by
      unfold isx_NoLine at hy
      split at hy
      · cases hy; exact ⟨ec_NoText, kit_ref self_NoText d_NoLine ty_NoLine i_NoText_NoLine⟩
      · cases hy
    n_TooMany := PySem.W.mg_of KX G n_TooMany
    e_TooMany := fun c y hy => by
      unfold isx_TooMany at hy
      split at hy
      · cases hy; exact ⟨ec_NoText, kit_ref self_NoText d_TooMany ty_TooMany i_NoText_TooMany⟩
      · cases hy
    n_HasRing := PySem.W.mg_of KX G n_HasRing
    e_HasRing := fun c y hy => by
      unfold isx_HasRing at hy
      split at hy
      · cases hy; exact ⟨ec_NoText, kit_ref self_NoText d_HasRing ty_HasRing i_NoText_HasRing⟩
      · cases hy
    n_NoBridge := PySem.W.mg_of KX G n_NoBridge
    e_NoBridge := fun c y hy => by
      unfold isx_NoBridge at hy
      split at hy
      · cases hy; exact ⟨ec_NoText, kit_ref self_NoText d_NoBridge ty_NoBridge i_NoText_NoBridge⟩
      · cases hy
    n_UnitedRing := PySem.W.mg_of KX G n_UnitedRing
    e_UnitedRing := fun c y hy => by
      unfold isx_UnitedRing at hy
      split at hy
      · cases hy; exact ⟨ec_NoText, kit_ref self_NoText d_UnitedRing ty_UnitedRing i_NoText_UnitedRing⟩
      · cases hy
    n_NoOrder := PySem.W.mg_of KX G n_NoOrder
    e_NoOrder := fun c y hy => by
      unfold isx_NoOrder at hy
      split at hy
      · cases hy; exact ⟨ec_NoText, kit_ref self_NoText d_NoOrder ty_NoOrder i_NoText_NoOrder⟩
      · cases hy
    n_OtherShape := PySem.W.mg_of KX G n_OtherShape
    e_OtherShape := fun c y hy => by
      unfold isx_OtherShape at hy
      split at hy
      · cases hy; exact ⟨ec_NoText, kit_ref self_NoText d_OtherShape ty_OtherShape i_NoText_OtherShape⟩
      · cases hy
    n_NotFit := PySem.W.mg_of KX G n_NotFit
    e_NotFit := fun c y hy => by
      unfold isx_NotFit at hy
      split at hy
      · cases hy; exact ⟨ec_NoText, kit_ref self_NoText d_NotFit ty_NotFit i_NoText_NotFit⟩
      · cases hy
    t_BookError := fun c y hy => by
      unfold exm_BookError at hy
      split at hy
      · cases hy; exact PySem.W.exm_ref sb_BookError d_BookError ty_BookError e_NoText_BookError
      · cases hy
    }
  exact (all (P := l.prog) (w := w) (base := base) F 64 39 (by decide)).weak (law_sp win)
end
end K81
open PySem PySem.W PyProof.Rows
set_option maxRecDepth 100000 in
set_option maxHeartbeats 0 in
theorem PySem.Challenge.cw_updownworths_k81_whole_texts_bent_holds : PySem.Challenge.rw_updownworths_k81_whole_texts_bent.Holds := by
  w_on; o_law; k_head; (case hw => w_witness2)
  k_fill
  refine Dl.walk_G (l := PySem.Challenge.rw_updownworths_k81_whole_texts_bent) (n := 63) (k := 64) (x := "_law_script") (sp := Dl.spLaw 63) rfl (by decide) rfl ⟨rfl, by decide, by decide⟩ (fun w h Y => PySem.W.kIn_of Y) ?F ?S
  case S => exact fun K H a ns hl hS => ⟨a, ns, rfl, hS, hl, fun _ => rfl⟩
  case F =>
    intro w mg fa h KX G hmg
    refine' K81.all_mk KX G hmg K81.win ?a0 ?l0 ?c0 ?k0 ?a1 ?l1 ?c1 ?k1 ?a2 ?l2 ?c2 ?k2 ?a3 ?l3 ?c3 ?k3 ?a4 ?l4 ?c4 ?k4 ?a5 ?l5 ?c5 ?k5 ?a6 ?l6 ?c6 ?k6 ?a7 ?l7 ?c7 ?k7 ?a8 ?l8 ?c8 ?k8 ?a9 ?l9 ?c9 ?k9 ?a10 ?l10 ?c10 ?k10 ?a11 ?l11 ?c11 ?k11 ?a12 ?l12 ?c12 ?k12 ?a13 ?l13 ?c13 ?k13 ?a14 ?l14 ?c14 ?k14 ?a15 ?l15 ?c15 ?k15 ?a16 ?l16 ?c16 ?k16 ?a17 ?l17 ?c17 ?k17 ?a18 ?l18 ?c18 ?k18 ?a19 ?l19 ?c19 ?k19 ?a20 ?l20 ?c20 ?k20 ?a21 ?l21 ?c21 ?k21 ?a22 ?l22 ?c22 ?k22 ?a23 ?l23 ?c23 ?k23 ?a24 ?l24 ?c24 ?k24 ?a25 ?l25 ?c25 ?k25 ?a26 ?l26 ?c26 ?k26 ?a27 ?l27 ?c27 ?k27 ?a28 ?l28 ?c28 ?k28 ?a29 ?l29 ?c29 ?k29 ?a30 ?l30 ?c30 ?k30 ?a31 ?l31 ?c31 ?k31 ?a32 ?l32 ?c32 ?k32 ?a33 ?l33 ?c33 ?k33 ?a34 ?l34 ?c34 ?k34 ?a35 ?l35 ?c35 ?k35 ?a36 ?l36 ?c36 ?k36 ?a37 ?l37 ?c37 ?k37 ?a38 ?l38 ?c38 ?k38 ?a39 ?l39 ?c39 ?k39 ?n_WORDS ?l_WORDS ?kl_WORDS ?tb_WORDS ?lo_WORDS ?z_ValueError ?z_abs ?z_all ?z_bool ?z_int ?z_isinstance ?z_len ?z_max ?z_range ?z_str ?z_sum ?z_tuple ?v_MOST_DEEP_formulas ?v_MOST_PARTS ?v_MOST_FIGURES ?v_FIGURES ?v_MOST_NESTED ?v_MOST_DEEP_trees ?v_MOST_KNOTS ?n_BookError ?n_NoFormula ?n_NoWorth ?n_NoBook ?n_NoRule ?n_NoName ?n_NoSign ?n_NoTree ?n_NoPath ?n_NoGiven ?n_NoGraph ?n_NoNeed ?n_NoVisits ?n_NoBridge ?n_NoJoin ?n_OtherShape ?n_NoPlan ?n_NoText ?n_NoLine ?n_TooMany ?n_HasRing ?n_UnitedRing ?n_NoOrder ?n_NotFit ?q_NoText ?kc_NoText ?s_NoText ?t_NoText ?hg_NoText ?hk_NoText ?hd_NoText ?ha_NoText ?hm_NoText ?i_NoText_BookError ?i_NoText_ValueError ?i_NoText_NoFormula ?i_NoText_NoWorth ?i_NoText_NoBook ?i_NoText_NoRule ?i_NoText_NoName ?i_NoText_NoSign ?i_NoText_NoTree ?i_NoText_NoPath ?i_NoText_NoGiven ?i_NoText_NoGraph ?i_NoText_NoNeed ?i_NoText_NoVisits ?i_NoText_NoPlan ?i_NoText_NoJoin ?i_NoText_NoText ?i_NoText_NoLine ?i_NoText_TooMany ?i_NoText_HasRing ?i_NoText_NoBridge ?i_NoText_UnitedRing ?i_NoText_NoOrder ?i_NoText_OtherShape ?i_NoText_NotFit ?self_NoText ?hn_ ?ht_ ?d_BookError ?ty_BookError ?d_NoFormula ?ty_NoFormula ?d_NoWorth ?ty_NoWorth ?d_NoBook ?ty_NoBook ?d_NoRule ?ty_NoRule ?d_NoName ?ty_NoName ?d_NoSign ?ty_NoSign ?d_NoTree ?ty_NoTree ?d_NoPath ?ty_NoPath ?d_NoGiven ?ty_NoGiven ?d_NoGraph ?ty_NoGraph ?d_NoNeed ?ty_NoNeed ?d_NoVisits ?ty_NoVisits ?d_NoBridge ?ty_NoBridge ?d_NoJoin ?ty_NoJoin ?d_OtherShape ?ty_OtherShape ?d_NoPlan ?ty_NoPlan ?d_NoText ?ty_NoText ?d_NoLine ?ty_NoLine ?d_TooMany ?ty_TooMany ?d_HasRing ?ty_HasRing ?d_UnitedRing ?ty_UnitedRing ?d_NoOrder ?ty_NoOrder ?d_NotFit ?ty_NotFit ?sb_BookError ?e_NoText_BookError
    (case a0 => k_is)
    (case l0 => k_is)
    (case c0 => k_is)
    (case k0 => k_is)
    (case a1 => k_is)
    (case l1 => k_is)
    (case c1 => k_is)
    (case k1 => k_is)
    (case a2 => k_is)
    (case l2 => k_is)
    (case c2 => k_is)
    (case k2 => k_is)
    (case a3 => k_is)
    (case l3 => k_is)
    (case c3 => k_is)
    (case k3 => k_is)
    (case a4 => k_is)
    (case l4 => k_is)
    (case c4 => k_is)
    (case k4 => k_is)
    (case a5 => k_is)
    (case l5 => k_is)
    (case c5 => k_is)
    (case k5 => k_is)
    (case a6 => k_is)
    (case l6 => k_is)
    (case c6 => k_is)
    (case k6 => k_is)
    (case a7 => k_is)
    (case l7 => k_is)
    (case c7 => k_is)
    (case k7 => k_is)
    (case a8 => k_is)
    (case l8 => k_is)
    (case c8 => k_is)
    (case k8 => k_is)
    (case a9 => k_is)
    (case l9 => k_is)
    (case c9 => k_is)
    (case k9 => k_is)
    (case a10 => k_is)
    (case l10 => k_is)
    (case c10 => k_is)
    (case k10 => k_is)
    (case a11 => k_is)
    (case l11 => k_is)
    (case c11 => k_is)
    (case k11 => k_is)
    (case a12 => k_is)
    (case l12 => k_is)
    (case c12 => k_is)
    (case k12 => k_is)
    (case a13 => k_is)
    (case l13 => k_is)
    (case c13 => k_is)
    (case k13 => k_is)
    (case a14 => k_is)
    (case l14 => k_is)
    (case c14 => k_is)
    (case k14 => k_is)
    (case a15 => k_is)
    (case l15 => k_is)
    (case c15 => k_is)
    (case k15 => k_is)
    (case a16 => k_is)
    (case l16 => k_is)
    (case c16 => k_is)
    (case k16 => k_is)
    (case a17 => k_is)
    (case l17 => k_is)
    (case c17 => k_is)
    (case k17 => k_is)
    (case a18 => k_is)
    (case l18 => k_is)
    (case c18 => k_is)
    (case k18 => k_is)
    (case a19 => k_is)
    (case l19 => k_is)
    (case c19 => k_is)
    (case k19 => k_is)
    (case a20 => k_is)
    (case l20 => k_is)
    (case c20 => k_is)
    (case k20 => k_is)
    (case a21 => k_is)
    (case l21 => k_is)
    (case c21 => k_is)
    (case k21 => k_is)
    (case a22 => k_is)
    (case l22 => k_is)
    (case c22 => k_is)
    (case k22 => k_is)
    (case a23 => k_is)
    (case l23 => k_is)
    (case c23 => k_is)
    (case k23 => k_is)
    (case a24 => k_is)
    (case l24 => k_is)
    (case c24 => k_is)
    (case k24 => k_is)
    (case a25 => k_is)
    (case l25 => k_is)
    (case c25 => k_is)
    (case k25 => k_is)
    (case a26 => k_is)
    (case l26 => k_is)
    (case c26 => k_is)
    (case k26 => k_is)
    (case a27 => k_is)
    (case l27 => k_is)
    (case c27 => k_is)
    (case k27 => k_is)
    (case a28 => k_is)
    (case l28 => k_is)
    (case c28 => k_is)
    (case k28 => k_is)
    (case a29 => k_is)
    (case l29 => k_is)
    (case c29 => k_is)
    (case k29 => k_is)
    (case a30 => k_is)
    (case l30 => k_is)
    (case c30 => k_is)
    (case k30 => k_is)
    (case a31 => k_is)
    (case l31 => k_is)
    (case c31 => k_is)
    (case k31 => k_is)
    (case a32 => k_is)
    (case l32 => k_is)
    (case c32 => k_is)
    (case k32 => k_is)
    (case a33 => k_is)
    (case l33 => k_is)
    (case c33 => k_is)
    (case k33 => k_is)
    (case a34 => k_is)
    (case l34 => k_is)
    (case c34 => k_is)
    (case k34 => k_is)
    (case a35 => k_is)
    (case l35 => k_is)
    (case c35 => k_is)
    (case k35 => k_is)
    (case a36 => k_is)
    (case l36 => k_is)
    (case c36 => k_is)
    (case k36 => k_is)
    (case a37 => k_is)
    (case l37 => k_is)
    (case c37 => k_is)
    (case k37 => k_is)
    (case a38 => k_is)
    (case l38 => k_is)
    (case c38 => k_is)
    (case k38 => k_is)
    (case a39 => k_is)
    (case l39 => k_is)
    (case c39 => k_is)
    (case k39 => k_is)
    (case n_WORDS => k_is)
    (case l_WORDS => k_is)
    (case kl_WORDS => exact ⟨⟨_, _, rfl, rfl⟩, ⟨⟨_, _, rfl, rfl⟩, ⟨⟨_, _, rfl, rfl⟩, ⟨⟨_, _, rfl, rfl⟩, ⟨⟨_, _, rfl, rfl⟩, ⟨⟨_, _, rfl, rfl⟩, ⟨⟨_, _, rfl, rfl⟩, ⟨⟨_, _, rfl, rfl⟩, ⟨⟨_, _, rfl, rfl⟩, trivial⟩⟩⟩⟩⟩⟩⟩⟩⟩)
    (case tb_WORDS => exact .cons rfl rfl (.cons rfl rfl (.cons rfl rfl (.cons rfl rfl (.cons rfl rfl (.cons rfl rfl (.cons rfl rfl (.cons rfl rfl (.cons rfl rfl (.nil))))))))))
    (case lo_WORDS => rfl)
    (case z_ValueError => k_is)
    (case z_abs => k_is)
    (case z_all => k_is)
    (case z_bool => k_is)
    (case z_int => k_is)
    (case z_isinstance => k_is)
    (case z_len => k_is)
    (case z_max => k_is)
    (case z_range => k_is)
    (case z_str => k_is)
    (case z_sum => k_is)
    (case z_tuple => k_is)
    (case v_MOST_DEEP_formulas => k_is)
    (case v_MOST_PARTS => k_is)
    (case v_MOST_FIGURES => k_is)
    (case v_FIGURES => k_is)
    (case v_MOST_NESTED => k_is)
    (case v_MOST_DEEP_trees => k_is)
    (case v_MOST_KNOTS => k_is)
    (case n_BookError => k_is)
    (case n_NoFormula => k_is)
    (case n_NoWorth => k_is)
    (case n_NoBook => k_is)
    (case n_NoRule => k_is)
    (case n_NoName => k_is)
    (case n_NoSign => k_is)
    (case n_NoTree => k_is)
    (case n_NoPath => k_is)
    (case n_NoGiven => k_is)
    (case n_NoGraph => k_is)
    (case n_NoNeed => k_is)
    (case n_NoVisits => k_is)
    (case n_NoBridge => k_is)
    (case n_NoJoin => k_is)
    (case n_OtherShape => k_is)
    (case n_NoPlan => k_is)
    (case n_NoText => k_is)
    (case n_NoLine => k_is)
    (case n_TooMany => k_is)
    (case n_HasRing => k_is)
    (case n_UnitedRing => k_is)
    (case n_NoOrder => k_is)
    (case n_NotFit => k_is)
    (case q_NoText => k_exc)
    (case kc_NoText => k_is)
    (case s_NoText => k_is)
    (case t_NoText => k_is)
    (case hg_NoText => k_is)
    (case hk_NoText => k_is)
    (case hd_NoText => k_is)
    (case ha_NoText => k_is)
    (case hm_NoText => k_is)
    (case i_NoText_BookError => k_is)
    (case i_NoText_ValueError => k_is)
    (case i_NoText_NoFormula => k_is)
    (case i_NoText_NoWorth => k_is)
    (case i_NoText_NoBook => k_is)
    (case i_NoText_NoRule => k_is)
    (case i_NoText_NoName => k_is)
    (case i_NoText_NoSign => k_is)
    (case i_NoText_NoTree => k_is)
    (case i_NoText_NoPath => k_is)
    (case i_NoText_NoGiven => k_is)
    (case i_NoText_NoGraph => k_is)
    (case i_NoText_NoNeed => k_is)
    (case i_NoText_NoVisits => k_is)
    (case i_NoText_NoPlan => k_is)
    (case i_NoText_NoJoin => k_is)
    (case i_NoText_NoText => k_is)
    (case i_NoText_NoLine => k_is)
    (case i_NoText_TooMany => k_is)
    (case i_NoText_HasRing => k_is)
    (case i_NoText_NoBridge => k_is)
    (case i_NoText_UnitedRing => k_is)
    (case i_NoText_NoOrder => k_is)
    (case i_NoText_OtherShape => k_is)
    (case i_NoText_NotFit => k_is)
    (case self_NoText => k_is)
    (case hn_ => k_is)
    (case ht_ => k_is)
    (case d_BookError => k_is)
    (case ty_BookError => k_is)
    (case d_NoFormula => k_is)
    (case ty_NoFormula => k_is)
    (case d_NoWorth => k_is)
    (case ty_NoWorth => k_is)
    (case d_NoBook => k_is)
    (case ty_NoBook => k_is)
    (case d_NoRule => k_is)
    (case ty_NoRule => k_is)
    (case d_NoName => k_is)
    (case ty_NoName => k_is)
    (case d_NoSign => k_is)
    (case ty_NoSign => k_is)
    (case d_NoTree => k_is)
    (case ty_NoTree => k_is)
    (case d_NoPath => k_is)
    (case ty_NoPath => k_is)
    (case d_NoGiven => k_is)
    (case ty_NoGiven => k_is)
    (case d_NoGraph => k_is)
    (case ty_NoGraph => k_is)
    (case d_NoNeed => k_is)
    (case ty_NoNeed => k_is)
    (case d_NoVisits => k_is)
    (case ty_NoVisits => k_is)
    (case d_NoBridge => k_is)
    (case ty_NoBridge => k_is)
    (case d_NoJoin => k_is)
    (case ty_NoJoin => k_is)
    (case d_OtherShape => k_is)
    (case ty_OtherShape => k_is)
    (case d_NoPlan => k_is)
    (case ty_NoPlan => k_is)
    (case d_NoText => k_is)
    (case ty_NoText => k_is)
    (case d_NoLine => k_is)
    (case ty_NoLine => k_is)
    (case d_TooMany => k_is)
    (case ty_TooMany => k_is)
    (case d_HasRing => k_is)
    (case ty_HasRing => k_is)
    (case d_UnitedRing => k_is)
    (case ty_UnitedRing => k_is)
    (case d_NoOrder => k_is)
    (case ty_NoOrder => k_is)
    (case d_NotFit => k_is)
    (case ty_NotFit => k_is)
    (case sb_BookError => k_is)
    (case e_NoText_BookError => k_is)
