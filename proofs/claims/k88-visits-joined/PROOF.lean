import PyProof.Rows.All
import Wide.All
import OpenK.AllK
import Wide.FinOn
import HandS.ForMost
import HandS.ForExc
import HandS.IsInst
import HandS.ExcIs
import HandS.CallSlots
import HandS.Deep
import HandS.Wide
import HandS.RaiseMore
import HandS.TupAny
import HandS.Conv
import HandS.ExcValue
import HandS.Codes
import HandS.More
import HandS.NoneIn
import KE.IntTextLaws
import KE.GoesRaise
import HandS.Zip
import PyProof.Draws
import HandS.SortInts
import PySem.Challenge.RW_updownworths_k88_visits_joined
set_option Elab.async false
set_option linter.all false
set_option maxRecDepth 100000
set_option exponentiation.threshold 10000
set_option maxHeartbeats 4000000
/-! Dl1: the data layer's core: slots, environments, the relation to the abstract heap, expressions by value. -/
namespace Dl
open PySem PySem.Spec L2

abbrev D := PyData

/-- a structure whose lists are one's own; dat: shared data -/
inductive Ow where
  | dat (x : D)
  | lst (ws : List Ow)
  | tup (ws : List Ow)
/-- what a local slot may hold: shared data; an owned list (nobody else knows it); a list of the caller's, by reference; a caught exception of a class by its number; a list that is read alone (the script); a pair of None and a caught exception -/
inductive Sv where
  | d (x : D)
  | ow (l : List D)
  | rf (l : List D)
  | ex (c : Nat)
  | fz (l : List D)
  | px (c : Nat)
  | on (w : Ow)
  | al (i : Nat) (p : List Nat)
abbrev Ev := List (Option Sv)
/-- the fixed part of a def's run: classes by number, the entry's shared part, the entry's heap, the by-reference parameters, what is held meanwhile and is nobody's -/
structure Bx where
  cl : Nat → Addr
  G0 : Hp
  H0 : Hp
  B : List (Nat × Addr)
  T : Hp
  own : Addr → Option Nat := fun _ => none
  rt : Nat → Option V := fun _ => none
  al : Nat → Option (Nat × List Nat × V) := fun _ => none
  pin : List (Nat × List Nat × V) := []

def ExT (C a : Addr) : HO := .ext fun h => ∃ (oe : Obj) (vs : Array Value), h.get? a = some oe ∧ Zc (.ref C) none oe ∧ oe.data = .fields vs

mutual
/-- v stands for the data x: lists as they lie in G, tuples of G or of the written part -/
inductive Da (K : PySem.W.Frag) (G : Hp) : V → D → Prop
  | non : Da K G .non .none
  | bl (b : Bool) : Da K G (.bl b) (.bool b)
  | int (i : Int) : Da K G (.int i) (.int i)
  | str (x : Str) : Da K G (.str x) (.str x)
  | lst {a : Addr} {xs : List V} {ds : List D} : G a = some (.lst xs) → DaAll K G xs ds → Da K G (.ref a) (.list ds)
  | tup {a : Addr} {xs : List V} {ds : List D} : SqT K G a xs → DaAll K G xs ds → Da K G (.ref a) (.tuple ds)
inductive DaAll (K : PySem.W.Frag) (G : Hp) : List V → List D → Prop
  | nil : DaAll K G [] []
  | cons {v : V} {vs : List V} {d : D} {ds : List D} : Da K G v d → DaAll K G vs ds → DaAll K G (v :: vs) (d :: ds)
end
mutual
theorem Da.dp {K : PySem.W.Frag} {G : Hp} : ∀ {v : V} {x : D}, Da K G v x → Dp K G v x
  | _, _, .non => .non
  | _, _, .bl b => .bl b
  | _, _, .int i => .int i
  | _, _, .str x => .str x
  | _, _, .lst h r => .lst (SqL.of h) (DaAll.dp r)
  | _, _, .tup h r => .tup h (DaAll.dp r)
theorem DaAll.dp {K : PySem.W.Frag} {G : Hp} : ∀ {vs : List V} {xs : List D}, DaAll K G vs xs → DpAll K G vs xs
  | _, _, .nil => .nil
  | _, _, .cons h r => .cons (Da.dp h) (DaAll.dp r)
end

/-! ### monotone -/
theorem seqT {K : PySem.W.Frag} {H H' : Hp} {a : Addr} {xs : List V} (e : Same H H') (h : SqT K H a xs) : SqT K H' a xs := by
  rcases h with (h | ⟨o, h⟩) | h
  · exact .inl (.inl (e _ _ h))
  · exact .inl (.inr ⟨o, e _ _ h⟩)
  · exact .inr h
mutual
theorem Da.mono {K : PySem.W.Frag} {G G' : Hp} (e : Same G G') : ∀ {v : V} {x : D}, Da K G v x → Da K G' v x
  | _, _, .non => .non
  | _, _, .bl b => .bl b
  | _, _, .int i => .int i
  | _, _, .str x => .str x
  | _, _, .lst h r => .lst (e _ _ h) (DaAll.mono e r)
  | _, _, .tup h r => .tup (seqT e h) (DaAll.mono e r)
theorem DaAll.mono {K : PySem.W.Frag} {G G' : Hp} (e : Same G G') : ∀ {vs : List V} {xs : List D}, DaAll K G vs xs → DaAll K G' vs xs
  | _, _, .nil => .nil
  | _, _, .cons h r => .cons (Da.mono e h) (DaAll.mono e r)
end
theorem DaAll.length {K : PySem.W.Frag} {G : Hp} : ∀ {vs : List V} {xs : List D}, DaAll K G vs xs → vs.length = xs.length
  | _, _, .nil => rfl
  | _, _, .cons _ r => by rw [List.length_cons, List.length_cons, DaAll.length r]
theorem DaAll.get {K : PySem.W.Frag} {G : Hp} : ∀ {vs : List V} {xs : List D} {i : Nat} {x : D}, DaAll K G vs xs → xs[i]? = some x → ∃ v, vs[i]? = some v ∧ Da K G v x
  | _, _, _, _, .nil, e => by simp at e
  | _, _, 0, _, .cons h _, e => by
    simp at e; subst e; exact ⟨_, rfl, h⟩
  | _, _, i + 1, x, .cons _ r, e => by
    obtain ⟨v, h1, h2⟩ := DaAll.get (i := i) (x := x) r (by simpa using e)
    exact ⟨v, by simpa using h1, h2⟩
theorem DaAll.get' {K : PySem.W.Frag} {G : Hp} : ∀ {vs : List V} {xs : List D} {i : Nat} {v : V}, DaAll K G vs xs → vs[i]? = some v → ∃ x, xs[i]? = some x ∧ Da K G v x
  | _, _, _, _, .nil, e => by simp at e
  | _, _, 0, _, .cons h _, e => by
    simp at e; subst e; exact ⟨_, rfl, h⟩
  | _, _, i + 1, x, .cons _ r, e => by
    obtain ⟨v, h1, h2⟩ := DaAll.get' (i := i) r (by simpa using e)
    exact ⟨v, by simpa using h1, h2⟩
theorem DaAll.append {K : PySem.W.Frag} {G : Hp} : ∀ {vs ws : List V} {xs ys : List D}, DaAll K G vs xs → DaAll K G ws ys → DaAll K G (vs ++ ws) (xs ++ ys)
  | _, _, _, _, .nil, s => s
  | _, _, _, _, .cons h r, s => .cons h (DaAll.append r s)
theorem DaAll.set {K : PySem.W.Frag} {G : Hp} {v : V} {x : D} (h : Da K G v x) : ∀ {vs : List V} {xs : List D} (i : Nat), DaAll K G vs xs → DaAll K G (vs.set i v) (xs.set i x)
  | _, _, _, .nil => .nil
  | _, _, 0, .cons _ r => .cons h r
  | _, _, i + 1, .cons q r => .cons q (DaAll.set h i r)
theorem DaAll.take {K : PySem.W.Frag} {G : Hp} : ∀ {vs : List V} {xs : List D} (i : Nat), DaAll K G vs xs → DaAll K G (vs.take i) (xs.take i)
  | _, _, _, .nil => by simp; exact .nil
  | _, _, 0, .cons _ r => .nil
  | _, _, i + 1, .cons q r => .cons q (DaAll.take i r)
theorem DaAll.drop {K : PySem.W.Frag} {G : Hp} : ∀ {vs : List V} {xs : List D} (i : Nat), DaAll K G vs xs → DaAll K G (vs.drop i) (xs.drop i)
  | _, _, _, .nil => by simp; exact .nil
  | _, _, 0, .cons q r => .cons q r
  | _, _, i + 1, .cons q r => DaAll.drop i r
theorem DaAll.eraseIdx {K : PySem.W.Frag} {G : Hp} : ∀ {vs : List V} {xs : List D} (i : Nat), DaAll K G vs xs → DaAll K G (vs.eraseIdx i) (xs.eraseIdx i)
  | _, _, _, .nil => by simp; exact .nil
  | _, _, 0, .cons q r => r
  | _, _, i + 1, .cons q r => .cons q (DaAll.eraseIdx i r)

mutual
def Ow.toD : Ow → D
  | .dat x => x
  | .lst ws => .list (Ow.allD ws)
  | .tup ws => .tuple (Ow.allD ws)
def Ow.allD : List Ow → List D
  | [] => []
  | w :: ws => w.toD :: Ow.allD ws
end
theorem Ow.allD_map : ∀ ws : List Ow, Ow.allD ws = ws.map Ow.toD
  | [] => rfl
  | w :: ws => by rw [Ow.allD, Ow.allD_map ws]; rfl
mutual
/-- v stands for w; F: where its own lists lie -/
inductive Lin (K : PySem.W.Frag) (G H : Hp) : V → Ow → List Addr → Prop
  | dat {v : V} {x : D} : Da K G v x → Lin K G H v (.dat x) []
  | lst {a : Addr} {vs : List V} {ws : List Ow} {F : List Addr} : H a = some (.lst vs) → G a = none → LinAll K G H vs ws F → a ∉ F → Lin K G H (.ref a) (.lst ws) (a :: F)
  | tup {a : Addr} {vs : List V} {ws : List Ow} {F : List Addr} : G a = some (.tup vs) → LinAll K G H vs ws F → Lin K G H (.ref a) (.tup ws) F
inductive LinAll (K : PySem.W.Frag) (G H : Hp) : List V → List Ow → List Addr → Prop
  | nil : LinAll K G H [] [] []
  | cons {v : V} {vs : List V} {w : Ow} {ws : List Ow} {F F' : List Addr} : Lin K G H v w F → LinAll K G H vs ws F' → (∀ a ∈ F, a ∉ F') → LinAll K G H (v :: vs) (w :: ws) (F ++ F')
end
section
variable {K : PySem.W.Frag} {G G' H H' : Hp}
mutual
theorem Lin.frame (e : Same G G') : ∀ {v : V} {w : Ow} {F : List Addr}, Lin K G H v w F → (∀ a ∈ F, H' a = H a) → (∀ a ∈ F, G' a = none) → Lin K G' H' v w F
  | _, _, _, .dat h, _, _ => .dat (Da.mono e h)
  | _, _, _, .lst h1 h2 r n, k, k2 => .lst ((k _ (List.mem_cons_self ..)).trans h1) (k2 _ (List.mem_cons_self ..)) (LinAll.frame e r (fun a ha => k a (List.mem_cons_of_mem _ ha)) fun a ha => k2 a (List.mem_cons_of_mem _ ha)) n
  | _, _, _, .tup h r, k, k2 => .tup (e _ _ h) (LinAll.frame e r k k2)
theorem LinAll.frame (e : Same G G') : ∀ {vs : List V} {ws : List Ow} {F : List Addr}, LinAll K G H vs ws F → (∀ a ∈ F, H' a = H a) → (∀ a ∈ F, G' a = none) → LinAll K G' H' vs ws F
  | _, _, _, .nil, _, _ => .nil
  | _, _, _, .cons h r n, k, k2 => .cons (Lin.frame e h (fun a ha => k a (List.mem_append_left _ ha)) fun a ha => k2 a (List.mem_append_left _ ha)) (LinAll.frame e r (fun a ha => k a (List.mem_append_right _ ha)) fun a ha => k2 a (List.mem_append_right _ ha)) n
end
mutual
theorem Lin.own : ∀ {v : V} {w : Ow} {F : List Addr}, Lin K G H v w F → ∀ a ∈ F, G a = none ∧ ∃ vs, H a = some (.lst vs)
  | _, _, _, .dat _, _, ha => nomatch ha
  | _, _, _, .lst h1 h2 r _, a, ha => (List.mem_cons.mp ha).elim (fun e => e ▸ ⟨h2, _, h1⟩) fun h => LinAll.own r a h
  | _, _, _, .tup _ r, a, ha => LinAll.own r a ha
theorem LinAll.own : ∀ {vs : List V} {ws : List Ow} {F : List Addr}, LinAll K G H vs ws F → ∀ a ∈ F, G a = none ∧ ∃ vs, H a = some (.lst vs)
  | _, _, _, .nil, _, ha => nomatch ha
  | _, _, _, .cons h r _, a, ha => (List.mem_append.mp ha).elim (Lin.own h a) (LinAll.own r a)
end
mutual
theorem Lin.nodup : ∀ {v : V} {w : Ow} {F : List Addr}, Lin K G H v w F → F.Nodup
  | _, _, _, .dat _ => List.nodup_nil
  | _, _, _, .lst _ _ r n => List.nodup_cons.mpr ⟨n, LinAll.nodup r⟩
  | _, _, _, .tup _ r => LinAll.nodup r
theorem LinAll.nodup : ∀ {vs : List V} {ws : List Ow} {F : List Addr}, LinAll K G H vs ws F → F.Nodup
  | _, _, _, .nil => List.nodup_nil
  | _, _, _, .cons h r n => List.nodup_append.mpr ⟨Lin.nodup h, LinAll.nodup r, fun a ha b hb e => n a ha (e ▸ hb)⟩
end
/-- the shared part with these lists taken in -/
def takeIn (G H : Hp) (F : List Addr) : Hp := fun a => if a ∈ F then H a else G a
theorem takeIn_same {F : List Addr} (h : ∀ a ∈ F, G a = none) : Same G (takeIn G H F) := fun a o e => by
  unfold takeIn
  rw [if_neg (fun hm => by rw [h a hm] at e; cases e)]
  exact e
theorem takeIn_le {F : List Addr} (r : Same G H) : Same (takeIn G H F) H := fun a o e => by
  unfold takeIn at e
  split at e
  · exact e
  · exact r _ _ e
theorem takeIn_mono {F F' : List Addr} (r : Same G H) (s : ∀ a ∈ F, a ∈ F') : Same (takeIn G H F) (takeIn G H F') := fun a o e => by
  unfold takeIn at e ⊢
  by_cases h : a ∈ F
  · rw [if_pos h] at e
    rw [if_pos (s a h)]
    exact e
  · rw [if_neg h] at e
    split
    · exact r _ _ e
    · exact e
mutual
/-- an owned structure becomes shared data -/
theorem Lin.da (rel : Same G H) : ∀ {v : V} {w : Ow} {F : List Addr}, Lin K G H v w F → Da K (takeIn G H F) v w.toD
  | _, _, _, .dat h => Da.mono (takeIn_same fun a ha => absurd ha (by simp)) h
  | _, _, _, .lst (a := a) (F := F) h1 h2 r n => by
    refine .lst (xs := _) (by unfold takeIn; rw [if_pos (List.mem_cons_self ..)]; exact h1) ?_
    exact DaAll.mono (takeIn_mono rel fun b hb => List.mem_cons_of_mem _ hb) (LinAll.da rel r)
  | _, _, _, .tup (F := F) h r => by
    have hn : ∀ a ∈ F, G a = none := fun a ha => (LinAll.own r a ha).1
    exact .tup (SqT.of (takeIn_same hn _ _ h)) (LinAll.da rel r)
theorem LinAll.da (rel : Same G H) : ∀ {vs : List V} {ws : List Ow} {F : List Addr}, LinAll K G H vs ws F → DaAll K (takeIn G H F) vs (Ow.allD ws)
  | _, _, _, .nil => .nil
  | _, _, _, .cons h r n => .cons (Da.mono (takeIn_mono rel fun a ha => List.mem_append_left _ ha) (Lin.da rel h)) (DaAll.mono (takeIn_mono rel fun a ha => List.mem_append_right _ ha) (LinAll.da rel r))
end
end
section
variable (K : PySem.W.Frag) (b : Bx)
def RepI (G H : Hp) (i : Nat) (v : V) : Sv → Prop
  | .d x => Da K G v x
  | .ow l => ∃ a xs, v = .ref a ∧ H a = some (.lst xs) ∧ G a = none ∧ b.H0 a = none ∧ DaAll K G xs l
  | .rf l => ∃ a xs, v = .ref a ∧ H a = some (.lst xs) ∧ G a = none ∧ (i, a) ∈ b.B ∧ DaAll K G xs l
  | .ex c => ∃ a, v = .ref a ∧ G a = some (ExT (b.cl c) a)
  | .px c => ∃ a e, v = .ref a ∧ SqT K G a [.non, .ref e] ∧ G e = some (ExT (b.cl c) e)
  | .on w => b.rt i = some v ∧ ∃ F, Lin K G b.T v w F ∧ ∀ a ∈ F, b.own a = some i
  | .al j p => b.al i = some (j, p, v)
  | .fz l => ∃ a xs, v = .ref a ∧ SqL K G a xs ∧ DaAll K G xs l
end
def Owns (σ : St) (ρ : Ev) (i : Nat) (a : Addr) : Prop := σ[i]? = some (some (.ref a)) ∧ ∃ l, ρ[i]? = some (some (.ow l)) ∨ ρ[i]? = some (some (.rf l))
structure Rel (K : PySem.W.Frag) (b : Bx) (G H : Hp) (σ : St) (ρ : Ev) : Prop where
  le : Same G H
  len : ρ.length = σ.length
  slot : ∀ i sv, ρ[i]? = some (some sv) → ∃ v, σ[i]? = some (some v) ∧ RepI K b G H i v sv
  apart : ∀ i j a, Owns σ ρ i a → Owns σ ρ j a → i = j
  keep : ∀ a o, b.H0 a = some o → (∀ p ∈ b.B, p.2 ≠ a) → H a = some o
  base : Same b.G0 G
  fresh : ∀ a o, G a = some o → b.G0 a = some o ∨ b.H0 a = none
  byr : ∀ p ∈ b.B, ∃ l, σ[p.1]? = some (some (.ref p.2)) ∧ ρ[p.1]? = some (some (.rf l))
  tmp : ∀ a o, b.T a = some o → H a = some o ∧ G a = none ∧ b.H0 a = none ∧ ∀ i, ¬ Owns σ ρ i a
def RepT (K : PySem.W.Frag) (b : Bx) (G H : Hp) (σ : St) (ρ : Ev) (v : V) : Sv → Prop
  | .d x => Da K G v x
  | .ow l => ∃ a xs, v = .ref a ∧ H a = some (.lst xs) ∧ G a = none ∧ b.H0 a = none ∧ b.T a = none ∧ (∀ i, ¬ Owns σ ρ i a) ∧ DaAll K G xs l
  | .rf _ => False
  | .ex c => ∃ a, v = .ref a ∧ G a = some (ExT (b.cl c) a)
  | .px c => ∃ a e, v = .ref a ∧ SqT K G a [.non, .ref e] ∧ G e = some (ExT (b.cl c) e)
  | .on _ => False
  | .al _ _ => False
  | .fz l => ∃ a xs, v = .ref a ∧ SqL K G a xs ∧ DaAll K G xs l

/-- something pure was made: nothing that stood changed -/
structure Ext (G H G' H' : Hp) : Prop where
  g : Same G G'
  h : Same H H'
  le : Same G' H'
  new : ∀ a o, G' a = some o → G a = some o ∨ H a = none
section
variable {K : PySem.W.Frag} {b : Bx} {G H G' H' : Hp} {σ : St} {ρ : Ev}
theorem Rel.h0 (r : Rel K b G H σ ρ) {a : Addr} (h : H a = none) : b.H0 a = none := by
  cases q : b.H0 a with
  | none => rfl
  | some o =>
    by_cases hb : ∀ p ∈ b.B, p.2 ≠ a
    · rw [r.keep a o q hb] at h; cases h
    · simp only [Classical.not_forall] at hb
      obtain ⟨p, hp, e⟩ := hb
      have e : p.2 = a := Classical.not_not.mp e
      obtain ⟨l, h1, h2⟩ := r.byr p hp
      obtain ⟨v, h3, a', xs, e1, h4, _⟩ := r.slot _ _ h2
      rw [h1] at h3
      cases h3
      cases e1
      rw [e, h] at h4
      cases h4
theorem Rel.g0 (r : Rel K b G H σ ρ) {a : Addr} (h : H a = none) : G a = none := r.le.free h
theorem Ext.refl (r : Same G H) : Ext G H G H := ⟨Same.refl _, Same.refl _, r, fun _ _ h => .inl h⟩
theorem Ext.upd (r : Same G H) {p : Addr} (hp : H p = none) (o : HO) : Ext G H (upd G p o) (upd H p o) := by
  have gp : G p = none := r.free hp
  refine ⟨fun a u q => ?_, fun a u q => ?_, fun a u q => ?_, fun a u q => ?_⟩
  · rw [upd_ne (ne_of_none q gp)]; exact q
  · rw [upd_ne (ne_of_none q hp)]; exact q
  · by_cases e : a = p
    · subst e; rw [upd_same] at q ⊢; exact q
    · rw [upd_ne e] at q ⊢; exact r _ _ q
  · by_cases e : a = p
    · subst e; exact .inr hp
    · rw [upd_ne e] at q; exact .inl q
/-- a new thing laid, not shared yet -/
theorem Ext.updH (r : Same G H) {p : Addr} (hp : H p = none) (o : HO) : Ext G H G (L2.upd H p o) := by
  refine ⟨Same.refl _, fun a u q => ?_, fun a u q => ?_, fun a u q => .inl q⟩
  · rw [upd_ne (ne_of_none q hp)]; exact q
  · rw [upd_ne (ne_of_none q (r.free hp))]; exact r _ _ q
theorem Rel.ext (r : Rel K b G H σ ρ) (e : Ext G H G' H') : Rel K b G' H' σ ρ where
  le := e.le
  len := r.len
  slot := fun i sv q => by
    obtain ⟨v, h1, h2⟩ := r.slot i sv q
    refine ⟨v, h1, ?_⟩
    have gn : ∀ {a : Addr} {o : HO}, G a = none → H a = some o → G' a = none := fun {a o} ga ha => by
      cases q : G' a with
      | none => rfl
      | some u => rcases e.new a u q with z | z
                  · rw [ga] at z; cases z
                  · rw [ha] at z; cases z
    cases sv with
    | d x => exact Da.mono e.g h2
    | ow l =>
      obtain ⟨a, xs, e1, h3, h4, h5, h6⟩ := h2
      exact ⟨a, xs, e1, e.h _ _ h3, gn h4 h3, h5, DaAll.mono e.g h6⟩
    | rf l =>
      obtain ⟨a, xs, e1, h3, h4, h5, h6⟩ := h2
      exact ⟨a, xs, e1, e.h _ _ h3, gn h4 h3, h5, DaAll.mono e.g h6⟩
    | ex c =>
      obtain ⟨a, e1, h3⟩ := h2
      exact ⟨a, e1, e.g _ _ h3⟩
    | px c =>
      obtain ⟨a, u, e1, h3, h4⟩ := h2
      exact ⟨a, u, e1, seqT e.g h3, e.g _ _ h4⟩
    | al j p => exact h2
    | on w =>
      obtain ⟨hr, F, h3, h4⟩ := h2
      exact ⟨hr, F, Lin.frame e.g h3 (fun _ _ => rfl) fun a ha => by
        obtain ⟨_, us, h5⟩ := Lin.own h3 a ha
        obtain ⟨h6, h7, _⟩ := r.tmp a _ h5
        exact gn h7 h6, h4⟩
    | fz l =>
      obtain ⟨a, xs, e1, h3, h4⟩ := h2
      exact ⟨a, xs, e1, e.g.seq h3, DaAll.mono e.g h4⟩
  apart := r.apart
  keep := fun a o h n => e.h _ _ (r.keep a o h n)
  base := fun a o h => e.g _ _ (r.base a o h)
  fresh := fun a o h => by
    rcases e.new a o h with z | z
    · exact r.fresh a o z
    · exact .inr (r.h0 z)
  byr := r.byr
  tmp := fun a o h => by
    obtain ⟨h1, h2, h3, h4⟩ := r.tmp a o h
    refine ⟨e.h _ _ h1, ?_, h3, h4⟩
    cases q : G' a with
    | none => rfl
    | some u =>
      rcases e.new a u q with z | z
      · rw [h2] at z; cases z
      · rw [h1] at z; cases z
/-- what may be seen as data: an owned list is shared from now on -/
def Sv.dat? : Sv → Option D
  | .d x => some x
  | .ow l => some (.list l)
  | _ => none
theorem share_slots (r : Rel K b G H σ ρ) {a : Addr} {xs : List V} (ha : H a = some (.lst xs)) (ga : G a = none) (h0 : b.H0 a = none) (ht : b.T a = none) (no : ∀ i, ¬ Owns σ ρ i a) :
    Rel K b (upd G a (.lst xs)) H σ ρ := by
  have sg : Same G (upd G a (.lst xs)) := fun c o q => by rw [upd_ne (ne_of_none q ga)]; exact q
  refine ⟨fun c o q => ?_, r.len, fun i sv q => ?_, r.apart, r.keep, fun c o q => sg _ _ (r.base c o q), fun c o q => ?_, r.byr, fun c o q => ?_⟩
  · by_cases e : c = a
    · subst e; rw [upd_same] at q; rw [ha]; exact q
    · rw [upd_ne e] at q; exact r.le _ _ q
  · obtain ⟨v, h1, h2⟩ := r.slot i sv q
    refine ⟨v, h1, ?_⟩
    cases sv with
    | d x => exact Da.mono sg h2
    | ow l =>
      obtain ⟨c, ys, e1, h3, h4, h5, h6⟩ := h2
      subst e1
      have ne : c ≠ a := fun z => no i ⟨by rw [h1, z], l, .inl q⟩
      exact ⟨c, ys, rfl, h3, by rw [upd_ne ne]; exact h4, h5, DaAll.mono sg h6⟩
    | rf l =>
      obtain ⟨c, ys, e1, h3, h4, h5, h6⟩ := h2
      subst e1
      have ne : c ≠ a := fun z => no i ⟨by rw [h1, z], l, .inr q⟩
      exact ⟨c, ys, rfl, h3, by rw [upd_ne ne]; exact h4, h5, DaAll.mono sg h6⟩
    | ex c =>
      obtain ⟨c, e1, h3⟩ := h2
      exact ⟨c, e1, sg _ _ h3⟩
    | px c =>
      obtain ⟨c, u, e1, h3, h4⟩ := h2
      exact ⟨c, u, e1, seqT sg h3, sg _ _ h4⟩
    | al j p => exact h2
    | on w =>
      obtain ⟨hr, F, h3, h4⟩ := h2
      exact ⟨hr, F, Lin.frame sg h3 (fun _ _ => rfl) fun c hc => by
        obtain ⟨h5, us, h6⟩ := Lin.own h3 c hc
        rw [upd_ne (fun z => by rw [z, ht] at h6; cases h6)]
        exact h5, h4⟩
    | fz l =>
      obtain ⟨c, ys, e1, h3, h4⟩ := h2
      exact ⟨c, ys, e1, sg.seq h3, DaAll.mono sg h4⟩
  · by_cases e : c = a
    · subst e; exact .inr h0
    · rw [upd_ne e] at q; exact r.fresh c o q
  · obtain ⟨h1, h2, h3, h4⟩ := r.tmp c o q
    have ne : c ≠ a := fun z => by rw [z, ht] at q; cases q
    exact ⟨h1, by rw [upd_ne ne]; exact h2, h3, h4⟩
theorem Rel.pub (r : Rel K b G H σ ρ) {v : V} {sv : Sv} {x : D} (h : RepT K b G H σ ρ v sv) (e : sv.dat? = some x) : ∃ G1, Rel K b G1 H σ ρ ∧ Same G G1 ∧ Da K G1 v x := by
  cases sv with
  | d y => cases e; exact ⟨G, r, Same.refl _, h⟩
  | ow l =>
    cases e
    obtain ⟨a, xs, rfl, ha, ga, h0, ht, no, hx⟩ := h
    have sg : Same G (upd G a (.lst xs)) := fun c o q => by rw [upd_ne (ne_of_none q ga)]; exact q
    exact ⟨_, share_slots r ha ga h0 ht no, sg, .lst upd_same (DaAll.mono sg hx)⟩
  | rf l => cases e
  | ex c => cases e
  | px c => cases e
  | on w => cases e
  | al j p => cases e
  | fz l => cases e
end

section
variable {K : PySem.W.Frag} {b : Bx} {G H : Hp} {σ : St} {ρ : Ev}
/-- lists of nobody's become shared data -/
theorem Rel.shareF {F : List Addr} (r : Rel K b G H σ ρ) (hF : ∀ a ∈ F, G a = none ∧ b.H0 a = none ∧ b.T a = none ∧ ∀ i, ¬ Owns σ ρ i a) : Rel K b (takeIn G H F) H σ ρ := by
  have sg : Same G (takeIn G H F) := takeIn_same fun a ha => (hF a ha).1
  have out : ∀ {c : Addr}, G c = none → c ∉ F → takeIn G H F c = none := fun {c} h n => by unfold takeIn; rw [if_neg n]; exact h
  refine ⟨takeIn_le r.le, r.len, fun i sv q => ?_, r.apart, r.keep, fun c o q => sg _ _ (r.base c o q), fun c o q => ?_, r.byr, fun c o q => ?_⟩
  · obtain ⟨v, h1, h2⟩ := r.slot i sv q
    refine ⟨v, h1, ?_⟩
    cases sv with
    | d x => exact Da.mono sg h2
    | ow l =>
      obtain ⟨c, ys, e1, h3, h4, h5, h6⟩ := h2
      subst e1
      exact ⟨c, ys, rfl, h3, out h4 fun z => (hF c z).2.2.2 i ⟨h1, l, .inl q⟩, h5, DaAll.mono sg h6⟩
    | rf l =>
      obtain ⟨c, ys, e1, h3, h4, h5, h6⟩ := h2
      subst e1
      exact ⟨c, ys, rfl, h3, out h4 fun z => (hF c z).2.2.2 i ⟨h1, l, .inr q⟩, h5, DaAll.mono sg h6⟩
    | ex c =>
      obtain ⟨c, e1, h3⟩ := h2
      exact ⟨c, e1, sg _ _ h3⟩
    | px c =>
      obtain ⟨c, u, e1, h3, h4⟩ := h2
      exact ⟨c, u, e1, seqT sg h3, sg _ _ h4⟩
    | al j p => exact h2
    | on w =>
      obtain ⟨hr, F', h3, h4⟩ := h2
      exact ⟨hr, F', Lin.frame sg h3 (fun _ _ => rfl) fun c hc => by
        obtain ⟨h5, us, h6⟩ := Lin.own h3 c hc
        exact out h5 fun z => (by rw [(hF c z).2.2.1] at h6; cases h6), h4⟩
    | fz l =>
      obtain ⟨c, ys, e1, h3, h4⟩ := h2
      exact ⟨c, ys, e1, sg.seq h3, DaAll.mono sg h4⟩
  · by_cases e : c ∈ F
    · exact .inr (hF c e).2.1
    · unfold takeIn at q; rw [if_neg e] at q; exact r.fresh c o q
  · obtain ⟨h1, h2, h3, h4⟩ := r.tmp c o q
    exact ⟨h1, out h2 fun z => (by rw [(hF c z).2.2.1] at q; cases q), h3, h4⟩
end
/-- as shared data, where it is a structure of one's own -/
def Sv.pl : Sv → Sv
  | .on w => .d w.toD
  | sv => sv

/-! ### results -/
inductive RE where
  | ok (v : Sv) (ρ : Ev)
  | raise (c : Nat) (ρ : Ev)
  | stuck
def RE.bindD (r : RE) (k : D → Ev → RE) : RE := match r with
  | .ok sv ρ => match sv.dat? with
    | some x => k x ρ
    | none => .stuck
  | .raise c ρ => .raise c ρ
  | .stuck => .stuck
def RE.of (o : Option Sv) (ρ : Ev) : RE := match o with
  | some sv => .ok sv ρ
  | none => .stuck
section
variable (K : PySem.W.Frag) (b : Bx) (W : WX)
def PostE (G : Hp) (σ : St) (Q : VK) : RE → Prop
  | .ok sv ρ' => ∀ v G' H', Rel K b G' H' σ ρ' → Same G G' → RepT K b G' H' σ ρ' v sv → Q v H'
  | .raise c ρ' => ∀ G' H', Rel K b G' H' σ ρ' → Same G G' → W (.ref (b.cl c)) none σ H'
  | .stuck => False
/-- an expression by its value: the reading that a function on environments tells -/
def tE (f : Ev → RE) : TE := fun σ H Q => ∃ ρ G, Rel K b G H σ ρ ∧ PostE K b W G σ Q (f ρ)
end
section
variable {K : PySem.W.Frag} {b : Bx} {W : WX} {G G1 H : Hp} {σ : St} {ρ : Ev} {Q : VK}
theorem PostE.mono {r : RE} (e : Same G G1) (h : PostE K b W G σ Q r) : PostE K b W G1 σ Q r := by
  cases r with
  | ok sv ρ' => exact fun v G' H' r s q => h v G' H' r (e.trans s) q
  | raise c ρ' => exact fun G' H' r s => h G' H' r (e.trans s)
  | stuck => exact h
/-- an operand: its data, then the rest -/
theorem stepD {fa : Ev → RE} {k : D → Ev → RE} (r : Rel K b G H σ ρ) (h : PostE K b W G σ Q ((fa ρ).bindD k)) {R : V → Hp → Prop}
    (hR : ∀ v H1 ρ1 G1 x, Rel K b G1 H1 σ ρ1 → Same G G1 → Da K G1 v x → PostE K b W G1 σ Q (k x ρ1) → R v H1) : tE K b W fa σ H R := by
  refine ⟨ρ, G, r, ?_⟩
  cases e : fa ρ with
  | ok sv ρ1 =>
    rw [e] at h
    intro v G' H' r' s' q'
    have h : PostE K b W G σ Q (match sv.dat? with
      | some x => k x ρ1
      | none => .stuck) := h
    cases ed : sv.dat? with
    | none => rw [ed] at h; exact h.elim
    | some x =>
      rw [ed] at h
      obtain ⟨G1, r1, s1, q1⟩ := r'.pub q' ed
      exact hR v H' ρ1 G1 x r1 (s'.trans s1) q1 (PostE.mono (s'.trans s1) h)
  | raise c ρ1 => rw [e] at h; exact h
  | stuck => rw [e] at h; exact h.elim
theorem PE.imp {X : Cx} {e : Expr} {t t' : TE} (h : PE X e t) (i : ∀ σ H Q, t' σ H Q → t σ H Q) : PE X e t' := ⟨fun pins s σ H Q I q => h.run pins s σ H Q I (i _ _ _ q)⟩
theorem PT.imp {X : Cx} {e : Expr} {t t' : TT} (h : PT X e t) (i : ∀ σ H Q, t' σ H Q → t σ H Q) : PT X e t' := ⟨fun pins s σ H Q I q => h.run pins s σ H Q I (i _ _ _ q)⟩
theorem PS.imp {X : Cx} {e : Stmt} {t t' : TS} (h : PS X e t) (i : ∀ D σ H, t' D σ H → t D σ H) : PS X e t' := ⟨fun pins s σ H D I q => h.run pins s σ H D I (i _ _ _ q)⟩
theorem PSs.imp {X : Cx} {e : List Stmt} {t t' : TS} (h : PSs X e t) (i : ∀ D σ H, t' D σ H → t D σ H) : PSs X e t' := ⟨fun pins s σ H D I q => h.run pins s σ H D I (i _ _ _ q)⟩
theorem PA.imp {X : Cx} {e : List Expr} {t t' : TA} (h : PA X e t) (i : ∀ σ H Q, t' σ H Q → t σ H Q) : PA X e t' := ⟨fun pos pins s σ H Q I q => h.run pos pins s σ H Q I (i _ _ _ q)⟩

/-! ### operands: an expression's data, or a name that is looked at without being shared -/
def viewAt (ρ : Ev) (i : Nat) : Option D := match ρ[i]? with
  | some (some (.d x)) => some x
  | some (some (.ow l)) => some (.list l)
  | some (some (.rf l)) => some (.list l)
  | _ => none
/-- v is seen as x: shared data, or a list that is owned -/
def Vw (K : PySem.W.Frag) (G H : Hp) (v : V) (x : D) : Prop := Da K G v x ∨ ∃ a xs l, v = .ref a ∧ x = .list l ∧ H a = some (.lst xs) ∧ DaAll K G xs l
theorem Vw.dp (s : Same G H) {v : V} {x : D} (h : Vw K G H v x) : Dp K H v x := by
  rcases h with h | ⟨a, xs, l, rfl, rfl, h1, h2⟩
  · exact Da.dp (Da.mono s h)
  · exact .lst (SqL.of h1) (DaAll.dp (DaAll.mono s h2))
theorem Rel.view {i : Nat} {x : D} (r : Rel K b G H σ ρ) (h : viewAt ρ i = some x) : ∃ v, σ[i]? = some (some v) ∧ Vw K G H v x := by
  unfold viewAt at h
  split at h
  · rename_i y e
    cases h
    obtain ⟨v, h1, h2⟩ := r.slot _ _ e
    exact ⟨v, h1, .inl h2⟩
  · rename_i l e
    cases h
    obtain ⟨v, h1, a, xs, rfl, ha, ga, h0, hx⟩ := r.slot _ _ e
    exact ⟨_, h1, .inr ⟨a, xs, l, rfl, rfl, ha, hx⟩⟩
  · rename_i l e
    cases h
    obtain ⟨v, h1, a, xs, rfl, ha, ga, h0, hx⟩ := r.slot _ _ e
    exact ⟨_, h1, .inr ⟨a, xs, l, rfl, rfl, ha, hx⟩⟩
  · cases h
inductive Opd where
  | e (f : Ev → RE)
  | n (i : Nat)
inductive Ov where
  | val (x : D)
  | nm (i : Nat)
def Ov.get (ρ : Ev) : Ov → Option D
  | .val x => some x
  | .nm i => viewAt ρ i
def Opd.run (o : Opd) (ρ : Ev) (k : Ov → Ev → RE) : RE := match o with
  | .e f => (f ρ).bindD fun x ρ1 => k (.val x) ρ1
  | .n i => match viewAt ρ i with
    | some _ => k (.nm i) ρ
    | none => .stuck
def tO (K : PySem.W.Frag) (b : Bx) (W : WX) : Opd → TE
  | .e f => tE K b W f
  | .n i => tVar i
def VwO (K : PySem.W.Frag) (G : Hp) (σ : St) (v : V) : Ov → Prop
  | .val x => Da K G v x
  | .nm i => σ[i]? = some (some v)
theorem VwO.mono (s : Same G G1) {v : V} {o : Ov} (h : VwO K G σ v o) : VwO K G1 σ v o := by
  cases o with
  | val x => exact Da.mono s h
  | nm i => exact h
theorem VwO.vw (r : Rel K b G H σ ρ) {v : V} {o : Ov} {x : D} (h : VwO K G σ v o) (e : o.get ρ = some x) : Vw K G H v x := by
  cases o with
  | val y => cases e; exact .inl h
  | nm i =>
    obtain ⟨u, h1, h2⟩ := r.view e
    rw [show σ[i]? = some (some v) from h] at h1
    cases h1
    exact h2
theorem stepO {o : Opd} {k : Ov → Ev → RE} (r : Rel K b G H σ ρ) (h : PostE K b W G σ Q (o.run ρ k)) {R : V → Hp → Prop}
    (hR : ∀ v H1 ρ1 G1 ov, Rel K b G1 H1 σ ρ1 → Same G G1 → VwO K G1 σ v ov → PostE K b W G1 σ Q (k ov ρ1) → R v H1) : tO K b W o σ H R := by
  cases o with
  | e f => exact stepD r h fun v H1 ρ1 G1 x r1 s1 d1 q1 => hR v H1 ρ1 G1 (.val x) r1 s1 d1 q1
  | n i =>
    have h : PostE K b W G σ Q (match viewAt ρ i with
      | some _ => k (.nm i) ρ
      | none => .stuck) := h
    cases e : viewAt ρ i with
    | none => rw [e] at h; exact h.elim
    | some x =>
      rw [e] at h
      obtain ⟨v, h1, _⟩ := r.view e
      exact ⟨v, h1, hR v H ρ G (.nm i) r (Same.refl _) h1 h⟩

/-! ### operators -/
def Post1 (K : PySem.W.Frag) (b : Bx) (G : Hp) (σ : St) (ρ : Ev) (Q : VK) : Option Sv → Prop
  | some sv => ∀ v G' H', Rel K b G' H' σ ρ → Same G G' → RepT K b G' H' σ ρ v sv → Q v H'
  | none => False
theorem post_of {o : Option Sv} (h : PostE K b W G σ Q (RE.of o ρ)) : Post1 K b G σ ρ Q o := by
  cases o with
  | some sv => exact h
  | none => exact h
def OpS (K : PySem.W.Frag) (r : R2) (g : D → D → Option Sv) : Prop := ∀ (b : Bx) (G H : Hp) (σ : St) (ρ : Ev) (x y : V) (dx dy : D) (Q : VK), Rel K b G H σ ρ → Vw K G H x dx → Vw K G H y dy →
  Post1 K b G σ ρ Q (g dx dy) → r x y H Q
theorem OpS.or {r r' : R2} {g g' : D → D → Option Sv} (h : OpS K r g) (h' : OpS K r' g') : OpS K (fun x y H Q => r x y H Q ∨ r' x y H Q) (fun x y => match g x y with | some z => some z | none => g' x y) := by
  intro b G H σ ρ x y dx dy Q rl hx hy hq
  cases e : g dx dy with
  | some z =>
    simp only [e] at hq
    exact .inl (h b G H σ ρ x y dx dy Q rl hx hy (by rw [e]; exact hq))
  | none =>
    simp only [e] at hq
    exact .inr (h' b G H σ ρ x y dx dy Q rl hx hy hq)
/-- two operands' data, then g -/
def RE.of2 (g : D → D → Option Sv) (a c : Ov) (ρ : Ev) : RE := match a.get ρ, c.get ρ with
  | some x, some y => RE.of (g x y) ρ
  | _, _ => .stuck
def fOp (g : D → D → Option Sv) (a c : Opd) : Ev → RE := fun ρ => a.run ρ fun x ρ1 => c.run ρ1 fun y ρ2 => RE.of2 g x y ρ2
theorem of2_post {g : D → D → Option Sv} {x y : Ov} {ρ : Ev} (h : PostE K b W G σ Q (RE.of2 g x y ρ)) : ∃ dx dy, x.get ρ = some dx ∧ y.get ρ = some dy ∧ Post1 K b G σ ρ Q (g dx dy) := by
  unfold RE.of2 at h
  split at h
  · exact ⟨_, _, by assumption, by assumption, post_of h⟩
  · exact h.elim
theorem op_post {r : R2} {g : D → D → Option Sv} {oa ob : Opd} (hs : OpS K r g) : ∀ σ H Q, tE K b W (fOp g oa ob) σ H Q → tOp r (tO K b W oa) (tO K b W ob) σ H Q := by
  rintro σ H Q ⟨ρ, G, rl, h⟩
  refine stepO rl h fun v H1 ρ1 G1 x r1 s1 d1 q1 => ?_
  refine stepO r1 q1 fun u H2 ρ2 G2 y r2 s2 d2 q2 => ?_
  obtain ⟨dx, dy, e1, e2, q⟩ := of2_post q2
  exact hs b G2 H2 σ ρ2 v u dx dy Q r2 ((d1.mono s2).vw r2 e1) (d2.vw r2 e2) q
/-- an operand's syntax -/
abbrev PO2 (X : Cx) (b : Bx) (W : WX) (e : Expr) (o : Opd) : Prop := PE X e (tO X.K b W o)
theorem o_n {X : Cx} (i : Nat) {x : Str} {pos : Pos} (hN : X.N[i]? = some x := by rfl) (hv : Vis X.env.scope x := by first | exact Or.inl rfl | exact Or.inr (Or.inl rfl) | exact Or.inr (Or.inr rfl)) (hd : (x == ("__debug__" : Str)) = false := by decide)
    (hcd : (x == ("__classdict__" : Str)) = false := by decide) : PO2 X b W (.Name x pos) (.n i) := pe_var hN hv hd hcd
theorem o_e {X : Cx} {e : Expr} {f : Ev → RE} (h : PE X e (tE X.K b W f)) : PO2 X b W e (.e f) := h
theorem e_op {X : Cx} {a c : Expr} {op : Operator} {pos : Pos} {r : R2} {g : D → D → Option Sv} {oa ob : Opd} (ho : OpR X (binaryOp op) r) (hs : OpS X.K r g) (ha : PO2 X b W a oa) (hb : PO2 X b W c ob) :
    PE X (.BinOp a op c pos) (tE X.K b W (fOp g oa ob)) := PE.imp (pe_op ho ha hb) (op_post hs)
theorem e_cmp {X : Cx} {a c : Expr} {op : CmpOp} {pos : Pos} {r : R2} {g : D → D → Option Sv} {oa ob : Opd} (ho : OpR X (compareOp op) r) (hs : OpS X.K r g) (ha : PO2 X b W a oa) (hb : PO2 X b W c ob) (hm : behindInMarks op c = false := by first | exact nomark _ | rfl) :
    PE X (.Compare a [op] [c] pos) (tE X.K b W (fOp g oa ob)) := PE.imp (pe_cmpR ho ha hb hm) (op_post hs)
end
end Dl
set_option maxHeartbeats 4000000
namespace Dl
open PySem PySem.Spec L2

/-! ### what operators give on data -/
def addD : D → D → Option Sv
  | .int i, .int j => some (.d (.int (i + j)))
  | .str x, .str y => if x.length + y.length ≤ sizeLine then some (.d (.str (x ++ y))) else none
  | .tuple xs, .tuple ys => if xs.length + ys.length ≤ sizeLine then some (.d (.tuple (xs ++ ys))) else none
  | .list xs, .list ys => if xs.length + ys.length ≤ sizeLine then some (.ow (xs ++ ys)) else none
  | _, _ => none
def subD : D → D → Option Sv
  | .int i, .int j => some (.d (.int (i - j)))
  | _, _ => none
def mulD : D → D → Option Sv
  | .int i, .int j => if i.natAbs.log2 + j.natAbs.log2 < 1000000 then some (.d (.int (i * j))) else none
  | .list xs, .int k => if -(2 ^ 63) ≤ k ∧ k < 2 ^ 63 ∧ xs.length * k.toNat ≤ sizeLine then some (.ow (List.replicate k.toNat xs).flatten) else none
  | .str z, .int k => if -(2 ^ 63) ≤ k ∧ k < 2 ^ 63 ∧ z.length * k.toNat ≤ sizeLine then some (.d (.str (Txt.mul z k))) else none
  | _, _ => none
def fdivD : D → D → Option Sv
  | .int i, .int j => if 0 < j ∧ j.natAbs.log2 < 9000 then some (.d (.int (i / j))) else none
  | _, _ => none
def modD : D → D → Option Sv
  | .int i, .int j => if 0 < j then some (.d (.int (i % j))) else none
  | _, _ => none
def powD : D → D → Option Sv
  | .int i, .int j => if 0 ≤ j ∧ j ≤ 1000000 ∧ i.natAbs < 2 ^ 64 then some (.d (.int (i ^ j.toNat))) else none
  | _, _ => none
def bol (c : Bool) : Sv := .d (.bool c)
def ltD : D → D → Option Sv | .int i, .int j => some (bol (decide (i < j))) | _, _ => none
def leD : D → D → Option Sv | .int i, .int j => some (bol (decide (i ≤ j))) | _, _ => none
def gtD : D → D → Option Sv | .int i, .int j => some (bol (decide (j < i))) | _, _ => none
def geD : D → D → Option Sv | .int i, .int j => some (bol (decide (j ≤ i))) | _, _ => none
def eqB : D → D → Option Bool
  | .str x, .str y => some (x == y)
  | x, y => if SeqAt.shaped x && SeqAt.shaped y then some (PyData.eqv x y) else none
def eqD (x y : D) : Option Sv := (eqB x y).map bol
def neD (x y : D) : Option Sv := (eqB x y).map fun c => bol (!c)
/-- x in y -/
def inB : D → D → Option Bool
  | x, .list ys => if SeqAt.shaped x && SeqAt.shaped (.list ys) then some (ys.any fun z => PyData.eqv z x) else none
  | .str c, .tuple ys => if ys.all (fun | .str _ => true | _ => false) then some (ys.any fun | .str z => z == c | _ => false) else none
  | .str c, .str z => match c.cps.toList with
    | [n] => some (decide (n ∈ z.cps.toList))
    | _ => none
  | _, _ => none
def inD (x y : D) : Option Sv := (inB x y).map bol
def ninD (x y : D) : Option Sv := (inB x y).map fun c => bol (!c)
def isNoneD (x : D) : Bool := match x with | .none => true | _ => false

section
variable {K : PySem.W.Frag}
theorem post_d {b : Bx} {G H : Hp} {σ : St} {ρ : Ev} {Q : VK} {v : V} {x : D} (r : Rel K b G H σ ρ) (h : Post1 K b G σ ρ Q (some (.d x))) (hd : Da K G v x) : Q v H := h v G H r (Same.refl _) hd
/-- a new tuple -/
theorem post_tup {b : Bx} {G H : Hp} {σ : St} {ρ : Ev} {Q : VK} {vs : List V} {xs : List D} (r : Rel K b G H σ ρ) (h : Post1 K b G σ ρ Q (some (.d (.tuple xs)))) (hd : DaAll K G vs xs) {p : Addr} (hp : H p = none) : Q (.ref p) (upd H p (.tup vs)) := by
  have e := Ext.upd r.le hp (.tup vs)
  exact h _ _ _ (r.ext e) e.g (.tup (SqT.of upd_same) (DaAll.mono e.g hd))
theorem Rel.t0 {b : Bx} {G H : Hp} {σ : St} {ρ : Ev} (r : Rel K b G H σ ρ) {a : Addr} (h : H a = none) : b.T a = none := by
  cases q : b.T a with
  | none => rfl
  | some o => rw [(r.tmp a o q).1] at h; cases h
/-- a new list, owned by nobody yet -/
theorem post_ow {b : Bx} {G H : Hp} {σ : St} {ρ : Ev} {Q : VK} {vs : List V} {xs : List D} (r : Rel K b G H σ ρ) (h : Post1 K b G σ ρ Q (some (.ow xs))) (hd : DaAll K G vs xs) {p : Addr} (hp : H p = none) : Q (.ref p) (upd H p (.lst vs)) := by
  have e := Ext.updH r.le hp (.lst vs)
  refine h _ _ _ (r.ext e) e.g ⟨p, vs, rfl, upd_same, r.g0 hp, r.h0 hp, r.t0 hp, fun i z => ?_, hd⟩
  obtain ⟨z1, l, z2⟩ := z
  rcases z2 with z2 | z2
  · obtain ⟨v, h1, a, ys, e1, h2, _⟩ := r.slot _ _ z2
    rw [z1] at h1; cases h1; cases e1
    rw [hp] at h2; cases h2
  · obtain ⟨v, h1, a, ys, e1, h2, _⟩ := r.slot _ _ z2
    rw [z1] at h1; cases h1; cases e1
    rw [hp] at h2; cases h2
theorem post_if {b : Bx} {G : Hp} {σ : St} {ρ : Ev} {Q : VK} {c : Prop} [Decidable c] {o : Option Sv} (h : Post1 K b G σ ρ Q (if c then o else none)) : c ∧ Post1 K b G σ ρ Q o := by
  by_cases e : c
  · rw [if_pos e] at h; exact ⟨e, h⟩
  · rw [if_neg e] at h; exact h.elim
theorem post_bl {b : Bx} {G H : Hp} {σ : St} {ρ : Ev} {Q : VK} {c : Bool} (r : Rel K b G H σ ρ) (h : Post1 K b G σ ρ Q (some (bol c))) : Q (.bl c) H := post_d r h (.bl c)
theorem post_int {b : Bx} {G H : Hp} {σ : St} {ρ : Ev} {Q : VK} {c : Int} (r : Rel K b G H σ ρ) (h : Post1 K b G σ ρ Q (some (.d (.int c)))) : Q (.int c) H := post_d r h (.int c)
theorem post_str {b : Bx} {G H : Hp} {σ : St} {ρ : Ev} {Q : VK} {c : Str} (r : Rel K b G H σ ρ) (h : Post1 K b G σ ρ Q (some (.d (.str c)))) : Q (.str c) H := post_d r h (.str c)

/-! ### operators, sound -/
def r4 (r1 r2 r3 r4 : R2) : R2 := fun x y H Q => r1 x y H Q ∨ r2 x y H Q ∨ r3 x y H Q ∨ r4 x y H Q
abbrev rAddD (K : PySem.W.Frag) : R2 := fun x y H Q => rI0 (fun i j => .int (i + j)) x y H Q ∨ (∃ i j, x = .str i ∧ y = .str j ∧ i.length + j.length ≤ sizeLine ∧ Q (.str (i ++ j)) H) ∨ rCatA K x y H Q ∨ rCat x y H Q
theorem op_addD {X : Cx} : OpR X (binaryOp .Add) (rAddD X.K) := op_add.or (op_add_str.or (op_catA.or op_cat))
/-- a list that is seen lies in the heap -/
theorem Vw.lst {G H : Hp} (s : Same G H) {v : V} {l : List D} (h : Vw K G H v (.list l)) : ∃ a xs, v = .ref a ∧ H a = some (.lst xs) ∧ DaAll K G xs l := by
  rcases h with h | ⟨a, xs, l', rfl, e, h1, h2⟩
  · cases h with
    | lst h1 h2 => exact ⟨_, _, rfl, s _ _ h1, h2⟩
  · cases e; exact ⟨a, xs, rfl, h1, h2⟩
theorem Vw.da {G H : Hp} {v : V} {x : D} (h : Vw K G H v x) (n : ∀ l, x ≠ .list l) : Da K G v x := by
  rcases h with h | ⟨a, xs, l', rfl, e, h1, h2⟩
  · exact h
  · exact absurd e (n l')
theorem os_add : OpS K (rAddD K) addD := by
  intro b G H σ ρ x y dx dy Q r hx hy h
  have two : (∃ l m, dx = .list l ∧ dy = .list m) ∨ ((∀ l, dx ≠ .list l) ∧ (∀ l, dy ≠ .list l)) := by
    cases dx <;> cases dy <;> first | exact h.elim | exact .inl ⟨_, _, rfl, rfl⟩ | exact .inr ⟨(fun l z => nomatch z), (fun l z => nomatch z)⟩
  rcases two with ⟨ds, ds', rfl, rfl⟩ | ⟨n1, n2⟩
  · obtain ⟨a, xs, rfl, h1, h2⟩ := hx.lst r.le
    obtain ⟨a', xs', rfl, h1', h2'⟩ := hy.lst r.le
    obtain ⟨hz, h⟩ := post_if (show Post1 K b G σ ρ Q (if ds.length + ds'.length ≤ sizeLine then some (.ow (ds ++ ds')) else none) from h)
    have e1 := h2.length
    have e2 := h2'.length
    exact .inr (.inr (.inr ⟨a, a', xs, xs', rfl, rfl, h1, h1', by omega, fun p hp => post_ow r h (h2.append h2') hp⟩))
  have hx := hx.da n1
  have hy := hy.da n2
  cases hx with
  | int i =>
    cases hy with
    | int j => exact .inl ⟨i, j, rfl, rfl, post_int r h⟩
    | _ => exact h.elim
  | str i =>
    cases hy with
    | str j =>
      obtain ⟨hz, h⟩ := post_if (show Post1 K b G σ ρ Q (if i.length + j.length ≤ sizeLine then _ else none) from h)
      exact .inr (.inl ⟨i, j, rfl, rfl, hz, post_str r h⟩)
    | _ => exact h.elim
  | @tup a xs ds h1 h2 =>
    cases hy with
    | @tup a' xs' ds' h1' h2' =>
      obtain ⟨hz, h⟩ := post_if (show Post1 K b G σ ρ Q (if ds.length + ds'.length ≤ sizeLine then some (.d (.tuple (ds ++ ds'))) else none) from h)
      have e1 := h2.length
      have e2 := h2'.length
      refine .inr (.inr (.inl ⟨a, a', xs, xs', rfl, rfl, seqT r.le h1, seqT r.le h1', by omega, fun q => ?_, fun q q' => ?_, fun q q' p hp => ?_⟩))
      · subst q
        cases h2
        rw [List.nil_append] at h
        exact post_d r h (.tup h1' h2')
      · subst q'
        cases h2'
        rw [List.append_nil] at h
        exact post_d r h (.tup h1 h2)
      · exact post_tup r h (h2.append h2') hp
    | _ => exact h.elim
  | lst _ _ => exact absurd rfl (n1 _)
  | _ => exact h.elim
theorem os_ints {g : D → D → Option Sv} {C : Int → Int → Prop} {f : Int → Int → V} (hg : ∀ i j, ∀ {b : Bx} {G H : Hp} {σ : St} {ρ : Ev} {Q : VK}, Rel K b G H σ ρ → Post1 K b G σ ρ Q (g (.int i) (.int j)) → C i j ∧ Q (f i j) H)
    (hn : ∀ x y, (∀ i j, ¬ (x = .int i ∧ y = .int j)) → g x y = none) : OpS K (rI C f) g := by
  intro b G H σ ρ x y dx dy Q r hx hy h
  have two : ∃ i j, dx = .int i ∧ dy = .int j := by
    refine Classical.byContradiction fun z => ?_
    rw [hn _ _ (fun i j q => z ⟨i, j, q.1, q.2⟩)] at h
    exact h.elim
  obtain ⟨i, j, rfl, rfl⟩ := two
  have hx := hx.da fun l z => nomatch z
  have hy := hy.da fun l z => nomatch z
  cases hx
  cases hy
  obtain ⟨c, q⟩ := hg i j r h; exact ⟨i, j, rfl, rfl, c, q⟩
theorem os_ints0 {g : D → D → Option Sv} {f : Int → Int → V} (hg : ∀ i j, ∀ {b : Bx} {G H : Hp} {σ : St} {ρ : Ev} {Q : VK}, Rel K b G H σ ρ → Post1 K b G σ ρ Q (g (.int i) (.int j)) → Q (f i j) H)
    (hn : ∀ x y, (∀ i j, ¬ (x = .int i ∧ y = .int j)) → g x y = none) : OpS K (rI0 f) g := by
  intro b G H σ ρ x y dx dy Q r hx hy h
  have two : ∃ i j, dx = .int i ∧ dy = .int j := by
    refine Classical.byContradiction fun z => ?_
    rw [hn _ _ (fun i j q => z ⟨i, j, q.1, q.2⟩)] at h
    exact h.elim
  obtain ⟨i, j, rfl, rfl⟩ := two
  have hx := hx.da fun l z => nomatch z
  have hy := hy.da fun l z => nomatch z
  cases hx
  cases hy
  exact ⟨i, j, rfl, rfl, hg i j r h⟩
theorem os_sub : OpS K (rI0 fun i j => .int (i - j)) subD := os_ints0 (fun i j _ _ _ _ _ _ r h => post_int r h) fun x y n => by
  unfold subD; split
  · rename_i i j; exact absurd ⟨rfl, rfl⟩ (n i j)
  · rfl
theorem os_lt : OpS K (rI0 fun i j => .bl (decide (i < j))) ltD := os_ints0 (fun i j _ _ _ _ _ _ r h => post_bl r h) fun x y n => by
  unfold ltD; split
  · rename_i i j; exact absurd ⟨rfl, rfl⟩ (n i j)
  · rfl
theorem os_le : OpS K (rI0 fun i j => .bl (decide (i ≤ j))) leD := os_ints0 (fun i j _ _ _ _ _ _ r h => post_bl r h) fun x y n => by
  unfold leD; split
  · rename_i i j; exact absurd ⟨rfl, rfl⟩ (n i j)
  · rfl
theorem os_gt : OpS K (rI0 fun i j => .bl (decide (j < i))) gtD := os_ints0 (fun i j _ _ _ _ _ _ r h => post_bl r h) fun x y n => by
  unfold gtD; split
  · rename_i i j; exact absurd ⟨rfl, rfl⟩ (n i j)
  · rfl
theorem os_ge : OpS K (rI0 fun i j => .bl (decide (j ≤ i))) geD := os_ints0 (fun i j _ _ _ _ _ _ r h => post_bl r h) fun x y n => by
  unfold geD; split
  · rename_i i j; exact absurd ⟨rfl, rfl⟩ (n i j)
  · rfl
theorem os_fdiv : OpS K (rI CDivW fun i j => .int (i / j)) fdivD := os_ints (fun i j b G H σ ρ Q r h => by
    obtain ⟨c, h⟩ := post_if (show Post1 K b G σ ρ Q (if 0 < j ∧ j.natAbs.log2 < 9000 then _ else none) from h)
    exact ⟨c, post_int r h⟩) fun x y n => by
  unfold fdivD; split
  · rename_i i j; exact absurd ⟨rfl, rfl⟩ (n i j)
  · rfl
theorem os_mod : OpS K (rI (fun _ j => 0 < j) fun i j => .int (i % j)) modD := os_ints (fun i j b G H σ ρ Q r h => by
    obtain ⟨c, h⟩ := post_if (show Post1 K b G σ ρ Q (if 0 < j then _ else none) from h)
    exact ⟨c, post_int r h⟩) fun x y n => by
  unfold modD; split
  · rename_i i j; exact absurd ⟨rfl, rfl⟩ (n i j)
  · rfl
theorem os_pow : OpS K (rI CPow fun i j => .int (i ^ j.toNat)) powD := os_ints (fun i j b G H σ ρ Q r h => by
    obtain ⟨c, h⟩ := post_if (show Post1 K b G σ ρ Q (if 0 ≤ j ∧ j ≤ 1000000 ∧ i.natAbs < 2 ^ 64 then _ else none) from h)
    exact ⟨c, post_int r h⟩) fun x y n => by
  unfold powD; split
  · rename_i i j; exact absurd ⟨rfl, rfl⟩ (n i j)
  · rfl
def rMulS : R2 := fun x y H Q => ∃ z k, x = .str z ∧ y = .int k ∧ MulOk z k ∧ Q (.str (Txt.mul z k)) H
theorem op_mulS {X : Cx} : OpR X (binaryOp .Mult) rMulS := by
  intro pins s σ H x y v u Q I rx ry h
  obtain ⟨z, k, rfl, rfl, ok, q⟩ := h
  obtain ⟨t, rfl⟩ := rx
  obtain ⟨t', rfl⟩ := ry
  exact SB.mul ok fun t2 tk => ⟨.str (Txt.mul z k), H, I.tok _, ⟨_, rfl⟩, q⟩
theorem mulOk_of {z : Str} {k : Int} (h1 : -(2 ^ 63) ≤ k) (h2 : k < 2 ^ 63) (h3 : z.length * k.toNat ≤ sizeLine) : MulOk z k := by
  refine ⟨?_, fun c _ => ?_, fun _ _ => ?_⟩
  · rw [Bool.or_eq_false_iff]
    exact ⟨decide_eq_false (by omega), decide_eq_false (by omega)⟩
  · have hk : 0 < k := by omega
    rw [sizeLine_eq] at h3
    have h4 : (z.length : Int) * k ≤ 2 ^ 63 - 1 := by
      obtain ⟨m, rfl⟩ : ∃ m : Nat, k = (m : Int) := ⟨k.toNat, by omega⟩
      rw [Int.toNat_natCast] at h3
      rw [← Int.natCast_mul]
      omega
    have h5 := (Int.le_ediv_iff_mul_le hk).mpr h4
    omega
  · exact decide_eq_false (by omega)
abbrev rMulD : R2 := fun x y H Q => (rI CMulW (fun i j => .int (i * j)) x y H Q ∨ rRep x y H Q) ∨ rMulS x y H Q
theorem op_mulD {X : Cx} : OpR X (binaryOp .Mult) rMulD := (op_mulW.or op_rep).or op_mulS
theorem DaAll.rep {G : Hp} {vs : List V} {xs : List D} (h : DaAll K G vs xs) : ∀ k : Nat, DaAll K G (List.replicate k vs).flatten (List.replicate k xs).flatten
  | 0 => .nil
  | k + 1 => by
    rw [List.replicate_succ, List.replicate_succ, List.flatten_cons, List.flatten_cons]
    exact h.append (DaAll.rep h k)
theorem os_mul : OpS K rMulD mulD := by
  intro b G H σ ρ x y dx dy Q r hx hy h
  have two : (∃ i j, dx = .int i ∧ dy = .int j) ∨ (∃ l k, dx = .list l ∧ dy = .int k) ∨ ∃ z k, dx = .str z ∧ dy = .int k := by
    cases dx <;> cases dy <;> first | exact h.elim | exact .inl ⟨_, _, rfl, rfl⟩ | exact .inr (.inl ⟨_, _, rfl, rfl⟩) | exact .inr (.inr ⟨_, _, rfl, rfl⟩)
  have hy := hy.da fun l z => by rcases two with ⟨i, j, _, e⟩ | ⟨i, j, _, e⟩ | ⟨i, j, _, e⟩ <;> (rw [e] at z; cases z)
  rcases two with ⟨i, j, rfl, rfl⟩ | ⟨ds, k, rfl, rfl⟩ | ⟨z, k, rfl, rfl⟩
  · have hx := hx.da fun l z => nomatch z
    cases hx
    cases hy
    obtain ⟨c, h⟩ := post_if (show Post1 K b G σ ρ Q (if i.natAbs.log2 + j.natAbs.log2 < 1000000 then _ else none) from h)
    exact .inl (.inl ⟨i, j, rfl, rfl, c, post_int r h⟩)
  · obtain ⟨a, xs, rfl, h1, h2⟩ := hx.lst r.le
    cases hy
    obtain ⟨c, h⟩ := post_if (show Post1 K b G σ ρ Q (if -(2 ^ 63) ≤ k ∧ k < 2 ^ 63 ∧ ds.length * k.toNat ≤ sizeLine then some (.ow (List.replicate k.toNat ds).flatten) else none) from h)
    obtain ⟨c1, c2, c3⟩ := c
    have e1 := h2.length
    exact .inl (.inr ⟨a, k, xs, rfl, rfl, h1, c1, c2, by rw [e1]; exact c3, fun p hp => post_ow r h (h2.rep k.toNat) hp⟩)
  · have hx := hx.da fun l z => nomatch z
    cases hx
    cases hy
    obtain ⟨c, h⟩ := post_if (show Post1 K b G σ ρ Q (if -(2 ^ 63) ≤ k ∧ k < 2 ^ 63 ∧ z.length * k.toNat ≤ sizeLine then some (.d (.str (Txt.mul z k))) else none) from h)
    obtain ⟨c1, c2, c3⟩ := c
    exact .inr ⟨z, k, rfl, rfl, mulOk_of c1 c2 c3, post_str r h⟩
abbrev rEqD2 (K : PySem.W.Frag) : R2 := fun x y H Q => rEq x y H Q ∨ rEqD K x y H Q
abbrev rNeD2 (K : PySem.W.Frag) : R2 := fun x y H Q => rNe x y H Q ∨ rNeD K x y H Q
theorem op_eqD2 {X : Cx} (hu : X.A.units + 64 < cLine) : OpR X (compareOp .Eq) (rEqD2 X.K) := op_eq.or (op_eqD hu)
theorem op_neD2 {X : Cx} (hu : X.A.units + 64 < cLine) : OpR X (compareOp .NotEq) (rNeD2 X.K) := op_ne.or (op_neD hu)
theorem eqB_cases (x y : D) (c : Bool) (h : eqB x y = some c) : (∃ s t, x = .str s ∧ y = .str t ∧ c = (s == t)) ∨ (SeqAt.shaped x = true ∧ SeqAt.shaped y = true ∧ c = PyData.eqv x y) := by
  unfold eqB at h
  split at h
  · cases h; exact .inl ⟨_, _, rfl, rfl, rfl⟩
  · split at h
    · rename_i z
      cases h
      rw [Bool.and_eq_true] at z
      exact .inr ⟨z.1, z.2, rfl⟩
    · cases h
theorem os_eq : OpS K (rEqD2 K) eqD := by
  intro b G H σ ρ x y dx dy Q r hx hy h
  unfold eqD at h
  cases e : eqB dx dy with
  | none => rw [e] at h; exact h.elim
  | some c =>
    rw [e] at h
    rcases eqB_cases dx dy c e with ⟨s, t, rfl, rfl, rfl⟩ | ⟨h1, h2, rfl⟩
    · have hx := hx.da fun l z => nomatch z
      have hy := hy.da fun l z => nomatch z
      cases hx; cases hy
      refine .inl ⟨rfl, ?_⟩
      rw [dec_str]
      exact post_bl r h
    · exact .inr ⟨dx, dy, hx.dp r.le, hy.dp r.le, h1, h2, post_bl r h⟩
theorem os_ne : OpS K (rNeD2 K) neD := by
  intro b G H σ ρ x y dx dy Q r hx hy h
  unfold neD at h
  cases e : eqB dx dy with
  | none => rw [e] at h; exact h.elim
  | some c =>
    rw [e] at h
    rcases eqB_cases dx dy c e with ⟨s, t, rfl, rfl, rfl⟩ | ⟨h1, h2, rfl⟩
    · have hx := hx.da fun l z => nomatch z
      have hy := hy.da fun l z => nomatch z
      cases hx; cases hy
      refine .inl ⟨rfl, ?_⟩
      rw [dec_str]
      exact post_bl r h
    · exact .inr ⟨dx, dy, hx.dp r.le, hy.dp r.le, h1, h2, post_bl r h⟩
/-! in, not in -/
abbrev rInSign (neg : Bool) : R2 := fun x y H Q => ∃ (c : Nat) (z : Str), x = .str ⟨#[c]⟩ ∧ y = .str z ∧ Q (.bl (if neg then !decide (c ∈ z.cps.toList) else decide (c ∈ z.cps.toList))) H
theorem op_inS {X : Cx} : OpR X (compareOp .In) (rInSign false) := op_in_sign
theorem op_ninS {X : Cx} : OpR X (compareOp .NotIn) (rInSign true) := op_notIn_sign
abbrev rInA (K : PySem.W.Frag) : R2 := fun x y H Q => rInD K x y H Q ∨ rIn K false x y H Q ∨ rInSign false x y H Q
abbrev rNinA (K : PySem.W.Frag) : R2 := fun x y H Q => rNotInD K x y H Q ∨ rIn K true x y H Q ∨ rInSign true x y H Q
theorem op_inA {X : Cx} (hu : X.A.units + 65 < cLine) : OpR X (compareOp .In) (rInA X.K) := (op_inD hu).or (op_in_seq.or op_inS)
theorem op_ninA {X : Cx} (hu : X.A.units + 65 < cLine) : OpR X (compareOp .NotIn) (rNinA X.K) := (op_notInD hu).or (op_notIn_seq.or op_ninS)
theorem strs_flat {G : Hp} {c : Str} : ∀ {vs : List V} {xs : List D}, DaAll K G vs xs → xs.all (fun | .str _ => true | _ => false) = true → vs.all flatV = true ∧ inV (.str c) vs = xs.any fun | .str z => z == c | _ => false
  | _, _, .nil, _ => ⟨rfl, rfl⟩
  | _, _, .cons h r, e => by
    rw [List.all_cons, Bool.and_eq_true] at e
    obtain ⟨q1, q2⟩ := strs_flat r e.2
    cases h with
    | str z =>
      refine ⟨by rw [List.all_cons, q1]; rfl, ?_⟩
      have q2' : inV (.str c) _ = _ := q2
      unfold inV at q2' ⊢
      rw [List.any_cons, List.any_cons, q2']
      rfl
    | _ => exact absurd e.1 Bool.false_ne_true
theorem one_sign {c : Str} {n : Nat} (h : c.cps.toList = [n]) : c = ⟨#[n]⟩ := by
  cases c with
  | mk cps => simp at h; cases cps; simp at h; subst h; rfl
theorem os_in : OpS K (rInA K) inD := by
  intro b G H σ ρ x y dx dy Q r hx hy h
  unfold inD at h
  have hx' := hx.dp r.le
  have hy' := hy.dp r.le
  unfold inB at h
  split at h
  · split at h
    · rename_i z
      rw [Bool.and_eq_true] at z
      exact .inl ⟨_, _, hx', hy', z.1, z.2, post_bl r h⟩
    · exact h.elim
  · split at h
    · rename_i c ys z
      have hx := hx.da fun l z => nomatch z
      have hy := hy.da fun l z => nomatch z
      cases hx
      cases hy with
      | tup h1 h2 =>
        obtain ⟨q1, q2⟩ := strs_flat (c := c) h2 z
        refine .inr (.inl ⟨_, _, rfl, .inr (seqT r.le h1), rfl, q1, ?_⟩)
        rw [if_neg Bool.false_ne_true, q2]
        exact post_bl r h
    · exact h.elim
  · split at h
    · rename_i n e
      have hx := hx.da fun l z => nomatch z
      have hy := hy.da fun l z => nomatch z
      cases hx; cases hy
      refine .inr (.inr ⟨n, _, ?_, rfl, post_bl r h⟩)
      rw [one_sign e]
    · exact h.elim
  · exact h.elim
theorem os_nin : OpS K (rNinA K) ninD := by
  intro b G H σ ρ x y dx dy Q r hx hy h
  unfold ninD at h
  have hx' := hx.dp r.le
  have hy' := hy.dp r.le
  unfold inB at h
  split at h
  · split at h
    · rename_i z
      rw [Bool.and_eq_true] at z
      exact .inl ⟨_, _, hx', hy', z.1, z.2, post_bl r h⟩
    · exact h.elim
  · split at h
    · rename_i c ys z
      have hx := hx.da fun l z => nomatch z
      have hy := hy.da fun l z => nomatch z
      cases hx
      cases hy with
      | tup h1 h2 =>
        obtain ⟨q1, q2⟩ := strs_flat (c := c) h2 z
        refine .inr (.inl ⟨_, _, rfl, .inr (seqT r.le h1), rfl, q1, ?_⟩)
        rw [if_pos rfl, q2]
        exact post_bl r h
    · exact h.elim
  · split at h
    · rename_i n e
      have hx := hx.da fun l z => nomatch z
      have hy := hy.da fun l z => nomatch z
      cases hx; cases hy
      refine .inr (.inr ⟨n, _, ?_, rfl, post_bl r h⟩)
      rw [one_sign e]
    · exact h.elim
  · exact h.elim
end

/-! ### constants, names -/
section
variable {X : Cx} {b : Bx} {W : WX}
def fC (x : D) : Ev → RE := fun ρ => .ok (.d x) ρ
theorem e_const {e : Expr} {v : V} {x : D} (h : PE X e (tC v)) (hd : ∀ G, Da X.K G v x) : PE X e (tE X.K b W (fC x)) := PE.imp h fun σ H Q ⟨ρ, G, r, q⟩ => q v G H r (Same.refl _) (hd G)
theorem e_int {i j pos} : PE X (.Constant (.int i) j pos) (tE X.K b W (fC (.int i))) := e_const pe_int fun _ => .int i
theorem e_bl {i j pos} : PE X (.Constant (.bool i) j pos) (tE X.K b W (fC (.bool i))) := e_const pe_bl fun _ => .bl i
theorem e_non {j pos} : PE X (.Constant .none j pos) (tE X.K b W (fC .none)) := e_const pe_non fun _ => .non
theorem e_str {x j pos} : PE X (.Constant (.str x) j pos) (tE X.K b W (fC (.str x))) := e_const pe_str fun _ => .str x
/-- a module's constant -/
theorem e_glob {x : Str} {v : V} {d : D} {u : Value} {pos : Pos} (hg : Gl X x) (hm : X.mg x = some u) (r : RelV v u) (hd : ∀ G, Da X.K G v d) (hdb : (x == ("__debug__" : Str)) = false := by decide) : PE X (.Name x pos) (tE X.K b W (fC d)) := e_const (pe_glob hg hm r hdb) hd

/-- a name: what is owned is shared from now on -/
def fVar (i : Nat) : Ev → RE := fun ρ => match ρ[i]? with
  | some (some (.d x)) => .ok (.d x) ρ
  | some (some (.ow l)) => .ok (.d (.list l)) (ρ.set i (some (.d (.list l))))
  | some (some (.ex c)) => .ok (.ex c) ρ
  | some (some (.fz l)) => .ok (.fz l) ρ
  | _ => .stuck
/-- a name that isn't read again: what is owned goes on -/
def fMove (i : Nat) : Ev → RE := fun ρ => match ρ[i]? with
  | some (some (.d x)) => .ok (.d x) ρ
  | some (some (.ow l)) => .ok (.ow l) (ρ.set i none)
  | some (some (.ex c)) => .ok (.ex c) ρ
  | some (some (.fz l)) => .ok (.fz l) ρ
  | _ => .stuck
theorem lt_of_get {α : Type} {l : List α} {i : Nat} {x : α} (h : l[i]? = some x) : i < l.length := (List.getElem?_eq_some_iff.mp h).1
/-- a slot that held what was owned gets what nobody owns -/
theorem Rel.setSh {K : PySem.W.Frag} {G H : Hp} {σ : St} {ρ : Ev} {i : Nat} {o : Option Sv} (r : Rel K b G H σ ρ) (hi : ∀ l, ρ[i]? ≠ some (some (.rf l)))
    (ho : ∀ sv, o = some sv → (∀ l, sv ≠ .ow l) ∧ (∀ l, sv ≠ .rf l) ∧ ∃ v, σ[i]? = some (some v) ∧ RepI K b G H i v sv) : Rel K b G H σ (ρ.set i o) := by
  have get : ∀ {j : Nat} {sv : Sv}, (ρ.set i o)[j]? = some (some sv) → (j = i ∧ o = some sv) ∨ (j ≠ i ∧ ρ[j]? = some (some sv)) := fun {j sv} q => by
    by_cases e : j = i
    · subst e
      by_cases hl : j < ρ.length
      · rw [List.getElem?_set_self hl] at q
        exact .inl ⟨rfl, Option.some.inj q⟩
      · rw [List.getElem?_eq_none (by simpa using hl)] at q; cases q
    · rw [List.getElem?_set_ne (Ne.symm e)] at q
      exact .inr ⟨e, q⟩
  have own : ∀ {j : Nat} {a : Addr}, Owns σ (ρ.set i o) j a → Owns σ ρ j a := fun {j a} ⟨h1, l, h2⟩ => by
    rcases h2 with h2 | h2
    · rcases get h2 with ⟨_, e⟩ | ⟨_, e⟩
      · exact absurd rfl ((ho _ e).1 l)
      · exact ⟨h1, l, .inl e⟩
    · rcases get h2 with ⟨_, e⟩ | ⟨_, e⟩
      · exact absurd rfl ((ho _ e).2.1 l)
      · exact ⟨h1, l, .inr e⟩
  refine ⟨r.le, by rw [List.length_set]; exact r.len, fun j sv q => ?_, fun j k a h1 h2 => r.apart j k a (own h1) (own h2), r.keep, r.base, r.fresh, fun p hp => ?_, fun a o h => ?_⟩
  · rcases get q with ⟨e1, e2⟩ | ⟨_, e⟩
    · subst e1; exact (ho _ e2).2.2
    · exact r.slot j sv e
  · obtain ⟨l, h1, h2⟩ := r.byr p hp
    refine ⟨l, h1, ?_⟩
    rw [List.getElem?_set_ne (fun z => hi l (by rw [z]; exact h2))]
    exact h2
  · obtain ⟨h1, h2, h3, h4⟩ := r.tmp a o h
    exact ⟨h1, h2, h3, fun j z => h4 j (own z)⟩
/-- what is held is no slot's -/
theorem Rel.ownT {K : PySem.W.Frag} {G H : Hp} {σ : St} {ρ : Ev} {i : Nat} {a : Addr} (r : Rel K b G H σ ρ) (h : Owns σ ρ i a) : b.T a = none := by
  cases q : b.T a with
  | none => rfl
  | some o => exact absurd h ((r.tmp a o q).2.2.2 i)
/-- what a name holds: its parts -/
theorem Rel.at {K : PySem.W.Frag} {G H : Hp} {σ : St} {ρ : Ev} {i : Nat} {sv : Sv} (r : Rel K b G H σ ρ) (h : ρ[i]? = some (some sv)) : ∃ v, σ[i]? = some (some v) ∧ RepI K b G H i v sv := r.slot i sv h
theorem Rel.noOther {K : PySem.W.Frag} {G H : Hp} {σ : St} {ρ : Ev} {i : Nat} {a : Addr} {l : List D} {o : Option Sv} (r : Rel K b G H σ ρ) (hσ : σ[i]? = some (some (.ref a))) (hρ : ρ[i]? = some (some (.ow l))) (ho : ∀ sv, o = some sv → (∀ l, sv ≠ .ow l) ∧ (∀ l, sv ≠ .rf l)) :
    ∀ j, ¬ Owns σ (ρ.set i o) j a := by
  rintro j ⟨h1, l', h2⟩
  have hl := lt_of_get hρ
  by_cases e : j = i
  · subst e
    rw [List.getElem?_set_self hl] at h2
    rcases h2 with h2 | h2
    · exact (ho _ (Option.some.inj h2)).1 l' rfl
    · exact (ho _ (Option.some.inj h2)).2 l' rfl
  · rw [List.getElem?_set_ne (Ne.symm e)] at h2
    exact e (r.apart j i a ⟨h1, l', h2⟩ ⟨hσ, l, .inl hρ⟩)
theorem var_post {i : Nat} : ∀ σ H Q, tE X.K b W (fVar i) σ H Q → tVar i σ H Q := by
  rintro σ H Q ⟨ρ, G, r, h⟩
  unfold fVar at h
  split at h
  · rename_i x e
    obtain ⟨v, h1, h2⟩ := r.slot _ _ e
    exact ⟨v, h1, h v G H r (Same.refl _) h2⟩
  · rename_i l e
    obtain ⟨v, h1, a, xs, rfl, ha, ga, h0, hx⟩ := r.slot _ _ e
    refine ⟨_, h1, ?_⟩
    have n1 : ∀ sv : Sv, (none : Option Sv) = some sv → (∀ l, sv ≠ .ow l) ∧ (∀ l, sv ≠ .rf l) := fun sv z => by cases z
    have rn : Rel X.K b G H σ (ρ.set i none) := r.setSh (fun l z => by rw [e] at z; cases z) fun sv z => by cases z
    have no := r.noOther h1 e n1
    have rg := share_slots rn ha ga h0 (r.ownT ⟨h1, l, .inl e⟩) no
    have sg : Same G (upd G a (.lst xs)) := fun c o q => by rw [upd_ne (ne_of_none q ga)]; exact q
    have hd : Da X.K (upd G a (.lst xs)) (.ref a) (.list l) := .lst upd_same (DaAll.mono sg hx)
    have rs : Rel X.K b (upd G a (.lst xs)) H σ ((ρ.set i none).set i (some (.d (.list l)))) := rg.setSh (fun l z => by rw [List.getElem?_set_self (lt_of_get e)] at z; cases z) fun sv z => by
      cases z
      exact ⟨(fun l z => nomatch z), (fun l z => nomatch z), _, h1, hd⟩
    rw [List.set_set] at rs
    exact h _ _ _ rs sg hd
  · rename_i c e
    obtain ⟨v, h1, h2⟩ := r.slot _ _ e
    exact ⟨v, h1, h v G H r (Same.refl _) h2⟩
  · rename_i l e
    obtain ⟨v, h1, h2⟩ := r.slot _ _ e
    exact ⟨v, h1, h v G H r (Same.refl _) h2⟩
  · exact h.elim
theorem move_post {i : Nat} : ∀ σ H Q, tE X.K b W (fMove i) σ H Q → tVar i σ H Q := by
  rintro σ H Q ⟨ρ, G, r, h⟩
  unfold fMove at h
  split at h
  · rename_i x e
    obtain ⟨v, h1, h2⟩ := r.slot _ _ e
    exact ⟨v, h1, h v G H r (Same.refl _) h2⟩
  · rename_i l e
    obtain ⟨v, h1, a, xs, rfl, ha, ga, h0, hx⟩ := r.slot _ _ e
    refine ⟨_, h1, ?_⟩
    have n1 : ∀ sv : Sv, (none : Option Sv) = some sv → (∀ l, sv ≠ .ow l) ∧ (∀ l, sv ≠ .rf l) := fun sv z => by cases z
    have rn : Rel X.K b G H σ (ρ.set i none) := r.setSh (fun l z => by rw [e] at z; cases z) fun sv z => by cases z
    exact h _ _ _ rn (Same.refl _) ⟨a, xs, rfl, ha, ga, h0, r.ownT ⟨h1, l, .inl e⟩, r.noOther h1 e n1, hx⟩
  · rename_i c e
    obtain ⟨v, h1, h2⟩ := r.slot _ _ e
    exact ⟨v, h1, h v G H r (Same.refl _) h2⟩
  · rename_i l e
    obtain ⟨v, h1, h2⟩ := r.slot _ _ e
    exact ⟨v, h1, h v G H r (Same.refl _) h2⟩
  · exact h.elim
theorem e_var (i : Nat) {x : Str} {pos : Pos} (hN : X.N[i]? = some x := by rfl) (hv : Vis X.env.scope x := by first | exact Or.inl rfl | exact Or.inr (Or.inl rfl) | exact Or.inr (Or.inr rfl)) (hd : (x == ("__debug__" : Str)) = false := by decide)
    (hcd : (x == ("__classdict__" : Str)) = false := by decide) : PE X (.Name x pos) (tE X.K b W (fVar i)) := PE.imp (pe_var hN hv hd hcd) var_post
theorem e_move (i : Nat) {x : Str} {pos : Pos} (hN : X.N[i]? = some x := by rfl) (hv : Vis X.env.scope x := by first | exact Or.inl rfl | exact Or.inr (Or.inl rfl) | exact Or.inr (Or.inr rfl)) (hd : (x == ("__debug__" : Str)) = false := by decide)
    (hcd : (x == ("__classdict__" : Str)) = false := by decide) : PE X (.Name x pos) (tE X.K b W (fMove i)) := PE.imp (pe_var hN hv hd hcd) move_post
end
end Dl
set_option maxHeartbeats 4000000
namespace Dl
open PySem PySem.Spec L2

section
variable {X : Cx} {b : Bx} {W : WX} {G H : Hp} {σ : St} {ρ : Ev} {Q : VK}
/-! ### rows of expressions -/
def runA : List (Ev → RE) → Ev → (List D → Ev → RE) → RE
  | [], ρ, k => k [] ρ
  | f :: fs, ρ, k => (f ρ).bindD fun x ρ1 => runA fs ρ1 fun xs ρ2 => k (x :: xs) ρ2
def tAs (K : PySem.W.Frag) (b : Bx) (W : WX) : List (Ev → RE) → TA
  | [] => tNil
  | f :: fs => tCons (tE K b W f) (tAs K b W fs)
theorem as_nil : PA X [] (tAs X.K b W []) := pa_nil
theorem as_cons {e : Expr} {es : List Expr} {f : Ev → RE} {fs : List (Ev → RE)} (ha : PE X e (tE X.K b W f)) (hr : PA X es (tAs X.K b W fs)) (hs : starEach (e :: es) X.env = (false, eval e X.env) :: starEach es X.env := by rfl) :
    PA X (e :: es) (tAs X.K b W (f :: fs)) := pa_cons ha hr hs
theorem stepA {K : PySem.W.Frag} : ∀ (fs : List (Ev → RE)) {G H : Hp} {ρ : Ev} {Q : VK} {k : List D → Ev → RE} (r : Rel K b G H σ ρ) (h : PostE K b W G σ Q (runA fs ρ k)) {R : List V → Hp → Prop}
    (hR : ∀ vs H1 ρ1 G1 xs, Rel K b G1 H1 σ ρ1 → Same G G1 → DaAll K G1 vs xs → PostE K b W G1 σ Q (k xs ρ1) → R vs H1), tAs K b W fs σ H R
  | [], G, H, ρ, Q, k, r, h, R, hR => hR [] H ρ G [] r (Same.refl _) .nil h
  | f :: fs, G, H, ρ, Q, k, r, h, R, hR => by
    show tE K b W f σ H _
    refine stepD r h fun v H1 ρ1 G1 x r1 s1 d1 q1 => ?_
    refine stepA fs r1 q1 fun vs H2 ρ2 G2 xs r2 s2 d2 q2 => ?_
    exact hR (v :: vs) H2 ρ2 G2 (x :: xs) r2 (s1.trans s2) (.cons (Da.mono s2 d1) d2) q2
def fTup (fs : List (Ev → RE)) : Ev → RE := fun ρ => runA fs ρ fun xs ρ1 => if xs.length ≤ sizeLine then .ok (.d (.tuple xs)) ρ1 else .stuck
def fLst (fs : List (Ev → RE)) : Ev → RE := fun ρ => runA fs ρ fun xs ρ1 => if xs.length ≤ sizeLine then .ok (.ow xs) ρ1 else .stuck
theorem postE_if {K : PySem.W.Frag} {c : Prop} [Decidable c] {x : RE} (h : PostE K b W G σ Q (if c then x else .stuck)) : c ∧ PostE K b W G σ Q x := by
  by_cases e : c
  · rw [if_pos e] at h; exact ⟨e, h⟩
  · rw [if_neg e] at h; exact h.elim
theorem e_tup {es : List Expr} {fs : List (Ev → RE)} {x1 pos} (h : PA X es (tAs X.K b W fs)) : PE X (.Tuple es x1 pos) (tE X.K b W (fTup fs)) := PE.imp (pe_tup h) fun σ H Q ⟨ρ, G, r, q⟩ => by
  refine stepA fs r q fun vs H1 ρ1 G1 xs r1 s1 d1 q1 => ?_
  obtain ⟨c, q1⟩ := postE_if q1
  exact ⟨by rw [d1.length]; exact c, fun p hp => post_tup (Q := Q) r1 q1 d1 hp⟩
theorem e_lst {es : List Expr} {fs : List (Ev → RE)} {pos} (h : PA X es (tAs X.K b W fs)) : PE X (.List es pos) (tE X.K b W (fLst fs)) := PE.imp (pe_lst h) fun σ H Q ⟨ρ, G, r, q⟩ => by
  refine stepA fs r q fun vs H1 ρ1 G1 xs r1 s1 d1 q1 => ?_
  obtain ⟨c, q1⟩ := postE_if q1
  exact ⟨by rw [d1.length]; exact c, fun p hp => post_ow (Q := Q) r1 q1 d1 hp⟩

/-! ### subscripts -/
def ixD : D → D → Option Sv
  | .list xs, .int i => (atI xs i).map .d
  | .tuple xs, .int i => (atI xs i).map .d
  | .str z, .int i => if z.length ≤ sizeLine then (atI z.cps.toList i).map fun c => .d (.str ⟨#[c]⟩) else none
  | _, _ => none
theorem atI_da {K : PySem.W.Frag} {vs : List V} {xs : List D} (h : DaAll K G vs xs) {i : Int} {x : D} (e : atI xs i = some x) : ∃ v, atI vs i = some v ∧ Da K G v x := by
  unfold atI at e ⊢
  rw [h.length]
  cases q : ixN xs.length i with
  | none => rw [q] at e; cases e
  | some j =>
    rw [q] at e
    exact h.get e
theorem os_ix {K : PySem.W.Frag} : OpS K (rIx K) ixD := by
  intro b G H σ ρ x y dx dy Q r hx hy h
  unfold ixD at h
  split at h
  · rename_i xs i
    obtain ⟨a, vs, rfl, h1, h2⟩ := hx.lst r.le
    have hy := hy.da fun l z => nomatch z
    cases hy
    cases e : atI xs i with
    | none => rw [e] at h; exact h.elim
    | some z =>
      rw [e] at h
      obtain ⟨v, e1, d1⟩ := atI_da h2 e
      exact .inl ⟨a, vs, i, v, rfl, rfl, SqL.of h1, e1, post_d r h d1⟩
  · rename_i xs i
    have hx := hx.da fun l z => nomatch z
    have hy := hy.da fun l z => nomatch z
    cases hx
    cases hy
    rename_i a vs h1 h2
    cases e : atI xs i with
    | none => rw [e] at h; exact h.elim
    | some z =>
      rw [e] at h
      obtain ⟨v, e1, d1⟩ := atI_da h2 e
      exact .inr (.inl ⟨a, vs, i, v, rfl, rfl, seqT r.le h1, e1, post_d r h d1⟩)
  · rename_i z i
    have hx := hx.da fun l z => nomatch z
    have hy := hy.da fun l z => nomatch z
    cases hx
    cases hy
    obtain ⟨c, h⟩ := post_if h
    cases e : atI z.cps.toList i with
    | none => rw [e] at h; exact h.elim
    | some z' =>
      rw [e] at h
      exact .inr (.inr ⟨z, i, z', rfl, rfl, c, e, post_str r h⟩)
  · exact h.elim
theorem e_ix {e i : Expr} {pos : Pos} {o1 o2 : Opd} (h1 : PO2 X b W e o1) (h2 : PO2 X b W i o2) (hs : PlainIx i := by exact fun _ _ => rfl) : PE X (.Subscript e i pos) (tE X.K b W (fOp ixD o1 o2)) :=
  PE.imp (pe_ix ix_seq h1 h2 hs) (op_post os_ix)

/-! ### slices -/
def cutL {α : Type} (xs : List α) (lo hi : Option Int) : List α := (xs.drop (HT.sIx xs.length 0 lo)).take (HT.sIx xs.length xs.length hi - HT.sIx xs.length 0 lo)
def slD (x : D) (lo hi : Option Int) : Option Sv := match x with
  | .list xs => some (.ow (cutL xs lo hi))
  | .tuple xs => some (.d (.tuple (cutL xs lo hi)))
  | .str z => if z.length ≤ sizeLine then some (.d (.str (cutS z lo hi))) else none
  | _ => none
abbrev rSl (K : PySem.W.Frag) : V → Option Int → Option Int → Hp → VK → Prop := fun x lo hi H Q => rSlL K x lo hi H Q ∨ rSlA K x lo hi H Q ∨ rSlS x lo hi H Q
theorem sl_all : SlR X (rSl X.K) := sl_list.or (sl_tupA.or sl_str)
theorem cut_da {K : PySem.W.Frag} {vs : List V} {xs : List D} (h : DaAll K G vs xs) (lo hi : Option Int) : DaAll K G (cutV vs lo hi) (cutL xs lo hi) := by
  unfold cutV cutL
  rw [h.length]
  exact (h.drop _).take _
theorem sls_all {K : PySem.W.Frag} {x : V} {dx : D} {lo hi : Option Int} (r : Rel K b G H σ ρ) (hx : Vw K G H x dx) (h : Post1 K b G σ ρ Q (slD dx lo hi)) : rSl K x lo hi H Q := by
  unfold slD at h
  split at h
  · obtain ⟨a, vs, rfl, h1, h2⟩ := hx.lst r.le
    exact .inl ⟨a, vs, rfl, SqL.of h1, fun p hp => post_ow r h (cut_da h2 lo hi) hp⟩
  · rename_i xs
    have hx := hx.da fun l z => nomatch z
    cases hx
    rename_i a vs h1 h2
    refine .inr (.inl ⟨a, vs, rfl, seqT r.le h1, fun q => ?_, fun q p hp => post_tup r h (cut_da h2 lo hi) hp⟩)
    have e : cutL xs lo hi = xs := by
      unfold cutL
      rw [← h2.length, q.1, q.2, List.drop_zero, h2.length]
      simp
    rw [e] at h
    exact post_d r h (.tup h1 h2)
  · have hx := hx.da fun l z => nomatch z
    cases hx
    obtain ⟨c, h⟩ := post_if h
    exact .inr (.inr ⟨_, rfl, c, post_str r h⟩)
  · exact h.elim
/-- a slice's part -/
inductive Prt where
  | no
  | e (f : Ev → RE)
def Prt.run (p : Prt) (ρ : Ev) (k : Option Int → Ev → RE) : RE := match p with
  | .no => k none ρ
  | .e f => (f ρ).bindD fun x ρ1 => match x with
    | .int i => k (some i) ρ1
    | _ => .stuck
def tPr (K : PySem.W.Frag) (b : Bx) (W : WX) : Prt → TO
  | .no => tNoPart
  | .e f => tPart (tE K b W f)
theorem pr_no : PO X none (tPr X.K b W .no) := po_none
theorem pr_e {e : Expr} {f : Ev → RE} (h : PE X e (tE X.K b W f)) : PO X (some e) (tPr X.K b W (.e f)) := po_some h
theorem stepP {K : PySem.W.Frag} {p : Prt} {k : Option Int → Ev → RE} (r : Rel K b G H σ ρ) (h : PostE K b W G σ Q (p.run ρ k)) {R : Option Int → Hp → Prop}
    (hR : ∀ o H1 ρ1 G1, Rel K b G1 H1 σ ρ1 → Same G G1 → PostE K b W G1 σ Q (k o ρ1) → R o H1) : tPr K b W p σ H R := by
  cases p with
  | no => exact hR none H ρ G r (Same.refl _) h
  | e f =>
    refine stepD r h fun v H1 ρ1 G1 x r1 s1 d1 q1 => ?_
    cases x with
    | int i => cases d1; exact ⟨i, rfl, hR (some i) H1 ρ1 G1 r1 s1 q1⟩
    | _ => exact q1.elim
def fSl (o : Opd) (lo hi : Prt) : Ev → RE := fun ρ => o.run ρ fun x ρ1 => lo.run ρ1 fun l ρ2 => hi.run ρ2 fun h ρ3 => match x.get ρ3 with
  | some dx => RE.of (slD dx l h) ρ3
  | none => .stuck
theorem e_sl {e : Expr} {lo hi : Option Expr} {p2 pos : Pos} {o : Opd} {pl ph : Prt} (he : PO2 X b W e o) (hl : PO X lo (tPr X.K b W pl)) (hh : PO X hi (tPr X.K b W ph)) : PE X (.Subscript e (.Slice lo hi none p2) pos) (tE X.K b W (fSl o pl ph)) :=
  PE.imp (pe_slice sl_all he hl hh) fun σ H Q ⟨ρ, G, r, q⟩ => by
    refine stepO r q fun v H1 ρ1 G1 x r1 s1 d1 q1 => ?_
    refine stepP r1 q1 fun l H2 ρ2 G2 r2 s2 q2 => ?_
    refine stepP r2 q2 fun h H3 ρ3 G3 r3 s3 q3 => ?_
    have d3 := d1.mono (s2.trans s3)
    cases e : x.get ρ3 with
    | none => simp only [e] at q3; exact q3.elim
    | some dx =>
      simp only [e] at q3
      exact sls_all r3 (d3.vw r3 e) (post_of q3)

/-! ### built-ins of one argument -/
def CallS (K : PySem.W.Frag) (r : List V → Hp → VK → Prop) (g : D → Option Sv) : Prop := ∀ (b : Bx) (G H : Hp) (σ : St) (ρ : Ev) (x : V) (dx : D) (Q : VK), Rel K b G H σ ρ → Vw K G H x dx → Post1 K b G σ ρ Q (g dx) → r [x] H Q
def RE.of1 (g : D → Option Sv) (a : Ov) (ρ : Ev) : RE := match a.get ρ with
  | some x => RE.of (g x) ρ
  | none => .stuck
def fUn (g : D → Option Sv) (o : Opd) : Ev → RE := fun ρ => o.run ρ fun x ρ1 => RE.of1 g x ρ1
theorem of1_post {K : PySem.W.Frag} {g : D → Option Sv} {x : Ov} (h : PostE K b W G σ Q (RE.of1 g x ρ)) : ∃ dx, x.get ρ = some dx ∧ Post1 K b G σ ρ Q (g dx) := by
  unfold RE.of1 at h
  split at h
  · exact ⟨_, by assumption, post_of h⟩
  · exact h.elim
theorem un_post {K : PySem.W.Frag} {r : List V → Hp → VK → Prop} {g : D → Option Sv} {o : Opd} (hs : CallS K r g) : ∀ σ H Q, tE K b W (fUn g o) σ H Q → tCB r (tCons (tO K b W o) tNil) σ H Q := by
  rintro σ H Q ⟨ρ, G, rl, h⟩
  show tO K b W o σ H _
  refine stepO rl h fun v H1 ρ1 G1 x r1 s1 d1 q1 => ?_
  obtain ⟨dx, e, q⟩ := of1_post q1
  exact hs b G1 H1 σ ρ1 v dx Q r1 (d1.vw r1 e) q
theorem e_callB {x : Str} {e : Expr} {p pos : Pos} {id : String} {r : List V → Hp → VK → Prop} {g : D → Option Sv} {o : Opd} (hc : CallR X (.builtin id) r) (hs : CallS X.K r g) (hg : Gl X x) (hm : X.mg x = none) (hv : bootBuiltins x = some (.builtin id)) (he : PO2 X b W e o)
    (hn : x ≠ "__name__" := by decide) (hdb : (x == ("__debug__" : Str)) = false := by decide) (h1 : starEach [e] X.env = (false, eval e X.env) :: starEach [] X.env := by rfl) (h2 : (backTo pos (starEach [] X.env)).any (·.1) = false := by rfl) :
    PE X (.Call (.Name x p) [e] [] pos) (tE X.K b W (fUn g o)) := PE.imp (pe_callB hc hg hm hv (pa_cons he pa_nil h1) hn hdb h1 h2) (un_post hs)
theorem e_callTy {x : Str} {e : Expr} {p pos : Pos} {T : String} {r : List V → Hp → VK → Prop} {g : D → Option Sv} {o : Opd} (hc : CallR X (.type T) r) (hs : CallS X.K r g) (hg : Gl X x) (hm : X.mg x = none) (hv : bootBuiltins x = some (.type T)) (he : PO2 X b W e o)
    (hn : x ≠ "__name__" := by decide) (hdb : (x == ("__debug__" : Str)) = false := by decide) (h1 : starEach [e] X.env = (false, eval e X.env) :: starEach [] X.env := by rfl) (h2 : (backTo pos (starEach [] X.env)).any (·.1) = false := by rfl) :
    PE X (.Call (.Name x p) [e] [] pos) (tE X.K b W (fUn g o)) := PE.imp (pe_callTy hc hg hm hv (pa_cons he pa_nil h1) hn hdb h1 h2) (un_post hs)

/-- len -/
def lenD : D → Option Sv
  | .list xs => some (.d (.int xs.length))
  | .tuple xs => some (.d (.int xs.length))
  | .str z => if z.length ≤ sizeLine then some (.d (.int z.length)) else none
  | _ => none
abbrev rLen (K : PySem.W.Frag) : List V → Hp → VK → Prop := fun xs H Q => ∃ x n, xs = [x] ∧ LenV K x H n ∧ Q (.int n) H
theorem cs_len {K : PySem.W.Frag} : CallS K (rLen K) lenD := by
  intro b G H σ ρ x dx Q r hx h
  unfold lenD at h
  split at h
  · obtain ⟨a, vs, rfl, h1, h2⟩ := hx.lst r.le
    rw [← h2.length] at h
    exact ⟨_, _, rfl, .inl ⟨vs, SqL.of h1, rfl⟩, post_int r h⟩
  · have hx := hx.da fun l z => nomatch z
    cases hx
    rename_i a vs h1 h2
    rw [← h2.length] at h
    exact ⟨_, _, rfl, .inr ⟨vs, seqT r.le h1, rfl⟩, post_int r h⟩
  · have hx := hx.da fun l z => nomatch z
    cases hx
    obtain ⟨c, h⟩ := post_if h
    exact ⟨_, _, rfl, ⟨c, rfl⟩, post_int r h⟩
  · exact h.elim
/-- abs -/
def absD : D → Option Sv
  | .int i => some (.d (.int (if i < 0 then -i else i)))
  | _ => none
theorem cs_abs {K : PySem.W.Frag} : CallS K (fun xs H Q => ∃ i, xs = [.int i] ∧ Q (.int (if i < 0 then -i else i)) H) absD := by
  intro b G H σ ρ x dx Q r hx h
  cases dx with
  | int i =>
    have hx := hx.da fun l z => nomatch z
    cases hx
    exact ⟨i, rfl, post_int r h⟩
  | _ => exact h.elim
/-- int -/
def intD : D → Option Sv
  | .int i => some (.d (.int i))
  | .bool k => some (.d (.int (if k then 1 else 0)))
  | .str z => if z.length ≤ 640 then (PySem.intText? z).map fun n => .d (.int n) else none
  | _ => none
abbrev rInt : List V → Hp → VK → Prop := fun xs H Q => ((∃ i, xs = [.int i] ∧ Q (.int i) H) ∨ ∃ k, xs = [.bl k] ∧ Q (.int (if k then 1 else 0)) H) ∨ ∃ a n, xs = [.str a] ∧ PySem.intText? a = some n ∧ a.length ≤ 640 ∧ Q (.int n) H
theorem call_intD : CallR X (.type "int") rInt := call_int1.or call_int_str
theorem cs_int {K : PySem.W.Frag} : CallS K rInt intD := by
  intro b G H σ ρ x dx Q r hx h
  cases dx with
  | int i =>
    have hx := hx.da fun l z => nomatch z
    cases hx
    exact .inl (.inl ⟨i, rfl, post_int r h⟩)
  | bool k =>
    have hx := hx.da fun l z => nomatch z
    cases hx
    exact .inl (.inr ⟨k, rfl, post_int r h⟩)
  | str z =>
    have hx := hx.da fun l z => nomatch z
    cases hx
    obtain ⟨c, h⟩ := post_if (show Post1 K b G σ ρ Q (if z.length ≤ 640 then _ else none) from h)
    cases e : PySem.intText? z with
    | none => rw [e] at h; exact h.elim
    | some n =>
      rw [e] at h
      exact .inr ⟨z, n, rfl, e, c, post_int r h⟩
  | _ => exact h.elim
/-- sum, all, any of a list -/
def intsOf : List D → Option (List Int)
  | [] => some []
  | .int i :: xs => (intsOf xs).map (i :: ·)
  | _ => none
def boolsOf : List D → Option (List Bool)
  | [] => some []
  | .bool i :: xs => (boolsOf xs).map (i :: ·)
  | _ => none
def strsOf : List D → Option (List Str)
  | [] => some []
  | .str i :: xs => (strsOf xs).map (i :: ·)
  | _ => none
theorem ints_da {K : PySem.W.Frag} : ∀ {vs : List V} {xs : List D} {ns : List Int}, DaAll K G vs xs → intsOf xs = some ns → vs = ns.map V.int
  | _, _, _, .nil, e => by cases e; rfl
  | _, _, _, .cons (d := x) h r, e => by
    cases h with
    | int i =>
      unfold intsOf at e
      cases q : intsOf _ with
      | none => rw [q] at e; cases e
      | some ms => rw [q] at e; cases e; rw [ints_da r q]; rfl
    | _ => cases e
theorem bools_da {K : PySem.W.Frag} : ∀ {vs : List V} {xs : List D} {ns : List Bool}, DaAll K G vs xs → boolsOf xs = some ns → vs = ns.map V.bl
  | _, _, _, .nil, e => by cases e; rfl
  | _, _, _, .cons (d := x) h r, e => by
    cases h with
    | bl i =>
      unfold boolsOf at e
      cases q : boolsOf _ with
      | none => rw [q] at e; cases e
      | some ms => rw [q] at e; cases e; rw [bools_da r q]; rfl
    | _ => cases e
theorem strs_da {K : PySem.W.Frag} : ∀ {vs : List V} {xs : List D} {ns : List Str}, DaAll K G vs xs → strsOf xs = some ns → vs = ns.map V.str
  | _, _, _, .nil, e => by cases e; rfl
  | _, _, _, .cons (d := x) h r, e => by
    cases h with
    | str i =>
      unfold strsOf at e
      cases q : strsOf _ with
      | none => rw [q] at e; cases e
      | some ms => rw [q] at e; cases e; rw [strs_da r q]; rfl
    | _ => cases e
def sumD : D → Option Sv
  | .list xs => (intsOf xs).map fun ns => .d (.int ns.sum)
  | _ => none
def allD : D → Option Sv
  | .list xs => (boolsOf xs).map fun ns => bol (ns.all id)
  | _ => none
def anyD : D → Option Sv
  | .list xs => (boolsOf xs).map fun ns => bol (ns.any id)
  | _ => none
theorem cs_sum {K : PySem.W.Frag} : CallS K (rSum K) sumD := by
  intro b G H σ ρ x dx Q r hx h
  cases dx with
  | list xs =>
    obtain ⟨a, vs, rfl, h1, h2⟩ := hx.lst r.le
    cases e : intsOf xs with
    | none => rw [show sumD (.list xs) = (intsOf xs).map fun ns => .d (.int ns.sum) from rfl, e] at h; exact h.elim
    | some ns =>
      rw [show sumD (.list xs) = (intsOf xs).map fun ns => .d (.int ns.sum) from rfl, e] at h
      exact ⟨a, ns, rfl, by rw [← ints_da h2 e]; exact SqL.of h1, post_int r h⟩
  | _ => exact h.elim
theorem cs_all {K : PySem.W.Frag} : CallS K (rAll K) allD := by
  intro b G H σ ρ x dx Q r hx h
  cases dx with
  | list xs =>
    obtain ⟨a, vs, rfl, h1, h2⟩ := hx.lst r.le
    cases e : boolsOf xs with
    | none => rw [show allD (.list xs) = (boolsOf xs).map fun ns => bol (ns.all id) from rfl, e] at h; exact h.elim
    | some ns =>
      rw [show allD (.list xs) = (boolsOf xs).map fun ns => bol (ns.all id) from rfl, e] at h
      exact ⟨a, ns, rfl, by rw [← bools_da h2 e]; exact SqL.of h1, post_bl r h⟩
  | _ => exact h.elim
theorem cs_any {K : PySem.W.Frag} : CallS K (rAny K) anyD := by
  intro b G H σ ρ x dx Q r hx h
  cases dx with
  | list xs =>
    obtain ⟨a, vs, rfl, h1, h2⟩ := hx.lst r.le
    cases e : boolsOf xs with
    | none => rw [show anyD (.list xs) = (boolsOf xs).map fun ns => bol (ns.any id) from rfl, e] at h; exact h.elim
    | some ns =>
      rw [show anyD (.list xs) = (boolsOf xs).map fun ns => bol (ns.any id) from rfl, e] at h
      exact ⟨a, ns, rfl, by rw [← bools_da h2 e]; exact SqL.of h1, post_bl r h⟩
  | _ => exact h.elim
/-- list, tuple -/
def listD : D → Option Sv
  | .list xs => some (.ow xs)
  | .tuple xs => some (.ow xs)
  | _ => none
def tupleD : D → Option Sv
  | .list xs => some (.d (.tuple xs))
  | .tuple xs => some (.d (.tuple xs))
  | _ => none
theorem cs_list {K : PySem.W.Frag} : CallS K (fun xs H Q => ∃ p ys, xs = [.ref p] ∧ (SqL K H p ys ∨ SqT K H p ys) ∧ ∀ l, H l = none → Q (.ref l) (upd H l (.lst ys))) listD := by
  intro b G H σ ρ x dx Q r hx h
  cases dx with
  | list xs =>
    obtain ⟨a, vs, rfl, h1, h2⟩ := hx.lst r.le
    exact ⟨a, vs, rfl, .inl (SqL.of h1), fun l hl => post_ow r h h2 hl⟩
  | tuple xs =>
    have hx := hx.da fun l z => nomatch z
    cases hx
    rename_i a vs h1 h2
    exact ⟨a, vs, rfl, .inr (seqT r.le h1), fun l hl => post_ow r h h2 hl⟩
  | _ => exact h.elim
theorem cs_tuple {K : PySem.W.Frag} : CallS K (fun xs H Q => ∃ p ys, xs = [.ref p] ∧ ((SqL K H p ys ∧ ∀ l, H l = none → Q (.ref l) (upd H l (.tup ys))) ∨ (SqT K H p ys ∧ Q (.ref p) H))) tupleD := by
  intro b G H σ ρ x dx Q r hx h
  cases dx with
  | list xs =>
    obtain ⟨a, vs, rfl, h1, h2⟩ := hx.lst r.le
    exact ⟨a, vs, rfl, .inl ⟨SqL.of h1, fun l hl => post_tup r h h2 hl⟩⟩
  | tuple xs =>
    have hx := hx.da fun l z => nomatch z
    cases hx
    rename_i a vs h1 h2
    exact ⟨a, vs, rfl, .inr ⟨seqT r.le h1, post_d r h (.tup h1 h2)⟩⟩
  | _ => exact h.elim

/-! ### methods of texts with one argument -/
def MtS (K : PySem.W.Frag) (r : V → List V → Hp → VK → Prop) (g : D → D → Option Sv) : Prop := ∀ (b : Bx) (G H : Hp) (σ : St) (ρ : Ev) (x y : V) (dx dy : D) (Q : VK), Rel K b G H σ ρ → Vw K G H x dx → Vw K G H y dy → Post1 K b G σ ρ Q (g dx dy) → r x [y] H Q
def fM1 (g : D → D → Option Sv) (a : Ev → RE) (c : Opd) : Ev → RE := fun ρ => (a ρ).bindD fun x ρ1 => match x with
  | .str z => c.run ρ1 fun y ρ2 => RE.of1 (g (.str z)) y ρ2
  | _ => .stuck
theorem m1_post {K : PySem.W.Frag} {r : V → List V → Hp → VK → Prop} {g : D → D → Option Sv} {fa : Ev → RE} {oc : Opd} (hs : MtS K r g) : ∀ σ H Q, tE K b W (fM1 g fa oc) σ H Q → tM1 r (tE K b W fa) (tO K b W oc) σ H Q := by
  rintro σ H Q ⟨ρ, G, rl, h⟩
  refine stepD rl h fun v H1 ρ1 G1 x r1 s1 d1 q1 => ?_
  cases x with
  | str z =>
    cases d1
    refine ⟨⟨z, rfl⟩, ?_⟩
    refine stepO r1 q1 fun u H2 ρ2 G2 y r2 s2 d2 q2 => ?_
    obtain ⟨dy, e, q⟩ := of1_post q2
    exact hs b G2 H2 σ ρ2 (.str z) u (.str z) dy Q r2 (.inl (.str z)) (d2.vw r2 e) q
  | _ => exact q1.elim
def joinD : D → D → Option Sv
  | .str a, .list xs => match strsOf xs with
    | some ys => if (ys.map (·.length)).sum + ys.length * a.length ≤ 16777216 then some (.d (.str (Txt.join a ys))) else none
    | none => none
  | _, _ => none
theorem ms_join {K : PySem.W.Frag} : MtS K (fun x xs H Q => ∃ a p, ∃ ys : List Str, x = .str a ∧ xs = [.ref p] ∧ (SqL K H p (ys.map V.str) ∨ SqT K H p (ys.map V.str)) ∧ (ys.map (·.length)).sum + ys.length * a.length ≤ 16777216 ∧ Q (.str (Txt.join a ys)) H) joinD := by
  intro b G H σ ρ x y dx dy Q r hx hy h
  unfold joinD at h
  split at h
  · have hx := hx.da fun l z => nomatch z
    cases hx
    obtain ⟨a, vs, rfl, h1, h2⟩ := hy.lst r.le
    split at h
    · rename_i ys e
      obtain ⟨c, h⟩ := post_if h
      exact ⟨_, a, ys, rfl, rfl, .inl (by rw [← strs_da h2 e]; exact SqL.of h1), c, post_str r h⟩
    · exact h.elim
  · exact h.elim
theorem e_join {o e : Expr} {fa : Ev → RE} {oc : Opd} {apos pos : Pos} (ho : PE X o (tE X.K b W fa)) (he : PO2 X b W e oc) (hs : starEach [e] X.env = [(false, eval e X.env)] := by rfl) (hbase : attributeBase o "join" X.env (eval o X.env) = eval o X.env := by rfl) (hline : (apos.endLine == pos.line) = true := by rfl) :
    PE X (.Call (.Attribute o "join" apos) [e] [] pos) (tE X.K b W (fM1 joinD fa oc)) := PE.imp (pe_join ho he hs hbase hline) (m1_post ms_join)
def splitD : D → D → Option Sv
  | .str a, .str c => if (c.length == 0) = false ∧ a.length + 2 ≤ sizeLine then some (.ow ((Txt.split a c).map .str)) else none
  | _, _ => none
theorem strs_all {K : PySem.W.Frag} {G : Hp} : ∀ ys : List Str, DaAll K G (ys.map V.str) (ys.map .str)
  | [] => .nil
  | y :: ys => .cons (.str y) (strs_all ys)
theorem ms_split {K : PySem.W.Frag} : MtS K (fun x xs H Q => ∃ a b, x = .str a ∧ xs = [.str b] ∧ (b.length == 0) = false ∧ a.length + 2 ≤ sizeLine ∧ rNewStrs (Txt.split a b) H Q) splitD := by
  intro b G H σ ρ x y dx dy Q r hx hy h
  unfold splitD at h
  split at h
  · have hx := hx.da fun l z => nomatch z
    have hy := hy.da fun l z => nomatch z
    cases hx
    cases hy
    obtain ⟨c, h⟩ := post_if h
    exact ⟨_, _, rfl, rfl, c.1, c.2, fun p hp => post_ow r h (strs_all _) hp⟩
  · exact h.elim
theorem e_split {o e : Expr} {fa : Ev → RE} {oc : Opd} {apos pos : Pos} (ho : PE X o (tE X.K b W fa)) (he : PO2 X b W e oc) (hs : starEach [e] X.env = [(false, eval e X.env)] := by rfl) (hbase : attributeBase o "split" X.env (eval o X.env) = eval o X.env := by rfl) (hline : (apos.endLine == pos.line) = true := by rfl) :
    PE X (.Call (.Attribute o "split" apos) [e] [] pos) (tE X.K b W (fM1 splitD fa oc)) := PE.imp (pe_split ho he hs hbase hline) (m1_post ms_split)

/-! ### two-place built-ins: max, min of two ints -/
def CallS2 (K : PySem.W.Frag) (r : List V → Hp → VK → Prop) (g : D → D → Option Sv) : Prop := ∀ (b : Bx) (G H : Hp) (σ : St) (ρ : Ev) (x y : V) (dx dy : D) (Q : VK), Rel K b G H σ ρ → Vw K G H x dx → Vw K G H y dy → Post1 K b G σ ρ Q (g dx dy) → r [x, y] H Q
theorem e_callB2 {x : Str} {e f : Expr} {p pos : Pos} {id : String} {r : List V → Hp → VK → Prop} {g : D → D → Option Sv} {o o2 : Opd} (hc : CallR X (.builtin id) r) (hs : CallS2 X.K r g) (hg : Gl X x) (hm : X.mg x = none) (hv : bootBuiltins x = some (.builtin id)) (he : PO2 X b W e o) (hf : PO2 X b W f o2)
    (hn : x ≠ "__name__" := by decide) (hdb : (x == ("__debug__" : Str)) = false := by decide) (h1 : starEach [e, f] X.env = (false, eval e X.env) :: starEach [f] X.env := by rfl) (h3 : starEach [f] X.env = (false, eval f X.env) :: starEach [] X.env := by rfl) (h2 : (backTo pos (starEach [f] X.env)).any (·.1) = false := by rfl) :
    PE X (.Call (.Name x p) [e, f] [] pos) (tE X.K b W (fOp g o o2)) := PE.imp (pe_callB hc hg hm hv (pa_cons he (pa_cons hf pa_nil h3) h1) hn hdb h1 h2) fun σ H Q ⟨ρ, G, r, q⟩ => by
  show tO X.K b W o σ H _
  refine stepO r q fun v H1 ρ1 G1 x r1 s1 d1 q1 => ?_
  show tO X.K b W o2 σ H1 _
  refine stepO r1 q1 fun u H2 ρ2 G2 y r2 s2 d2 q2 => ?_
  obtain ⟨dx, dy, e1, e2, q⟩ := of2_post q2
  exact hs b G2 H2 σ ρ2 v u dx dy Q r2 ((d1.mono s2).vw r2 e1) (d2.vw r2 e2) q
def maxD : D → D → Option Sv | .int i, .int j => some (.d (.int (if j > i then j else i))) | _, _ => none
def minD : D → D → Option Sv | .int i, .int j => some (.d (.int (if j < i then j else i))) | _, _ => none
theorem cs_max {K : PySem.W.Frag} : CallS2 K (fun xs H Q => ∃ i j, xs = [.int i, .int j] ∧ Q (.int (if j > i then j else i)) H) maxD := by
  intro b G H σ ρ x y dx dy Q r hx hy h
  have two : ∃ i j, dx = .int i ∧ dy = .int j := by
    cases dx <;> cases dy <;> first | exact h.elim | exact ⟨_, _, rfl, rfl⟩
  obtain ⟨i, j, rfl, rfl⟩ := two
  have hx := hx.da fun l z => nomatch z
  have hy := hy.da fun l z => nomatch z
  cases hx
  cases hy
  exact ⟨i, j, rfl, post_int r h⟩
theorem cs_min {K : PySem.W.Frag} : CallS2 K (fun xs H Q => ∃ i j, xs = [.int i, .int j] ∧ Q (.int (if j < i then j else i)) H) minD := by
  intro b G H σ ρ x y dx dy Q r hx hy h
  have two : ∃ i j, dx = .int i ∧ dy = .int j := by
    cases dx <;> cases dy <;> first | exact h.elim | exact ⟨_, _, rfl, rfl⟩
  obtain ⟨i, j, rfl, rfl⟩ := two
  have hx := hx.da fun l z => nomatch z
  have hy := hy.da fun l z => nomatch z
  cases hx
  cases hy
  exact ⟨i, j, rfl, post_int r h⟩
end
end Dl
set_option maxHeartbeats 4000000
namespace Dl
open PySem PySem.Spec L2

/-! ### tests -/
inductive RT where
  | ok (c : Bool) (ρ : Ev)
  | raise (c : Nat) (ρ : Ev)
  | stuck
def RE.tst : RE → RT
  | .ok (.d (.bool c)) ρ => .ok c ρ
  | .raise c ρ => .raise c ρ
  | _ => .stuck
section
variable (K : PySem.W.Frag) (b : Bx) (W : WX)
def PostT (G : Hp) (σ : St) (Q : Bool → Hp → Prop) : RT → Prop
  | .ok c ρ' => ∀ G' H', Rel K b G' H' σ ρ' → Same G G' → Q c H'
  | .raise c ρ' => ∀ G' H', Rel K b G' H' σ ρ' → Same G G' → W (.ref (b.cl c)) none σ H'
  | .stuck => False
def tT (f : Ev → RT) : TT := fun σ H Q => ∃ ρ G, Rel K b G H σ ρ ∧ PostT K b W G σ Q (f ρ)
end
section
variable {X : Cx} {b : Bx} {W : WX} {G G1 H : Hp} {σ : St} {ρ : Ev}
theorem PostT.mono {K : PySem.W.Frag} {Q : Bool → Hp → Prop} {r : RT} (e : Same G G1) (h : PostT K b W G σ Q r) : PostT K b W G1 σ Q r := by
  cases r with
  | ok c ρ' => exact fun G' H' r s => h G' H' r (e.trans s)
  | raise c ρ' => exact fun G' H' r s => h G' H' r (e.trans s)
  | stuck => exact h
def fTest (f : Ev → RE) : Ev → RT := fun ρ => (f ρ).tst
theorem test_post {K : PySem.W.Frag} {f : Ev → RE} : ∀ σ H Q, tT K b W (fTest f) σ H Q → tE K b W f σ H fun x H' => ∃ k, x = .bl k ∧ Q k H' := by
  rintro σ H Q ⟨ρ, G, r, h⟩
  refine ⟨ρ, G, r, ?_⟩
  unfold fTest at h
  cases e : f ρ with
  | ok sv ρ' =>
    rw [e] at h
    cases sv with
    | d x =>
      cases x with
      | bool c => intro v G' H' r' s' d'; cases d'; exact ⟨c, rfl, h G' H' r' s'⟩
      | _ => exact h.elim
    | _ => exact h.elim
  | raise c ρ' => rw [e] at h; exact h
  | stuck => rw [e] at h; exact h
theorem t_val {e : Expr} {f : Ev → RE} (h : PE X e (tE X.K b W f)) (he : ∀ whole, isTrue e X.env whole = (do let v ← whole; standAt e.pos; holding [v] (truthy v)) := by intro _; rfl) : PT X e (tT X.K b W (fTest f)) :=
  PT.imp (pt_val h he) test_post
theorem t_cmp {a c : Expr} {op : CmpOp} {pos : Pos} {r : R2} {g : D → D → Option Sv} {oa ob : Opd} (ho : OpR X (compareOp op) r) (hs : OpS X.K r g) (ha : PO2 X b W a oa) (hb : PO2 X b W c ob) (hm : behindInMarks op c = false := by first | exact nomark _ | rfl) :
    PT X (.Compare a [op] [c] pos) (tT X.K b W (fTest (fOp g oa ob))) := PT.imp (pt_cmpR ho ha hb hm) fun σ H Q h => op_post hs σ H _ (test_post σ H Q h)
def fNotT (f : Ev → RT) : Ev → RT := fun ρ => match f ρ with
  | .ok c ρ1 => .ok (!c) ρ1
  | r => r
def fAndT (f g : Ev → RT) : Ev → RT := fun ρ => match f ρ with
  | .ok true ρ1 => g ρ1
  | r => r
def fOrT (f g : Ev → RT) : Ev → RT := fun ρ => match f ρ with
  | .ok false ρ1 => g ρ1
  | r => r
/-- a test, then what hangs on its answer -/
theorem stepT {K : PySem.W.Frag} {f : Ev → RT} {P : RT → Prop} (r : Rel K b G H σ ρ) {R : Bool → Hp → Prop} (h1 : ∀ c ρ1, f ρ = .ok c ρ1 → ∀ G1 H1, Rel K b G1 H1 σ ρ1 → Same G G1 → R c H1)
    (h2 : ∀ c ρ1, f ρ = .raise c ρ1 → ∀ G1 H1, Rel K b G1 H1 σ ρ1 → Same G G1 → W (.ref (b.cl c)) none σ H1) (h3 : f ρ ≠ .stuck) : tT K b W f σ H R := by
  refine ⟨ρ, G, r, ?_⟩
  cases e : f ρ with
  | ok c ρ1 => exact h1 c ρ1 e
  | raise c ρ1 => exact h2 c ρ1 e
  | stuck => exact absurd e h3
theorem t_not {e : Expr} {pos : Pos} {f : Ev → RT} (h : PT X e (tT X.K b W f)) : PT X (.UnaryOp .Not e pos) (tT X.K b W (fNotT f)) := PT.imp (pt_not h) fun σ H Q ⟨ρ, G, r, q⟩ => by
  refine stepT (P := fun _ => True) r (fun c ρ1 e G1 H1 r1 s1 => ?_) (fun c ρ1 e G1 H1 r1 s1 => ?_) fun e => ?_
  · simp only [fNotT, e] at q; exact q G1 H1 r1 s1
  · simp only [fNotT, e] at q; exact q G1 H1 r1 s1
  · simp only [fNotT, e] at q; exact q
theorem w_and1 {e : Expr} {pos : Pos} {f : Ev → RT} (h : PT X e (tT X.K b W f)) : PW X (.BoolOp .And [e] pos) (tT X.K b W f) := pw_and1 h
theorem w_or1 {e : Expr} {pos : Pos} {f : Ev → RT} (h : PT X e (tT X.K b W f)) : PW X (.BoolOp .Or [e] pos) (tT X.K b W f) := pw_or1 h
theorem PW.imp {X : Cx} {e : Expr} {t t' : TT} (h : PW X e t) (i : ∀ σ H Q, t' σ H Q → t σ H Q) : PW X e t' := ⟨fun wh pins s σ H Q I q => h.run wh pins s σ H Q I (i _ _ _ q)⟩
theorem w_and {a c : Expr} {rest : List Expr} {pos : Pos} {f g : Ev → RT} (ha : PT X a (tT X.K b W f)) (hb : PW X (.BoolOp .And (c :: rest) pos) (tT X.K b W g)) : PW X (.BoolOp .And (a :: c :: rest) pos) (tT X.K b W (fAndT f g)) := PW.imp (pw_and ha hb) fun σ H Q ⟨ρ, G, r, q⟩ => by
  refine stepT (P := fun _ => True) r (fun c ρ1 e G1 H1 r1 s1 => ?_) (fun c ρ1 e G1 H1 r1 s1 => ?_) fun e => ?_
  · cases c with
    | true => simp only [fAndT, e] at q; exact iteT ⟨ρ1, G1, r1, PostT.mono s1 q⟩
    | false => simp only [fAndT, e] at q; exact iteF (q G1 H1 r1 s1)
  · simp only [fAndT, e] at q; exact q G1 H1 r1 s1
  · simp only [fAndT, e] at q; exact q
theorem w_or {a c : Expr} {rest : List Expr} {pos : Pos} {f g : Ev → RT} (ha : PT X a (tT X.K b W f)) (hb : PW X (.BoolOp .Or (c :: rest) pos) (tT X.K b W g)) : PW X (.BoolOp .Or (a :: c :: rest) pos) (tT X.K b W (fOrT f g)) := PW.imp (pw_or ha hb) fun σ H Q ⟨ρ, G, r, q⟩ => by
  refine stepT (P := fun _ => True) r (fun c ρ1 e G1 H1 r1 s1 => ?_) (fun c ρ1 e G1 H1 r1 s1 => ?_) fun e => ?_
  · cases c with
    | true => simp only [fOrT, e] at q; exact iteT (q G1 H1 r1 s1)
    | false => simp only [fOrT, e] at q; exact iteF ⟨ρ1, G1, r1, PostT.mono s1 q⟩
  · simp only [fOrT, e] at q; exact q G1 H1 r1 s1
  · simp only [fOrT, e] at q; exact q
theorem t_pw {e : Expr} {f : Ev → RT} (h : PW X e (tT X.K b W f)) : PT X e (tT X.K b W f) := PW.pt h

/-! ### and, or, not, if as values -/
def RE.bindB (r : RE) (k : Bool → Ev → RE) : RE := r.bindD fun x ρ1 => match x with
  | .bool c => k c ρ1
  | _ => .stuck
theorem stepB {K : PySem.W.Frag} {Q : VK} {fa : Ev → RE} {k : Bool → Ev → RE} (r : Rel K b G H σ ρ) (h : PostE K b W G σ Q ((fa ρ).bindB k)) {R : V → Hp → Prop}
    (hR : ∀ c H1 ρ1 G1, Rel K b G1 H1 σ ρ1 → Same G G1 → PostE K b W G1 σ Q (k c ρ1) → R (.bl c) H1) : tE K b W fa σ H R := by
  refine stepD r h fun v H1 ρ1 G1 x r1 s1 d1 q1 => ?_
  cases x with
  | bool c => cases d1; exact hR c H1 ρ1 G1 r1 s1 q1
  | _ => exact q1.elim
def fAndV (f g : Ev → RE) : Ev → RE := fun ρ => (f ρ).bindB fun c ρ1 => if c = true then g ρ1 else .ok (bol false) ρ1
def fOrV (f g : Ev → RE) : Ev → RE := fun ρ => (f ρ).bindB fun c ρ1 => if c = true then .ok (bol true) ρ1 else g ρ1
def fNotV (f : Ev → RE) : Ev → RE := fun ρ => (f ρ).bindB fun c ρ1 => .ok (bol (!c)) ρ1
theorem e_one {op} {e : Expr} {pos : Pos} {f : Ev → RE} (h : PE X e (tE X.K b W f)) : PE X (.BoolOp op [e] pos) (tE X.K b W f) := pe_one h
theorem e_and {a c : Expr} {rest : List Expr} {pos : Pos} {f g : Ev → RE} (ha : PE X a (tE X.K b W f)) (hb : PE X (.BoolOp .And (c :: rest) pos) (tE X.K b W g)) : PE X (.BoolOp .And (a :: c :: rest) pos) (tE X.K b W (fAndV f g)) := PE.imp (pe_and ha hb) fun σ H Q ⟨ρ, G, r, q⟩ => by
  refine stepB r q fun c H1 ρ1 G1 r1 s1 q1 => ⟨c, rfl, ?_⟩
  cases c with
  | true => exact iteT ⟨ρ1, G1, r1, q1⟩
  | false => exact iteF (q1 _ _ _ r1 (Same.refl _) (.bl false))
theorem e_or {a c : Expr} {rest : List Expr} {pos : Pos} {f g : Ev → RE} (ha : PE X a (tE X.K b W f)) (hb : PE X (.BoolOp .Or (c :: rest) pos) (tE X.K b W g)) : PE X (.BoolOp .Or (a :: c :: rest) pos) (tE X.K b W (fOrV f g)) := PE.imp (pe_or ha hb) fun σ H Q ⟨ρ, G, r, q⟩ => by
  refine stepB r q fun c H1 ρ1 G1 r1 s1 q1 => ⟨c, rfl, ?_⟩
  cases c with
  | true => exact iteT (q1 _ _ _ r1 (Same.refl _) (.bl true))
  | false => exact iteF ⟨ρ1, G1, r1, q1⟩
theorem e_not {e : Expr} {pos : Pos} {f : Ev → RE} (h : PE X e (tE X.K b W f)) : PE X (.UnaryOp .Not e pos) (tE X.K b W (fNotV f)) := PE.imp (pe_not h) fun σ H Q ⟨ρ, G, r, q⟩ => by
  refine stepB r q fun c H1 ρ1 G1 r1 s1 q1 => ⟨c, rfl, q1 _ _ _ r1 (Same.refl _) (.bl _)⟩
def fIfE (c : Ev → RT) (f g : Ev → RE) : Ev → RE := fun ρ => match c ρ with
  | .ok true ρ1 => f ρ1
  | .ok false ρ1 => g ρ1
  | .raise k ρ1 => .raise k ρ1
  | .stuck => .stuck
theorem e_if {c x y : Expr} {pos : Pos} {fc : Ev → RT} {f g : Ev → RE} (hc : PT X c (tT X.K b W fc)) (ha : PE X x (tE X.K b W f)) (hb : PE X y (tE X.K b W g)) : PE X (.IfExp c x y pos) (tE X.K b W (fIfE fc f g)) := PE.imp (pe_ifExp hc ha hb) fun σ H Q ⟨ρ, G, r, q⟩ => by
  refine stepT (P := fun _ => True) r (fun c ρ1 e G1 H1 r1 s1 => ?_) (fun c ρ1 e G1 H1 r1 s1 => ?_) fun e => ?_
  · cases c with
    | true => simp only [fIfE, e] at q; exact iteT ⟨ρ1, G1, r1, PostE.mono s1 q⟩
    | false => simp only [fIfE, e] at q; exact iteF ⟨ρ1, G1, r1, PostE.mono s1 q⟩
  · simp only [fIfE, e] at q; exact q G1 H1 r1 s1
  · simp only [fIfE, e] at q; exact q
/-- a op b op' c -/
def RE.ofB (o : Option Sv) (k : Bool → RE) : RE := match o with
  | some (.d (.bool c)) => k c
  | _ => .stuck
def fChain (g g' : D → D → Option Sv) (a c e : Opd) : Ev → RE := fun ρ => a.run ρ fun x ρ1 => c.run ρ1 fun y ρ2 => match x.get ρ2, y.get ρ2 with
  | some dx, some dy => RE.ofB (g dx dy) fun k => if k = true then e.run ρ2 fun z ρ3 => RE.of2 g' y z ρ3 else .ok (bol false) ρ2
  | _, _ => .stuck
theorem chain_post {K : PySem.W.Frag} {r r' : R2} {g g' : D → D → Option Sv} {oa oc oe : Opd} (hs : OpS K r g) (hs' : OpS K r' g') : ∀ σ H Q, tE K b W (fChain g g' oa oc oe) σ H Q → tChain r r' (tO K b W oa) (tO K b W oc) (tO K b W oe) σ H Q := by
  rintro σ H Q ⟨ρ, G, rl, h⟩
  refine stepO rl h fun v H1 ρ1 G1 x r1 s1 d1 q1 => ?_
  refine stepO r1 q1 fun u H2 ρ2 G2 y r2 s2 d2 q2 => ?_
  cases e1 : x.get ρ2 with
  | none => simp only [e1] at q2; exact q2.elim
  | some dx =>
    cases e2 : y.get ρ2 with
    | none => simp only [e1, e2] at q2; exact q2.elim
    | some dy =>
      simp only [e1, e2] at q2
      refine hs b G2 H2 σ ρ2 v u dx dy _ r2 ((d1.mono s2).vw r2 e1) (d2.vw r2 e2) ?_
      cases eg : g dx dy with
      | none => rw [eg] at q2; exact q2.elim
      | some sv =>
        rw [eg] at q2
        cases sv with
        | d z =>
          cases z with
          | bool k =>
            intro w G3 H3 r3 s3 d3
            cases d3
            refine ⟨k, rfl, ?_⟩
            have q3 : PostE K b W G3 σ Q (if k = true then oe.run ρ2 fun z ρ3 => RE.of2 g' y z ρ3 else .ok (bol false) ρ2) := PostE.mono s3 q2
            cases k with
            | true =>
              rw [if_pos rfl] at q3 ⊢
              refine stepO r3 q3 fun w H4 ρ4 G4 z r4 s4 d4 q4 => ?_
              obtain ⟨dy', dz, e3, e4, q⟩ := of2_post q4
              exact hs' b G4 H4 σ ρ4 u w dy' dz Q r4 ((d2.mono (s3.trans s4)).vw r4 e3) (d4.vw r4 e4) q
            | false =>
              rw [if_neg Bool.false_ne_true] at q3 ⊢
              exact q3 _ _ _ r3 (Same.refl _) (.bl false)
          | _ => exact q2.elim
        | _ => exact q2.elim
theorem e_chain {op op' : CmpOp} {a c e : Expr} {pos : Pos} {r r' : R2} {g g' : D → D → Option Sv} {oa oc oe : Opd} (ho : OpR X (compareOp op) r) (hs : OpS X.K r g) (ho' : OpR X (compareOp op') r') (hs' : OpS X.K r' g') (ha : PO2 X b W a oa) (hc : PO2 X b W c oc) (he : PO2 X b W e oe)
    (hm : lastMarks [op, op'] [c, e] = false := by with_unfolding_all rfl) : PE X (.Compare a [op, op'] [c, e] pos) (tE X.K b W (fChain g g' oa oc oe)) := PE.imp (pe_chain ho ho' ha hc he hm) (chain_post hs hs')
theorem t_chain {op op' : CmpOp} {a c e : Expr} {pos : Pos} {r r' : R2} {g g' : D → D → Option Sv} {oa oc oe : Opd} (ho : OpR X (compareOp op) r) (hs : OpS X.K r g) (ho' : OpR X (compareOp op') r') (hs' : OpS X.K r' g') (ha : PO2 X b W a oa) (hc : PO2 X b W c oc) (he : PO2 X b W e oe)
    (hm : lastMarks [op, op'] [c, e] = false := by with_unfolding_all rfl) : PT X (.Compare a [op, op'] [c, e] pos) (tT X.K b W (fTest (fChain g g' oa oc oe))) := PT.imp (pt_chain ho ho' ha hc he hm) fun σ H Q h => chain_post hs hs' σ H _ (test_post σ H Q h)
/-- x is None, x is not None -/
def isD : D → D → Option Sv | x, .none => some (bol (isNoneD x)) | _, _ => none
def notNoneD : D → D → Option Sv | x, .none => some (bol (!isNoneD x)) | _, _ => none
theorem none_da {K : PySem.W.Frag} {v : V} {x : D} (h : Vw K G H v x) : decide (v = .non) = isNoneD x := by
  rcases h with h | ⟨a, xs, l, rfl, rfl, _, _⟩
  · cases h <;> rfl
  · rfl
theorem os_is {K : PySem.W.Frag} : OpS K (fun x y H Q => y = .non ∧ Q (.bl (decide (x = .non))) H) isD := by
  intro b G H σ ρ x y dx dy Q r hx hy h
  cases dy with
  | none =>
    have hy := hy.da fun l z => nomatch z
    cases hy
    exact ⟨rfl, by rw [none_da hx]; exact post_bl r h⟩
  | _ => exact h.elim
theorem os_notNone {K : PySem.W.Frag} : OpS K (fun x y H Q => y = .non ∧ Q (.bl (!decide (x = .non))) H) notNoneD := by
  intro b G H σ ρ x y dx dy Q r hx hy h
  cases dy with
  | none =>
    have hy := hy.da fun l z => nomatch z
    cases hy
    exact ⟨rfl, by rw [none_da hx]; exact post_bl r h⟩
  | _ => exact h.elim
end

/-! ### statements -/
inductive RS where
  | next (ρ : Ev)
  | ret (v : Sv) (ρ : Ev)
  | brk (ρ : Ev)
  | cnt (ρ : Ev)
  | raise (c : Nat) (ρ : Ev)
  | stuck
section
variable (K : PySem.W.Frag) (b : Bx) (W : WX)
def PostS (G : Hp) (D : Ends) : RS → Prop
  | .next ρ' => ∀ σ' G' H', Rel K b G' H' σ' ρ' → Same G G' → D.nx σ' H'
  | .ret sv ρ' => ∀ v σ' G' H', Rel K b G' H' σ' ρ' → Same G G' → RepT K b G' H' σ' ρ' v sv → D.rt v H'
  | .brk ρ' => ∀ σ' G' H', Rel K b G' H' σ' ρ' → Same G G' → D.bk σ' H'
  | .cnt ρ' => ∀ σ' G' H', Rel K b G' H' σ' ρ' → Same G G' → D.ct σ' H'
  | .raise c ρ' => ∀ σ' G' H', Rel K b G' H' σ' ρ' → Same G G' → W (.ref (b.cl c)) none σ' H'
  | .stuck => False
def tS (f : Ev → RS) : TS := fun D σ H => ∃ ρ G, Rel K b G H σ ρ ∧ PostS K b W G D (f ρ)
end
section
variable {X : Cx} {b : Bx} {W : WX} {G G1 H : Hp} {σ : St} {ρ : Ev}
theorem PostS.mono {K : PySem.W.Frag} {D : Ends} {r : RS} (e : Same G G1) (h : PostS K b W G D r) : PostS K b W G1 D r := by
  cases r with
  | next ρ' => exact fun σ' G' H' r s => h σ' G' H' r (e.trans s)
  | ret sv ρ' => exact fun v σ' G' H' r s => h v σ' G' H' r (e.trans s)
  | brk ρ' => exact fun σ' G' H' r s => h σ' G' H' r (e.trans s)
  | cnt ρ' => exact fun σ' G' H' r s => h σ' G' H' r (e.trans s)
  | raise c ρ' => exact fun σ' G' H' r s => h σ' G' H' r (e.trans s)
  | stuck => exact h
def fSeq (f g : Ev → RS) : Ev → RS := fun ρ => match f ρ with
  | .next ρ1 => g ρ1
  | r => r
def fSkip : Ev → RS := fun ρ => .next ρ
theorem seq_post {K : PySem.W.Frag} {f g : Ev → RS} : ∀ D σ H, tS K b W (fSeq f g) D σ H → tSeq (tS K b W f) (tS K b W g) D σ H := by
  rintro D σ H ⟨ρ, G, r, q⟩
  refine ⟨ρ, G, r, ?_⟩
  cases e : f ρ with
  | next ρ1 => simp only [fSeq, e] at q; exact fun σ' G' H' r' s' => ⟨ρ1, G', r', PostS.mono s' q⟩
  | _ => simp only [fSeq, e] at q; exact q
theorem s_nil : PSs X [] (tS X.K b W fSkip) := PSs.imp pss_nil fun D σ H ⟨ρ, G, r, q⟩ => q σ G H r (Same.refl _)
theorem s_one {st : Stmt} {f : Ev → RS} (h : PS X st (tS X.K b W f)) : PSs X [st] (tS X.K b W f) := pss_one h
theorem s_cons {st : Stmt} {rest : List Stmt} {f g : Ev → RS} (h1 : PS X st (tS X.K b W f)) (h2 : PSs X rest (tS X.K b W g)) : PSs X (st :: rest) (tS X.K b W (fSeq f g)) := PSs.imp (pss_cons h1 h2) seq_post
theorem s_pass {pos} : PS X (.Pass pos) (tS X.K b W fSkip) := PS.imp ps_pass fun D σ H ⟨ρ, G, r, q⟩ => q σ G H r (Same.refl _)
theorem s_break {pos} : PS X (.Break pos) (tS X.K b W fun ρ => .brk ρ) := PS.imp ps_break fun D σ H ⟨ρ, G, r, q⟩ => q σ G H r (Same.refl _)
theorem s_continue {pos} : PS X (.Continue pos) (tS X.K b W fun ρ => .cnt ρ) := PS.imp ps_continue fun D σ H ⟨ρ, G, r, q⟩ => q σ G H r (Same.refl _)
def fIf (c : Ev → RT) (f g : Ev → RS) : Ev → RS := fun ρ => match c ρ with
  | .ok true ρ1 => f ρ1
  | .ok false ρ1 => g ρ1
  | .raise k ρ1 => .raise k ρ1
  | .stuck => .stuck
theorem s_if {c : Expr} {x y : List Stmt} {pos : Pos} {fc : Ev → RT} {f g : Ev → RS} (hc : PT X c (tT X.K b W fc)) (ha : PSs X x (tS X.K b W f)) (hb : PSs X y (tS X.K b W g)) : PS X (.If c x y pos) (tS X.K b W (fIf fc f g)) := PS.imp (ps_if hc ha hb) fun D σ H ⟨ρ, G, r, q⟩ => by
  refine stepT (P := fun _ => True) r (fun c ρ1 e G1 H1 r1 s1 => ?_) (fun c ρ1 e G1 H1 r1 s1 => ?_) fun e => ?_
  · cases c with
    | true => simp only [fIf, e] at q; exact iteT ⟨ρ1, G1, r1, PostS.mono s1 q⟩
    | false => simp only [fIf, e] at q; exact iteF ⟨ρ1, G1, r1, PostS.mono s1 q⟩
  · simp only [fIf, e] at q; exact q σ G1 H1 r1 s1
  · simp only [fIf, e] at q; exact q
/-- an expression's value goes to a statement's rest -/
def RE.toS (r : RE) (k : Sv → Ev → RS) : RS := match r with
  | .ok sv ρ => k sv ρ
  | .raise c ρ => .raise c ρ
  | .stuck => .stuck
theorem stepS {K : PySem.W.Frag} {D : Ends} {f : Ev → RE} {k : Sv → Ev → RS} (r : Rel K b G H σ ρ) (h : PostS K b W G D ((f ρ).toS k)) {R : V → Hp → Prop}
    (hR : ∀ v H1 ρ1 G1 sv, Rel K b G1 H1 σ ρ1 → Same G G1 → RepT K b G1 H1 σ ρ1 v sv → PostS K b W G1 D (k sv ρ1) → R v H1) : tE K b W f σ H R := by
  refine ⟨ρ, G, r, ?_⟩
  cases e : f ρ with
  | ok sv ρ1 =>
    rw [e] at h
    exact fun v G' H' r' s' q' => hR v H' ρ1 G' sv r' s' q' (PostS.mono s' h)
  | raise c ρ1 =>
    rw [e] at h
    exact fun G' H' r' s' => h σ G' H' r' s'
  | stuck => rw [e] at h; exact h
/-- .. its data -/
def RE.toSD (r : RE) (k : D → Ev → RS) : RS := r.toS fun sv ρ => match sv.dat? with
  | some x => k x ρ
  | none => .stuck
theorem stepSD {K : PySem.W.Frag} {D : Ends} {f : Ev → RE} {k : Dl.D → Ev → RS} (r : Rel K b G H σ ρ) (h : PostS K b W G D ((f ρ).toSD k)) {R : V → Hp → Prop}
    (hR : ∀ v H1 ρ1 G1 x, Rel K b G1 H1 σ ρ1 → Same G G1 → Da K G1 v x → PostS K b W G1 D (k x ρ1) → R v H1) : tE K b W f σ H R := by
  refine stepS r h fun v H1 ρ1 G1 sv r1 s1 d1 q1 => ?_
  cases e : sv.dat? with
  | none => simp only [e] at q1; exact q1.elim
  | some x =>
    simp only [e] at q1
    obtain ⟨G2, r2, s2, d2⟩ := r1.pub d1 e
    exact hR v H1 ρ1 G2 x r2 (s1.trans s2) d2 (PostS.mono s2 q1)
def fRet (f : Ev → RE) : Ev → RS := fun ρ => (f ρ).toS fun sv ρ1 => .ret sv ρ1
theorem s_ret {e : Expr} {pos : Pos} {f : Ev → RE} (h : PE X e (tE X.K b W f)) : PS X (.Return (some e) pos) (tS X.K b W (fRet f)) := PS.imp (ps_ret h) fun D σ H ⟨ρ, G, r, q⟩ =>
  stepS r q fun v H1 ρ1 G1 sv r1 s1 d1 q1 => q1 v σ G1 H1 r1 (Same.refl _) d1
theorem s_retN {pos : Pos} : PS X (.Return none pos) (tS X.K b W fun ρ => .ret (.d .none) ρ) := PS.imp ps_retN fun D σ H ⟨ρ, G, r, q⟩ => q .non σ G H r (Same.refl _) .non
def fDrop (f : Ev → RE) : Ev → RS := fun ρ => (f ρ).toS fun _ ρ1 => .next ρ1
theorem s_expr {e : Expr} {pos : Pos} {f : Ev → RE} (h : PE X e (tE X.K b W f)) (hs : swapsWith e none pos.line X.env = pure false := by rfl) : PS X (.Expr e pos) (tS X.K b W (fDrop f)) := PS.imp (ps_expr h hs) fun D σ H ⟨ρ, G, r, q⟩ =>
  stepS r q fun v H1 ρ1 G1 sv r1 s1 d1 q1 => q1 σ G1 H1 r1 (Same.refl _)

/-! ### stores to names -/
def rfAt (ρ : Ev) (i : Nat) : Bool := match ρ[i]? with
  | some (some (.rf _)) => true
  | _ => false
theorem no_rf {i : Nat} (h : rfAt ρ i = false) (l : List D) : ρ[i]? ≠ some (some (.rf l)) := fun e => by
  unfold rfAt at h; rw [e] at h; cases h
theorem Rel.assign {K : PySem.W.Frag} {i : Nat} {v : V} {sv : Sv} (r : Rel K b G H σ ρ) (h : RepT K b G H σ ρ v sv) (hi : rfAt ρ i = false) : Rel K b G H (σ.set i (some v)) (ρ.set i (some sv)) := by
  have nr : ∀ l, sv ≠ .rf l := fun l z => by subst z; exact h
  have cases2 : ∀ {j : Nat} {s' : Sv}, (ρ.set i (some sv))[j]? = some (some s') → (j = i ∧ sv = s' ∧ i < ρ.length) ∨ (j ≠ i ∧ ρ[j]? = some (some s')) := fun {j s'} q => by
    by_cases e : j = i
    · subst e
      by_cases hl : j < ρ.length
      · rw [List.getElem?_set_self hl] at q
        exact .inl ⟨rfl, Option.some.inj (Option.some.inj q), hl⟩
      · rw [List.getElem?_eq_none (by simpa using hl)] at q; cases q
    · rw [List.getElem?_set_ne (Ne.symm e)] at q
      exact .inr ⟨e, q⟩
  -- who owns an address now
  have own : ∀ {j : Nat} {a : Addr}, Owns (σ.set i (some v)) (ρ.set i (some sv)) j a → (j = i ∧ v = .ref a ∧ ∃ l, sv = .ow l) ∨ (j ≠ i ∧ Owns σ ρ j a) := fun {j a} ⟨h1, l, h2⟩ => by
    have hs : ∃ s', (ρ.set i (some sv))[j]? = some (some s') ∧ (s' = .ow l ∨ s' = .rf l) := by
      rcases h2 with h2 | h2
      · exact ⟨_, h2, .inl rfl⟩
      · exact ⟨_, h2, .inr rfl⟩
    obtain ⟨s', e1, e2⟩ := hs
    rcases cases2 e1 with ⟨rfl, e3, e4⟩ | ⟨ne, e3⟩
    · rw [List.getElem?_set_self (by rw [← r.len]; exact e4)] at h1
      refine .inl ⟨rfl, Option.some.inj (Option.some.inj h1), ?_⟩
      rcases e2 with e2 | e2
      · exact ⟨l, e3.trans e2⟩
      · exact absurd (e3.trans e2) (nr l)
    · rw [List.getElem?_set_ne (Ne.symm ne)] at h1
      refine .inr ⟨ne, h1, l, ?_⟩
      rcases e2 with e2 | e2
      · exact .inl (by rw [e3, e2])
      · exact .inr (by rw [e3, e2])
  have fresh : ∀ {a : Addr} {l : List D}, v = .ref a → sv = .ow l → ∀ j, ¬ Owns σ ρ j a := fun {a l} e1 e2 => by
    subst e2
    obtain ⟨a', xs, e3, _, _, _, _, no, _⟩ := h
    rw [e1] at e3; cases e3
    exact no
  refine ⟨r.le, by rw [List.length_set, List.length_set]; exact r.len, fun j s' q => ?_, fun j k a h1 h2 => ?_, r.keep, r.base, r.fresh, fun p hp => ?_, fun a o h1 => ?_⟩
  · rcases cases2 q with ⟨rfl, e, hl⟩ | ⟨ne, e⟩
    · refine ⟨v, by rw [List.getElem?_set_self (by rw [← r.len]; exact hl)], ?_⟩
      subst e
      cases sv with
      | d x => exact h
      | ow l =>
        obtain ⟨a, xs, e1, h2, h3, h4, h5, _, h6⟩ := h
        exact ⟨a, xs, e1, h2, h3, h4, h6⟩
      | rf l => exact absurd rfl (nr l)
      | ex c => exact h
      | px c => exact h
      | on w => exact h.elim
      | al j p => exact h.elim
      | fz l => exact h
    · obtain ⟨u, h1, h2⟩ := r.slot j s' e
      exact ⟨u, by rw [List.getElem?_set_ne (Ne.symm ne)]; exact h1, h2⟩
  · rcases own h1 with ⟨e1, e2, l, e3⟩ | ⟨n1, o1⟩
    · rcases own h2 with ⟨e4, _⟩ | ⟨n2, o2⟩
      · rw [e1, e4]
      · exact absurd o2 (fresh e2 e3 k)
    · rcases own h2 with ⟨e4, e5, l, e6⟩ | ⟨n2, o2⟩
      · exact absurd o1 (fresh e5 e6 j)
      · exact r.apart j k a o1 o2
  · obtain ⟨l, h1, h2⟩ := r.byr p hp
    have ne : p.1 ≠ i := fun z => no_rf hi l (by rw [← z]; exact h2)
    exact ⟨l, by rw [List.getElem?_set_ne (Ne.symm ne)]; exact h1, by rw [List.getElem?_set_ne (Ne.symm ne)]; exact h2⟩
  · obtain ⟨h2, h3, h4, h5⟩ := r.tmp a o h1
    refine ⟨h2, h3, h4, fun j z => ?_⟩
    rcases own z with ⟨_, e2, l, e3⟩ | ⟨_, o1⟩
    · subst e3
      obtain ⟨a', xs, e4, _, _, _, ht, _⟩ := h
      rw [e2] at e4; cases e4
      rw [ht] at h1; cases h1
    · exact h5 j o1
def fSet (i : Nat) (f : Ev → RE) : Ev → RS := fun ρ => (f ρ).toS fun sv ρ1 => if rfAt ρ1 i = false then .next (ρ1.set i (some sv)) else .stuck
theorem postS_if {K : PySem.W.Frag} {D : Ends} {c : Prop} [Decidable c] {x : RS} (h : PostS K b W G D (if c then x else .stuck)) : c ∧ PostS K b W G D x := by
  by_cases e : c
  · rw [if_pos e] at h; exact ⟨e, h⟩
  · rw [if_neg e] at h; exact h.elim
theorem s_set {i : Nat} {x : Str} {e : Expr} {f : Ev → RE} {pos pos' : Pos} (hN : X.N.Nodup) (hi : X.N[i]? = some x) (hx : Loc X.env.scope x) (he : PE X e (tE X.K b W f)) (hs : swapsWith e (some (.Name x pos')) pos.line X.env = pure false := by rfl)
    (hf : X.fn x = true ∨ X.env.scope.names.lookup x = some .local := by first | exact .inl rfl | exact .inr rfl) : PS X (.Assign [.Name x pos'] e pos) (tS X.K b W (fSet i f)) := PS.imp (ps_set hN hi hx he hs hf) fun D σ H ⟨ρ, G, r, q⟩ => by
  refine stepS r q fun v H1 ρ1 G1 sv r1 s1 d1 q1 => ?_
  obtain ⟨c, q1⟩ := postS_if q1
  exact q1 _ _ _ (r1.assign d1 c) (Same.refl _)

/-! ### patterns -/
inductive Pat where
  | n (i : Nat)
  | t (ps : List Pat)
mutual
def bindP : Pat → D → Ev → Option Ev
  | .n i, x, ρ => if rfAt ρ i = false then some (ρ.set i (some (.d x))) else none
  | .t ps, .tuple xs, ρ => bindPs ps xs ρ
  | .t ps, .list xs, ρ => bindPs ps xs ρ
  | .t _, _, _ => none
def bindPs : List Pat → List D → Ev → Option Ev
  | [], [], ρ => some ρ
  | p :: ps, x :: xs, ρ => match bindP p x ρ with
    | some ρ1 => bindPs ps xs ρ1
    | none => none
  | _, _, _ => none
end
mutual
def pvars : Pat → List Nat
  | .n i => [i]
  | .t ps => pvarss ps
def pvarss : List Pat → List Nat
  | [] => []
  | p :: ps => pvars p ++ pvarss ps
end
/-- the same but at the slots vs -/
def Agree (vs : List Nat) (σ σ' : St) : Prop := σ'.length = σ.length ∧ ∀ j, j ∉ vs → σ'[j]? = σ[j]?
def gP (K : PySem.W.Frag) (b : Bx) (p : Pat) : TG := fun v σ H Q => ∃ ρ G x, Rel K b G H σ ρ ∧ Da K G v x ∧ ∃ ρ', bindP p x ρ = some ρ' ∧ ∀ σ', Rel K b G H σ' ρ' → Agree (pvars p) σ σ' → Q σ' H
def gPs (K : PySem.W.Frag) (b : Bx) (ps : List Pat) : TGs := fun vs σ H Q => ∃ ρ G xs, Rel K b G H σ ρ ∧ DaAll K G vs xs ∧ ∃ ρ', bindPs ps xs ρ = some ρ' ∧ ∀ σ', Rel K b G H σ' ρ' → Agree (pvarss ps) σ σ' → Q σ' H
theorem PG.imp {e : Expr} {t t' : TG} (h : PG X e t) (i : ∀ v σ H Q, t' v σ H Q → t v σ H Q) : PG X e t' := ⟨fun pins s σ H v u Q I r q => h.run pins s σ H v u Q I r (i _ _ _ _ q)⟩
theorem PGs.imp {e : List Expr} {t t' : TGs} (h : PGs X e t) (i : ∀ v σ H Q, t' v σ H Q → t v σ H Q) : PGs X e t' := ⟨fun pins s σ H v u Q I r q => h.run pins s σ H v u Q I r (i _ _ _ _ q)⟩
theorem g_n {i : Nat} {x : Str} {pos : Pos} (hN : X.N.Nodup) (hi : X.N[i]? = some x) (hx : Loc X.env.scope x) (hf : X.fn x = true ∨ X.env.scope.names.lookup x = some .local := by first | exact .inl rfl | exact .inr rfl) : PG X (.Name x pos) (gP X.K b (.n i)) :=
  PG.imp (pg_name hN hi hx hf) fun v σ H Q ⟨ρ, G, x, r, d, ρ', e, q⟩ => by
    unfold bindP at e
    split at e
    · cases e
      exact q _ (r.assign (sv := .d x) d (by assumption)) ⟨List.length_set, fun j hj => List.getElem?_set_ne (fun z => hj (by rw [z]; unfold pvars; exact List.mem_singleton_self _))⟩
    · cases e
theorem gs_nil : PGs X [] (gPs X.K b []) := PGs.imp pgs_nil fun vs σ H Q ⟨ρ, G, xs, r, d, ρ', e, q⟩ => by
  cases xs with
  | nil => cases d; unfold bindPs at e; cases e; exact ⟨rfl, q _ r ⟨rfl, fun _ _ => rfl⟩⟩
  | cons x xs => unfold bindPs at e; cases e
theorem gs_cons {e : Expr} {es : List Expr} {p : Pat} {ps : List Pat} (h1 : PG X e (gP X.K b p)) (h2 : PGs X es (gPs X.K b ps)) (hs : (assignEach (e :: es) X.env).map (·.2) = assign e X.env :: (assignEach es X.env).map (·.2) := by rfl) : PGs X (e :: es) (gPs X.K b (p :: ps)) :=
  PGs.imp (pgs_cons h1 h2 hs) fun vs σ H Q ⟨ρ, G, xs, r, d, ρ', e, q⟩ => by
    cases xs with
    | nil => unfold bindPs at e; cases e
    | cons x xs =>
      cases d with
      | cons d1 d2 =>
        unfold bindPs at e
        cases e1 : bindP p x ρ with
        | none => rw [e1] at e; cases e
        | some ρ1 =>
          rw [e1] at e
          exact ⟨_, _, rfl, ρ, G, x, r, d1, ρ1, e1, fun σ1 r1 a1 => ⟨ρ1, G, xs, r1, d2, ρ', e, fun σ2 r2 a2 => q σ2 r2 ⟨a2.1.trans a1.1, fun j hj => by
            unfold pvarss at hj
            rw [List.mem_append, not_or] at hj
            rw [a2.2 j hj.2, a1.2 j hj.1]⟩⟩⟩
theorem bindPs_len : ∀ {ps : List Pat} {xs : List D} {ρ ρ' : Ev}, bindPs ps xs ρ = some ρ' → xs.length = ps.length
  | [], [], _, _, _ => rfl
  | [], _ :: _, _, _, e => by unfold bindPs at e; cases e
  | _ :: _, [], _, _, e => by unfold bindPs at e; cases e
  | p :: ps, x :: xs, ρ, ρ', e => by
    unfold bindPs at e
    cases e1 : bindP p x ρ with
    | none => rw [e1] at e; cases e
    | some ρ1 => rw [e1] at e; rw [List.length_cons, List.length_cons, bindPs_len e]
theorem pg_tl {es : List Expr} {k : Nat} {t : TGs} {n : Nat} {pos : Pos} (hc : X.calm = true) (h : PGs X es t) (hn : (assignEach es X.env).length = n := by rfl) (hst : (assignEach es X.env).findIdx? (·.1) = none := by rfl) :
    PG X (.Tuple es k pos) fun v σ H Q => gTup X.K n t v σ H Q ∨ gUnl X.K n t v σ H Q :=
  ⟨fun pins s σ H v u Q I r q => q.elim (fun q => (pg_tup hc h hn hst).run pins s σ H v u Q I r q) fun q => (pg_unl hc h hn hst).run pins s σ H v u Q I r q⟩
theorem g_t {es : List Expr} {ps : List Pat} {k : Nat} {pos : Pos} (hc : X.calm = true) (h : PGs X es (gPs X.K b ps)) (hn : (assignEach es X.env).length = ps.length := by rfl) (hst : (assignEach es X.env).findIdx? (·.1) = none := by rfl) : PG X (.Tuple es k pos) (gP X.K b (.t ps)) :=
  PG.imp (pg_tl hc h hn hst) fun v σ H Q ⟨ρ, G, x, r, d, ρ', e, q⟩ => by
    cases x with
    | tuple xs =>
      cases d with
      | tup h1 h2 =>
        have e : bindPs ps xs ρ = some ρ' := by unfold bindP at e; exact e
        exact .inl ⟨_, _, rfl, seqT r.le h1, by rw [h2.length, bindPs_len e], ρ, G, xs, r, h2, ρ', e, fun σ' r' a' => q σ' r' (by unfold pvars; exact a')⟩
    | list xs =>
      cases d with
      | lst h1 h2 =>
        have e : bindPs ps xs ρ = some ρ' := by unfold bindP at e; exact e
        exact .inr ⟨_, _, rfl, SqL.of (r.le _ _ h1), by rw [h2.length, bindPs_len e], ρ, G, xs, r, h2, ρ', e, fun σ' r' a' => q σ' r' (by unfold pvars; exact a')⟩
    | _ => unfold bindP at e; cases e
/-- a, b = e -/
def fUnp (p : Pat) (f : Ev → RE) : Ev → RS := fun ρ => (f ρ).toSD fun x ρ1 => match bindP p x ρ1 with
  | some ρ2 => .next ρ2
  | none => .stuck
theorem s_unp {tg e : Expr} {p : Pat} {f : Ev → RE} {pos : Pos} (he : PE X e (tE X.K b W f)) (hg : PG X tg (gP X.K b p)) (hs : swapsWithSole [tg] e pos.line X.env = pure false := by rfl) (hw : swappedStores [tg] e X.env = pure none := by rfl) (h1 : (assignEach [tg] X.env).map (·.2) = [assign tg X.env] := by rfl) : PS X (.Assign [tg] e pos) (tS X.K b W (fUnp p f)) :=
  PS.imp (ps_asg he hg hs hw h1) fun D σ H ⟨ρ, G, r, q⟩ => by
    refine stepSD r q fun v H1 ρ1 G1 x r1 s1 d1 q1 => ?_
    cases e : bindP p x ρ1 with
    | none => simp only [e] at q1; exact q1.elim
    | some ρ2 =>
      simp only [e] at q1
      exact ⟨ρ1, G1, x, r1, d1, ρ2, e, fun σ' r2 _ => q1 σ' G1 H1 r2 (Same.refl _)⟩
end
end Dl
set_option maxHeartbeats 4000000
namespace Dl
open PySem PySem.Spec L2

/-! ### lists that are owned: written in place -/
def ownAt (ρ : Ev) (i : Nat) : Option (List D) := match ρ[i]? with
  | some (some (.ow l)) => some l
  | some (some (.rf l)) => some l
  | _ => none
def putL (ρ : Ev) (i : Nat) (l : List D) : Ev := match ρ[i]? with
  | some (some (.ow _)) => ρ.set i (some (.ow l))
  | some (some (.rf _)) => ρ.set i (some (.rf l))
  | _ => ρ
section
variable {X : Cx} {b : Bx} {W : WX} {K : PySem.W.Frag} {G G1 H : Hp} {σ : St} {ρ : Ev}
theorem Rel.owned {i : Nat} {l : List D} (r : Rel K b G H σ ρ) (h : ownAt ρ i = some l) : ∃ a xs, σ[i]? = some (some (.ref a)) ∧ H a = some (.lst xs) ∧ G a = none ∧ DaAll K G xs l ∧ Owns σ ρ i a := by
  unfold ownAt at h
  split at h
  · rename_i m e
    cases h
    obtain ⟨v, h1, a, xs, rfl, ha, ga, h0, hx⟩ := r.slot _ _ e
    exact ⟨a, xs, h1, ha, ga, hx, h1, l, .inl e⟩
  · rename_i m e
    cases h
    obtain ⟨v, h1, a, xs, rfl, ha, ga, h0, hx⟩ := r.slot _ _ e
    exact ⟨a, xs, h1, ha, ga, hx, h1, l, .inr e⟩
  · cases h
theorem Rel.write {i : Nat} {l' : List D} {a : Addr} {xs' : List V} (r : Rel K b G H σ ρ) (ho : Owns σ ρ i a) (hd : DaAll K G xs' l') : Rel K b G (upd H a (.lst xs')) σ (putL ρ i l') := by
  obtain ⟨hσ, l, hρ⟩ := ho
  have hi : i < ρ.length := by rcases hρ with e | e <;> exact lt_of_get e
  -- what stands in the slots now
  have get : ∀ {j : Nat} {sv : Sv}, (putL ρ i l')[j]? = some (some sv) → (j = i ∧ ((ρ[i]? = some (some (.ow l)) ∧ sv = .ow l') ∨ (ρ[i]? = some (some (.rf l)) ∧ sv = .rf l'))) ∨ (j ≠ i ∧ ρ[j]? = some (some sv)) := fun {j sv} q => by
    unfold putL at q
    by_cases e : j = i
    · subst e
      rcases hρ with z | z
      · rw [z] at q
        simp only [List.getElem?_set_self hi] at q
        exact .inl ⟨rfl, .inl ⟨z, (Option.some.inj (Option.some.inj q)).symm⟩⟩
      · rw [z] at q
        simp only [List.getElem?_set_self hi] at q
        exact .inl ⟨rfl, .inr ⟨z, (Option.some.inj (Option.some.inj q)).symm⟩⟩
    · rcases hρ with z | z
      · rw [z] at q
        simp only [List.getElem?_set_ne (Ne.symm e)] at q
        exact .inr ⟨e, q⟩
      · rw [z] at q
        simp only [List.getElem?_set_ne (Ne.symm e)] at q
        exact .inr ⟨e, q⟩
  have own : ∀ {j : Nat} {c : Addr}, Owns σ (putL ρ i l') j c → Owns σ ρ j c := fun {j c} ⟨h1, m, h2⟩ => by
    rcases h2 with h2 | h2
    · rcases get h2 with ⟨e, z | z⟩ | ⟨_, z⟩
      · exact ⟨h1, l, .inl (by rw [e]; exact z.1)⟩
      · cases z.2
      · exact ⟨h1, m, .inl z⟩
    · rcases get h2 with ⟨e, z | z⟩ | ⟨_, z⟩
      · cases z.2
      · exact ⟨h1, l, .inr (by rw [e]; exact z.1)⟩
      · exact ⟨h1, m, .inr z⟩
  have mine : Owns σ ρ i a := ⟨hσ, l, hρ⟩
  have other : ∀ {j : Nat} {c : Addr}, j ≠ i → Owns σ ρ j c → c ≠ a := fun {j c} ne o z => ne (r.apart j i a (by rw [← z]; exact o) mine)
  have self : G a = none ∧ (b.H0 a = none ∨ (i, a) ∈ b.B) := by
    rcases hρ with z | z
    · obtain ⟨v, h1, c, ys, e1, h2, h3, h4, _⟩ := r.slot _ _ z
      rw [hσ] at h1; cases h1; cases e1
      exact ⟨h3, .inl h4⟩
    · obtain ⟨v, h1, c, ys, e1, h2, h3, h4, _⟩ := r.slot _ _ z
      rw [hσ] at h1; cases h1; cases e1
      exact ⟨h3, .inr h4⟩
  refine ⟨fun c o q => ?_, ?_, fun j sv q => ?_, fun j k c h1 h2 => r.apart j k c (own h1) (own h2), fun c o h1 h2 => ?_, r.base, r.fresh, fun p hp => ?_, fun c o h1 => ?_⟩
  · rw [upd_ne (ne_of_none q self.1)]; exact r.le _ _ q
  · unfold putL
    split
    · rw [List.length_set]; exact r.len
    · rw [List.length_set]; exact r.len
    · exact r.len
  · rcases get q with ⟨e, z⟩ | ⟨ne, z⟩
    · subst e
      refine ⟨_, hσ, ?_⟩
      rcases z with ⟨z, rfl⟩ | ⟨z, rfl⟩
      · obtain ⟨v, h1, c, ys, e1, h2, h3, h4, _⟩ := r.slot _ _ z
        rw [hσ] at h1; cases h1; cases e1
        exact ⟨a, xs', rfl, upd_same, h3, h4, hd⟩
      · obtain ⟨v, h1, c, ys, e1, h2, h3, h4, _⟩ := r.slot _ _ z
        rw [hσ] at h1; cases h1; cases e1
        exact ⟨a, xs', rfl, upd_same, h3, h4, hd⟩
    · obtain ⟨v, h1, h2⟩ := r.slot j sv z
      refine ⟨v, h1, ?_⟩
      cases sv with
      | d x => exact h2
      | ow m =>
        obtain ⟨c, ys, e1, h3, h4, h5, h6⟩ := h2
        subst e1
        exact ⟨c, ys, rfl, by rw [upd_ne (other ne ⟨h1, m, .inl z⟩)]; exact h3, h4, h5, h6⟩
      | rf m =>
        obtain ⟨c, ys, e1, h3, h4, h5, h6⟩ := h2
        subst e1
        exact ⟨c, ys, rfl, by rw [upd_ne (other ne ⟨h1, m, .inr z⟩)]; exact h3, h4, h5, h6⟩
      | ex c => exact h2
      | px c => exact h2
      | on w => exact h2
      | al j p => exact h2
      | fz l => exact h2
  · have ne : c ≠ a := fun z => by
      rcases self.2 with e | e
      · rw [z, e] at h1; cases h1
      · exact h2 _ e z.symm
    rw [upd_ne ne]
    exact r.keep c o h1 h2
  · obtain ⟨m, h1, h2⟩ := r.byr p hp
    by_cases e : p.1 = i
    · rcases hρ with z | z
      · rw [e, z] at h2; cases h2
      · refine ⟨l', h1, ?_⟩
        unfold putL
        rw [z, e]
        simp only [List.getElem?_set_self hi]
    · refine ⟨m, h1, ?_⟩
      unfold putL
      rcases hρ with z | z
      · rw [z]; simp only [List.getElem?_set_ne (Ne.symm e)]; exact h2
      · rw [z]; simp only [List.getElem?_set_ne (Ne.symm e)]; exact h2
  · obtain ⟨h2, h3, h4, h5⟩ := r.tmp c o h1
    have ne : c ≠ a := fun z => h5 i (by rw [z]; exact mine)
    exact ⟨by rw [upd_ne ne]; exact h2, h3, h4, fun j z => h5 j (own z)⟩
/-- x.append(e) -/
def fApp (i : Nat) (f : Ev → RE) : Ev → RS := fun ρ => match ownAt ρ i with
  | none => .stuck
  | some _ => (f ρ).toSD fun x ρ1 => match ownAt ρ1 i with
    | some l => if l.length < sizeLine then .next (putL ρ1 i (l ++ [x])) else .stuck
    | none => .stuck
theorem s_append {i : Nat} {x : Str} {e : Expr} {f : Ev → RE} {p apos cpos pos : Pos} (he : PE X e (tE X.K b W f)) (hv : PE X (.Name x p) (tVar i)) (hbase : attributeBase (.Name x p) "append" X.env (eval (.Name x p) X.env) = eval (.Name x p) X.env := by rfl)
    (hfew : ((backTo cpos (starEach [e] X.env)).all (fun x => !x.1) && (backToKw cpos (keywordEach [] X.env)).all (fun x => x.1.isSome) && decide ([e].length + ([] : List Keyword).length + (if ([] : List Keyword).isEmpty then 0 else 1) < 30)) = true := by rfl)
    (hline : (apos.endLine == cpos.line) = true := by rfl) (h1 : starEach [e] X.env = (false, eval e X.env) :: starEach [] X.env := by rfl) (h2 : (backTo cpos (starEach [] X.env)).any (·.1) = false := by rfl)
    (hs : swapsWith (.Call (.Attribute (.Name x p) "append" apos) [e] [] cpos) none pos.line X.env = pure false := by rfl) :
    PS X (.Expr (.Call (.Attribute (.Name x p) "append" apos) [e] [] cpos) pos) (tS X.K b W (fApp i f)) :=
  PS.imp (ps_expr (pe_bm PySem.F.plainAttrs_list PySem.F.slot_list_append PySem.F.type_list_append mt_append hv (pa_cons he pa_nil h1) hbase hfew hline h1 h2) hs) fun D σ H ⟨ρ, G, r, q⟩ => by
    unfold fApp at q
    split at q
    · exact q.elim
    · rename_i l e1
      obtain ⟨a, xs, hσ, ha, ga, hx, ho⟩ := r.owned e1
      refine ⟨_, hσ, .inl ⟨rfl, xs, SqL.of ha⟩, ?_⟩
      show tE X.K b W f σ H _
      refine stepSD r q fun v H1 ρ1 G1 x r1 s1 d1 q1 => ?_
      cases e2 : ownAt ρ1 i with
      | none => simp only [e2] at q1; exact q1.elim
      | some m =>
        simp only [e2] at q1
        obtain ⟨c, q1⟩ := postS_if q1
        obtain ⟨a', ys, hσ', ha', ga', hx', ho'⟩ := r1.owned e2
        rw [hσ] at hσ'; cases hσ'
        exact ⟨a, ys, v, rfl, rfl, ha', by rw [hx'.length]; exact c, q1 σ G1 _ (r1.write ho' (hx'.append (.cons d1 .nil))) (Same.refl _)⟩
/-- x[k] = e -/
def fSetIx (i : Nat) (fk f : Ev → RE) : Ev → RS := fun ρ => (f ρ).toSD fun x ρ1 => match ownAt ρ1 i with
  | none => .stuck
  | some _ => (fk ρ1).toSD fun k ρ2 => match k, ownAt ρ2 i with
    | .int n, some l => match ixN l.length n with
      | some j => .next (putL ρ2 i (l.set j x))
      | none => .stuck
    | _, _ => .stuck
theorem set_post {i : Nat} {f fk : Ev → RE} : ∀ D σ H, tS K b W (fSetIx i fk f) D σ H → tAsg (tE K b W f) (gSub (tVar i) (tE K b W fk) rSetL) D σ H := by
  rintro D σ H ⟨ρ, G, r, q⟩
  refine stepSD r q fun v H1 ρ1 G1 x r1 s1 d1 q1 => ?_
  cases e1 : ownAt ρ1 i with
  | none => simp only [e1] at q1; exact q1.elim
  | some l1 =>
    simp only [e1] at q1
    obtain ⟨a, xs, hσ, _⟩ := r1.owned e1
    refine ⟨_, hσ, ?_⟩
    refine stepSD r1 q1 fun u H2 ρ2 G2 k r2 s2 d2 q2 => ?_
    cases k with
    | int n =>
      cases d2
      cases e2 : ownAt ρ2 i with
      | none => simp only [e2] at q2; exact q2.elim
      | some l =>
        simp only [e2] at q2
        obtain ⟨a', ys, hσ', ha', ga', hx', ho'⟩ := r2.owned e2
        rw [hσ] at hσ'; cases hσ'
        cases e3 : ixN l.length n with
        | none => simp only [e3] at q2; exact q2.elim
        | some j =>
          simp only [e3] at q2
          exact ⟨a, ys, n, j, rfl, rfl, ha', by rw [hx'.length]; exact e3, q2 σ G2 _ (r2.write ho' (hx'.set (Da.mono s2 d1) j)) (Same.refl _)⟩
    | _ => exact q2.elim
/-- x.pop(), x.pop(k) -/
def fPop (i : Nat) : Ev → RE := fun ρ => match ownAt ρ i with
  | some l => match l[l.length - 1]? with
    | some x => .ok (.d x) (putL ρ i l.dropLast)
    | none => .stuck
  | none => .stuck
theorem da_dropLast : ∀ {vs : List V} {xs : List D}, DaAll K G vs xs → DaAll K G vs.dropLast xs.dropLast
  | _, _, .nil => .nil
  | _, _, .cons _ .nil => .nil
  | _, _, .cons h (.cons h2 r) => .cons h (da_dropLast (.cons h2 r))
theorem e_pop {i : Nat} {x : Str} {p apos cpos : Pos} (hv : PE X (.Name x p) (tVar i)) (hbase : attributeBase (.Name x p) "pop" X.env (eval (.Name x p) X.env) = eval (.Name x p) X.env := by rfl) (hline : (apos.endLine == cpos.line) = true := by rfl) :
    PE X (.Call (.Attribute (.Name x p) "pop" apos) [] [] cpos) (tE X.K b W (fPop i)) :=
  PE.imp (pe_bm0 PySem.F.plainAttrs_list PySem.F.slot_list_pop PySem.F.type_list_pop mt_pop hv hbase hline) fun σ H Q ⟨ρ, G, r, q⟩ => by
    unfold fPop at q
    split at q
    · rename_i l e1
      obtain ⟨a, xs, hσ, ha, ga, hx, ho⟩ := r.owned e1
      split at q
      · rename_i z e2
        obtain ⟨v, e3, d3⟩ := hx.get e2
        rw [← hx.length] at e3
        exact ⟨_, hσ, .inl ⟨rfl, xs, SqL.of ha⟩, a, xs, v, rfl, rfl, ha, e3, q v G _ (r.write ho (da_dropLast hx)) (Same.refl _) d3⟩
      · exact q.elim
    · exact q.elim
def fPopAt (i : Nat) (f : Ev → RE) : Ev → RE := fun ρ => match ownAt ρ i with
  | none => .stuck
  | some _ => (f ρ).bindD fun k ρ1 => match k, ownAt ρ1 i with
    | .int n, some l => if -(2 ^ 63) ≤ n ∧ n < 2 ^ 63 then match seqIndex? n l.length with
      | some j => match l[j]? with
        | some x => .ok (.d x) (putL ρ1 i (l.eraseIdx j))
        | none => .stuck
      | none => .stuck else .stuck
    | _, _ => .stuck
theorem e_popAt {i : Nat} {x : Str} {e : Expr} {f : Ev → RE} {p apos cpos : Pos} (hv : PE X (.Name x p) (tVar i)) (he : PE X e (tE X.K b W f)) (hbase : attributeBase (.Name x p) "pop" X.env (eval (.Name x p) X.env) = eval (.Name x p) X.env := by rfl)
    (hfew : ((backTo cpos (starEach [e] X.env)).all (fun x => !x.1) && (backToKw cpos (keywordEach [] X.env)).all (fun x => x.1.isSome) && decide ([e].length + ([] : List Keyword).length + (if ([] : List Keyword).isEmpty then 0 else 1) < 30)) = true := by rfl)
    (hline : (apos.endLine == cpos.line) = true := by rfl) (h1 : starEach [e] X.env = (false, eval e X.env) :: starEach [] X.env := by rfl) (h2 : (backTo cpos (starEach [] X.env)).any (·.1) = false := by rfl) :
    PE X (.Call (.Attribute (.Name x p) "pop" apos) [e] [] cpos) (tE X.K b W (fPopAt i f)) :=
  PE.imp (pe_bm PySem.F.plainAttrs_list PySem.F.slot_list_pop PySem.F.type_list_pop mt_popAt hv (pa_cons he pa_nil h1) hbase hfew hline h1 h2) fun σ H Q ⟨ρ, G, r, q⟩ => by
    unfold fPopAt at q
    split at q
    · exact q.elim
    · rename_i l e1
      obtain ⟨a, xs, hσ, ha, ga, hx, ho⟩ := r.owned e1
      refine ⟨_, hσ, .inl ⟨rfl, xs, SqL.of ha⟩, ?_⟩
      show tE X.K b W f σ H _
      refine stepD r q fun v H1 ρ1 G1 x r1 s1 d1 q1 => ?_
      cases x with
      | int n =>
        cases d1
        cases e2 : ownAt ρ1 i with
        | none => simp only [e2] at q1; exact q1.elim
        | some m =>
          simp only [e2] at q1
          obtain ⟨c, q1⟩ := postE_if q1
          obtain ⟨a', ys, hσ', ha', ga', hx', ho'⟩ := r1.owned e2
          rw [hσ] at hσ'; cases hσ'
          cases e3 : seqIndex? n m.length with
          | none => simp only [e3] at q1; exact q1.elim
          | some j =>
            simp only [e3] at q1
            cases e4 : m[j]? with
            | none => simp only [e4] at q1; exact q1.elim
            | some z =>
              simp only [e4] at q1
              obtain ⟨w, e5, d5⟩ := hx'.get e4
              exact ⟨a, ys, n, j, w, rfl, rfl, ha', c.1, c.2, by rw [hx'.length]; exact e3, e5, q1 w G1 _ (r1.write ho' (hx'.eraseIdx j)) (Same.refl _) d5⟩
      | _ => exact q1.elim
/-- x.clear() -/
def fClear (i : Nat) : Ev → RE := fun ρ => match ownAt ρ i with
  | some _ => .ok (.d .none) (putL ρ i [])
  | none => .stuck
theorem e_clear {i : Nat} {x : Str} {p apos cpos : Pos} (hv : PE X (.Name x p) (tVar i)) (hbase : attributeBase (.Name x p) "clear" X.env (eval (.Name x p) X.env) = eval (.Name x p) X.env := by rfl) (hline : (apos.endLine == cpos.line) = true := by rfl) :
    PE X (.Call (.Attribute (.Name x p) "clear" apos) [] [] cpos) (tE X.K b W (fClear i)) :=
  PE.imp (pe_bm0 PySem.F.plainAttrs_list PySem.F.slot_list_clear PySem.F.type_list_clear mt_clear hv hbase hline) fun σ H Q ⟨ρ, G, r, q⟩ => by
    unfold fClear at q
    split at q
    · rename_i l e1
      obtain ⟨a, xs, hσ, ha, ga, hx, ho⟩ := r.owned e1
      exact ⟨_, hσ, .inl ⟨rfl, xs, SqL.of ha⟩, a, xs, rfl, rfl, ha, q .non G _ (r.write ho .nil) (Same.refl _) .non⟩
    · exact q.elim

/-! ### what is walked -/
/-- the turns give the data xs, one by one; a turn may lay a new tuple -/
structure ItOk (K : PySem.W.Frag) (J : It) (G : Hp) (xs : List D) : Prop where
  go : ∀ i H, Same G H → i < xs.length → J.go i H
  stop : ∀ i H, Same G H → xs.length ≤ i → J.stop i H
  yld : ∀ i H x H' d, Same G H → xs[i]? = some d → J.yld i H x H' → (H' = H ∧ Da K G x d) ∨ ∃ T vs ds, d = .tuple ds ∧ x = .ref T ∧ H T = none ∧ H' = upd H T (.tup vs) ∧ DaAll K G vs ds
theorem ItOk.step {J : It} {xs : List D} {i : Nat} {x : V} {H' : Hp} {d : D} (o : ItOk K J G xs) (r : Rel K b G1 H σ ρ) (s : Same G G1) (e : xs[i]? = some d) (y : J.yld i H x H') : ∃ G2, Rel K b G2 H' σ ρ ∧ Same G1 G2 ∧ Da K G2 x d := by
  rcases o.yld i H x H' d (s.trans r.le) e y with ⟨rfl, h⟩ | ⟨T, vs, ds, rfl, rfl, hT, rfl, h⟩
  · exact ⟨G1, r, Same.refl _, Da.mono s h⟩
  · have e := Ext.upd r.le hT (.tup vs)
    exact ⟨_, r.ext e, e.g, .tup (SqT.of upd_same) (DaAll.mono (s.trans e.g) h)⟩
inductive RI where
  | ok (xs : List D) (ρ : Ev)
  | raise (c : Nat) (ρ : Ev)
  | stuck
def RI.of (r : RE) (k : D → Option (List D)) : RI := match r with
  | .ok sv ρ => match sv.dat? with
    | some x => match k x with
      | some xs => .ok xs ρ
      | none => .stuck
    | none => .stuck
  | .raise c ρ => .raise c ρ
  | .stuck => .stuck
def PostI (K : PySem.W.Frag) (b : Bx) (W : WX) (G : Hp) (σ : St) (R : It → Hp → Prop) : RI → Prop
  | .ok xs ρ' => ∀ J G' H', Rel K b G' H' σ ρ' → Same G G' → ItOk K J G' xs → R J H'
  | .raise c ρ' => ∀ G' H', Rel K b G' H' σ ρ' → Same G G' → W (.ref (b.cl c)) none σ H'
  | .stuck => False
def tI (K : PySem.W.Frag) (b : Bx) (W : WX) (f : Ev → RI) : TI := fun σ H R => ∃ ρ G, Rel K b G H σ ρ ∧ PostI K b W G σ R (f ρ)
theorem PI.imp {tg iter : Expr} {t t' : TI} (h : PI X tg iter t) (i : ∀ σ H R, t' σ H R → t σ H R) : PI X tg iter t' := ⟨fun pins s σ H R I q => h.run pins s σ H R I (i _ _ _ q)⟩
theorem stepI {f : Ev → RE} {k : D → Option (List D)} {R0 : It → Hp → Prop} (r : Rel K b G H σ ρ) (h : PostI K b W G σ R0 (RI.of (f ρ) k)) {R : V → Hp → Prop}
    (hR : ∀ v H1 ρ1 G1 x xs, Rel K b G1 H1 σ ρ1 → Same G G1 → Da K G1 v x → k x = some xs → (∀ J G' H', Rel K b G' H' σ ρ1 → Same G1 G' → ItOk K J G' xs → R0 J H') → R v H1) : tE K b W f σ H R := by
  refine ⟨ρ, G, r, ?_⟩
  cases e : f ρ with
  | ok sv ρ1 =>
    rw [e] at h
    intro v G' H' r' s' q'
    cases e1 : sv.dat? with
    | none => simp only [RI.of, e1] at h; exact h.elim
    | some x =>
      cases e2 : k x with
      | none => simp only [RI.of, e1, e2] at h; exact h.elim
      | some xs =>
        simp only [RI.of, e1, e2] at h
        obtain ⟨G1, r1, s1, d1⟩ := r'.pub q' e1
        exact hR v H' ρ1 G1 x xs r1 (s'.trans s1) d1 e2 fun J G2 H2 r2 s2 o2 => h J G2 H2 r2 ((s'.trans s1).trans s2) o2
  | raise c ρ1 => rw [e] at h; exact h
  | stuck => rw [e] at h; exact h
def kList : D → Option (List D) | .list xs => some xs | _ => none
def kTuple : D → Option (List D) | .tuple xs => some xs | _ => none
def kStr : D → Option (List D) | .str z => some (z.cps.toList.map fun c => .str ⟨#[c]⟩) | _ => none
theorem it_list {a : Addr} {vs : List V} {xs : List D} (h1 : G a = some (.lst vs)) (h2 : DaAll K G vs xs) : ItOk K (Itl K a) G xs where
  go := fun i H s hi => ⟨vs, vs[i]'(by rw [h2.length]; exact hi), SqL.of (s _ _ h1), List.getElem?_eq_getElem _⟩
  stop := fun i H s hi => ⟨vs, SqL.of (s _ _ h1), by rw [h2.length]; exact hi⟩
  yld := fun i H x H' d s e y => by
    obtain ⟨v, e1, d1⟩ := h2.get e
    have e2 := y.2 vs (SqL.of (s _ _ h1))
    rw [e1] at e2; cases e2
    exact .inl ⟨y.1, d1⟩
theorem it_tup {a : Addr} {vs : List V} {xs : List D} (h1 : SqT K G a vs) (h2 : DaAll K G vs xs) : ItOk K (Itt K a) G xs where
  go := fun i H s hi => ⟨vs, vs[i]'(by rw [h2.length]; exact hi), seqT s h1, List.getElem?_eq_getElem _⟩
  stop := fun i H s hi => ⟨vs, seqT s h1, by rw [h2.length]; exact hi⟩
  yld := fun i H x H' d s e y => by
    obtain ⟨v, e1, d1⟩ := h2.get e
    have e2 := y.2 vs (seqT s h1)
    rw [e1] at e2; cases e2
    exact .inl ⟨y.1, d1⟩
theorem i_list {tg l : Expr} {f : Ev → RE} (h : PE X l (tE X.K b W f)) : PI X tg l (tI X.K b W fun ρ => RI.of (f ρ) kList) := PI.imp (pi_list h) fun σ H R ⟨ρ, G, r, q⟩ => by
  refine stepI r q fun v H1 ρ1 G1 x xs r1 s1 d1 e1 q1 => ?_
  cases x with
  | list ys =>
    cases e1
    cases d1 with
    | lst h1 h2 => exact ⟨_, rfl, ⟨_, SqL.of (r1.le _ _ h1)⟩, q1 _ G1 H1 r1 (Same.refl _) (it_list h1 h2)⟩
  | _ => cases e1
theorem i_tup {tg l : Expr} {f : Ev → RE} (h : PE X l (tE X.K b W f)) : PI X tg l (tI X.K b W fun ρ => RI.of (f ρ) kTuple) := PI.imp (pi_tup h) fun σ H R ⟨ρ, G, r, q⟩ => by
  refine stepI r q fun v H1 ρ1 G1 x xs r1 s1 d1 e1 q1 => ?_
  cases x with
  | tuple ys =>
    cases e1
    cases d1 with
    | tup h1 h2 => exact ⟨_, rfl, ⟨_, seqT r1.le h1⟩, q1 _ G1 H1 r1 (Same.refl _) (it_tup h1 h2)⟩
  | _ => cases e1
theorem it_str (z : Str) : ItOk K (Its z) G (z.cps.toList.map fun c => .str ⟨#[c]⟩) where
  go := fun i H s hi => by rw [List.length_map, Array.length_toList] at hi; exact hi
  stop := fun i H s hi => by rw [List.length_map, Array.length_toList] at hi; exact hi
  yld := fun i H x H' d s e y => by
    obtain ⟨e0, c, e1, rfl⟩ := y
    rw [List.getElem?_map, Array.getElem?_toList, e1] at e
    cases e
    exact .inl ⟨e0, .str _⟩
theorem i_str {tg l : Expr} {f : Ev → RE} (h : PE X l (tE X.K b W f)) : PI X tg l (tI X.K b W fun ρ => RI.of (f ρ) kStr) := PI.imp (pi_str h) fun σ H R ⟨ρ, G, r, q⟩ => by
  refine stepI r q fun v H1 ρ1 G1 x xs r1 s1 d1 e1 q1 => ?_
  cases x with
  | str z => cases e1; cases d1; exact ⟨z, rfl, q1 _ G1 H1 r1 (Same.refl _) (it_str z)⟩
  | _ => cases e1
/-- the ints from lo on, n of them -/
def upFrom (lo : Int) (n : Nat) : List D := (List.range n).map fun i => .int (lo + (i : Nat))
theorem len_up (lo : Int) (n : Nat) : (upFrom lo n).length = n := by unfold upFrom; rw [List.length_map, List.length_range]
theorem it_rng (lo : Int) (n : Nat) : ItOk K (Itr lo n) G (upFrom lo n) where
  go := fun i H s hi => by rw [len_up] at hi; exact hi
  stop := fun i H s hi => by rw [len_up] at hi; exact hi
  yld := fun i H x H' d s e y => by
    obtain ⟨e0, rfl⟩ := y
    unfold upFrom at e
    rw [List.getElem?_map] at e
    cases q : (List.range n)[i]? with
    | none => rw [q] at e; cases e
    | some j =>
      rw [q] at e; cases e
      have e2 := (List.getElem?_eq_some_iff.mp q).2
      simp at e2
      subst e2
      exact .inl ⟨e0, .int _⟩
def kRng : D → Option (List D) | .int n => if -(2 ^ 62) ≤ n ∧ n < 2 ^ 62 then some (upFrom 0 n.toNat) else none | _ => none
theorem i_rng {tg e : Expr} {f : Ev → RE} {p pos : Pos} (hg : Gl X "range") (hm : X.mg "range" = none) (h : PE X e (tE X.K b W f)) (h1 : starEach [e] X.env = (false, eval e X.env) :: starEach [] X.env := by rfl) (hs : starEach [e] X.env = [(false, eval e X.env)] := by rfl) :
    PI X tg (.Call (.Name "range" p) [e] [] pos) (tI X.K b W fun ρ => RI.of (f ρ) kRng) := PI.imp (pi_range1 hg hm (pa_cons h pa_nil h1) hs) fun σ H R ⟨ρ, G, r, q⟩ => by
  show tE X.K b W f σ H _
  refine stepI r q fun v H1 ρ1 G1 x xs r1 s1 d1 e1 q1 => ?_
  cases x with
  | int n =>
    cases d1
    have e1 : (if -(2 ^ 62) ≤ n ∧ n < 2 ^ 62 then some (upFrom 0 n.toNat) else none) = some xs := e1
    split at e1
    · rename_i c
      cases e1
      exact ⟨n, rfl, c.1, c.2, q1 _ G1 H1 r1 (Same.refl _) (it_rng 0 n.toNat)⟩
    · cases e1
  | _ => cases e1
def fRng2 (f g : Ev → RE) : Ev → RI := fun ρ => match f ρ with
  | .ok (.d (.int i)) ρ1 => RI.of (g ρ1) fun x => match x with
    | .int j => if -(2 ^ 62) ≤ i ∧ i < 2 ^ 62 ∧ -(2 ^ 62) ≤ j ∧ j < 2 ^ 62 then some (upFrom i (j - i).toNat) else none
    | _ => none
  | .raise c ρ1 => .raise c ρ1
  | _ => .stuck
theorem PostI.mono {R : It → Hp → Prop} {r : RI} (e : Same G G1) (h : PostI K b W G σ R r) : PostI K b W G1 σ R r := by
  cases r with
  | ok xs ρ' => exact fun J G' H' r s => h J G' H' r (e.trans s)
  | raise c ρ' => exact fun G' H' r s => h G' H' r (e.trans s)
  | stuck => exact h
theorem i_rng2 {tg e e2 : Expr} {f g : Ev → RE} {p pos : Pos} (hg : Gl X "range") (hm : X.mg "range" = none) (h : PE X e (tE X.K b W f)) (h' : PE X e2 (tE X.K b W g)) (h1 : starEach [e, e2] X.env = (false, eval e X.env) :: starEach [e2] X.env := by rfl) (h2 : starEach [e2] X.env = (false, eval e2 X.env) :: starEach [] X.env := by rfl)
    (hs : starEach [e, e2] X.env = [(false, eval e X.env), (false, eval e2 X.env)] := by rfl) (hs2 : starEach [e2] X.env = [(false, eval e2 X.env)] := by rfl) :
    PI X tg (.Call (.Name "range" p) [e, e2] [] pos) (tI X.K b W (fRng2 f g)) := PI.imp (pi_range2 hg hm (pa_cons h (pa_cons h' pa_nil h2) h1) hs hs2) fun σ H R ⟨ρ, G, r, q⟩ => by
  show tE X.K b W f σ H _
  refine ⟨ρ, G, r, ?_⟩
  unfold fRng2 at q
  cases e0 : f ρ with
  | raise c ρ1 => rw [e0] at q; exact q
  | stuck => rw [e0] at q; exact q
  | ok sv ρ1 =>
    rw [e0] at q
    intro v G1 H1 r1 s1 d1
    cases sv with
    | d x =>
      cases x with
      | int i =>
        cases d1
        show tE X.K b W g σ H1 _
        refine stepI r1 (PostI.mono s1 q) fun u H2 ρ2 G2 y xs r2 s2 d2 e2 q2 => ?_
        cases y with
        | int j =>
          cases d2
          have e2 : (if -(2 ^ 62) ≤ i ∧ i < 2 ^ 62 ∧ -(2 ^ 62) ≤ j ∧ j < 2 ^ 62 then some (upFrom i (j - i).toNat) else none) = some xs := e2
          split at e2
          · rename_i c
            cases e2
            exact ⟨i, j, rfl, c, q2 _ G2 H2 r2 (Same.refl _) (it_rng i _)⟩
          · cases e2
        | _ => cases e2
      | _ => exact q.elim
    | _ => exact q.elim

/-! ### loops -/
def forL (p : Pat) (body : Ev → RS) : List D → Ev → RS
  | [], ρ => .next ρ
  | x :: xs, ρ => match bindP p x ρ with
    | none => .stuck
    | some ρ1 => match body ρ1 with
      | .next ρ2 => forL p body xs ρ2
      | .cnt ρ2 => forL p body xs ρ2
      | .brk ρ2 => .next ρ2
      | r => r
def fFor (src : Ev → RI) (p : Pat) (body : Ev → RS) : Ev → RS := fun ρ => match src ρ with
  | .ok xs ρ1 => forL p body xs ρ1
  | .raise c ρ1 => .raise c ρ1
  | .stuck => .stuck
theorem for_post {src : Ev → RI} {p : Pat} {body : Ev → RS} : ∀ D σ H, tS K b W (fFor src p body) D σ H → tFor (tI K b W src) (gP K b p) (tS K b W body) D σ H := by
  rintro D σ H ⟨ρ, G, r, q⟩
  refine ⟨ρ, G, r, ?_⟩
  cases e0 : src ρ with
  | stuck => simp only [fFor, e0] at q; exact q
  | raise c ρ1 => simp only [fFor, e0] at q; exact fun G' H' r' s' => q σ G' H' r' s'
  | ok xs ρ1 =>
    simp only [fFor, e0] at q
    intro J G1 H1 r1 s1 o1
    refine ⟨fun i m σ H => m = xs.length - i ∧ i ≤ xs.length ∧ ∃ ρ G, Rel K b G H σ ρ ∧ Same G1 G ∧ PostS K b W G D (forL p body (xs.drop i) ρ), ⟨xs.length, by simp, Nat.zero_le _, ρ1, G1, r1, Same.refl _, PostS.mono s1 q⟩, ?_⟩
    rintro i m σ2 H2 ⟨rfl, hi, ρ2, G2, r2, s2, q2⟩
    by_cases hlt : i < xs.length
    · refine .inr ⟨o1.go i H2 (s2.trans r2.le) hlt, fun σ H => i + 1 ≤ xs.length ∧ ∃ ρ G, Rel K b G H σ ρ ∧ Same G1 G ∧ PostS K b W G D (forL p body (xs.drop (i + 1)) ρ), fun σ' H' z => ⟨xs.length - (i + 1), by omega, rfl, z.1, z.2⟩, fun x H3 y => ?_⟩
      have ed : xs.drop i = xs[i] :: xs.drop (i + 1) := List.drop_eq_getElem_cons hlt
      rw [ed] at q2
      obtain ⟨G3, r3, s3, d3⟩ := o1.step r2 s2 (List.getElem?_eq_getElem hlt) y
      cases e1 : bindP p xs[i] ρ2 with
      | none => simp only [forL, e1] at q2; exact q2.elim
      | some ρ3 =>
        simp only [forL, e1] at q2
        refine ⟨ρ2, G3, xs[i], r3, d3, ρ3, e1, fun σ4 r4 _ => ⟨ρ3, G3, r4, ?_⟩⟩
        cases e2 : body ρ3 with
        | next ρ5 => simp only [e2] at q2; exact fun σ' G' H' r' s' => ⟨hlt, ρ5, G', r', (s2.trans s3).trans s', PostS.mono (s3.trans s') q2⟩
        | cnt ρ5 => simp only [e2] at q2; exact fun σ' G' H' r' s' => ⟨hlt, ρ5, G', r', (s2.trans s3).trans s', PostS.mono (s3.trans s') q2⟩
        | brk ρ5 => simp only [e2] at q2; exact fun σ' G' H' r' s' => q2 σ' G' H' r' (s3.trans s')
        | ret sv ρ5 => simp only [e2] at q2; exact fun v σ' G' H' r' s' => q2 v σ' G' H' r' (s3.trans s')
        | raise c ρ5 => simp only [e2] at q2; exact fun σ' G' H' r' s' => q2 σ' G' H' r' (s3.trans s')
        | stuck => simp only [e2] at q2; exact q2
    · have e : i = xs.length := by omega
      subst e
      rw [List.drop_length] at q2
      exact .inl ⟨o1.stop _ H2 (s2.trans r2.le) (Nat.le_refl _), q2 σ2 G2 H2 r2 (Same.refl _)⟩
theorem s_for {tg iter : Expr} {body : List Stmt} {src : Ev → RI} {p : Pat} {fb : Ev → RS} {pos : Pos} (hp : PassesOwn (model X.prog X.w) X.A X.env X.xe) (hc : X.calm = true) (hi : PI X tg iter (tI X.K b W src)) (hg : PG X tg (gP X.K b p)) (hb : PSs X body (tS X.K b W fb))
    (hs : ∀ x, foldedSetIterable iter X.env x = pure x := by intro _; rfl) : PS X (.For tg iter body [] pos) (tS X.K b W (fFor src p fb)) := PS.imp (ps_for hp hc hi hg hb hs) for_post
def whileL (c : Ev → RT) (body : Ev → RS) : Nat → Ev → RS
  | 0, _ => .stuck
  | n + 1, ρ => match c ρ with
    | .ok true ρ1 => match body ρ1 with
      | .next ρ2 => whileL c body n ρ2
      | .cnt ρ2 => whileL c body n ρ2
      | .brk ρ2 => .next ρ2
      | r => r
    | .ok false ρ1 => .next ρ1
    | .raise k ρ1 => .raise k ρ1
    | .stuck => .stuck
theorem while_post {c : Ev → RT} {body : Ev → RS} {n : Nat} : ∀ D σ H, tS K b W (whileL c body n) D σ H → tWhile (tT K b W c) (tS K b W body) D σ H := by
  rintro D σ H ⟨ρ, G, r, q⟩
  refine ⟨fun m σ H => ∃ ρ G2, Rel K b G2 H σ ρ ∧ Same G G2 ∧ PostS K b W G2 D (whileL c body m ρ), ⟨n, ρ, G, r, Same.refl _, q⟩, ?_⟩
  rintro m σ1 H1 ⟨ρ1, G1, r1, s1, q1⟩
  cases m with
  | zero => exact q1.elim
  | succ m =>
    refine stepT (P := fun _ => True) r1 (fun k ρ2 e G2 H2 r2 s2 => ?_) (fun k ρ2 e G2 H2 r2 s2 => ?_) fun e => ?_
    · cases k with
      | false => simp only [whileL, e] at q1; exact iteF (q1 σ1 G2 H2 r2 s2)
      | true =>
        simp only [whileL, e] at q1
        refine iteT ⟨fun σ H => ∃ ρ G2, Rel K b G2 H σ ρ ∧ Same G G2 ∧ PostS K b W G2 D (whileL c body m ρ), fun σ' H' z => ⟨m, Nat.lt_succ_self m, z⟩, ρ2, G2, r2, ?_⟩
        cases e2 : body ρ2 with
        | next ρ5 => simp only [e2] at q1; exact fun σ' G' H' r' s' => ⟨ρ5, G', r', (s1.trans s2).trans s', PostS.mono (s2.trans s') q1⟩
        | cnt ρ5 => simp only [e2] at q1; exact fun σ' G' H' r' s' => ⟨ρ5, G', r', (s1.trans s2).trans s', PostS.mono (s2.trans s') q1⟩
        | brk ρ5 => simp only [e2] at q1; exact fun σ' G' H' r' s' => q1 σ' G' H' r' (s2.trans s')
        | ret sv ρ5 => simp only [e2] at q1; exact fun v σ' G' H' r' s' => q1 v σ' G' H' r' (s2.trans s')
        | raise k ρ5 => simp only [e2] at q1; exact fun σ' G' H' r' s' => q1 σ' G' H' r' (s2.trans s')
        | stuck => simp only [e2] at q1; exact q1
    · simp only [whileL, e] at q1; exact q1 σ1 G2 H2 r2 s2
    · simp only [whileL, e] at q1; exact q1
theorem s_while {c : Expr} {body : List Stmt} {fc : Ev → RT} {fb : Ev → RS} {pos : Pos} (n : Nat) (hp : PassesOwn (model X.prog X.w) X.A X.env X.xe) (hc : PT X c (tT X.K b W fc)) (hb : PSs X body (tS X.K b W fb)) : PS X (.While c body [] pos) (tS X.K b W (whileL fc fb n)) := PS.imp (ps_while hp hc hb) while_post
end
end Dl
set_option maxHeartbeats 4000000
namespace Dl
open PySem PySem.Spec L2

/-! ### comprehensions -/
abbrev W0 : WX := fun _ _ _ _ => False
def Bx.hold (b : Bx) (a : Addr) (o : HO) : Bx := { b with T := upd b.T a o, own := fun c => if c = a then none else b.own c }
theorem RepI.hold {K : PySem.W.Frag} {b : Bx} {G H : Hp} {i : Nat} {v : V} {sv : Sv} {a : Addr} {o : HO} (ht : b.T a = none) (h : RepI K b G H i v sv) : RepI K (b.hold a o) G H i v sv := by
  cases sv with
  | on w =>
    obtain ⟨hr, F, h3, h4⟩ := h
    have ne : ∀ c ∈ F, c ≠ a := fun c hc z => by
      obtain ⟨_, us, h6⟩ := Lin.own h3 c hc
      rw [z, ht] at h6
      cases h6
    exact ⟨hr, F, Lin.frame (Same.refl _) h3 (fun c hc => upd_ne (ne c hc)) fun c hc => (Lin.own h3 c hc).1, fun c hc => (if_neg (ne c hc)).trans (h4 c hc)⟩
  | _ => exact h
theorem RepI.unhold {K : PySem.W.Frag} {b : Bx} {G H : Hp} {i : Nat} {v : V} {sv : Sv} {a : Addr} {o : HO} (h : RepI K (b.hold a o) G H i v sv) : RepI K b G H i v sv := by
  cases sv with
  | on w =>
    obtain ⟨hr, F, h3, h4⟩ := h
    have ne : ∀ c ∈ F, c ≠ a := fun c hc z => by
      have h5 : (if c = a then none else b.own c) = some i := h4 c hc
      rw [if_pos z] at h5
      cases h5
    exact ⟨hr, F, Lin.frame (Same.refl _) h3 (fun c hc => (upd_ne (ne c hc)).symm) fun c hc => (Lin.own h3 c hc).1, fun c hc => by
      have h5 : (if c = a then none else b.own c) = some i := h4 c hc
      rw [if_neg (ne c hc)] at h5
      exact h5⟩
  | _ => exact h
def wipeE (ρ : Ev) : List Nat → Ev
  | [] => ρ
  | v :: vs => (wipeE ρ vs).set v none
def keepS : Option (Option Sv) → Option Sv
  | some (some (.d x)) => some (.d x)
  | some (some (.ex c)) => some (.ex c)
  | some (some (.fz l)) => some (.fz l)
  | _ => none
def backE (ρ1 ρ2 : Ev) : List Nat → Ev
  | [] => ρ2
  | v :: vs => (backE ρ1 ρ2 vs).set v (keepS ρ1[v]?)
def okW (ρ : Ev) (vs : List Nat) : Bool := vs.all fun v => !rfAt ρ v
theorem wipeE_len (ρ : Ev) : ∀ vs, (wipeE ρ vs).length = ρ.length
  | [] => rfl
  | v :: vs => by unfold wipeE; rw [List.length_set, wipeE_len ρ vs]
theorem backE_len (ρ1 ρ2 : Ev) : ∀ vs, (backE ρ1 ρ2 vs).length = ρ2.length
  | [] => rfl
  | v :: vs => by unfold backE; rw [List.length_set, backE_len ρ1 ρ2 vs]
theorem wipeE_in {ρ : Ev} {j : Nat} {sv : Sv} : ∀ {vs : List Nat}, (wipeE ρ vs)[j]? = some (some sv) → j ∉ vs ∧ ρ[j]? = some (some sv)
  | [], h => ⟨List.not_mem_nil, h⟩
  | v :: vs, h => by
    unfold wipeE at h
    by_cases e : v = j
    · subst e
      by_cases hl : v < (wipeE ρ vs).length
      · rw [List.getElem?_set_self hl] at h; cases h
      · rw [List.getElem?_eq_none (by simpa using hl)] at h; cases h
    · rw [List.getElem?_set_ne e] at h
      obtain ⟨h1, h2⟩ := wipeE_in h
      exact ⟨fun z => (List.mem_cons.mp z).elim (fun z => e z.symm) h1, h2⟩
theorem wipeE_out {ρ : Ev} {j : Nat} : ∀ {vs : List Nat}, j ∉ vs → (wipeE ρ vs)[j]? = ρ[j]?
  | [], _ => rfl
  | v :: vs, h => by
    rw [List.mem_cons, not_or] at h
    unfold wipeE
    rw [List.getElem?_set_ne (Ne.symm h.1), wipeE_out h.2]
theorem backE_in {ρ1 ρ2 : Ev} {j : Nat} {sv : Sv} : ∀ {vs : List Nat}, (backE ρ1 ρ2 vs)[j]? = some (some sv) → (j ∈ vs ∧ keepS ρ1[j]? = some sv) ∨ (j ∉ vs ∧ ρ2[j]? = some (some sv))
  | [], h => .inr ⟨List.not_mem_nil, h⟩
  | v :: vs, h => by
    unfold backE at h
    by_cases e : v = j
    · subst e
      by_cases hl : v < (backE ρ1 ρ2 vs).length
      · rw [List.getElem?_set_self hl] at h
        exact .inl ⟨List.mem_cons_self, Option.some.inj h⟩
      · rw [List.getElem?_eq_none (by simpa using hl)] at h; cases h
    · rw [List.getElem?_set_ne e] at h
      rcases backE_in h with ⟨h1, h2⟩ | ⟨h1, h2⟩
      · exact .inl ⟨List.mem_cons_of_mem _ h1, h2⟩
      · exact .inr ⟨fun z => (List.mem_cons.mp z).elim (fun z => e z.symm) h1, h2⟩
theorem backE_out {ρ1 ρ2 : Ev} {j : Nat} : ∀ {vs : List Nat}, j ∉ vs → (backE ρ1 ρ2 vs)[j]? = ρ2[j]?
  | [], _ => rfl
  | v :: vs, h => by
    rw [List.mem_cons, not_or] at h
    unfold backE
    rw [List.getElem?_set_ne (Ne.symm h.1), backE_out h.2]
theorem wipe_off {σ : St} {j : Nat} : ∀ {vs : List Nat}, j ∉ vs → (wipe σ vs)[j]? = σ[j]?
  | [], _ => rfl
  | v :: vs, h => by
    rw [List.mem_cons, not_or] at h
    unfold wipe
    rw [List.getElem?_set_ne (Ne.symm h.1), wipe_off h.2]
theorem wipe_on {σ : St} {j : Nat} : ∀ {vs : List Nat}, j ∈ vs → j < σ.length → (wipe σ vs)[j]? = some none
  | v :: vs, h, hl => by
    unfold wipe
    by_cases e : v = j
    · subst e; rw [List.getElem?_set_self (by rw [wipe_length]; exact hl)]
    · rw [List.getElem?_set_ne e]
      rcases List.mem_cons.mp h with z | z
      · exact absurd z.symm e
      · exact wipe_on z hl
theorem wipe_agree {σ σ' : St} {vs : List Nat} (a : Agree vs (wipe σ vs) σ') : wipe σ' vs = wipe σ vs := by
  refine List.ext_getElem? fun j => ?_
  by_cases h : j ∈ vs
  · by_cases hl : j < σ.length
    · rw [wipe_on h hl, wipe_on h (by rw [a.1, wipe_length]; exact hl)]
    · rw [List.getElem?_eq_none (by rw [wipe_length, a.1, wipe_length]; omega), List.getElem?_eq_none (by rw [wipe_length]; omega)]
  · rw [wipe_off h, a.2 j h]
section
variable {X : Cx} {b : Bx} {W : WX} {K : PySem.W.Frag} {G G1 H H1 : Hp} {σ : St} {ρ ρ1 ρ2 : Ev}
theorem Rel.hold {a : Addr} {o : HO} (r : Rel K b G H σ ρ) (ha : H a = some o) (ga : G a = none) (h0 : b.H0 a = none) (no : ∀ i, ¬ Owns σ ρ i a) (ht : b.T a = none) : Rel K (b.hold a o) G H σ ρ :=
  ⟨r.le, r.len, fun i sv q => (r.slot i sv q).imp fun _ h => ⟨h.1, h.2.hold ht⟩, r.apart, r.keep, r.base, r.fresh, r.byr, fun c u q => by
    have q : upd b.T a o c = some u := q
    by_cases e : c = a
    · subst e; rw [upd_same] at q; cases q; exact ⟨ha, ga, h0, no⟩
    · rw [upd_ne e] at q; exact r.tmp c u q⟩
theorem Rel.unhold {a : Addr} {o : HO} (r : Rel K (b.hold a o) G H σ ρ) (ht : b.T a = none) : Rel K b G H σ ρ ∧ H a = some o ∧ G a = none ∧ b.H0 a = none ∧ ∀ i, ¬ Owns σ ρ i a :=
  ⟨⟨r.le, r.len, fun i sv q => (r.slot i sv q).imp fun _ h => ⟨h.1, h.2.unhold⟩, r.apart, r.keep, r.base, r.fresh, r.byr, fun c u q => r.tmp c u (by
    show upd b.T a o c = some u
    rw [upd_ne (fun z => by rw [z, ht] at q; cases q)]; exact q)⟩, r.tmp a o (upd_same (H := b.T))⟩
theorem Rel.setTmp {a : Addr} {o : HO} (r : Rel K b G H σ ρ) (ga : G a = none) (h0 : b.H0 a = none) (ht : b.T a = none) (no : ∀ i, ¬ Owns σ ρ i a) : Rel K b G (upd H a o) σ ρ := by
  refine ⟨fun c u q => ?_, r.len, fun i sv q => ?_, r.apart, fun c u q n => ?_, r.base, r.fresh, r.byr, fun c u q => ?_⟩
  · rw [upd_ne (ne_of_none q ga)]; exact r.le _ _ q
  · obtain ⟨v, h1, h2⟩ := r.slot i sv q
    refine ⟨v, h1, ?_⟩
    cases sv with
    | d x => exact h2
    | ow l =>
      obtain ⟨c, ys, e1, h3, h4⟩ := h2
      subst e1
      exact ⟨c, ys, rfl, by rw [upd_ne (fun z => no i ⟨by rw [h1, z], l, .inl q⟩)]; exact h3, h4⟩
    | rf l =>
      obtain ⟨c, ys, e1, h3, h4⟩ := h2
      subst e1
      exact ⟨c, ys, rfl, by rw [upd_ne (fun z => no i ⟨by rw [h1, z], l, .inr q⟩)]; exact h3, h4⟩
    | ex c => exact h2
    | px c => exact h2
    | on w => exact h2
    | al j p => exact h2
    | fz l => exact h2
  · rw [upd_ne (fun z => by rw [z, h0] at q; cases q)]
    exact r.keep c u q n
  · obtain ⟨h1, h2, h3, h4⟩ := r.tmp c u q
    exact ⟨by rw [upd_ne (fun z => by rw [z, ht] at q; cases q)]; exact h1, h2, h3, h4⟩
/-- a slot that bears a reference of the caller's is one of B -/
theorem Rel.rfB {j : Nat} (r : Rel K b G H σ ρ) (h : rfAt ρ j = true) : ∃ a, (j, a) ∈ b.B := by
  unfold rfAt at h
  split at h
  · rename_i l e
    obtain ⟨v, h1, a, xs, e1, h2, h3, h4, _⟩ := r.slot _ _ e
    exact ⟨a, h4⟩
  · cases h
theorem Rel.noRf {j : Nat} (r : Rel K b G H σ ρ) (r1 : Rel K b G1 H1 σ ρ1) (h : rfAt ρ1 j = false) : rfAt ρ j = false := by
  cases e : rfAt ρ j with
  | false => rfl
  | true =>
    obtain ⟨a, hB⟩ := r.rfB e
    obtain ⟨l, _, h2⟩ := r1.byr _ hB
    exact absurd h2 (no_rf h l)
theorem Rel.wipe {vs : List Nat} (r : Rel K b G H σ ρ) (h : okW ρ vs = true) : Rel K b G H (wipe σ vs) (wipeE ρ vs) := by
  have own : ∀ {j : Nat} {a : Addr}, Owns (L2.wipe σ vs) (wipeE ρ vs) j a → Owns σ ρ j a := fun {j a} ⟨h1, l, h2⟩ => by
    rcases h2 with h2 | h2
    · obtain ⟨n, e⟩ := wipeE_in h2
      exact ⟨by rw [← wipe_off n]; exact h1, l, .inl e⟩
    · obtain ⟨n, e⟩ := wipeE_in h2
      exact ⟨by rw [← wipe_off n]; exact h1, l, .inr e⟩
  refine ⟨r.le, by rw [wipeE_len, wipe_length]; exact r.len, fun i sv q => ?_, fun i j a h1 h2 => r.apart i j a (own h1) (own h2), r.keep, r.base, r.fresh, fun p hp => ?_, fun a o q => ?_⟩
  · obtain ⟨n, e⟩ := wipeE_in q
    rw [wipe_off n]
    exact r.slot i sv e
  · obtain ⟨l, h1, h2⟩ := r.byr p hp
    have n : p.1 ∉ vs := fun z => by
      have q := List.all_eq_true.mp h _ z
      unfold rfAt at q
      rw [h2] at q
      cases q
    exact ⟨l, by rw [wipe_off n]; exact h1, by rw [wipeE_out n]; exact h2⟩
  · obtain ⟨h1, h2, h3, h4⟩ := r.tmp a o q
    exact ⟨h1, h2, h3, fun i z => h4 i (own z)⟩
theorem Rel.back {vs : List Nat} (r1 : Rel K b G1 H1 σ ρ1) (r : Rel K b G H (L2.wipe σ vs) ρ2) (s : Same G1 G) (h : okW ρ1 vs = true) :
    Rel K b G H σ (backE ρ1 ρ2 vs) ∧ ∀ j a, Owns σ (backE ρ1 ρ2 vs) j a → Owns (L2.wipe σ vs) ρ2 j a := by
  have nk : ∀ {o : Option (Option Sv)} {l : List D}, keepS o ≠ some (.ow l) ∧ keepS o ≠ some (.rf l) := fun {o l} => by
    unfold keepS
    split <;> exact ⟨(fun z => nomatch z), (fun z => nomatch z)⟩
  have own : ∀ {j : Nat} {a : Addr}, Owns σ (backE ρ1 ρ2 vs) j a → Owns (L2.wipe σ vs) ρ2 j a := fun {j a} ⟨q1, l, q2⟩ => by
    rcases q2 with q2 | q2
    · rcases backE_in q2 with ⟨_, e⟩ | ⟨n, e⟩
      · exact absurd e nk.1
      · exact ⟨by rw [wipe_off n]; exact q1, l, .inl e⟩
    · rcases backE_in q2 with ⟨_, e⟩ | ⟨n, e⟩
      · exact absurd e nk.2
      · exact ⟨by rw [wipe_off n]; exact q1, l, .inr e⟩
  refine ⟨⟨r.le, by rw [backE_len, r.len, wipe_length], fun i sv q => ?_, fun i j a h1 h2 => r.apart i j a (own h1) (own h2), r.keep, r.base, r.fresh, fun p hp => ?_, fun a o q => ?_⟩, fun j a => own⟩
  · rcases backE_in q with ⟨_, e⟩ | ⟨n, e⟩
    · unfold keepS at e
      split at e
      · rename_i x z
        cases e
        obtain ⟨v, h1, h2⟩ := r1.slot _ _ z
        exact ⟨v, h1, Da.mono s h2⟩
      · rename_i c z
        cases e
        obtain ⟨v, h1, a, e1, h2⟩ := r1.slot _ _ z
        exact ⟨v, h1, a, e1, s _ _ h2⟩
      · rename_i l z
        cases e
        obtain ⟨v, h1, a, xs, e1, h2, h3⟩ := r1.slot _ _ z
        exact ⟨v, h1, a, xs, e1, s.seq h2, DaAll.mono s h3⟩
      · cases e
    · obtain ⟨v, h1, h2⟩ := r.slot i sv e
      rw [wipe_off n] at h1
      exact ⟨v, h1, h2⟩
  · obtain ⟨l, h1, h2⟩ := r.byr p hp
    obtain ⟨l', _, h4⟩ := r1.byr p hp
    have n : p.1 ∉ vs := fun z => by
      have q := List.all_eq_true.mp h _ z
      unfold rfAt at q
      rw [h4] at q
      cases q
    exact ⟨l, by rw [← wipe_off n]; exact h1, by rw [backE_out n]; exact h2⟩
  · obtain ⟨h1, h2, h3, h4⟩ := r.tmp a o q
    exact ⟨h1, h2, h3, fun i z => h4 i (own z)⟩

def lcL (vs : List Nat) (p : Pat) (fc : Ev → RT) (fe : Ev → RE) : List D → Ev → Option (List D × Ev)
  | [], ρ => some ([], ρ)
  | x :: xs, ρ => match bindP p x ρ with
    | none => none
    | some ρ1 => match fc ρ1 with
      | .ok true ρ2 => match fe ρ2 with
        | .ok sv ρ3 => match sv.dat?, lcL vs p fc fe xs (wipeE ρ3 vs) with
          | some y, some (ys, ρ4) => some (y :: ys, ρ4)
          | _, _ => none
        | _ => none
      | .ok false ρ2 => lcL vs p fc fe xs (wipeE ρ2 vs)
      | _ => none
def fLc (src : Ev → RI) (vs : List Nat) (p : Pat) (fc : Ev → RT) (fe : Ev → RE) : Ev → RE := fun ρ => match src ρ with
  | .ok xs ρ1 => if okW ρ1 vs = true then match lcL vs p fc fe xs (wipeE ρ1 vs) with
    | some (ys, ρ2) => if ys.length ≤ sizeLine then .ok (.ow ys) (backE ρ1 ρ2 vs) else .stuck
    | none => .stuck
    else .stuck
  | .raise c ρ1 => .raise c ρ1
  | .stuck => .stuck
def gX (K : PySem.W.Frag) (cl : Nat → Addr) (p : Pat) : TG := fun v σ H Q => ∃ b : Bx, b.cl = cl ∧ gP K b p v σ H Q
def tTX (K : PySem.W.Frag) (cl : Nat → Addr) (f : Ev → RT) : TT := fun σ H Q => ∃ b : Bx, b.cl = cl ∧ tT K b W0 f σ H Q
def tEX (K : PySem.W.Frag) (cl : Nat → Addr) (f : Ev → RE) : TE := fun σ H Q => ∃ b : Bx, b.cl = cl ∧ tE K b W0 f σ H Q
theorem lc_post {src : Ev → RI} {vs : List Nat} {p : Pat} {fc : Ev → RT} {fe : Ev → RE} (hp : ∀ i ∈ pvars p, i ∈ vs) : ∀ σ H Q, tE K b W (fLc src vs p fc fe) σ H Q → tLc (tI K b W src) (gX K b.cl p) (tTX K b.cl fc) (tEX K b.cl fe) vs σ H Q := by
  rintro σ H Q ⟨ρ, G, r, q⟩
  refine ⟨ρ, G, r, ?_⟩
  cases e0 : src ρ with
  | stuck => simp only [fLc, e0] at q; exact q
  | raise c ρ1 => simp only [fLc, e0] at q; exact q
  | ok xs ρ1 =>
    simp only [fLc, e0] at q
    intro J G1 H1 r1 s1 o1 D hD
    obtain ⟨hw, q⟩ := postE_if q
    cases el : lcL vs p fc fe xs (wipeE ρ1 vs) with
    | none => rw [el] at q; exact q.elim
    | some yr =>
      obtain ⟨tot, ρe⟩ := yr
      rw [el] at q
      obtain ⟨hz, q⟩ := postE_if q
      have htD : b.T D = none := r1.t0 hD
      have hext := Ext.updH r1.le hD (.lst [])
      have rD : Rel K b G1 (upd H1 D (.lst [])) σ ρ1 := r1.ext hext
      have noD : ∀ i, ¬ Owns σ ρ1 i D := fun i ⟨z1, l, z2⟩ => by
        rcases z2 with z2 | z2
        · obtain ⟨v, h1, a, ys, e1, h2, _⟩ := r1.slot _ _ z2
          rw [z1] at h1; cases h1; cases e1
          rw [hD] at h2; cases h2
        · obtain ⟨v, h1, a, ys, e1, h2, _⟩ := r1.slot _ _ z2
          rw [z1] at h1; cases h1; cases e1
          rw [hD] at h2; cases h2
      have rW : Rel K (b.hold D (.lst [])) G1 (upd H1 D (.lst [])) (wipe σ vs) (wipeE ρ1 vs) := (rD.hold upd_same (r1.g0 hD) (r1.h0 hD) noD htD).wipe hw
      refine ⟨fun i m H => m = xs.length - i ∧ i ≤ xs.length ∧ ∃ ρ G acc accd ys, Rel K (b.hold D (.lst acc)) G H (wipe σ vs) ρ ∧ Same G1 G ∧ DaAll K G acc accd ∧ lcL vs p fc fe (xs.drop i) ρ = some (ys, ρe) ∧ accd ++ ys = tot,
        ⟨xs.length, by simp, Nat.zero_le _, wipeE ρ1 vs, G1, [], [], tot, rW, Same.refl _, .nil, el, rfl⟩, ?_⟩
      rintro i m H2 ⟨rfl, hi, ρ2, G2, acc, accd, ys, r2, s2, d2, e2, et⟩
      by_cases hlt : i < xs.length
      · refine .inr ⟨o1.go i H2 (s2.trans r2.le) hlt, fun H => i + 1 ≤ xs.length ∧ ∃ ρ G acc accd ys, Rel K (b.hold D (.lst acc)) G H (wipe σ vs) ρ ∧ Same G1 G ∧ DaAll K G acc accd ∧ lcL vs p fc fe (xs.drop (i + 1)) ρ = some (ys, ρe) ∧ accd ++ ys = tot,
          fun H' z => ⟨xs.length - (i + 1), by omega, rfl, z.1, z.2⟩, fun x H3 y => ?_⟩
        have ed : xs.drop i = xs[i] :: xs.drop (i + 1) := List.drop_eq_getElem_cons hlt
        rw [ed] at e2
        obtain ⟨G3, r3, s3, d3⟩ := o1.step r2 s2 (List.getElem?_eq_getElem hlt) y
        cases e1 : bindP p xs[i] ρ2 with
        | none => simp only [lcL, e1] at e2; cases e2
        | some ρ3 =>
          simp only [lcL, e1] at e2
          refine ⟨b.hold D (.lst acc), rfl, ρ2, G3, xs[i], r3, d3, ρ3, e1, fun σ4 r4 ag => ?_⟩
          have ag' : Agree vs (wipe σ vs) σ4 := ⟨ag.1, fun j hj => ag.2 j fun z => hj (hp j z)⟩
          have ew : wipe σ4 vs = wipe σ vs := wipe_agree ag'
          -- no slot of the block is the caller's
          have ok4 : ∀ {G4 H4 ρ4 o}, Rel K (b.hold D o) G4 H4 σ4 ρ4 → okW ρ4 vs = true := fun {G4 H4 ρ4 o} r5 => by
            refine List.all_eq_true.mpr fun j hj => ?_
            have q1 : rfAt ρ1 j = false := by
              have z := List.all_eq_true.mp hw j hj
              cases e : rfAt ρ1 j with
              | false => rfl
              | true => rw [e] at z; cases z
            cases e : rfAt ρ4 j with
            | false => rfl
            | true =>
              obtain ⟨a, hB⟩ := r5.rfB e
              obtain ⟨l, _, h2⟩ := r1.byr _ hB
              exact absurd h2 (no_rf q1 l)
          refine ⟨ew, b.hold D (.lst acc), rfl, ρ3, G3, r4, ?_⟩
          cases e3 : fc ρ3 with
          | stuck => simp only [e3] at e2; cases e2
          | raise c ρ4 => simp only [e3] at e2; cases e2
          | ok c ρ4 =>
            intro G4 H4 r5 s5
            cases c with
            | false =>
              simp only [e3] at e2
              rw [if_neg Bool.false_ne_true]
              have r6 := r5.wipe (ok4 r5)
              rw [ew] at r6
              exact ⟨hlt, wipeE ρ4 vs, G4, acc, accd, ys, r6, (s2.trans s3).trans s5, DaAll.mono (s3.trans s5) d2, e2, et⟩
            | true =>
              simp only [e3] at e2
              rw [if_pos rfl]
              refine ⟨b.hold D (.lst acc), rfl, ρ4, G4, r5, ?_⟩
              cases e4 : fe ρ4 with
              | stuck => simp only [e4] at e2; cases e2
              | raise c ρ5 => simp only [e4] at e2; cases e2
              | ok sv ρ5 =>
                simp only [e4] at e2
                intro u G5 H5 r6 s6 d6
                cases e5 : sv.dat? with
                | none => simp only [e5] at e2; cases e2
                | some w =>
                  simp only [e5] at e2
                  obtain ⟨G6, r7, s7, d7⟩ := r6.pub d6 e5
                  cases e6 : lcL vs p fc fe (xs.drop (i + 1)) (wipeE ρ5 vs) with
                  | none => simp only [e6] at e2; cases e2
                  | some yr =>
                    obtain ⟨ys', ρ6⟩ := yr
                    simp only [e6] at e2
                    cases e2
                    obtain ⟨r8, a1, a2, a3, a4⟩ := r7.unhold htD
                    have la : acc.length = accd.length := d2.length
                    have lt : accd.length + (ys'.length + 1) = tot.length := by rw [← et, List.length_append, List.length_cons]
                    refine ⟨acc, a1, by omega, hlt, wipeE ρ5 vs, G6, acc ++ [u], accd ++ [w], ys', ?_, ((s2.trans s3).trans s5).trans (s6.trans s7), (DaAll.mono (s3.trans (s5.trans (s6.trans s7))) d2).append (.cons d7 .nil), e6, by rw [List.append_assoc]; exact et⟩
                    have r9 : Rel K b G6 (upd H5 D (.lst (acc ++ [u]))) σ4 ρ5 := r8.setTmp a2 a3 htD a4
                    have r10 := (r9.hold (o := .lst (acc ++ [u])) upd_same a2 a3 a4 htD).wipe (ok4 r7)
                    rw [ew] at r10
                    exact r10
      · have e : i = xs.length := by omega
        subst e
        rw [List.drop_length] at e2
        unfold lcL at e2
        cases e2
        rw [List.append_nil] at et
        subst et
        obtain ⟨r8, a1, a2, a3, a4⟩ := r2.unhold htD
        obtain ⟨r9, ob⟩ := Rel.back r1 r8 s2 hw
        exact .inl ⟨o1.stop _ H2 (s2.trans r2.le) (Nat.le_refl _), q _ G2 H2 r9 (s1.trans s2) ⟨D, acc, rfl, a1, a2, a3, htD, fun j z => a4 j (ob j D z), d2⟩⟩
theorem PG.ex {tg : Expr} {p : Pat} {cl : Nat → Addr} (h : ∀ b : Bx, b.cl = cl → PG X tg (gP X.K b p)) : PG X tg (gX X.K cl p) := ⟨fun pins s σ H v u Q I r ⟨b, hb, q⟩ => (h b hb).run pins s σ H v u Q I r q⟩
theorem PE.ex {e : Expr} {f : Ev → RE} {cl : Nat → Addr} (h : ∀ b : Bx, b.cl = cl → PE X e (tE X.K b W0 f)) : PE X e (tEX X.K cl f) := ⟨fun pins s σ H Q I ⟨b, hb, q⟩ => (h b hb).run pins s σ H Q I q⟩
theorem PTs.ex {e : List Expr} {f : Ev → RT} {cl : Nat → Addr} (h : ∀ b : Bx, b.cl = cl → PTs X e (tT X.K b W0 f)) : PTs X e (tTX X.K cl f) := ⟨fun pins s σ H Q I ⟨b, hb, q⟩ => (h b hb).run pins s σ H Q I q⟩
def fYes : Ev → RT := fun ρ => .ok true ρ
theorem ts_nil : PTs X [] (tT X.K b W fYes) := ⟨fun pins s σ H Q I ⟨ρ, G, r, q⟩ => pts_nil.run pins s σ H Q I (q G H r (Same.refl _))⟩
theorem ts_one {c : Expr} {f : Ev → RT} (h : PT X c (tT X.K b W f)) : PTs X [c] (tT X.K b W f) := pts_one h
/-- the context of a comprehension's block -/
abbrev Blk (X : Cx) (s : Shared) (H : Hp) (scope : Scope) (cl : List (Str × Addr)) (C : Addr) (fp : List Addr) : Cx := X.blk s H scope (compEnvC scope cl C X.env) fp
theorem e_lc {elt tg iter : Expr} {ifs : List Expr} {scope : Scope} {own : List (Str × Nat)} {pos : Pos} {src : Ev → RI} {p : Pat} {fc : Ev → RT} {fe : Ev → RE} (hc : X.calm = true) (hN : X.N.Nodup) (hp : ∀ i ∈ pvars p, i ∈ own.map (·.2)) (hi : PI X tg iter (tI X.K b W src)) (ok : BlkOk X.N X.env.scope scope own)
    (hg : ∀ (s : Shared) (H : Hp) (C : Addr) (cs : List (Str × Addr)) (fp : List Addr) (b' : Bx), b'.cl = b.cl → PG (Blk X s H scope cs C fp) tg (gP X.K b' p))
    (ht : ∀ (s : Shared) (H : Hp) (C : Addr) (cs : List (Str × Addr)) (fp : List Addr) (b' : Bx), b'.cl = b.cl → PTs (Blk X s H scope cs C fp) ifs (tT X.K b' W0 fc))
    (he : ∀ (s : Shared) (H : Hp) (C : Addr) (cs : List (Str × Addr)) (fp : List Addr) (b' : Bx), b'.cl = b.cl → PE (Blk X s H scope cs C fp) elt (tE X.K b' W0 fe)) (hs : ∀ x, foldedSetIterable iter X.env x = pure x := by intro _; rfl) :
    PE X (.ListComp elt [⟨tg, iter, ifs, 0⟩] scope pos) (tE X.K b W (fLc src (own.map (·.2)) p fc fe)) :=
  PE.imp (pe_lc hc hN hi ok (fun s H C cl fp => PG.ex (hg s H C cl fp)) (fun s H C cl fp => PTs.ex (ht s H C cl fp)) (fun s H C cl fp => PE.ex (he s H C cl fp)) hs) (lc_post hp)
theorem s_setLc {i : Nat} {y : Str} {py : Pos} {elt tg iter : Expr} {ifs : List Expr} {scope : Scope} {own : List (Str × Nat)} {pos spos : Pos} {src : Ev → RI} {p : Pat} {fc : Ev → RT} {fe : Ev → RE} (hc : X.calm = true) (hN : X.N.Nodup) (hy : X.N[i]? = some y) (hyl : X.env.scope.names.lookup y = some .local)
    (hsw : swapsWith (.ListComp elt [⟨tg, iter, ifs, 0⟩] scope pos) (some (.Name y py)) spos.line X.env = pure true) (hp : ∀ i ∈ pvars p, i ∈ own.map (·.2)) (hi : PI X tg iter (tI X.K b W src)) (ok : BlkOk X.N X.env.scope scope own)
    (hg : ∀ (s : Shared) (H : Hp) (C : Addr) (cs : List (Str × Addr)) (fp : List Addr) (b' : Bx), b'.cl = b.cl → PG (Blk X s H scope cs C fp) tg (gP X.K b' p))
    (ht : ∀ (s : Shared) (H : Hp) (C : Addr) (cs : List (Str × Addr)) (fp : List Addr) (b' : Bx), b'.cl = b.cl → PTs (Blk X s H scope cs C fp) ifs (tT X.K b' W0 fc))
    (he : ∀ (s : Shared) (H : Hp) (C : Addr) (cs : List (Str × Addr)) (fp : List Addr) (b' : Bx), b'.cl = b.cl → PE (Blk X s H scope cs C fp) elt (tE X.K b' W0 fe)) (hs : ∀ x, foldedSetIterable iter X.env x = pure x := by intro _; rfl) :
    PS X (.Assign [.Name y py] (.ListComp elt [⟨tg, iter, ifs, 0⟩] scope pos) spos) (tS X.K b W (fSet i (fLc src (own.map (·.2)) p fc fe))) :=
  PS.imp (ps_setLc hc hN hy hyl hsw hi ok (fun s H C cl fp => PG.ex (hg s H C cl fp)) (fun s H C cl fp => PTs.ex (ht s H C cl fp)) (fun s H C cl fp => PE.ex (he s H C cl fp)) hs) fun D σ H ⟨ρ, G, r, q⟩ => by
    have z : tE X.K b W (fLc src (own.map (·.2)) p fc fe) σ H (fun x H1 => gName i x σ H1 D.nx) := ?_
    · exact lc_post hp σ H _ z
    refine stepS r q fun v H1 ρ1 G1 sv r1 s1 d1 q1 => ?_
    obtain ⟨c, q1⟩ := postS_if q1
    exact q1 _ _ _ (r1.assign d1 c) (Same.refl _)
end
end Dl
set_option maxHeartbeats 400000
/-! Dl0: the promise of a def where no repr is under way around it (guards known), its rule, its call, the end of a law. -/
namespace Dl
open PySem PySem.Spec L2
open PyProof.Rows (envOfC AllBare)

/-- as FnOk; nothing is being shown around the call -/
structure FnG (P : Program) (w : World) (K : PySem.W.Frag) (mg : Str → Option Value) (base : Heap) (k : Nat) (f : Addr) (fd : FuncData) (ps : List Str) (sp : Sp) : Prop where
  len : ∀ vs H Q E, sp vs H Q E → vs.length = ps.length
  run : ∀ (A : Around) (outer : List Env) (s : Shared) (H : Hp) (args : Args) (us : List Value) (vs : List V) (Q : VK) (E : XK), A.guards = some [] → Room k A →
    Env0 P w K mg base A outer s H → BindsTo s fd args (ps.zip us) → Vals vs us → sp vs H Q E → codeAny (model P w) A (.call (.ref f) args) (CR (L2.CX P w) outer P w H s Q E) s
section
variable {P : Program} {w : World} {K : PySem.W.Frag} {mg : Str → Option Value} {base : Heap} {k : Nat} {f : Addr} {fd : FuncData} {N ps : List Str} {sp : Sp}
theorem FnG.mono {j : Nat} (F : FnG P w K mg base j f fd ps sp) (h : j ≤ k) : FnG P w K mg base k f fd ps sp :=
  ⟨F.len, fun A outer s H args us vs Q E g hr => F.run A outer s H args us vs Q E g (hr.mono h)⟩
/-- THE RULE of a def, by its body -/
theorem fn_G {x qual : Str} {st : Stmt} (F : Fun K x qual st f fd) (S : FnScope N ps (defScope st)) (len : ∀ vs H Q E, sp vs H Q E → vs.length = ps.length)
    (hb : ∀ (cdv : Value) (A : Around) (outer : List Env) (s : Shared) (H : Hp) (vs : List V) (Q : VK) (E : XK), A.guards = some [] → Room k (A.deeper (envOfC qual (defScope st) s.heap.objs.size f cdv)) → sp vs H Q E →
      ∃ t, PSs (cxOf (L2.CX P w) P w K mg base N qual (defScope st) f cdv A outer s H E) (defBody st) t ∧ t { nx := fun _ H' => Q .non H', rt := Q } (L2.start N vs) H) :
    FnG P w K mg base (k + 1) f fd ps sp := by
  obtain ⟨oc, od, kV, doc, pm, an, cdv, ct, osl, rfl, lk, hcd⟩ := F.ex
  refine ⟨len, fun A outer s H args us vs Q E hg room env hbd rel prm => ?_⟩
  have inK : K.In s.heap := env.mod.kin.keeps fun c o q => (env.bs c o q).1
  have noLim : s.heap.NoLimit := env.mod.nolimit.keeps fun c o q => (env.bs c o q).1
  have kinds : ∀ p ∈ ps.zip us, (defScope st).names.lookup p.1 = some .local ∨ ((defScope st).names.lookup p.1 = some .cell ∧ ((cellsFrom (s.heap.objs.size + 1) (defScope st).names []).lookup p.1).isSome = true) := by
    intro p hp
    obtain ⟨a1, _⟩ := List.of_mem_zip (a := p.1) (b := p.2) hp
    cases S.par p.1 a1 with
    | inl q => exact .inl q
    | inr q => exact .inr ⟨q, PySem.W.cellsFrom_some _ _ _ (.inl q)⟩
  refine codeAny_call_function room.depth (inK _ _ lk) rfl S.co S.gen rfl (PySem.W.codeRec_of inK hcd)
    (hbd _ _ _ _ (wpAny_newFunctionEnv_cells S.kind kinds fun e1 he s1 fresh => ?_))
  subst he
  refine ⟨noLim.keeps fresh.toInCall.keep, codeAny_func ?_⟩
  obtain ⟨t, ht, hq⟩ := hb cdv A outer s H vs Q E hg (room.deeper _) prm
  have I0 : Inv (cxOf (L2.CX P w) P w K mg base N qual (defScope st) f cdv A outer s H E) [] (L2.start N vs) H s1 := inv_start S room.hd env (len _ _ _ _ prm) rel fresh
  have back : ∀ {σ2 : L2.St} {H2 : Hp} {v : V} {u : Value} {s2 : Shared}, Inv (cxOf (L2.CX P w) P w K mg base N qual (defScope st) f cdv A outer s H E) [] σ2 H2 s2 → RelV v u → Q v H2 → CE outer P w H s Q u s2 :=
    fun {σ2 H2 v u s2} J rv q => ⟨v, H2, J.os, J.bare, J.base, J.hok, rv, q⟩
  refine wpAny_mono (ht.run [] s1 _ H _ I0 hq) (fun fl s2 z => ?_) fun _ _ z => z
  cases fl with
  | ret u =>
    obtain ⟨v, _, _, J, rv, q⟩ := z
    exact back J rv q
  | next =>
    obtain ⟨_, _, J, q⟩ := z
    exact back (v := V.non) (u := Value.none) J rfl q
  | brk =>
    obtain ⟨_, _, _, q⟩ := z
    exact q.elim
  | cont =>
    obtain ⟨_, _, _, q⟩ := z
    exact q.elim
end
section
variable {X : Cx} {k : Nat} {f : Addr} {fd : FuncData} {ps : List Str} {sp : Sp} {E : St → XK} {x : Str} {p pos : Pos} {e : Expr} {es : List Expr} {t : TA}
/-- f(e, ..) -/
theorem pe_callG (F : FnG X.prog X.w X.K X.mg X.base k f fd ps sp) (gd : X.A.guards = some []) (hr : Room k X.A) (gl : Gl X x) (mf : X.mg x = some (.ref f)) (kp : PySem.W.keepIn X.K (.ref f) = true) (bd : Binds X.K fd ps []) (lt : ∀ σ, PassesAt (L2.CX X.prog X.w) X σ (E σ))
    (ha : PA X (e :: es) t) (hdb : (x == ("__debug__" : Str)) = false := by decide) (hst : starEach (e :: es) X.env = (false, eval e X.env) :: starEach es X.env := by rfl) (hpl : (backTo pos (starEach es X.env)).any (·.1) = false := by rfl) :
    PE X (.Call (.Name x p) (e :: es) [] pos) (tCallS sp E t) := by
  constructor
  intro pins s σ H Q I h
  refine wpAny_Call_Name_kw (ld_glob I gl mf (PySem.W.callWith_K (h₀ := X.base) I.ok.mod.kin kp ?_ hst hpl) hdb)
  refine thn (ha.run pos pins s σ H _ I h) fun us s1 z => ?_
  obtain ⟨vs, H1, I1, rel, prm⟩ := z
  refine ⟨I1.kIn, wpAny_call ?_⟩
  have ln : us.length = ps.length := by rw [← rel.length]; exact F.len _ _ _ _ prm
  have b1 := bd s1 us I1.kIn (by rw [List.append_nil]; exact ln)
  rw [List.append_nil] at b1
  refine codeAny_mono (F.run X.A X.stack s1 H1 ⟨us, []⟩ us vs Q (E σ) gd hr I1.env0 b1 rel prm) fun r s2 z => ?_
  cases r with
  | error ev => exact lt σ pins H1 s1 ev s2 I1 z
  | ok fl =>
    cases fl with
    | ret u => exact I1.after z
    | next => exact z.elim
    | brk => exact z.elim
    | cont => exact z.elim
/-- f() -/
theorem pe_callG0 (F : FnG X.prog X.w X.K X.mg X.base k f fd ps sp) (gd : X.A.guards = some []) (hr : Room k X.A) (gl : Gl X x) (mf : X.mg x = some (.ref f)) (kp : PySem.W.keepIn X.K (.ref f) = true) (bd : Binds X.K fd ps []) (lt : ∀ σ, PassesAt (L2.CX X.prog X.w) X σ (E σ))
    (hdb : (x == ("__debug__" : Str)) = false := by decide) : PE X (.Call (.Name x p) [] [] pos) (tCallS sp E tNil) := by
  constructor
  intro pins s σ H Q I h
  refine wpAny_Call_Name_kw (ld_glob I gl mf ?_ hdb)
  refine PySem.W.callWith_K0 I.kIn kp (wpAny_call ?_)
  have prm : sp [] H Q (E σ) := h
  have ln : ([] : List Value).length = ps.length := F.len _ _ _ _ prm
  have b1 := bd s [] I.kIn (by rw [List.append_nil]; exact ln)
  rw [List.append_nil] at b1
  refine codeAny_mono (F.run X.A X.stack s H ⟨[], []⟩ [] [] Q (E σ) gd hr I.env0 b1 .nil prm) fun r s2 z => ?_
  cases r with
  | error ev => exact lt σ pins H s ev s2 I z
  | ok fl =>
    cases fl with
    | ret u => exact I.after z
    | next => exact z.elim
    | brk => exact z.elim
    | cont => exact z.elim
end

/-! ### a law's end -/
section
variable {P : Program} {w : World} {K : PySem.W.Frag} {mg mb : Str → Option Value} {k : Nat} {fa a : Addr} {fd : FuncData} {x : Str} {sp : Sp} {s₁ : Shared} {vs : List Value} {ns : List Int}
/-- the heap in which the script alone is known -/
def scr (a : Addr) (o : Obj) (ns : List Int) : Hp := fun c => if c = a then some (.frz o (.lst (ns.map V.int))) else none
theorem law_G (KX : K.In s₁.heap) (hns : s₁.heap.Ns mainGlobals mg) (hb : s₁.heap.Ns builtinsNs mb) (hbb : ∀ y : Str, y ≠ "__name__" → mb y = bootBuiltins y) (hlim : s₁.heap.NoLimit) (hg : s₁.gens = #[])
    (ha : s₁.heap.get? a = some { cls := .type "list", data := .seq vs.toArray }) (hi : PyProof.Rows.IntsAre vs ns) (hl : ns.length ≤ sizeLine) (hr : Room k callerA)
    (F : ∀ base : Heap, K.In base → base.Ns mainGlobals mg → FnG P w K mg base k fa fd [x] sp) (hbind : ∀ (s : Shared) (u : Value), BindsTo s fd ⟨[u], []⟩ [(x, u)])
    (hsp : ∀ H : Hp, SqL K H a (ns.map V.int) → sp [.ref a] H (fun v _ => v = .bl true) fun _ _ _ => False) :
    codeAny (model P w) callerA (.call (.ref fa) ⟨[.ref a], []⟩) (fun r s2 => r = .ok (.ret (.bool true)) ∧ OldK s₁.heap s2.heap ∧ s2.os = s₁.os ∧ AllBare s2.gens) s₁ := by
  have rv := vals_ints hi
  have nv := hi.length
  -- H: none, or the script alone
  have main : ∀ H : Hp, (∀ c, H c = none ∨ (c = a ∧ H c = some (.frz { cls := .type "list", data := .seq vs.toArray } (.lst (ns.map V.int))) ∧ K.lookup a = none)) → SqL K H a (ns.map V.int) →
      codeAny (model P w) callerA (.call (.ref fa) ⟨[.ref a], []⟩) (fun r s2 => r = .ok (.ret (.bool true)) ∧ OldK s₁.heap s2.heap ∧ s2.os = s₁.os ∧ AllBare s2.gens) s₁ := by
    intro H hH hS
    have hok : HOk P w H s₁.heap := fun c u q => by
      rcases hH c with z | ⟨rfl, z, _⟩
      · rw [z] at q; cases q
      · rw [z] at q; cases q
        exact ⟨ha, by rw [List.length_map]; exact hl, vs, _, rv, ha⟩
    have toBase : ∀ {c : Addr} {o : Obj}, s₁.heap.get? c = some o → (∀ es ep, o.data = .dict es ep → True) → (c = a → o.data ≠ .seq vs.toArray 0) ∨ H c = none → H c = none := fun {c o} e _ h => by
      rcases h with h | h
      · rcases hH c with z | ⟨rfl, _, _⟩
        · exact z
        · rw [ha] at e; cases e; exact absurd rfl (h rfl)
      · exact h
    have nsK : ∀ {c : Addr} {m : Str → Option Value}, s₁.heap.Ns c m → (hidT s₁.heap H).Ns c m := fun {c m} z => by
      obtain ⟨o, es, ep, e, d, r⟩ := z
      refine ⟨o, es, ep, hidT_get e (toBase e (fun _ _ _ => trivial) (.inl fun _ q => ?_)), d, r⟩
      rw [d] at q; cases q
    have inB : K.In (hidT s₁.heap H) := fun c o e => by
      refine hidT_get (KX c o e) ?_
      rcases hH c with z | ⟨rfl, _, z⟩
      · exact z
      · rw [z] at e; cases e
    have md : Mod K mg (hidT s₁.heap H) := by
      obtain ⟨mc, h1, h2⟩ := hlim
      exact ⟨inB, nsK hns, ⟨mb, nsK hb, hbb⟩, mc, nsK h1, h2⟩
    have env : Env0 P w K mg (hidT s₁.heap H) callerA [] s₁ H :=
      ⟨rfl, md, fun c o e => of_hidT e, Nat.le_of_eq (hidT_size _ _), trivial, (fun c hc => nomatch hc), hok, .of_eq hg⟩
    refine codeAny_mono ((F _ inB (nsK hns)).run callerA [] s₁ H ⟨[.ref a], []⟩ [.ref a] [.ref a] _ _ rfl hr env (hbind s₁ (.ref a)) (.cons rfl .nil) (hsp H hS)) fun r s2 z => ?_
    cases r with
    | error ev =>
      obtain ⟨_, _, _, _, _, _, _, _, _, _, _, _, q⟩ := z
      exact q.elim
    | ok fl =>
      cases fl with
      | next => exact z.elim
      | brk => exact z.elim
      | cont => exact z.elim
      | ret u =>
        obtain ⟨v, H2, os, bare, un, hok2, ru, q⟩ := z
        have q : v = .bl true := q
        subst q
        cases (show u = Value.bool true from ru)
        refine ⟨rfl, OldK.of_keep fun c o e => ?_, os, bare⟩
        rcases hH c with n | ⟨rfl, n, _⟩
        · exact un.keep c o e n (fun y => nomatch y) (fun y => nomatch y)
        · obtain ⟨e1, _⟩ := hok c _ n
          obtain ⟨e2, _⟩ := hok2 c _ (un.frzs c _ _ n)
          rw [e] at e1; cases e1
          exact e2
  cases hk : K.lookup a with
  | some o =>
    have e := KX a o hk
    rw [ha] at e
    cases e
    exact main (fun _ => none) (fun _ => .inl rfl) (.inr ⟨_, vs.toArray, _, hk, rfl, rfl, rfl, by rw [List.size_toArray, nv]; exact hl, by simpa using rv⟩)
  | none =>
    refine main (scr a { cls := .type "list", data := .seq vs.toArray } ns) (fun c => ?_) (.inl (.inr ⟨_, if_pos rfl⟩))
    by_cases e : c = a
    · exact .inr ⟨e, if_pos e, hk⟩
    · exact .inl (if_neg e)
end
theorem walk_G {l : PySem.W.OpenLaw} {n k : Nat} {q : Program} {loose : List Str} {XP : (Str → Option Value) → Heap → Prop} {YP : World → Heap → Prop} {d : DefRec} {K : Params → PySem.W.Frag} {sp : PySem.W.Frag → Sp} {x : Str}
    (hn : l.most = some n) (hn2 : n ≤ sizeLine) (hdf : d.params.defaults = []) (hr : Room k callerA) (hY : ∀ (w : World) (h : Heap), YP w h → (K w.params).In h)
    (F : ∀ (w : World) (mg : Str → Option Value) (fa : Addr) (h : Heap), (K w.params).In h → h.Ns mainGlobals mg → mg d.name = some (.ref fa) →
      ∃ fd : FuncData, (∀ (s : Shared) (u : Value), BindsTo s fd ⟨[u], []⟩ [(x, u)]) ∧ ∀ base : Heap, (K w.params).In base → base.Ns mainGlobals mg → FnG l.prog w (K w.params) mg base k fa fd [x] (sp (K w.params)))
    (hsp : ∀ (K : PySem.W.Frag) (H : Hp) (a : Addr) (ns : List Int), ns.length ≤ n → SqL K H a (ns.map V.int) → sp K [.ref a] H (fun v _ => v = .bl true) fun _ _ _ => False) :
    PySem.W.WalkO q loose XP YP l.row.toRowW d [] (fun f vs => PySem.call f vs) := by
  refine Att.attach_call hn hdf fun w s₀ s₁ mg mb fa o pm cd doc a vs ns Gr Y ho hd hcd hmg hobj hints hlen hgens => ?_
  obtain ⟨fd, hb, hF⟩ := F w mg fa _ (hY w _ Y) Gr.T.g hmg
  exact law_G (hY w _ Y) Gr.T.g Gr.T.b Gr.T.builtins Gr.T.nolimit hgens hobj hints (Nat.le_trans hlen hn2) hr hF hb fun H hS => hsp _ H a ns hlen hS
end Dl
set_option maxHeartbeats 400000
namespace Dl
open PySem PySem.Spec L2
open PyProof.Rows (envOfC)

/-! ### what a def does, on data -/
inductive Out where
  | ok (v : Sv) (o : List D)
  | raise (c : Nat) (o : List D)
  | stuck
abbrev Fn := List Sv → Out
/-- behind a call: what stood stands, but for the list that was handed over by reference -/
structure FExt (K : PySem.W.Frag) (G H : Hp) (r : Option Addr) (out : List D) (G' H' : Hp) : Prop where
  g : Same G G'
  le : Same G' H'
  h : ∀ a o, H a = some o → r ≠ some a → H' a = some o
  new : ∀ a o, G' a = some o → G a = some o ∨ H a = none
  ref : ∀ a, r = some a → G' a = none ∧ ∃ xs, H' a = some (.lst xs) ∧ DaAll K G' xs out
def RepA (K : PySem.W.Frag) (cl : Nat → Addr) (G : Hp) (v : V) : Sv → Prop
  | .d x => Da K G v x
  | .ex c => ∃ a, v = .ref a ∧ G a = some (ExT (cl c) a)
  | .fz l => ∃ a xs, v = .ref a ∧ SqL K G a xs ∧ DaAll K G xs l
  | .ow _ => False
  | .rf _ => False
  | .px _ => False
  | .on _ => False
  | .al _ _ => False
/-- the arguments vs as svs; the list that is handed over by reference: its place, its address -/
structure ArgsOk (K : PySem.W.Frag) (cl : Nat → Addr) (G H : Hp) (vs : List V) (svs : List Sv) (r : Option (Nat × Addr)) : Prop where
  len : vs.length = svs.length
  val : ∀ (i : Nat) (sv : Sv), svs[i]? = some sv → (∀ l, sv ≠ .rf l) → ∃ v, vs[i]? = some v ∧ RepA K cl G v sv
  ref : ∀ (i : Nat) (l : List D), svs[i]? = some (.rf l) → ∃ a xs, r = some (i, a) ∧ vs[i]? = some (.ref a) ∧ H a = some (.lst xs) ∧ G a = none ∧ DaAll K G xs l
  has : ∀ p, r = some p → ∃ l, svs[p.1]? = some (.rf l)
def RepF (K : PySem.W.Frag) (cl : Nat → Addr) (H G' H' : Hp) (v : V) : Sv → Prop
  | .d x => Da K G' v x
  | .ow l => ∃ a xs, v = .ref a ∧ H' a = some (.lst xs) ∧ G' a = none ∧ H a = none ∧ DaAll K G' xs l
  | .ex c => ∃ a, v = .ref a ∧ G' a = some (ExT (cl c) a)
  | .px c => ∃ a e, v = .ref a ∧ SqT K G' a [.non, .ref e] ∧ G' e = some (ExT (cl c) e)
  | .on w => ∃ F, Lin K G' H' v w F ∧ ∀ a ∈ F, H a = none
  | .al _ _ => False
  | .fz l => ∃ a xs, v = .ref a ∧ SqL K G' a xs ∧ DaAll K G' xs l
  | .rf _ => False
def PostF (K : PySem.W.Frag) (cl : Nat → Addr) (G H : Hp) (r : Option Addr) (Q : VK) (E : XK) : Out → Prop
  | .ok sv out => ∀ v G' H', FExt K G H r out G' H' → RepF K cl H G' H' v sv → Q v H'
  | .raise c out => ∀ G' H', FExt K G H r out G' H' → E (.ref (cl c)) none H'
  | .stuck => False
/-- the promise of a def that does F, of n parameters -/
def spF (K : PySem.W.Frag) (cl : Nat → Addr) (F : Fn) (n : Nat) : Sp := fun vs H Q E => vs.length = n ∧ ∃ G svs r, Same G H ∧ ArgsOk K cl G H vs svs r ∧ PostF K cl G H (r.map (·.2)) Q E (F svs)

/-! ### a def's body -/
def rfOf : Ev → List D
  | [] => []
  | some (.rf l) :: _ => l
  | _ :: ρ => rfOf ρ
/-- a def of n slots whose body does f -/
def runF (n : Nat) (f : Ev → RS) : Fn := fun svs => match f (svs.map some ++ List.replicate (n - svs.length) none) with
  | .ret sv ρ => .ok sv (rfOf ρ)
  | .next ρ => .ok (.d .none) (rfOf ρ)
  | .raise c ρ => .raise c (rfOf ρ)
  | _ => .stuck
section
variable {K : PySem.W.Frag} {cl : Nat → Addr} {G H G' H' : Hp} {σ : St} {ρ : Ev}
theorem ArgsOk.nil : ArgsOk K cl G H [] [] none := ⟨rfl, fun i sv e => by simp at e, fun i l e => by simp at e, fun p e => nomatch e⟩
def shift (r : Option (Nat × Addr)) : Option (Nat × Addr) := r.map fun p => (p.1 + 1, p.2)
theorem shift_snd (r : Option (Nat × Addr)) : (shift r).map (·.2) = r.map (·.2) := by cases r <;> rfl
theorem ArgsOk.cons {v : V} {sv : Sv} {vs : List V} {svs : List Sv} {r : Option (Nat × Addr)} (h : RepA K cl G v sv) (t : ArgsOk K cl G H vs svs r) : ArgsOk K cl G H (v :: vs) (sv :: svs) (shift r) := by
  refine ⟨by rw [List.length_cons, List.length_cons, t.len], fun i s e n => ?_, fun i l e => ?_, fun p e => ?_⟩
  · cases i with
    | zero => simp at e; subst e; exact ⟨v, rfl, h⟩
    | succ i =>
      obtain ⟨u, h1, h2⟩ := t.val i s (by simpa using e) n
      exact ⟨u, by simpa using h1, h2⟩
  · cases i with
    | zero => simp at e; subst e; exact h.elim
    | succ i =>
      obtain ⟨a, xs, h1, h2, h3⟩ := t.ref i l (by simpa using e)
      exact ⟨a, xs, by rw [h1]; rfl, by simpa using h2, h3⟩
  · cases r with
    | none => cases e
    | some q =>
      cases e
      obtain ⟨l, h1⟩ := t.has q rfl
      exact ⟨l, by simpa using h1⟩
theorem ArgsOk.consR {a : Addr} {xs : List V} {l : List D} {vs : List V} {svs : List Sv} (ha : H a = some (.lst xs)) (ga : G a = none) (hx : DaAll K G xs l) (t : ArgsOk K cl G H vs svs none) : ArgsOk K cl G H (.ref a :: vs) (.rf l :: svs) (some (0, a)) := by
  refine ⟨by rw [List.length_cons, List.length_cons, t.len], fun i s e n => ?_, fun i m e => ?_, fun p e => ?_⟩
  · cases i with
    | zero => simp at e; exact absurd e.symm (n l)
    | succ i =>
      obtain ⟨u, h1, h2⟩ := t.val i s (by simpa using e) n
      exact ⟨u, by simpa using h1, h2⟩
  · cases i with
    | zero => simp at e; subst e; exact ⟨a, xs, rfl, rfl, ha, ga, hx⟩
    | succ i =>
      obtain ⟨c, ys, h1, _⟩ := t.ref i m (by simpa using e)
      cases h1
  · cases e; exact ⟨l, rfl⟩
def bxOf (cl : Nat → Addr) (G H : Hp) (r : Option (Nat × Addr)) : Bx := { cl := cl, G0 := G, H0 := H, B := r.toList, T := fun _ => none }
theorem in_bx {r : Option (Nat × Addr)} {p : Nat × Addr} (h : p ∈ (bxOf cl G H r).B) : r = some p := by
  cases r with
  | none => exact absurd h List.not_mem_nil
  | some q => rw [List.mem_singleton.mp h]
theorem bx_in {p : Nat × Addr} : p ∈ (bxOf cl G H (some p)).B := List.mem_singleton_self _
theorem start_at {N : List Str} {vs : List V} {i : Nat} {v : V} (h : vs[i]? = some v) : (L2.start N vs)[i]? = some (some v) := by
  unfold L2.start
  rw [List.getElem?_append_left (by rw [List.length_map]; exact (List.getElem?_eq_some_iff.mp h).1), List.getElem?_map, h]
  rfl
theorem env_at {svs : List Sv} {m i : Nat} {sv : Sv} (h : (svs.map some ++ List.replicate m (none : Option Sv))[i]? = some (some sv)) : svs[i]? = some sv := by
  by_cases hi : i < svs.length
  · rw [List.getElem?_append_left (by rw [List.length_map]; exact hi), List.getElem?_map] at h
    cases e : svs[i]? with
    | none => rw [e] at h; cases h
    | some x => rw [e] at h; cases h; rfl
  · rw [List.getElem?_append_right (by rw [List.length_map]; omega), List.getElem?_replicate] at h
    split at h <;> cases h
theorem rel_start {N : List Str} {vs : List V} {svs : List Sv} {r : Option (Nat × Addr)} (s : Same G H) (A : ArgsOk K cl G H vs svs r) : Rel K (bxOf cl G H r) G H (L2.start N vs) (svs.map some ++ List.replicate (N.length - svs.length) none) := by
  have noOw : ∀ {i : Nat} {l : List D}, svs[i]? ≠ some (.ow l) := fun {i l} e => by
    obtain ⟨v, h1, h2⟩ := A.val i _ e (fun l z => nomatch z)
    exact h2
  have rfs : ∀ {i : Nat} {a : Addr}, Owns (L2.start N vs) (svs.map some ++ List.replicate (N.length - svs.length) none) i a → ∃ l, svs[i]? = some (.rf l) := fun {i a} ⟨_, l, h4⟩ => by
    rcases h4 with h4 | h4
    · exact absurd (env_at h4) noOw
    · exact ⟨l, env_at h4⟩
  refine ⟨s, ?_, fun i sv q => ?_, fun i j a h1 h2 => ?_, fun a o h _ => h, Same.refl _, fun a o h => .inl h, fun p hp => ?_, fun a o h => nomatch h⟩
  · unfold L2.start
    rw [List.length_append, List.length_append, List.length_map, List.length_map, List.length_replicate, List.length_replicate, A.len]
  · have q := env_at q
    cases sv with
    | ow l => exact absurd q noOw
    | rf l =>
      obtain ⟨a, xs, e1, e2, e3, e4, e5⟩ := A.ref i l q
      subst e1
      exact ⟨_, start_at e2, a, xs, rfl, e3, e4, bx_in, e5⟩
    | d x => obtain ⟨v, h1, h2⟩ := A.val i _ q (fun l z => nomatch z); exact ⟨v, start_at h1, h2⟩
    | ex c => obtain ⟨v, h1, h2⟩ := A.val i _ q (fun l z => nomatch z); exact ⟨v, start_at h1, h2⟩
    | px c => obtain ⟨v, h1, h2⟩ := A.val i _ q (fun l z => nomatch z); exact h2.elim
    | on w => obtain ⟨v, h1, h2⟩ := A.val i _ q (fun l z => nomatch z); exact h2.elim
    | al j p => obtain ⟨v, h1, h2⟩ := A.val i _ q (fun l z => nomatch z); exact h2.elim
    | fz l => obtain ⟨v, h1, h2⟩ := A.val i _ q (fun l z => nomatch z); exact ⟨v, start_at h1, h2⟩
  · obtain ⟨l, q1⟩ := rfs h1
    obtain ⟨m, q2⟩ := rfs h2
    obtain ⟨a1, _, e1, _⟩ := A.ref i l q1
    obtain ⟨a2, _, e2, _⟩ := A.ref j m q2
    rw [e1] at e2
    cases e2
    rfl
  · have e := in_bx hp
    obtain ⟨l, h1⟩ := A.has p e
    obtain ⟨a, xs, e1, e2, _⟩ := A.ref _ _ h1
    rw [e] at e1
    have e1 := Option.some.inj e1
    refine ⟨l, start_at (by rw [e2, e1]), ?_⟩
    rw [List.getElem?_append_left (by rw [List.length_map]; exact (List.getElem?_eq_some_iff.mp h1).1), List.getElem?_map, h1]
    rfl
theorem rfOf_at : ∀ {ρ : Ev} {i : Nat} {l : List D}, ρ[i]? = some (some (.rf l)) → (∀ (j : Nat) (m : List D), ρ[j]? = some (some (.rf m)) → j = i) → rfOf ρ = l
  | [], i, l, h, _ => by simp at h
  | o :: ρ, 0, l, h, _ => by
    have e : o = some (.rf l) := by simpa using h
    subst e
    rfl
  | o :: ρ, i + 1, l, h, u => by
    have ih := rfOf_at (ρ := ρ) (i := i) (l := l) (by simpa using h) fun j m hj => by
      have := u (j + 1) m (by simpa using hj)
      omega
    cases o with
    | none => exact ih
    | some sv =>
      cases sv with
      | rf m => have := u 0 m rfl; omega
      | _ => exact ih
/-- at the body's end: what the callers are told -/
theorem rel_end {r : Option (Nat × Addr)} (h : Rel K (bxOf cl G H r) G' H' σ ρ) : FExt K G H (r.map (·.2)) (rfOf ρ) G' H' := by
  refine ⟨h.base, h.le, fun a o ha hr => h.keep a o ha fun p hp e => ?_, h.fresh, fun a hr => ?_⟩
  · have := in_bx hp
    subst this
    exact hr (by rw [← e]; rfl)
  · cases r with
    | none => cases hr
    | some p =>
      cases hr
      obtain ⟨m, h1, h2⟩ := h.byr _ bx_in
      obtain ⟨v, h3, a', xs, e2, h4, h5, h6, h7⟩ := h.slot _ _ h2
      rw [h1] at h3; cases h3; cases e2
      refine ⟨h5, xs, h4, ?_⟩
      rw [rfOf_at h2 fun k m' hk => ?_]
      · exact h7
      · obtain ⟨v', g3, a'', xs', g2, g4, g5, g6, g7⟩ := h.slot _ _ hk
        have z := in_bx g6
        cases z
        rfl
theorem rep_end {r : Option (Nat × Addr)} {v : V} {sv : Sv} (d : RepT K (bxOf cl G H r) G' H' σ ρ v sv) : RepF K cl H G' H' v sv := by
  cases sv with
  | d x => exact d
  | ow l => obtain ⟨a, xs, e, h1, h2, h3, h4, h5, h6⟩ := d; exact ⟨a, xs, e, h1, h2, h3, h6⟩
  | rf l => exact d
  | ex c => exact d
  | px c => exact d
  | on w => exact d.elim
  | al j p => exact d.elim
  | fz l => exact d
end
section
variable {P : Program} {w : World} {K : PySem.W.Frag} {mg : Str → Option Value} {base : Heap}
/-- the wish of a def about what leaves it -/
abbrev WD (E : XK) : WX := fun cls d _ H => E cls d H
/-- THE RULE of a def: its body does f, so it keeps the promise of runF f -/
theorem fn_zero {f : Addr} {fd : FuncData} {ps : List Str} {cl : Nat → Addr} : FnG P w K mg base 0 f fd ps (spF K cl (fun _ => .stuck) ps.length) :=
  ⟨fun vs H Q E h => h.1, fun _ _ _ _ _ _ _ _ _ _ _ _ _ _ h => by obtain ⟨_, _, _, _, _, _, q⟩ := h; exact q.elim⟩
theorem fn_body {x qual : Str} {st : Stmt} {f : Addr} {fd : FuncData} {N ps : List Str} {k : Nat} {cl : Nat → Addr} {fb : Ev → RS} (F : Fun K x qual st f fd) (S : FnScope N ps (defScope st))
    (hbody : ∀ (cdv : Value) (A : Around) (outer : List Env) (s : Shared) (H : Hp) (E : XK) (b : Bx), A.guards = some [] → Room k (A.deeper (envOfC qual (defScope st) s.heap.objs.size f cdv)) → b.cl = cl →
      PSs (cxOf (L2.CX P w) P w K mg base N qual (defScope st) f cdv A outer s H E) (defBody st) (tS K b (WD E) fb)) :
    FnG P w K mg base (k + 1) f fd ps (spF K cl (runF N.length fb) ps.length) := by
  refine fn_G F S (fun vs H Q E h => h.1) fun cdv A outer s H vs Q E hg hr h => ?_
  obtain ⟨hl, G, svs, r, sm, ao, hq⟩ := h
  refine ⟨_, hbody cdv A outer s H E (bxOf cl G H r) hg hr rfl, _, G, rel_start sm ao, ?_⟩
  unfold runF at hq
  cases e : fb (svs.map some ++ List.replicate (N.length - svs.length) none) with
  | next ρ => rw [e] at hq; exact fun σ' G' H' r' s' => hq .non G' H' (rel_end r') .non
  | ret sv ρ => rw [e] at hq; exact fun v σ' G' H' r' s' d' => hq v G' H' (rel_end r') (rep_end d')
  | brk ρ => rw [e] at hq; exact hq.elim
  | cnt ρ => rw [e] at hq; exact hq.elim
  | raise c ρ => rw [e] at hq; exact fun σ' G' H' r' s' => hq G' H' (rel_end r')
  | stuck => rw [e] at hq; exact hq.elim
end

/-! ### calls -/
inductive Ar where
  | v (f : Ev → RE)
  | r (i : Nat)
inductive AV where
  | dat (x : D)
  | ex (c : Nat)
  | fz (l : List D)
  | rf (i : Nat)
def runArgs : List Ar → Ev → (List AV → Ev → RE) → RE
  | [], ρ, k => k [] ρ
  | .v f :: as, ρ, k => match f ρ with
    | .ok (.d x) ρ1 => runArgs as ρ1 fun xs => k (.dat x :: xs)
    | .ok (.ow l) ρ1 => runArgs as ρ1 fun xs => k (.dat (.list l) :: xs)
    | .ok (.ex c) ρ1 => runArgs as ρ1 fun xs => k (.ex c :: xs)
    | .ok (.fz l) ρ1 => runArgs as ρ1 fun xs => k (.fz l :: xs)
    | .ok (.rf _) _ => .stuck
    | .ok (.px _) _ => .stuck
    | .ok (.on _) _ => .stuck
    | .ok (.al _ _) _ => .stuck
    | .raise c ρ1 => .raise c ρ1
    | .stuck => .stuck
  | .r i :: as, ρ, k => match ownAt ρ i with
    | some _ => runArgs as ρ fun xs => k (.rf i :: xs)
    | none => .stuck
def VwA (K : PySem.W.Frag) (b : Bx) (G : Hp) (σ : St) (v : V) : AV → Prop
  | .dat x => Da K G v x
  | .ex c => ∃ a, v = .ref a ∧ G a = some (ExT (b.cl c) a)
  | .fz l => ∃ a xs, v = .ref a ∧ SqL K G a xs ∧ DaAll K G xs l
  | .rf i => σ[i]? = some (some v)
def tArgs (K : PySem.W.Frag) (b : Bx) (W : WX) : List Ar → TA
  | [] => tNil
  | .v f :: as => tCons (tE K b W f) (tArgs K b W as)
  | .r i :: as => tCons (tVar i) (tArgs K b W as)
inductive VwAs (K : PySem.W.Frag) (b : Bx) (G : Hp) (σ : St) : List V → List AV → Prop
  | nil : VwAs K b G σ [] []
  | cons {v : V} {a : AV} {vs : List V} {as : List AV} : VwA K b G σ v a → VwAs K b G σ vs as → VwAs K b G σ (v :: vs) (a :: as)
section
variable {X : Cx} {b : Bx} {W : WX} {K : PySem.W.Frag} {G G1 H : Hp} {σ : St} {ρ : Ev}
theorem VwA.mono (s : Same G G1) {v : V} {a : AV} (h : VwA K b G σ v a) : VwA K b G1 σ v a := by
  cases a with
  | dat x => exact Da.mono s h
  | ex c => obtain ⟨a, e, q⟩ := h; exact ⟨a, e, s _ _ q⟩
  | fz l => obtain ⟨a, xs, e, q1, q2⟩ := h; exact ⟨a, xs, e, s.seq q1, DaAll.mono s q2⟩
  | rf i => exact h
theorem stepArgs : ∀ (as : List Ar) {G H : Hp} {ρ : Ev} {Q : VK} {k : List AV → Ev → RE} (r : Rel K b G H σ ρ) (h : PostE K b W G σ Q (runArgs as ρ k)) {R : List V → Hp → Prop}
    (hR : ∀ vs H1 ρ1 G1 xs, Rel K b G1 H1 σ ρ1 → Same G G1 → VwAs K b G1 σ vs xs → PostE K b W G1 σ Q (k xs ρ1) → R vs H1), tArgs K b W as σ H R
  | [], G, H, ρ, Q, k, r, h, R, hR => hR [] H ρ G [] r (Same.refl _) .nil h
  | .v f :: as, G, H, ρ, Q, k, r, h, R, hR => by
    show tE K b W f σ H _
    refine ⟨ρ, G, r, ?_⟩
    cases e : f ρ with
    | stuck => simp only [runArgs, e] at h; exact h
    | raise c ρ1 => simp only [runArgs, e] at h; exact h
    | ok sv ρ1 =>
      intro v G1 H1 r1 s1 d1
      have go : ∀ {av : AV} {G2 : Hp}, Rel K b G2 H1 σ ρ1 → Same G1 G2 → VwA K b G2 σ v av → PostE K b W G σ Q (runArgs as ρ1 fun xs => k (av :: xs)) → tArgs K b W as σ H1 fun vs H2 => R (v :: vs) H2 := fun {av G2} r2 s2 d2 q => by
        refine stepArgs as r2 (PostE.mono (s1.trans s2) q) fun vs H3 ρ3 G3 xs r3 s3 d3 q3 => ?_
        exact hR (v :: vs) H3 ρ3 G3 (av :: xs) r3 ((s1.trans s2).trans s3) (.cons (d2.mono s3) d3) q3
      cases sv with
      | d x => simp only [runArgs, e] at h; exact go (av := .dat x) r1 (Same.refl _) d1 h
      | ow l =>
        simp only [runArgs, e] at h
        obtain ⟨G2, r2, s2, d2⟩ := r1.pub d1 rfl
        exact go (av := .dat (.list l)) r2 s2 d2 h
      | rf l => exact d1.elim
      | ex c => simp only [runArgs, e] at h; exact go (av := .ex c) r1 (Same.refl _) d1 h
      | px c => simp only [runArgs, e] at h; exact h.elim
      | on w => simp only [runArgs, e] at h; exact h.elim
      | al j p => simp only [runArgs, e] at h; exact h.elim
      | fz l => simp only [runArgs, e] at h; exact go (av := .fz l) r1 (Same.refl _) d1 h
  | .r i :: as, G, H, ρ, Q, k, r, h, R, hR => by
    cases e : ownAt ρ i with
    | none => simp only [runArgs, e] at h; exact h.elim
    | some l =>
      simp only [runArgs, e] at h
      obtain ⟨a, xs, hσ, _⟩ := r.owned e
      refine ⟨_, hσ, ?_⟩
      show tArgs K b W as σ H _
      refine stepArgs as r h fun vs H3 ρ3 G3 xs r3 s3 d3 q3 => ?_
      exact hR (.ref a :: vs) H3 ρ3 G3 (.rf i :: xs) r3 s3 (.cons hσ d3) q3
/-- the arguments as the callee sees them -/
def seen (ρ : Ev) : List AV → Option (List Sv)
  | [] => some []
  | .dat x :: as => (seen ρ as).map (.d x :: ·)
  | .ex c :: as => (seen ρ as).map (.ex c :: ·)
  | .fz l :: as => (seen ρ as).map (.fz l :: ·)
  | .rf i :: as => match ownAt ρ i with
    | some l => (seen ρ as).map (.rf l :: ·)
    | none => none
def refs : List AV → List Nat
  | [] => []
  | .rf i :: as => i :: refs as
  | _ :: as => refs as
def putR (ρ : Ev) (is : List Nat) (out : List D) : Ev := match is with
  | i :: _ => putL ρ i out
  | [] => ρ
def fCall (F : Fn) (as : List Ar) : Ev → RE := fun ρ => runArgs as ρ fun xs ρ1 => match seen ρ1 xs with
  | none => .stuck
  | some svs => if (refs xs).length ≤ 1 then match F svs with
    | .ok sv out => .ok sv.pl (putR ρ1 (refs xs) out)
    | .raise c out => .raise c (putR ρ1 (refs xs) out)
    | .stuck => .stuck
    else .stuck
theorem args_ok : ∀ {vs : List V} {xs : List AV} {svs : List Sv}, Rel K b G H σ ρ → VwAs K b G σ vs xs → seen ρ xs = some svs → (refs xs).length ≤ 1 →
    ∃ r, ArgsOk K b.cl G H vs svs r ∧ ((r = none ∧ refs xs = []) ∨ ∃ i k a, r = some (k, a) ∧ refs xs = [i] ∧ Owns σ ρ i a)
  | _, _, svs, r, .nil, e, _ => by cases e; exact ⟨none, .nil, .inl ⟨rfl, rfl⟩⟩
  | v :: vs, x :: xs, svs, r, .cons h t, e, hl => by
    have go : ∀ {sv : Sv} {ss : List Sv}, RepA K b.cl G v sv → seen ρ xs = some ss → (refs xs).length ≤ 1 → ∃ r, ArgsOk K b.cl G H (v :: vs) (sv :: ss) r ∧ ((r = none ∧ refs xs = []) ∨ ∃ i k a, r = some (k, a) ∧ refs xs = [i] ∧ Owns σ ρ i a) := fun {sv ss} h q hl => by
      obtain ⟨p, h1, h2⟩ := args_ok r t q hl
      refine ⟨shift p, .cons h h1, ?_⟩
      rcases h2 with ⟨rfl, h3⟩ | ⟨i, k, a, rfl, h3⟩
      · exact .inl ⟨rfl, h3⟩
      · exact .inr ⟨i, k + 1, a, rfl, h3⟩
    cases x with
    | dat x =>
      cases q : seen ρ xs with
      | none => simp only [seen, q] at e; cases e
      | some ss => simp only [seen, q] at e; cases e; exact go (sv := .d x) h q hl
    | ex c =>
      cases q : seen ρ xs with
      | none => simp only [seen, q] at e; cases e
      | some ss => simp only [seen, q] at e; cases e; exact go (sv := .ex c) h q hl
    | fz l =>
      cases q : seen ρ xs with
      | none => simp only [seen, q] at e; cases e
      | some ss => simp only [seen, q] at e; cases e; exact go (sv := .fz l) h q hl
    | rf i =>
      cases q0 : ownAt ρ i with
      | none => simp only [seen, q0] at e; cases e
      | some l =>
        cases q : seen ρ xs with
        | none => simp only [seen, q0, q] at e; cases e
        | some ss =>
          simp only [seen, q0, q] at e; cases e
          have hl : (refs xs).length + 1 ≤ 1 := hl
          have h0 : refs xs = [] := List.eq_nil_of_length_eq_zero (by omega)
          obtain ⟨a, ys, hσ, ha, ga, hx, ho⟩ := r.owned q0
          have hv : σ[i]? = some (some v) := h
          rw [hσ] at hv; cases hv
          obtain ⟨p, h1, h2⟩ := args_ok r t q (by omega)
          rcases h2 with ⟨rfl, _⟩ | ⟨j, k, c, _, h3, _⟩
          · exact ⟨_, .consR ha ga hx h1, .inr ⟨i, 0, a, rfl, by show i :: refs xs = [i]; rw [h0], ho⟩⟩
          · rw [h0] at h3; cases h3
/-- behind the call -/
theorem rel_after {i : Option (Nat × Addr)} {out : List D} {G' H' : Hp} (r : Rel K b G H σ ρ) (hi : ∀ p, i = some p → Owns σ ρ p.1 p.2) (h : FExt K G H (i.map (·.2)) out G' H') :
    Rel K b G' H' σ (putR ρ (i.toList.map (·.1)) out) := by
  -- a heap between: all that stood, and what is new
  have hn : ∀ {a : Addr} {o : HO}, H a = some o → G a = none → G' a = none := fun {a o} ha ga => by
    cases q : G' a with
    | none => rfl
    | some u => rcases h.new a u q with z | z
                · rw [ga] at z; cases z
                · rw [ha] at z; cases z
  cases i with
  | none => exact r.ext ⟨h.g, fun a o q => h.h a o q (by simp), h.le, h.new⟩
  | some p =>
    obtain ⟨j, a⟩ := p
    have ho := hi _ rfl
    obtain ⟨ga', xs, ha', hx'⟩ := h.ref a rfl
    obtain ⟨hσ, l0, hρ0⟩ := ho
    -- the state where the list at a is as it was: then it is written
    have hold : ∃ ys, H a = some (.lst ys) := by
      rcases hρ0 with z | z <;> (obtain ⟨v, h1, c, ys, e1, h2, _⟩ := r.slot _ _ z; rw [hσ] at h1; cases h1; cases e1; exact ⟨ys, h2⟩)
    obtain ⟨ys, hys⟩ := hold
    have ga : G a = none := by
      rcases hρ0 with z | z <;> (obtain ⟨v, h1, c, ys, e1, h2, h3, _⟩ := r.slot _ _ z; rw [hσ] at h1; cases h1; cases e1; exact h3)
    have r1 : Rel K b G' (upd H' a (.lst ys)) σ ρ := r.ext ⟨h.g, fun c o q => by
        by_cases e : c = a
        · subst e; rw [upd_same]; rw [hys] at q; exact q
        · rw [upd_ne e]; exact h.h c o q (fun z => e (Option.some.inj z).symm), fun c o q => by
        rw [upd_ne (ne_of_none q ga')]; exact h.le c o q, h.new⟩
    have r2 := r1.write (i := j) ⟨hσ, l0, hρ0⟩ hx'
    rw [upd_upd] at r2
    have e : upd H' a (.lst xs) = H' := by
      funext c
      by_cases e : c = a
      · subst e; rw [upd_same, ha']
      · rw [upd_ne e]
    rw [e] at r2
    exact r2
theorem rep_after {i : Option (Nat × Addr)} {out : List D} {G' H' : Hp} {v : V} {sv : Sv} (r : Rel K b G H σ ρ) (hi : ∀ p, i = some p → Owns σ ρ p.1 p.2) (h : FExt K G H (i.map (·.2)) out G' H') (d : RepF K b.cl H G' H' v sv) :
    ∃ G'', Rel K b G'' H' σ (putR ρ (i.toList.map (·.1)) out) ∧ Same G' G'' ∧ RepT K b G'' H' σ (putR ρ (i.toList.map (·.1)) out) v sv.pl := by
  have ra := rel_after r hi h
  have noOwn : ∀ {a : Addr}, H a = none → ∀ j, ¬ Owns σ (putR ρ (i.toList.map (·.1)) out) j a := fun {a} h3 j z => by
    have z' : Owns σ ρ j a := by
      obtain ⟨z1, m, z2⟩ := z
      cases i with
      | none => exact ⟨z1, m, z2⟩
      | some p =>
        obtain ⟨k, c⟩ := p
        have z2 : (putL ρ k out)[j]? = some (some (.ow m)) ∨ (putL ρ k out)[j]? = some (some (.rf m)) := z2
        by_cases e : j = k
        · subst e
          obtain ⟨g1, l0, g2⟩ := hi _ rfl
          exact ⟨z1, l0, g2⟩
        · refine ⟨z1, m, ?_⟩
          unfold putL at z2
          split at z2
          · rw [List.getElem?_set_ne (Ne.symm e)] at z2; exact z2
          · rw [List.getElem?_set_ne (Ne.symm e)] at z2; exact z2
          · exact z2
    obtain ⟨z1, m, z2⟩ := z'
    rcases z2 with z2 | z2 <;> (obtain ⟨v, q1, c, ys, e1, q2, _⟩ := r.slot _ _ z2; rw [z1] at q1; cases q1; cases e1; rw [h3] at q2; cases q2)
  cases sv with
  | d x => exact ⟨_, ra, Same.refl _, d⟩
  | rf l => exact d.elim
  | ex c => exact ⟨_, ra, Same.refl _, d⟩
  | px c => exact ⟨_, ra, Same.refl _, d⟩
  | al j p => exact d.elim
  | on w =>
    obtain ⟨F, h1, h2⟩ := d
    have hF : ∀ a ∈ F, G' a = none ∧ b.H0 a = none ∧ b.T a = none ∧ ∀ j, ¬ Owns σ (putR ρ (i.toList.map (·.1)) out) j a := fun a ha => ⟨(Lin.own h1 a ha).1, r.h0 (h2 a ha), r.t0 (h2 a ha), noOwn (h2 a ha)⟩
    exact ⟨_, ra.shareF hF, takeIn_same fun a ha => (hF a ha).1, Lin.da h.le h1⟩
  | fz l => exact ⟨_, ra, Same.refl _, d⟩
  | ow l =>
    obtain ⟨a, xs, e, h1, h2, h3, h4⟩ := d
    exact ⟨_, ra, Same.refl _, a, xs, e, h1, h2, r.h0 h3, r.t0 h3, noOwn h3, h4⟩
theorem vwas_len : ∀ {vs : List V} {as : List AV}, VwAs K b G σ vs as → vs.length = as.length
  | _, _, .nil => rfl
  | _, _, .cons _ t => by rw [List.length_cons, List.length_cons, vwas_len t]
/-- as many values as arguments -/
theorem run_len : ∀ (as : List Ar) {ρ : Ev} {k : List AV → Ev → RE} {Q : VK}, PostE K b W G σ Q (runArgs as ρ k) → PostE K b W G σ Q (runArgs as ρ fun xs ρ1 => if xs.length = as.length then k xs ρ1 else .stuck)
  | [], ρ, k, Q, h => by
    show PostE K b W G σ Q (if ([] : List AV).length = ([] : List Ar).length then k [] ρ else .stuck)
    have e : (if ([] : List AV).length = ([] : List Ar).length then k [] ρ else RE.stuck) = k [] ρ := if_pos rfl
    rw [e]; exact h
  | .v f :: as, ρ, k, Q, h => by
    have e2 : ∀ {av : AV} {ρ1 : Ev}, PostE K b W G σ Q (runArgs as ρ1 fun xs => k (av :: xs)) → PostE K b W G σ Q (runArgs as ρ1 fun xs ρ2 => if (av :: xs).length = (Ar.v f :: as).length then k (av :: xs) ρ2 else .stuck) := fun {av ρ1} q => by
      have z := run_len as q
      have e3 : (fun (xs : List AV) (ρ2 : Ev) => if (av :: xs).length = (Ar.v f :: as).length then k (av :: xs) ρ2 else RE.stuck) = fun xs ρ2 => if xs.length = as.length then k (av :: xs) ρ2 else .stuck := by
        funext xs ρ2
        rw [List.length_cons, List.length_cons]
        by_cases c : xs.length = as.length
        · rw [if_pos c, if_pos (by rw [c])]
        · rw [if_neg c, if_neg (by omega)]
      rw [e3]; exact z
    cases e : f ρ with
    | stuck => simp only [runArgs, e] at h; exact h.elim
    | raise c ρ1 => simp only [runArgs, e] at h ⊢; exact h
    | ok sv ρ1 =>
      cases sv with
      | d x => simp only [runArgs, e] at h ⊢; exact e2 h
      | ow l => simp only [runArgs, e] at h ⊢; exact e2 h
      | rf l => simp only [runArgs, e] at h; exact h.elim
      | ex c => simp only [runArgs, e] at h ⊢; exact e2 h
      | px c => simp only [runArgs, e] at h; exact h.elim
      | on w => simp only [runArgs, e] at h; exact h.elim
      | al j p => simp only [runArgs, e] at h; exact h.elim
      | fz l => simp only [runArgs, e] at h ⊢; exact e2 h
  | .r i :: as, ρ, k, Q, h => by
    cases e : ownAt ρ i with
    | none => simp only [runArgs, e] at h; exact h.elim
    | some l =>
      simp only [runArgs, e] at h ⊢
      have z := run_len as h
      have e3 : (fun (xs : List AV) (ρ2 : Ev) => if (AV.rf i :: xs).length = (Ar.r i :: as).length then k (.rf i :: xs) ρ2 else RE.stuck) = fun xs ρ2 => if xs.length = as.length then k (.rf i :: xs) ρ2 else .stuck := by
        funext xs ρ2
        rw [List.length_cons, List.length_cons]
        by_cases c : xs.length = as.length
        · rw [if_pos c, if_pos (by rw [c])]
        · rw [if_neg c, if_neg (by omega)]
      rw [e3]; exact z
theorem call_post {F : Fn} {as : List Ar} {n : Nat} (hn : as.length = n) : ∀ σ H Q, tE K b W (fCall F as) σ H Q → tCallS (spF K b.cl F n) (WE W) (tArgs K b W as) σ H Q := by
  rintro σ H Q ⟨ρ, G, r, q⟩
  refine stepArgs as r (run_len as q) fun vs H1 ρ1 G1 xs r1 s1 d1 q1 => ?_
  obtain ⟨hx, q1⟩ := postE_if q1
  cases e : seen ρ1 xs with
  | none => simp only [e] at q1; exact q1.elim
  | some svs =>
    simp only [e] at q1
    obtain ⟨hc, q1⟩ := postE_if q1
    obtain ⟨p, ao, hp⟩ := args_ok r1 d1 e hc
    refine ⟨by rw [vwas_len d1, hx]; exact hn, G1, svs, p, r1.le, ao, ?_⟩
    -- the slot of the reference
    have key : ∃ i : Option (Nat × Addr), p.map (·.2) = i.map (·.2) ∧ refs xs = i.toList.map (·.1) ∧ ∀ q, i = some q → Owns σ ρ1 q.1 q.2 := by
      rcases hp with ⟨rfl, h3⟩ | ⟨i, k, a, rfl, h3, h4⟩
      · exact ⟨none, rfl, h3, fun q z => nomatch z⟩
      · exact ⟨some (i, a), rfl, h3, fun q z => by cases z; exact h4⟩
    obtain ⟨i, ei, er, hi⟩ := key
    rw [ei]
    cases ef : F svs with
    | stuck => rw [ef] at q1; exact q1
    | raise c out =>
      rw [ef] at q1
      intro G2 H2 x2
      have r3 := rel_after r1 hi x2
      rw [← er] at r3
      exact q1 G2 H2 r3 x2.g
    | ok sv out =>
      rw [ef] at q1
      intro v G2 H2 x2 d2
      obtain ⟨G3, r3, s3, d3⟩ := rep_after r1 hi x2 d2
      rw [← er] at r3 d3
      exact q1 v G3 H2 r3 (x2.g.trans s3) d3
theorem ar_nil : PA X [] (tArgs X.K b W []) := pa_nil
theorem ar_v {e : Expr} {es : List Expr} {f : Ev → RE} {as : List Ar} (h : PE X e (tE X.K b W f)) (t : PA X es (tArgs X.K b W as)) (hs : starEach (e :: es) X.env = (false, eval e X.env) :: starEach es X.env := by rfl) : PA X (e :: es) (tArgs X.K b W (.v f :: as)) := pa_cons h t hs
theorem ar_r {e : Expr} {es : List Expr} {i : Nat} {as : List Ar} (h : PE X e (tVar i)) (t : PA X es (tArgs X.K b W as)) (hs : starEach (e :: es) X.env = (false, eval e X.env) :: starEach es X.env := by rfl) : PA X (e :: es) (tArgs X.K b W (.r i :: as)) := pa_cons h t hs
/-- what a call may let out where the wish is W -/
def Lets (X : Cx) (W : WX) : Prop := ∀ σ, PassesAt (L2.CX X.prog X.w) X σ (WE W σ)
theorem lets_of (tk : Takes X W) : Lets X W := fun σ => passAt tk σ
theorem lets0 : Lets X W0 := fun σ pins H s e s' I c => by
  obtain ⟨_, _, _, _, _, _, _, _, _, _, _, _, z⟩ := c
  exact z.elim
theorem e_call {x : Str} {p pos : Pos} {e : Expr} {es : List Expr} {F : Fn} {as : List Ar} {k n : Nat} {f : Addr} {fd : FuncData} {ps : List Str} {cl : Nat → Addr} (hcl : b.cl = cl) (hF : FnG X.prog X.w X.K X.mg X.base k f fd ps (spF X.K cl F n)) (gd : X.A.guards = some []) (hr : Room k X.A) (hg : Gl X x) (hm : X.mg x = some (.ref f)) (hk : PySem.W.keepIn X.K (.ref f) = true) (hb : Binds X.K fd ps []) (hx : Lets X W)
    (ha : PA X (e :: es) (tArgs X.K b W as)) (hn : as.length = n := by rfl) (hdb : (x == ("__debug__" : Str)) = false := by decide) (he : starEach (e :: es) X.env = (false, eval e X.env) :: starEach es X.env := by rfl) (hpl : (backTo pos (starEach es X.env)).any (·.1) = false := by rfl) :
    PE X (.Call (.Name x p) (e :: es) [] pos) (tE X.K b W (fCall F as)) := by
  subst hcl
  exact PE.imp (pe_callG hF gd hr hg hm hk hb hx ha hdb he hpl) (call_post hn)
theorem e_call0 {x : Str} {p pos : Pos} {F : Fn} {k n : Nat} {f : Addr} {fd : FuncData} {ps : List Str} {cl : Nat → Addr} (hcl : b.cl = cl) (hF : FnG X.prog X.w X.K X.mg X.base k f fd ps (spF X.K cl F n)) (gd : X.A.guards = some []) (hr : Room k X.A) (hg : Gl X x) (hm : X.mg x = some (.ref f)) (hk : PySem.W.keepIn X.K (.ref f) = true) (hb : Binds X.K fd ps []) (hx : Lets X W)
    (hn : ([] : List Ar).length = n := by rfl) (hdb : (x == ("__debug__" : Str)) = false := by decide) :
    PE X (.Call (.Name x p) [] [] pos) (tE X.K b W (fCall F [])) := by
  subst hcl
  exact PE.imp (pe_callG0 hF gd hr hg hm hk hb hx hdb) (call_post hn)
end
end Dl
set_option maxHeartbeats 4000000
/-! DlT: raise; try with except as, the caught object stays known. -/
namespace Dl
open PySem PySem.Spec L2
section
variable {X : Cx} {b : Bx} {W : WX} {G G1 H : Hp} {σ : St} {ρ : Ev} {s : Shared} {pins : List (Addr × Obj)}
/-- an object that was not known is known from now on -/
theorem inv_track {a C : Addr} {oe : Obj} {vs : Array Value} (J : Inv X pins σ H s) (at_ : s.heap.get? a = some oe) (zc : Zc (.ref C) none oe) (fd : oe.data = .fields vs) (free : H a = none) (loc : a ≠ X.env.locals) (old : X.s_0.heap.get? a = none)
    (pn : ∀ p ∈ X.pn ++ pins, p.1 ≠ a) : Inv X pins σ (upd H a (ExT C a)) s := by
  have off : ∀ {c : Addr} {o : HO}, H c = some o → upd H a (ExT C a) c = some o := fun {c o} q => by rw [upd_ne (ne_of_none q free)]; exact q
  have non : ∀ {c : Addr}, c ≠ a → upd H a (ExT C a) c = H c := fun {c} q => upd_ne q
  refine ⟨J.ok, J.os, J.bare, ?_, J.loc, J.cell, ?_, fun x c e => ?_, fun p hp => ?_, ?_, J.len⟩
  · refine ⟨J.base.keep, J.base.slot, fun c o e n hx => ?_, J.base.there, fun c xs e => off (J.base.tups c xs e), fun c o u e => off (J.base.frzs c o u e), fun c ps e => ?_⟩
    · rw [non (fun z => by rw [z, old] at e; cases e)]
      exact J.base.free c o e n hx
    · obtain ⟨m, z⟩ := J.base.tbls c ps e
      exact ⟨m, off z⟩
  · rw [non (Ne.symm loc)]; exact J.free
  · rw [non ?_]
    · exact J.freeC x c e
    · intro z
      obtain ⟨v, o, g1, g2⟩ := J.cell x c e
      rw [z, at_] at g1
      cases g1
      rw [fd] at g2
      cases g2
  · obtain ⟨g1, g2, g3⟩ := J.pin p hp
    exact ⟨g1, by rw [non (pn p hp)]; exact g2, g3⟩
  · exact J.hok.laidN (fun _ _ q => q) free ⟨⟨oe, vs, at_, zc, fd⟩, ⟨oe, at_⟩, fun h1 h2 ⟨o, w, q1, q2⟩ k => ⟨o, w, k o q1, q2⟩⟩

/-! ### raise -/
def fRaise (c : Nat) : Ev → RS := fun ρ => .raise c ρ
/-- a class of the law's that may be raised as C("..") -/
structure RaiseOk (X : Cx) (x : Str) (C : Addr) : Prop where
  q : PySem.W.excIn X.K C [.type "ValueError", .type "Exception", .type "BaseException", .type "object"] "ValueError.__new__" = true
  gC : X.mg x = some (.ref C)
  kC : PySem.W.keepIn X.K (.ref C) = true
  r : Raises X (.ref C)
  hg : Gl X x
theorem s_raise {x m : Str} {j : Nat} {p p2 pos pos' : Pos} {cl : Nat → Addr} (c : Nat) (hcl : b.cl = cl) (hc : X.calm = true) (tk : Takes X W) (F : RaiseOk X x (cl c)) (hdb : (x == ("__debug__" : Str)) = false := by decide) :
    PS X (.Raise (some (.Call (.Name x p) [.Constant (.str m) j p2] [] pos)) none pos') (tS X.K b W (fRaise c)) := by
  subst hcl
  exact PS.imp (ps_raise hc tk (pmk_own PySem.F.excBase_ValueError F.q F.gC F.kC F.r F.hg hdb)) fun D σ H ⟨ρ, G, r, q⟩ => q σ G H r (Same.refl _)

/-! ### try .. except C as n -/
/-- what the clause wishes of what the body lets out -/
def wGot (K : PySem.W.Frag) (cv : Value) (i : Nat) (ts : TS) (Wo : WX) (D : Ends) : WX := fun cls d σ H => ∃ y, PySem.W.exmOne K cls cv = some y ∧
  (y = true → d = none ∧ ∃ C, cls = .ref C ∧ ∀ a, H a = none → ts { nx := fun σ' H' => D.nx (σ'.set i none) H', rt := D.rt, bk := fun σ' H' => D.bk (σ'.set i none) H', ct := fun σ' H' => D.ct (σ'.set i none) H' } (σ.set i (some (.ref a))) (upd H a (ExT C a))) ∧
  (y = false → Wo cls d σ H)
theorem ps_tryGot {x n : Str} {cv : Value} {i : Nat} {body rest : List Stmt} {st : Stmt} {np pos pos' : Pos} {tb : WX → TS} {ts : TS} (sk : X.stack = X.env :: X.outer) (fr : X.env.frame = some X.env.locals) (ex0 : X.ex = []) (nd : X.N.Nodup) (at_ : X.N[i]? = some n)
    (lc : X.env.kindOf n = some .local) (nm : Names X x cv) (tk : Takes X W)
    (hb : ∀ (W' : WX) (pn : List (Addr × Obj)) (xe : Value → Shared → Prop), Takes (X.tr pn xe) W' → PassesOwn (model X.prog X.w) X.A X.env xe → PSs (X.tr pn xe) body (tb W'))
    (hsu : ∀ (a : Addr) (pn : List (Addr × Obj)), PSs (X.suite a pn) (st :: rest) ts) :
    PS X (.Try body [.ExceptHandler (some (.Name x np)) (some n) (st :: rest) pos'] [] [] pos) (fun D σ H => tb (wGot X.K cv i ts W D) D σ H) := by
  constructor
  intro pins s0 σ H D I hyp
  have okX := I.ok
  have frm : X.A.frames = some (X.env :: X.outer) := okX.frames.trans (by rw [sk])
  apply wpAny_Try_except
  let after : Value → Shared → Prop := fun e s1 => wpAny (model X.prog X.w) X.A (noteFrame e X.env) (fun _ s2 => wpAny (model X.prog X.w) X.A (setFlight e none)
    (fun _ s3 => wpAny (model X.prog X.w) X.A (handleBy e X.env [.ExceptHandler (some (.Name x np)) (some n) (st :: rest) pos']) (SP X pins D) X.xe s3) X.xe s2) X.xe s1
  have tkB : Takes (X.tr (X.pn ++ pins) after) (wGot X.K cv i ts W D) := by
    intro u s' air
    obtain ⟨a, B, sI, qs, σ1, H1, cls, d, rfl, J0, kB, up0, sky0, free, os0, bare0, y, ey, yes, no⟩ := air
    have J : Inv X pins σ1 H1 sI := J0.ofTry okX
    rw [show (X.tr (X.pn ++ pins) after).stack = X.env :: X.outer from sk] at sky0
    show after (.ref a) s'
    refine Sky.land Zc.steady frm fr sky0 ?_
    intro h1 fl1 up1
    have J1 : Inv X pins σ1 H1 { s' with heap := h1 } := J.landed kB fl1.1 (up0.trans up1) os0 bare0
    obtain ⟨o1, f1, at1, z1, d1⟩ := fl1.there
    have away : a ∉ frs (X.env :: X.outer) := by
      intro hm
      obtain ⟨_, o', g1, g2⟩ := fl1.2.2.1.mem hm
      rw [at1] at g1
      cases g1
      exact g2 _ d1
    have aL : a ≠ X.env.locals := by
      intro z
      exact away (List.mem_filterMap.mpr ⟨X.env, .head _, fr.trans (congrArg some z.symm)⟩)
    have aF : a ∉ X.fs := by
      intro hm
      obtain ⟨e, g1, g2⟩ := List.mem_filterMap.mp hm
      exact away (List.mem_filterMap.mpr ⟨e, .tail _ g1, g2⟩)
    -- before it was raised, nothing lay at a
    have newI : sI.heap.get? a = none := by
      cases e : sI.heap.get? a with
      | none => rfl
      | some o =>
        have g := kB a o e (by show a ∉ frs X.stack; rw [sk]; exact away)
        rw [fl1.2.1] at g
        cases g
    have new0 : X.s_0.heap.get? a = none := by
      cases e : X.s_0.heap.get? a with
      | none => rfl
      | some o =>
        obtain ⟨o', g⟩ := J.base.there a o e (by rw [ex0]; exact List.not_mem_nil)
        rw [newI] at g
        cases g
    have S1 := J1.suite at1 d1 free aL aF
    refine wpAny_handleBy_cons (codeAny_handlers_test ?_) (fun q => nomatch q)
    have TL : PySem.W.Looks (model X.prog X.w) h1 (typeOf (.ref a)) cls := by
      intro A Q E s k q
      exact wpAny_typeOf_ref (k _ _ at1) (by rw [z1.1]; exact q)
    have EM := PySem.W.exm_one (M := model X.prog X.w) J1.kIn TL ey
    have named : ∀ {Q : Value → Shared → Prop} {E : Value → Shared → Prop}, Q cv { s' with heap := h1 } → wpAny (model X.prog X.w) (X.A.mark (some (.ref a))) (eval (.Name x np) X.env) Q E { s' with heap := h1 } := by
      intro Q E q
      obtain ⟨g1, g2, g3 | ⟨g3, g4, g5⟩⟩ := nm
      · exact ld_glob (X := X.suite a ((a, o1) :: (X.pn ++ pins))) S1 g1 g3 q g2
      · exact ld_blt (X := X.suite a ((a, o1) :: (X.pn ++ pins))) S1 g1 g3 g4 q g5 g2
    refine named (EM.here ?_)
    cases y with
    | true =>
      obtain ⟨rfl, C, rfl, run⟩ := yes rfl
      apply codeAny_handlers_suite_as
      apply HandSPX.lands_againZ fl1
      intro h2 fl2 up2
      have J2 : Inv X pins σ1 H1 { s' with heap := h2 } := J.landed kB fl2.1 ((up0.trans up1).trans up2) os0 bare0
      obtain ⟨o2, f2, at2, z2, d2⟩ := fl2.there
      have noPin : ∀ p ∈ X.pn ++ pins, p.1 ≠ a := by
        intro p hp z
        have g := (J.pin p hp).1
        rw [z, newI] at g
        cases g
      have T2 := inv_track J2 at2 z2 d2 free aL new0 noPin
      have U2 : Inv (X.suite a (X.pn ++ pins)) [] σ1 (upd H1 a (ExT C a)) { s' with heap := h2 } :=
        ⟨okX.suite _ _, T2.os, T2.bare, T2.base, T2.loc, T2.cell, T2.free, T2.freeC, fun p hp => T2.pin p (by rw [List.append_nil] at hp; exact hp), T2.hok, T2.len⟩
      refine store_ok (X := X.suite a (X.pn ++ pins)) (v := .ref a) U2 nd at_ (.inl lc) rfl ?_ (.inr lc)
      intro s3 U3
      have back : ∀ {σ2 : St} {H2 : Hp} {s2 : Shared}, Inv (X.suite a (X.pn ++ pins)) [] σ2 H2 s2 → Inv X pins σ2 H2 s2 := fun {σ2 H2 s2} V => ⟨okX, V.os, V.bare, V.base, V.loc, V.cell, V.free, V.freeC, fun p hp => V.pin p (by rw [List.append_nil]; exact hp), V.hok, V.len⟩
      refine wpAny_mono ((hsu a (X.pn ++ pins)).run [] s3 _ _ _ U3 (run a free)) (fun f s4 z => ?_) (fun _ _ z => z.elim)
      cases f with
      | next => obtain ⟨σ2, H2, V, q⟩ := z; exact gone_ok (back V) nd at_ lc fun s5 V5 => ⟨_, _, V5, q⟩
      | brk => obtain ⟨σ2, H2, V, q⟩ := z; exact gone_ok (back V) nd at_ lc fun s5 V5 => ⟨_, _, V5, q⟩
      | cont => obtain ⟨σ2, H2, V, q⟩ := z; exact gone_ok (back V) nd at_ lc fun s5 V5 => ⟨_, _, V5, q⟩
      | ret u => obtain ⟨v, σ2, H2, V, rv, q⟩ := z; exact gone_ok (back V) nd at_ lc fun s5 V5 => ⟨_, _, _, V5, rv, q⟩
    | false =>
      show wpAny _ X.A (handleBy (.ref a) X.env []) _ _ _
      apply wpAny_handleBy_nil
      obtain ⟨_, _, _, oe, vs, T, oT, ts', g1, g2, g3, g4, g5⟩ := id fl1
      have set_ : wpAny (model X.prog X.w) X.A (setFlight (.ref a) X.env.frame) (fun _ s4 => wpAny (model X.prog X.w) X.A (throw (.ref a) : Sem Flow) (SP X pins D) X.xe s4) X.xe { s' with heap := h1 } := by
        rw [fr]
        apply HandSPX.setFlight_upZ fl1
        intro h2 fl2 up2
        refine wpAny_throw (tk _ _ ⟨a, B, sI, pins, σ1, H1, cls, d, rfl, J, kB, (up0.trans up1).trans up2, ?_, free, os0, bare0, no rfl⟩)
        rw [sk]
        exact .inr (.inr fl2)
      unfold PySem.passOn
      refine wpAny_bind (wpAny_field g1 g3 g4 ?_)
      rw [if_neg (by simp : ¬ ((Value.ref T == Value.none) = true))]
      first
        | exact wpAny_bind (wpAny_pure (wpAny_bind set_))
        | exact wpAny_bind set_
  refine wpAny_mono ((hb _ _ after tkB PassesOwn.looking).run [] s0 σ H D (I.toTry _) hyp) (fun f s1 z => ?_) (fun e s1 z => z)
  cases f with
  | next => obtain ⟨σ', H', V, q⟩ := z; exact wpAny_execs_nil ⟨σ', H', V.ofTry okX, q⟩
  | brk => obtain ⟨σ', H', V, q⟩ := z; exact ⟨σ', H', V.ofTry okX, q⟩
  | cont => obtain ⟨σ', H', V, q⟩ := z; exact ⟨σ', H', V.ofTry okX, q⟩
  | ret u => obtain ⟨v, σ', H', V, rv, q⟩ := z; exact ⟨v, σ', H', V.ofTry okX, rv, q⟩

/-- m says of which classes' errors the clause is -/
def fTryAs (m : Nat → Option Bool) (i : Nat) (fb fs : Ev → RS) : Ev → RS := fun ρ => match fb ρ with
  | .raise c ρ1 => match m c with
    | some true => if okW ρ1 [i] = true then match (fs (ρ1.set i (some (.ex c)))) with
      | .next ρ2 => if okW ρ2 [i] = true then .next (wipeE ρ2 [i]) else .stuck
      | .ret v ρ2 => .ret v ρ2
      | _ => .stuck
      else .stuck
    | some false => .raise c ρ1
    | none => .stuck
  | r => r
theorem s_tryAs {x n : Str} {cv : Value} {i : Nat} {body rest : List Stmt} {st : Stmt} {np pos pos' : Pos} {m : Nat → Option Bool} {fb fs : Ev → RS} {cl : Nat → Addr} (hcl : b.cl = cl) (hm : ∀ c y, m c = some y → PySem.W.exmOne X.K (.ref (cl c)) cv = some y)
    (sk : X.stack = X.env :: X.outer) (fr : X.env.frame = some X.env.locals) (ex0 : X.ex = []) (nd : X.N.Nodup) (at_ : X.N[i]? = some n)
    (lc : X.env.kindOf n = some .local) (nm : Names X x cv) (tk : Takes X W)
    (hb : ∀ (W' : WX) (pn : List (Addr × Obj)) (xe : Value → Shared → Prop), Takes (X.tr pn xe) W' → PassesOwn (model X.prog X.w) X.A X.env xe → PSs (X.tr pn xe) body (tS X.K b W' fb))
    (hsu : ∀ (a : Addr) (pn : List (Addr × Obj)), PSs (X.suite a pn) (st :: rest) (tS X.K b W0 fs)) :
    PS X (.Try body [.ExceptHandler (some (.Name x np)) (some n) (st :: rest) pos'] [] [] pos) (tS X.K b W (fTryAs m i fb fs)) := by
  subst hcl
  refine PS.imp (ps_tryGot (tb := fun W' => tS X.K b W' fb) (ts := tS X.K b W0 fs) sk fr ex0 nd at_ lc nm tk hb hsu) ?_
  rintro D σ H ⟨ρ, G, r, q⟩
  refine ⟨ρ, G, r, ?_⟩
  unfold fTryAs at q
  cases e : fb ρ with
  | raise c ρ1 =>
    simp only [e] at q
    intro σ1 G1 H1 r1 s1
    cases em : m c with
    | none => simp only [em] at q; exact q.elim
    | some y =>
      refine ⟨y, hm c y em, fun hy => ?_, fun hy => ?_⟩
      · subst hy
        simp only [em] at q
        split at q
        · rename_i ok1
          refine ⟨rfl, _, rfl, fun a fa => ?_⟩
          have sgG : Same G1 (upd G1 a (ExT (b.cl c) a)) := fun d o z => by rw [upd_ne (ne_of_none z (r1.g0 fa))]; exact z
          have r2 := r1.ext (Ext.upd r1.le fa (ExT (b.cl c) a))
          have nf : rfAt ρ1 i = false := by
            have := ok1
            unfold okW at this
            simpa using this
          have r3 := r2.assign (v := .ref a) (sv := .ex c) (i := i) ⟨a, rfl, upd_same⟩ nf
          refine ⟨_, _, r3, ?_⟩
          cases ef : fs (ρ1.set i (some (.ex c))) with
          | next ρ2 =>
            simp only [ef] at q
            split at q
            · rename_i ok2
              exact fun σ' G' H' r' s' => q _ G' H' (r'.wipe ok2) ((s1.trans sgG).trans s')
            · exact q.elim
          | ret sv ρ2 =>
            simp only [ef] at q
            exact fun v σ' G' H' r' s' d' => q v σ' G' H' r' ((s1.trans sgG).trans s') d'
          | brk ρ2 => simp only [ef] at q; exact q.elim
          | cnt ρ2 => simp only [ef] at q; exact q.elim
          | raise k ρ2 => simp only [ef] at q; exact q.elim
          | stuck => simp only [ef] at q; exact q.elim
        · exact q.elim
      · subst hy
        simp only [em] at q
        exact q σ1 G1 H1 r1 s1
  | next ρ1 => simp only [e] at q ⊢; exact q
  | ret v ρ1 => simp only [e] at q ⊢; exact q
  | brk ρ1 => simp only [e] at q ⊢; exact q
  | cnt ρ1 => simp only [e] at q ⊢; exact q
  | stuck => simp only [e] at q; exact q
/-- .. without a name -/
def fTry1 (m : Nat → Option Bool) (fb fs : Ev → RS) : Ev → RS := fun ρ => match fb ρ with
  | .raise c ρ1 => match m c with
    | some true => match fs ρ1 with
      | .raise _ _ => .stuck
      | r => r
    | some false => .raise c ρ1
    | none => .stuck
  | r => r
theorem s_try1 {x : Str} {cv : Value} {body rest : List Stmt} {st : Stmt} {np pos pos' : Pos} {m : Nat → Option Bool} {fb fs : Ev → RS} {cl : Nat → Addr} (hcl : b.cl = cl) (hm : ∀ c y, m c = some y → PySem.W.exmOne X.K (.ref (cl c)) cv = some y)
    (sk : X.stack = X.env :: X.outer) (fr : X.env.frame = some X.env.locals) (nm : Names X x cv) (tk : Takes X W)
    (hb : ∀ (W' : WX) (pn : List (Addr × Obj)) (xe : Value → Shared → Prop), Takes (X.tr pn xe) W' → PassesOwn (model X.prog X.w) X.A X.env xe → PSs (X.tr pn xe) body (tS X.K b W' fb))
    (hsu : ∀ (a : Addr) (pn : List (Addr × Obj)), PSs (X.suite a pn) (st :: rest) (tS X.K b W0 fs)) :
    PS X (.Try body [.ExceptHandler (some (.Name x np)) none (st :: rest) pos'] [] [] pos) (tS X.K b W (fTry1 m fb fs)) := by
  subst hcl
  refine PS.imp (ps_try_only (tb := fun W' => tS X.K b W' fb) (ts := fun _ _ _ => tS X.K b W0 fs) sk fr nm tk hb fun a oe cls d pn _ _ => hsu a _) ?_
  rintro D σ H ⟨ρ, G, r, q⟩
  refine ⟨ρ, G, r, ?_⟩
  unfold fTry1 at q
  cases e : fb ρ with
  | raise c ρ1 =>
    simp only [e] at q
    intro σ1 G1 H1 r1 s1
    cases em : m c with
    | none => simp only [em] at q; exact q.elim
    | some y =>
      refine ⟨y, hm c y em, fun hy a fa => ?_, fun hy => ?_⟩
      · subst hy
        simp only [em] at q
        refine ⟨ρ1, G1, r1, PostS.mono s1 ?_⟩
        cases ef : fs ρ1 with
        | raise k ρ2 => simp only [ef] at q; exact q.elim
        | _ => simp only [ef] at q ⊢; exact q
      · subst hy
        simp only [em] at q
        exact q σ1 G1 H1 r1 s1
  | next ρ1 => simp only [e] at q ⊢; exact q
  | ret v ρ1 => simp only [e] at q ⊢; exact q
  | brk ρ1 => simp only [e] at q ⊢; exact q
  | cnt ρ1 => simp only [e] at q ⊢; exact q
  | stuck => simp only [e] at q; exact q
end
end Dl
set_option maxHeartbeats 4000000
/-! Dl8: isinstance, str of data, the script. -/
namespace Dl
open PySem PySem.Spec L2

/-! ### isinstance -/
def tyName : D → String
  | .none => "NoneType"
  | .bool _ => "bool"
  | .int _ => "int"
  | .str _ => "str"
  | .list _ => "list"
  | .tuple _ => "tuple"
  | .dict _ => "dict"
def isIntT : D → Option Bool | .int _ => some true | .bool _ => some true | .dict _ => none | _ => some false
def isBoolT : D → Option Bool | .bool _ => some true | .dict _ => none | _ => some false
def isStrT : D → Option Bool | .str _ => some true | .dict _ => none | _ => some false
def isListT : D → Option Bool | .list _ => some true | .dict _ => none | _ => some false
def isTupleT : D → Option Bool | .tuple _ => some true | .dict _ => none | _ => some false
def noneT : D → Option Bool | .dict _ => none | _ => some false
/-- T tells what isinstance(x, c) answers on data -/
def IsT (K : PySem.W.Frag) (cv : Value) (T : D → Option Bool) : Prop := ∀ x y, T x = some y → (∀ kv, x ≠ .dict kv) ∧ PySem.W.kitOne K (.type (tyName x)) cv = some y
def IsEx (K : PySem.W.Frag) (cl : Nat → Addr) (cv : Value) (E : Nat → Option Bool) : Prop := ∀ c y, E c = some y → ExcC K (cl c) ∧ PySem.W.kitOne K (.ref (cl c)) cv = some y
section
variable {K : PySem.W.Frag}
theorem isT_int : IsT K (.type "int") isIntT := fun x y h => by
  cases x <;> cases h <;> exact ⟨fun _ z => (nomatch z), kit_ty (by dsimp only [tyName]; decide +kernel)⟩
theorem isT_bool : IsT K (.type "bool") isBoolT := fun x y h => by
  cases x <;> cases h <;> exact ⟨fun _ z => (nomatch z), kit_ty (by dsimp only [tyName]; decide +kernel)⟩
theorem isT_str : IsT K (.type "str") isStrT := fun x y h => by
  cases x <;> cases h <;> exact ⟨fun _ z => (nomatch z), kit_ty (by dsimp only [tyName]; decide +kernel)⟩
theorem isT_list : IsT K (.type "list") isListT := fun x y h => by
  cases x <;> cases h <;> exact ⟨fun _ z => (nomatch z), kit_ty (by dsimp only [tyName]; decide +kernel)⟩
theorem isT_tuple : IsT K (.type "tuple") isTupleT := fun x y h => by
  cases x <;> cases h <;> exact ⟨fun _ z => (nomatch z), kit_ty (by dsimp only [tyName]; decide +kernel)⟩
/-- a class that is no built-in: data is none of its -/
theorem isT_none {cv : Value} (h : ∀ n ∈ (["NoneType", "bool", "int", "str", "list", "tuple"] : List String), PySem.W.kitOne K (.type n) cv = some false) : IsT K cv noneT := fun x y e => by
  cases x <;> cases e <;> exact ⟨fun _ z => (nomatch z), h _ (by simp [tyName])⟩
theorem isEx_none {cl : Nat → Addr} {cv : Value} : IsEx K cl cv (fun _ => none) := fun _ _ e => nomatch e
end
def rIsEx (K : PySem.W.Frag) : List V → Hp → VK → Prop := fun xs H Q => ∃ (a C : Addr) (c : V) (cv : Value) (y : Bool), xs = [.ref a, c] ∧ H a = some (ExT C a) ∧ ExcC K C ∧ ClsV c cv ∧ PySem.W.kitOne K (.ref C) cv = some y ∧ Q (.bl y) H
section
variable {X : Cx} {b : Bx} {W : WX} {K : PySem.W.Frag} {G G1 H : Hp} {σ : St} {ρ : Ev} {Q : VK}
theorem call_isEx : CallR X (.builtin "isinstance") (rIsEx X.K) := by
  intro pins s σ H xs us Q I r h
  obtain ⟨a, C, c, cv, y, rfl, ha, F, kc, e, q⟩ := h
  obtain ⟨u1, u2, rfl, r1, r2⟩ := vals2 r
  cases (show u1 = Value.ref a from r1)
  have e2 := kc.eq r2
  subst e2
  obtain ⟨⟨oe, vs, at_, zc, fd⟩, _, _⟩ := (show ObjOk X.prog X.w H s.heap a (ExT C a) from I.hok a _ ha)
  have J : PySem.W.InstAt s.heap a oe C none := by
    obtain ⟨oc, od, oda, osl⟩ := oe
    obtain ⟨g1, g2⟩ := zc
    dsimp only at g1 g2 fd
    subst g1 g2 fd
    exact ⟨at_, rfl, rfl, trivial⟩
  exact PySem.W.kia_one (PySem.W.handS_kitx_exc F.hg F.hk F.hs F.hd F.ha F.hn F.ht F.hm) I.kIn J e (fun z => nomatch z) fun tk => ⟨.bl y, H, I.kept (t' := tk) fun _ _ z => z, rfl, q⟩
abbrev rIsA (K : PySem.W.Frag) : List V → Hp → VK → Prop := fun xs H Q => rIsi K xs H Q ∨ rIsEx K xs H Q
theorem call_isA : CallR X (.builtin "isinstance") (rIsA X.K) := call_isi.or call_isEx
theorem Vw.ty (s : Same G H) {v : V} {x : D} (n : ∀ kv, x ≠ .dict kv) (h : Vw K G H v x) : TyX K H v (.type (tyName x)) := by
  rcases h with h | ⟨a, xs, l, rfl, rfl, ha, hx⟩
  · cases h with
    | non => exact .base .non
    | bl k => exact .base (.bl k)
    | int i => exact .base (.int i)
    | str z => exact .base (.str z)
    | lst h1 h2 => exact .base (.lst (s _ _ h1))
    | tup h1 h2 =>
      rcases seqT s h1 with (h | ⟨o, h⟩) | ⟨o, its, n, k1, k2, k3⟩
      · exact .base (.tup h)
      · exact .fTuple h
      · exact .kTuple k1 k2
  · exact .base (.lst ha)
/-- isinstance(name, c) -/
def fIsN (i : Nat) (T : D → Option Bool) (E : Nat → Option Bool) : Ev → RE := fun ρ => match ρ[i]? with
  | some (some (.ex c)) => RE.of ((E c).map bol) ρ
  | _ => match viewAt ρ i with
    | some x => RE.of ((T x).map bol) ρ
    | none => .stuck
theorem e_isN {i : Nat} {e ce : Expr} {c : V} {cv : Value} {p pos : Pos} {T : D → Option Bool} {E : Nat → Option Bool} {cl : Nat → Addr} (hcl : b.cl = cl) (hT : IsT X.K cv T) (hE : IsEx X.K cl cv E) (hg : Gl X "isinstance") (hm : X.mg "isinstance" = none) (he : PE X e (tVar i)) (hc : PE X ce (tC c)) (kc : ClsV c cv)
    (h1 : starEach [e, ce] X.env = (false, eval e X.env) :: starEach [ce] X.env := by rfl) (h2 : starEach [ce] X.env = (false, eval ce X.env) :: starEach [] X.env := by rfl) (h3 : (backTo pos (starEach [ce] X.env)).any (·.1) = false := by rfl) :
    PE X (.Call (.Name "isinstance" p) [e, ce] [] pos) (tE X.K b W (fIsN i T E)) := by
  subst hcl
  refine PE.imp (pe_callB call_isA hg hm (by decide +kernel) (pa_cons he (pa_cons hc pa_nil h2) h1) (by decide) (by decide) h1 h3) ?_
  rintro σ H Q ⟨ρ, G, r, q⟩
  unfold fIsN at q
  split at q
  · rename_i k e1
    obtain ⟨v, h4, a, rfl, ga⟩ := r.slot _ _ e1
    refine ⟨_, h4, ?_⟩
    cases eE : E k with
    | none => rw [eE] at q; exact q.elim
    | some y =>
      rw [eE] at q
      obtain ⟨F, ek⟩ := hE k y eE
      exact .inr ⟨a, _, c, cv, y, rfl, r.le _ _ ga, F, kc, ek, q _ _ _ r (Same.refl _) (.bl y)⟩
  · split at q
    · rename_i x e1
      obtain ⟨v, h4, d⟩ := r.view e1
      refine ⟨v, h4, ?_⟩
      cases eT : T x with
      | none => rw [eT] at q; exact q.elim
      | some y =>
        rw [eT] at q
        obtain ⟨nd, ek⟩ := hT x y eT
        exact .inl ⟨v, c, _, cv, y, rfl, kc, d.ty r.le nd, ek, q _ _ _ r (Same.refl _) (.bl y)⟩
    · exact q.elim
/-- isinstance(e, c), e any expression -/
def fIsE (f : Ev → RE) (T : D → Option Bool) : Ev → RE := fun ρ => (f ρ).bindD fun x ρ1 => RE.of ((T x).map bol) ρ1
theorem e_isE {f : Ev → RE} {e ce : Expr} {c : V} {cv : Value} {p pos : Pos} {T : D → Option Bool} (hT : IsT X.K cv T) (hg : Gl X "isinstance") (hm : X.mg "isinstance" = none) (he : PE X e (tE X.K b W f)) (hc : PE X ce (tC c)) (kc : ClsV c cv)
    (h1 : starEach [e, ce] X.env = (false, eval e X.env) :: starEach [ce] X.env := by rfl) (h2 : starEach [ce] X.env = (false, eval ce X.env) :: starEach [] X.env := by rfl) (h3 : (backTo pos (starEach [ce] X.env)).any (·.1) = false := by rfl) :
    PE X (.Call (.Name "isinstance" p) [e, ce] [] pos) (tE X.K b W (fIsE f T)) := PE.imp (pe_callB call_isA hg hm (by decide +kernel) (pa_cons he (pa_cons hc pa_nil h2) h1) (by decide) (by decide) h1 h3) fun σ H Q ⟨ρ, G, r, q⟩ => by
  show tE X.K b W f σ H _
  refine stepD r q fun v H1 ρ1 G1 x r1 s1 d1 q1 => ?_
  cases eT : T x with
  | none => rw [eT] at q1; exact q1.elim
  | some y =>
    rw [eT] at q1
    obtain ⟨nd, ek⟩ := hT x y eT
    exact .inl ⟨v, c, _, cv, y, rfl, kc, Vw.ty r1.le nd (.inl d1), ek, q1 _ _ _ r1 (Same.refl _) (.bl y)⟩

/-! ### str -/
def strD : D → Option Sv
  | .str z => some (.d (.str z))
  | .int i => if i.natAbs.log2 < 1920 then some (.d (.str (toString i))) else none
  | .tuple l => if ((PyData.tuple l).showable && !(PyData.tuple l).hasDict && decide ((PyData.tuple l).depth ≤ 180) && decide ((PyData.tuple l).shown.length ≤ sizeLine)) = true then some (.d (.str (PyData.tuple l).shown)) else none
  | .list l => if ((PyData.list l).showable && !(PyData.list l).hasDict && decide ((PyData.list l).depth ≤ 180) && decide ((PyData.list l).shown.length ≤ sizeLine)) = true then some (.d (.str (PyData.list l).shown)) else none
  | _ => none
def rStrD (K : PySem.W.Frag) : List V → Hp → VK → Prop := fun xs H Q => ∃ (a : Addr) (d : D), xs = [.ref a] ∧ Dp K H (.ref a) d ∧ d.showable = true ∧ d.hasDict = false ∧ d.depth ≤ 180 ∧ d.shown.length ≤ sizeLine ∧ Q (.str d.shown) H
theorem call_strD (gd : X.A.guards = some []) (hu : X.A.units + 200 < cLine) : CallR X (.type "str") (rStrD X.K) := by
  intro pins s σ H xs us Q I r h
  obtain ⟨a, d, rfl, hd, h1, h2, h3, h4, q⟩ := h
  obtain ⟨u, rfl, r1⟩ := vals1 r
  cases (show u = Value.ref a from r1)
  obtain ⟨as, rd⟩ := Dp.reads I d (.ref a) (.ref a) hd rfl
  refine str_of_reads rd h1 (fun z => by rw [h2] at z; cases z) gd (by omega) (fun _ _ z => z) (fun h' u tk hk => ?_) h4
  exact ⟨.str d.shown, H, I.kept (t' := tk) hk, ⟨u, rfl⟩, q⟩
abbrev rStrA (K : PySem.W.Frag) : List V → Hp → VK → Prop := fun xs H Q => ((∃ i, xs = [.int i] ∧ i.natAbs.log2 < 1920 ∧ Q (.str (toString i)) H) ∨ ∃ a, xs = [.str a] ∧ Q (.str a) H) ∨ rStrD K xs H Q
theorem call_strA (gd : X.A.guards = some []) (hu : X.A.units + 200 < cLine) : CallR X (.type "str") (rStrA X.K) := (call_str_int.or SkE.call_str_str).or (call_strD gd hu)
theorem cs_str : CallS K (rStrA K) strD := by
  intro b G H σ ρ x dx Q r hx h
  cases dx with
  | str z =>
    have hx := hx.da fun l z => nomatch z
    cases hx
    exact .inl (.inr ⟨z, rfl, post_str r h⟩)
  | int i =>
    have hx := hx.da fun l z => nomatch z
    cases hx
    obtain ⟨c, h⟩ := post_if h
    exact .inl (.inl ⟨i, rfl, c, post_str r h⟩)
  | tuple l =>
    obtain ⟨c, h⟩ := post_if h
    simp only [Bool.and_eq_true, decide_eq_true_eq, Bool.not_eq_true'] at c
    have dp := hx.dp r.le
    cases hx.da fun l z => nomatch z
    exact .inr ⟨_, _, rfl, dp, c.1.1.1, c.1.1.2, c.1.2, c.2, post_str r h⟩
  | list l =>
    obtain ⟨c, h⟩ := post_if h
    simp only [Bool.and_eq_true, decide_eq_true_eq, Bool.not_eq_true'] at c
    have dp := hx.dp r.le
    obtain ⟨a, vs, rfl, g1, g2⟩ := hx.lst r.le
    exact .inr ⟨_, _, rfl, dp, c.1.1.1, c.1.1.2, c.1.2, c.2, post_str r h⟩
  | _ => exact h.elim
theorem e_strOf {e : Expr} {o : Opd} {p pos : Pos} (gd : X.A.guards = some []) (hu : X.A.units + 200 < cLine) (hg : Gl X "str") (hm : X.mg "str" = none) (he : PO2 X b W e o)
    (h1 : starEach [e] X.env = (false, eval e X.env) :: starEach [] X.env := by rfl) (h2 : (backTo pos (starEach [] X.env)).any (·.1) = false := by rfl) : PE X (.Call (.Name "str" p) [e] [] pos) (tE X.K b W (fUn strD o)) :=
  e_callTy (call_strA gd hu) cs_str hg hm (by decide +kernel) he (by decide) (by decide) h1 h2

/-! ### the script: read alone -/
def fLenF (i : Nat) : Ev → RE := fun ρ => match ρ[i]? with
  | some (some (.fz l)) => .ok (.d (.int l.length)) ρ
  | _ => .stuck
theorem e_lenF {i : Nat} {e : Expr} {p pos : Pos} (hg : Gl X "len") (hm : X.mg "len" = none) (he : PE X e (tVar i)) (h1 : starEach [e] X.env = (false, eval e X.env) :: starEach [] X.env := by rfl) (h2 : (backTo pos (starEach [] X.env)).any (·.1) = false := by rfl) :
    PE X (.Call (.Name "len" p) [e] [] pos) (tE X.K b W (fLenF i)) := PE.imp (pe_callB call_len hg hm boot_len (pa_cons he pa_nil h1) (by decide) (by decide) h1 h2) fun σ H Q ⟨ρ, G, r, q⟩ => by
  unfold fLenF at q
  split at q
  · rename_i l e1
    obtain ⟨v, h4, a, xs, rfl, sq, d⟩ := r.slot _ _ e1
    refine ⟨_, h4, _, _, rfl, .inl ⟨xs, r.le.seq sq, rfl⟩, ?_⟩
    rw [d.length]
    exact q _ _ _ r (Same.refl _) (.int _)
  · exact q.elim
def fIxF (i : Nat) (f : Ev → RE) : Ev → RE := fun ρ => match ρ[i]? with
  | some (some (.fz l)) => (f ρ).bindD fun x ρ1 => match x with
    | .int j => match atI l j with
      | some y => .ok (.d y) ρ1
      | none => .stuck
    | _ => .stuck
  | _ => .stuck
theorem e_ixF {i : Nat} {e k : Expr} {f : Ev → RE} {pos : Pos} (he : PE X e (tVar i)) (hk : PE X k (tE X.K b W f)) (hs : PlainIx k := by exact fun _ _ => rfl) : PE X (.Subscript e k pos) (tE X.K b W (fIxF i f)) := PE.imp (pe_ix ix_list he hk hs) fun σ H Q ⟨ρ, G, r, q⟩ => by
  unfold fIxF at q
  split at q
  · rename_i l e1
    obtain ⟨v, h4, a, xs, rfl, sq, d⟩ := r.slot _ _ e1
    refine ⟨_, h4, ?_⟩
    show tE X.K b W f σ H _
    refine stepD r q fun v H1 ρ1 G1 x r1 s1 d1 q1 => ?_
    cases x with
    | int j =>
      cases d1
      dsimp only at q1
      cases ea : atI l j with
      | none => rw [ea] at q1; exact q1.elim
      | some y =>
        rw [ea] at q1
        obtain ⟨u, g1, g2⟩ := atI_da (DaAll.mono s1 d) ea
        exact ⟨a, xs, j, u, rfl, rfl, r1.le.seq (s1.seq sq), g1, q1 _ _ _ r1 (Same.refl _) g2⟩
    | _ => exact q1.elim
  · exact q.elim
end
end Dl
set_option maxHeartbeats 4000000
/-! Dl9: any sequence to go through; what the top of the text says of an error's class. -/
namespace Dl
open PySem PySem.Spec L2
def fuel : Nat := 100000
def kSeq : D → Option (List D)
  | .list xs => some xs
  | .tuple xs => some xs
  | .str z => some (z.cps.toList.map fun c => .str ⟨#[c]⟩)
  | _ => none
section
variable {X : Cx} {b : Bx} {W : WX} {K : PySem.W.Frag} {G G1 H : Hp} {σ : St} {ρ : Ev} {Q : VK}
theorem PI.or {tg l : Expr} {t t' : TI} (h : PI X tg l t) (h' : PI X tg l t') : PI X tg l (fun σ H R => t σ H R ∨ t' σ H R) :=
  ⟨fun pins s σ H R I q => by
    rcases q with q | q
    · exact h.run pins s σ H R I q
    · exact h'.run pins s σ H R I q⟩
theorem i_seq {tg l : Expr} {f : Ev → RE} (h : PE X l (tE X.K b W f)) : PI X tg l (tI X.K b W fun ρ => RI.of (f ρ) kSeq) := PI.imp (PI.or (i_list h) (PI.or (i_tup h) (i_str h))) fun σ H R ⟨ρ, G, r, q⟩ => by
  have q : PostI X.K b W G σ R (RI.of (f ρ) kSeq) := q
  have go : ∀ k : D → Option (List D), RI.of (f ρ) kSeq = RI.of (f ρ) k → tI X.K b W (fun ρ => RI.of (f ρ) k) σ H R := fun k e => ⟨ρ, G, r, by show PostI X.K b W G σ R (RI.of (f ρ) k); rw [← e]; exact q⟩
  cases e : f ρ with
  | raise c ρ1 => exact .inl (go kList (by rw [e]; rfl))
  | stuck => exact .inl (go kList (by rw [e]; rfl))
  | ok sv ρ1 =>
    cases e2 : sv.dat? with
    | none => exact .inl (go kList (by rw [e]; simp only [RI.of, e2]))
    | some x =>
      cases x with
      | tuple xs => exact .inr (.inl (go kTuple (by rw [e]; simp only [RI.of, e2, kSeq, kTuple])))
      | str z => exact .inr (.inr (go kStr (by rw [e]; simp only [RI.of, e2, kSeq, kStr])))
      | _ => exact .inl (go kList (by rw [e]; simp only [RI.of, e2, kSeq, kList]))
theorem isT_no {cv : Value} : IsT K cv (fun _ => none) := fun _ _ h => nomatch h
end
/-- a class of errors of the text's, whose __init__ is ValueError's own -/
structure ExcF (K : PySem.W.Frag) (mg : Str → Option Value) (x : Str) (C : Addr) : Prop where
  q : PySem.W.excIn K C [.type "ValueError", .type "Exception", .type "BaseException", .type "object"] "ValueError.__new__" = true
  gC : mg x = some (.ref C)
  kC : PySem.W.keepIn K (.ref C) = true
  s : PySem.W.subIn K (.ref C) (.type "BaseException") = some true
  t : PySem.W.typeIn K (.ref C) = some (.type "type")
theorem ExcF.ok {K : PySem.W.Frag} {mg : Str → Option Value} {x : Str} {C : Addr} (F : ExcF K mg x C) {X : Cx} (hK : X.K = K) (hm : X.mg = mg) (hg : Gl X x := by rfl) : RaiseOk X x C := by
  subst hK hm
  exact ⟨F.q, F.gC, F.kC, raises_own F.s F.t, hg⟩
/-- one class of the text's against another -/
theorem kit_ref {K : PySem.W.Frag} {C D : Addr} {y : Bool} (self : PySem.W.subIn K (.ref C) (.ref C) = some true) (hd : PySem.W.hasDictIn K D = true) (ht : PySem.W.typeIn K (.ref D) = some (.type "type")) (hs : PySem.W.subIn K (.ref C) (.ref D) = some y) : PySem.W.kitOne K (.ref C) (.ref D) = some y := by
  unfold PySem.W.kitOne
  by_cases e : C = D
  · subst e
    rw [self] at hs
    cases hs
    rw [if_pos (by simp)]
  · rw [if_neg (by simpa using e)]
    unfold PySem.W.kitCls
    obtain ⟨cd, hc, _⟩ := PySem.W.any_some hd
    dsimp only
    rw [hc, ht]
    rw [if_pos (by simp)]
    exact hs
theorem kit_val {K : PySem.W.Frag} {C : Addr} {T : String} {y : Bool} (hm : PySem.W.kitMeta T = true) (hs : PySem.W.subIn K (.ref C) (.type T) = some y) : PySem.W.kitOne K (.ref C) (.type T) = some y := by
  unfold PySem.W.kitOne
  rw [if_neg (by intro z; cases z)]
  unfold PySem.W.kitCls
  dsimp only
  rw [if_pos hm]
  exact hs
end Dl
set_option maxHeartbeats 4000000
/-! DlW: a dict of the text's top, with text keys and ints; minus. -/
namespace Dl
open PySem PySem.Spec L2
inductive TabOk : List DictEntry → List (Str × Int) → Prop where
  | nil : TabOk [] []
  | cons {e : DictEntry} {r : List DictEntry} {x : Str} {t t' : Tok} {i : Int} {tb : List (Str × Int)} : e.key = .str x t → e.val = .int i t' → TabOk r tb → TabOk (e :: r) ((x, i) :: tb)
structure KTab (K : PySem.W.Frag) (w : World) (d : Addr) (tb : List (Str × Int)) : Prop where
  ex : ∃ es n, KDict K w d es n ∧ TabOk es.toList tb
theorem tab_find {l : List DictEntry} {tb : List (Str × Int)} (h : TabOk l tb) (z : Str) : (∀ i, tb.lookup z = some i → ∃ e t, l.find? (·.key.isStr z) = some e ∧ e.val = .int i t) ∧ (tb.lookup z = none → l.find? (·.key.isStr z) = none) ∧ l.any (·.refKey) = false := by
  induction h with
  | nil => exact ⟨fun i e => (nomatch e), fun _ => rfl, rfl⟩
  | @cons e r x t t' i tb hk hv _ ih =>
    obtain ⟨h1, h2, h3⟩ := ih
    have ek : e.key.isStr z = (x == z) := by rw [hk]; rfl
    have er : e.refKey = false := by unfold DictEntry.refKey; rw [hk]
    refine ⟨fun j q => ?_, fun q => ?_, by rw [List.any_cons, er, h3]; rfl⟩
    · rw [List.lookup_cons] at q
      by_cases c : z = x
      · subst c
        rw [beq_self_eq_true] at q
        cases q
        exact ⟨e, t', by rw [List.find?_cons, ek, beq_self_eq_true], hv⟩
      · rw [beq_eq_false_iff_ne.mpr c] at q
        obtain ⟨e2, t2, g1, g2⟩ := h1 j q
        exact ⟨e2, t2, by rw [List.find?_cons, ek, beq_eq_false_iff_ne.mpr (Ne.symm c)]; exact g1, g2⟩
    · rw [List.lookup_cons] at q
      by_cases c : z = x
      · subst c
        rw [beq_self_eq_true] at q
        cases q
      · rw [beq_eq_false_iff_ne.mpr c] at q
        rw [List.find?_cons, ek, beq_eq_false_iff_ne.mpr (Ne.symm c)]
        exact h2 q
theorem KTab.ns {K : PySem.W.Frag} {w : World} {d : Addr} {tb : List (Str × Int)} (T : KTab K w d tb) (z : Str) : (∀ i, tb.lookup z = some i → ∃ t, PySem.W.nsIn K d z = some (some (.int i t))) ∧ (tb.lookup z = none → PySem.W.nsIn K d z = some none) := by
  obtain ⟨es, n, D, T⟩ := T.ex
  obtain ⟨h1, h2, h3⟩ := tab_find T z
  unfold PySem.W.nsIn
  rw [D.at_]
  dsimp only
  refine ⟨fun i q => ?_, fun q => ?_⟩
  · obtain ⟨e, t, g1, g2⟩ := h1 i q
    rw [g1]
    exact ⟨t, congrArg (fun v => some (some v)) g2⟩
  · rw [h2 q, h3]
    rfl
def kgetD (tb : List (Str × Int)) : D → Option Sv | .str z => (tb.lookup z).map fun i => .d (.int i) | _ => none
def kinD (tb : List (Str × Int)) : D → Option Sv | .str z => some (bol (tb.lookup z).isSome) | _ => none
def kninD (tb : List (Str × Int)) : D → Option Sv | .str z => some (bol (!(tb.lookup z).isSome)) | _ => none
def negD : D → Option Sv | .int i => some (.d (.int (-i))) | _ => none
section
variable {X : Cx} {b : Bx} {W : WX} {K : PySem.W.Frag} {G G1 H : Hp} {σ : St} {ρ : Ev} {Q : VK} {d : Addr} {tb : List (Str × Int)}
theorem e_kget {ne i : Expr} {pos : Pos} {o : Opd} (T : KTab X.K X.w d tb) (hn : PE X ne (tC (.ref d))) (hi : PO2 X b W i o) (hs : PlainIx i := by exact fun _ _ => rfl) : PE X (.Subscript ne i pos) (tE X.K b W (fUn (kgetD tb) o)) :=
  PE.imp (pe_ix ix_kdict hn hi hs) fun σ H Q ⟨ρ, G, r, q⟩ => by
    show tO X.K b W o σ H _
    refine stepO r q fun v H1 ρ1 G1 x r1 s1 d1 q1 => ?_
    obtain ⟨dx, e, p⟩ := of1_post q1
    have vw := d1.vw r1 e
    cases dx with
    | str z =>
      cases vw.da fun l q => nomatch q
      cases el : tb.lookup z with
      | none => rw [show kgetD tb (.str z) = (tb.lookup z).map fun i => .d (.int i) from rfl, el] at p; exact p.elim
      | some i =>
        rw [show kgetD tb (.str z) = (tb.lookup z).map fun i => .d (.int i) from rfl, el] at p
        obtain ⟨t, g⟩ := (T.ns z).1 i el
        obtain ⟨es, n, D, _⟩ := T.ex
        exact ⟨d, z, .int i, rfl, rfl, ⟨es, n, _, D.at_, D.lit, g, ⟨t, rfl⟩⟩, post_int r1 p⟩
    | _ => exact p.elim
theorem kin_post {o : Opd} (T : KTab X.K X.w d tb) {r : R2} (hr : ∀ z H Q, (∃ r', PySem.W.nsIn X.K d z = some r' ∧ Q (.bl r'.isSome) H) → r (.str z) (.ref d) H Q) : ∀ σ H Q, tE X.K b W (fUn (kinD tb) o) σ H Q → tOp r (tO X.K b W o) (tC (.ref d)) σ H Q := by
  rintro σ H Q ⟨ρ, G, rl, q⟩
  refine stepO rl q fun v H1 ρ1 G1 x r1 s1 d1 q1 => ?_
  obtain ⟨dx, e, p⟩ := of1_post q1
  have vw := d1.vw r1 e
  cases dx with
  | str z =>
    cases vw.da fun l q => nomatch q
    cases el : tb.lookup z with
    | none =>
      rw [show kinD tb (.str z) = some (bol (tb.lookup z).isSome) from rfl, el] at p
      exact hr z H1 Q ⟨_, (T.ns z).2 el, post_bl r1 p⟩
    | some i =>
      rw [show kinD tb (.str z) = some (bol (tb.lookup z).isSome) from rfl, el] at p
      obtain ⟨t, g⟩ := (T.ns z).1 i el
      exact hr z H1 Q ⟨_, g, post_bl r1 p⟩
  | _ => exact p.elim
theorem knin_post {o : Opd} (T : KTab X.K X.w d tb) {r : R2} (hr : ∀ z H Q, (∃ r', PySem.W.nsIn X.K d z = some r' ∧ Q (.bl (!r'.isSome)) H) → r (.str z) (.ref d) H Q) : ∀ σ H Q, tE X.K b W (fUn (kninD tb) o) σ H Q → tOp r (tO X.K b W o) (tC (.ref d)) σ H Q := by
  rintro σ H Q ⟨ρ, G, rl, q⟩
  refine stepO rl q fun v H1 ρ1 G1 x r1 s1 d1 q1 => ?_
  obtain ⟨dx, e, p⟩ := of1_post q1
  have vw := d1.vw r1 e
  cases dx with
  | str z =>
    cases vw.da fun l q => nomatch q
    cases el : tb.lookup z with
    | none =>
      rw [show kninD tb (.str z) = some (bol (!(tb.lookup z).isSome)) from rfl, el] at p
      exact hr z H1 Q ⟨_, (T.ns z).2 el, post_bl r1 p⟩
    | some i =>
      rw [show kninD tb (.str z) = some (bol (!(tb.lookup z).isSome)) from rfl, el] at p
      obtain ⟨t, g⟩ := (T.ns z).1 i el
      exact hr z H1 Q ⟨_, g, post_bl r1 p⟩
  | _ => exact p.elim
theorem e_kin {a ne : Expr} {pos : Pos} {o : Opd} (T : KTab X.K X.w d tb) (hn : PE X ne (tC (.ref d))) (ha : PO2 X b W a o) (hm : behindInMarks .In ne = false := by first | exact nomark _ | rfl) : PE X (.Compare a [.In] [ne] pos) (tE X.K b W (fUn (kinD tb) o)) := by
  obtain ⟨es, n, D, _⟩ := T.ex
  exact PE.imp (pe_cmpR (op_in_kd D) ha hn hm) (kin_post T fun z H Q ⟨r', g, q⟩ => ⟨z, r', rfl, rfl, g, q⟩)
theorem e_knin {a ne : Expr} {pos : Pos} {o : Opd} (T : KTab X.K X.w d tb) (hn : PE X ne (tC (.ref d))) (ha : PO2 X b W a o) (hm : behindInMarks .NotIn ne = false := by first | exact nomark _ | rfl) : PE X (.Compare a [.NotIn] [ne] pos) (tE X.K b W (fUn (kninD tb) o)) := by
  obtain ⟨es, n, D, _⟩ := T.ex
  exact PE.imp (pe_cmpR (op_notIn_kd D) ha hn hm) (knin_post T fun z H Q ⟨r', g, q⟩ => ⟨z, r', rfl, rfl, g, q⟩)
theorem t_kin {a ne : Expr} {pos : Pos} {o : Opd} (T : KTab X.K X.w d tb) (hn : PE X ne (tC (.ref d))) (ha : PO2 X b W a o) (hm : behindInMarks .In ne = false := by first | exact nomark _ | rfl) : PT X (.Compare a [.In] [ne] pos) (tT X.K b W (fTest (fUn (kinD tb) o))) := by
  obtain ⟨es, n, D, _⟩ := T.ex
  exact PT.imp (pt_cmpR (op_in_kd D) ha hn hm) fun σ H Q h => kin_post T (fun z H Q ⟨r', g, q⟩ => ⟨z, r', rfl, rfl, g, q⟩) σ H _ (test_post σ H Q h)
theorem t_knin {a ne : Expr} {pos : Pos} {o : Opd} (T : KTab X.K X.w d tb) (hn : PE X ne (tC (.ref d))) (ha : PO2 X b W a o) (hm : behindInMarks .NotIn ne = false := by first | exact nomark _ | rfl) : PT X (.Compare a [.NotIn] [ne] pos) (tT X.K b W (fTest (fUn (kninD tb) o))) := by
  obtain ⟨es, n, D, _⟩ := T.ex
  exact PT.imp (pt_cmpR (op_notIn_kd D) ha hn hm) fun σ H Q h => knin_post T (fun z H Q ⟨r', g, q⟩ => ⟨z, r', rfl, rfl, g, q⟩) σ H _ (test_post σ H Q h)
theorem e_neg {a : Expr} {pos : Pos} {o : Opd} (ha : PO2 X b W a o) : PE X (.UnaryOp .USub a pos) (tE X.K b W (fUn negD o)) := PE.imp (pe_un un_neg ha) fun σ H Q ⟨ρ, G, r, q⟩ => by
  refine stepO r q fun v H1 ρ1 G1 x r1 s1 d1 q1 => ?_
  obtain ⟨dx, e, p⟩ := of1_post q1
  have vw := d1.vw r1 e
  cases dx with
  | int i =>
    cases vw.da fun l q => nomatch q
    exact ⟨i, rfl, post_int r1 p⟩
  | _ => exact p.elim
end
end Dl
set_option maxHeartbeats 4000000
/-! DlZ: the law's own promise, from what its def does on data. -/
namespace Dl
open PySem PySem.Spec L2
/-- law(script): True, whatever the script's ints are -/
def spLaw (n : Nat) : PySem.W.Frag → Sp := fun K vs H Q _ => ∃ (a : Addr) (ns : List Int), vs = [.ref a] ∧ SqL K H a (ns.map V.int) ∧ ns.length ≤ n ∧ ∀ H', Q (.bl true) H'
section
variable {P : Program} {w : World} {K : PySem.W.Frag} {mg : Str → Option Value} {base : Heap} {k : Nat} {f : Addr} {fd : FuncData} {ps : List Str} {sp sp' : Sp}
theorem FnG.weak (F : FnG P w K mg base k f fd ps sp) (h : ∀ vs H Q E, sp' vs H Q E → sp vs H Q E) : FnG P w K mg base k f fd ps sp' :=
  ⟨fun vs H Q E q => F.len vs H Q E (h _ _ _ _ q), fun A outer s H args us vs Q E g r e b v q => F.run A outer s H args us vs Q E g r e b v (h _ _ _ _ q)⟩
theorem da_ints {G : Hp} : ∀ ns : List Int, DaAll K G (ns.map V.int) (ns.map PyData.int)
  | [] => .nil
  | n :: ns => .cons (.int n) (da_ints ns)
theorem law_sp {cl : Nat → Addr} {F : Fn} {n : Nat} (h : ∀ ns : List Int, ns.length ≤ n → ∃ out, F [.fz (ns.map PyData.int)] = .ok (.d (.bool true)) out) : ∀ vs H Q E, spLaw n K vs H Q E → spF K cl F 1 vs H Q E := by
  rintro vs H Q E ⟨a, ns, rfl, hS, hl, q⟩
  obtain ⟨out, e⟩ := h ns hl
  refine ⟨rfl, H, [.fz (ns.map PyData.int)], none, Same.refl _, ?_, ?_⟩
  · have z := ArgsOk.cons (K := K) (cl := cl) (G := H) (H := H) (v := .ref a) (sv := .fz (ns.map PyData.int)) ⟨a, _, rfl, hS, da_ints ns⟩ .nil
    exact z
  · rw [e]
    intro v G' H' x d
    cases d
    exact q H'
end
end Dl
set_option maxHeartbeats 4000000
/-! DlS: how a def's functional body is computed, step by step: every construct as an equation whose rest waits for the value. -/
namespace Dl
open PySem
/-- an equation that simp is not to take for one by definition: the kernel then follows it step by step -/
theorem nrfl {α : Sort _} {a : α} : a = a := of_eq_true (eq_self a)
section
variable {ρ ρ1 ρ2 : Ev} {x y : D} {l l' : List D} {sv : Sv} {c i j : Nat} {q : Bool} {o : Option Sv}
def orS : Option D → RE → RE | some _, r => r | none, _ => .stuck
def orL : Option (List D) → RE → RE | some _, r => r | none, _ => .stuck
def orLS : Option (List D) → RS → RS | some _, r => r | none, _ => .stuck
def re1 (g : D → Option Sv) : Option D → Ev → RE | some x, ρ => RE.of (g x) ρ | none, _ => .stuck
def re2 (g : D → D → Option Sv) : Option D → Option D → Ev → RE | some x, some y, ρ => RE.of (g x y) ρ | _, _, _ => .stuck
def varR : Option (Option Sv) → Nat → Ev → RE
  | some (some (.d x)), _, ρ => .ok (.d x) ρ
  | some (some (.ow l)), i, ρ => .ok (.d (.list l)) (ρ.set i (some (.d (.list l))))
  | some (some (.ex c)), _, ρ => .ok (.ex c) ρ
  | some (some (.fz l)), _, ρ => .ok (.fz l) ρ
  | _, _, _ => .stuck
def moveR : Option (Option Sv) → Nat → Ev → RE
  | some (some (.d x)), _, ρ => .ok (.d x) ρ
  | some (some (.ow l)), i, ρ => .ok (.ow l) (ρ.set i none)
  | some (some (.ex c)), _, ρ => .ok (.ex c) ρ
  | some (some (.fz l)), _, ρ => .ok (.fz l) ρ
  | _, _, _ => .stuck
def RS.seq (r : RS) (g : Ev → RS) : RS := match r with | .next ρ1 => g ρ1 | r => r
def RT.br (t : RT) (f g : Ev → RS) : RS := match t with | .ok true ρ1 => f ρ1 | .ok false ρ1 => g ρ1 | .raise k ρ1 => .raise k ρ1 | .stuck => .stuck
def RT.brE (t : RT) (f g : Ev → RE) : RE := match t with | .ok true ρ1 => f ρ1 | .ok false ρ1 => g ρ1 | .raise k ρ1 => .raise k ρ1 | .stuck => .stuck
def RT.not (t : RT) : RT := match t with | .ok c ρ1 => .ok (!c) ρ1 | r => r
def RT.andT (t : RT) (g : Ev → RT) : RT := match t with | .ok true ρ1 => g ρ1 | r => r
def RT.orT (t : RT) (g : Ev → RT) : RT := match t with | .ok false ρ1 => g ρ1 | r => r
def RE.argR (r : RE) (k : AV → Ev → RE) : RE := match r with
  | .ok (.d x) ρ1 => k (.dat x) ρ1
  | .ok (.ow l) ρ1 => k (.dat (.list l)) ρ1
  | .ok (.ex c) ρ1 => k (.ex c) ρ1
  | .ok (.fz l) ρ1 => k (.fz l) ρ1
  | .ok (.rf _) _ => .stuck
  | .ok (.px _) _ => .stuck
  | .ok (.on _) _ => .stuck
  | .ok (.al _ _) _ => .stuck
  | .raise c ρ1 => .raise c ρ1
  | .stuck => .stuck
def callO : Out → List Nat → Ev → RE
  | .ok sv out, is, ρ => .ok sv.pl (putR ρ is out)
  | .raise c out, is, ρ => .raise c (putR ρ is out)
  | .stuck, _, _ => .stuck
def callS (F : Fn) : Option (List Sv) → List Nat → Ev → RE
  | some svs, is, ρ => if is.length ≤ 1 then callO (F svs) is ρ else .stuck
  | none, _, _ => .stuck
def callK (F : Fn) (xs : List AV) (ρ : Ev) : RE := callS F (seen ρ xs) (refs xs) ρ
def seenR : Option (List D) → Option (List Sv) → Option (List Sv) | some l, s => s.map (.rf l :: ·) | none, _ => none
def RI.forK (r : RI) (p : Pat) (body : Ev → RS) : RS := match r with | .ok xs ρ1 => forL p body xs ρ1 | .raise c ρ1 => .raise c ρ1 | .stuck => .stuck
def lcO (vs : List Nat) (ρ1 : Ev) : Option (List D × Ev) → RE | some (ys, ρ2) => if ys.length ≤ sizeLine then .ok (.ow ys) (backE ρ1 ρ2 vs) else .stuck | none => .stuck
def RI.lcK (r : RI) (vs : List Nat) (p : Pat) (fc : Ev → RT) (fe : Ev → RE) : RE := match r with
  | .ok xs ρ1 => if okW ρ1 vs = true then lcO vs ρ1 (lcL vs p fc fe xs (wipeE ρ1 vs)) else .stuck
  | .raise c ρ1 => .raise c ρ1
  | .stuck => .stuck
def riO : Option (List D) → Ev → RI | some xs, ρ => .ok xs ρ | none, _ => .stuck
def appO : Option (List D) → Nat → D → Ev → RS | some l, i, x, ρ => if l.length < sizeLine then .next (putL ρ i (l ++ [x])) else .stuck | none, _, _, _ => .stuck
def setO : D → Option (List D) → Nat → D → Ev → RS
  | .int n, some l, i, x, ρ => match L2.ixN l.length n with | some j => .next (putL ρ i (l.set j x)) | none => .stuck
  | _, _, _, _, _ => .stuck
def setJ (l : List D) (x : D) (i : Nat) (ρ : Ev) : Option Nat → RS | some j => .next (putL ρ i (l.set j x)) | none => .stuck
def lcC (y : D) : Option (List D × Ev) → Option (List D × Ev) | some (ys, ρ4) => some (y :: ys, ρ4) | none => none
def lcE (vs : List Nat) (p : Pat) (fc : Ev → RT) (fe : Ev → RE) (xs : List D) : RE → Option (List D × Ev)
  | .ok (.d y) ρ3 => lcC y (lcL vs p fc fe xs (wipeE ρ3 vs))
  | .ok (.ow l) ρ3 => lcC (.list l) (lcL vs p fc fe xs (wipeE ρ3 vs))
  | _ => none
def lcT (vs : List Nat) (p : Pat) (fc : Ev → RT) (fe : Ev → RE) (xs : List D) : RT → Option (List D × Ev)
  | .ok true ρ2 => lcE vs p fc fe xs (fe ρ2)
  | .ok false ρ2 => lcL vs p fc fe xs (wipeE ρ2 vs)
  | _ => none
def lcB (vs : List Nat) (p : Pat) (fc : Ev → RT) (fe : Ev → RE) (xs : List D) : Option Ev → Option (List D × Ev)
  | some ρ1 => lcT vs p fc fe xs (fc ρ1)
  | none => none
def popO : Option (List D) → Nat → Ev → RE
  | some l, i, ρ => match l[l.length - 1]? with | some x => .ok (.d x) (putL ρ i l.dropLast) | none => .stuck
  | none, _, _ => .stuck
def nextO : Option Ev → RS | some ρ2 => .next ρ2 | none => .stuck
def tryO (i : Nat) (fs : Ev → RS) (c : Nat) (ρ1 : Ev) : Option Bool → RS
  | some true => if okW ρ1 [i] = true then match (fs (ρ1.set i (some (.ex c)))) with
      | .next ρ2 => if okW ρ2 [i] = true then .next (wipeE ρ2 [i]) else .stuck
      | .ret v ρ2 => .ret v ρ2
      | _ => .stuck
      else .stuck
  | some false => .raise c ρ1
  | none => .stuck
def RS.tryK (r : RS) (m : Nat → Option Bool) (i : Nat) (fs : Ev → RS) : RS := match r with | .raise c ρ1 => tryO i fs c ρ1 (m c) | r => r
def isNO (T : D → Option Bool) (E : Nat → Option Bool) : Option (Option Sv) → Ev → RE
  | some (some (.ex c)), ρ => RE.of ((E c).map bol) ρ
  | some (some (.d x)), ρ => RE.of ((T x).map bol) ρ
  | some (some (.ow l)), ρ => RE.of ((T (.list l)).map bol) ρ
  | some (some (.rf l)), ρ => RE.of ((T (.list l)).map bol) ρ
  | _, _ => .stuck
def lenFO : Option (Option Sv) → Ev → RE | some (some (.fz l)), ρ => .ok (.d (.int l.length)) ρ | _, _ => .stuck
def ixFR : Option D → Ev → RE | some y, ρ => .ok (.d y) ρ | none, _ => .stuck
def ixFK (l : List D) : D → Ev → RE | .int j, ρ => ixFR (L2.atI l j) ρ | _, _ => .stuck
def ixFO (f : Ev → RE) : Option (Option Sv) → Ev → RE | some (some (.fz l)), ρ => (f ρ).bindD (ixFK l) | _, _ => .stuck
def m1K (g : D → D → Option Sv) (c : Opd) : D → Ev → RE | .str z, ρ1 => c.run ρ1 fun y ρ2 => RE.of1 (g (.str z)) y ρ2 | _, _ => .stuck
def prK (k : Option Int → Ev → RE) : D → Ev → RE | .int i, ρ1 => k (some i) ρ1 | _, _ => .stuck
def slO (lo hi : Option Int) : Option D → Ev → RE | some x, ρ => RE.of (slD x lo hi) ρ | none, _ => .stuck
def chO (g g' : D → D → Option Sv) (y : Ov) (e : Opd) : Option D → Option D → Ev → RE
  | some dx, some dy, ρ2 => RE.ofB (g dx dy) fun k => if k = true then e.run ρ2 fun z ρ3 => RE.of2 g' y z ρ3 else .ok (bol false) ρ2
  | _, _, _ => .stuck
def bindB0 (k : Bool → Ev → RE) : D → Ev → RE | .bool c, ρ1 => k c ρ1 | _, _ => .stuck
def outO (r : RS) : Out := match r with
  | .ret sv ρ => .ok sv (rfOf ρ)
  | .next ρ => .ok (.d .none) (rfOf ρ)
  | .raise c ρ => .raise c (rfOf ρ)
  | _ => .stuck
namespace S
theorem bindD_d {k} : (RE.ok (.d x) ρ).bindD k = k x ρ := nrfl
theorem bindD_ow {k} : (RE.ok (.ow l) ρ).bindD k = k (.list l) ρ := nrfl
theorem bindD_r {k} : (RE.raise c ρ).bindD k = .raise c ρ := nrfl
theorem toS_ok {k} : (RE.ok sv ρ).toS k = k sv ρ := nrfl
theorem toS_r {k} : (RE.raise c ρ).toS k = .raise c ρ := nrfl
theorem toSD_d {k} : (RE.ok (.d x) ρ).toSD k = k x ρ := nrfl
theorem toSD_ow {k} : (RE.ok (.ow l) ρ).toSD k = k (.list l) ρ := nrfl
theorem toSD_r {k} : (RE.raise c ρ).toSD k = .raise c ρ := nrfl
theorem bol_eq : bol q = .d (.bool q) := nrfl
theorem cast0 : ((0 : Nat) : Int) = 0 := nrfl
theorem cast1 : ((1 : Nat) : Int) = 1 := nrfl
theorem of_some : RE.of (some sv) ρ = .ok sv ρ := nrfl
theorem tst_b : (RE.ok (.d (.bool q)) ρ).tst = .ok q ρ := nrfl
theorem tst_r : (RE.raise c ρ).tst = .raise c ρ := nrfl
theorem run_e {f k} : Opd.run (.e f) ρ k = (f ρ).bindD fun x ρ1 => k (.val x) ρ1 := nrfl
theorem run_n {k} : Opd.run (.n i) ρ k = orS (viewAt ρ i) (k (.nm i) ρ) := by
  show (match viewAt ρ i with | some _ => k (.nm i) ρ | none => .stuck) = _
  cases viewAt ρ i <;> rfl
theorem orS_some {r} : orS (some x) r = r := nrfl
theorem orL_some {r} : orL (some l) r = r := nrfl
theorem orLS_some {r} : orLS (some l) r = r := nrfl
theorem get_val : Ov.get ρ (.val x) = some x := nrfl
theorem get_nm : Ov.get ρ (.nm i) = viewAt ρ i := nrfl
theorem of2_eq {g a c} : RE.of2 g a c ρ = re2 g (a.get ρ) (c.get ρ) ρ := by
  unfold RE.of2 re2
  cases a.get ρ <;> cases c.get ρ <;> rfl
theorem re2_s {g} : re2 g (some x) (some y) ρ = RE.of (g x y) ρ := nrfl
theorem of1_eq {g a} : RE.of1 g a ρ = re1 g (a.get ρ) ρ := by
  unfold RE.of1 re1
  cases a.get ρ <;> rfl
theorem re1_s {g} : re1 g (some x) ρ = RE.of (g x) ρ := nrfl
theorem view_d : viewAt (some (.d x) :: ρ) 0 = some x := nrfl
theorem view_ow : viewAt (some (.ow l) :: ρ) 0 = some (.list l) := nrfl
theorem view_rf : viewAt (some (.rf l) :: ρ) 0 = some (.list l) := nrfl
theorem view_s : viewAt (o :: ρ) (i + 1) = viewAt ρ i := nrfl
theorem rf_d : rfAt (some (.d x) :: ρ) 0 = false := nrfl
theorem rf_ow : rfAt (some (.ow l) :: ρ) 0 = false := nrfl
theorem rf_ex : rfAt (some (.ex c) :: ρ) 0 = false := nrfl
theorem rf_fz : rfAt (some (.fz l) :: ρ) 0 = false := nrfl
theorem rf_n : rfAt (none :: ρ) 0 = false := nrfl
theorem rf_s : rfAt (o :: ρ) (i + 1) = rfAt ρ i := nrfl
theorem own_ow : ownAt (some (.ow l) :: ρ) 0 = some l := nrfl
theorem own_rf : ownAt (some (.rf l) :: ρ) 0 = some l := nrfl
theorem own_s : ownAt (o :: ρ) (i + 1) = ownAt ρ i := nrfl
theorem put_ow : putL (some (.ow l) :: ρ) 0 l' = some (.ow l') :: ρ := nrfl
theorem put_rf : putL (some (.rf l) :: ρ) 0 l' = some (.rf l') :: ρ := nrfl
theorem put_s : putL (o :: ρ) (i + 1) l' = o :: putL ρ i l' := by
  unfold putL
  rw [List.getElem?_cons_succ]
  split <;> first | rfl | (split <;> simp_all)
theorem fC_eq : fC x ρ = .ok (.d x) ρ := nrfl
theorem fVar_eq : fVar i ρ = varR ρ[i]? i ρ := by
  unfold fVar varR
  split <;> simp_all
theorem fMove_eq : fMove i ρ = moveR ρ[i]? i ρ := by
  unfold fMove moveR
  split <;> simp_all
theorem var_d : varR (some (some (.d x))) i ρ = .ok (.d x) ρ := nrfl
theorem var_ow : varR (some (some (.ow l))) i ρ = .ok (.d (.list l)) (ρ.set i (some (.d (.list l)))) := nrfl
theorem var_ex : varR (some (some (.ex c))) i ρ = .ok (.ex c) ρ := nrfl
theorem var_fz : varR (some (some (.fz l))) i ρ = .ok (.fz l) ρ := nrfl
theorem move_d : moveR (some (some (.d x))) i ρ = .ok (.d x) ρ := nrfl
theorem move_ow : moveR (some (some (.ow l))) i ρ = .ok (.ow l) (ρ.set i none) := nrfl
theorem move_ex : moveR (some (some (.ex c))) i ρ = .ok (.ex c) ρ := nrfl
theorem fSet_eq {f} : fSet i f ρ = (f ρ).toS fun sv ρ1 => if rfAt ρ1 i = false then .next (ρ1.set i (some sv)) else .stuck := nrfl
theorem fSeq_eq {f g} : fSeq f g ρ = (f ρ).seq g := by unfold fSeq RS.seq; rfl
theorem seq_next {g} : (RS.next ρ).seq g = g ρ := nrfl
theorem seq_ret {g} : (RS.ret sv ρ).seq g = .ret sv ρ := nrfl
theorem seq_brk {g} : (RS.brk ρ).seq g = .brk ρ := nrfl
theorem seq_cnt {g} : (RS.cnt ρ).seq g = .cnt ρ := nrfl
theorem seq_r {g} : (RS.raise c ρ).seq g = .raise c ρ := nrfl
theorem fSkip_eq : fSkip ρ = .next ρ := nrfl
theorem fIf_eq {t f g} : fIf t f g ρ = (t ρ).br f g := by unfold fIf RT.br; rfl
theorem br_t {f g} : (RT.ok true ρ).br f g = f ρ := nrfl
theorem br_f {f g} : (RT.ok false ρ).br f g = g ρ := nrfl
theorem br_r {f g} : (RT.raise c ρ).br f g = .raise c ρ := nrfl
theorem fIfE_eq {t f g} : fIfE t f g ρ = (t ρ).brE f g := by unfold fIfE RT.brE; rfl
theorem brE_t {f g} : (RT.ok true ρ).brE f g = f ρ := nrfl
theorem brE_f {f g} : (RT.ok false ρ).brE f g = g ρ := nrfl
theorem fRet_eq {f} : fRet f ρ = (f ρ).toS fun sv ρ1 => .ret sv ρ1 := nrfl
theorem fDrop_eq {f} : fDrop f ρ = (f ρ).toS fun _ ρ1 => .next ρ1 := nrfl
theorem fTest_eq {f} : fTest f ρ = (f ρ).tst := nrfl
theorem fYes_eq : fYes ρ = .ok true ρ := nrfl
theorem fNotT_eq {f} : fNotT f ρ = (f ρ).not := by unfold fNotT RT.not; rfl
theorem not_ok : (RT.ok q ρ).not = .ok (!q) ρ := nrfl
theorem not_r : (RT.raise c ρ).not = .raise c ρ := nrfl
theorem fAndT_eq {f g} : fAndT f g ρ = (f ρ).andT g := by unfold fAndT RT.andT; rfl
theorem and_t {g} : (RT.ok true ρ).andT g = g ρ := nrfl
theorem and_f {g} : (RT.ok false ρ).andT g = .ok false ρ := nrfl
theorem and_r {g} : (RT.raise c ρ).andT g = .raise c ρ := nrfl
theorem fOrT_eq {f g} : fOrT f g ρ = (f ρ).orT g := by unfold fOrT RT.orT; rfl
theorem or_t {g} : (RT.ok true ρ).orT g = .ok true ρ := nrfl
theorem or_f {g} : (RT.ok false ρ).orT g = g ρ := nrfl
theorem or_r {g} : (RT.raise c ρ).orT g = .raise c ρ := nrfl
theorem bindB_b {k} : (RE.ok (.d (.bool q)) ρ).bindB k = k q ρ := nrfl
theorem bindB_r {k} : (RE.raise c ρ).bindB k = .raise c ρ := nrfl
theorem fAndV_eq {f g} : fAndV f g ρ = (f ρ).bindB fun c ρ1 => if c = true then g ρ1 else .ok (.d (.bool false)) ρ1 := nrfl
theorem fOrV_eq {f g} : fOrV f g ρ = (f ρ).bindB fun c ρ1 => if c = true then .ok (.d (.bool true)) ρ1 else g ρ1 := nrfl
theorem fNotV_eq {f} : fNotV f ρ = (f ρ).bindB fun c ρ1 => .ok (.d (.bool (!c))) ρ1 := nrfl
theorem runA_nil {k} : runA [] ρ k = k [] ρ := nrfl
theorem runA_cons {f fs k} : runA (f :: fs) ρ k = (f ρ).bindD fun x ρ1 => runA fs ρ1 fun xs ρ2 => k (x :: xs) ρ2 := nrfl
theorem fTup_eq {fs} : fTup fs ρ = runA fs ρ fun xs ρ1 => if xs.length ≤ sizeLine then .ok (.d (.tuple xs)) ρ1 else .stuck := nrfl
theorem fLst_eq {fs} : fLst fs ρ = runA fs ρ fun xs ρ1 => if xs.length ≤ sizeLine then .ok (.ow xs) ρ1 else .stuck := nrfl
theorem fUn_eq {g o} : fUn g o ρ = o.run ρ fun x ρ1 => RE.of1 g x ρ1 := nrfl
theorem fOp_eq {g a e} : fOp g a e ρ = a.run ρ fun x ρ1 => e.run ρ1 fun y ρ2 => RE.of2 g x y ρ2 := nrfl
theorem fChain_eq {g g' a e z} : fChain g g' a e z ρ = a.run ρ fun x ρ1 => e.run ρ1 fun y ρ2 => chO g g' y z (x.get ρ2) (y.get ρ2) ρ2 := by
  unfold fChain
  congr 1
  funext x ρ1
  congr 1
  funext y ρ2
  unfold chO
  split <;> simp_all
theorem ch_s {g g' e z} : chO g g' z e (some x) (some y) ρ = RE.ofB (g x y) fun k => if k = true then e.run ρ fun w ρ3 => RE.of2 g' z w ρ3 else .ok (.d (.bool false)) ρ := nrfl
theorem ofB_s {k} : RE.ofB (some (.d (.bool q))) k = k q := nrfl
theorem pr_no {k} : Prt.run .no ρ k = k none ρ := nrfl
theorem pr_e {f k} : Prt.run (.e f) ρ k = (f ρ).bindD (prK k) := by
  show (f ρ).bindD _ = _
  congr 1
  funext x ρ1
  cases x <;> rfl
theorem prK_i {k} {n : Int} : prK k (.int n) ρ = k (some n) ρ := nrfl
theorem fSl_eq {o' lo hi} : fSl o' lo hi ρ = o'.run ρ fun x ρ1 => lo.run ρ1 fun l ρ2 => hi.run ρ2 fun h ρ3 => slO l h (x.get ρ3) ρ3 := by
  unfold fSl
  congr 1
  funext x ρ1
  congr 1
  funext l ρ2
  congr 1
  funext h ρ3
  unfold slO
  cases x.get ρ3 <;> rfl
theorem sl_s {lo hi} : slO lo hi (some x) ρ = RE.of (slD x lo hi) ρ := nrfl
theorem fM1_eq {g a e} : fM1 g a e ρ = (a ρ).bindD (m1K g e) := by
  unfold fM1
  congr 1
  funext x ρ1
  cases x <;> rfl
theorem m1_s {g e} {z : Str} : m1K g e (.str z) ρ = e.run ρ fun y ρ2 => RE.of1 (g (.str z)) y ρ2 := nrfl
theorem fCall_eq {F as} : fCall F as ρ = runArgs as ρ (callK F) := by
  unfold fCall
  congr 1
  funext xs ρ1
  unfold callK callS
  cases seen ρ1 xs with
  | none => rfl
  | some svs =>
    dsimp only
    by_cases h : (refs xs).length ≤ 1
    · rw [if_pos h, if_pos h]
      unfold callO
      cases F svs <;> rfl
    · rw [if_neg h, if_neg h]
theorem args_nil {k} : runArgs [] ρ k = k [] ρ := nrfl
theorem args_v {f as k} : runArgs (.v f :: as) ρ k = (f ρ).argR fun a ρ1 => runArgs as ρ1 fun xs => k (a :: xs) := by
  rw [runArgs]
  unfold RE.argR
  cases f ρ with
  | ok sv ρ1 => cases sv <;> rfl
  | raise c ρ1 => rfl
  | stuck => rfl
theorem args_r {as k} : runArgs (.r i :: as) ρ k = orL (ownAt ρ i) (runArgs as ρ fun xs => k (.rf i :: xs)) := by
  rw [runArgs]
  cases ownAt ρ i <;> rfl
theorem arg_d {k} : (RE.ok (.d x) ρ).argR k = k (.dat x) ρ := nrfl
theorem arg_ow {k} : (RE.ok (.ow l) ρ).argR k = k (.dat (.list l)) ρ := nrfl
theorem arg_ex {k} : (RE.ok (.ex c) ρ).argR k = k (.ex c) ρ := nrfl
theorem arg_fz {k} : (RE.ok (.fz l) ρ).argR k = k (.fz l) ρ := nrfl
theorem arg_rs {k} : (RE.raise c ρ).argR k = .raise c ρ := nrfl
theorem callK_eq {F xs} : callK F xs ρ = callS F (seen ρ xs) (refs xs) ρ := nrfl
theorem callS_s {F svs is} : callS F (some svs) is ρ = if is.length ≤ 1 then callO (F svs) is ρ else .stuck := nrfl
theorem callO_ok {is} : callO (.ok sv l) is ρ = .ok sv.pl (putR ρ is l) := nrfl
theorem pl_d {x} : Sv.pl (.d x) = .d x := nrfl
theorem pl_ow {x} : Sv.pl (.ow x) = .ow x := nrfl
theorem pl_ex {x} : Sv.pl (.ex x) = .ex x := nrfl
theorem pl_px {x} : Sv.pl (.px x) = .px x := nrfl
theorem pl_fz {x} : Sv.pl (.fz x) = .fz x := nrfl
theorem pl_on {x} : Sv.pl (.on x) = .d x.toD := nrfl
theorem callO_r {is} : callO (.raise c l) is ρ = .raise c (putR ρ is l) := nrfl
theorem seen_nil : seen ρ [] = some [] := nrfl
theorem seen_d {as} : seen ρ (.dat x :: as) = (seen ρ as).map (.d x :: ·) := nrfl
theorem seen_ex {as} : seen ρ (.ex c :: as) = (seen ρ as).map (.ex c :: ·) := nrfl
theorem seen_fz {as} : seen ρ (.fz l :: as) = (seen ρ as).map (.fz l :: ·) := nrfl
theorem seen_rf {as} : seen ρ (.rf i :: as) = seenR (ownAt ρ i) (seen ρ as) := by
  rw [seen]
  cases ownAt ρ i <;> rfl
theorem seenR_s {s} : seenR (some l) s = s.map (.rf l :: ·) := nrfl
theorem refs_nil : refs [] = [] := nrfl
theorem refs_rf {as} : refs (.rf i :: as) = i :: refs as := nrfl
theorem refs_d {as} : refs (.dat x :: as) = refs as := nrfl
theorem refs_ex {as} : refs (.ex c :: as) = refs as := nrfl
theorem refs_fz {as} : refs (.fz l :: as) = refs as := nrfl
theorem putR_nil : putR ρ [] l = ρ := nrfl
theorem putR_one {is} : putR ρ (i :: is) l = putL ρ i l := nrfl
theorem fFor_eq {s p body} : fFor s p body ρ = (s ρ).forK p body := by unfold fFor RI.forK; rfl
theorem forK_ok {p body} : (RI.ok l ρ).forK p body = forL p body l ρ := nrfl
theorem fLc_eq {s vs p fc fe} : fLc s vs p fc fe ρ = (s ρ).lcK vs p fc fe := by
  unfold fLc RI.lcK
  cases s ρ with
  | ok xs ρ1 =>
    dsimp only
    by_cases h : okW ρ1 vs = true
    · rw [if_pos h, if_pos h]
      unfold lcO
      rfl
    · rw [if_neg h, if_neg h]
  | _ => rfl
theorem lcK_ok {vs p fc fe} : (RI.ok l ρ).lcK vs p fc fe = if okW ρ vs = true then lcO vs ρ (lcL vs p fc fe l (wipeE ρ vs)) else .stuck := nrfl
theorem lcO_s {vs} : lcO vs ρ1 (some (l, ρ2)) = if l.length ≤ sizeLine then .ok (.ow l) (backE ρ1 ρ2 vs) else .stuck := nrfl
theorem okW_nil : okW ρ [] = true := nrfl
theorem okW_cons {vs} : okW ρ (i :: vs) = (!rfAt ρ i && okW ρ vs) := nrfl
theorem wipe_nil : wipeE ρ [] = ρ := nrfl
theorem wipe_cons {vs} : wipeE ρ (i :: vs) = (wipeE ρ vs).set i none := nrfl
theorem back_nil : backE ρ1 ρ2 [] = ρ2 := nrfl
theorem back_cons {vs} : backE ρ1 ρ2 (i :: vs) = (backE ρ1 ρ2 vs).set i (keepS ρ1[i]?) := nrfl
theorem keep_n : keepS (some none) = none := nrfl
theorem keep_d : keepS (some (some (.d x))) = some (.d x) := nrfl
theorem keep_ow : keepS (some (some (.ow l))) = none := nrfl
theorem ri_d {k} : RI.of (.ok (.d x) ρ) k = riO (k x) ρ := by
  show (match k x with | some xs => RI.ok xs ρ | none => .stuck) = _
  cases k x <;> rfl
theorem ri_ow {k} : RI.of (.ok (.ow l) ρ) k = riO (k (.list l)) ρ := by
  show (match k (.list l) with | some xs => RI.ok xs ρ | none => .stuck) = _
  cases k (.list l) <;> rfl
theorem ri_r {k} : RI.of (.raise c ρ) k = .raise c ρ := nrfl
theorem riO_s : riO (some l) ρ = .ok l ρ := nrfl
theorem kSeq_l : kSeq (.list l) = some l := nrfl
theorem kSeq_t : kSeq (.tuple l) = some l := nrfl
theorem fApp_eq {f} : fApp i f ρ = orLS (ownAt ρ i) ((f ρ).toSD fun x ρ1 => appO (ownAt ρ1 i) i x ρ1) := by
  unfold fApp
  cases ownAt ρ i with
  | none => rfl
  | some m =>
    show (f ρ).toSD _ = (f ρ).toSD _
    congr 1
    funext x ρ1
    cases ownAt ρ1 i <;> rfl
theorem app_s : appO (some l) i x ρ = if l.length < sizeLine then .next (putL ρ i (l ++ [x])) else .stuck := nrfl
theorem fSetIx_eq {fk f} : fSetIx i fk f ρ = (f ρ).toSD fun x ρ1 => orLS (ownAt ρ1 i) ((fk ρ1).toSD fun k ρ2 => setO k (ownAt ρ2 i) i x ρ2) := by
  unfold fSetIx
  congr 1
  funext x ρ1
  cases ownAt ρ1 i with
  | none => rfl
  | some m =>
    show (fk ρ1).toSD _ = (fk ρ1).toSD _
    congr 1
    funext k ρ2
    cases k <;> cases ownAt ρ2 i <;> first | rfl | (unfold setO; rfl)
theorem set_s {n : Int} : setO (.int n) (some l) i x ρ = setJ l x i ρ (L2.ixN l.length n) := by
  show (match L2.ixN l.length n with | some j => RS.next (putL ρ i (l.set j x)) | none => .stuck) = _
  cases L2.ixN l.length n <;> rfl
theorem setJ_s : setJ l x i ρ (some j) = .next (putL ρ i (l.set j x)) := nrfl
theorem ixN0 : L2.ixN (j + 1) 0 = some 0 := by
  unfold L2.ixN
  rw [if_pos (by decide), if_pos (by omega)]
  rfl
theorem fUnp_eq {p f} : fUnp p f ρ = (f ρ).toSD fun x ρ1 => nextO (bindP p x ρ1) := by
  unfold fUnp
  congr 1
theorem nextO_s : nextO (some ρ) = .next ρ := nrfl
theorem bind_n : bindP (.n i) x ρ = if rfAt ρ i = false then some (ρ.set i (some (.d x))) else none := by rw [bindP]
theorem bind_t {ps} : bindP (.t ps) (.tuple l) ρ = bindPs ps l ρ := by rw [bindP]
theorem bind_l {ps} : bindP (.t ps) (.list l) ρ = bindPs ps l ρ := by rw [bindP]
theorem binds_nil : bindPs [] [] ρ = some ρ := by rw [bindPs]
theorem binds_cons {p ps} : bindPs (p :: ps) (x :: l) ρ = (bindP p x ρ).bind fun ρ1 => bindPs ps l ρ1 := by
  rw [bindPs]
  cases bindP p x ρ <;> rfl
theorem bind_some {α β : Type} {a : α} {f : α → Option β} : (some a).bind f = f a := nrfl
theorem fRaise_eq : fRaise c ρ = .raise c ρ := nrfl
theorem fTryAs_eq {m fb fs} : fTryAs m i fb fs ρ = (fb ρ).tryK m i fs := by
  unfold fTryAs RS.tryK
  cases fb ρ with
  | raise c ρ1 =>
    dsimp only
    unfold tryO
    cases m c with
    | none => rfl
    | some b => cases b <;> rfl
  | _ => rfl
theorem try_next {m fs} : (RS.next ρ).tryK m i fs = .next ρ := nrfl
theorem try_ret {m fs} : (RS.ret sv ρ).tryK m i fs = .ret sv ρ := nrfl
theorem try_r {m fs} : (RS.raise c ρ).tryK m i fs = tryO i fs c ρ (m c) := nrfl
theorem try_t {fs} : tryO i fs c ρ (some true) = if okW ρ [i] = true then match (fs (ρ.set i (some (.ex c)))) with
      | .next ρ2 => if okW ρ2 [i] = true then .next (wipeE ρ2 [i]) else .stuck
      | .ret v ρ2 => .ret v ρ2
      | _ => .stuck
      else .stuck := nrfl
theorem try_f {fs} : tryO i fs c ρ (some false) = .raise c ρ := nrfl
theorem fIsN_eq {T E} : fIsN i T E ρ = isNO T E ρ[i]? ρ := by
  unfold fIsN isNO viewAt
  split
  · rename_i h; rw [h]
  · rename_i h
    cases e : ρ[i]? with
    | none => rfl
    | some o =>
      cases o with
      | none => rfl
      | some sv => cases sv <;> first | rfl | exact absurd e (h _)
theorem isN_ex {T E} : isNO T E (some (some (.ex c))) ρ = RE.of ((E c).map bol) ρ := nrfl
theorem isN_d {T E} : isNO T E (some (some (.d x))) ρ = RE.of ((T x).map bol) ρ := nrfl
theorem isN_ow {T E} : isNO T E (some (some (.ow l))) ρ = RE.of ((T (.list l)).map bol) ρ := nrfl
theorem isN_rf {T E} : isNO T E (some (some (.rf l))) ρ = RE.of ((T (.list l)).map bol) ρ := nrfl
theorem fIsE_eq {f T} : fIsE f T ρ = (f ρ).bindD fun x ρ1 => RE.of ((T x).map bol) ρ1 := nrfl
theorem fLenF_eq : fLenF i ρ = lenFO ρ[i]? ρ := by
  unfold fLenF lenFO
  split <;> simp_all
theorem lenF_s : lenFO (some (some (.fz l))) ρ = .ok (.d (.int l.length)) ρ := nrfl
theorem fIxF_eq {f} : fIxF i f ρ = ixFO f ρ[i]? ρ := by
  unfold fIxF ixFO
  split
  · rename_i m h
    rw [h]
    dsimp only
    congr 1
    funext y ρ1
    cases y <;> first | rfl | (unfold ixFK ixFR; dsimp only; split <;> simp_all)
  · rename_i h
    cases e : ρ[i]? with
    | none => rfl
    | some o =>
      cases o with
      | none => rfl
      | some sv => cases sv <;> first | rfl | exact absurd e (h _)
theorem ixF_s {f} : ixFO f (some (some (.fz l))) ρ = (f ρ).bindD (ixFK l) := nrfl
theorem ixFK_i {n : Int} : ixFK l (.int n) ρ = ixFR (L2.atI l n) ρ := nrfl
theorem ixFR_s : ixFR (some x) ρ = .ok (.d x) ρ := nrfl
theorem runF_eq {n f svs} : runF n f svs = outO (f (svs.map some ++ List.replicate (n - svs.length) none)) := by
  unfold runF outO
  rfl
theorem out_ret : outO (.ret sv ρ) = .ok sv (rfOf ρ) := nrfl
theorem out_next : outO (.next ρ) = .ok (.d .none) (rfOf ρ) := nrfl
theorem out_r : outO (.raise c ρ) = .raise c (rfOf ρ) := nrfl
theorem rfOf_nil : rfOf [] = [] := nrfl
theorem rfOf_rf : rfOf (some (.rf l) :: ρ) = l := nrfl
theorem rfOf_n : rfOf (none :: ρ) = rfOf ρ := nrfl
theorem rfOf_d : rfOf (some (.d x) :: ρ) = rfOf ρ := nrfl
theorem rfOf_ow : rfOf (some (.ow l) :: ρ) = rfOf ρ := nrfl
theorem rfOf_ex : rfOf (some (.ex c) :: ρ) = rfOf ρ := nrfl
theorem rfOf_fz : rfOf (some (.fz l) :: ρ) = rfOf ρ := nrfl
theorem for_nil {p body} : forL p body [] ρ = .next ρ := nrfl
theorem lc_nil {vs p fc fe} : lcL vs p fc fe [] ρ = some ([], ρ) := nrfl
theorem lc_cons {vs p fc fe} : lcL vs p fc fe (x :: l) ρ = lcB vs p fc fe l (bindP p x ρ) := by
  rw [lcL]
  cases bindP p x ρ with
  | none => rfl
  | some ρ1 =>
    unfold lcB lcT
    dsimp only
    cases fc ρ1 with
    | raise c ρ2 => rfl
    | stuck => rfl
    | ok c ρ2 =>
      cases c with
      | false => rfl
      | true =>
        unfold lcE
        dsimp only
        cases fe ρ2 with
        | raise c ρ2 => rfl
        | stuck => rfl
        | ok sv ρ3 =>
          unfold lcC Sv.dat?
          cases sv <;> dsimp only <;> cases lcL vs p fc fe l (wipeE ρ3 vs) <;> rfl
theorem lcB_s {vs p fc fe} : lcB vs p fc fe l (some ρ) = lcT vs p fc fe l (fc ρ) := nrfl
theorem lcT_t {vs p fc fe} : lcT vs p fc fe l (.ok true ρ) = lcE vs p fc fe l (fe ρ) := nrfl
theorem lcT_f {vs p fc fe} : lcT vs p fc fe l (.ok false ρ) = lcL vs p fc fe l (wipeE ρ vs) := nrfl
theorem lcE_d {vs p fc fe} : lcE vs p fc fe l (.ok (.d y) ρ) = lcC y (lcL vs p fc fe l (wipeE ρ vs)) := nrfl
theorem lcE_ow {vs p fc fe} : lcE vs p fc fe l (.ok (.ow l') ρ) = lcC (.list l') (lcL vs p fc fe l (wipeE ρ vs)) := nrfl
theorem lcC_s : lcC y (some (l, ρ)) = some (y :: l, ρ) := nrfl
theorem ints_nil : intsOf [] = some [] := nrfl
theorem ints_cons {n : Int} : intsOf (.int n :: l) = (intsOf l).map (n :: ·) := nrfl
theorem bools_nil : boolsOf [] = some [] := nrfl
theorem bools_cons : boolsOf (.bool q :: l) = (boolsOf l).map (q :: ·) := nrfl
theorem strs_nil : strsOf [] = some [] := nrfl
theorem strs_cons {z : Str} : strsOf (.str z :: l) = (strsOf l).map (z :: ·) := nrfl
theorem sumL : sumD (.list l) = (intsOf l).map fun ns => .d (.int ns.sum) := nrfl
theorem allL : allD (.list l) = (boolsOf l).map fun ns => .d (.bool (ns.all id)) := nrfl
theorem anyL : anyD (.list l) = (boolsOf l).map fun ns => .d (.bool (ns.any id)) := nrfl
def joinO (a : Str) : Option (List Str) → Option Sv | some ys => if (ys.map Str.length).sum + ys.length * a.length ≤ 16777216 then some (.d (.str (Txt.join a ys))) else none | none => none
theorem join_eq {a : Str} : joinD (.str a) (.list l) = joinO a (strsOf l) := by
  show (match strsOf l with | some ys => if (ys.map Str.length).sum + ys.length * a.length ≤ 16777216 then some (Sv.d (.str (Txt.join a ys))) else none | none => none) = _
  cases strsOf l <;> rfl
theorem joinO_s {a : Str} {ys : List Str} : joinO a (some ys) = if (ys.map Str.length).sum + ys.length * a.length ≤ 16777216 then some (.d (.str (Txt.join a ys))) else none := nrfl
theorem addI {a b : Int} : addD (.int a) (.int b) = some (.d (.int (a + b))) := nrfl
theorem subI {a b : Int} : subD (.int a) (.int b) = some (.d (.int (a - b))) := nrfl
theorem mulI {a b : Int} : mulD (.int a) (.int b) = if a.natAbs.log2 + b.natAbs.log2 < 1000000 then some (.d (.int (a * b))) else none := nrfl
theorem divI {a b : Int} : fdivD (.int a) (.int b) = if 0 < b ∧ b.natAbs.log2 < 9000 then some (.d (.int (a / b))) else none := nrfl
theorem modI {a b : Int} : modD (.int a) (.int b) = if 0 < b then some (.d (.int (a % b))) else none := nrfl
theorem powI {a b : Int} : powD (.int a) (.int b) = if 0 ≤ b ∧ b ≤ 1000000 ∧ a.natAbs < 2 ^ 64 then some (.d (.int (a ^ b.toNat))) else none := nrfl
theorem ltI {a b : Int} : ltD (.int a) (.int b) = some (.d (.bool (decide (a < b)))) := nrfl
theorem leI {a b : Int} : leD (.int a) (.int b) = some (.d (.bool (decide (a ≤ b)))) := nrfl
theorem gtI {a b : Int} : gtD (.int a) (.int b) = some (.d (.bool (decide (b < a)))) := nrfl
theorem geI {a b : Int} : geD (.int a) (.int b) = some (.d (.bool (decide (b ≤ a)))) := nrfl
theorem maxI {a b : Int} : maxD (.int a) (.int b) = some (.d (.int (if b > a then b else a))) := nrfl
theorem minI {a b : Int} : minD (.int a) (.int b) = some (.d (.int (if b < a then b else a))) := nrfl
theorem eqI {a b : Int} : eqD (.int a) (.int b) = some (.d (.bool (decide (a = b)))) := by
  simp [eqD, eqB, SeqAt.shaped, PyData.eqv, bol, PyData.canLay0, PyData.depth]
  rfl
theorem neI {a b : Int} : neD (.int a) (.int b) = some (.d (.bool (!decide (a = b)))) := by
  simp [neD, eqB, SeqAt.shaped, PyData.eqv, bol, PyData.canLay0, PyData.depth]
  rfl
theorem eqS {a b : Str} : eqD (.str a) (.str b) = some (.d (.bool (a == b))) := nrfl
theorem neS {a b : Str} : neD (.str a) (.str b) = some (.d (.bool (!(a == b)))) := nrfl
theorem addS {a b : Str} : addD (.str a) (.str b) = if a.length + b.length ≤ sizeLine then some (.d (.str (a ++ b))) else none := nrfl
theorem addT : addD (.tuple l) (.tuple l') = if l.length + l'.length ≤ sizeLine then some (.d (.tuple (l ++ l'))) else none := nrfl
theorem addL : addD (.list l) (.list l') = if l.length + l'.length ≤ sizeLine then some (.ow (l ++ l')) else none := nrfl
theorem ixT {n : Int} : ixD (.tuple l) (.int n) = (L2.atI l n).map .d := nrfl
theorem ixL {n : Int} : ixD (.list l) (.int n) = (L2.atI l n).map .d := nrfl
theorem lenL : lenD (.list l) = some (.d (.int l.length)) := nrfl
theorem lenT : lenD (.tuple l) = some (.d (.int l.length)) := nrfl
theorem lenS {z : Str} : lenD (.str z) = if z.length ≤ sizeLine then some (.d (.int z.length)) else none := nrfl
theorem tupL : tupleD (.list l) = some (.d (.tuple l)) := nrfl
theorem tupT : tupleD (.tuple l) = some (.d (.tuple l)) := nrfl
theorem lisL : listD (.list l) = some (.ow l) := nrfl
theorem lisT : listD (.tuple l) = some (.ow l) := nrfl
theorem strI {n : Int} : strD (.int n) = if n.natAbs.log2 < 1920 then some (.d (.str (toString n))) else none := nrfl
theorem strS {z : Str} : strD (.str z) = some (.d (.str z)) := nrfl
theorem map_s {α β : Type} {f : α → β} {a : α} : Option.map f (some a) = some (f a) := nrfl
theorem at0 : L2.atI (x :: l) 0 = some x := by unfold L2.atI L2.ixN; simp
theorem at1 : L2.atI (y :: x :: l) 1 = some x := by
  unfold L2.atI L2.ixN
  rw [if_pos (by decide), if_pos (by simp only [List.length_cons]; omega)]
  rfl
theorem at2 {z : D} : L2.atI (z :: y :: x :: l) 2 = some x := by
  unfold L2.atI L2.ixN
  rw [if_pos (by decide), if_pos (by simp only [List.length_cons]; omega)]
  rfl
end S
end

/-! ### loops -/
section
variable {ρ ρ1 ρ2 : Ev} {x : D} {l : List D}
def whN (c : Ev → RT) (body : Ev → RS) (n : Nat) : RS → RS
  | .next ρ2 => whileL c body n ρ2
  | .cnt ρ2 => whileL c body n ρ2
  | .brk ρ2 => .next ρ2
  | r => r
def whK (c : Ev → RT) (body : Ev → RS) (n : Nat) : RT → RS
  | .ok true ρ1 => whN c body n (body ρ1)
  | .ok false ρ1 => .next ρ1
  | .raise k ρ1 => .raise k ρ1
  | .stuck => .stuck
namespace S
theorem while_s {c : Ev → RT} {body : Ev → RS} {n : Nat} : whileL c body (n + 1) ρ = whK c body n (c ρ) := by
  rw [whileL]
  unfold whK
  cases c ρ with
  | ok q ρ1 =>
    cases q with
    | false => rfl
    | true =>
      unfold whN
      dsimp only
      all_goals (cases body ρ1 <;> rfl)
  | _ => rfl
theorem whK_t {c : Ev → RT} {body : Ev → RS} {n : Nat} : whK c body n (.ok true ρ) = whN c body n (body ρ) := nrfl
theorem whK_f {c : Ev → RT} {body : Ev → RS} {n : Nat} : whK c body n (.ok false ρ) = .next ρ := nrfl
theorem whN_n {c : Ev → RT} {body : Ev → RS} {n : Nat} : whN c body n (.next ρ) = whileL c body n ρ := nrfl
end S
def frS (p : Pat) (body : Ev → RS) (xs : List D) : RS → RS
  | .next ρ2 => forL p body xs ρ2
  | .cnt ρ2 => forL p body xs ρ2
  | .brk ρ2 => .next ρ2
  | r => r
def frB (p : Pat) (body : Ev → RS) (xs : List D) : Option Ev → RS
  | some ρ1 => frS p body xs (body ρ1)
  | none => .stuck
namespace S
theorem for_cons {p : Pat} {body : Ev → RS} : forL p body (x :: l) ρ = frB p body l (bindP p x ρ) := by
  rw [forL]
  cases bindP p x ρ with
  | none => rfl
  | some ρ1 =>
    unfold frB frS
    dsimp only
    all_goals (cases body ρ1 <;> rfl)
theorem frB_s {p : Pat} {body : Ev → RS} : frB p body l (some ρ) = frS p body l (body ρ) := nrfl
theorem frS_n {p : Pat} {body : Ev → RS} : frS p body l (.next ρ) = forL p body l ρ := nrfl
theorem frS_c {p : Pat} {body : Ev → RS} : frS p body l (.cnt ρ) = forL p body l ρ := nrfl
theorem frS_b {p : Pat} {body : Ev → RS} : frS p body l (.brk ρ) = .next ρ := nrfl
end S
/-- a for loop whose turns all go on -/
theorem for_list {p : Pat} {body : Ev → RS} {I : Nat → Ev → Prop} : ∀ (xs : List D) (i : Nat) (ρ : Ev), (∀ j x ρ, xs[j]? = some x → I (i + j) ρ → ∃ ρ1 ρ2, bindP p x ρ = some ρ1 ∧ body ρ1 = .next ρ2 ∧ I (i + j + 1) ρ2) → I i ρ → ∃ ρ', forL p body xs ρ = .next ρ' ∧ I (i + xs.length) ρ'
  | [], i, ρ, _, h => ⟨ρ, rfl, h⟩
  | x :: xs, i, ρ, st, h => by
    obtain ⟨ρ1, ρ2, e1, e2, h2⟩ := st 0 x ρ rfl h
    obtain ⟨ρ', e3, h3⟩ := for_list (I := I) xs (i + 1) ρ2 (fun j y r e hj => by
      have := st (j + 1) y r (by simpa using e) (by rw [show i + (j + 1) = i + 1 + j by omega]; exact hj)
      rw [show i + (j + 1) = i + 1 + j by omega] at this
      exact this) h2
    refine ⟨ρ', ?_, by rw [List.length_cons, show i + (xs.length + 1) = i + 1 + xs.length by omega]; exact h3⟩
    rw [forL, e1]
    dsimp only
    rw [e2]
    exact e3
theorem for_up {p : Pat} {body : Ev → RS} {I : Nat → Ev → Prop} {lo : Int} {n : Nat} {ρ : Ev} (st : ∀ j ρ, j < n → I j ρ → ∃ ρ1 ρ2, bindP p (.int (lo + (j : Nat))) ρ = some ρ1 ∧ body ρ1 = .next ρ2 ∧ I (j + 1) ρ2) (h : I 0 ρ) :
    ∃ ρ', forL p body (upFrom lo n) ρ = .next ρ' ∧ I n ρ' := by
  obtain ⟨ρ', e, h2⟩ := for_list (I := I) (upFrom lo n) 0 ρ (fun j x r e hj => by
    rw [Nat.zero_add] at hj ⊢
    have hl : j < n := by
      have := (List.getElem?_eq_some_iff.mp e).1
      rw [len_up] at this
      exact this
    have hx : x = .int (lo + (j : Nat)) := by
      unfold upFrom at e
      rw [List.getElem?_map, List.getElem?_range hl] at e
      exact (Option.some.inj e).symm
    subst hx
    exact st j r hl hj) h
  rw [len_up, Nat.zero_add] at h2
  exact ⟨ρ', e, h2⟩
/-- for x in range(n): x's slot is v -/
theorem for_n {v : Nat} {body : Ev → RS} {I : Nat → Ev → Prop} {n : Nat} {ρ : Ev} (st : ∀ j ρ, j < n → I j ρ → rfAt ρ v = false ∧ ∃ ρ2, body (ρ.set v (some (.d (.int (j : Nat))))) = .next ρ2 ∧ I (j + 1) ρ2) (h : I 0 ρ) :
    ∃ ρ', forL (.n v) body (upFrom 0 n) ρ = .next ρ' ∧ I n ρ' := for_up (fun j r hj hi => by
      obtain ⟨h1, ρ2, h2, h3⟩ := st j r hj hi
      refine ⟨_, ρ2, ?_, h2, h3⟩
      rw [S.bind_n, if_pos h1, Int.zero_add]) h
theorem kRng_up {n : Nat} (h : n < 4611686018427387904) : kRng (.int (n : Nat)) = some (upFrom 0 n) := by
  unfold kRng
  dsimp only
  rw [if_pos ⟨by omega, by omega⟩]
  simp
end

/-! ### texts by their code points -/
theorem S_len (z : List Nat) : (SX.S z).length = z.length := SX.S_len z
theorem cut_S (z : List Nat) {i : Nat} : L2.cutS (SX.S z) (some ((i : Nat) : Int)) (some (((i : Nat) : Int) + 1)) = SX.S ((z.drop i).take 1) := by
  unfold L2.cutS
  rw [SX.S_len, show ((i : Nat) : Int) + 1 = ((i + 1 : Nat) : Int) by omega]
  rw [HT.sIx_nat, HT.sIx_nat]
  show SX.S _ = _
  congr 1
  show (z.drop (min i z.length)).take (min (i + 1) z.length - min i z.length) = _
  by_cases h : i < z.length
  · rw [Nat.min_eq_left (by omega), Nat.min_eq_left (by omega), show i + 1 - i = 1 by omega]
  · rw [List.drop_eq_nil_of_le (by omega), List.drop_eq_nil_of_le (by omega)]
    simp
/-- text[i:i+1] -/
theorem sl_one {z : List Nat} {a b : Int} {i : Nat} (hz : z.length ≤ 16777216) (ha : a = (i : Int)) (hb : b = a + 1) : slD (.str (SX.S z)) (some a) (some b) = some (.d (.str (SX.S ((z.drop i).take 1)))) := by
  subst ha hb
  unfold slD
  dsimp only
  rw [S_len, if_pos (by rw [sizeLine_eq]; exact hz), cut_S]
/-- text[i] -/
theorem ix_one {z : List Nat} {a : Int} {i c : Nat} (hz : z.length ≤ 16777216) (ha : a = (i : Int)) (hc : z[i]? = some c) : ixD (.str (SX.S z)) (.int a) = some (.d (.str (SX.S [c]))) := by
  subst ha
  unfold ixD
  dsimp only
  rw [S_len, if_pos (by rw [sizeLine_eq]; exact hz)]
  show (L2.atI z _).map _ = _
  rw [L2.atI_nat hc]
  rfl
theorem log_le {a : Nat} {k : Nat} (h : a < 2 ^ k) (hk : 0 < k) : a.log2 < k := by
  by_cases e : a = 0
  · subst e; rw [Nat.log2_zero]; exact hk
  · exact (Nat.log2_lt e).mpr h
/-- ints of no great length may be multiplied -/
theorem mul_small {a b : Int} (ha : a.natAbs < 2 ^ 4000) (hb : b.natAbs < 2 ^ 4000) : a.natAbs.log2 + b.natAbs.log2 < 1000000 := by
  have := log_le ha (by omega)
  have := log_le hb (by omega)
  omega
theorem pow_big {a : Nat} {n : Nat} (h : a < n) (hn : n ≤ 2 ^ 4000) : a < 2 ^ 4000 := Nat.lt_of_lt_of_le h hn
end Dl

local macro_rules
  | `(tactic| simp_arith) => `(tactic| simp_arith [])
  | `(tactic| simp_arith [$ls,*]) => `(tactic| simp only [Dl.S.bindD_d, Dl.S.bindD_ow, Dl.S.bindD_r, Dl.S.toS_ok, Dl.S.toS_r, Dl.S.toSD_d, Dl.S.toSD_ow, Dl.S.toSD_r, Dl.S.of_some, Dl.S.tst_b, Dl.S.tst_r, Dl.S.run_e, Dl.S.run_n, Dl.S.orS_some, Dl.S.orL_some, Dl.S.orLS_some, Dl.S.get_val, Dl.S.get_nm, Dl.S.of2_eq, Dl.S.re2_s, Dl.S.of1_eq, Dl.S.re1_s,
      Dl.S.view_d, Dl.S.view_ow, Dl.S.view_rf, Dl.S.view_s, Dl.S.rf_d, Dl.S.rf_ow, Dl.S.rf_ex, Dl.S.rf_fz, Dl.S.rf_n, Dl.S.rf_s, Dl.S.own_ow, Dl.S.own_rf, Dl.S.own_s, Dl.S.put_ow, Dl.S.put_rf, Dl.S.put_s, Dl.S.fC_eq, Dl.S.fVar_eq, Dl.S.fMove_eq, Dl.S.var_d, Dl.S.var_ow, Dl.S.var_ex, Dl.S.var_fz, Dl.S.move_d, Dl.S.move_ow, Dl.S.move_ex, Dl.S.fSet_eq, Dl.S.fSeq_eq,
      Dl.S.seq_next, Dl.S.seq_ret, Dl.S.seq_brk, Dl.S.seq_cnt, Dl.S.seq_r, Dl.S.fSkip_eq, Dl.S.fIf_eq, Dl.S.br_t, Dl.S.br_f, Dl.S.br_r, Dl.S.fIfE_eq, Dl.S.brE_t, Dl.S.brE_f, Dl.S.fRet_eq, Dl.S.fDrop_eq, Dl.S.fTest_eq, Dl.S.fYes_eq, Dl.S.fNotT_eq, Dl.S.not_ok, Dl.S.not_r, Dl.S.fAndT_eq, Dl.S.and_t, Dl.S.and_f, Dl.S.and_r, Dl.S.fOrT_eq, Dl.S.or_t, Dl.S.or_f, Dl.S.or_r,
      Dl.S.bindB_b, Dl.S.bindB_r, Dl.S.fAndV_eq, Dl.S.fOrV_eq, Dl.S.fNotV_eq, Dl.S.runA_nil, Dl.S.runA_cons, Dl.S.fTup_eq, Dl.S.fLst_eq, Dl.S.fUn_eq, Dl.S.fOp_eq, Dl.S.fChain_eq, Dl.S.ch_s, Dl.S.ofB_s, Dl.S.pr_no, Dl.S.pr_e, Dl.S.prK_i, Dl.S.fSl_eq, Dl.S.sl_s, Dl.S.fM1_eq, Dl.S.m1_s, Dl.S.fCall_eq, Dl.S.args_nil, Dl.S.args_v, Dl.S.args_r, Dl.S.arg_d, Dl.S.arg_ow, Dl.S.arg_ex,
      Dl.S.arg_fz, Dl.S.arg_rs, Dl.S.callK_eq, Dl.S.callS_s, Dl.S.callO_ok, Dl.S.pl_d, Dl.S.pl_ow, Dl.S.pl_ex, Dl.S.pl_px, Dl.S.pl_fz, Dl.S.pl_on, Dl.S.callO_r, Dl.S.seen_nil, Dl.S.seen_d, Dl.S.seen_ex, Dl.S.seen_fz, Dl.S.seen_rf, Dl.S.seenR_s, Dl.S.refs_nil, Dl.S.refs_rf, Dl.S.refs_d, Dl.S.refs_ex, Dl.S.refs_fz, Dl.S.putR_nil, Dl.S.putR_one, Dl.S.fFor_eq, Dl.S.forK_ok, Dl.S.fLc_eq, Dl.S.lcK_ok, Dl.S.lcO_s, Dl.S.okW_nil, Dl.S.okW_cons,
      Dl.S.wipe_nil, Dl.S.wipe_cons, Dl.S.back_nil, Dl.S.back_cons, Dl.S.keep_n, Dl.S.keep_d, Dl.S.keep_ow, Dl.S.ri_d, Dl.S.ri_ow, Dl.S.ri_r, Dl.S.riO_s, Dl.S.kSeq_l, Dl.S.kSeq_t, Dl.S.fApp_eq, Dl.S.app_s, Dl.S.fSetIx_eq, Dl.S.set_s, Dl.S.setJ_s, Dl.S.ixN0, Dl.S.fUnp_eq, Dl.S.nextO_s, Dl.S.bind_n, Dl.S.bind_t, Dl.S.bind_l, Dl.S.binds_nil, Dl.S.binds_cons, Dl.S.bind_some, Dl.S.fRaise_eq, Dl.S.fTryAs_eq,
      Dl.S.try_next, Dl.S.try_ret, Dl.S.try_r, Dl.S.try_t, Dl.S.try_f, Dl.S.fIsN_eq, Dl.S.isN_ex, Dl.S.isN_d, Dl.S.isN_ow, Dl.S.isN_rf, Dl.S.fIsE_eq, Dl.S.fLenF_eq, Dl.S.lenF_s, Dl.S.fIxF_eq, Dl.S.ixF_s, Dl.S.ixFK_i, Dl.S.ixFR_s, Dl.S.runF_eq, Dl.S.out_ret, Dl.S.out_next, Dl.S.out_r, Dl.S.rfOf_nil, Dl.S.rfOf_rf, Dl.S.rfOf_n, Dl.S.rfOf_d, Dl.S.rfOf_ow, Dl.S.rfOf_ex, Dl.S.rfOf_fz, Dl.S.for_nil, Dl.S.lc_nil, Dl.S.whK_t, Dl.S.whK_f, Dl.S.whN_n, Dl.S.for_cons, Dl.S.frB_s, Dl.S.frS_n, Dl.S.frS_c, Dl.S.frS_b,
      Dl.S.lc_cons, Dl.S.lcB_s, Dl.S.lcT_t, Dl.S.lcT_f, Dl.S.lcE_d, Dl.S.lcE_ow, Dl.S.lcC_s, Dl.S.ints_nil, Dl.S.ints_cons, Dl.S.bools_nil, Dl.S.bools_cons, Dl.S.strs_nil, Dl.S.strs_cons, Dl.S.sumL, Dl.S.allL, Dl.S.anyL, Dl.S.join_eq, Dl.S.joinO_s, List.sum_cons, List.sum_nil, List.all_cons, List.all_nil, List.any_cons, List.any_nil, id_eq, Dl.S.addI, Dl.S.subI, Dl.S.mulI, Dl.S.divI, Dl.S.modI, Dl.S.powI, Dl.S.ltI, Dl.S.leI, Dl.S.gtI, Dl.S.geI, Dl.S.maxI, Dl.S.minI, Dl.S.eqI, Dl.S.neI, Dl.S.eqS, Dl.S.neS, Dl.S.addS, Dl.S.addT, Dl.S.addL, Dl.S.ixT, Dl.S.ixL, Dl.S.lenL, Dl.S.lenT, Dl.S.lenS, Dl.S.tupL, Dl.S.tupT, Dl.S.lisL, Dl.S.lisT, Dl.S.strS, Dl.S.map_s, Dl.S.at0, Dl.S.at1, Dl.S.at2,
      List.map_cons, List.map_nil, List.length_cons, List.length_nil, List.replicate, List.cons_append, List.nil_append, List.getElem?_cons_zero, List.getElem?_cons_succ, List.set_cons_zero, List.set_cons_succ, PySem.sizeLine_eq, reduceIte, if_true, if_false, Bool.not_true, Bool.not_false, Bool.and_true, Bool.true_and,
      Dl.S.bol_eq, Dl.S.cast0, Dl.S.cast1, Int.cast_ofNat_Int, Int.reduceLT, Int.reduceLE, Int.reduceEq, Int.reduceNe, Int.reduceAdd, Int.reduceSub, Int.reduceMul, Int.reduceNeg, Int.reduceToNat, Nat.reduceLT, Nat.reduceMul, Nat.reducePow, Nat.reduceAdd, Nat.reduceSub, Nat.reduceLeDiff, Nat.reduceEqDiff, Bool.false_eq_true, and_self, true_and, and_true, decide_true, decide_false, eq_self, ite_true, ite_false, $ls,*])
local macro_rules
  | `(tactic| simp_all_arith) => `(tactic| simp_all_arith [])
  | `(tactic| simp_all_arith [$ls,*]) => `(tactic| simp (disch := first | omega | assumption) only [if_pos, if_neg, decide_eq_true, decide_eq_false, Dl.S.bindD_d, Dl.S.bindD_ow, Dl.S.bindD_r, Dl.S.toS_ok, Dl.S.toS_r, Dl.S.toSD_d, Dl.S.toSD_ow, Dl.S.toSD_r, Dl.S.of_some, Dl.S.tst_b, Dl.S.tst_r, Dl.S.run_e, Dl.S.run_n, Dl.S.orS_some, Dl.S.orL_some, Dl.S.orLS_some, Dl.S.get_val, Dl.S.get_nm, Dl.S.of2_eq, Dl.S.re2_s, Dl.S.of1_eq, Dl.S.re1_s,
      Dl.S.view_d, Dl.S.view_ow, Dl.S.view_rf, Dl.S.view_s, Dl.S.rf_d, Dl.S.rf_ow, Dl.S.rf_ex, Dl.S.rf_fz, Dl.S.rf_n, Dl.S.rf_s, Dl.S.own_ow, Dl.S.own_rf, Dl.S.own_s, Dl.S.put_ow, Dl.S.put_rf, Dl.S.put_s, Dl.S.fC_eq, Dl.S.fVar_eq, Dl.S.fMove_eq, Dl.S.var_d, Dl.S.var_ow, Dl.S.var_ex, Dl.S.var_fz, Dl.S.move_d, Dl.S.move_ow, Dl.S.move_ex, Dl.S.fSet_eq, Dl.S.fSeq_eq,
      Dl.S.seq_next, Dl.S.seq_ret, Dl.S.seq_brk, Dl.S.seq_cnt, Dl.S.seq_r, Dl.S.fSkip_eq, Dl.S.fIf_eq, Dl.S.br_t, Dl.S.br_f, Dl.S.br_r, Dl.S.fIfE_eq, Dl.S.brE_t, Dl.S.brE_f, Dl.S.fRet_eq, Dl.S.fDrop_eq, Dl.S.fTest_eq, Dl.S.fYes_eq, Dl.S.fNotT_eq, Dl.S.not_ok, Dl.S.not_r, Dl.S.fAndT_eq, Dl.S.and_t, Dl.S.and_f, Dl.S.and_r, Dl.S.fOrT_eq, Dl.S.or_t, Dl.S.or_f, Dl.S.or_r,
      Dl.S.bindB_b, Dl.S.bindB_r, Dl.S.fAndV_eq, Dl.S.fOrV_eq, Dl.S.fNotV_eq, Dl.S.runA_nil, Dl.S.runA_cons, Dl.S.fTup_eq, Dl.S.fLst_eq, Dl.S.fUn_eq, Dl.S.fOp_eq, Dl.S.fChain_eq, Dl.S.ch_s, Dl.S.ofB_s, Dl.S.pr_no, Dl.S.pr_e, Dl.S.prK_i, Dl.S.fSl_eq, Dl.S.sl_s, Dl.S.fM1_eq, Dl.S.m1_s, Dl.S.fCall_eq, Dl.S.args_nil, Dl.S.args_v, Dl.S.args_r, Dl.S.arg_d, Dl.S.arg_ow, Dl.S.arg_ex,
      Dl.S.arg_fz, Dl.S.arg_rs, Dl.S.callK_eq, Dl.S.callS_s, Dl.S.callO_ok, Dl.S.pl_d, Dl.S.pl_ow, Dl.S.pl_ex, Dl.S.pl_px, Dl.S.pl_fz, Dl.S.pl_on, Dl.S.callO_r, Dl.S.seen_nil, Dl.S.seen_d, Dl.S.seen_ex, Dl.S.seen_fz, Dl.S.seen_rf, Dl.S.seenR_s, Dl.S.refs_nil, Dl.S.refs_rf, Dl.S.refs_d, Dl.S.refs_ex, Dl.S.refs_fz, Dl.S.putR_nil, Dl.S.putR_one, Dl.S.fFor_eq, Dl.S.forK_ok, Dl.S.fLc_eq, Dl.S.lcK_ok, Dl.S.lcO_s, Dl.S.okW_nil, Dl.S.okW_cons,
      Dl.S.wipe_nil, Dl.S.wipe_cons, Dl.S.back_nil, Dl.S.back_cons, Dl.S.keep_n, Dl.S.keep_d, Dl.S.keep_ow, Dl.S.ri_d, Dl.S.ri_ow, Dl.S.ri_r, Dl.S.riO_s, Dl.S.kSeq_l, Dl.S.kSeq_t, Dl.S.fApp_eq, Dl.S.app_s, Dl.S.fSetIx_eq, Dl.S.set_s, Dl.S.setJ_s, Dl.S.ixN0, Dl.S.fUnp_eq, Dl.S.nextO_s, Dl.S.bind_n, Dl.S.bind_t, Dl.S.bind_l, Dl.S.binds_nil, Dl.S.binds_cons, Dl.S.bind_some, Dl.S.fRaise_eq, Dl.S.fTryAs_eq,
      Dl.S.try_next, Dl.S.try_ret, Dl.S.try_r, Dl.S.try_t, Dl.S.try_f, Dl.S.fIsN_eq, Dl.S.isN_ex, Dl.S.isN_d, Dl.S.isN_ow, Dl.S.isN_rf, Dl.S.fIsE_eq, Dl.S.fLenF_eq, Dl.S.lenF_s, Dl.S.fIxF_eq, Dl.S.ixF_s, Dl.S.ixFK_i, Dl.S.ixFR_s, Dl.S.runF_eq, Dl.S.out_ret, Dl.S.out_next, Dl.S.out_r, Dl.S.rfOf_nil, Dl.S.rfOf_rf, Dl.S.rfOf_n, Dl.S.rfOf_d, Dl.S.rfOf_ow, Dl.S.rfOf_ex, Dl.S.rfOf_fz, Dl.S.for_nil, Dl.S.lc_nil, Dl.S.whK_t, Dl.S.whK_f, Dl.S.whN_n, Dl.S.for_cons, Dl.S.frB_s, Dl.S.frS_n, Dl.S.frS_c, Dl.S.frS_b,
      Dl.S.lc_cons, Dl.S.lcB_s, Dl.S.lcT_t, Dl.S.lcT_f, Dl.S.lcE_d, Dl.S.lcE_ow, Dl.S.lcC_s, Dl.S.ints_nil, Dl.S.ints_cons, Dl.S.bools_nil, Dl.S.bools_cons, Dl.S.strs_nil, Dl.S.strs_cons, Dl.S.sumL, Dl.S.allL, Dl.S.anyL, Dl.S.join_eq, Dl.S.joinO_s, List.sum_cons, List.sum_nil, List.all_cons, List.all_nil, List.any_cons, List.any_nil, id_eq, Dl.S.addI, Dl.S.subI, Dl.S.mulI, Dl.S.divI, Dl.S.modI, Dl.S.powI, Dl.S.ltI, Dl.S.leI, Dl.S.gtI, Dl.S.geI, Dl.S.maxI, Dl.S.minI, Dl.S.eqI, Dl.S.neI, Dl.S.eqS, Dl.S.neS, Dl.S.addS, Dl.S.addT, Dl.S.addL, Dl.S.ixT, Dl.S.ixL, Dl.S.lenL, Dl.S.lenT, Dl.S.lenS, Dl.S.tupL, Dl.S.tupT, Dl.S.lisL, Dl.S.lisT, Dl.S.strS, Dl.S.map_s, Dl.S.at0, Dl.S.at1, Dl.S.at2,
      List.map_cons, List.map_nil, List.length_cons, List.length_nil, List.replicate, List.cons_append, List.nil_append, List.getElem?_cons_zero, List.getElem?_cons_succ, List.set_cons_zero, List.set_cons_succ, PySem.sizeLine_eq, reduceIte, if_true, if_false, Bool.not_true, Bool.not_false, Bool.and_true, Bool.true_and,
      Dl.S.bol_eq, Dl.S.cast0, Dl.S.cast1, Int.cast_ofNat_Int, Int.reduceLT, Int.reduceLE, Int.reduceEq, Int.reduceNe, Int.reduceAdd, Int.reduceSub, Int.reduceMul, Int.reduceNeg, Int.reduceToNat, Nat.reduceLT, Nat.reduceMul, Nat.reducePow, Nat.reduceAdd, Nat.reduceSub, Nat.reduceLeDiff, Nat.reduceEqDiff, Bool.false_eq_true, and_self, true_and, and_true, decide_true, decide_false, eq_self, ite_true, ite_false, $ls,*])
set_option maxHeartbeats 1000000
/-! DlN: the text of an int, by code points. -/
namespace Dl
open PySem
def nt (i : Int) : List Nat := if i < 0 then 45 :: TL.numL i.natAbs else TL.numL i.natAbs
theorem str_nt (i : Int) : ((toString i : String) : Str) = SX.S (nt i) := by
  cases i with
  | ofNat n =>
    have h : nt (Int.ofNat n) = TL.numL n := by unfold nt; rw [if_neg (by simp)]; rfl
    rw [h]
    exact SX.num_S n
  | negSucc n =>
    have h : nt (Int.negSucc n) = 45 :: TL.numL (n + 1) := by unfold nt; rw [if_pos (Int.negSucc_lt_zero n)]; rfl
    rw [h]
    have e := SX.num_S (n + 1)
    have e2 : (toString (Int.negSucc n) : String) = "-" ++ toString (((n + 1 : Nat)) : Int) := rfl
    rw [e2]
    show Str.ofString _ = _
    rw [Str.ofString_eq_toList] at e ⊢
    have e3 := congrArg (fun z : Str => z.cps.toList) e
    show SX.S _ = SX.S _
    congr 1
    rw [String.toList_append, List.map_append]
    show [45] ++ _ = _
    exact congrArg (45 :: ·) e3
theorem strD_nt {i : Int} (h : i.natAbs < 2 ^ 1000) : strD (.int i) = some (.d (.str (SX.S (nt i)))) := by
  unfold strD
  dsimp only
  rw [if_pos (Nat.lt_trans (log_le h (by decide)) (by decide)), str_nt]
theorem numL_head : ∀ (n : Nat), 1 ≤ n → ∃ c r, TL.numL n = c :: r ∧ 49 ≤ c ∧ c ≤ 57
  | n, h => by
    by_cases hl : n < 10
    · exact ⟨_, _, TL.numL_lt hl, by omega, by omega⟩
    · obtain ⟨c, r, e, h1, h2⟩ := numL_head (n / 10) (by omega)
      exact ⟨c, r ++ [48 + n % 10], by rw [TL.numL_step (by omega), e]; rfl, h1, h2⟩
  termination_by n => n
theorem numL_0 : TL.numL 0 = [48] := TL.numL_lt (by decide)
theorem nt_ne (i : Int) : nt i ≠ [] := by
  unfold nt
  split
  · exact List.cons_ne_nil _ _
  · exact TL.numL_ne _
theorem nt_len {i : Int} {k : Nat} (hk : 0 < k) (h : i.natAbs < 10 ^ k) : (nt i).length ≤ k + 1 := by
  have := TL.numL_len hk h
  unfold nt
  split
  · rw [List.length_cons]; omega
  · omega
theorem int_nt {i : Int} (h : i.natAbs < 10 ^ 100) : intD (.str (SX.S (nt i))) = some (.d (.int i)) := by
  have hl := nt_len (i := i) (k := 100) (by decide) h
  have e : PySem.intText? (SX.S (nt i)) = some i := by
    by_cases c : i < 0
    · have en : nt i = 45 :: TL.numL i.natAbs := by unfold nt; rw [if_pos c]
      rw [en] at hl ⊢
      rw [PySem.intText_neg (cs := TL.numL i.natAbs) rfl (TL.numL_digits _) (TL.numL_ne _) (by rw [S_len]; omega), TL.numL_val]
      congr 1
      omega
    · have en : nt i = TL.numL i.natAbs := by unfold nt; rw [if_neg c]
      rw [en] at hl ⊢
      have := TL.int_num (n := i.natAbs) (by omega)
      rw [SX.num_S] at this
      rw [this]
      congr 1
      omega
  unfold intD
  dsimp only
  rw [S_len, if_pos (by omega), e]
  rfl
end Dl
set_option maxHeartbeats 4000000
/-! DlG: {text: int, ..}.get(x, int): a display asked at once. -/
namespace Dl
open PySem PySem.Spec L2
def dgetD (tb : List (Str × Int)) (j : Int) : D → Option Sv | .str z => some (.d (.int ((tb.lookup z).getD j))) | _ => none
def tabT (tb : List (Str × Int)) : List (TE × TE) := tb.map fun p => (tC (.str p.1), tC (.int p.2))
def tabK (tb : List (Str × Int)) : List (L2.Key × V) := tb.map fun p => (.inr p.1, .int p.2)
theorem tabT_run {σ : St} {H : Hp} : ∀ {tb : List (Str × Int)} {Q : List (V × V) → Hp → Prop}, Q ((tabK tb).map fun kv => (kV kv.1, kv.2)) H → tPairs (tabT tb) σ H Q
  | [], Q, h => h
  | p :: tb, Q, h => tabT_run (tb := tb) (Q := fun ps H3 => Q ((.str p.1, .int p.2) :: ps) H3) h
theorem merge_id : ∀ {more kvs : List (L2.Key × V)}, (∀ p ∈ more, (kvs.any fun kv => decide (kv.1 = p.1)) = false) → (more.map (·.1)).Nodup → mergeK kvs more = kvs ++ more
  | [], kvs, _, _ => (List.append_nil _).symm
  | p :: r, kvs, h, n => by
    have e : putK kvs p.1 p.2 = kvs ++ [p] := by
      unfold putK
      rw [if_neg (by rw [h p List.mem_cons_self]; exact Bool.false_ne_true)]
    show mergeK (putK kvs p.1 p.2) r = _
    rw [List.map_cons, List.nodup_cons] at n
    rw [e, merge_id (fun q hq => ?_) n.2, List.append_assoc]
    · rfl
    · rw [List.any_append, h q (List.mem_cons_of_mem _ hq), Bool.false_or, List.any_cons, List.any_nil, Bool.or_false]
      exact decide_eq_false fun z => n.1 (z ▸ List.mem_map_of_mem hq)
theorem tab_val {tb : List (Str × Int)} (z : Str) : valV (tabK tb) (.inr z) = (tb.lookup z).map .int := by
  induction tb with
  | nil => rfl
  | cons p tb ih =>
    rw [List.lookup_cons]
    by_cases c : z = p.1
    · rw [show (z == p.1) = true from by rw [c]; exact beq_self_eq_true _]
      exact valV_pos (p := ((.inr p.1 : L2.Key), V.int p.2)) (by rw [c])
    · rw [beq_eq_false_iff_ne.mpr c]
      refine (valV_neg (p := ((.inr p.1 : L2.Key), V.int p.2)) (fun q => c ?_)).trans ih
      exact (Sum.inr.inj q).symm
section
variable {X : Cx} {b : Bx} {W : WX} {K : PySem.W.Frag} {tb : List (Str × Int)}
theorem e_dget {keys : List (Option Expr)} {values : List Expr} {e f : Expr} {dp apos cpos : Pos} {o : Opd} {j : Int} (hu : X.A.units + 64 < cLine) (hn : (tabK tb).map (·.1) |>.Nodup) (h15 : tb.length ≤ 15)
    (hp : PPs X dp keys values (tabT tb)) (hall : keys.all (·.isSome) = true) (hl : keys.length = values.length) (h0 : keys ≠ []) (hk : keys.length ≤ 15)
    (he : ∀ b' : Bx, b'.cl = b.cl → PO2 X b' W e o) (hf : PE X f (tC (.int j))) (m : M2 X (.Dict keys values dp) "get" apos e f cpos) :
    PE X (.Call (.Attribute (.Dict keys values dp) "get" apos) [e, f] [] cpos) (tE X.K b W (fUn (dgetD tb j) o)) := by
  have he' : PE X e (fun σ H Q => ∃ b' : Bx, b'.cl = b.cl ∧ tO X.K b' W o σ H Q) := ⟨fun pins s σ H Q I ⟨b', hb, q⟩ => (he b' hb).run pins s σ H Q I q⟩
  refine PE.imp (pe_dget2 (by omega) (pe_disp hp hall hl h0 hk) he' hf m) ?_
  rintro σ H Q ⟨ρ, G, r, q⟩
  intro p hp0
  refine tabT_run ⟨upd_same, tabK tb, rfl, by unfold tabK; rw [List.length_map]; exact h15, ?_⟩
  rw [merge_id (fun _ _ => rfl) hn, List.nil_append]
  have eU : upd (upd H p (.dK [])) p (.dK (tabK tb)) = upd H p (.dK (tabK tb)) := by
    funext c
    by_cases e : c = p
    · subst e; rw [upd_same, upd_same]
    · rw [upd_ne e, upd_ne e, upd_ne e]
  rw [eU]
  refine ⟨p, rfl, .inl ⟨_, .inl upd_same⟩, ?_⟩
  have noP : ∀ i, ¬ Owns σ ρ i p := fun i ⟨z1, l, z2⟩ => by
    rcases z2 with z2 | z2
    · obtain ⟨v, h1, a, ys, e1, h2, _⟩ := r.slot _ _ z2
      rw [z1] at h1; cases h1; cases e1
      rw [hp0] at h2; cases h2
    · obtain ⟨v, h1, a, ys, e1, h2, _⟩ := r.slot _ _ z2
      rw [z1] at h1; cases h1; cases e1
      rw [hp0] at h2; cases h2
  have r1 : Rel X.K b G (upd H p (.dK (tabK tb))) σ ρ := r.ext (Ext.updH r.le hp0 _)
  have r2 := r1.hold (o := .dK (tabK tb)) upd_same (r.g0 hp0) (r.h0 hp0) noP (r.t0 hp0)
  refine ⟨b.hold p (.dK (tabK tb)), rfl, ?_⟩
  cases o with
  | n i =>
    have q : PostE X.K b W G σ Q (match viewAt ρ i with
      | some _ => RE.of1 (dgetD tb j) (.nm i) ρ
      | none => .stuck) := q
    cases ev : viewAt ρ i with
    | none => rw [ev] at q; exact q.elim
    | some x =>
      rw [ev] at q
      obtain ⟨v, h1, h2⟩ := r1.view ev
      refine ⟨v, h1, ?_⟩
      obtain ⟨dx, e1, q⟩ := of1_post q
      have e1 : viewAt ρ i = some dx := e1
      rw [ev] at e1
      cases e1
      cases x with
      | str z =>
        rcases h2 with h2 | ⟨_, _, _, _, e2, _⟩
        · cases h2
          refine ⟨_, .inl ⟨tabK tb, .inr z, .inl upd_same, rfl, rfl⟩, ?_⟩
          rw [tab_val]
          cases el : tb.lookup z with
          | none =>
            rw [show dgetD tb j (.str z) = some (.d (.int ((tb.lookup z).getD j))) from rfl, el] at q
            exact post_int r1 q
          | some k =>
            rw [show dgetD tb j (.str z) = some (.d (.int ((tb.lookup z).getD j))) from rfl, el] at q
            exact post_int r1 q
        · cases e2
      | _ => exact q.elim
  | e fa =>
    refine ⟨ρ, G, r2, ?_⟩
    have q : PostE X.K b W G σ Q ((fa ρ).bindD fun x ρ1 => RE.of1 (dgetD tb j) (.val x) ρ1) := q
    cases e0 : fa ρ with
    | stuck => rw [e0] at q; exact q.elim
    | raise c ρ1 =>
      rw [e0] at q
      exact fun G' H' rr ss => q G' H' (rr.unhold (r.t0 hp0)).1 ss
    | ok sv ρ1 =>
      rw [e0] at q
      intro v G1 H1 r3 s1 d1
      have q : PostE X.K b W G σ Q (match sv.dat? with
        | some x => RE.of1 (dgetD tb j) (.val x) ρ1
        | none => .stuck) := q
      cases ed : sv.dat? with
      | none => rw [ed] at q; exact q.elim
      | some x =>
        rw [ed] at q
        obtain ⟨G2, r4, s2, d2⟩ := r3.pub d1 ed
        obtain ⟨r5, hd, _, _, _⟩ := r4.unhold (r.t0 hp0)
        obtain ⟨dx, e1, q⟩ := of1_post q
        cases e1
        cases x with
        | str z =>
          cases d2
          refine ⟨_, .inl ⟨tabK tb, .inr z, .inl hd, rfl, rfl⟩, ?_⟩
          rw [tab_val]
          have q2 := fun v G' H' rr ss => q v G' H' rr (((s1.trans s2).trans ss))
          cases el : tb.lookup z with
          | none =>
            rw [show dgetD tb j (.str z) = some (.d (.int ((tb.lookup z).getD j))) from rfl, el] at q
            exact q _ G2 _ r5 (s1.trans s2) (.int _)
          | some k =>
            rw [show dgetD tb j (.str z) = some (.d (.int ((tb.lookup z).getD j))) from rfl, el] at q
            exact q _ G2 _ r5 (s1.trans s2) (.int _)
        | _ => exact q.elim
end
end Dl
set_option maxHeartbeats 4000000
/-! DlX: a pair of a value and what was caught, told and taken apart. -/
namespace Dl
open PySem PySem.Spec L2
def fPair (i j : Nat) : Ev → RE := fun ρ => match ρ[i]?, ρ[j]? with
  | some (some (.d .none)), some (some (.ex c)) => .ok (.px c) ρ
  | _, _ => fTup [fVar i, fVar j] ρ
def unpX (i j : Nat) (r : RE) : RS := match r with
  | .ok (.px c) ρ1 => if rfAt ρ1 i = false then (if rfAt (ρ1.set i (some (.d .none))) j = false then .next ((ρ1.set i (some (.d .none))).set j (some (.ex c))) else .stuck) else .stuck
  | r => r.toSD fun x ρ1 => match bindP (.t [.n i, .n j]) x ρ1 with
    | some ρ2 => .next ρ2
    | none => .stuck
def fUnpX (i j : Nat) (f : Ev → RE) : Ev → RS := fun ρ => unpX i j (f ρ)
section
variable {X : Cx} {b : Bx} {W : WX}
theorem e_pair {x y : Str} {p1 p2 pos : Pos} {k : Nat} {i j : Nat} (hx : X.N[i]? = some x) (hy : X.N[j]? = some y) (vx : Vis X.env.scope x) (vy : Vis X.env.scope y) (dx : (x == ("__debug__" : Str)) = false) (dy : (y == ("__debug__" : Str)) = false)
    (cx : (x == ("__classdict__" : Str)) = false) (cy : (y == ("__classdict__" : Str)) = false) (h : PE X (.Tuple [.Name x p1, .Name y p2] k pos) (tE X.K b W (fTup [fVar i, fVar j])))
    (s1 : starEach [.Name x p1, .Name y p2] X.env = (false, eval (.Name x p1) X.env) :: starEach [.Name y p2] X.env := by rfl) (s2 : starEach [.Name y p2] X.env = (false, eval (.Name y p2) X.env) :: starEach [] X.env := by rfl) :
    PE X (.Tuple [.Name x p1, .Name y p2] k pos) (tE X.K b W (fPair i j)) := by
  have g : PE X (.Tuple [.Name x p1, .Name y p2] k pos) (tTup (tCons (tVar i) (tCons (tVar j) tNil))) := pe_tup (pa_cons (pe_var hx vx dx cx) (pa_cons (pe_var hy vy dy cy) pa_nil s2) s1)
  refine ⟨fun pins s σ H Q I z => ?_⟩
  obtain ⟨ρ, G, r, q⟩ := z
  by_cases e : ∃ c, ρ[i]? = some (some (.d .none)) ∧ ρ[j]? = some (some (.ex c))
  · obtain ⟨c, e1, e2⟩ := e
    simp only [fPair, e1, e2] at q
    refine g.run pins s σ H Q I ?_
    obtain ⟨v, h1, h2⟩ := r.slot _ _ e1
    obtain ⟨u, h3, a, rfl, h4⟩ := r.slot _ _ e2
    cases (show Da X.K G v .none from h2)
    refine ⟨_, h1, _, h3, by show (2 : Nat) ≤ sizeLine; rw [sizeLine_eq]; decide, fun p hp => ?_⟩
    have ex := Ext.upd r.le hp (.tup [.non, .ref a])
    exact q _ _ _ (r.ext ex) ex.g ⟨p, a, rfl, SqT.of upd_same, ex.g _ _ h4⟩
  · refine h.run pins s σ H Q I ⟨ρ, G, r, ?_⟩
    have e3 : fPair i j ρ = fTup [fVar i, fVar j] ρ := by
      unfold fPair
      split
      · rename_i c e1 e2
        exact absurd ⟨c, e1, e2⟩ e
      · rfl
    rw [e3] at q
    exact q
theorem s_unpX {x y : Str} {p1 p2 tp pos : Pos} {k : Nat} {e : Expr} {i j : Nat} {f : Ev → RE} (hc : X.calm = true) (hN : X.N.Nodup) (hx : X.N[i]? = some x) (hy : X.N[j]? = some y) (lx : Loc X.env.scope x) (ly : Loc X.env.scope y)
    (fx : X.fn x = true ∨ X.env.scope.names.lookup x = some .local) (fy : X.fn y = true ∨ X.env.scope.names.lookup y = some .local) (he : PE X e (tE X.K b W f))
    (hs : swapsWithSole [.Tuple [.Name x p1, .Name y p2] k tp] e pos.line X.env = pure false := by rfl) (hw : swappedStores [.Tuple [.Name x p1, .Name y p2] k tp] e X.env = pure none := by rfl) (h1 : (assignEach [.Tuple [.Name x p1, .Name y p2] k tp] X.env).map (·.2) = [assign (.Tuple [.Name x p1, .Name y p2] k tp) X.env] := by rfl)
    (a1 : (assignEach [.Name x p1, .Name y p2] X.env).map (·.2) = assign (.Name x p1) X.env :: (assignEach [.Name y p2] X.env).map (·.2) := by rfl) (a2 : (assignEach [.Name y p2] X.env).map (·.2) = assign (.Name y p2) X.env :: (assignEach [] X.env).map (·.2) := by rfl)
    (n1 : (assignEach [.Name x p1, .Name y p2] X.env).length = 2 := by rfl) (n2 : (assignEach [.Name x p1, .Name y p2] X.env).findIdx? (·.1) = none := by rfl) :
    PS X (.Assign [.Tuple [.Name x p1, .Name y p2] k tp] e pos) (tS X.K b W (fUnpX i j f)) := by
  have g : PG X (.Tuple [.Name x p1, .Name y p2] k tp) (fun v σ H Q => gTup X.K 2 (gCons (gName i) (gCons (gName j) gNil)) v σ H Q ∨ gUnl X.K 2 (gCons (gName i) (gCons (gName j) gNil)) v σ H Q) := pg_tl hc (pgs_cons (pg_name hN hx lx fx) (pgs_cons (pg_name hN hy ly fy) pgs_nil a2) a1) n1 n2
  refine PS.imp (ps_asg he g hs hw h1) fun Dn σ H ⟨ρ, G, r, q⟩ => ?_
  have q : PostS X.K b W G Dn (unpX i j (f ρ)) := q
  refine ⟨ρ, G, r, ?_⟩
  cases ef : f ρ with
  | stuck => rw [ef] at q; exact q.elim
  | raise c ρ1 => rw [ef] at q; exact q σ
  | ok sv ρ1 =>
    rw [ef] at q
    intro v G1 H1 r1 s1 d1
    have gen : ∀ {dx : D} {G2 : Hp}, Rel X.K b G2 H1 σ ρ1 → Same G1 G2 → Da X.K G2 v dx → PostS X.K b W G Dn (match bindP (.t [.n i, .n j]) dx ρ1 with | some ρ2 => .next ρ2 | none => .stuck) → (gTup X.K 2 (gCons (gName i) (gCons (gName j) gNil)) v σ H1 fun σ' H' => Dn.nx σ' H') ∨ gUnl X.K 2 (gCons (gName i) (gCons (gName j) gNil)) v σ H1 fun σ' H' => Dn.nx σ' H' := fun {dx G2} r2 s2 d2 q => by
      cases eb : bindP (.t [.n i, .n j]) dx ρ1 with
      | none => rw [eb] at q; exact q.elim
      | some ρ2 =>
        rw [eb] at q
        cases dx with
        | tuple xs =>
          cases d2 with
          | @tup a vs _ h1 h2 =>
            cases xs with
            | nil => simp [bindP, bindPs] at eb
            | cons x1 xs =>
              cases xs with
              | nil =>
                simp only [bindP, bindPs] at eb
                split at eb
                · cases eb
                · cases eb
              | cons x2 xs =>
                cases xs with
                | cons _ _ =>
                  simp only [bindP, bindPs] at eb
                  split at eb
                  · split at eb <;> cases eb
                  · cases eb
                | nil =>
                  cases h2 with
                  | cons d3 d4 =>
                    cases d4 with
                    | cons d4 d5 =>
                      cases d5
                      simp only [bindP, bindPs] at eb
                      split at eb
                      · rename_i ρ3 e3
                        split at e3
                        · rename_i c3
                          cases e3
                          split at eb
                          · rename_i ρ4 e4
                            split at e4
                            · rename_i c4
                              cases e4
                              cases eb
                              refine .inl ⟨a, _, rfl, seqT r2.le h1, rfl, ?_⟩
                              refine ⟨_, _, rfl, ⟨_, _, rfl, rfl, ?_⟩⟩
                              have r3 := (r2.assign (sv := .d x1) d3 c3).assign (sv := .d x2) d4 c4
                              exact q _ G2 H1 r3 (s1.trans s2)
                            · cases e4
                          · cases eb
                        · cases e3
                      · cases eb
        | list xs =>
          cases d2 with
          | @lst a vs _ h1 h2 =>
            cases xs with
            | nil => simp [bindP, bindPs] at eb
            | cons x1 xs =>
              cases xs with
              | nil =>
                simp only [bindP, bindPs] at eb
                split at eb
                · cases eb
                · cases eb
              | cons x2 xs =>
                cases xs with
                | cons _ _ =>
                  simp only [bindP, bindPs] at eb
                  split at eb
                  · split at eb <;> cases eb
                  · cases eb
                | nil =>
                  cases h2 with
                  | cons d3 d4 =>
                    cases d4 with
                    | cons d4 d5 =>
                      cases d5
                      simp only [bindP, bindPs] at eb
                      split at eb
                      · rename_i ρ3 e3
                        split at e3
                        · rename_i c3
                          cases e3
                          split at eb
                          · rename_i ρ4 e4
                            split at e4
                            · rename_i c4
                              cases e4
                              cases eb
                              refine .inr ⟨a, _, rfl, SqL.of (r2.le _ _ h1), rfl, ?_⟩
                              refine ⟨_, _, rfl, ⟨_, _, rfl, rfl, ?_⟩⟩
                              have r3 := (r2.assign (sv := .d x1) d3 c3).assign (sv := .d x2) d4 c4
                              exact q _ G2 H1 r3 (s1.trans s2)
                            · cases e4
                          · cases eb
                        · cases e3
                      · cases eb
        | _ => simp [bindP] at eb
    cases sv with
    | px c =>
      have q : PostS X.K b W G Dn (if rfAt ρ1 i = false then (if rfAt (ρ1.set i (some (.d .none))) j = false then .next ((ρ1.set i (some (.d .none))).set j (some (.ex c))) else .stuck) else .stuck) := q
      obtain ⟨c1, q⟩ := postS_if q
      obtain ⟨c2, q⟩ := postS_if q
      obtain ⟨a, u, rfl, h2, h3⟩ := d1
      refine .inl ⟨a, _, rfl, seqT r1.le h2, rfl, ?_⟩
      refine ⟨_, _, rfl, ⟨_, _, rfl, rfl, ?_⟩⟩
      have r3 := (r1.assign (v := .non) (sv := .d .none) .non c1).assign (v := .ref u) (sv := .ex c) ⟨u, rfl, h3⟩ c2
      exact q _ G1 H1 r3 s1
    | d x => exact gen r1 (Same.refl _) d1 q
    | ow l =>
      obtain ⟨G2, r2, s2, d2⟩ := r1.pub d1 rfl
      exact gen r2 s2 d2 q
    | rf l => exact d1.elim
    | on w => exact d1.elim
    | al j p => exact d1.elim
    | ex c => exact q.elim
    | fz l => exact q.elim
end
namespace S
end S
end Dl
set_option maxHeartbeats 4000000
/-! DlC: comprehensions whose element may raise. -/
namespace Dl
open PySem PySem.Spec L2 PyProof.Rows
/-- an exception that a call in the block's element lets out goes on behind the block -/
theorem block_fails {X : Cx} {W : WX} {pins : List (Addr × Obj)} {σ : L2.St} {H : Hp} {s : Shared} (hs : X.stack = X.env :: X.outer) (hf : X.env.frame = some X.env.locals) (tk : Takes X W) (I : Inv X pins σ H s) {C : Addr} (fC : FpOk X pins H C) {m : Str → Option Value} (nC : s.heap.Ns C m)
    {ce : Env} (hcl : ce.locals = C) (hcf : ce.frame = X.env.frame) {E : XK} (hW : ∀ cls d H', E cls d H' → W cls d σ H') {u : Value} {s' : Shared} (c : CX X.prog X.w X.stack H s E u s') :
    notedBy (model X.prog X.w) X.A ce (fun e s'' => CompFails (model X.prog X.w) X.A X.xe ce e s'') u s' := by
  obtain ⟨a, B, H', cls, d, rfl, fl, hok, ub, na, os, ag, hE⟩ := c
  obtain ⟨f0, f1, f2, f3, f4, f5⟩ := fC
  have nCf : C ∉ frs X.stack := fun z => by
    rcases List.mem_cons.mp (I.stkSub C z) with e | e
    · exact f1 e
    · exact f2 e
  obtain ⟨oC, es, ep, hoC, rC⟩ := nC
  have bC := ub.keep C oC hoC f0 nCf
  have ns' : s'.heap.Ns C m := ⟨oC, es, ep, fl.1 _ _ bC, rC⟩
  have hC' : H' C = none := ub.free C oC hoC f0
  -- the state without the exception
  obtain ⟨G, g1, g2⟩ := restrict s'.heap fun b => (B.get? b).isSome || decide (b ∈ frs X.stack)
  have st0 : B.StaysIn s'.heap := fl.1
  have inB : ∀ b o, B.get? b = some o → G.get? b = some o := fun b o e => (g1 b (by simp [e])).trans (st0 b o e)
  have inF : ∀ b, b ∈ frs X.stack → G.get? b = s'.heap.get? b := fun b hb => g1 b (by simp [hb])
  have ofG : ∀ b o, G.get? b = some o → s'.heap.get? b = some o ∧ ((B.get? b).isSome = true ∨ b ∈ frs X.stack) := fun b o e => by
    cases q : ((B.get? b).isSome || decide (b ∈ frs X.stack)) with
    | false => rw [g2 b q] at e; cases e
    | true => exact ⟨(g1 b q).symm.trans e, by simpa [Bool.or_eq_true] using q⟩
  have IG : Inv X pins σ H' { s with heap := G, gens := s'.gens, drawn := s'.drawn, toks := s'.toks } := by
    refine I.call (ch := []) ⟨fun b o e n hb _ => inB b o (ub.keep b o e n hb), fun b o e n hb _ => ?_, fun b o e n _ => ub.free b o e n, fun b o e _ => ?_, ub.tups, ub.frzs, ub.tbls⟩ (hok.kept inB) ag (fun _ z => nomatch z)
    · obtain ⟨sl, q⟩ := ub.slot b o e hb
      exact ⟨sl, (inF b hb).trans q⟩
    · by_cases hb : b ∈ frs X.stack
      · obtain ⟨sl, q⟩ := ub.slot b o e hb
        exact ⟨_, (inF b hb).trans q⟩
      · obtain ⟨o', q⟩ := ub.there b o e hb
        exact ⟨o', inB b o' q⟩
  -- noted at the def's frame
  show wpAny _ _ (noteFrame (.ref a) ce) _ _ s'
  rw [noteFrame_env _ hcf]
  have hfr : X.A.frames = some (X.env :: X.outer) := by rw [I.ok.frames, hs]
  have fl' : HandSPX.FlyingZ B (X.env :: X.outer) a (Zc cls d) s'.heap := hs ▸ fl
  refine HandSPX.looks_onZ Zc.steady hfr hf fl' fun h1 hh up1 => ?_
  subst hcl
  refine ⟨m, ns'.upToSlots up1, fun h2 m2 hn2 sb2 => ?_⟩
  obtain ⟨b1, b0, ff1, t1⟩ := hh
  have sb : ∀ b o, b ≠ ce.locals → h1.get? b = some o → h2.get? b = some o := fun b o hb e => (sb2.2 b hb).trans e
  -- the ground without the block's names
  have nB : ∀ b o, (PySem.W.hideAll B [ce.locals]).get? b = some o → B.get? b = some o ∧ b ≠ ce.locals := fun b o e => ⟨PySem.W.of_hideAll _ e, fun z => by
    rw [PySem.W.hideAll_none _ (by rw [z]; exact List.mem_singleton_self _)] at e; cases e⟩
  have nG : ∀ b o, (PySem.W.hideAll G [ce.locals]).get? b = some o → G.get? b = some o ∧ b ≠ ce.locals := fun b o e => ⟨PySem.W.of_hideAll _ e, fun z => by
    rw [PySem.W.hideAll_none _ (by rw [z]; exact List.mem_singleton_self _)] at e; cases e⟩
  have b2 : (PySem.W.hideAll B [ce.locals]).StaysIn h2 := fun b o e => sb b o (nB b o e).2 (b1 b o (nB b o e).1)
  have none2 : ∀ b, B.get? b = none → (PySem.W.hideAll B [ce.locals]).get? b = none := fun b e => by
    cases q : (PySem.W.hideAll B [ce.locals]).get? b with
    | none => rfl
    | some o => rw [(nB b o q).1] at e; cases e
  have nf1 : ∀ b, B.get? b = none → b ≠ ce.locals := fun b e z => by rw [z, bC] at e; cases e
  have ff2 : h2.FunFrames (PySem.W.hideAll B [ce.locals]) (X.env :: X.outer) := by
    have z : h1.FunFrames (PySem.W.hideAll B [ce.locals]) (X.env :: X.outer) := funFrames_none ff1 fun L hL => none2 L (ff1.mem hL).1
    exact Heap.FunFrames.sameBut sb2 hn2 z
  obtain ⟨oe, vs, T, oT, ts, he, hz, hd, hv1, hnT, hTe, hT, hdT, hv3⟩ := t1
  have t2 : HandSPX.TracedZ h2 (PySem.W.hideAll B [ce.locals]) a (Zc cls d) (rawInt X.env.locals) :=
    ⟨oe, vs, T, oT, ts, sb a oe (nf1 a b0) he, hz, hd, hv1, none2 T hnT, hTe, sb T oT (nf1 T hnT) hT, hdT, hv3⟩
  unfold PySem.passOn
  refine wpAny_bind (wpAny_field (sb a oe (nf1 a b0) he) hd hv1 ?_)
  rw [if_neg (show ¬ ((Value.ref T == Value.none) = true) from by simp)]
  rw [hcf, hf]
  refine wpAny_bind (HandSPX.setFlight_onZ ⟨b2, none2 a b0, ff2, t2⟩ fun h3 hh3 up3 => ?_)
  refine wpAny_throw ?_
  refine tk _ _ ⟨a, PySem.W.hideAll B [ce.locals], { s with heap := PySem.W.hideAll G [ce.locals], gens := s'.gens, drawn := s'.drawn, toks := s'.toks }, pins, σ, H', cls, d, rfl, ?_, fun b o e hb => ?_, ?_, .inr (.inr (hs ▸ hh3)), na, os, ag, hW _ _ _ hE⟩
  · exact IG.turned (t' := s'.toks) (fun b o hb e => PySem.W.hideAll_get _ e (by rw [List.mem_singleton]; exact hb)) hC' f1 f3 f4 f5
  · obtain ⟨e1, ne⟩ := nG b o e
    obtain ⟨e2, q⟩ := ofG b o e1
    rcases q with q | q
    · obtain ⟨o', q⟩ := Option.isSome_iff_exists.mp q
      have z := st0 b o' q
      rw [e2] at z; cases z
      exact PySem.W.hideAll_get _ q (by rw [List.mem_singleton]; exact ne)
    · exact absurd q hb
  · refine Heap.UpToSlots.trans (h₂ := h2) ?_ up3
    intro b o e hnf
    obtain ⟨e1, ne⟩ := nG b o e
    obtain ⟨sl, e3⟩ := up1 b o (ofG b o e1).1 hnf
    exact ⟨sl, sb b _ ne e3⟩

/-- the block's context, its exceptions told by E -/
abbrev blkX (X : Cx) (E : XK) (s : Shared) (H : Hp) (scope : Scope) (cenv : Env) (fp : List Addr) : Cx :=
  { X.blk s H scope cenv fp with xe := fun u s' => ∃ (pins : List (Addr × Obj)) (σ1 : L2.St) (H1 : Hp) (s1 : Shared), Inv (X.blk s H scope cenv fp) pins σ1 H1 s1 ∧ CX X.prog X.w X.stack H1 s1 E u s' }
theorem Inv.xe {X : Cx} {xe : Value → Shared → Prop} {pins : List (Addr × Obj)} {σ : L2.St} {H : Hp} {s : Shared} (I : Inv X pins σ H s) : Inv { X with xe := xe } pins σ H s := by
  obtain ⟨⟨a1, a2, a3, a4, a5, a6, a7, a8, a9, a10, a11, a12, a13, a14, a15, a16, a17, a18⟩, b1, b2, b3, b4, b5, b6, b7, b8, b9, b10⟩ := I
  exact ⟨⟨a1, a2, a3, a4, a5, a6, a7, a8, a9, a10, a11, a12, a13, a14, a15, a16, a17, a18⟩, b1, b2, b3, b4, b5, b6, b7, b8, b9, b10⟩
theorem Inv.unxe {X : Cx} {xe : Value → Shared → Prop} {pins : List (Addr × Obj)} {σ : L2.St} {H : Hp} {s : Shared} (I : Inv { X with xe := xe } pins σ H s) : Inv X pins σ H s := by
  obtain ⟨⟨a1, a2, a3, a4, a5, a6, a7, a8, a9, a10, a11, a12, a13, a14, a15, a16, a17, a18⟩, b1, b2, b3, b4, b5, b6, b7, b8, b9, b10⟩ := I
  exact ⟨⟨a1, a2, a3, a4, a5, a6, a7, a8, a9, a10, a11, a12, a13, a14, a15, a16, a17, a18⟩, b1, b2, b3, b4, b5, b6, b7, b8, b9, b10⟩
theorem lets_blk {X : Cx} {E : XK} {s : Shared} {H : Hp} {scope : Scope} {cenv : Env} {fp : List Addr} : Lets (blkX X E s H scope cenv fp) (fun cls d _ H => E cls d H) := fun σ pins H1 s1 e s' I c => ⟨pins, σ, H1, s1, Inv.unxe I, c⟩
/-- [elt for tg in iter if ..], where the element may let an exception out -/
theorem pe_lcX {X : Cx} {W : WX} {elt tg iter : Expr} {ifs : List Expr} {scope : Scope} {own : List (Str × Nat)} {pos : Pos} {wi : TI} {g : TG} {tt : TT} {te : XK → TE} (hc : X.calm = true) (hs : X.stack = X.env :: X.outer) (hf : X.env.frame = some X.env.locals) (tk : Takes X W) (hN : X.N.Nodup) (hi : PI X tg iter wi) (ok : BlkOk X.N X.env.scope scope own)
    (hg : ∀ (s : Shared) (H : Hp) (C : Addr) (cl : List (Str × Addr)) (fp : List Addr), PG (X.blk s H scope (compEnvC scope cl C X.env) fp) tg g)
    (ht : ∀ (s : Shared) (H : Hp) (C : Addr) (cl : List (Str × Addr)) (fp : List Addr), PTs (X.blk s H scope (compEnvC scope cl C X.env) fp) ifs tt)
    (he : ∀ (E : XK) (s : Shared) (H : Hp) (C : Addr) (cl : List (Str × Addr)) (fp : List Addr), PE (blkX X E s H scope (compEnvC scope cl C X.env) fp) elt (te E)) (hfold : ∀ x, foldedSetIterable iter X.env x = pure x := by intro _; rfl) :
    PE X (.ListComp elt [⟨tg, iter, ifs, 0⟩] scope pos) (fun σ H Q => tLc wi g tt (te fun cls d H => W cls d σ H) (own.map (·.2)) σ H Q) := by
  refine ⟨fun pins s σ H Q I hq => ?_⟩
  rw [eval_ListComp]
  have closed : ∀ y ∈ scope.names, y.2 = .free → ∃ c, X.env.cells.lookup y.1 = some c := fun y hy e => (ok.free y hy e).elim (fun k => I.ok.has _ (.inl k)) (fun k => I.ok.has _ (.inr k))
  refine comprehension_at (use := none) rfl hfold (closure_ok closed) ok.kind (fun y hy e => (ok.uniq y hy).trans (by rw [e])) (thn (hi.run pins s σ H _ I hq) fun xv sa ha => thn ha fun itv sb hb => ?_)
  obtain ⟨it, fp, tn, J, Hb, e, Ib, T, stb, fb, q⟩ := hb
  subst e
  refine wpAny_newObj_type (newEnv_comp ?_) (by show 0 ≤ sizeLine; decide)
  generalize hD : sb.heap.objs.size = D
  have nD : Hb D = none := Ib.hok.fresh (Nat.le_of_eq hD)
  obtain ⟨Wv, ⟨m0, w0⟩, turn⟩ := q D nD
  generalize hsc : ({ sb with heap := sb.heap.push { cls := .type "list", data := .seq ([] : List Value).toArray } } : Shared) = sc
  have hpc : sc.heap = sb.heap.push { cls := .type "list", data := .seq ([] : List Value).toArray } := by rw [← hsc]
  have Ic : Inv X pins σ (upd Hb D (.lst [])) sc := by
    rw [← hsc]
    refine Ib.laid (t' := sb.toks) (fun b o e => Heap.get?_push_of_some _ e) (Nat.le_of_eq hD) ⟨Nat.zero_le _, [], 0, .nil, ?_⟩
    rw [← hD]
    exact Heap.get?_push_size _ rfl
  have small : ∀ b ∈ fp, b < sb.heap.objs.size := fun b hb => (T.obj _ _ stb b hb).elim fun o ⟨e, _⟩ => Heap.lt_size e
  have fc : ∀ b ∈ fp, FpOk X pins (upd Hb D (.lst [])) b ∧ b < sc.heap.objs.size := fun b hb => by
    have lt := small b hb
    have ne : b ≠ D := by rw [← hD]; exact Nat.ne_of_lt lt
    exact ⟨⟨by rw [upd_ne ne]; exact (fb b hb).1, (fb b hb).2⟩, by rw [hpc, Heap.size_push]; exact Nat.lt_succ_of_lt lt⟩
  have stc : tn 0 sc.heap := T.keep _ _ _ stb fun b _ o e => by rw [hpc]; exact Heap.get?_push_of_some _ e
  have Id := block_start Ic ok hN fc
  have pg := hg sc (upd Hb D (.lst [])) sc.heap.objs.size (cellsFrom (sc.heap.objs.size + 1) scope.names (cloFrom X.env.cells scope.names [])) fp
  have pt := ht sc (upd Hb D (.lst [])) sc.heap.objs.size (cellsFrom (sc.heap.objs.size + 1) scope.names (cloFrom X.env.cells scope.names [])) fp
  have pe := he (fun cls d H => W cls d σ H) sc (upd Hb D (.lst [])) sc.heap.objs.size (cellsFrom (sc.heap.objs.size + 1) scope.names (cloFrom X.env.cells scope.names [])) fp
  show codeAny _ _ (.compStart (.ListComp elt [⟨tg, iter, ifs, 0⟩] scope pos) 0 (.ref it) (.ref D) (compEnvC scope (cellsFrom (sc.heap.objs.size + 1) scope.names (cloFrom X.env.cells scope.names [])) sc.heap.objs.size X.env))
    (compEnds (model X.prog X.w) X.A X.xe none (EP X pins σ Q) (.ref D) (compEnvC scope (cellsFrom (sc.heap.objs.size + 1) scope.names (cloFrom X.env.cells scope.names [])) sc.heap.objs.size X.env)) { sc with heap := pushCells (sc.heap.push { cls := .type "dict", data := .dict #[] }) scope.names }
  have nfp : ∀ b ∈ fp, (upd Hb D (.lst [])) b = none := fun b hb => (fc b hb).1.1
  generalize hce : compEnvC scope (cellsFrom (sc.heap.objs.size + 1) scope.names (cloFrom X.env.cells scope.names [])) sc.heap.objs.size X.env = ce at Id pg pt pe ⊢
  have cL : ce.locals = sc.heap.objs.size := by subst hce; rfl
  have cF : ce.frame = X.env.frame := by subst hce; rfl
  generalize hHc : upd Hb D (.lst []) = Hc at Ic Id pg pt pe w0 nfp fc
  generalize hsd : ({ sc with heap := pushCells (sc.heap.push { cls := .type "dict", data := .dict #[] }) scope.names } : Shared) = sd at Id ⊢
  have std : tn 0 sd.heap := T.keep _ _ _ stc fun b _ o e => by rw [← hsd]; exact pushCells_keeps _ _ _ _ (Heap.get?_push_of_some _ e)
  have steady : ∀ {σ' : L2.St} {H' : Hp} {s' : Shared}, Inv (X.blk sc Hc scope ce fp) [] σ' H' s' → (∀ b ∈ fp, H' b = none) → ∀ b ∈ fp, FpOk (X.blk sc Hc scope ce fp) [] H' b := fun I' hn b hb =>
    ⟨hn b hb, (I'.ok.exf b hb).1, I'.ok.exfs b hb, .inl hb, fun x c e => (I'.ok.exf b hb).2 x c e, fun p hp => absurd (show p ∈ ([] : List (Addr × Obj)) ++ [] from hp) (by simp)⟩
  -- back in the def's context, at any time
  have outer : ∀ {pins' : List (Addr × Obj)} {σ' : L2.St} {H' : Hp} {s' : Shared}, Inv (X.blk sc Hc scope ce fp) pins' σ' H' s' → Inv X pins σ H' s' ∧ FpOk X pins H' sc.heap.objs.size ∧ ∃ m, s'.heap.Ns sc.heap.objs.size m := fun {pins' σ' H' s'} I' => by
    have z : H' ce.locals = none := I'.free
    rw [cL] at z
    obtain ⟨m, hn, _⟩ := I'.loc
    have hn : s'.heap.Ns ce.locals m := hn
    rw [cL] at hn
    exact ⟨Ic.call' (ch := fp) I'.os I'.base I'.hok I'.bare fun b hb => ⟨(fc b hb).1.2.2.2.1, (fc b hb).1.2.1, (fc b hb).1.2.2.2.2.1, (fc b hb).1.2.2.2.2.2⟩, Ic.fpOk (Nat.le_refl _) z, m, hn⟩
  have loop : codeAny (model X.prog X.w) X.A (.compLoop (.ListComp elt [⟨tg, iter, ifs, 0⟩] scope pos) 0 (.ref it) (.ref D) ce) (compEnds (model X.prog X.w) X.A X.xe none (EP X pins σ Q) (.ref D) ce) sd := by
    refine compLoop_any (fun n s' => ∃ i H', Inv (X.blk sc Hc scope ce fp) [] (wipe σ (own.map (·.2))) H' s' ∧ tn i s'.heap ∧ (∀ b ∈ fp, H' b = none) ∧ Wv i n H') ?_ m0 ⟨0, Hc, Id, std, nfp, w0⟩
    rintro n se ⟨i, He, Ie, ste, ne, we⟩
    rcases turn i n He we with ⟨stop, qq⟩ | ⟨go, Nx, hNx, step⟩
    · refine thnF (T.done (X.blk sc Hc scope ce fp) rfl rfl rfl hc i [] se _ He (fun _ _ => False) Ie (steady Ie ne) ste stop) fun r sf ⟨hr, If⟩ => ?_
      subst hr
      obtain ⟨Io, ⟨f0, f1, f2, f3, f4, f5⟩, m, hn⟩ := outer If
      refine ⟨m, by rw [cL]; exact hn, fun h'' same => ?_⟩
      rw [cL] at same
      exact ⟨.ref D, He, Io.turned (t' := sf.toks) (fun b o hb e => (same.2 b hb).trans e) f0 f1 f3 f4 f5, rfl, qq⟩
    · refine thnF (T.item (X.blk sc Hc scope ce fp) rfl rfl rfl hc i [] se _ He (fun _ _ => False) Ie (steady Ie ne) ste go) fun r sf ⟨u, hr, hfz⟩ => ?_
      subst hr
      refine thnF hfz fun _ sg ⟨x, Hg, Ig, rg, yg, stg, ng⟩ => ?_
      have Ig' := Ig.pinned (steady Ig ng) (T.obj _ _ stg)
      refine thnF (pg.run _ sg _ Hg x u _ Ig' rg (step x Hg yg)) fun _ sh ⟨σh, Hh, Ih, hwh, qh⟩ => ?_
      refine thnF (pt.run _ sh σh Hh _ Ih qh) fun b si ⟨Hi, Ii, qi⟩ => ?_
      have fin : ∀ {s' : Shared} {H' : Hp}, Inv (X.blk sc Hc scope ce fp) ([] ++ pinsAt fp sg.heap) σh H' s' → Nx H' → ∃ m, m < n ∧ ∃ i H', Inv (X.blk sc Hc scope ce fp) [] (wipe σ (own.map (·.2))) H' s' ∧ tn i s'.heap ∧ (∀ b ∈ fp, H' b = none) ∧ Wv i m H' := fun {s' H'} I' nx => by
        obtain ⟨m', hm, w'⟩ := hNx H' nx
        have kept : ∀ b ∈ fp, ∀ o, sg.heap.get? b = some o → s'.heap.get? b = some o ∧ H' b = none := fun b hb o e =>
          have z := I'.pin (b, o) (List.mem_append_right _ (List.mem_append_right _ (mem_pinsAt hb e)))
          ⟨z.1, z.2.1⟩
        have len : (wipe σ (own.map (·.2))).length = σh.length := by rw [← hwh, wipe_length]
        refine ⟨m', hm, i + 1, H', (I'.unpinned (pins := [])).weak len (fun j v e => (wipe_some (by rw [hwh]; exact e)).1), T.keep _ _ _ stg fun b hb o e => (kept b hb o e).1, fun b hb => ?_, w'⟩
        obtain ⟨o, e, _⟩ := T.obj _ _ stg b hb
        exact (kept b hb o e).2
      cases b with
      | false =>
        simp only [Bool.false_eq_true, if_false] at qi ⊢
        exact fin Ii qi
      | true =>
        simp only [if_true] at qi ⊢
        refine wpAny_mono (pe.run _ si σh Hi _ (Inv.xe Ii) qi) (fun z sj ⟨yv, Hj, Ij, rj, acc, hDj, hzj, nx⟩ => ?_) fun u2 s2 ⟨p2, σ2, H2, s3, I2, c2⟩ => ?_
        · exact app_ok (X := X.blk sc Hc scope ce fp) (Inv.unxe Ij) hDj hzj rj fun sk Ik => fin Ik nx
        · obtain ⟨Io, fC, m, hn⟩ := outer I2
          exact block_fails hs hf tk Io fC hn cL cF (fun cls d H' h => h) c2
  exact codeAny_compStart_list loop (T.self X.A 0 _ _ _ std loop)
end Dl
set_option maxHeartbeats 4000000
/-! DlD: comprehensions whose element may raise, on data. -/
namespace Dl
open PySem PySem.Spec L2
inductive LcR where
  | ok (ys : List D) (ρ : Ev)
  | raise (c : Nat) (ρ : Ev)
  | stuck
def LcR.cons (y : D) : LcR → LcR
  | .ok ys ρ => .ok (y :: ys) ρ
  | r => r
def lcX (vs : List Nat) (p : Pat) (fe : Ev → RE) : List D → Ev → LcR
  | [], ρ => .ok [] ρ
  | x :: xs, ρ => match bindP p x ρ with
    | none => .stuck
    | some ρ1 => match fe ρ1 with
      | .ok sv ρ3 => match sv.dat? with
        | some y => (lcX vs p fe xs (wipeE ρ3 vs)).cons y
        | none => .stuck
      | .raise c ρ3 => .raise c (wipeE ρ3 vs)
      | .stuck => .stuck
def lcXo (vs : List Nat) (ρ1 : Ev) : LcR → RE
  | .ok ys ρ2 => .ok (.ow ys) (backE ρ1 ρ2 vs)
  | .raise c ρ2 => .raise c (backE ρ1 ρ2 vs)
  | .stuck => .stuck
def lcXk (vs : List Nat) (p : Pat) (fe : Ev → RE) : RI → RE
  | .ok xs ρ1 => if okW ρ1 vs = true ∧ xs.length ≤ sizeLine then lcXo vs ρ1 (lcX vs p fe xs (wipeE ρ1 vs)) else .stuck
  | .raise c ρ1 => .raise c ρ1
  | .stuck => .stuck
def fLcX (src : Ev → RI) (vs : List Nat) (p : Pat) (fe : Ev → RE) : Ev → RE := fun ρ => lcXk vs p fe (src ρ)
def tEY (K : PySem.W.Frag) (cl : Nat → Addr) (f : Ev → RE) (E : XK) : TE := fun σ H Q => ∃ b : Bx, b.cl = cl ∧ tE K b (fun c d _ H => E c d H) f σ H Q
/-- what is left of the walk: behind the items accd the rest of the list gives what the whole gives -/
def Rest (whole : LcR) (accd : List D) : LcR → Prop
  | .ok ys ρ => whole = .ok (accd ++ ys) ρ
  | .raise c ρ => whole = .raise c ρ
  | .stuck => False
section
variable {X : Cx} {b : Bx} {W : WX} {K : PySem.W.Frag}
theorem lcX_post {src : Ev → RI} {vs : List Nat} {p : Pat} {fe : Ev → RE} (hp : ∀ i ∈ pvars p, i ∈ vs) : ∀ σ H Q, tE K b W (fLcX src vs p fe) σ H Q → tLc (tI K b W src) (gX K b.cl p) (tTX K b.cl fYes) (tEY K b.cl fe fun c d H => W c d σ H) vs σ H Q := by
  rintro σ H Q ⟨ρ, G, r, q⟩
  refine ⟨ρ, G, r, ?_⟩
  cases e0 : src ρ with
  | stuck => simp only [fLcX, e0] at q; exact q
  | raise c ρ1 => simp only [fLcX, e0] at q; exact q
  | ok xs ρ1 =>
    simp only [fLcX, e0] at q
    intro J G1 H1 r1 s1 o1 D hD
    obtain ⟨⟨hw, hsz⟩, q⟩ := postE_if (show PostE K b W G σ Q (if okW ρ1 vs = true ∧ xs.length ≤ sizeLine then lcXo vs ρ1 (lcX vs p fe xs (wipeE ρ1 vs)) else .stuck) from q)
    generalize el : lcX vs p fe xs (wipeE ρ1 vs) = whole at q
    have htD : b.T D = none := r1.t0 hD
    have rD : Rel K b G1 (upd H1 D (.lst [])) σ ρ1 := r1.ext (Ext.updH r1.le hD (.lst []))
    have noD : ∀ i, ¬ Owns σ ρ1 i D := fun i ⟨z1, l, z2⟩ => by
      rcases z2 with z2 | z2 <;> (obtain ⟨v, h1, a, ys, e1, h2, _⟩ := r1.slot _ _ z2; rw [z1] at h1; cases h1; cases e1; rw [hD] at h2; cases h2)
    have rW : Rel K (b.hold D (.lst [])) G1 (upd H1 D (.lst [])) (wipe σ vs) (wipeE ρ1 vs) := (rD.hold upd_same (r1.g0 hD) (r1.h0 hD) noD htD).wipe hw
    have st0 : Rest whole [] (lcX vs p fe xs (wipeE ρ1 vs)) := by
      rw [el]
      cases whole with
      | ok ys ρe => rfl
      | raise c ρe => rfl
      | stuck => exact q.elim
    refine ⟨fun i m H => m = xs.length - i ∧ i ≤ xs.length ∧ ∃ ρ G acc accd, accd.length = i ∧ Rel K (b.hold D (.lst acc)) G H (wipe σ vs) ρ ∧ Same G1 G ∧ DaAll K G acc accd ∧ Rest whole accd (lcX vs p fe (xs.drop i) ρ),
      ⟨xs.length, by simp, Nat.zero_le _, wipeE ρ1 vs, G1, [], [], rfl, rW, Same.refl _, .nil, st0⟩, ?_⟩
    rintro i m H2 ⟨rfl, hi, ρ2, G2, acc, accd, hla, r2, s2, d2, e2⟩
    by_cases hlt : i < xs.length
    · refine .inr ⟨o1.go i H2 (s2.trans r2.le) hlt, fun H => i + 1 ≤ xs.length ∧ ∃ ρ G acc accd, accd.length = i + 1 ∧ Rel K (b.hold D (.lst acc)) G H (wipe σ vs) ρ ∧ Same G1 G ∧ DaAll K G acc accd ∧ Rest whole accd (lcX vs p fe (xs.drop (i + 1)) ρ),
        fun H' z => ⟨xs.length - (i + 1), by omega, rfl, z.1, z.2⟩, fun x H3 y => ?_⟩
      have ed : xs.drop i = xs[i] :: xs.drop (i + 1) := List.drop_eq_getElem_cons hlt
      rw [ed] at e2
      obtain ⟨G3, r3, s3, d3⟩ := o1.step r2 s2 (List.getElem?_eq_getElem hlt) y
      cases e1 : bindP p xs[i] ρ2 with
      | none => simp only [lcX, e1] at e2; exact e2.elim
      | some ρ3 =>
        simp only [lcX, e1] at e2
        refine ⟨b.hold D (.lst acc), rfl, ρ2, G3, xs[i], r3, d3, ρ3, e1, fun σ4 r4 ag => ?_⟩
        have ag' : Agree vs (wipe σ vs) σ4 := ⟨ag.1, fun j hj => ag.2 j fun z => hj (hp j z)⟩
        have ew : wipe σ4 vs = wipe σ vs := wipe_agree ag'
        have ok4 : ∀ {G4 H4 ρ4 o}, Rel K (b.hold D o) G4 H4 σ4 ρ4 → okW ρ4 vs = true := fun {G4 H4 ρ4 o} r5 => by
          refine List.all_eq_true.mpr fun j hj => ?_
          have q1 : rfAt ρ1 j = false := by
            have z := List.all_eq_true.mp hw j hj
            cases e : rfAt ρ1 j with
            | false => rfl
            | true => rw [e] at z; cases z
          cases e : rfAt ρ4 j with
          | false => rfl
          | true =>
            obtain ⟨a, hB⟩ := r5.rfB e
            obtain ⟨l, _, h2⟩ := r1.byr _ hB
            exact absurd h2 (no_rf q1 l)
        refine ⟨ew, b.hold D (.lst acc), rfl, ρ3, G3, r4, ?_⟩
        intro G4 H4 r5 s5
        rw [if_pos rfl]
        refine ⟨b.hold D (.lst acc), rfl, ρ3, G4, r5, ?_⟩
        cases e4 : fe ρ3 with
        | stuck => simp only [e4] at e2; exact e2.elim
        | raise c ρ5 =>
          simp only [e4] at e2
          have e2 : whole = .raise c (wipeE ρ5 vs) := e2
          rw [e2] at q
          intro G5 H5 r6 s6
          have r7 := r6.wipe (ok4 r6)
          rw [ew] at r7
          obtain ⟨r8, a1, a2, a3, a4⟩ := r7.unhold htD
          obtain ⟨r9, ob⟩ := Rel.back r1 r8 (((s2.trans s3).trans s5).trans s6) hw
          exact q G5 H5 r9 ((((s1.trans s2).trans s3).trans s5).trans s6)
        | ok sv ρ5 =>
          simp only [e4] at e2
          intro u G5 H5 r6 s6 d6
          cases e5 : sv.dat? with
          | none => simp only [e5] at e2; exact e2.elim
          | some w =>
            simp only [e5] at e2
            obtain ⟨G6, r7, s7, d7⟩ := r6.pub d6 e5
            obtain ⟨r8, a1, a2, a3, a4⟩ := r7.unhold htD
            have la : acc.length = accd.length := d2.length
            have e6 : Rest whole (accd ++ [w]) (lcX vs p fe (xs.drop (i + 1)) (wipeE ρ5 vs)) := by
              cases eq : lcX vs p fe (xs.drop (i + 1)) (wipeE ρ5 vs) with
              | stuck => rw [eq] at e2; exact e2.elim
              | raise c ρ6 => rw [eq] at e2; exact e2
              | ok ys ρ6 =>
                rw [eq] at e2
                have e2 : whole = .ok (accd ++ (w :: ys)) ρ6 := e2
                show whole = .ok ((accd ++ [w]) ++ ys) ρ6
                rw [e2, List.append_assoc]
                rfl
            have lt : acc.length < sizeLine := by omega
            refine ⟨acc, a1, lt, hlt, wipeE ρ5 vs, G6, acc ++ [u], accd ++ [w], by rw [List.length_append, List.length_singleton, hla], ?_, ((s2.trans s3).trans s5).trans (s6.trans s7), (DaAll.mono (s3.trans (s5.trans (s6.trans s7))) d2).append (.cons d7 .nil), e6⟩
            have r9 : Rel K b G6 (upd H5 D (.lst (acc ++ [u]))) σ4 ρ5 := r8.setTmp a2 a3 htD a4
            have r10 := (r9.hold (o := .lst (acc ++ [u])) upd_same a2 a3 a4 htD).wipe (ok4 r7)
            rw [ew] at r10
            exact r10
    · have e : i = xs.length := by omega
      subst e
      rw [List.drop_length] at e2
      have e2 : whole = .ok (accd ++ []) ρ2 := e2
      rw [List.append_nil] at e2
      rw [e2] at q
      obtain ⟨r8, a1, a2, a3, a4⟩ := r2.unhold htD
      obtain ⟨r9, ob⟩ := Rel.back r1 r8 s2 hw
      exact .inl ⟨o1.stop _ H2 (s2.trans r2.le) (Nat.le_refl _), q _ G2 H2 r9 (s1.trans s2) ⟨D, acc, rfl, a1, a2, a3, htD, fun j z => a4 j (ob j D z), d2⟩⟩
theorem e_lcX {elt tg iter : Expr} {scope : Scope} {own : List (Str × Nat)} {pos : Pos} {src : Ev → RI} {p : Pat} {fe : Ev → RE} (hc : X.calm = true) (hs : X.stack = X.env :: X.outer) (hf : X.env.frame = some X.env.locals) (tk : Takes X W) (hN : X.N.Nodup) (hp : ∀ i ∈ pvars p, i ∈ own.map (·.2)) (hi : PI X tg iter (tI X.K b W src)) (ok : BlkOk X.N X.env.scope scope own)
    (hg : ∀ (s : Shared) (H : Hp) (C : Addr) (cs : List (Str × Addr)) (fp : List Addr) (b' : Bx), b'.cl = b.cl → PG (Blk X s H scope cs C fp) tg (gP X.K b' p))
    (he : ∀ (E : XK) (s : Shared) (H : Hp) (C : Addr) (cs : List (Str × Addr)) (fp : List Addr) (b' : Bx), b'.cl = b.cl → PE (blkX X E s H scope (compEnvC scope cs C X.env) fp) elt (tE X.K b' (fun c d _ H => E c d H) fe)) (hfold : ∀ x, foldedSetIterable iter X.env x = pure x := by intro _; rfl) :
    PE X (.ListComp elt [⟨tg, iter, [], 0⟩] scope pos) (tE X.K b W (fLcX src (own.map (·.2)) p fe)) :=
  PE.imp (pe_lcX (te := tEY X.K b.cl fe) hc hs hf tk hN hi ok (fun s H C cl fp => PG.ex (hg s H C cl fp)) (fun s H C cl fp => PTs.ex fun b' _ => ts_nil) (fun E s H C cl fp => ⟨fun pins s' σ H' Q I ⟨b', hb, q⟩ => (he E s H C cl fp b' hb).run pins s' σ H' Q I q⟩) hfold) (lcX_post hp)
end
namespace S
variable {ρ ρ1 : Ev} {x y : D} {l : List D}
theorem fLcX_eq {s vs p fe} : fLcX s vs p fe ρ = lcXk vs p fe (s ρ) := nrfl
theorem xk_ok {vs p fe} : lcXk vs p fe (.ok l ρ) = if okW ρ vs = true ∧ l.length ≤ sizeLine then lcXo vs ρ (lcX vs p fe l (wipeE ρ vs)) else .stuck := nrfl
theorem xo_ok {vs} : lcXo vs ρ1 (.ok l ρ) = .ok (.ow l) (backE ρ1 ρ vs) := nrfl
theorem xo_r {vs c} : lcXo vs ρ1 (.raise c ρ) = .raise c (backE ρ1 ρ vs) := nrfl
theorem x_nil {vs p fe} : lcX vs p fe [] ρ = .ok [] ρ := nrfl
def xE (vs : List Nat) (p : Pat) (fe : Ev → RE) (xs : List D) : RE → LcR
  | .ok (.d y) ρ3 => (lcX vs p fe xs (wipeE ρ3 vs)).cons y
  | .ok (.ow l) ρ3 => (lcX vs p fe xs (wipeE ρ3 vs)).cons (.list l)
  | .ok _ _ => .stuck
  | .raise c ρ3 => .raise c (wipeE ρ3 vs)
  | .stuck => .stuck
def xB (vs : List Nat) (p : Pat) (fe : Ev → RE) (xs : List D) : Option Ev → LcR
  | some ρ1 => xE vs p fe xs (fe ρ1)
  | none => .stuck
theorem x_cons {vs p fe} : lcX vs p fe (x :: l) ρ = xB vs p fe l (bindP p x ρ) := by
  rw [lcX]
  unfold xB xE
  cases bindP p x ρ with
  | none => rfl
  | some ρ1 =>
    dsimp only
    cases fe ρ1 with
    | raise c ρ2 => rfl
    | stuck => rfl
    | ok sv ρ3 => cases sv <;> rfl
theorem xB_s {vs p fe} : xB vs p fe l (some ρ) = xE vs p fe l (fe ρ) := nrfl
theorem xE_d {vs p fe} : xE vs p fe l (.ok (.d y) ρ) = (lcX vs p fe l (wipeE ρ vs)).cons y := nrfl
theorem xE_r {vs p fe c} : xE vs p fe l (.raise c ρ) = .raise c (wipeE ρ vs) := nrfl
theorem xc_ok : (LcR.ok l ρ).cons y = .ok (y :: l) ρ := nrfl
theorem xc_r {c} : (LcR.raise c ρ).cons y = .raise c ρ := nrfl
end S
end Dl
set_option maxHeartbeats 4000000
/-! DlE: enumerate of lists and tuples, zip. -/
namespace Dl
open PySem PySem.Spec L2
open PySem.Sem (wp)
open AutoSeq1 (wpAny_loadPart')
theorem newT_enum (q : Addr) (els : Array Value) (m : Nat) (di : Option Addr) (ss : Array (Option Value)) :
    Meets (Builtin.«enumerate.__new__» ⟨[.type "enumerate", .ref q], []⟩) (fun _ R s => s.heap.get? q = some { cls := .type "tuple", dict := di, data := .seq els m, slots := ss } ∧
      R (.ok (.ret (.ref (s.heap.push { cls := .type "tuple_iterator", data := .fields #[.ref q, .int 0 0] }).objs.size)))
        { s with heap := (s.heap.push { cls := .type "tuple_iterator", data := .fields #[.ref q, .int 0 0] }).push { cls := .type "enumerate", data := .fields #[.none, .bool false, .ref s.heap.objs.size, rawInt 0, .none, .none] } }) :=
  .of_wp fun _ _ _ _ st => fun ⟨at', nxt⟩ => by
    have isT : st.heap.IsTuple q els := ⟨_, at', rfl, _, rfl⟩
    rcases st with ⟨hp, g, d, tk, os⟩
    have sb := sub_enumerate
    wp_walk using wpAny_loadPart' at'
    refine wpAny_stack_any fun _ => wpAny_pure ?_
    split
    · rename_i c _ _ _ _ _
      cases (c == Value.type "enumerate") <;>
        (wp_walk using wpAny_loadPart' at', wpAny_pyIter_tuple isT
         exact ⟨_, rfl, nxt⟩)
    · wp_walk using wpAny_loadPart' at', wpAny_pyIter_tuple isT
      exact ⟨_, rfl, nxt⟩
theorem drawT {P : Program} {w : World} {A : Around} (hh : A.handled = none) {I q : Addr} (hq : q ≠ I) (els : Array Value) :
    Draws P w A I [I, q] els.size (fun i v => els[i]? = some v) (fun i h => h.IsTupleIter I q i ∧ h.IsTuple q els) where
  live := fun _ _ ⟨⟨o, ho, _⟩, _⟩ => ⟨o, ho⟩
  frame := fun _ _ _ ⟨p1, p2⟩ k => ⟨p1.at fun o e => k I (by simp) o e, p2.at fun o e => k q (by simp) o e⟩
  item := fun i _ _ _ hi ⟨p1, p2⟩ go => RZ.nextOf_tuple_item p1 p2 (x := els[i]) (by simp [hi]) fun h' p sb =>
    go els[i] h' _ (by simp [hi]) ⟨p, p2.extBut sb.extBut hq⟩ sb
  done := fun _ _ _ ⟨p1, p2⟩ go => RZ.nextOf_tuple_end hh p1 p2 (by simp) go
theorem drawEnd {P : Program} {w : World} {A : Around} (hh : A.handled = none) {I q : Addr} (hq : q ≠ I) {els : Array Value} {n : Nat} (hn : els.size ≤ n) :
    Draws P w A I [I, q] n (fun _ _ => True) (fun i h => i = n ∧ h.IsTupleIter I q n ∧ h.IsTuple q els) where
  live := fun _ _ ⟨_, ⟨o, ho, _⟩, _⟩ => ⟨o, ho⟩
  frame := fun _ _ _ ⟨e, p1, p2⟩ k => ⟨e, p1.at fun o z => k I (by simp) o z, p2.at fun o z => k q (by simp) o z⟩
  item := fun i _ _ _ hi ⟨e, _⟩ _ => absurd e (Nat.ne_of_lt hi)
  done := fun _ _ _ ⟨_, p1, p2⟩ go => RZ.nextOf_tuple_end hh p1 p2 (by simp [hn]) go
section
variable {P : Program} {w : World} {A : Around} {E : Value → Shared → Prop} {s : Shared}
theorem call_enumT {q : Addr} {els : Array Value} {Q : Value → Shared → Prop} (hT : s.heap.IsTuple q els)
    (go : ∀ h', IsEnum h' (s.heap.objs.size + 1) s.heap.objs.size 0 .none → h'.IsTupleIter s.heap.objs.size q 0 → (∀ b o, s.heap.get? b = some o → h'.get? b = some o) → Q (.ref (s.heap.objs.size + 1)) { s with heap := h' }) :
    wpAny (model P w) A (call (.type "enumerate") [.ref q]) Q E s := by
  obtain ⟨⟨ty, di, da, ss⟩, at', c1, m, c2⟩ := hT
  cases (show ty = .type "tuple" from c1)
  cases (show da = .seq els m from c2)
  refine callType_new F.called_enumerate (by decide) (F.typeCall_enumerate_1 _) (F.newCall_enumerate_1 _) (fun obj => F.args_object_init_2 obj _) F.entry_enumerate_new (newT_enum q els m di ss) ⟨at', ?_⟩
  generalize ei : Obj.mk (.type "tuple_iterator") none (.fields #[.ref q, .int 0 0]) #[] = oi
  have z1 : (s.heap.push oi).objs.size = s.heap.objs.size + 1 := Heap.size_push ..
  have k1 := Heap.get?_push_size s.heap (o := oi) (by subst ei; rfl)
  show _ ∧ _
  rw [z1]
  generalize eo : Obj.mk (.type "enumerate") none (.fields #[.none, .bool false, .ref s.heap.objs.size, rawInt 0, .none, .none]) #[] = oe
  have k2 := Heap.get?_push_size (s.heap.push oi) (o := oe) (by subst eo; rfl)
  rw [z1] at k2
  have hE : IsEnum ((s.heap.push oi).push oe) (s.heap.objs.size + 1) s.heap.objs.size 0 .none := by subst eo; exact k2
  exact ⟨⟨_, hE, rfl⟩, go _ hE ⟨_, Heap.get?_push_of_some _ k1, by subst ei; rfl, by subst ei; rfl⟩ fun _ _ at2 => Heap.get?_push_of_some _ (Heap.get?_push_of_some _ at2)⟩
end
/-- the tuple at q, each item in a new pair behind its number -/
def ItT (K : PySem.W.Frag) (q : Addr) : It :=
  ⟨fun i H => ∃ (l : List V) (v : V), SqT K H q l ∧ l[i]? = some v,
    fun i H v H' => ∃ p u, v = .ref p ∧ H p = none ∧ H' = upd H p (.tup [.int (i : Nat), u]) ∧ ∀ l, SqT K H q l → l[i]? = some u,
    fun i H => ∃ l : List V, SqT K H q l ∧ l.length ≤ i⟩
theorem turnT {P : Program} {w : World} {K : PySem.W.Frag} {es : List Expr} {m : Nat} {pp : Pos} (q en I : Addr) :
    Turn P w K (.Tuple es m pp) (ItT K q) [en, I] en (fun i h => (∃ old, IsEnum h en I ((i : Nat) : Int) old) ∧ h.IsTupleIter I q i ∧ en ≠ I ∧ en ≠ q ∧ q ≠ I) where
  mem := List.mem_cons_self ..
  obj := fun i h st c hc => by
    obtain ⟨⟨_, on⟩, ⟨o, at', _, dt⟩, _⟩ := st
    rcases List.mem_cons.mp hc with rfl | hc
    · exact ⟨_, on, fun v z => nomatch z⟩
    · rw [List.mem_singleton.mp hc]
      exact ⟨o, at', fun v z => by rw [dt] at z; cases z⟩
  keep := fun i h h' st k => by
    obtain ⟨⟨old, on⟩, p, n1, n2, n3⟩ := st
    exact ⟨⟨old, k en (by simp) _ on⟩, p.at fun o z => k I (by simp) o z, n1, n2, n3⟩
  item := by
    rintro X rfl rfl rfl hc i pins s σ H E inv fr ⟨⟨old, on⟩, p, n1, n2, n3⟩ ⟨l, v, sq, hv⟩
    obtain ⟨us, ru, tp, _⟩ := inv.tuple sq
    obtain ⟨u, hu, r1⟩ := ru.get hv
    have isT : s.heap.IsTuple q us.toArray := tp
    have l1 : en < s.heap.objs.size := Heap.lt_size on
    have l2 : I < s.heap.objs.size := by obtain ⟨_, z, _⟩ := p; exact Heap.lt_size z
    have hi : i < us.toArray.size := by
      have := (List.getElem?_eq_some_iff.mp hu).1
      simpa using this
    refine wpAny_pyNext_enum_itemD (drawT (A := X.A.in1) (inv.ok.hd hc) n3 us.toArray) on ⟨p, isT⟩ hi n1 (by simp [n1, n2]) fun y h1 tk hy out p1 at1 sz ext => ?_
    have ey : y = u := by
      have hu2 : us.toArray[i]? = some u := by simpa using hu
      rw [hu2] at hy
      exact (Option.some.inj hy).symm
    subst ey
    refine ⟨_, rfl, wpAny_letOwnedTupleGo_enum (s := { s with heap := h1, toks := tk + 1 }) out fun h2 on2 sb => ?_⟩
    have at2 := (sb.2 _ (Nat.ne_of_gt l1)).trans at1
    have ob : ObjOk X.prog X.w (upd H s.heap.objs.size (.tup [.int (i : Nat), v])) h2 s.heap.objs.size (.tup [.int (i : Nat), v]) :=
      ⟨by show 2 ≤ sizeLine; decide, [.int i tk, y], .cons ⟨_, rfl⟩ (.cons r1 .nil), ⟨_, at2, rfl, _, rfl⟩⟩
    have inv2 : Inv X pins σ (upd H s.heap.objs.size (.tup [.int (i : Nat), v])) { s with heap := h2, toks := tk + 1 } :=
      inv.turnedNew (ch := [en, I]) (fun c o hn z => (sb.2 c (fun e => hn (by simp [e]))).trans (ext c o (fun e => hn (by simp [e])) (fun e => hn (by simp [e])) z)) fr (Nat.le_refl _) ob
    refine ⟨.ref s.heap.objs.size, _, inv2, rfl, ⟨_, v, rfl, inv.hok.fresh (Nat.le_refl _), rfl, fun l2 sq2 => by rw [inv.tuple_inj sq2 sq]; exact hv⟩, ⟨⟨y, ?_⟩, p1.1.at fun o z => (sb.2 I (Ne.symm n1)).trans z, n1, n2, n3⟩, fun c hm => ?_⟩
    · rw [show ((i + 1 : Nat) : Int) = (i : Int) + 1 by omega]
      exact on2
    · have lt : c < s.heap.objs.size := by
        rcases List.mem_cons.mp hm with rfl | hm
        · exact l1
        · rw [List.mem_singleton.mp hm]; exact l2
      rw [upd_ne (Nat.ne_of_lt lt)]
      exact (fr c hm).1
  done := by
    rintro X rfl rfl rfl hc i pins s σ H E inv fr ⟨⟨old, on⟩, p, n1, n2, n3⟩ ⟨l, sq, hl⟩
    obtain ⟨us, ru, tp, _⟩ := inv.tuple sq
    have isT : s.heap.IsTuple q us.toArray := tp
    obtain ⟨f0, f1, f2, f3, f4, f5⟩ := fr I (by simp)
    have ll := ru.length
    exact wpAny_pyNext_enum_endD (drawEnd (A := X.A.in1) (els := us.toArray) (n := i) (inv.ok.hd hc) n3 (by simp; omega)) on ⟨rfl, p, isT⟩ fun h1 ext => ⟨rfl, inv.turned (t' := s.toks) (fun c o hn z => ext c o hn z) f0 f1 f3 f4 f5⟩
  self := fun _ _ _ _ _ ⟨⟨_, on⟩, _⟩ go => wpAny_pyIter_enum on go

def iEnumA (K : PySem.W.Frag) (t : TA) : TI := fun σ H R => t σ H fun us H1 => ∃ q l, us = [.ref q] ∧ ((SqL K H1 q l ∧ R (Ite K q) H1) ∨ (SqT K H1 q l ∧ R (ItT K q) H1))
theorem pi_enumA {X : Cx} {e : Expr} {t : TA} {p pos pp : Pos} {es : List Expr} {m : Nat} (hg : Gl X "enumerate") (hm : X.mg "enumerate" = none) (ha : PA X [e] t) (hs : starEach [e] X.env = [(false, eval e X.env)] := by rfl) :
    PI X (.Tuple es m pp) (.Call (.Name "enumerate" p) [e] [] pos) (iEnumA X.K t) := ⟨fun pins s σ H R inv h => by
  refine PyProof.Rows.Call_ (ld_blt inv hg hm PyProof.Rows.boot_enumerate (PyProof.Rows.callWith_type1 (thn (ha.run pos pins s σ H _ inv h) fun vs s1 ⟨us, H1, inv1, rr, q, l, eu, hq⟩ => ?_) hs rfl))
  subst eu
  cases rr with
  | cons r0 rr =>
    cases rr
    cases r0
    have two : ∀ c, c ∈ [s1.heap.objs.size + 1, s1.heap.objs.size] → FpOk X pins H1 c := fun c hc => by
      have le : s1.heap.objs.size ≤ c := by
        rcases List.mem_cons.mp hc with rfl | hc
        · exact Nat.le_add_right _ _
        · rw [List.mem_singleton.mp hc]; exact Nat.le_refl _
      exact inv1.fpOk le (inv1.hok.fresh le)
    rcases hq with ⟨sq, hR⟩ | ⟨sq, hR⟩
    · obtain ⟨_, _, pl, _⟩ := inv1.list sq
      refine call_enumerate_list pl.isList fun h1 on it _ ext => wpAny_pyIter_enum on ?_
      exact ⟨s1.heap.objs.size + 1, [s1.heap.objs.size + 1, s1.heap.objs.size], _, _, H1, rfl, inv1.kept (t' := s1.toks) ext, turn_enum q (s1.heap.objs.size + 1) s1.heap.objs.size, ⟨⟨.none, on⟩, it, Nat.succ_ne_self _⟩, two, hR⟩
    · obtain ⟨us, _, pt, _⟩ := inv1.tuple sq
      have isT : s1.heap.IsTuple q us.toArray := pt
      have lt : q < s1.heap.objs.size := by obtain ⟨_, z, _⟩ := isT; exact Heap.lt_size z
      refine call_enumT isT fun h1 on it ext => wpAny_pyIter_enum on ?_
      exact ⟨s1.heap.objs.size + 1, [s1.heap.objs.size + 1, s1.heap.objs.size], _, _, H1, rfl, inv1.kept (t' := s1.toks) ext, turnT q (s1.heap.objs.size + 1) s1.heap.objs.size, ⟨⟨.none, on⟩, it, Nat.succ_ne_self _, Nat.ne_of_gt (Nat.lt_succ_of_lt lt), Nat.ne_of_lt lt⟩, two, hR⟩⟩
/-- the items behind their numbers, from i on -/
def enumL : Nat → List D → List D
  | _, [] => []
  | i, x :: l => .tuple [.int (i : Nat), x] :: enumL (i + 1) l
theorem enumL_len : ∀ (l : List D) (i : Nat), (enumL i l).length = l.length
  | [], _ => rfl
  | _ :: l, i => by rw [enumL, List.length_cons, List.length_cons, enumL_len l]
theorem enumL_at : ∀ (l : List D) (i j : Nat), (enumL i l)[j]? = (l[j]?).map fun x => .tuple [.int ((i + j : Nat) : Int), x]
  | [], i, j => by simp [enumL]
  | x :: l, i, 0 => by simp [enumL]
  | x :: l, i, j + 1 => by
    rw [enumL, List.getElem?_cons_succ, List.getElem?_cons_succ, enumL_at l]
    congr 1
    funext y
    rw [show i + 1 + j = i + (j + 1) by omega]
def kEnum : D → Option (List D)
  | .list l => some (enumL 0 l)
  | .tuple l => some (enumL 0 l)
  | _ => none
def zipD2 : List D → List D → List D
  | x :: l, y :: r => .tuple [x, y] :: zipD2 l r
  | _, _ => []
theorem zip_at : ∀ (l r : List D) (j : Nat), (zipD2 l r)[j]? = (l[j]?).bind fun x => (r[j]?).map fun y => .tuple [x, y]
  | [], r, j => by cases r <;> simp [zipD2]
  | x :: l, [], j => by cases (x :: l)[j]? <;> simp [zipD2]
  | x :: l, y :: r, 0 => by simp [zipD2]
  | x :: l, y :: r, j + 1 => by
    rw [zipD2, List.getElem?_cons_succ, List.getElem?_cons_succ, List.getElem?_cons_succ, zip_at l r]
theorem zip_len : ∀ (l r : List D), (zipD2 l r).length = min l.length r.length
  | [], r => by simp [zipD2]
  | x :: l, [] => by simp [zipD2]
  | x :: l, y :: r => by rw [zipD2, List.length_cons, zip_len l r, List.length_cons, List.length_cons]; omega
def kZip : D → D → Option (List D)
  | .list l, .list r => some (zipD2 l r)
  | .tuple l, .tuple r => some (zipD2 l r)
  | _, _ => none
section
variable {X : Cx} {b : Bx} {W : WX} {K : PySem.W.Frag} {G G1 H : Hp} {σ : St} {ρ : Ev}
theorem it_enumL {q : Addr} {us : List V} {l : List D} (h1 : G q = some (.lst us)) (h2 : DaAll K G us l) : ItOk K (Ite K q) G (enumL 0 l) where
  go := fun i H s hi => ⟨us, us[i]'(by rw [enumL_len] at hi; rw [h2.length]; exact hi), SqL.of (s _ _ h1), List.getElem?_eq_getElem _⟩
  stop := fun i H s hi => ⟨us, SqL.of (s _ _ h1), by rw [enumL_len] at hi; rw [h2.length]; exact hi⟩
  yld := fun i H x H' d s e y => by
    obtain ⟨T, u, rfl, hT, rfl, hy⟩ := y
    rw [enumL_at] at e
    cases e3 : l[i]? with
    | none => rw [e3] at e; cases e
    | some z =>
      rw [e3] at e
      cases e
      obtain ⟨v, e1, d1⟩ := h2.get e3
      have e2 := hy us (SqL.of (s _ _ h1))
      rw [e1] at e2; cases e2
      refine .inr ⟨T, _, _, rfl, rfl, hT, rfl, .cons ?_ (.cons d1 .nil)⟩
      rw [Nat.zero_add]
      exact .int _
theorem it_enumT {q : Addr} {us : List V} {l : List D} (h1 : SqT K G q us) (h2 : DaAll K G us l) : ItOk K (ItT K q) G (enumL 0 l) where
  go := fun i H s hi => ⟨us, us[i]'(by rw [enumL_len] at hi; rw [h2.length]; exact hi), seqT s h1, List.getElem?_eq_getElem _⟩
  stop := fun i H s hi => ⟨us, seqT s h1, by rw [enumL_len] at hi; rw [h2.length]; exact hi⟩
  yld := fun i H x H' d s e y => by
    obtain ⟨T, u, rfl, hT, rfl, hy⟩ := y
    rw [enumL_at] at e
    cases e3 : l[i]? with
    | none => rw [e3] at e; cases e
    | some z =>
      rw [e3] at e
      cases e
      obtain ⟨v, e1, d1⟩ := h2.get e3
      have e2 := hy us (seqT s h1)
      rw [e1] at e2; cases e2
      refine .inr ⟨T, _, _, rfl, rfl, hT, rfl, .cons ?_ (.cons d1 .nil)⟩
      rw [Nat.zero_add]
      exact .int _
theorem i_enum {e : Expr} {f : Ev → RE} {p pos pp : Pos} {es : List Expr} {m : Nat} (hg : Gl X "enumerate") (hm : X.mg "enumerate" = none) (h : PE X e (tE X.K b W f)) (h1 : starEach [e] X.env = (false, eval e X.env) :: starEach [] X.env := by rfl) (hs : starEach [e] X.env = [(false, eval e X.env)] := by rfl) :
    PI X (.Tuple es m pp) (.Call (.Name "enumerate" p) [e] [] pos) (tI X.K b W fun ρ => RI.of (f ρ) kEnum) := PI.imp (pi_enumA hg hm (pa_cons h pa_nil h1) hs) fun σ H R ⟨ρ, G, r, q⟩ => by
  show tE X.K b W f σ H _
  refine stepI r q fun v H1 ρ1 G1 x xs r1 s1 d1 e1 q1 => ?_
  cases x with
  | list l =>
    cases e1
    cases d1 with
    | lst h1 h2 => exact ⟨_, _, rfl, .inl ⟨SqL.of (r1.le _ _ h1), q1 _ G1 H1 r1 (Same.refl _) (it_enumL h1 h2)⟩⟩
  | tuple l =>
    cases e1
    cases d1 with
    | tup h1 h2 => exact ⟨_, _, rfl, .inr ⟨seqT r1.le h1, q1 _ G1 H1 r1 (Same.refl _) (it_enumT h1 h2)⟩⟩
  | _ => cases e1
theorem it_zipL {q q2 : Addr} {us vs : List V} {l r : List D} (h1 : G q = some (.lst us)) (h2 : DaAll K G us l) (k1 : G q2 = some (.lst vs)) (k2 : DaAll K G vs r) : ItOk K (Itz K q q2) G (zipD2 l r) where
  go := fun i H s hi => by
    rw [zip_len] at hi
    have e1 := h2.length
    have e2 := k2.length
    exact ⟨us, vs, us[i]'(by omega), vs[i]'(by omega), SqL.of (s _ _ h1), SqL.of (s _ _ k1), List.getElem?_eq_getElem _, List.getElem?_eq_getElem _⟩
  stop := fun i H s hi => ⟨us, vs, SqL.of (s _ _ h1), SqL.of (s _ _ k1), by
    rw [zip_len] at hi
    have e1 := h2.length
    have e2 := k2.length
    omega⟩
  yld := fun i H x H' d s e y => by
    obtain ⟨T, u, v, rfl, hT, rfl, hy, hz⟩ := y
    rw [zip_at] at e
    cases e3 : l[i]? with
    | none => rw [e3] at e; cases e
    | some a =>
      cases e4 : r[i]? with
      | none => rw [e3, e4] at e; cases e
      | some c =>
        rw [e3, e4] at e
        cases e
        obtain ⟨_, e1, d1⟩ := h2.get e3
        have e2 := hy us (SqL.of (s _ _ h1))
        rw [e1] at e2; cases e2
        obtain ⟨_, e5, d2⟩ := k2.get e4
        have e6 := hz vs (SqL.of (s _ _ k1))
        rw [e5] at e6; cases e6
        exact .inr ⟨T, _, _, rfl, rfl, hT, rfl, .cons d1 (.cons d2 .nil)⟩
theorem it_zipT {q q2 : Addr} {us vs : List V} {l r : List D} (h1 : SqT K G q us) (h2 : DaAll K G us l) (k1 : SqT K G q2 vs) (k2 : DaAll K G vs r) : ItOk K (RZ.ItzT K q q2) G (zipD2 l r) where
  go := fun i H s hi => by
    rw [zip_len] at hi
    have e1 := h2.length
    have e2 := k2.length
    exact ⟨us, vs, us[i]'(by omega), vs[i]'(by omega), seqT s h1, seqT s k1, List.getElem?_eq_getElem _, List.getElem?_eq_getElem _⟩
  stop := fun i H s hi => ⟨us, vs, seqT s h1, seqT s k1, by
    rw [zip_len] at hi
    have e1 := h2.length
    have e2 := k2.length
    omega⟩
  yld := fun i H x H' d s e y => by
    obtain ⟨T, u, v, rfl, hT, rfl, hy, hz⟩ := y
    rw [zip_at] at e
    cases e3 : l[i]? with
    | none => rw [e3] at e; cases e
    | some a =>
      cases e4 : r[i]? with
      | none => rw [e3, e4] at e; cases e
      | some c =>
        rw [e3, e4] at e
        cases e
        obtain ⟨_, e1, d1⟩ := h2.get e3
        have e2 := hy us (seqT s h1)
        rw [e1] at e2; cases e2
        obtain ⟨_, e5, d2⟩ := k2.get e4
        have e6 := hz vs (seqT s k1)
        rw [e5] at e6; cases e6
        exact .inr ⟨T, _, _, rfl, rfl, hT, rfl, .cons d1 (.cons d2 .nil)⟩
def zipI (g : Ev → RE) : RE → RI
  | .ok sv ρ1 => match sv.dat? with
    | some x => RI.of (g ρ1) (kZip x)
    | none => .stuck
  | .raise c ρ1 => .raise c ρ1
  | .stuck => .stuck
def fZip (f g : Ev → RE) : Ev → RI := fun ρ => zipI g (f ρ)
theorem i_zip {e e2 : Expr} {f g : Ev → RE} {p pos pp : Pos} {es : List Expr} {m : Nat} (hg : Gl X "zip") (hm : X.mg "zip" = none) (h : PE X e (tE X.K b W f)) (h' : PE X e2 (tE X.K b W g)) (h1 : starEach [e, e2] X.env = (false, eval e X.env) :: starEach [e2] X.env := by rfl) (h2 : starEach [e2] X.env = (false, eval e2 X.env) :: starEach [] X.env := by rfl)
    (hs : starEach [e, e2] X.env = (false, eval e X.env) :: starEach [e2] X.env := by rfl) (hpl : (backTo pos (starEach [e2] X.env)).any (·.1) = false := by rfl) :
    PI X (.Tuple es m pp) (.Call (.Name "zip" p) [e, e2] [] pos) (tI X.K b W (fZip f g)) := PI.imp (RZ.pi_zipA hg hm (pa_cons h (pa_cons h' pa_nil h2) h1) hs hpl) fun σ H R ⟨ρ, G, r, q⟩ => by
  show tE X.K b W f σ H _
  refine ⟨ρ, G, r, ?_⟩
  unfold fZip at q
  cases e0 : f ρ with
  | raise c ρ1 => rw [e0] at q; exact q
  | stuck => rw [e0] at q; exact q
  | ok sv ρ1 =>
    rw [e0] at q
    intro v G1 H1 r1 s1 d1
    cases ed : sv.dat? with
    | none => simp only [zipI, ed] at q; exact q.elim
    | some x =>
      simp only [zipI, ed] at q
      obtain ⟨G2, r2, s2, d2⟩ := r1.pub d1 ed
      show tE X.K b W g σ H1 _
      refine stepI r2 (PostI.mono (s1.trans s2) q) fun u H3 ρ3 G3 y xs r3 s3 d3 e3 q3 => ?_
      have d2' := Da.mono s3 d2
      cases x with
      | list l =>
        cases y with
        | list l2 =>
          cases e3
          cases d2' with
          | lst h1 h2 =>
            cases d3 with
            | lst k1 k2 => exact ⟨_, _, _, _, rfl, .inl ⟨SqL.of (r3.le _ _ h1), SqL.of (r3.le _ _ k1), q3 _ G3 H3 r3 (Same.refl _) (it_zipL h1 h2 k1 k2)⟩⟩
        | _ => cases e3
      | tuple l =>
        cases y with
        | tuple l2 =>
          cases e3
          cases d2' with
          | tup h1 h2 =>
            cases d3 with
            | tup k1 k2 => exact ⟨_, _, _, _, rfl, .inr ⟨seqT r3.le h1, seqT r3.le k1, q3 _ G3 H3 r3 (Same.refl _) (it_zipT h1 h2 k1 k2)⟩⟩
        | _ => cases e3
      | _ => cases e3
end
/-! ### sum of a tuple -/
section
variable {P : Program} {w : World} {A : Around} {E : Value → Shared → Prop} {s : Shared}
theorem sumT_raw {q : Addr} {els : List Value} {ns : List Int} {Q : Value → Shared → Prop} (hh : A.handled = none) (hT : s.heap.IsTuple q els.toArray) (hi : PyProof.Rows.IntsAre els ns)
    (go : ∀ h' tk t, (∀ b o, s.heap.get? b = some o → h'.get? b = some o) → Q (.int ns.sum t) { s with heap := h', toks := tk }) : wpAny (model P w) A (call (.builtin "sum") [.ref q]) Q E s := by
  obtain ⟨xs, e⟩ := hi.allInts.items
  have hn : (xs.toList.map (·.1)) = ns := by
    rw [← nums_intItems, ← e]
    exact hi.numsOf
  have lt : q < s.heap.objs.size := by obtain ⟨_, z, _⟩ := hT; exact Heap.lt_size z
  rw [e] at hT
  refine call_sum_walkG (wpAny_pyIter_tuple hT ?_)
  have k1 := Heap.get?_push_size s.heap (o := { cls := .type "tuple_iterator", data := .fields #[.ref q, .int 0 0] }) rfl
  refine ⟨s.heap.objs.size, _, _, _, _, _, numAt xs, rfl, Walks.tuple (A := A.in1) hh _ q (Nat.ne_of_lt lt) (intItems xs), ⟨⟨_, k1, rfl, rfl⟩, ?_⟩, ?_, (fun _ _ => intItems_at), fun h' tk t hk => ?_⟩
  · obtain ⟨o, z, r⟩ := hT
    exact ⟨o, Heap.get?_push_of_some _ z, r⟩
  · intro c hc
    rw [Heap.size_push]
    rcases List.mem_cons.mp hc with rfl | hc
    · exact Nat.lt_succ_self _
    · rw [List.mem_singleton.mp hc]
      exact Nat.lt_succ_of_lt lt
  · have := go h' tk t fun b o z => hk b o (fun hm => by
      rw [List.mem_singleton.mp hm] at z
      exact absurd (Heap.lt_size z) (Nat.lt_irrefl _)) (Heap.get?_push_of_some _ z)
    have e2 : preSum (numAt xs) (intItems xs).size = ns.sum := by
      rw [preSum_eq, List.take_of_length_le (by simp [intItems]), hn]
    rw [e2]
    exact this
end
def rSumT (K : PySem.W.Frag) : List V → Hp → VK → Prop := fun us H Q => ∃ (q : Addr) (ns : List Int), us = [V.ref q] ∧ SqT K H q (ns.map V.int) ∧ Q (.int ns.sum) H
theorem cr_sumT {X : Cx} (hc : X.calm = true) : CallR X (.builtin "sum") (rSumT X.K) := by
  rintro pins s σ H vs us Q inv r ⟨q, ns, rfl, sq, go⟩
  obtain ⟨els, rv, tp, _⟩ := inv.tuple sq
  rw [Vals.ref1 r]
  exact sumT_raw (inv.ok.hd hc) tp rv.ints fun h' tk t hk => ⟨.int _, H, inv.kept hk, ⟨_, rfl⟩, go⟩
def sumT : D → Option Sv
  | .tuple xs => (intsOf xs).map fun ns => .d (.int ns.sum)
  | _ => none
theorem cs_sumT {K : PySem.W.Frag} : CallS K (rSumT K) sumT := by
  intro b G H σ ρ x dx Q r hx h
  cases dx with
  | tuple xs =>
    have hx := hx.da fun l z => nomatch z
    cases hx with
    | tup h1 h2 =>
      have h : Post1 K b G σ ρ Q ((intsOf xs).map fun ns => .d (.int ns.sum)) := h
      cases e : intsOf xs with
      | none => rw [e] at h; exact h.elim
      | some ns =>
        rw [e] at h
        exact ⟨_, ns, rfl, by rw [← ints_da h2 e]; exact seqT r.le h1, post_int r h⟩
  | _ => exact h.elim
theorem S.sumT_eq {xs : List D} : sumT (.tuple xs) = (intsOf xs).map fun ns => .d (.int ns.sum) := nrfl
end Dl
set_option maxHeartbeats 4000000
/-! DlO: owned structures: lists inside of lists and tuples that nobody else knows. -/
namespace Dl
open PySem PySem.Spec L2
section
variable {K : PySem.W.Frag} {G G' H H' : Hp}
theorem LinAll.length : ∀ {vs : List V} {ws : List Ow} {F : List Addr}, LinAll K G H vs ws F → vs.length = ws.length
  | _, _, _, .nil => rfl
  | _, _, _, .cons _ r _ => by rw [List.length_cons, List.length_cons, LinAll.length r]
theorem LinAll.get : ∀ {vs : List V} {ws : List Ow} {F : List Addr} {i : Nat} {w : Ow}, LinAll K G H vs ws F → ws[i]? = some w → ∃ v F1, vs[i]? = some v ∧ Lin K G H v w F1 ∧ ∀ a ∈ F1, a ∈ F
  | _, _, _, _, _, .nil, e => by simp at e
  | _, _, _, 0, _, .cons (F := F1) h _ _, e => by
    simp at e; subst e; exact ⟨_, F1, rfl, h, fun a ha => List.mem_append_left _ ha⟩
  | _, _, _, i + 1, w, .cons _ r _, e => by
    obtain ⟨v, F1, h1, h2, h3⟩ := LinAll.get (i := i) (w := w) r (by simpa using e)
    exact ⟨v, F1, by simpa using h1, h2, fun a ha => List.mem_append_right _ (h3 a ha)⟩
theorem LinAll.append : ∀ {vs us : List V} {ws zs : List Ow} {F F' : List Addr}, LinAll K G H vs ws F → LinAll K G H us zs F' → (∀ a ∈ F, a ∉ F') → LinAll K G H (vs ++ us) (ws ++ zs) (F ++ F')
  | _, _, _, _, _, _, .nil, s, _ => s
  | _, us, _, zs, _, F', .cons (F := F1) (F' := F2) h r n, s, k => by
    rw [List.append_assoc, List.cons_append, List.cons_append]
    refine .cons h (LinAll.append r s fun a ha => k a (List.mem_append_right _ ha)) fun a ha hm => ?_
    rcases List.mem_append.mp hm with hm | hm
    · exact n a ha hm
    · exact k a (List.mem_append_left _ ha) hm
theorem LinAll.set : ∀ {vs : List V} {ws : List Ow} {F : List Addr} {i : Nat} {w : Ow}, LinAll K G H vs ws F → ws[i]? = some w → ∃ v F1, vs[i]? = some v ∧ Lin K G H v w F1 ∧ (∀ a ∈ F1, a ∈ F) ∧
    ∀ (H' : Hp) (w' : Ow) (F1' : List Addr), Lin K G H' v w' F1' → (∀ b ∈ F, b ∉ F1 → H' b = H b) → (∀ b ∈ F1', b ∈ F1 ∨ b ∉ F) → ∃ F', LinAll K G H' vs (ws.set i w') F' ∧ ∀ b ∈ F', b ∈ F ∨ b ∈ F1'
  | _, _, _, _, _, .nil, e => by simp at e
  | _, _, _, 0, _, .cons (F := F1) (F' := F2) h r n, e => by
    simp at e
    subst e
    refine ⟨_, F1, rfl, h, fun a ha => List.mem_append_left _ ha, fun H' w' F1' h' k k2 => ⟨F1' ++ F2, ?_, fun b hb => ?_⟩⟩
    · rw [List.set_cons_zero]
      refine .cons h' (LinAll.frame (Same.refl _) r (fun a ha => k a (List.mem_append_right _ ha) fun hm => n a hm ha) fun a ha => (LinAll.own r a ha).1) fun a ha hm => ?_
      rcases k2 a ha with z | z
      · exact n a z hm
      · exact z (List.mem_append_right _ hm)
    · rcases List.mem_append.mp hb with hb | hb
      · exact .inr hb
      · exact .inl (List.mem_append_right _ hb)
  | _, _, _, i + 1, w, .cons (F := F1) (F' := F2) h r n, e => by
    obtain ⟨v, F3, h1, h2, h3, go⟩ := LinAll.set (i := i) (w := w) r (by simpa using e)
    refine ⟨v, F3, by simpa using h1, h2, fun a ha => List.mem_append_right _ (h3 a ha), fun H' w' F3' h' k k2 => ?_⟩
    obtain ⟨F', g1, g2⟩ := go H' w' F3' h' (fun b hb hn => k b (List.mem_append_right _ hb) hn) fun b hb => (k2 b hb).imp id fun z hm => z (List.mem_append_right _ hm)
    refine ⟨F1 ++ F', ?_, fun b hb => ?_⟩
    · rw [List.set_cons_succ]
      refine .cons (Lin.frame (Same.refl _) h (fun a ha => k a (List.mem_append_left _ ha) fun hm => n a ha (h3 a hm)) fun a ha => (Lin.own h a ha).1) g1 fun a ha hm => ?_
      rcases g2 a hm with z | z
      · exact n a ha z
      · rcases k2 a z with z | z
        · exact n a ha (h3 a z)
        · exact z (List.mem_append_left _ ha)
    · rcases List.mem_append.mp hb with hb | hb
      · exact .inl (List.mem_append_left _ hb)
      · exact (g2 b hb).imp (List.mem_append_right _) id
/-- the part at a path -/
def Ow.at : Ow → List Nat → Option Ow
  | w, [] => some w
  | .lst ws, i :: p => (ws[i]?).bind fun w => w.at p
  | .tup ws, i :: p => (ws[i]?).bind fun w => w.at p
  | .dat _, _ :: _ => none
/-- another part put at a path -/
def Ow.put : Ow → List Nat → Ow → Ow
  | _, [], z => z
  | .lst ws, i :: p, z => .lst (match ws[i]? with | some w => ws.set i (w.put p z) | none => ws)
  | .tup ws, i :: p, z => .tup (match ws[i]? with | some w => ws.set i (w.put p z) | none => ws)
  | .dat x, _ :: _, _ => .dat x
end
/-- what is held, and whose -/
structure Hd where
  T : Hp
  own : Addr → Option Nat
  rt : Nat → Option V
  al : Nat → Option (Nat × List Nat × V)
/-- from v along a path through the lists of slot i -/
inductive Nav (G : Hp) (m : Hd) (i : Nat) : V → List Nat → V → Prop
  | nil {v : V} : Nav G m i v [] v
  | lst {a : Addr} {vs : List V} {k : Nat} {u v' : V} {p : List Nat} : m.T a = some (.lst vs) → m.own a = some i → vs[k]? = some u → Nav G m i u p v' → Nav G m i (.ref a) (k :: p) v'
  | tup {a : Addr} {vs : List V} {k : Nat} {u v' : V} {p : List Nat} : G a = some (.tup vs) → vs[k]? = some u → Nav G m i u p v' → Nav G m i (.ref a) (k :: p) v'
section
variable {K : PySem.W.Frag} {G G' : Hp} {m m' : Hd} {i : Nat}
theorem Nav.mono (e : Same G G') (t : ∀ a o, m.T a = some o → m.own a = some i → m'.T a = some o ∧ m'.own a = some i) : ∀ {v : V} {p : List Nat} {u : V}, Nav G m i v p u → Nav G' m' i v p u
  | _, _, _, .nil => .nil
  | _, _, _, .lst h1 h2 h3 r => .lst (t _ _ h1 h2).1 (t _ _ h1 h2).2 h3 (Nav.mono e t r)
  | _, _, _, .tup h1 h3 r => .tup (e _ _ h1) h3 (Nav.mono e t r)
theorem LinAll.get' {H : Hp} : ∀ {vs : List V} {ws : List Ow} {F : List Addr} {i : Nat} {v : V} {w : Ow}, LinAll K G H vs ws F → vs[i]? = some v → ws[i]? = some w → ∃ F1, Lin K G H v w F1 ∧ ∀ a ∈ F1, a ∈ F := fun r e1 e2 => by
  obtain ⟨v', F1, h1, h2, h3⟩ := LinAll.get r e2
  rw [e1] at h1
  cases h1
  exact ⟨F1, h2, h3⟩
theorem Ow.at_lst {ws : List Ow} {k : Nat} {p : List Nat} {w' : Ow} (h : (Ow.lst ws).at (k :: p) = some w') : ∃ w, ws[k]? = some w ∧ w.at p = some w' := by
  cases e : ws[k]? with
  | none => simp [Ow.at, e] at h
  | some w => exact ⟨w, rfl, by simpa [Ow.at, e] using h⟩
theorem Ow.at_tup {ws : List Ow} {k : Nat} {p : List Nat} {w' : Ow} (h : (Ow.tup ws).at (k :: p) = some w') : ∃ w, ws[k]? = some w ∧ w.at p = some w' := by
  cases e : ws[k]? with
  | none => simp [Ow.at, e] at h
  | some w => exact ⟨w, rfl, by simpa [Ow.at, e] using h⟩
theorem Lin.nav (hT : ∀ a o, m.T a = some o → G a = none) : ∀ {v : V} {p : List Nat} {u : V}, Nav G m i v p u → ∀ {w w' : Ow} {F : List Addr}, Lin K G m.T v w F → w.at p = some w' → ∃ F', Lin K G m.T u w' F' ∧ ∀ a ∈ F', a ∈ F
  | _, _, _, .nil, w, w', F, l, e => by
    have e : some w = some w' := by cases w <;> exact e
    cases e
    exact ⟨F, l, fun _ h => h⟩
  | _, _, _, .lst h1 h2 h3 r, w, w', F, l, e => by
    cases l with
    | dat d => cases e
    | lst g1 g2 lr n =>
      rw [h1] at g1
      cases g1
      obtain ⟨w1, e1, e2⟩ := Ow.at_lst e
      obtain ⟨F1, l1, s1⟩ := LinAll.get' lr h3 e1
      obtain ⟨F', l2, s2⟩ := Lin.nav hT r l1 e2
      exact ⟨F', l2, fun a ha => List.mem_cons_of_mem _ (s1 a (s2 a ha))⟩
    | tup g lr => rw [hT _ _ h1] at g; cases g
  | _, _, _, .tup h1 h3 r, w, w', F, l, e => by
    cases l with
    | dat d => cases e
    | lst g1 g2 lr n => rw [g2] at h1; cases h1
    | tup g lr =>
      rw [h1] at g
      cases g
      obtain ⟨w1, e1, e2⟩ := Ow.at_tup e
      obtain ⟨F1, l1, s1⟩ := LinAll.get' lr h3 e1
      obtain ⟨F', l2, s2⟩ := Lin.nav hT r l1 e2
      exact ⟨F', l2, fun a ha => s1 a (s2 a ha)⟩
/-- a list at a path is changed -/
theorem Lin.change (hT : ∀ a o, m.T a = some o → G a = none) : ∀ {p : List Nat} {v : V} {w : Ow} {F : List Addr} {zs : List Ow} {u : V}, Lin K G m.T v w F → (∀ a ∈ F, m.own a = some i) → w.at p = some (.lst zs) → Nav G m i v p u →
    ∃ a us F1, u = .ref a ∧ m.T a = some (.lst us) ∧ G a = none ∧ a ∈ F ∧ LinAll K G m.T us zs F1 ∧ (∀ b ∈ F1, b ∈ F) ∧ a ∉ F1 ∧
    ∀ (us' : List V) (zs' : List Ow) (F1' : List Addr), LinAll K G m.T us' zs' F1' → a ∉ F1' → (∀ b ∈ F1', b ∈ F1 ∨ b ∉ F) → (∃ F', Lin K G (upd m.T a (.lst us')) v (w.put p (.lst zs')) F' ∧ ∀ b ∈ F', b ∈ F ∨ b ∈ F1') ∧
      ∀ q s z, p = q ++ s → Nav G m i v q z → Nav G { m with T := upd m.T a (.lst us') } i v q z
  | [], _, _, _, _, _, .dat _, _, e, _ => by cases e
  | [], _, _, _, _, _, .tup _ _, _, e, _ => by cases e
  | [], _, _, _, _, _, .lst (a := a) (F := F1) h1 h2 r n, ho, e, nv => by
    cases e
    cases nv
    refine ⟨a, _, F1, rfl, h1, h2, List.mem_cons_self .., r, fun b hb => List.mem_cons_of_mem _ hb, n, fun us' zs' F1' r' n' k => ⟨⟨a :: F1', ?_, fun b hb => ?_⟩, fun q s z e1 h => ?_⟩⟩
    · exact .lst upd_same h2 (LinAll.frame (Same.refl _) r' (fun b hb => upd_ne (fun z => n' (z ▸ hb))) fun b hb => (LinAll.own r' b hb).1) n'
    · exact (List.mem_cons.mp hb).elim (fun z => .inl (by rw [z]; exact List.mem_cons_self ..)) .inr
    · have e2 : q = [] := (List.append_eq_nil_iff.mp e1.symm).1
      subst e2
      cases h
      exact .nil
  | k :: p, _, _, _, _, _, .dat _, _, e, _ => by cases e
  | k :: p, _, _, _, zs, _, .tup (a := t) (ws := ws) (F := F0) h r, ho, e, nv => by
    obtain ⟨w, ew, e⟩ := Ow.at_tup e
    cases nv with
    | lst g1 _ _ _ => rw [hT _ _ g1] at h; cases h
    | tup g1 g3 nr =>
      rw [h] at g1
      cases g1
      obtain ⟨v, F2, q1, q2, q3, go⟩ := LinAll.set r ew
      rw [g3] at q1
      cases q1
      obtain ⟨a, us, F1, c0, c1, c2, c3, c4, c5, c6, ch⟩ := Lin.change hT q2 (fun b hb => ho b (q3 b hb)) e nr
      refine ⟨a, us, F1, c0, c1, c2, q3 a c3, c4, fun b hb => q3 b (c5 b hb), c6, fun us' zs' F1' r' n' kk => ?_⟩
      obtain ⟨⟨F', g1, g2⟩, g5⟩ := ch us' zs' F1' r' n' fun b hb => (kk b hb).imp id fun z hm => z (q3 b hm)
      obtain ⟨F'', g3', g4⟩ := go _ _ F' g1 (fun b hb hn => upd_ne fun z => hn (z ▸ c3)) fun b hb => by
        rcases g2 b hb with z | z
        · exact .inl z
        · exact (kk b z).imp (fun y => c5 b y) id
      refine ⟨⟨F'', ?_, fun b hb => ?_⟩, fun q s z e1 hn => ?_⟩
      · simp only [Ow.put, ew]
        exact .tup h g3'
      · rcases g4 b hb with z | z
        · exact .inl z
        · exact (g2 b z).imp (q3 b) id
      · cases hn with
        | nil => exact .nil
        | lst g1 _ _ _ => rw [hT _ _ g1] at h; cases h
        | tup y1 y3 yr =>
          rw [h] at y1
          cases y1
          rw [List.cons_append] at e1
          cases e1
          rw [g3] at y3
          cases y3
          exact .tup h g3 (g5 _ s z rfl yr)
  | k :: p, _, _, _, zs, _, .lst (a := t) (ws := ws) (F := F0) h1 h2 r n, ho, e, nv => by
    obtain ⟨w, ew, e⟩ := Ow.at_lst e
    cases nv with
    | tup g1 _ _ => rw [h2] at g1; cases g1
    | lst g1 go1 g3 nr =>
      rw [h1] at g1
      cases g1
      obtain ⟨v, F2, q1, q2, q3, go⟩ := LinAll.set r ew
      rw [g3] at q1
      cases q1
      obtain ⟨a, us, F1, c0, c1, c2, c3, c4, c5, c6, ch⟩ := Lin.change hT q2 (fun b hb => ho b (List.mem_cons_of_mem _ (q3 b hb))) e nr
      refine ⟨a, us, F1, c0, c1, c2, List.mem_cons_of_mem _ (q3 a c3), c4, fun b hb => List.mem_cons_of_mem _ (q3 b (c5 b hb)), c6, fun us' zs' F1' r' n' kk => ?_⟩
      obtain ⟨⟨F', g1, g2⟩, g5⟩ := ch us' zs' F1' r' n' fun b hb => (kk b hb).imp id fun z hm => z (List.mem_cons_of_mem _ (q3 b hm))
      obtain ⟨F'', g3', g4⟩ := go _ _ F' g1 (fun b hb hn => upd_ne fun z => hn (z ▸ c3)) fun b hb => by
        rcases g2 b hb with z | z
        · exact .inl z
        · exact (kk b z).imp (fun y => c5 b y) fun y hm => y (List.mem_cons_of_mem _ hm)
      have nt : t ≠ a := fun z => n (q3 t (z ▸ c3))
      refine ⟨⟨t :: F'', ?_, fun b hb => ?_⟩, fun q s z e1 hn => ?_⟩
      · simp only [Ow.put, ew]
        refine .lst ((upd_ne nt).trans h1) h2 g3' fun hm => ?_
        rcases g4 t hm with z | z
        · exact n z
        · rcases g2 t z with y | y
          · exact n (q3 t y)
          · rcases kk t y with x | x
            · exact n (q3 t (c5 t x))
            · exact x (List.mem_cons_self ..)
      · rcases List.mem_cons.mp hb with rfl | hb
        · exact .inl (List.mem_cons_self ..)
        · rcases g4 b hb with z | z
          · exact .inl (List.mem_cons_of_mem _ z)
          · exact (g2 b z).imp (fun y => List.mem_cons_of_mem _ (q3 b y)) id
      · cases hn with
        | nil => exact .nil
        | tup g1 _ _ => rw [h2] at g1; cases g1
        | lst y1 yo y3 yr =>
          rw [h1] at y1
          cases y1
          rw [List.cons_append] at e1
          cases e1
          rw [g3] at y3
          cases y3
          exact .lst ((upd_ne nt).trans h1) go1 g3 (g5 _ s z rfl yr)
end
end Dl
set_option maxHeartbeats 4000000
/-! DlP: statements that change owned structures: what is held (T, own) may change from statement to statement. -/
namespace Dl
open PySem PySem.Spec L2
open PyProof.Rows (envOfC)
def Bx.wt (b : Bx) (m : Hd) : Bx := { b with T := m.T, own := m.own, rt := m.rt, al := m.al, pin := [] }
/-- what b holds stays held, aliases lead where they lead -/
structure Ho (b : Bx) (G : Hp) (m : Hd) : Prop where
  held : ∀ a o, b.T a = some o → m.T a = some o ∧ m.own a = none
  al : ∀ j i p v, m.al j = some (i, p, v) → ∃ r, m.rt i = some r ∧ Nav G m i r p v
  pin : ∀ i p v, (i, p, v) ∈ b.pin → ∀ r, m.rt i = some r → Nav G m i r p v
theorem Ho.mono {b : Bx} {G G' : Hp} {m : Hd} (e : Same G G') (h : Ho b G m) : Ho b G' m :=
  ⟨h.held, fun j i p v q => (h.al j i p v q).imp fun _ z => ⟨z.1, Nav.mono e (fun _ _ h1 h2 => ⟨h1, h2⟩) z.2⟩, fun i p v q r hr => Nav.mono (m := m) e (fun _ _ h1 h2 => ⟨h1, h2⟩) (h.pin i p v q r hr)⟩
def RelT (K : PySem.W.Frag) (b : Bx) (G H : Hp) (σ : St) (ρ : Ev) : Prop := ∃ m, Rel K (b.wt m) G H σ ρ ∧ Ho b G m
/-- a result; a structure of one's own too -/
def RepM (K : PySem.W.Frag) (b : Bx) (G H : Hp) (σ : St) (ρ : Ev) (v : V) : Sv → Prop
  | .on w => ∃ F, Lin K G H v w F ∧ ∀ a ∈ F, b.H0 a = none ∧ b.T a = none ∧ ∀ i, ¬ Owns σ ρ i a
  | sv => RepT K b G H σ ρ v sv
theorem RepM.of {K : PySem.W.Frag} {b : Bx} {G H : Hp} {σ : St} {ρ : Ev} {v : V} {sv : Sv} (h : RepT K b G H σ ρ v sv) : RepM K b G H σ ρ v sv := by
  cases sv with
  | on w => exact h.elim
  | _ => exact h
def PostM (K : PySem.W.Frag) (b : Bx) (W : WX) (G : Hp) (D : Ends) : RS → Prop
  | .next ρ' => ∀ σ' G' H', RelT K b G' H' σ' ρ' → Same G G' → D.nx σ' H'
  | .ret sv ρ' => ∀ v σ' G' H' m, Rel K (b.wt m) G' H' σ' ρ' → Same G G' → RepM K (b.wt m) G' H' σ' ρ' v sv → D.rt v H'
  | .brk ρ' => ∀ σ' G' H', RelT K b G' H' σ' ρ' → Same G G' → D.bk σ' H'
  | .cnt ρ' => ∀ σ' G' H', RelT K b G' H' σ' ρ' → Same G G' → D.ct σ' H'
  | .raise c ρ' => ∀ σ' G' H', RelT K b G' H' σ' ρ' → Same G G' → W (.ref (b.cl c)) none σ' H'
  | .stuck => False
def tM (K : PySem.W.Frag) (b : Bx) (W : WX) (f : Ev → RS) : TS := fun D σ H => ∃ ρ G, RelT K b G H σ ρ ∧ PostM K b W G D (f ρ)
section
variable {X : Cx} {b : Bx} {W : WX} {K : PySem.W.Frag} {G G1 H : Hp} {σ : St} {ρ : Ev} {D : Ends}
theorem PostM.mono {r : RS} (e : Same G G1) (h : PostM K b W G D r) : PostM K b W G1 D r := by
  cases r with
  | next ρ' => exact fun σ' G' H' r s => h σ' G' H' r (e.trans s)
  | ret sv ρ' => exact fun v σ' G' H' m r s q => h v σ' G' H' m r (e.trans s) q
  | brk ρ' => exact fun σ' G' H' r s => h σ' G' H' r (e.trans s)
  | cnt ρ' => exact fun σ' G' H' r s => h σ' G' H' r (e.trans s)
  | raise c ρ' => exact fun σ' G' H' r s => h σ' G' H' r (e.trans s)
  | stuck => exact h
theorem PostM.at {r : RS} {m : Hd} (ho : Ho b G m) (h : PostM K b W G D r) : PostS K (b.wt m) W G D r := by
  cases r with
  | next ρ' => exact fun σ' G' H' r s => h σ' G' H' ⟨m, r, ho.mono s⟩ s
  | ret sv ρ' => exact fun v σ' G' H' r s q => h v σ' G' H' m r s (RepM.of q)
  | brk ρ' => exact fun σ' G' H' r s => h σ' G' H' ⟨m, r, ho.mono s⟩ s
  | cnt ρ' => exact fun σ' G' H' r s => h σ' G' H' ⟨m, r, ho.mono s⟩ s
  | raise c ρ' => exact fun σ' G' H' r s => h σ' G' H' ⟨m, r, ho.mono s⟩ s
  | stuck => exact h
/-- a plain statement among such that change what is held -/
theorem m_plain {st : Stmt} {f : Ev → RS} (h : ∀ m, PS X st (tS X.K (b.wt m) W f)) : PS X st (tM X.K b W f) :=
  ⟨fun pins s σ H D inv ⟨ρ, G, ⟨m, r, ho⟩, q⟩ => (h m).run pins s σ H D inv ⟨ρ, G, r, q.at ho⟩⟩
theorem m_plains {st : List Stmt} {f : Ev → RS} (h : ∀ m, PSs X st (tS X.K (b.wt m) W f)) : PSs X st (tM X.K b W f) :=
  ⟨fun pins s σ H D inv ⟨ρ, G, ⟨m, r, ho⟩, q⟩ => (h m).run pins s σ H D inv ⟨ρ, G, r, q.at ho⟩⟩
theorem mseq_post {f g : Ev → RS} : ∀ D σ H, tM K b W (fSeq f g) D σ H → tSeq (tM K b W f) (tM K b W g) D σ H := by
  rintro D σ H ⟨ρ, G, r, q⟩
  refine ⟨ρ, G, r, ?_⟩
  cases e : f ρ with
  | next ρ1 => simp only [fSeq, e] at q; exact fun σ' G' H' r' s' => ⟨ρ1, G', r', PostM.mono s' q⟩
  | _ => simp only [fSeq, e] at q; exact q
theorem m_one {st : Stmt} {f : Ev → RS} (h : PS X st (tM X.K b W f)) : PSs X [st] (tM X.K b W f) := pss_one h
theorem m_cons {st : Stmt} {rest : List Stmt} {f g : Ev → RS} (h1 : PS X st (tM X.K b W f)) (h2 : PSs X rest (tM X.K b W g)) : PSs X (st :: rest) (tM X.K b W (fSeq f g)) := PSs.imp (pss_cons h1 h2) mseq_post
theorem pt_ex {e : Expr} {t : Hd → TT} (h : ∀ m, PT X e (t m)) : PT X e (fun σ H Q => ∃ m, t m σ H Q) :=
  ⟨fun pins s σ H Q inv ⟨m, q⟩ => (h m).run pins s σ H Q inv q⟩
theorem m_if {c : Expr} {x y : List Stmt} {pos : Pos} {fc : Ev → RT} {f g : Ev → RS} (hc : ∀ m, PT X c (tT X.K (b.wt m) W fc)) (ha : PSs X x (tM X.K b W f)) (hb : PSs X y (tM X.K b W g)) : PS X (.If c x y pos) (tM X.K b W (fIf fc f g)) := PS.imp (ps_if (pt_ex hc) ha hb) fun D σ H ⟨ρ, G, ⟨m, r, ho⟩, q⟩ => by
  refine ⟨m, ?_⟩
  refine stepT (P := fun _ => True) r (fun c ρ1 e G1 H1 r1 s1 => ?_) (fun c ρ1 e G1 H1 r1 s1 => ?_) fun e => ?_
  · cases c with
    | true => simp only [fIf, e] at q; exact iteT ⟨ρ1, G1, ⟨m, r1, ho.mono s1⟩, PostM.mono s1 q⟩
    | false => simp only [fIf, e] at q; exact iteF ⟨ρ1, G1, ⟨m, r1, ho.mono s1⟩, PostM.mono s1 q⟩
  · simp only [fIf, e] at q; exact q σ G1 H1 ⟨m, r1, ho.mono s1⟩ s1
  · simp only [fIf, e] at q; exact q
theorem pi_ex {tg e : Expr} {t : Hd → TI} (h : ∀ m, PI X tg e (t m)) : PI X tg e (fun σ H R => ∃ m, t m σ H R) :=
  ⟨fun pins s σ H R inv ⟨m, q⟩ => (h m).run pins s σ H R inv q⟩
theorem pg_ex {e : Expr} {t : Hd → TG} (h : ∀ m, PG X e (t m)) : PG X e (fun v σ H Q => ∃ m, t m v σ H Q) :=
  ⟨fun pins s σ H v u Q inv r ⟨m, q⟩ => (h m).run pins s σ H v u Q inv r q⟩
theorem mfor_post {src : Ev → RI} {p : Pat} {body : Ev → RS} : ∀ D σ H, tM K b W (fFor src p body) D σ H → tFor (fun σ H R => ∃ m, tI K (b.wt m) W src σ H R) (fun v σ H Q => ∃ m, gP K (b.wt m) p v σ H Q) (tM K b W body) D σ H := by
  rintro D σ H ⟨ρ, G, ⟨m, r, ho⟩, q⟩
  refine ⟨m, ρ, G, r, ?_⟩
  cases e0 : src ρ with
  | stuck => simp only [fFor, e0] at q; exact q
  | raise c ρ1 => simp only [fFor, e0] at q; exact fun G' H' r' s' => q σ G' H' ⟨m, r', ho.mono s'⟩ s'
  | ok xs ρ1 =>
    simp only [fFor, e0] at q
    intro J G1 H1 r1 s1 o1
    refine ⟨fun i n σ H => n = xs.length - i ∧ i ≤ xs.length ∧ ∃ ρ G, RelT K b G H σ ρ ∧ Same G1 G ∧ PostM K b W G D (forL p body (xs.drop i) ρ), ⟨xs.length, by simp, Nat.zero_le _, ρ1, G1, ⟨m, r1, ho.mono s1⟩, Same.refl _, PostM.mono s1 q⟩, ?_⟩
    rintro i n σ2 H2 ⟨rfl, hi, ρ2, G2, ⟨m2, r2, ho2⟩, s2, q2⟩
    by_cases hlt : i < xs.length
    · refine .inr ⟨o1.go i H2 (s2.trans r2.le) hlt, fun σ H => i + 1 ≤ xs.length ∧ ∃ ρ G, RelT K b G H σ ρ ∧ Same G1 G ∧ PostM K b W G D (forL p body (xs.drop (i + 1)) ρ), fun σ' H' z => ⟨xs.length - (i + 1), by omega, rfl, z.1, z.2⟩, fun x H3 y => ?_⟩
      have ed : xs.drop i = xs[i] :: xs.drop (i + 1) := List.drop_eq_getElem_cons hlt
      rw [ed] at q2
      obtain ⟨G3, r3, s3, d3⟩ := o1.step r2 s2 (List.getElem?_eq_getElem hlt) y
      cases e1 : bindP p xs[i] ρ2 with
      | none => simp only [forL, e1] at q2; exact q2.elim
      | some ρ3 =>
        simp only [forL, e1] at q2
        refine ⟨m2, ρ2, G3, xs[i], r3, d3, ρ3, e1, fun σ4 r4 _ => ⟨ρ3, G3, ⟨m2, r4, ho2.mono s3⟩, ?_⟩⟩
        cases e2 : body ρ3 with
        | next ρ5 => simp only [e2] at q2; exact fun σ' G' H' r' s' => ⟨hlt, ρ5, G', r', (s2.trans s3).trans s', PostM.mono (s3.trans s') q2⟩
        | cnt ρ5 => simp only [e2] at q2; exact fun σ' G' H' r' s' => ⟨hlt, ρ5, G', r', (s2.trans s3).trans s', PostM.mono (s3.trans s') q2⟩
        | brk ρ5 => simp only [e2] at q2; exact fun σ' G' H' r' s' => q2 σ' G' H' r' (s3.trans s')
        | ret sv ρ5 => simp only [e2] at q2; exact fun v σ' G' H' m' r' s' => q2 v σ' G' H' m' r' (s3.trans s')
        | raise c ρ5 => simp only [e2] at q2; exact fun σ' G' H' r' s' => q2 σ' G' H' r' (s3.trans s')
        | stuck => simp only [e2] at q2; exact q2
    · have e : i = xs.length := by omega
      subst e
      rw [List.drop_length] at q2
      exact .inl ⟨o1.stop _ H2 (s2.trans r2.le) (Nat.le_refl _), q2 σ2 G2 H2 ⟨m2, r2, ho2⟩ (Same.refl _)⟩
theorem m_for {tg iter : Expr} {body : List Stmt} {src : Ev → RI} {p : Pat} {fb : Ev → RS} {pos : Pos} (hp : PassesOwn (model X.prog X.w) X.A X.env X.xe) (hc : X.calm = true) (hi : ∀ m, PI X tg iter (tI X.K (b.wt m) W src)) (hg : ∀ m, PG X tg (gP X.K (b.wt m) p)) (hb : PSs X body (tM X.K b W fb))
    (hs : ∀ x, foldedSetIterable iter X.env x = pure x := by intro _; rfl) : PS X (.For tg iter body [] pos) (tM X.K b W (fFor src p fb)) := PS.imp (ps_for hp hc (pi_ex hi) (pg_ex hg) hb hs) mfor_post
theorem mwhile_post {c : Ev → RT} {body : Ev → RS} {n : Nat} : ∀ D σ H, tM K b W (whileL c body n) D σ H → tWhile (fun σ H Q => ∃ m, tT K (b.wt m) W c σ H Q) (tM K b W body) D σ H := by
  rintro D σ H ⟨ρ, G, r, q⟩
  refine ⟨fun n σ H => ∃ ρ G2, RelT K b G2 H σ ρ ∧ Same G G2 ∧ PostM K b W G2 D (whileL c body n ρ), ⟨n, ρ, G, r, Same.refl _, q⟩, ?_⟩
  rintro n σ1 H1 ⟨ρ1, G1, ⟨m, r1, ho⟩, s1, q1⟩
  cases n with
  | zero => exact q1.elim
  | succ n =>
    refine ⟨m, ?_⟩
    refine stepT (P := fun _ => True) r1 (fun k ρ2 e G2 H2 r2 s2 => ?_) (fun k ρ2 e G2 H2 r2 s2 => ?_) fun e => ?_
    · cases k with
      | false => simp only [whileL, e] at q1; exact iteF (q1 σ1 G2 H2 ⟨m, r2, ho.mono s2⟩ s2)
      | true =>
        simp only [whileL, e] at q1
        refine iteT ⟨fun σ H => ∃ ρ G2, RelT K b G2 H σ ρ ∧ Same G G2 ∧ PostM K b W G2 D (whileL c body n ρ), fun σ' H' z => ⟨n, Nat.lt_succ_self n, z⟩, ρ2, G2, ⟨m, r2, ho.mono s2⟩, ?_⟩
        cases e2 : body ρ2 with
        | next ρ5 => simp only [e2] at q1; exact fun σ' G' H' r' s' => ⟨ρ5, G', r', (s1.trans s2).trans s', PostM.mono (s2.trans s') q1⟩
        | cnt ρ5 => simp only [e2] at q1; exact fun σ' G' H' r' s' => ⟨ρ5, G', r', (s1.trans s2).trans s', PostM.mono (s2.trans s') q1⟩
        | brk ρ5 => simp only [e2] at q1; exact fun σ' G' H' r' s' => q1 σ' G' H' r' (s2.trans s')
        | ret sv ρ5 => simp only [e2] at q1; exact fun v σ' G' H' m' r' s' => q1 v σ' G' H' m' r' (s2.trans s')
        | raise k ρ5 => simp only [e2] at q1; exact fun σ' G' H' r' s' => q1 σ' G' H' r' (s2.trans s')
        | stuck => simp only [e2] at q1; exact q1
    · simp only [whileL, e] at q1; exact q1 σ1 G2 H2 ⟨m, r2, ho.mono s2⟩ s2
    · simp only [whileL, e] at q1; exact q1
theorem m_while {c : Expr} {body : List Stmt} {fc : Ev → RT} {fb : Ev → RS} {pos : Pos} (n : Nat) (hp : PassesOwn (model X.prog X.w) X.A X.env X.xe) (hc : ∀ m, PT X c (tT X.K (b.wt m) W fc)) (hb : PSs X body (tM X.K b W fb)) : PS X (.While c body [] pos) (tM X.K b W (whileL fc fb n)) := PS.imp (ps_while hp (pt_ex hc) hb) mwhile_post
end
section
variable {P : Program} {w : World} {K : PySem.W.Frag} {mg : Str → Option Value} {base : Heap} {cl : Nat → Addr} {G H G' H' : Hp} {σ : St} {ρ : Ev}
theorem rel_endM {r : Option (Nat × Addr)} {m : Hd} (h : Rel K ((bxOf cl G H r).wt m) G' H' σ ρ) : FExt K G H (r.map (·.2)) (rfOf ρ) G' H' := by
  refine ⟨h.base, h.le, fun a o ha hr => h.keep a o ha fun p hp e => ?_, h.fresh, fun a hr => ?_⟩
  · have := in_bx (cl := cl) (G := G) (H := H) hp
    subst this
    exact hr (by rw [← e]; rfl)
  · cases r with
    | none => cases hr
    | some p =>
      cases hr
      obtain ⟨m, h1, h2⟩ := h.byr _ (bx_in (cl := cl) (G := G) (H := H))
      obtain ⟨v, h3, a', xs, e2, h4, h5, h6, h7⟩ := h.slot _ _ h2
      rw [h1] at h3; cases h3; cases e2
      refine ⟨h5, xs, h4, ?_⟩
      rw [rfOf_at h2 fun k m' hk => ?_]
      · exact h7
      · obtain ⟨v', g3, a'', xs', g2, g4, g5, g6, g7⟩ := h.slot _ _ hk
        have g6' : (k, a'') ∈ (bxOf cl G H (some p)).B := g6
        have z := in_bx g6'
        cases z
        rfl
theorem rep_endM {r : Option (Nat × Addr)} {m : Hd} {v : V} {sv : Sv} (d : RepM K ((bxOf cl G H r).wt m) G' H' σ ρ v sv) : RepF K cl H G' H' v sv := by
  cases sv with
  | on w => obtain ⟨F, h1, h2⟩ := d; exact ⟨F, h1, fun a ha => (h2 a ha).1⟩
  | al j p => exact d.elim
  | ow l => obtain ⟨a, xs, e, h1, h2, h3, h4, h5, h6⟩ := d; exact ⟨a, xs, e, h1, h2, h3, h6⟩
  | _ => exact d
theorem fn_bodyM {x qual : Str} {st : Stmt} {f : Addr} {fd : FuncData} {N ps : List Str} {k : Nat} {fb : Ev → RS} (F : Fun K x qual st f fd) (S : FnScope N ps (defScope st))
    (hbody : ∀ (cdv : Value) (A : Around) (outer : List Env) (s : Shared) (H : Hp) (E : XK) (b : Bx), A.guards = some [] → Room k (A.deeper (envOfC qual (defScope st) s.heap.objs.size f cdv)) → b.cl = cl → b.pin = [] →
      PSs (cxOf (L2.CX P w) P w K mg base N qual (defScope st) f cdv A outer s H E) (defBody st) (tM K b (WD E) fb)) :
    FnG P w K mg base (k + 1) f fd ps (spF K cl (runF N.length fb) ps.length) := by
  refine fn_G F S (fun vs H Q E h => h.1) fun cdv A outer s H vs Q E hg hr h => ?_
  obtain ⟨hl, G, svs, r, sm, ao, hq⟩ := h
  refine ⟨_, hbody cdv A outer s H E (bxOf cl G H r) hg hr rfl rfl, _, G, ⟨⟨(bxOf cl G H r).T, (bxOf cl G H r).own, (bxOf cl G H r).rt, (bxOf cl G H r).al⟩, rel_start sm ao, ⟨(fun a o h => nomatch h), (fun j i p v h => nomatch h), fun i p v h => nomatch h⟩⟩, ?_⟩
  unfold runF at hq
  cases e : fb (svs.map some ++ List.replicate (N.length - svs.length) none) with
  | next ρ => rw [e] at hq; exact fun σ' G' H' ⟨_, r', _⟩ s' => hq .non G' H' (rel_endM r') .non
  | ret sv ρ => rw [e] at hq; exact fun v σ' G' H' m r' s' d' => hq v G' H' (rel_endM r') (rep_endM d')
  | brk ρ => rw [e] at hq; exact hq.elim
  | cnt ρ => rw [e] at hq; exact hq.elim
  | raise c ρ => rw [e] at hq; exact fun σ' G' H' ⟨_, r', _⟩ s' => hq G' H' (rel_endM r')
  | stuck => rw [e] at hq; exact hq.elim
end
end Dl
set_option maxHeartbeats 4000000
/-! DlQ: what is one's own is looked at (borrow); expressions that make structures of one's own. -/
namespace Dl
open PySem PySem.Spec L2
open PyProof.Rows (envOfC)
mutual
/-- no list in it -/
def lf : D → Bool
  | .list _ => false
  | .dict _ => false
  | .tuple xs => lfs xs
  | _ => true
def lfs : List D → Bool
  | [] => true
  | x :: xs => lf x && lfs xs
end
/-- all that is one's own, seen as data -/
def frz1 : Option Sv → Option Sv
  | some (.on w) => some (.d w.toD)
  | some (.ow l) => some (.d (.list l))
  | some (.rf l) => some (.d (.list l))
  | some (.al _ _) => none
  | s => s
def frz (ρ : Ev) : Ev := ρ.map frz1
def fBor (f : Ev → RE) : Ev → RE := fun ρ => match f (frz ρ) with
  | .ok (.d x) _ => if lf x = true then .ok (.d x) ρ else .stuck
  | .ok (.ow l) _ => if lfs l = true then .ok (.ow l) ρ else .stuck
  | .raise c _ => .raise c ρ
  | _ => .stuck
def fBorT (f : Ev → RT) : Ev → RT := fun ρ => match f (frz ρ) with
  | .ok c _ => .ok c ρ
  | .raise c _ => .raise c ρ
  | .stuck => .stuck
section
variable {K : PySem.W.Frag}
mutual
theorem da_lf {G G' : Hp} (h : ∀ a o, G a = some o → (∀ vs, o ≠ .lst vs) → G' a = some o) : ∀ {v : V} {x : D}, Da K G v x → lf x = true → Da K G' v x
  | _, _, .non, _ => .non
  | _, _, .bl b, _ => .bl b
  | _, _, .int i, _ => .int i
  | _, _, .str x, _ => .str x
  | _, _, .lst _ _, e => by unfold lf at e; cases e
  | _, _, .tup (a := a) (xs := xs) s r, e => by
    unfold lf at e
    refine .tup ?_ (das_lf h r e)
    rcases s with (s | ⟨o, s⟩) | s
    · exact .inl (.inl (h _ _ s fun vs z => by cases z))
    · exact .inl (.inr ⟨o, h _ _ s fun vs z => by cases z⟩)
    · exact .inr s
theorem das_lf {G G' : Hp} (h : ∀ a o, G a = some o → (∀ vs, o ≠ .lst vs) → G' a = some o) : ∀ {vs : List V} {xs : List D}, DaAll K G vs xs → lfs xs = true → DaAll K G' vs xs
  | _, _, .nil, _ => .nil
  | _, _, .cons d r, e => by
    unfold lfs at e
    rw [Bool.and_eq_true] at e
    exact .cons (da_lf h d e.1) (das_lf h r e.2)
end
end
section
variable {K : PySem.W.Frag} {b : Bx} {W : WX} {G H : Hp} {σ : St} {ρ : Ev}
/-- the cells that are seen as shared for the while -/
def Mine (b : Bx) (σ : St) (ρ : Ev) (a : Addr) : Prop := (∃ i, Owns σ ρ i a) ∨ ∃ vs, b.T a = some (.lst vs)
open Classical in
noncomputable def borG (b : Bx) (G H : Hp) (σ : St) (ρ : Ev) : Hp := fun a => if Mine b σ ρ a then H a else G a
def borB (b : Bx) (G H : Hp) : Bx := { cl := b.cl, G0 := G, H0 := H, B := [], T := fun _ => none }
theorem Rel.mine (r : Rel K b G H σ ρ) {a : Addr} (h : Mine b σ ρ a) : G a = none ∧ ∃ vs, H a = some (.lst vs) := by
  rcases h with ⟨i, h1, l, h2⟩ | ⟨vs, h⟩
  · rcases h2 with h2 | h2 <;> (obtain ⟨v, q1, c, ys, e1, q2, q3, _⟩ := r.slot _ _ h2; rw [h1] at q1; cases q1; cases e1; exact ⟨q3, ys, q2⟩)
  · obtain ⟨h1, h2, _⟩ := r.tmp a _ h
    exact ⟨h2, vs, h1⟩
theorem borG_same (r : Rel K b G H σ ρ) : Same G (borG b G H σ ρ) := fun a o e => by
  unfold borG
  rw [if_neg (fun hm => by rw [(r.mine hm).1] at e; cases e)]
  exact e
theorem borG_le (r : Rel K b G H σ ρ) : Same (borG b G H σ ρ) H := fun a o e => by
  unfold borG at e
  split at e
  · exact e
  · exact r.le _ _ e
theorem borG_mine {a : Addr} (h : Mine b σ ρ a) : borG b G H σ ρ a = H a := by unfold borG; rw [if_pos h]
theorem Rel.borrow (r : Rel K b G H σ ρ) : Rel K (borB b (borG b G H σ ρ) H) (borG b G H σ ρ) H σ (frz ρ) := by
  have sg := borG_same r
  have noOw : ∀ {i : Nat} {l : List D}, (frz ρ)[i]? ≠ some (some (.ow l)) ∧ (frz ρ)[i]? ≠ some (some (.rf l)) := fun {i l} => by
    unfold frz
    rw [List.getElem?_map]
    cases ρ[i]? with
    | none => exact ⟨(fun z => nomatch z), (fun z => nomatch z)⟩
    | some s =>
      cases s with
      | none => exact ⟨(fun z => nomatch z), (fun z => nomatch z)⟩
      | some s => cases s <;> exact ⟨(fun z => nomatch z), (fun z => nomatch z)⟩
  refine ⟨borG_le r, by unfold frz; rw [List.length_map]; exact r.len, fun i sv q => ?_, fun i j a h _ => ?_, fun a o h _ => h, Same.refl _, fun a o h => .inl h, (fun p hp => nomatch hp), fun a o h => nomatch h⟩
  · unfold frz at q
    rw [List.getElem?_map] at q
    cases e : ρ[i]? with
    | none => rw [e] at q; cases q
    | some s =>
      cases s with
      | none => rw [e] at q; cases q
      | some s =>
        rw [e] at q
        obtain ⟨v, h1, h2⟩ := r.slot _ _ e
        refine ⟨v, h1, ?_⟩
        cases s with
        | d x => cases q; exact Da.mono sg h2
        | ow l =>
          cases q
          obtain ⟨a, xs, rfl, h3, h4, h5, h6⟩ := h2
          exact .lst (by rw [borG_mine (.inl ⟨i, h1, l, .inl e⟩)]; exact h3) (DaAll.mono sg h6)
        | rf l =>
          cases q
          obtain ⟨a, xs, rfl, h3, h4, h5, h6⟩ := h2
          exact .lst (by rw [borG_mine (.inl ⟨i, h1, l, .inr e⟩)]; exact h3) (DaAll.mono sg h6)
        | ex c =>
          cases q
          obtain ⟨a, e1, h3⟩ := h2
          exact ⟨a, e1, sg _ _ h3⟩
        | px c =>
          cases q
          obtain ⟨a, u, e1, h3, h4⟩ := h2
          exact ⟨a, u, e1, seqT sg h3, sg _ _ h4⟩
        | al j p => cases q
        | fz l =>
          cases q
          obtain ⟨a, xs, e1, h3, h4⟩ := h2
          exact ⟨a, xs, e1, sg.seq h3, DaAll.mono sg h4⟩
        | on w =>
          cases q
          obtain ⟨_, F, h3, _⟩ := h2
          have hm : ∀ a ∈ F, Mine b σ ρ a := fun a ha => .inr (Lin.own h3 a ha).2
          have h4 : Lin K G H v w F := Lin.frame (Same.refl _) h3 (fun a ha => by
            obtain ⟨_, vs, e⟩ := Lin.own h3 a ha
            rw [e]; exact (r.tmp a _ e).1) fun a ha => (Lin.own h3 a ha).1
          refine Da.mono (fun a o e => ?_) (Lin.da r.le h4)
          unfold takeIn at e
          split at e
          · rename_i hF; rw [borG_mine (hm a hF)]; exact e
          · exact sg _ _ e
  · obtain ⟨_, l, h2⟩ := h
    rcases h2 with h2 | h2
    · exact absurd h2 noOw.1
    · exact absurd h2 noOw.2
/-- behind it -/
theorem Rel.unborrow {G' H' : Hp} {ρ' : Ev} (r : Rel K b G H σ ρ) (r' : Rel K (borB b (borG b G H σ ρ) H) G' H' σ ρ') : ∃ G'', Rel K b G'' H' σ ρ ∧ Same G G'' ∧ (∀ v x, Da K G' v x → lf x = true → Da K G'' v x) ∧ (∀ vs xs, DaAll K G' vs xs → lfs xs = true → DaAll K G'' vs xs) ∧ ∀ a, G' a = none → G'' a = none := by
  have base : Same (borG b G H σ ρ) G' := r'.base
  have keep : Same H H' := fun a o h => r'.keep a o h (fun p hp => nomatch hp)
  open Classical in
  let G2 : Hp := fun a => if Mine b σ ρ a then none else G' a
  have e1 : ∀ {a}, Mine b σ ρ a → G2 a = none := fun {a} h => if_pos h
  have e2 : ∀ {a}, ¬ Mine b σ ρ a → G2 a = G' a := fun {a} h => if_neg h
  have sg : Same G G2 := fun a o h => by
    rw [e2 (fun hm => by rw [(r.mine hm).1] at h; cases h)]
    exact base _ _ (borG_same r _ _ h)
  have nl : ∀ a o, G' a = some o → (∀ vs, o ≠ .lst vs) → G2 a = some o := fun a o h n => by
    rw [e2 fun hm => ?_]
    · exact h
    · obtain ⟨_, vs, q⟩ := r.mine hm
      have z : G' a = some (.lst vs) := base _ _ (by rw [borG_mine hm]; exact q)
      rw [h] at z
      cases z
      exact n vs rfl
  refine ⟨G2, r.ext ⟨sg, keep, fun a o h => ?_, fun a o h => ?_⟩, sg, fun v x d l => da_lf nl d l, fun vs xs d l => das_lf nl d l, fun a h => ?_⟩
  · by_cases hm : Mine b σ ρ a
    · rw [e1 hm] at h; cases h
    · rw [e2 hm] at h; exact r'.le _ _ h
  · by_cases hm : Mine b σ ρ a
    · rw [e1 hm] at h; cases h
    · rw [e2 hm] at h
      rcases r'.fresh a o h with z | z
      · have z : borG b G H σ ρ a = some o := z
        unfold borG at z
        rw [if_neg hm] at z
        exact .inl z
      · exact .inr z
  · by_cases hm : Mine b σ ρ a
    · exact e1 hm
    · rw [e2 hm]; exact h
theorem Rel.noOwn (r : Rel K b G H σ ρ) {a : Addr} (h : H a = none) : ∀ i, ¬ Owns σ ρ i a := fun i z => by
  obtain ⟨_, vs, q⟩ := r.mine (.inl ⟨i, z⟩)
  rw [h] at q
  cases q
variable {X : Cx}
theorem bor_post {f : Ev → RE} : ∀ σ H Q, tE K b W (fBor f) σ H Q → ∃ b' : Bx, b'.cl = b.cl ∧ tE K b' W f σ H Q := by
  rintro σ H Q ⟨ρ, G, r, q⟩
  refine ⟨borB b (borG b G H σ ρ) H, rfl, frz ρ, borG b G H σ ρ, r.borrow, ?_⟩
  cases e : f (frz ρ) with
  | stuck => simp only [fBor, e] at q; exact q
  | raise c ρ1 =>
    simp only [fBor, e] at q
    intro G' H' r' s'
    obtain ⟨G2, r2, s2, _⟩ := r.unborrow r'
    exact q G2 H' r2 s2
  | ok sv ρ1 =>
    intro v G' H' r' s' d'
    obtain ⟨G2, r2, s2, f1, f2, f3⟩ := r.unborrow r'
    cases sv with
    | d x =>
      simp only [fBor, e] at q
      obtain ⟨c, q⟩ := postE_if q
      exact q v G2 H' r2 s2 (f1 _ _ d' c)
    | ow l =>
      simp only [fBor, e] at q
      obtain ⟨c, q⟩ := postE_if q
      obtain ⟨a, xs, rfl, h1, h2, h3, h4, h5, h6⟩ := d'
      have ha : H a = none := h3
      exact q _ G2 H' r2 s2 ⟨a, xs, rfl, h1, f3 a h2, r.h0 ha, r.t0 ha, r.noOwn ha, f2 _ _ h6 c⟩
    | _ => simp only [fBor, e] at q; exact q.elim
theorem e_bor {e : Expr} {f : Ev → RE} (h : ∀ b' : Bx, b'.cl = b.cl → PE X e (tE X.K b' W f)) : PE X e (tE X.K b W (fBor f)) :=
  ⟨fun pins s σ H Q I q => by
    obtain ⟨b', e1, q'⟩ := bor_post σ H Q q
    exact (h b' e1).run pins s σ H Q I q'⟩
theorem t_bor {e : Expr} {f : Ev → RT} (h : ∀ b' : Bx, b'.cl = b.cl → PT X e (tT X.K b' W f)) : PT X e (tT X.K b W (fBorT f)) :=
  ⟨fun pins s σ H Q I ⟨ρ, G, r, q⟩ => by
    refine (h (borB b (borG b G H σ ρ) H) rfl).run pins s σ H Q I ⟨frz ρ, borG b G H σ ρ, r.borrow, ?_⟩
    cases e : f (frz ρ) with
    | stuck => simp only [fBorT, e] at q; exact q
    | raise c ρ1 =>
      simp only [fBorT, e] at q
      intro G' H' r' s'
      obtain ⟨G2, r2, s2, _⟩ := r.unborrow r'
      exact q G2 H' r2 s2
    | ok c ρ1 =>
      simp only [fBorT, e] at q
      intro G' H' r' s'
      obtain ⟨G2, r2, s2, _⟩ := r.unborrow r'
      exact q G2 H' r2 s2⟩
end
end Dl
set_option maxHeartbeats 4000000
/-! DlR: expressions that make structures of one's own. -/
namespace Dl
open PySem PySem.Spec L2
open PyProof.Rows (envOfC)
def PostEM (K : PySem.W.Frag) (b : Bx) (W : WX) (G : Hp) (σ : St) (Q : VK) : RE → Prop
  | .ok sv ρ' => ∀ v G' H' m, Rel K (b.wt m) G' H' σ ρ' → Ho b G' m → Same G G' → RepM K (b.wt m) G' H' σ ρ' v sv → Q v H'
  | .raise c ρ' => ∀ G' H', RelT K b G' H' σ ρ' → Same G G' → W (.ref (b.cl c)) none σ H'
  | .stuck => False
def tEM (K : PySem.W.Frag) (b : Bx) (W : WX) (f : Ev → RE) : TE := fun σ H Q => ∃ ρ G, RelT K b G H σ ρ ∧ PostEM K b W G σ Q (f ρ)
/-- as a structure of one's own -/
def Sv.ow? : Sv → Option Ow
  | .d x => some (.dat x)
  | .ow l => some (.lst (l.map .dat))
  | .on w => some w
  | _ => none
section
variable {K : PySem.W.Frag} {b : Bx} {W : WX} {G G1 H : Hp} {σ : St} {ρ : Ev} {Q : VK} {X : Cx}
theorem PostEM.mono {r : RE} (e : Same G G1) (h : PostEM K b W G σ Q r) : PostEM K b W G1 σ Q r := by
  cases r with
  | ok sv ρ' => exact fun v G' H' m r ho s q => h v G' H' m r ho (e.trans s) q
  | raise c ρ' => exact fun G' H' r s => h G' H' r (e.trans s)
  | stuck => exact h
theorem postEM_if {c : Prop} [Decidable c] {x : RE} (h : PostEM K b W G σ Q (if c then x else .stuck)) : c ∧ PostEM K b W G σ Q x := by
  by_cases e : c
  · rw [if_pos e] at h; exact ⟨e, h⟩
  · rw [if_neg e] at h; exact h.elim
theorem PostEM.at {r : RE} {m : Hd} (ho : Ho b G m) (h : PostEM K b W G σ Q r) : PostE K (b.wt m) W G σ Q r := by
  cases r with
  | ok sv ρ' => exact fun v G' H' r s q => h v G' H' m r (ho.mono s) s (RepM.of q)
  | raise c ρ' => exact fun G' H' r s => h G' H' ⟨m, r, ho.mono s⟩ s
  | stuck => exact h
theorem me_plain {e : Expr} {f : Ev → RE} (h : ∀ m, PE X e (tE X.K (b.wt m) W f)) : PE X e (tEM X.K b W f) :=
  ⟨fun pins s σ H Q inv ⟨ρ, G, ⟨m, r, ho⟩, q⟩ => (h m).run pins s σ H Q inv ⟨ρ, G, r, q.at ho⟩⟩
/-- cells of nobody's -/
def Free (b : Bx) (σ : St) (ρ : Ev) (F : List Addr) : Prop := ∀ a ∈ F, b.H0 a = none ∧ b.T a = none ∧ ∀ i, ¬ Owns σ ρ i a
theorem lin_dats : ∀ {vs : List V} {xs : List D}, DaAll K G vs xs → LinAll K G H vs (xs.map .dat) []
  | _, _, .nil => .nil
  | _, _, .cons d r => .cons (F := []) (.dat d) (lin_dats r) fun a ha => nomatch ha
theorem RepM.lin {v : V} {sv : Sv} {w : Ow} (h : RepM K b G H σ ρ v sv) (e : sv.ow? = some w) : ∃ F, Lin K G H v w F ∧ Free b σ ρ F := by
  cases sv with
  | d x => cases e; exact ⟨[], .dat h, fun a ha => nomatch ha⟩
  | ow l =>
    cases e
    obtain ⟨a, xs, rfl, h1, h2, h3, h4, h5, h6⟩ := h
    exact ⟨[a], .lst h1 h2 (lin_dats h6) (by simp), fun c hc => by
      cases List.mem_singleton.mp hc
      exact ⟨h3, h4, h5⟩⟩
  | on w => cases e; exact h
  | _ => cases e
/-- cells of nobody's are held for the while -/
def Hd.grab (m : Hd) (H : Hp) (F : List Addr) (o : Option Nat) : Hd := { m with T := takeIn m.T H F, own := fun a => if a ∈ F then o else m.own a }
theorem Rel.grab {m : Hd} {F : List Addr} {o : Option Nat} (r : Rel K (b.wt m) G H σ ρ) (h : Free (b.wt m) σ ρ F) (hg : ∀ a ∈ F, G a = none) : Rel K (b.wt (m.grab H F o)) G H σ ρ := by
  refine ⟨r.le, r.len, fun i sv q => ?_, r.apart, r.keep, r.base, r.fresh, r.byr, fun a u q => ?_⟩
  · obtain ⟨v, h1, h2⟩ := r.slot i sv q
    refine ⟨v, h1, ?_⟩
    cases sv with
    | on w =>
      obtain ⟨hr, F', h3, h4⟩ := h2
      have nm : ∀ c ∈ F', c ∉ F := fun c hc hm => by
        obtain ⟨_, us, h6⟩ := Lin.own h3 c hc
        have z : (b.wt m).T c = none := (h c hm).2.1
        rw [z] at h6
        cases h6
      exact ⟨hr, F', Lin.frame (Same.refl _) h3 (fun c hc => by
        show takeIn m.T H F c = m.T c
        unfold takeIn; rw [if_neg (nm c hc)]) fun c hc => (Lin.own h3 c hc).1, fun c hc => by
        show (if c ∈ F then o else m.own c) = some i
        rw [if_neg (nm c hc)]; exact h4 c hc⟩
    | _ => exact h2
  · have q : takeIn m.T H F a = some u := q
    unfold takeIn at q
    split at q
    · rename_i hm
      exact ⟨q, hg a hm, (h a hm).1, (h a hm).2.2⟩
    · exact r.tmp a u q
/-- b holds them -/
structure Hl where
  T : Hp
  pin : List (Nat × List Nat × V)
def Bx.hd (b : Bx) (h : Hl) : Bx := { b with T := h.T, pin := h.pin }
theorem Nav.keep {m m' : Hd} {i : Nat} (t : ∀ a o, m.T a = some o → m.own a = some i → m'.T a = some o ∧ m'.own a = some i) {v : V} {p : List Nat} {u : V} (h : Nav G m i v p u) : Nav G m' i v p u := Nav.mono (m := m) (m' := m') (Same.refl _) t h
theorem grab_keep {m : Hd} {F : List Addr} {o : Option Nat} (hf : ∀ a ∈ F, m.T a = none) {i : Nat} : ∀ a u, m.T a = some u → m.own a = some i → (m.grab H F o).T a = some u ∧ (m.grab H F o).own a = some i := fun a u h3 h4 => by
  have c : a ∉ F := fun c => by rw [hf a c] at h3; cases h3
  exact ⟨by show takeIn m.T H F a = some u; unfold takeIn; rw [if_neg c]; exact h3, by show (if a ∈ F then o else m.own a) = some i; rw [if_neg c]; exact h4⟩
theorem Ho.grab {m : Hd} {F : List Addr} (h : Ho b G m) (hf : ∀ a ∈ F, m.T a = none) : Ho (b.hd ⟨takeIn b.T H F, b.pin⟩) G (m.grab H F none) := by
  refine ⟨fun a o q => ?_, fun j i p v q => ?_, fun i p v q r hr => Nav.keep (grab_keep hf) (h.pin i p v q r hr)⟩
  · have q : takeIn b.T H F a = some o := q
    show takeIn m.T H F a = some o ∧ (if a ∈ F then none else m.own a) = none
    unfold takeIn at q ⊢
    by_cases c : a ∈ F
    · rw [if_pos c] at q ⊢
      rw [if_pos c]
      exact ⟨q, rfl⟩
    · rw [if_neg c] at q ⊢
      rw [if_neg c]
      exact h.held a o q
  · obtain ⟨r, h1, h2⟩ := h.al j i p v q
    refine ⟨r, h1, Nav.mono (Same.refl _) (fun a o h3 h4 => ?_) h2⟩
    have c : a ∉ F := fun c => by rw [hf a c] at h3; cases h3
    exact ⟨by show takeIn m.T H F a = some o; unfold takeIn; rw [if_neg c]; exact h3, by show (if a ∈ F then none else m.own a) = some i; rw [if_neg c]; exact h4⟩
theorem Ho.grabOwn {m : Hd} {F : List Addr} {k : Nat} (h : Ho b G m) (hf : ∀ a ∈ F, m.T a = none) : Ho b G (m.grab H F (some k)) := by
  refine ⟨fun a o q => ?_, fun j i p v q => ?_, fun i p v q r hr => Nav.keep (grab_keep hf) (h.pin i p v q r hr)⟩
  · obtain ⟨h1, h2⟩ := h.held a o q
    have c : a ∉ F := fun c => by rw [hf a c] at h1; cases h1
    exact ⟨by show takeIn m.T H F a = some o; unfold takeIn; rw [if_neg c]; exact h1, by show (if a ∈ F then some k else m.own a) = none; rw [if_neg c]; exact h2⟩
  · obtain ⟨r, h1, h2⟩ := h.al j i p v q
    refine ⟨r, h1, Nav.mono (Same.refl _) (fun a o h3 h4 => ?_) h2⟩
    have c : a ∉ F := fun c => by rw [hf a c] at h3; cases h3
    exact ⟨by show takeIn m.T H F a = some o; unfold takeIn; rw [if_neg c]; exact h3, by show (if a ∈ F then some k else m.own a) = some i; rw [if_neg c]; exact h4⟩
/-- they are let go -/
def Hd.drop (m : Hd) (F : List Addr) : Hd := { m with T := fun a => if a ∈ F then none else m.T a }
theorem Rel.drop {m : Hd} {F : List Addr} (r : Rel K (b.wt m) G H σ ρ) (h : ∀ a ∈ F, m.own a = none) : Rel K (b.wt (m.drop F)) G H σ ρ := by
  refine ⟨r.le, r.len, fun i sv q => ?_, r.apart, r.keep, r.base, r.fresh, r.byr, fun a u q => ?_⟩
  · obtain ⟨v, h1, h2⟩ := r.slot i sv q
    refine ⟨v, h1, ?_⟩
    cases sv with
    | on w =>
      obtain ⟨hr, F', h3, h4⟩ := h2
      exact ⟨hr, F', Lin.frame (Same.refl _) h3 (fun c hc => by
        show (if c ∈ F then none else m.T c) = m.T c
        rw [if_neg fun z => by have y : m.own c = some i := h4 c hc; rw [h c z] at y; cases y]) fun c hc => (Lin.own h3 c hc).1, h4⟩
    | _ => exact h2
  · have q : (if a ∈ F then none else m.T a) = some u := q
    split at q
    · cases q
    · exact r.tmp a u q
theorem drop_keep {m : Hd} {F : List Addr} {i : Nat} (hf : ∀ a ∈ F, m.own a ≠ some i) : ∀ a u, m.T a = some u → m.own a = some i → (m.drop F).T a = some u ∧ (m.drop F).own a = some i := fun a u h3 h4 => by
  have c : a ∉ F := fun c => hf a c h4
  exact ⟨by show (if a ∈ F then none else m.T a) = some u; rw [if_neg c]; exact h3, h4⟩
theorem Ho.drop {m : Hd} {F : List Addr} {T : Hp} (h : Ho (b.hd ⟨takeIn b.T T F, b.pin⟩) G m) (hb : ∀ a ∈ F, b.T a = none) (hf : ∀ a ∈ F, m.own a = none) : Ho b G (m.drop F) := by
  refine ⟨fun a o q => ?_, fun j i p v q => ?_, fun i p v q r hr => Nav.keep (drop_keep fun a ha z => by rw [hf a ha] at z; cases z) (h.pin i p v q r hr)⟩
  · have c : a ∉ F := fun c => by rw [hb a c] at q; cases q
    obtain ⟨h1, h2⟩ := h.held a o (by show takeIn b.T T F a = some o; unfold takeIn; rw [if_neg c]; exact q)
    exact ⟨by show (if a ∈ F then none else m.T a) = some o; rw [if_neg c]; exact h1, h2⟩
  · obtain ⟨r, h1, h2⟩ := h.al j i p v q
    refine ⟨r, h1, Nav.mono (Same.refl _) (fun a o h3 h4 => ?_) h2⟩
    have c : a ∉ F := fun c => by rw [hf a c] at h4; cases h4
    exact ⟨by show (if a ∈ F then none else m.T a) = some o; rw [if_neg c]; exact h3, h4⟩

/-! ### rows of expressions -/
def runAM : List (Ev → RE) → Ev → (List Ow → Ev → RE) → RE
  | [], ρ, k => k [] ρ
  | f :: fs, ρ, k => match f ρ with
    | .ok sv ρ1 => match sv.ow? with
      | some w => runAM fs ρ1 fun ws ρ2 => k (w :: ws) ρ2
      | none => .stuck
    | .raise c ρ1 => .raise c ρ1
    | .stuck => .stuck
def tAM (K : PySem.W.Frag) (W : WX) : Bx → List (Ev → RE) → TA
  | _, [] => tNil
  | b, f :: fs => tCons (tEM K b W f) (fun σ H Q => ∃ T, tAM K W (b.hd T) fs σ H Q)
theorem pa_exT {es : List Expr} {t : Hl → TA} (h : ∀ T, PA X es (t T)) : PA X es (fun σ H Q => ∃ T, t T σ H Q) :=
  ⟨fun pos pins s σ H Q inv ⟨T, q⟩ => (h T).run pos pins s σ H Q inv q⟩
theorem am_nil : PA X [] (tAM X.K W b []) := pa_nil
theorem am_cons {e : Expr} {es : List Expr} {f : Ev → RE} {fs : List (Ev → RE)} (ha : PE X e (tEM X.K b W f)) (hr : ∀ T, PA X es (tAM X.K W (b.hd T) fs)) (hs : starEach (e :: es) X.env = (false, eval e X.env) :: starEach es X.env := by rfl) :
    PA X (e :: es) (tAM X.K W b (f :: fs)) := pa_cons ha (pa_exT hr) hs
/-- what stands under b's hold stands under b0's -/
def Lift (K : PySem.W.Frag) (b0 b : Bx) (σ : St) : Prop := b0.cl = b.cl ∧ ∀ G H ρ, RelT K b G H σ ρ → RelT K b0 G H σ ρ
theorem Lift.refl : Lift K b b σ := ⟨rfl, fun _ _ _ h => h⟩
theorem Lift.hd {b0 : Bx} {T : Hp} {F : List Addr} (l : Lift K b0 b σ) (hb : ∀ a ∈ F, b.T a = none ∧ ∃ o, T a = some o) : Lift K b0 (b.hd ⟨takeIn b.T T F, b.pin⟩) σ :=
  ⟨l.1, fun G H ρ ⟨m, r, ho⟩ => by
    have of : ∀ a ∈ F, m.own a = none := fun a ha => by
      obtain ⟨_, o, q⟩ := hb a ha
      exact (ho.held a o (by show takeIn b.T T F a = _; unfold takeIn; rw [if_pos ha]; exact q)).2
    exact l.2 _ _ _ ⟨m.drop F, Rel.drop (b := b) r of, ho.drop (fun a ha => (hb a ha).1) of⟩⟩
theorem stepAM {b0 : Bx} : ∀ (fs : List (Ev → RE)) {b : Bx} {G H : Hp} {ρ : Ev} {k : List Ow → Ev → RE} (l : Lift K b0 b σ) (r : RelT K b G H σ ρ) (h : PostEM K b0 W G σ Q (runAM fs ρ k)) {R : List V → Hp → Prop}
    (hR : ∀ vs H1 ρ1 G1 ws m F, Rel K (b.wt m) G1 H1 σ ρ1 → Ho b G1 m → Same G G1 → LinAll K G1 H1 vs ws F → Free (b.wt m) σ ρ1 F → PostEM K b0 W G1 σ Q (k ws ρ1) → R vs H1), tAM K W b fs σ H R
  | [], b, G, H, ρ, k, l, ⟨m, r, ho⟩, h, R, hR => hR [] H ρ G [] m [] r ho (Same.refl _) .nil (fun a ha => nomatch ha) h
  | f :: fs, b, G, H, ρ, k, l, r, h, R, hR => by
    show tEM K b W f σ H _
    refine ⟨ρ, G, r, ?_⟩
    cases e : f ρ with
    | stuck => simp only [runAM, e] at h; exact h
    | raise c ρ1 =>
      simp only [runAM, e] at h
      intro G' H' r' s'
      have z := h G' H' (l.2 _ _ _ r') s'
      rw [l.1] at z
      exact z
    | ok sv ρ1 =>
      simp only [runAM, e] at h
      intro v G1 H1 m1 r1 ho1 s1 d1
      cases eo : sv.ow? with
      | none => simp only [eo] at h; exact h.elim
      | some w =>
        simp only [eo] at h
        obtain ⟨F1, l1, f1⟩ := d1.lin eo
        have g1 : ∀ a ∈ F1, G1 a = none := fun a ha => (Lin.own l1 a ha).1
        have t1 : ∀ a ∈ F1, m1.T a = none := fun a ha => (f1 a ha).2.1
        have b1 : ∀ a ∈ F1, b.T a = none := fun a ha => by
          cases q : b.T a with
          | none => rfl
          | some o => have z := (ho1.held a o q).1; rw [t1 a ha] at z; cases z
        have lst1 : ∀ a ∈ F1, ∃ o, H1 a = some o := fun a ha => (by obtain ⟨_, us, q⟩ := Lin.own l1 a ha; exact ⟨_, q⟩)
        refine ⟨⟨takeIn b.T H1 F1, b.pin⟩, ?_⟩
        refine stepAM fs (b := b.hd ⟨takeIn b.T H1 F1, b.pin⟩) (l.hd fun a ha => ⟨b1 a ha, lst1 a ha⟩) ⟨m1.grab H1 F1 none, Rel.grab (b := b) r1 f1 g1, ho1.grab t1⟩ (PostEM.mono s1 h) fun vs H2 ρ2 G2 ws m2 F2 r2 ho2 s2 l2 f2 q2 => ?_
        have held : ∀ a ∈ F1, m2.T a = H1 a ∧ m2.own a = none := fun a ha => by
          obtain ⟨_, us, q⟩ := Lin.own l1 a ha
          have z := ho2.held a (.lst us) (by show takeIn b.T H1 F1 a = _; unfold takeIn; rw [if_pos ha]; exact q)
          rw [q]; exact z
        have of : ∀ a ∈ F1, m2.own a = none := fun a ha => (held a ha).2
        have dis : ∀ a ∈ F1, a ∉ F2 := fun a ha hm => by
          have z : m2.T a = none := (f2 a hm).2.1
          obtain ⟨_, us, q⟩ := Lin.own l1 a ha
          rw [(held a ha).1, q] at z
          cases z
        have tm : ∀ a ∈ F1, H2 a = H1 a ∧ G2 a = none ∧ b.H0 a = none ∧ ∀ i, ¬ Owns σ ρ2 i a := fun a ha => by
          obtain ⟨_, us, q⟩ := Lin.own l1 a ha
          have z : m2.T a = some (.lst us) := (held a ha).1.trans q
          have y := r2.tmp a _ z
          rw [q]; exact y
        exact hR (v :: vs) H2 ρ2 G2 (w :: ws) (m2.drop F1) (F1 ++ F2) (Rel.drop (b := b) r2 of) (ho2.drop b1 of) (s1.trans s2)
          (.cons (Lin.frame s2 l1 (fun a ha => (tm a ha).1) fun a ha => (tm a ha).2.1) l2 dis) (fun a ha => by
            rcases List.mem_append.mp ha with ha | ha
            · exact ⟨(tm a ha).2.2.1, by show (if a ∈ F1 then none else m2.T a) = none; rw [if_pos ha], (tm a ha).2.2.2⟩
            · refine ⟨(f2 a ha).1, ?_, (f2 a ha).2.2⟩
              show (if a ∈ F1 then none else m2.T a) = none
              have z : m2.T a = none := (f2 a ha).2.1
              rw [z]; split <;> rfl) q2
/-- a new thing laid: what is held stays -/
theorem Ho.le {m : Hd} {G' : Hp} (h : Ho b G m) (s : Same G G') : Ho b G' m := h.mono s
def fTupM (fs : List (Ev → RE)) : Ev → RE := fun ρ => runAM fs ρ fun ws ρ1 => if ws.length ≤ sizeLine then .ok (.on (.tup ws)) ρ1 else .stuck
def fLstM (fs : List (Ev → RE)) : Ev → RE := fun ρ => runAM fs ρ fun ws ρ1 => if ws.length ≤ sizeLine then .ok (.on (.lst ws)) ρ1 else .stuck
theorem post_tupM {m : Hd} {vs : List V} {ws : List Ow} {F : List Addr} (r : Rel K (b.wt m) G H σ ρ) (ho : Ho b G m) (l : LinAll K G H vs ws F) (f : Free (b.wt m) σ ρ F) (q : PostEM K b W G σ Q (.ok (.on (.tup ws)) ρ)) {p : Addr} (hp : H p = none) : Q (.ref p) (upd H p (.tup vs)) := by
  have e := Ext.upd r.le hp (.tup vs)
  have ne : ∀ a ∈ F, a ≠ p := fun a ha z => by obtain ⟨_, us, q⟩ := LinAll.own l a ha; rw [z, hp] at q; cases q
  refine q _ _ _ m (r.ext e) (ho.mono e.g) e.g ⟨F, .tup upd_same (LinAll.frame e.g l (fun a ha => upd_ne (ne a ha)) fun a ha => ?_), f⟩
  rw [upd_ne (ne a ha)]; exact (LinAll.own l a ha).1
theorem post_lstM {m : Hd} {vs : List V} {ws : List Ow} {F : List Addr} (r : Rel K (b.wt m) G H σ ρ) (ho : Ho b G m) (l : LinAll K G H vs ws F) (f : Free (b.wt m) σ ρ F) (q : PostEM K b W G σ Q (.ok (.on (.lst ws)) ρ)) {p : Addr} (hp : H p = none) : Q (.ref p) (upd H p (.lst vs)) := by
  have e := Ext.updH r.le hp (.lst vs)
  have ne : ∀ a ∈ F, a ≠ p := fun a ha z => by obtain ⟨_, us, q⟩ := LinAll.own l a ha; rw [z, hp] at q; cases q
  refine q _ _ _ m (r.ext e) ho e.g ⟨p :: F, .lst upd_same (r.g0 hp) (LinAll.frame e.g l (fun a ha => upd_ne (ne a ha)) fun a ha => (LinAll.own l a ha).1) (fun hm => ne p hm rfl), fun a ha => ?_⟩
  rcases List.mem_cons.mp ha with rfl | ha
  · exact ⟨r.h0 hp, r.t0 hp, r.noOwn hp⟩
  · exact f a ha
theorem me_tup {es : List Expr} {fs : List (Ev → RE)} {x1 pos} (h : PA X es (tAM X.K W b fs)) : PE X (.Tuple es x1 pos) (tEM X.K b W (fTupM fs)) := PE.imp (pe_tup h) fun σ H Q ⟨ρ, G, r, q⟩ => by
  refine stepAM fs .refl r q fun vs H1 ρ1 G1 ws m F r1 ho1 s1 l1 f1 q1 => ?_
  obtain ⟨c, q1⟩ := postEM_if q1
  exact ⟨by rw [l1.length]; exact c, fun p hp => post_tupM r1 ho1 l1 f1 q1 hp⟩
theorem me_lst {es : List Expr} {fs : List (Ev → RE)} {pos} (h : PA X es (tAM X.K W b fs)) : PE X (.List es pos) (tEM X.K b W (fLstM fs)) := PE.imp (pe_lst h) fun σ H Q ⟨ρ, G, r, q⟩ => by
  refine stepAM fs .refl r q fun vs H1 ρ1 G1 ws m F r1 ho1 s1 l1 f1 q1 => ?_
  obtain ⟨c, q1⟩ := postEM_if q1
  exact ⟨by rw [l1.length]; exact c, fun p hp => post_lstM r1 ho1 l1 f1 q1 hp⟩
/-- one list behind another, both of one's own -/
def fCatM (f g : Ev → RE) : Ev → RE := fun ρ => runAM [f, g] ρ fun ws ρ1 => match ws with
  | [.lst xs, .lst ys] => if xs.length + ys.length ≤ sizeLine then .ok (.on (.lst (xs ++ ys))) ρ1 else .stuck
  | _ => .stuck
theorem PostEM.impQ {Q' : VK} {r : RE} (h : PostEM K b W G σ Q r) (i : ∀ v H, Q v H → Q' v H) : PostEM K b W G σ Q' r := by
  cases r with
  | ok sv ρ' => exact fun v G' H' m r ho s q => i _ _ (h v G' H' m r ho s q)
  | raise c ρ' => exact h
  | stuck => exact h
theorem tEM.impQ {Q' : VK} {f : Ev → RE} (h : tEM K b W f σ H Q) (i : ∀ v H, Q v H → Q' v H) : tEM K b W f σ H Q' := by
  obtain ⟨ρ, G, r, q⟩ := h
  exact ⟨ρ, G, r, q.impQ i⟩
theorem pe_exT {e : Expr} {t : Hl → TE} (h : ∀ T, PE X e (t T)) : PE X e (fun σ H Q => ∃ T, t T σ H Q) :=
  ⟨fun pins s σ H Q inv ⟨T, q⟩ => (h T).run pins s σ H Q inv q⟩
theorem me_cat {a c : Expr} {pos : Pos} {f g : Ev → RE} (ha : PE X a (tEM X.K b W f)) (hb : ∀ T, PE X c (tEM X.K (b.hd T) W g)) : PE X (.BinOp a .Add c pos) (tEM X.K b W (fCatM f g)) := PE.imp (pe_op op_cat ha (pe_exT hb)) fun σ H Q ⟨ρ, G, r, q⟩ => by
  have z := stepAM [f, g] .refl r q (R := fun vs H2 => ∃ x y, vs = [x, y] ∧ rCat x y H2 Q) fun vs H1 ρ1 G1 ws m F r1 ho1 s1 l1 f1 q1 => by
    split at q1
    · rename_i xs ys
      obtain ⟨c, q1⟩ := postEM_if q1
      cases l1 with
      | cons la lb da =>
        cases lb with
        | cons lc ld dc =>
          cases ld
          cases la with
          | lst a1 a2 ar an =>
            cases lc with
            | lst c1 c2 cr cn =>
              refine ⟨_, _, rfl, _, _, _, _, rfl, rfl, a1, c1, by rw [ar.length, cr.length]; exact c, fun p hp => ?_⟩
              exact post_lstM r1 ho1 (LinAll.append ar cr fun x hx hy => da x (List.mem_cons_of_mem _ hx) (List.mem_append_left _ (List.mem_cons_of_mem _ hy))) (fun x hx => f1 x (by
                rcases List.mem_append.mp hx with hx | hx
                · exact List.mem_append_left _ (List.mem_cons_of_mem _ hx)
                · exact List.mem_append_right _ (List.mem_append_left _ (List.mem_cons_of_mem _ hx)))) q1 hp
    · exact q1.elim
  have z : tEM X.K b W f σ H fun x H1 => ∃ T, tEM X.K (b.hd T) W g σ H1 fun y H2 => ∃ T' : Hl, ∃ x' y', [x, y] = [x', y'] ∧ rCat x' y' H2 Q := z
  exact z.impQ fun x H1 ⟨T, z⟩ => ⟨T, z.impQ fun y H2 ⟨_, x', y', e, z⟩ => by cases e; exact z⟩

/-! ### a name that isn't read again -/
/-- aliases are forgotten -/
def kill1 (P : Nat → List Nat → Bool) : Option Sv → Option Sv
  | some (.al k p) => if P k p = true then none else some (.al k p)
  | s => s
def kill (P : Nat → List Nat → Bool) (ρ : Ev) : Ev := ρ.map (kill1 P)
def Hd.kill (m : Hd) (P : Nat → List Nat → Bool) : Hd := { m with al := fun j => match m.al j with | some (k, p, v) => if P k p = true then none else some (k, p, v) | none => none }
theorem kill_get {P : Nat → List Nat → Bool} {ρ : Ev} {j : Nat} {sv : Sv} (h : (kill P ρ)[j]? = some (some sv)) : ρ[j]? = some (some sv) ∧ ∀ k p, sv = .al k p → P k p = false := by
  unfold kill at h
  rw [List.getElem?_map] at h
  cases e : ρ[j]? with
  | none => rw [e] at h; cases h
  | some s =>
    rw [e] at h
    have h : kill1 P s = some sv := by simpa using h
    cases s with
    | none => cases h
    | some s =>
      cases s with
      | al k p =>
        unfold kill1 at h
        dsimp only at h
        split at h
        · cases h
        · rename_i c
          cases h
          exact ⟨rfl, fun k' p' z => by cases z; simpa using c⟩
      | _ => cases h; exact ⟨rfl, fun k p z => nomatch z⟩
theorem get_kill {P : Nat → List Nat → Bool} {ρ : Ev} {j : Nat} {sv : Sv} (h : ρ[j]? = some (some sv)) (n : ∀ k p, sv ≠ .al k p) : (kill P ρ)[j]? = some (some sv) := by
  unfold kill
  rw [List.getElem?_map, h]
  cases sv with
  | al k p => exact absurd rfl (n k p)
  | _ => rfl
theorem kill_al {m : Hd} {P : Nat → List Nat → Bool} {j i : Nat} {p : List Nat} {v : V} (h : (m.kill P).al j = some (i, p, v)) : m.al j = some (i, p, v) ∧ P i p = false := by
  unfold Hd.kill at h
  dsimp only at h
  cases e : m.al j with
  | none => rw [e] at h; cases h
  | some t =>
    obtain ⟨k, q, u⟩ := t
    rw [e] at h
    dsimp only at h
    split at h
    · cases h
    · rename_i c
      cases h
      exact ⟨rfl, by simpa using c⟩
theorem Owns.kill {P : Nat → List Nat → Bool} {j : Nat} {a : Addr} (h : Owns σ (kill P ρ) j a) : Owns σ ρ j a := by
  obtain ⟨h1, l, h2⟩ := h
  exact ⟨h1, l, h2.imp (fun z => (kill_get z).1) fun z => (kill_get z).1⟩
theorem Rel.kill {m : Hd} (P : Nat → List Nat → Bool) (r : Rel K (b.wt m) G H σ ρ) : Rel K (b.wt (m.kill P)) G H σ (kill P ρ) := by
  refine ⟨r.le, by unfold Dl.kill; rw [List.length_map]; exact r.len, fun i sv q => ?_, fun i j a h1 h2 => r.apart i j a h1.kill h2.kill, r.keep, r.base, r.fresh, fun p hp => ?_, fun a o q => ?_⟩
  · obtain ⟨q1, q2⟩ := kill_get q
    obtain ⟨v, h1, h2⟩ := r.slot i sv q1
    refine ⟨v, h1, ?_⟩
    cases sv with
    | al k p =>
      have c := q2 k p rfl
      have h2 : m.al i = some (k, p, v) := h2
      show (m.kill P).al i = some (k, p, v)
      unfold Hd.kill
      dsimp only
      rw [h2]
      dsimp only
      rw [if_neg (by rw [c]; exact Bool.false_ne_true)]
    | _ => exact h2
  · obtain ⟨l, h1, h2⟩ := r.byr p hp
    exact ⟨l, h1, get_kill h2 fun k p z => nomatch z⟩
  · obtain ⟨h1, h2, h3, h4⟩ := r.tmp a o q
    exact ⟨h1, h2, h3, fun i z => h4 i z.kill⟩
theorem Ho.kill {m : Hd} (P : Nat → List Nat → Bool) (h : Ho b G m) : Ho b G (m.kill P) :=
  ⟨h.held, fun j i p v q => by
    obtain ⟨r, h1, h2⟩ := h.al j i p v (kill_al q).1
    exact ⟨r, h1, Nav.mono (m := m) (m' := m.kill P) (Same.refl _) (fun _ _ h1 h2 => ⟨h1, h2⟩) h2⟩, fun i p v q r hr => Nav.keep (m := m) (m' := m.kill P) (fun _ _ h1 h2 => ⟨h1, h2⟩) (h.pin i p v q r hr)⟩
theorem Rel.dropOwn {m : Hd} {F : List Addr} {i : Nat} (r : Rel K (b.wt m) G H σ ρ) (h : ∀ a ∈ F, m.own a = some i) (n : ∀ w, ρ[i]? ≠ some (some (.on w))) : Rel K (b.wt (m.drop F)) G H σ ρ := by
  refine ⟨r.le, r.len, fun j sv q => ?_, r.apart, r.keep, r.base, r.fresh, r.byr, fun a u q => ?_⟩
  · obtain ⟨v, h1, h2⟩ := r.slot j sv q
    refine ⟨v, h1, ?_⟩
    cases sv with
    | on w =>
      obtain ⟨hr, F', h3, h4⟩ := h2
      have ne : j ≠ i := fun z => n w (by rw [← z]; exact q)
      exact ⟨hr, F', Lin.frame (Same.refl _) h3 (fun c hc => by
        show (if c ∈ F then none else m.T c) = m.T c
        rw [if_neg fun z => by have y : m.own c = some j := h4 c hc; rw [h c z] at y; exact ne (Option.some.inj y).symm]) fun c hc => (Lin.own h3 c hc).1, h4⟩
    | _ => exact h2
  · have q : (if a ∈ F then none else m.T a) = some u := q
    split at q
    · cases q
    · exact r.tmp a u q
/-- slot i holds nothing of its own any more -/
def Hd.unrt (m : Hd) (i : Nat) : Hd := { m with rt := fun j => if j = i then none else m.rt j }
theorem Ho.dropOwn {m : Hd} {F : List Addr} {i : Nat} (h : Ho b G m) (hf : ∀ a ∈ F, m.own a = some i) (n : ∀ j k p v, m.al j = some (k, p, v) → k ≠ i) : Ho b G ((m.drop F).unrt i) := by
  refine ⟨fun a o q => ?_, fun j k p v q => ?_, fun k p v q r hr => ?_⟩
  · obtain ⟨h1, h2⟩ := h.held a o q
    exact ⟨by show (if a ∈ F then none else m.T a) = some o; rw [if_neg fun c => by rw [hf a c] at h2; cases h2]; exact h1, h2⟩
  · obtain ⟨r, h1, h2⟩ := h.al j k p v q
    refine ⟨r, by show (if k = i then none else m.rt k) = some r; rw [if_neg (n j k p v q)]; exact h1, Nav.mono (m := m) (m' := (m.drop F).unrt i) (Same.refl _) (fun a o h3 h4 => ?_) h2⟩
    have c : a ∉ F := fun c => by rw [hf a c] at h4; exact n j k p v q (Option.some.inj h4).symm
    exact ⟨by show (if a ∈ F then none else m.T a) = some o; rw [if_neg c]; exact h3, h4⟩
  · have hr : (if k = i then none else m.rt k) = some r := hr
    split at hr
    · cases hr
    · rename_i ne
      exact Nav.keep (m := m) (m' := (m.drop F).unrt i) (drop_keep fun a ha z => by rw [hf a ha] at z; exact ne (Option.some.inj z).symm) (h.pin k p v q r hr)
theorem Rel.unrt {m : Hd} {i : Nat} (r : Rel K (b.wt m) G H σ ρ) (n : ∀ w, ρ[i]? ≠ some (some (.on w))) : Rel K (b.wt (m.unrt i)) G H σ ρ := by
  refine ⟨r.le, r.len, fun j sv q => ?_, r.apart, r.keep, r.base, r.fresh, r.byr, r.tmp⟩
  obtain ⟨v, h1, h2⟩ := r.slot j sv q
  refine ⟨v, h1, ?_⟩
  cases sv with
  | on w =>
    have ne : j ≠ i := fun z => n w (by rw [← z]; exact q)
    exact ⟨by show (if j = i then none else m.rt j) = some v; rw [if_neg ne]; exact h2.1, h2.2⟩
  | _ => exact h2
/-- aliases into slot i -/
def into (i : Nat) : Nat → List Nat → Bool := fun k _ => k == i
def fMvM (i : Nat) : Ev → RE := fun ρ => match ρ[i]? with
  | some (some (.on w)) => .ok (.on w) (kill (into i) (ρ.set i none))
  | _ => fMove i ρ
theorem Rel.setNone {i : Nat} (r : Rel K b G H σ ρ) (hi : ∀ l, ρ[i]? ≠ some (some (.rf l))) : Rel K b G H σ (ρ.set i none) := r.setSh hi fun sv z => nomatch z
theorem mvm_post {i : Nat} : ∀ σ H Q, tEM X.K b W (fMvM i) σ H Q → tVar i σ H Q := by
  rintro σ H Q ⟨ρ, G, ⟨m, r, ho⟩, q⟩
  unfold fMvM at q
  split at q
  · rename_i w e
    obtain ⟨v, h1, hr, F, h2, h3⟩ := r.slot _ _ e
    refine ⟨v, h1, ?_⟩
    have r1 : Rel X.K (b.wt m) G H σ (ρ.set i none) := r.setNone fun l z => by rw [e] at z; cases z
    have r2 := Rel.kill (into i) r1
    have nn : ∀ w, (kill (into i) (ρ.set i none))[i]? ≠ some (some (.on w)) := fun w z => by
      have y := (kill_get z).1
      rw [List.getElem?_set_self (lt_of_get e)] at y
      cases y
    have r3 := Rel.unrt (i := i) (Rel.dropOwn (F := F) r2 h3 nn) nn
    have ho3 : Ho b G (((m.kill (into i)).drop F).unrt i) := (ho.kill (into i)).dropOwn h3 fun j k p v z y => by
      have c := (kill_al z).2
      unfold into at c
      rw [y] at c
      simp at c
    refine q v G H _ r3 ho3 (Same.refl _) ⟨F, Lin.frame (Same.refl _) h2 (fun a ha => ?_) (fun a ha => (Lin.own h2 a ha).1), fun a ha => ?_⟩
    · obtain ⟨_, us, z⟩ := Lin.own h2 a ha
      rw [z]; exact (r.tmp a _ z).1
    · obtain ⟨_, us, z⟩ := Lin.own h2 a ha
      obtain ⟨y1, y2, y3, y4⟩ := r.tmp a _ z
      refine ⟨y3, by show (if a ∈ F then none else m.T a) = none; rw [if_pos ha], fun j o => y4 j ?_⟩
      obtain ⟨o1, l, o2⟩ := o.kill
      have ji : j ≠ i := fun z => by
        rw [z, List.getElem?_set_self (lt_of_get e)] at o2
        rcases o2 with o2 | o2 <;> cases o2
      rw [List.getElem?_set_ne (Ne.symm ji)] at o2
      exact ⟨o1, l, o2⟩
  · exact move_post σ H Q ⟨ρ, G, r, q.at ho⟩
theorem me_mv (i : Nat) {x : Str} {pos : Pos} (hN : X.N[i]? = some x := by rfl) (hv : Vis X.env.scope x := by first | exact Or.inl rfl | exact Or.inr (Or.inl rfl) | exact Or.inr (Or.inr rfl)) (hd : (x == ("__debug__" : Str)) = false := by decide)
    (hcd : (x == ("__classdict__" : Str)) = false := by decide) : PE X (.Name x pos) (tEM X.K b W (fMvM i)) := PE.imp (pe_var hN hv hd hcd) mvm_post

/-! ### calls -/
theorem stepArgsM : ∀ (as : List Ar) {G H : Hp} {ρ : Ev} {k : List AV → Ev → RE} {m : Hd} (r : Rel K (b.wt m) G H σ ρ) (ho : Ho b G m) (h : PostEM K b W G σ Q (runArgs as ρ k)) {R : List V → Hp → Prop}
    (hR : ∀ vs H1 ρ1 G1 xs, Rel K (b.wt m) G1 H1 σ ρ1 → Same G G1 → VwAs K (b.wt m) G1 σ vs xs → PostEM K b W G1 σ Q (k xs ρ1) → R vs H1), tArgs K (b.wt m) W as σ H R
  | [], G, H, ρ, k, m, r, ho, h, R, hR => hR [] H ρ G [] r (Same.refl _) .nil h
  | .v f :: as, G, H, ρ, k, m, r, ho, h, R, hR => by
    show tE K (b.wt m) W f σ H _
    refine ⟨ρ, G, r, ?_⟩
    cases e : f ρ with
    | stuck => simp only [runArgs, e] at h; exact h
    | raise c ρ1 => simp only [runArgs, e] at h; exact fun G' H' r' s' => h G' H' ⟨m, r', ho.mono s'⟩ s'
    | ok sv ρ1 =>
      intro v G1 H1 r1 s1 d1
      have go : ∀ {av : AV} {G2 : Hp}, Rel K (b.wt m) G2 H1 σ ρ1 → Same G1 G2 → VwA K (b.wt m) G2 σ v av → PostEM K b W G σ Q (runArgs as ρ1 fun xs => k (av :: xs)) → tArgs K (b.wt m) W as σ H1 fun vs H2 => R (v :: vs) H2 := fun {av G2} r2 s2 d2 q => by
        refine stepArgsM as r2 (ho.mono (s1.trans s2)) (PostEM.mono (s1.trans s2) q) fun vs H3 ρ3 G3 xs r3 s3 d3 q3 => ?_
        exact hR (v :: vs) H3 ρ3 G3 (av :: xs) r3 ((s1.trans s2).trans s3) (.cons (d2.mono s3) d3) q3
      cases sv with
      | d x => simp only [runArgs, e] at h; exact go (av := .dat x) r1 (Same.refl _) d1 h
      | ow l =>
        simp only [runArgs, e] at h
        obtain ⟨G2, r2, s2, d2⟩ := r1.pub d1 rfl
        exact go (av := .dat (.list l)) r2 s2 d2 h
      | rf l => exact d1.elim
      | ex c => simp only [runArgs, e] at h; exact go (av := .ex c) r1 (Same.refl _) d1 h
      | px c => simp only [runArgs, e] at h; exact h.elim
      | on w => simp only [runArgs, e] at h; exact h.elim
      | al j p => simp only [runArgs, e] at h; exact h.elim
      | fz l => simp only [runArgs, e] at h; exact go (av := .fz l) r1 (Same.refl _) d1 h
  | .r i :: as, G, H, ρ, k, m, r, ho, h, R, hR => by
    cases e : ownAt ρ i with
    | none => simp only [runArgs, e] at h; exact h.elim
    | some l =>
      simp only [runArgs, e] at h
      obtain ⟨a, xs, hσ, _⟩ := r.owned e
      refine ⟨_, hσ, ?_⟩
      show tArgs K (b.wt m) W as σ H _
      refine stepArgsM as r ho h fun vs H3 ρ3 G3 xs r3 s3 d3 q3 => ?_
      exact hR (.ref a :: vs) H3 ρ3 G3 (.rf i :: xs) r3 s3 (.cons hσ d3) q3
/-- a call whose result is one's own -/
def fCallM (F : Fn) (as : List Ar) : Ev → RE := fun ρ => runArgs as ρ fun xs ρ1 => if xs.length = as.length then match seen ρ1 xs with
  | none => .stuck
  | some svs => if (refs xs).length ≤ 1 then match F svs with
    | .ok sv out => .ok sv (putR ρ1 (refs xs) out)
    | .raise c out => .raise c (putR ρ1 (refs xs) out)
    | .stuck => .stuck
    else .stuck else .stuck
theorem rep_afterM {i : Option (Nat × Addr)} {out : List D} {G' H' : Hp} {v : V} {sv : Sv} (r : Rel K b G H σ ρ) (hi : ∀ p, i = some p → Owns σ ρ p.1 p.2) (h : FExt K G H (i.map (·.2)) out G' H') (d : RepF K b.cl H G' H' v sv) :
    RepM K b G' H' σ (putR ρ (i.toList.map (·.1)) out) v sv := by
  have noOwn : ∀ {a : Addr}, H a = none → ∀ j, ¬ Owns σ (putR ρ (i.toList.map (·.1)) out) j a := fun {a} h3 j z => by
    refine r.noOwn h3 j ?_
    obtain ⟨z1, m, z2⟩ := z
    cases i with
    | none => exact ⟨z1, m, z2⟩
    | some p =>
      obtain ⟨k, c⟩ := p
      have z2 : (putL ρ k out)[j]? = some (some (.ow m)) ∨ (putL ρ k out)[j]? = some (some (.rf m)) := z2
      by_cases e : j = k
      · subst e
        obtain ⟨g1, l0, g2⟩ := hi _ rfl
        exact ⟨z1, l0, g2⟩
      · refine ⟨z1, m, ?_⟩
        unfold putL at z2
        split at z2
        · rw [List.getElem?_set_ne (Ne.symm e)] at z2; exact z2
        · rw [List.getElem?_set_ne (Ne.symm e)] at z2; exact z2
        · exact z2
  cases sv with
  | d x => exact d
  | rf l => exact d
  | ex c => exact d
  | px c => exact d
  | fz l => exact d
  | al j p => exact d
  | on w =>
    obtain ⟨F, h1, h2⟩ := d
    exact ⟨F, h1, fun a ha => ⟨r.h0 (h2 a ha), r.t0 (h2 a ha), noOwn (h2 a ha)⟩⟩
  | ow l =>
    obtain ⟨a, xs, e, h1, h2, h3, h4⟩ := d
    exact ⟨a, xs, e, h1, h2, r.h0 h3, r.t0 h3, noOwn h3, h4⟩
theorem callM_post {F : Fn} {as : List Ar} {n : Nat} (hn : as.length = n) : ∀ σ H Q, tEM K b W (fCallM F as) σ H Q → tCallS (spF K b.cl F n) (WE W) (fun σ H R => ∃ m, tArgs K (b.wt m) W as σ H R) σ H Q := by
  rintro σ H Q ⟨ρ, G, ⟨m, r, ho⟩, q⟩
  refine ⟨m, stepArgsM as r ho q fun vs H1 ρ1 G1 xs r1 s1 d1 q1 => ?_⟩
  obtain ⟨hx, q1⟩ := postEM_if q1
  have ho1 := ho.mono s1
  cases e : seen ρ1 xs with
  | none => simp only [e] at q1; exact q1.elim
  | some svs =>
    simp only [e] at q1
    obtain ⟨hc, q1⟩ := postEM_if q1
    obtain ⟨p, ao, hp⟩ := args_ok r1 d1 e hc
    refine ⟨by rw [vwas_len d1, hx]; exact hn, G1, svs, p, r1.le, ao, ?_⟩
    have key : ∃ i : Option (Nat × Addr), p.map (·.2) = i.map (·.2) ∧ refs xs = i.toList.map (·.1) ∧ ∀ q, i = some q → Owns σ ρ1 q.1 q.2 := by
      rcases hp with ⟨rfl, h3⟩ | ⟨i, k, a, rfl, h3, h4⟩
      · exact ⟨none, rfl, h3, fun q z => nomatch z⟩
      · exact ⟨some (i, a), rfl, h3, fun q z => by cases z; exact h4⟩
    obtain ⟨i, ei, er, hi⟩ := key
    rw [ei]
    cases ef : F svs with
    | stuck => rw [ef] at q1; exact q1
    | raise c out =>
      rw [ef] at q1
      intro G2 H2 x2
      have r3 := rel_after r1 hi x2
      rw [← er] at r3
      exact q1 G2 H2 ⟨m, r3, ho1.mono x2.g⟩ x2.g
    | ok sv out =>
      rw [ef] at q1
      intro v G2 H2 x2 d2
      have r3 := rel_after r1 hi x2
      have d3 := rep_afterM r1 hi x2 d2
      rw [← er] at r3 d3
      exact q1 v G2 H2 m r3 (ho1.mono x2.g) x2.g d3
theorem pa_exm {es : List Expr} {t : Hd → TA} (h : ∀ m, PA X es (t m)) : PA X es (fun σ H Q => ∃ m, t m σ H Q) :=
  ⟨fun pos pins s σ H Q inv ⟨m, q⟩ => (h m).run pos pins s σ H Q inv q⟩
theorem me_call {x : Str} {p pos : Pos} {e : Expr} {es : List Expr} {F : Fn} {as : List Ar} {k n : Nat} {f : Addr} {fd : FuncData} {ps : List Str} {cl : Nat → Addr} (hcl : b.cl = cl) (hF : FnG X.prog X.w X.K X.mg X.base k f fd ps (spF X.K cl F n)) (gd : X.A.guards = some []) (hr : Room k X.A) (hg : Gl X x) (hm : X.mg x = some (.ref f)) (hk : PySem.W.keepIn X.K (.ref f) = true) (hb : Binds X.K fd ps []) (hx : Lets X W)
    (ha : ∀ m, PA X (e :: es) (tArgs X.K (b.wt m) W as)) (hn : as.length = n := by rfl) (hdb : (x == ("__debug__" : Str)) = false := by decide) (he : starEach (e :: es) X.env = (false, eval e X.env) :: starEach es X.env := by rfl) (hpl : (backTo pos (starEach es X.env)).any (·.1) = false := by rfl) :
    PE X (.Call (.Name x p) (e :: es) [] pos) (tEM X.K b W (fCallM F as)) := by
  subst hcl
  exact PE.imp (pe_callG hF gd hr hg hm hk hb hx (pa_exm ha) hdb he hpl) (callM_post hn)
end
end Dl
set_option maxHeartbeats 4000000
/-! DlU: statements that store and change structures of one's own. -/
namespace Dl
open PySem PySem.Spec L2
open PyProof.Rows (envOfC)
section
variable {K : PySem.W.Frag} {b : Bx} {W : WX} {G G1 H : Hp} {σ : St} {ρ : Ev} {Q : VK} {X : Cx} {D : Ends}
theorem stepSM {f : Ev → RE} {k : Sv → Ev → RS} (r : RelT K b G H σ ρ) (h : PostM K b W G D ((f ρ).toS k)) {R : V → Hp → Prop}
    (hR : ∀ v H1 ρ1 G1 sv m, Rel K (b.wt m) G1 H1 σ ρ1 → Ho b G1 m → Same G G1 → RepM K (b.wt m) G1 H1 σ ρ1 v sv → PostM K b W G1 D (k sv ρ1) → R v H1) : tEM K b W f σ H R := by
  refine ⟨ρ, G, r, ?_⟩
  cases e : f ρ with
  | ok sv ρ1 =>
    rw [e] at h
    exact fun v G' H' m r' ho' s' q' => hR v H' ρ1 G' sv m r' ho' s' q' (PostM.mono s' h)
  | raise c ρ1 =>
    rw [e] at h
    exact fun G' H' r' s' => h σ G' H' r' s'
  | stuck => rw [e] at h; exact h
theorem m_ret {e : Expr} {pos : Pos} {f : Ev → RE} (h : PE X e (tEM X.K b W f)) : PS X (.Return (some e) pos) (tM X.K b W (fRet f)) := PS.imp (ps_ret h) fun D σ H ⟨ρ, G, r, q⟩ =>
  stepSM r q fun v H1 ρ1 G1 sv m r1 ho1 s1 d1 q1 => q1 v σ G1 H1 m r1 (Same.refl _) d1
theorem m_expr {e : Expr} {pos : Pos} {f : Ev → RE} (h : PE X e (tEM X.K b W f)) (hs : swapsWith e none pos.line X.env = pure false := by rfl) : PS X (.Expr e pos) (tM X.K b W (fDrop f)) := PS.imp (ps_expr h hs) fun D σ H ⟨ρ, G, r, q⟩ =>
  stepSM r q fun v H1 ρ1 G1 sv m r1 ho1 s1 d1 q1 => q1 σ G1 H1 ⟨m, r1, ho1⟩ (Same.refl _)

/-! ### x = e -/
theorem Rel.assignM {m : Hd} {i : Nat} {v : V} {w : Ow} {F : List Addr} (r : Rel K (b.wt m) G H σ ρ) (ho : Ho b G m) (hp : ∀ x ∈ b.pin, x.1 ≠ i) (l : Lin K G H v w F) (f : Free (b.wt m) σ ρ F) (hi : rfAt ρ i = false) :
    RelT K b G H (σ.set i (some v)) ((Dl.kill (into i) ρ).set i (some (.on w))) := by
  have hg : ∀ a ∈ F, G a = none := fun a ha => (Lin.own l a ha).1
  have r2 := Rel.kill (into i) (r.grab (o := some i) f hg)
  have ht : ∀ a ∈ F, m.T a = none := fun a ha => (f a ha).2.1
  have ho2 : Ho b G ((m.grab H F (some i)).kill (into i)) := (ho.grabOwn ht).kill (into i)
  generalize hm : (m.grab H F (some i)).kill (into i) = m2 at r2 ho2
  have mT : ∀ a ∈ F, m2.T a = H a := fun a ha => by subst hm; show takeIn m.T H F a = H a; unfold takeIn; rw [if_pos ha]
  have mo : ∀ a ∈ F, m2.own a = some i := fun a ha => by subst hm; show (if a ∈ F then some i else m.own a) = some i; rw [if_pos ha]
  have nal : ∀ j p u, m2.al j ≠ some (i, p, u) := fun j p u z => by
    subst hm
    have c := (kill_al z).2
    unfold into at c
    simp at c
  have nsl : ∀ j p, (Dl.kill (into i) ρ)[j]? ≠ some (some (Sv.al i p)) := fun j p z => by
    have c := (kill_get z).2 i p rfl
    unfold into at c
    simp at c
  have nrf : ∀ l, (Dl.kill (into i) ρ)[i]? ≠ some (some (.rf l)) := fun l z => no_rf hi l (kill_get z).1
  generalize Dl.kill (into i) ρ = ρ2 at r2 nsl nrf
  let m3 : Hd := { m2 with rt := fun j => if j = i then some v else m2.rt j }
  have cases2 : ∀ {j : Nat} {s' : Sv}, (ρ2.set i (some (.on w)))[j]? = some (some s') → (j = i ∧ .on w = s' ∧ i < ρ2.length) ∨ (j ≠ i ∧ ρ2[j]? = some (some s')) := fun {j s'} q => by
    by_cases e : j = i
    · subst e
      by_cases hl : j < ρ2.length
      · rw [List.getElem?_set_self hl] at q
        exact .inl ⟨rfl, Option.some.inj (Option.some.inj q), hl⟩
      · rw [List.getElem?_eq_none (by simpa using hl)] at q; cases q
    · rw [List.getElem?_set_ne (Ne.symm e)] at q
      exact .inr ⟨e, q⟩
  have own : ∀ {j : Nat} {a : Addr}, Owns (σ.set i (some v)) (ρ2.set i (some (.on w))) j a → Owns σ ρ2 j a := fun {j a} ⟨h1, l, h2⟩ => by
    have ne : j ≠ i ∧ (ρ2[j]? = some (some (.ow l)) ∨ ρ2[j]? = some (some (.rf l))) := by
      rcases h2 with h2 | h2
      · rcases cases2 h2 with ⟨_, z, _⟩ | ⟨z, y⟩
        · cases z
        · exact ⟨z, .inl y⟩
      · rcases cases2 h2 with ⟨_, z, _⟩ | ⟨z, y⟩
        · cases z
        · exact ⟨z, .inr y⟩
    rw [List.getElem?_set_ne (Ne.symm ne.1)] at h1
    exact ⟨h1, l, ne.2⟩
  refine ⟨m3, ⟨r2.le, by rw [List.length_set, List.length_set]; exact r2.len, fun j sv q => ?_, fun j k a h1 h2 => r2.apart j k a (own h1) (own h2), r2.keep, r2.base, r2.fresh, fun p hpp => ?_, fun a o q => ?_⟩, ⟨ho2.held, fun j k p u q => ?_, fun k p u q r0 hr0 => ?_⟩⟩
  · rcases cases2 q with ⟨e, z, hl⟩ | ⟨ne, z⟩
    · subst e
      cases z
      refine ⟨v, by rw [List.getElem?_set_self (by rw [← r2.len]; exact hl)], if_pos rfl, F, Lin.frame (Same.refl _) l (fun a ha => mT a ha) hg, mo⟩
    · obtain ⟨u, h1, h2⟩ := r2.slot j sv z
      refine ⟨u, by rw [List.getElem?_set_ne (Ne.symm ne)]; exact h1, ?_⟩
      cases sv with
      | on w' => exact ⟨(if_neg ne).trans h2.1, h2.2⟩
      | _ => exact h2
  · obtain ⟨l, h1, h2⟩ := r2.byr p hpp
    have ne : p.1 ≠ i := fun z => nrf l (by rw [← z]; exact h2)
    exact ⟨l, by rw [List.getElem?_set_ne (Ne.symm ne)]; exact h1, by rw [List.getElem?_set_ne (Ne.symm ne)]; exact h2⟩
  · obtain ⟨h1, h2, h3, h4⟩ := r2.tmp a o q
    exact ⟨h1, h2, h3, fun j z => h4 j (own z)⟩
  · obtain ⟨rr, h1, h2⟩ := ho2.al j k p u q
    have ne : k ≠ i := fun z => nal j p u (by rw [← z]; exact q)
    exact ⟨rr, (if_neg ne).trans h1, Nav.keep (m := m2) (m' := m3) (fun _ _ y z => ⟨y, z⟩) h2⟩
  · have ne := hp _ q
    have hr0 : (if k = i then some v else m2.rt k) = some r0 := hr0
    rw [if_neg ne] at hr0
    exact Nav.keep (m := m2) (m' := m3) (fun _ _ y z => ⟨y, z⟩) (ho2.pin k p u q r0 hr0)
/-- the paths that must stay -/
abbrev Pins := List (Nat × List Nat)
def Bx.pins (b : Bx) : Pins := b.pin.map fun x => (x.1, x.2.1)
def pinS (ps : Pins) (i : Nat) : Bool := ps.all fun x => x.1 != i
def pinP (ps : Pins) (i : Nat) (p : List Nat) : Bool := ps.all fun x => x.1 != i || x.2.isPrefixOf p
theorem pinS_of {b : Bx} {ps : Pins} (h : b.pins = ps) {i : Nat} (c : pinS ps i = true) : ∀ x ∈ b.pin, x.1 ≠ i := fun x hx => by
  subst h
  have z := List.all_eq_true.mp c _ (List.mem_map.mpr ⟨x, hx, rfl⟩)
  simpa using z
theorem pinP_of {b : Bx} {ps : Pins} (h : b.pins = ps) {i : Nat} {p : List Nat} (c : pinP ps i p = true) : ∀ k q v, (k, q, v) ∈ b.pin → k ≠ i ∨ ∃ s, p = q ++ s := fun k q v hx => by
  subst h
  have z := List.all_eq_true.mp c _ (List.mem_map.mpr ⟨(k, q, v), hx, rfl⟩)
  rcases Bool.or_eq_true .. ▸ z with z | z
  · exact .inl (by simpa using z)
  · obtain ⟨s, e⟩ := List.isPrefixOf_iff_prefix.mp z
    exact .inr ⟨s, e.symm⟩
def setM (ρ : Ev) (i : Nat) : Sv → Ev
  | .on w => (kill (into i) ρ).set i (some (.on w))
  | .ow l => (kill (into i) ρ).set i (some (.on (.lst (l.map .dat))))
  | sv => ρ.set i (some sv)
def fSetM (ps : Pins) (i : Nat) (f : Ev → RE) : Ev → RS := fun ρ => (f ρ).toS fun sv ρ1 => if rfAt ρ1 i = false ∧ pinS ps i = true then .next (setM ρ1 i sv) else .stuck
theorem postM_if {c : Prop} [Decidable c] {x : RS} (h : PostM K b W G D (if c then x else .stuck)) : c ∧ PostM K b W G D x := by
  by_cases e : c
  · rw [if_pos e] at h; exact ⟨e, h⟩
  · rw [if_neg e] at h; exact h.elim
theorem m_set {i : Nat} {x : Str} {e : Expr} {f : Ev → RE} {pos pos' : Pos} {ps : Pins} (hpin : b.pins = ps) (hN : X.N.Nodup) (hi : X.N[i]? = some x) (hx : Loc X.env.scope x) (he : PE X e (tEM X.K b W f)) (hs : swapsWith e (some (.Name x pos')) pos.line X.env = pure false := by rfl)
    (hf : X.fn x = true ∨ X.env.scope.names.lookup x = some .local := by first | exact .inl rfl | exact .inr rfl) : PS X (.Assign [.Name x pos'] e pos) (tM X.K b W (fSetM ps i f)) := PS.imp (ps_set hN hi hx he hs hf) fun D σ H ⟨ρ, G, r, q⟩ => by
  refine stepSM r q fun v H1 ρ1 G1 sv m r1 ho1 s1 d1 q1 => ?_
  obtain ⟨c, q1⟩ := postM_if q1
  cases sv with
  | on w =>
    obtain ⟨F, l, f⟩ := d1
    exact q1 _ _ _ (Rel.assignM r1 ho1 (pinS_of hpin c.2) l f c.1) (Same.refl _)
  | ow l =>
    obtain ⟨F, l, f⟩ := d1.lin rfl
    exact q1 _ _ _ (Rel.assignM r1 ho1 (pinS_of hpin c.2) l f c.1) (Same.refl _)
  | _ => exact q1 _ _ _ ⟨m, r1.assign d1 c.1, ho1⟩ (Same.refl _)

/-! ### paths -/
inductive RP where
  | ok (i : Nat) (p : List Nat) (ρ : Ev)
  | raise (c : Nat) (ρ : Ev)
  | stuck
def PostP (K : PySem.W.Frag) (b : Bx) (W : WX) (G : Hp) (σ : St) (Q : VK) : RP → Prop
  | .ok i p ρ' => ∀ v G' H' m r, Rel K (b.wt m) G' H' σ ρ' → Ho b G' m → Same G G' → m.rt i = some r → Nav G' m i r p v → Q v H'
  | .raise c ρ' => ∀ G' H', RelT K b G' H' σ ρ' → Same G G' → W (.ref (b.cl c)) none σ H'
  | .stuck => False
def tPa (K : PySem.W.Frag) (b : Bx) (W : WX) (f : Ev → RP) : TE := fun σ H Q => ∃ ρ G, RelT K b G H σ ρ ∧ PostP K b W G σ Q (f ρ)
theorem PostP.mono {r : RP} (e : Same G G1) (h : PostP K b W G σ Q r) : PostP K b W G1 σ Q r := by
  cases r with
  | ok i p ρ' => exact fun v G' H' m r q ho s => h v G' H' m r q ho (e.trans s)
  | raise c ρ' => exact fun G' H' r s => h G' H' r (e.trans s)
  | stuck => exact h
def fPn (j : Nat) : Ev → RP := fun ρ => match ρ[j]? with
  | some (some (.on _)) => .ok j [] ρ
  | some (some (.al i p)) => .ok i p ρ
  | _ => .stuck
theorem p_nm (j : Nat) {x : Str} {pos : Pos} (hN : X.N[j]? = some x := by rfl) (hv : Vis X.env.scope x := by first | exact Or.inl rfl | exact Or.inr (Or.inl rfl) | exact Or.inr (Or.inr rfl)) (hd : (x == ("__debug__" : Str)) = false := by decide)
    (hcd : (x == ("__classdict__" : Str)) = false := by decide) : PE X (.Name x pos) (tPa X.K b W (fPn j)) := PE.imp (pe_var hN hv hd hcd) fun σ H Q ⟨ρ, G, ⟨m, r, ho⟩, q⟩ => by
  unfold fPn at q
  split at q
  · rename_i w e
    obtain ⟨v, h1, hr, _⟩ := r.slot _ _ e
    exact ⟨v, h1, q v G H m v r ho (Same.refl _) hr .nil⟩
  · rename_i i p e
    obtain ⟨v, h1, h2⟩ := r.slot _ _ e
    obtain ⟨rr, h3, h4⟩ := ho.al j i p v h2
    exact ⟨v, h1, q v G H m rr r ho (Same.refl _) h3 h4⟩
  · exact q.elim
def lenP (ρ : Ev) (i : Nat) (p : List Nat) : Option Nat := match ρ[i]? with
  | some (some (.on w)) => match w.at p with
    | some (.lst zs) => some zs.length
    | some (.tup zs) => some zs.length
    | _ => none
  | _ => none
def fPx (fp : Ev → RP) (fk : Ev → RE) : Ev → RP := fun ρ => match fp ρ with
  | .ok i p ρ1 => match fk ρ1 with
    | .ok (.d (.int n)) ρ2 => match lenP ρ2 i p with
      | some l => match ixN l n with
        | some k => .ok i (p ++ [k]) ρ2
        | none => .stuck
      | none => .stuck
    | .raise c ρ2 => .raise c ρ2
    | _ => .stuck
  | r => r
theorem Nav.snocL {m : Hd} {i : Nat} {a : Addr} {us : List V} {k : Nat} {u : V} (h1 : m.T a = some (.lst us)) (h2 : m.own a = some i) (h3 : us[k]? = some u) : ∀ {v : V} {p : List Nat}, Nav G m i v p (.ref a) → Nav G m i v (p ++ [k]) u
  | _, _, .nil => .lst h1 h2 h3 .nil
  | _, _, .lst g1 g2 g3 r => .lst g1 g2 g3 (Nav.snocL h1 h2 h3 r)
  | _, _, .tup g1 g3 r => .tup g1 g3 (Nav.snocL h1 h2 h3 r)
theorem Nav.snocT {m : Hd} {i : Nat} {a : Addr} {us : List V} {k : Nat} {u : V} (h1 : G a = some (.tup us)) (h3 : us[k]? = some u) : ∀ {v : V} {p : List Nat}, Nav G m i v p (.ref a) → Nav G m i v (p ++ [k]) u
  | _, _, .nil => .tup h1 h3 .nil
  | _, _, .lst g1 g2 g3 r => .lst g1 g2 g3 (Nav.snocT h1 h3 r)
  | _, _, .tup g1 g3 r => .tup g1 g3 (Nav.snocT h1 h3 r)
theorem Rel.hT {m : Hd} (r : Rel K (b.wt m) G H σ ρ) : ∀ a o, m.T a = some o → G a = none := fun a o q => (r.tmp a o q).2.1
/-- what stands at a path -/
theorem Rel.nav {m : Hd} {i : Nat} {w w' : Ow} {p : List Nat} {rr u : V} (r : Rel K (b.wt m) G H σ ρ) (hw : ρ[i]? = some (some (.on w))) (hr : m.rt i = some rr) (nv : Nav G m i rr p u) (ha : w.at p = some w') :
    ∃ F, Lin K G m.T u w' F ∧ ∀ a ∈ F, m.own a = some i := by
  obtain ⟨v, h1, h2, F, h3, h4⟩ := r.slot _ _ hw
  have h2 : m.rt i = some v := h2
  rw [hr] at h2
  cases h2
  obtain ⟨F', l, s⟩ := Lin.nav r.hT nv h3 ha
  exact ⟨F', l, fun a ha => h4 a (s a ha)⟩
theorem atI_of {α : Type} {xs : List α} {n : Int} {k : Nat} {x : α} (h1 : ixN xs.length n = some k) (h2 : xs[k]? = some x) : atI xs n = some x := by
  unfold atI; rw [h1]; exact h2
theorem ixN_lt {l : Nat} {n : Int} {k : Nat} (h : ixN l n = some k) : k < l := by
  unfold ixN at h
  split at h
  · split at h
    · cases h; omega
    · cases h
  · split at h
    · cases h; omega
    · cases h
theorem p_ix {e k : Expr} {pos : Pos} {fp : Ev → RP} {fk : Ev → RE} (h1 : PE X e (tPa X.K b W fp)) (h2 : ∀ m, PE X k (tE X.K (b.wt m) W fk)) (hs : PlainIx k := by exact fun _ _ => rfl) : PE X (.Subscript e k pos) (tPa X.K b W (fPx fp fk)) :=
  PE.imp (pe_ix ix_seq h1 (⟨fun pins s σ H Q inv ⟨m, q⟩ => (h2 m).run pins s σ H Q inv q⟩ : PE X k (fun σ H Q => ∃ m, tE X.K (b.wt m) W fk σ H Q)) hs) fun σ H Q ⟨ρ, G, r, q⟩ => by
    refine ⟨ρ, G, r, ?_⟩
    cases e1 : fp ρ with
    | stuck => simp only [fPx, e1] at q; exact q
    | raise c ρ1 => simp only [fPx, e1] at q; exact q
    | ok i p ρ1 =>
      simp only [fPx, e1] at q
      intro v G1 H1 m rr r1 ho1 s1 hr nv
      refine ⟨m, ρ1, G1, r1, ?_⟩
      cases e2 : fk ρ1 with
      | stuck => simp only [e2] at q; exact q
      | raise c ρ2 => simp only [e2] at q; exact fun G' H' r' s' => q G' H' ⟨m, r', ho1.mono s'⟩ (s1.trans s')
      | ok sv ρ2 =>
        intro y G2 H2 r2 s2 d2
        cases sv with
        | d x =>
          cases x with
          | int n =>
            simp only [e2] at q
            cases d2
            cases e3 : lenP ρ2 i p with
            | none => simp only [e3] at q; exact q.elim
            | some l =>
              simp only [e3] at q
              cases e4 : ixN l n with
              | none => simp only [e4] at q; exact q.elim
              | some k =>
                simp only [e4] at q
                have nv2 : Nav G2 m i rr p v := Nav.mono (m := m) (m' := m) s2 (fun _ _ h1 h2 => ⟨h1, h2⟩) nv
                unfold lenP at e3
                split at e3
                · rename_i w ew
                  split at e3
                  · rename_i zs ez
                    cases e3
                    obtain ⟨F, l, ow⟩ := r2.nav ew hr nv2 ez
                    cases l with
                    | lst g1 g2 gr gn =>
                      obtain ⟨t1, _⟩ := r2.tmp _ _ g1
                      have lt := ixN_lt e4
                      have lu := lt
                      rw [← gr.length] at lu
                      refine .inl ⟨_, _, n, _, rfl, rfl, SqL.of t1, atI_of (by rw [gr.length]; exact e4) (List.getElem?_eq_getElem lu), ?_⟩
                      exact q _ G2 H2 m rr r2 (ho1.mono s2) (s1.trans s2) hr (Nav.snocL g1 (ow _ (List.mem_cons_self ..)) (List.getElem?_eq_getElem lu) nv2)
                  · rename_i zs ez
                    cases e3
                    obtain ⟨F, l, ow⟩ := r2.nav ew hr nv2 ez
                    cases l with
                    | tup g1 gr =>
                      have lt := ixN_lt e4
                      have lu := lt
                      rw [← gr.length] at lu
                      refine .inr (.inl ⟨_, _, n, _, rfl, rfl, SqT.of (r2.le _ _ g1), atI_of (by rw [gr.length]; exact e4) (List.getElem?_eq_getElem lu), ?_⟩)
                      exact q _ G2 H2 m rr r2 (ho1.mono s2) (s1.trans s2) hr (Nav.snocT g1 (List.getElem?_eq_getElem lu) nv2)
                  · cases e3
                · cases e3
          | _ => simp only [e2] at q; exact q.elim
        | _ => simp only [e2] at q; exact q.elim

mutual
theorem Lin.cells {K : PySem.W.Frag} {G H H' : Hp} : ∀ {v : V} {w : Ow} {F F' : List Addr}, Lin K G H v w F → (∀ c ∈ F, H' c = H c) → Lin K G H' v w F' → F' = F
  | _, _, _, _, .dat _, _, .dat _ => rfl
  | _, _, _, _, .lst (a := a) h1 _ r _, k, .lst g1 _ r' _ => by
    rw [k a (List.mem_cons_self ..), h1] at g1
    cases g1
    rw [LinAll.cells r (fun c hc => k c (List.mem_cons_of_mem _ hc)) r']
  | _, _, _, _, .tup h1 r, k, .tup g1 r' => by
    rw [h1] at g1
    cases g1
    exact LinAll.cells r k r'
theorem LinAll.cells {K : PySem.W.Frag} {G H H' : Hp} : ∀ {vs : List V} {ws : List Ow} {F F' : List Addr}, LinAll K G H vs ws F → (∀ c ∈ F, H' c = H c) → LinAll K G H' vs ws F' → F' = F
  | _, _, _, _, .nil, _, .nil => rfl
  | _, _, _, _, .cons h r _, k, .cons h' r' _ => by
    rw [Lin.cells h (fun c hc => k c (List.mem_append_left _ hc)) h', LinAll.cells r (fun c hc => k c (List.mem_append_right _ hc)) r']
end
/-! ### a list at a path is changed -/
/-- aliases that lead elsewhere into slot i, or beyond p -/
def thru (i : Nat) (p : List Nat) : Nat → List Nat → Bool := fun k q => k == i && !(q.isPrefixOf p)
theorem Rel.mut {m : Hd} {i : Nat} {p : List Nat} {w : Ow} {zs : List Ow} {rr u : V} (r : Rel K (b.wt m) G H σ ρ) (ho : Ho b G m) (hw : ρ[i]? = some (some (.on w))) (ha : w.at p = some (.lst zs)) (hr : m.rt i = some rr) (nv : Nav G m i rr p u) (hpin : ∀ k q v, (k, q, v) ∈ b.pin → k ≠ i ∨ ∃ s, p = q ++ s) :
    ∃ a us F1, u = .ref a ∧ H a = some (.lst us) ∧ G a = none ∧ LinAll K G H us zs F1 ∧ (∀ c ∈ F1, G c = none ∧ ∃ o, m.T c = some o) ∧ ∀ (us' : List V) (zs' : List Ow) (FN F1' : List Addr), Free (b.wt m) σ ρ FN → (∀ c ∈ FN, G c = none ∧ ∃ o, H c = some o) → LinAll K G H us' zs' F1' → (∀ c ∈ F1', c ∈ F1 ∨ c ∈ FN) →
      RelT K b G (upd H a (.lst us')) σ ((Dl.kill (thru i p) ρ).set i (some (.on (w.put p (.lst zs'))))) := by
  obtain ⟨v, h1, h2, F, h3, h4⟩ := r.slot _ _ hw
  have h2 : m.rt i = some v := h2
  rw [hr] at h2
  cases h2
  have hT := r.hT
  have h3 : Lin K G m.T rr w F := h3
  have h4 : ∀ a ∈ F, m.own a = some i := h4
  obtain ⟨a, us, F1, e0, c1, c2, c3, c4, c5, c6, ch⟩ := Lin.change hT h3 h4 ha nv
  have tm : ∀ c o, m.T c = some o → H c = some o := fun c o q => (r.tmp c o q).1
  refine ⟨a, us, F1, e0, tm _ _ c1, c2, LinAll.frame (Same.refl _) c4 (fun c hc => by
    obtain ⟨_, ws, q⟩ := LinAll.own c4 c hc
    rw [q]; exact tm _ _ q) (fun c hc => (LinAll.own c4 c hc).1), fun c hc => ⟨(LinAll.own c4 c hc).1, by obtain ⟨_, ws, q⟩ := LinAll.own c4 c hc; exact ⟨_, q⟩⟩, fun us' zs' FN F1' ff fg l' sub => ?_⟩
  have fT : ∀ c ∈ FN, m.T c = none := fun c hc => (ff c hc).2.1
  have disF : ∀ c ∈ FN, c ∉ F := fun c hc hm => by
    obtain ⟨_, ws, q⟩ := Lin.own h3 c hm
    rw [fT c hc] at q; cases q
  -- the fresh cells are slot i's
  have r1 := r.grab (o := some i) ff fun c hc => (fg c hc).1
  have ho1 : Ho b G (m.grab H FN (some i)) := ho.grabOwn fT
  have k1 := grab_keep (m := m) (H := H) (o := some i) (i := i) fT
  have T1 : ∀ c o, m.T c = some o → (m.grab H FN (some i)).T c = some o := fun c o q => by
    show takeIn m.T H FN c = some o
    unfold takeIn
    rw [if_neg (fun hm => by rw [fT c hm] at q; cases q)]
    exact q
  have T2 : ∀ c ∈ FN, (m.grab H FN (some i)).T c = H c ∧ (m.grab H FN (some i)).own c = some i := fun c hc => by
    refine ⟨?_, ?_⟩
    · show takeIn m.T H FN c = H c
      unfold takeIn; rw [if_pos hc]
    · show (if c ∈ FN then some i else m.own c) = some i
      rw [if_pos hc]
  have rt1 : (m.grab H FN (some i)).rt i = some rr := hr
  generalize m.grab H FN (some i) = m1 at r1 ho1 k1 T1 T2 rt1
  have l1 : Lin K G m1.T rr w F := Lin.frame (Same.refl _) h3 (fun c hc => by
    obtain ⟨_, ws, q⟩ := Lin.own h3 c hc
    rw [q]; exact T1 _ _ q) fun c hc => (Lin.own h3 c hc).1
  have o1 : ∀ c ∈ F, m1.own c = some i := fun c hc => by
    obtain ⟨_, ws, q⟩ := Lin.own h3 c hc
    exact (k1 _ _ q (h4 c hc)).2
  have n1 : Nav G m1 i rr p u := Nav.keep (m := m) (m' := m1) k1 nv
  obtain ⟨a', us1, F2, e0', c1', c2', c3', c4', c5', c6', ch'⟩ := Lin.change r1.hT l1 o1 ha n1
  rw [e0] at e0'
  cases e0'
  have e1 : us1 = us := by have z := T1 _ _ c1; rw [c1'] at z; cases z; rfl
  subst e1
  -- the same cells below
  have F1F : ∀ c ∈ F1, m1.T c = H c := fun c hc => by
    obtain ⟨_, ws, q⟩ := LinAll.own c4 c hc
    rw [T1 _ _ q, tm _ _ q]
  have l1' : LinAll K G m1.T us' zs' F1' := LinAll.frame (Same.refl _) l' (fun c hc => by
    rcases sub c hc with z | z
    · exact F1F c z
    · exact (T2 c z).1) fun c hc => (LinAll.own l' c hc).1
  have aN : a ∉ FN := fun hm => by rw [fT a hm] at c1; cases c1
  have aF1 : a ∉ F1' := fun hm => by
    rcases sub a hm with z | z
    · exact c6 z
    · exact aN z
  have subF : ∀ c ∈ F1', c ∈ F2 ∨ c ∉ F := fun c hc => by
    rcases sub c hc with z | z
    · -- F1 and F2 are the cells of the same parts
      by_cases y : c ∈ F2
      · exact .inl y
      · exact .inr fun hF => by
          have : c ∈ F2 := by
            have q := LinAll.cells (H := m.T) (H' := m1.T) c4 (fun x hx => by
              obtain ⟨_, ws, q⟩ := LinAll.own c4 x hx
              rw [q]; exact T1 _ _ q) c4'
            rw [q]; exact z
          exact y this
    · exact .inr (disF c z)
  obtain ⟨⟨F', g1, g2⟩, g3⟩ := ch' us' zs' F1' l1' aF1 subF
  have r2 := Rel.kill (thru i p) r1
  have ho2 : Ho b G (m1.kill (thru i p)) := ho1.kill (thru i p)
  have hw2 : (Dl.kill (thru i p) ρ)[i]? = some (some (.on w)) := get_kill hw fun k p z => nomatch z
  generalize hρ : Dl.kill (thru i p) ρ = ρ2 at r2 hw2
  have hl : i < ρ2.length := lt_of_get hw2
  let m3 : Hd := { m1.kill (thru i p) with T := upd m1.T a (.lst us') }
  have aoT : m1.T a = some (.lst us1) := c1'
  have tma := r1.tmp a _ aoT
  have cases2 : ∀ {j : Nat} {s' : Sv}, (ρ2.set i (some (.on (w.put p (.lst zs')))))[j]? = some (some s') → (j = i ∧ .on (w.put p (.lst zs')) = s') ∨ (j ≠ i ∧ ρ2[j]? = some (some s')) := fun {j s'} q => by
    by_cases e : j = i
    · subst e
      rw [List.getElem?_set_self hl] at q
      exact .inl ⟨rfl, Option.some.inj (Option.some.inj q)⟩
    · rw [List.getElem?_set_ne (Ne.symm e)] at q
      exact .inr ⟨e, q⟩
  have own : ∀ {j : Nat} {c : Addr}, Owns σ (ρ2.set i (some (.on (w.put p (.lst zs'))))) j c → Owns σ ρ2 j c := fun {j c} ⟨h1, l, h2⟩ => by
    refine ⟨h1, l, ?_⟩
    rcases h2 with h2 | h2
    · rcases cases2 h2 with ⟨_, z⟩ | ⟨z, y⟩
      · cases z
      · exact .inl y
    · rcases cases2 h2 with ⟨_, z⟩ | ⟨z, y⟩
      · cases z
      · exact .inr y
  have ownA : ∀ j, ¬ Owns σ ρ2 j a := fun j z => by subst hρ; exact tma.2.2.2 j z.kill
  refine ⟨m3, ⟨fun c o q => ?_, by rw [List.length_set]; exact r2.len, fun j sv q => ?_, fun j k c y1 y2 => r2.apart j k c (own y1) (own y2), fun c o q n => ?_, r2.base, r2.fresh, fun q hq => ?_, fun c o q => ?_⟩, ⟨fun c o q => ?_, fun j k q x z => ?_, fun k q x z r0 hr0 => ?_⟩⟩
  · rw [upd_ne (ne_of_none q c2)]; exact r2.le _ _ q
  · rcases cases2 q with ⟨e, z⟩ | ⟨ne, z⟩
    · subst e
      subst z
      refine ⟨rr, ?_, rt1, F', g1, fun c hc => ?_⟩
      · exact h1
      · rcases g2 c hc with y | y
        · exact o1 c y
        · rcases sub c y with y | y
          · exact o1 c (c5 c y)
          · exact (T2 c y).2
    · obtain ⟨x, y1, y2⟩ := r2.slot j sv z
      refine ⟨x, y1, ?_⟩
      cases sv with
      | d _ => exact y2
      | ow l =>
        obtain ⟨c, ys, x1, x2, x3⟩ := y2
        subst x1
        exact ⟨c, ys, rfl, by rw [upd_ne fun e => ownA j ⟨by rw [y1, e], l, .inl z⟩]; exact x2, x3⟩
      | rf l =>
        obtain ⟨c, ys, x1, x2, x3⟩ := y2
        subst x1
        exact ⟨c, ys, rfl, by rw [upd_ne fun e => ownA j ⟨by rw [y1, e], l, .inr z⟩]; exact x2, x3⟩
      | ex _ => exact y2
      | px _ => exact y2
      | fz _ => exact y2
      | al _ _ => exact y2
      | on w' =>
        obtain ⟨x1, F3, x2, x3⟩ := y2
        have x3 : ∀ c ∈ F3, m1.own c = some j := x3
        exact ⟨x1, F3, Lin.frame (Same.refl _) x2 (fun c hc => upd_ne fun e => by
          have y := x3 c hc
          rw [e, o1 a c3] at y
          exact ne (Option.some.inj y).symm) (fun c hc => (Lin.own x2 c hc).1), x3⟩
  · rw [upd_ne (fun e => by have z : (b.wt m1).H0 a = none := tma.2.2.1; rw [e] at q; rw [show (b.wt m3).H0 a = none from z] at q; cases q)]
    exact r2.keep c o q n
  · obtain ⟨l, y1, y2⟩ := r2.byr q hq
    have ne : q.1 ≠ i := fun e => by rw [e, hw2] at y2; cases y2
    exact ⟨l, y1, by rw [List.getElem?_set_ne (Ne.symm ne)]; exact y2⟩
  · by_cases e : c = a
    · subst e
      have q : upd m1.T c (.lst us') c = some o := q
      rw [upd_same] at q
      exact ⟨by rw [upd_same]; exact q, tma.2.1, tma.2.2.1, fun j z => ownA j (own z)⟩
    · have q : upd m1.T a (.lst us') c = some o := q
      rw [upd_ne e] at q
      obtain ⟨y1, y2, y3, y4⟩ := r2.tmp c o q
      exact ⟨by rw [upd_ne e]; exact y1, y2, y3, fun j z => y4 j (own z)⟩
  · obtain ⟨y1, y2⟩ := ho2.held c o q
    have e : c ≠ a := fun e => by
      have y2 : m1.own c = none := y2
      rw [e, o1 a c3] at y2; cases y2
    exact ⟨(upd_ne e).trans y1, y2⟩
  · obtain ⟨z1, z2⟩ := kill_al (m := m1) (P := thru i p) z
    obtain ⟨r0, y1, y2⟩ := ho1.al j k q x z1
    refine ⟨r0, y1, ?_⟩
    by_cases e : k = i
    · subst e
      rw [rt1] at y1
      cases y1
      have pre : q.isPrefixOf p = true := by
        unfold thru at z2
        simpa using z2
      obtain ⟨s, es⟩ := List.isPrefixOf_iff_prefix.mp pre
      exact Nav.keep (m := { m1 with T := upd m1.T a (.lst us') }) (m' := m3) (fun _ _ h1 h2 => ⟨h1, h2⟩) (g3 q s x es.symm y2)
    · refine Nav.keep (m := m1) (m' := m3) (fun c o y3 y4 => ⟨?_, y4⟩) y2
      show upd m1.T a (.lst us') c = some o
      rw [upd_ne fun e2 => by rw [e2, o1 a c3] at y4; exact e (Option.some.inj y4).symm]
      exact y3
  · have y2 := ho1.pin k q x z r0 hr0
    by_cases e : k = i
    · subst e
      have hr0 : m1.rt k = some r0 := hr0
      rw [rt1] at hr0
      cases hr0
      rcases hpin k q x z with n | ⟨s, es⟩
      · exact absurd rfl n
      · exact Nav.keep (m := { m1 with T := upd m1.T a (.lst us') }) (m' := m3) (fun _ _ h1 h2 => ⟨h1, h2⟩) (g3 q s x es y2)
    · refine Nav.keep (m := m1) (m' := m3) (fun c o y3 y4 => ⟨?_, y4⟩) y2
      show upd m1.T a (.lst us') c = some o
      rw [upd_ne fun e2 => by rw [e2, o1 a c3] at y4; exact e (Option.some.inj y4).symm]
      exact y3
end
end Dl
set_option maxHeartbeats 4000000
/-! DlV: append, clear, pop, item stores at a path; aliases; comprehensions of structures of one's own. -/
namespace Dl
open PySem PySem.Spec L2
open PyProof.Rows (envOfC)
section
variable {K : PySem.W.Frag} {b : Bx} {W : WX} {G G1 H : Hp} {σ : St} {ρ : Ev} {Q : VK} {X : Cx} {D : Ends}
/-- slot i's list at p is another one now -/
def putP (ρ : Ev) (i : Nat) (p : List Nat) (w : Ow) (zs : List Ow) : Ev := (kill (thru i p) ρ).set i (some (.on (w.put p (.lst zs))))
def onAt (ρ : Ev) (i : Nat) : Option Ow := match ρ[i]? with
  | some (some (.on w)) => some w
  | _ => none
theorem onAt_get {i : Nat} {w : Ow} (h : onAt ρ i = some w) : ρ[i]? = some (some (.on w)) := by
  unfold onAt at h
  split at h
  · rename_i w' e
    cases h; exact e
  · cases h
/-- the list at a path of slot i -/
def lstAt (ρ : Ev) (i : Nat) (p : List Nat) : Option (Ow × List Ow) := (onAt ρ i).bind fun w => match w.at p with
  | some (.lst zs) => some (w, zs)
  | _ => none
theorem lstAt_get {i : Nat} {p : List Nat} {w : Ow} {zs : List Ow} (h : lstAt ρ i p = some (w, zs)) : ρ[i]? = some (some (.on w)) ∧ w.at p = some (.lst zs) := by
  unfold lstAt at h
  cases e : onAt ρ i with
  | none => rw [e] at h; cases h
  | some w' =>
    rw [e] at h
    have h : (match w'.at p with | some (.lst zs) => some (w', zs) | _ => none) = some (w, zs) := h
    split at h
    · rename_i zs' e2
      cases h
      exact ⟨onAt_get e, e2⟩
    · cases h
/-- a list at a path lies in the heap -/
theorem Rel.cell {m : Hd} {i : Nat} {p : List Nat} {w : Ow} {zs : List Ow} {rr u : V} (r : Rel K (b.wt m) G H σ ρ) (hw : ρ[i]? = some (some (.on w))) (ha : w.at p = some (.lst zs)) (hr : m.rt i = some rr) (nv : Nav G m i rr p u) :
    ∃ a us, u = .ref a ∧ H a = some (.lst us) := by
  obtain ⟨F, l, _⟩ := r.nav hw hr nv ha
  cases l with
  | lst h1 _ _ _ => exact ⟨_, _, rfl, (r.tmp _ _ h1).1⟩
/-- x.append(e) -/
def appP (ps : Pins) (i : Nat) (p : List Nat) (sv : Sv) (ρ : Ev) : RS := match sv.ow?, lstAt ρ i p with
  | some w1, some (w, zs) => if zs.length < sizeLine ∧ pinP ps i p = true then .next (putP ρ i p w (zs ++ [w1])) else .stuck
  | _, _ => .stuck
def fAppP (ps : Pins) (fp : Ev → RP) (f : Ev → RE) : Ev → RS := fun ρ => match fp ρ with
  | .ok i p ρ1 => match lstAt ρ1 i p with
    | some _ => (f ρ1).toS (appP ps i p)
    | none => .stuck
  | .raise c ρ1 => .raise c ρ1
  | .stuck => .stuck
theorem m_append {o e : Expr} {ps : Pins} {fp : Ev → RP} {f : Ev → RE} {apos cpos pos : Pos} (hpin : b.pins = ps) (hv : PE X o (tPa X.K b W fp)) (he : ∀ h, PE X e (tEM X.K (b.hd h) W f)) (hbase : attributeBase o "append" X.env (eval o X.env) = eval o X.env := by rfl)
    (hfew : ((backTo cpos (starEach [e] X.env)).all (fun x => !x.1) && (backToKw cpos (keywordEach [] X.env)).all (fun x => x.1.isSome) && decide ([e].length + ([] : List Keyword).length + (if ([] : List Keyword).isEmpty then 0 else 1) < 30)) = true := by rfl)
    (hline : (apos.endLine == cpos.line) = true := by rfl) (h1 : starEach [e] X.env = (false, eval e X.env) :: starEach [] X.env := by rfl) (h2 : (backTo cpos (starEach [] X.env)).any (·.1) = false := by rfl)
    (hs : swapsWith (.Call (.Attribute o "append" apos) [e] [] cpos) none pos.line X.env = pure false := by rfl) :
    PS X (.Expr (.Call (.Attribute o "append" apos) [e] [] cpos) pos) (tM X.K b W (fAppP ps fp f)) :=
  PS.imp (ps_expr (pe_bm PySem.F.plainAttrs_list PySem.F.slot_list_append PySem.F.type_list_append mt_append hv (pa_cons (pe_exT he) pa_nil h1) hbase hfew hline h1 h2) hs) fun D σ H ⟨ρ, G, r, q⟩ => by
    refine ⟨ρ, G, r, ?_⟩
    cases e1 : fp ρ with
    | stuck => simp only [fAppP, e1] at q; exact q
    | raise c ρ1 => simp only [fAppP, e1] at q; exact fun G' H' r' s' => q σ G' H' r' s'
    | ok i p ρ1 =>
      simp only [fAppP, e1] at q
      intro v G1 H1 m rr r1 ho1 s1 hr nv
      cases e2 : lstAt ρ1 i p with
      | none => simp only [e2] at q; exact q.elim
      | some wz =>
        simp only [e2] at q
        obtain ⟨w0, zs0⟩ := wz
        obtain ⟨g1, g2⟩ := lstAt_get e2
        obtain ⟨a, us, rfl, c1⟩ := r1.cell g1 g2 hr nv
        refine ⟨.inl ⟨rfl, us, SqL.of c1⟩, ⟨b.T, (i, p, .ref a) :: b.pin⟩, ?_⟩
        have ho1' : Ho (b.hd ⟨b.T, (i, p, .ref a) :: b.pin⟩) G1 m := ⟨ho1.held, ho1.al, fun k q x z r0 hr0 => by
          rcases List.mem_cons.mp z with z | z
          · cases z
            rw [hr] at hr0
            cases hr0
            exact nv
          · exact ho1.pin k q x z r0 hr0⟩
        have q := PostM.mono s1 q
        refine ⟨ρ1, G1, ⟨m, r1, ho1'⟩, ?_⟩
        have low : ∀ {G' m'}, Ho (b.hd ⟨b.T, (i, p, .ref a) :: b.pin⟩) G' m' → Ho b G' m' := fun {G' m'} h => ⟨h.held, h.al, fun k q x z => h.pin k q x (List.mem_cons_of_mem _ z)⟩
        cases e3 : f ρ1 with
        | stuck => simp only [e3] at q; exact q
        | raise c ρ2 => simp only [e3] at q; exact fun G' H' ⟨m', r', ho'⟩ s' => q σ G' H' ⟨m', r', low ho'⟩ s'
        | ok sv ρ2 =>
          simp only [e3] at q
          intro x G2 H2 m2 r2 ho2 s2 d2
          have q : PostM X.K b W G1 D (appP ps i p sv ρ2) := q
          unfold appP at q
          cases e4 : sv.ow? with
          | none => simp only [e4] at q; exact q.elim
          | some w1 =>
            cases e5 : lstAt ρ2 i p with
            | none => simp only [e4, e5] at q; exact q.elim
            | some wz =>
              obtain ⟨w, zs⟩ := wz
              simp only [e4, e5] at q
              obtain ⟨cz, q⟩ := postM_if q
              obtain ⟨g3, g4⟩ := lstAt_get e5
              obtain ⟨F2, l2, f2⟩ := d2.lin e4
              obtain ⟨v0, y1, y2, _⟩ := r2.slot _ _ g3
              have nv2 : Nav G2 m2 i v0 p (.ref a) := ho2.pin i p _ (List.mem_cons_self ..) v0 y2
              obtain ⟨a', us2, F1', e6, k1, k2, k3, k4, go⟩ := Rel.mut (b := b) r2 (low ho2) g3 g4 y2 nv2 (pinP_of hpin cz.2)
              cases e6
              refine ⟨a, us2, x, rfl, rfl, k1, by rw [k3.length]; exact cz.1, q σ G2 _ (go (us2 ++ [x]) (zs ++ [w1]) F2 (F1' ++ F2) f2 (fun c hc => ⟨(Lin.own l2 c hc).1, by obtain ⟨_, ws, z⟩ := Lin.own l2 c hc; exact ⟨_, z⟩⟩) ?_ fun c hc => List.mem_append.mp hc) s2⟩
              have l2' : LinAll X.K G2 H2 [x] [w1] (F2 ++ []) := .cons l2 .nil fun a ha hm => nomatch hm
              rw [List.append_nil] at l2'
              refine LinAll.append k3 l2' fun c hc hm => ?_
              -- held cells and fresh ones
              obtain ⟨_, o, z⟩ := k4 c hc
              have z2 : m2.T c = none := (f2 c hm).2.1
              rw [z2] at z; cases z

/-- x.clear() -/
def fClrP (ps : Pins) (fp : Ev → RP) : Ev → RS := fun ρ => match fp ρ with
  | .ok i p ρ1 => match lstAt ρ1 i p with
    | some (w, _) => if pinP ps i p = true then .next (putP ρ1 i p w []) else .stuck
    | none => .stuck
  | .raise c ρ1 => .raise c ρ1
  | .stuck => .stuck
theorem m_clear {o : Expr} {ps : Pins} {fp : Ev → RP} {apos cpos pos : Pos} (hpin : b.pins = ps) (hv : PE X o (tPa X.K b W fp)) (hbase : attributeBase o "clear" X.env (eval o X.env) = eval o X.env := by rfl) (hline : (apos.endLine == cpos.line) = true := by rfl)
    (hs : swapsWith (.Call (.Attribute o "clear" apos) [] [] cpos) none pos.line X.env = pure false := by rfl) :
    PS X (.Expr (.Call (.Attribute o "clear" apos) [] [] cpos) pos) (tM X.K b W (fClrP ps fp)) :=
  PS.imp (ps_expr (pe_bm0 PySem.F.plainAttrs_list PySem.F.slot_list_clear PySem.F.type_list_clear mt_clear hv hbase hline) hs) fun D σ H ⟨ρ, G, r, q⟩ => by
    refine ⟨ρ, G, r, ?_⟩
    cases e1 : fp ρ with
    | stuck => simp only [fClrP, e1] at q; exact q
    | raise c ρ1 => simp only [fClrP, e1] at q; exact fun G' H' r' s' => q σ G' H' r' s'
    | ok i p ρ1 =>
      simp only [fClrP, e1] at q
      intro v G1 H1 m rr r1 ho1 s1 hr nv
      cases e2 : lstAt ρ1 i p with
      | none => simp only [e2] at q; exact q.elim
      | some wz =>
        obtain ⟨w0, zs0⟩ := wz
        simp only [e2] at q
        obtain ⟨cz, q⟩ := postM_if q
        obtain ⟨g1, g2⟩ := lstAt_get e2
        obtain ⟨a, us, F1, rfl, c1, c2, c3, c4, go⟩ := r1.mut ho1 g1 g2 hr nv (pinP_of hpin cz)
        exact ⟨.inl ⟨rfl, us, SqL.of c1⟩, a, us, rfl, rfl, c1, q σ G1 _ (go [] [] [] [] (fun c hc => nomatch hc) (fun c hc => nomatch hc) .nil fun c hc => nomatch hc) s1⟩
theorem LinAll.setDat {v : V} {x : Dl.D} (d : Da K G v x) : ∀ {vs : List V} {ws : List Ow} {F : List Addr} (k : Nat), LinAll K G H vs ws F → ∃ F', LinAll K G H (vs.set k v) (ws.set k (.dat x)) F' ∧ ∀ c ∈ F', c ∈ F
  | _, _, _, _, .nil => ⟨[], .nil, fun _ h => h⟩
  | _, _, _, 0, .cons (F' := F2) h r n => ⟨[] ++ F2, .cons (.dat d) r (fun a ha => nomatch ha), fun c hc => List.mem_append_right _ hc⟩
  | _, _, _, k + 1, .cons (F := F1) (F' := F2) h r n => by
    obtain ⟨F', h1, h2⟩ := LinAll.setDat d k r
    exact ⟨F1 ++ F', .cons h h1 (fun a ha hm => n a ha (h2 a hm)), fun c hc => by
      rcases List.mem_append.mp hc with hc | hc
      · exact List.mem_append_left _ hc
      · exact List.mem_append_right _ (h2 c hc)⟩
theorem LinAll.eraseIdx : ∀ {vs : List V} {ws : List Ow} {F : List Addr} (k : Nat), LinAll K G H vs ws F → ∃ F', LinAll K G H (vs.eraseIdx k) (ws.eraseIdx k) F' ∧ ∀ c ∈ F', c ∈ F
  | _, _, _, _, .nil => ⟨[], by simp; exact .nil, fun _ h => h⟩
  | _, _, _, 0, .cons (F' := F2) h r n => ⟨F2, r, fun c hc => List.mem_append_right _ hc⟩
  | _, _, _, k + 1, .cons (F := F1) (F' := F2) h r n => by
    obtain ⟨F', h1, h2⟩ := LinAll.eraseIdx k r
    exact ⟨F1 ++ F', .cons h h1 (fun a ha hm => n a ha (h2 a hm)), fun c hc => by
      rcases List.mem_append.mp hc with hc | hc
      · exact List.mem_append_left _ hc
      · exact List.mem_append_right _ (h2 c hc)⟩
/-- x[k] = e; e's value is data -/
def setP (ps : Pins) (i : Nat) (p : List Nat) (x : Dl.D) : RE → RS
  | .ok (.d (.int n)) ρ => match lstAt ρ i p with
    | some (w, zs) => match ixN zs.length n with
      | some k => if pinP ps i p = true then .next (putP ρ i p w (zs.set k (.dat x))) else .stuck
      | none => .stuck
    | none => .stuck
  | .raise c ρ => .raise c ρ
  | _ => .stuck
def fSetP (ps : Pins) (fp : Ev → RP) (fk f : Ev → RE) : Ev → RS := fun ρ => (f ρ).toSD fun x ρ1 => match fp ρ1 with
  | .ok i p ρ2 => match lstAt ρ2 i p with
    | some _ => setP ps i p x (fk ρ2)
    | none => .stuck
  | .raise c ρ2 => .raise c ρ2
  | .stuck => .stuck
/-- a plain value for a statement that changes what is held -/
theorem stepSDM {m : Hd} {f : Ev → RE} {k : Dl.D → Ev → RS} (r : Rel K (b.wt m) G H σ ρ) (ho : Ho b G m) (h : PostM K b W G D ((f ρ).toSD k)) {R : V → Hp → Prop}
    (hR : ∀ v H1 ρ1 G1 x, Rel K (b.wt m) G1 H1 σ ρ1 → Ho b G1 m → Same G G1 → Da K G1 v x → PostM K b W G1 D (k x ρ1) → R v H1) : tE K (b.wt m) W f σ H R := by
  refine ⟨ρ, G, r, ?_⟩
  cases e : f ρ with
  | stuck => rw [e] at h; exact h
  | raise c ρ1 => rw [e] at h; exact fun G' H' r' s' => h σ G' H' ⟨m, r', ho.mono s'⟩ s'
  | ok sv ρ1 =>
    rw [e] at h
    intro v G1 H1 r1 s1 d1
    have h : PostM K b W G D (match sv.dat? with
      | some x => k x ρ1
      | none => .stuck) := h
    cases e1 : sv.dat? with
    | none => simp only [e1] at h; exact h.elim
    | some x =>
      simp only [e1] at h
      obtain ⟨G2, r2, s2, d2⟩ := r1.pub d1 e1
      exact hR v H1 ρ1 G2 x r2 (ho.mono (s1.trans s2)) (s1.trans s2) d2 (PostM.mono (s1.trans s2) h)
theorem setP_post {ps : Pins} {fp : Ev → RP} {fk f : Ev → RE} (hpin : b.pins = ps) : ∀ D σ H, tM K b W (fSetP ps fp fk f) D σ H → tAsg (fun σ H Q => ∃ m, tE K (b.wt m) W f σ H Q) (gSub (tPa K b W fp) (fun σ H Q => ∃ m, tE K (b.wt m) W fk σ H Q) rSetL) D σ H := by
  rintro D σ H ⟨ρ, G, ⟨m, r, ho⟩, q⟩
  refine ⟨m, stepSDM r ho q fun v H1 ρ1 G1 x r1 ho1 s1 d1 q1 => ?_⟩
  refine ⟨ρ1, G1, ⟨m, r1, ho1⟩, ?_⟩
  cases e1 : fp ρ1 with
  | stuck => simp only [e1] at q1; exact q1
  | raise c ρ2 => simp only [e1] at q1; exact fun G' H' r' s' => q1 σ G' H' r' s'
  | ok i p ρ2 =>
    simp only [e1] at q1
    intro u G2 H2 m2 rr r2 ho2 s2 hr nv
    cases e2 : lstAt ρ2 i p with
    | none => simp only [e2] at q1; exact q1.elim
    | some wz =>
      simp only [e2] at q1
      refine ⟨m2, ρ2, G2, r2, ?_⟩
      cases e3 : fk ρ2 with
      | stuck => rw [e3] at q1; exact q1
      | raise c ρ3 => rw [e3] at q1; exact fun G' H' r' s' => q1 σ G' H' ⟨m2, r', ho2.mono s'⟩ (s2.trans s')
      | ok sv ρ3 =>
        rw [e3] at q1
        intro y G3 H3 r3 s3 d3
        cases sv with
        | d z =>
          cases z with
          | int n =>
            cases d3
            have q1 : PostM K b W G1 D (match lstAt ρ3 i p with
              | some (w, zs) => match ixN zs.length n with
                | some k => if pinP ps i p = true then .next (putP ρ3 i p w (zs.set k (.dat x))) else .stuck
                | none => .stuck
              | none => .stuck) := q1
            cases e4 : lstAt ρ3 i p with
            | none => simp only [e4] at q1; exact q1.elim
            | some wz =>
              obtain ⟨w, zs⟩ := wz
              simp only [e4] at q1
              cases e5 : ixN zs.length n with
              | none => simp only [e5] at q1; exact q1.elim
              | some k =>
                simp only [e5] at q1
                obtain ⟨cz, q1⟩ := postM_if q1
                obtain ⟨g1, g2⟩ := lstAt_get e4
                have nv3 : Nav G3 m2 i rr p u := Nav.mono (m := m2) (m' := m2) s3 (fun _ _ h1 h2 => ⟨h1, h2⟩) nv
                obtain ⟨a, us, F1, rfl, c1, c2, c3, c4, go⟩ := r3.mut (ho2.mono s3) g1 g2 hr nv3 (pinP_of hpin cz)
                obtain ⟨F', l1, l2⟩ := LinAll.setDat (Da.mono (s2.trans s3) d1) k c3
                exact ⟨a, us, n, k, rfl, rfl, c1, by rw [c3.length]; exact e5, q1 σ G3 _ (go _ _ [] F' (fun c hc => nomatch hc) (fun c hc => nomatch hc) l1 fun c hc => .inl (l2 c hc)) (s2.trans s3)⟩
          | _ => exact q1.elim
        | _ => exact q1.elim
/-- x.pop(k), x's entries data -/
def popP (ps : Pins) (i : Nat) (p : List Nat) : RE → RE
  | .ok (.d (.int n)) ρ => match lstAt ρ i p with
    | some (w, zs) => if (-(2 ^ 63) ≤ n ∧ n < 2 ^ 63) ∧ pinP ps i p = true then match seqIndex? n zs.length with
      | some j => match zs[j]? with
        | some (.dat x) => .ok (.d x) (putP ρ i p w (zs.eraseIdx j))
        | _ => .stuck
      | none => .stuck else .stuck
    | none => .stuck
  | .raise c ρ => .raise c ρ
  | _ => .stuck
def fPopP (ps : Pins) (fp : Ev → RP) (fk : Ev → RE) : Ev → RE := fun ρ => match fp ρ with
  | .ok i p ρ1 => match lstAt ρ1 i p with
    | some _ => popP ps i p (fk ρ1)
    | none => .stuck
  | .raise c ρ1 => .raise c ρ1
  | .stuck => .stuck
theorem me_pop {o e : Expr} {ps : Pins} {fp : Ev → RP} {fk : Ev → RE} {apos cpos : Pos} (hpin : b.pins = ps) (hv : PE X o (tPa X.K b W fp)) (he : ∀ m, PE X e (tE X.K (b.wt m) W fk)) (hbase : attributeBase o "pop" X.env (eval o X.env) = eval o X.env := by rfl)
    (hfew : ((backTo cpos (starEach [e] X.env)).all (fun x => !x.1) && (backToKw cpos (keywordEach [] X.env)).all (fun x => x.1.isSome) && decide ([e].length + ([] : List Keyword).length + (if ([] : List Keyword).isEmpty then 0 else 1) < 30)) = true := by rfl)
    (hline : (apos.endLine == cpos.line) = true := by rfl) (h1 : starEach [e] X.env = (false, eval e X.env) :: starEach [] X.env := by rfl) (h2 : (backTo cpos (starEach [] X.env)).any (·.1) = false := by rfl) :
    PE X (.Call (.Attribute o "pop" apos) [e] [] cpos) (tEM X.K b W (fPopP ps fp fk)) :=
  PE.imp (pe_bm PySem.F.plainAttrs_list PySem.F.slot_list_pop PySem.F.type_list_pop mt_popAt hv (pa_cons (⟨fun pins s σ H Q inv ⟨m, q⟩ => (he m).run pins s σ H Q inv q⟩ : PE X e (fun σ H Q => ∃ m, tE X.K (b.wt m) W fk σ H Q)) pa_nil h1) hbase hfew hline h1 h2) fun σ H Q ⟨ρ, G, r, q⟩ => by
    refine ⟨ρ, G, r, ?_⟩
    cases e1 : fp ρ with
    | stuck => simp only [fPopP, e1] at q; exact q
    | raise c ρ1 => simp only [fPopP, e1] at q; exact q
    | ok i p ρ1 =>
      simp only [fPopP, e1] at q
      intro v G1 H1 m rr r1 ho1 s1 hr nv
      cases e2 : lstAt ρ1 i p with
      | none => simp only [e2] at q; exact q.elim
      | some wz =>
        simp only [e2] at q
        obtain ⟨w0, zs0⟩ := wz
        obtain ⟨g1, g2⟩ := lstAt_get e2
        obtain ⟨a, us, rfl, c1⟩ := r1.cell g1 g2 hr nv
        refine ⟨.inl ⟨rfl, us, SqL.of c1⟩, m, ρ1, G1, r1, ?_⟩
        cases e3 : fk ρ1 with
        | stuck => rw [e3] at q; exact q
        | raise c ρ2 => rw [e3] at q; exact fun G' H' r' s' => q G' H' ⟨m, r', ho1.mono s'⟩ (s1.trans s')
        | ok sv ρ2 =>
          rw [e3] at q
          intro y G2 H2 r2 s2 d2
          cases sv with
          | d z =>
            cases z with
            | int n =>
              cases d2
              have q : PostEM X.K b W G σ Q (match lstAt ρ2 i p with
                | some (w, zs) => if (-(2 ^ 63) ≤ n ∧ n < 2 ^ 63) ∧ pinP ps i p = true then match seqIndex? n zs.length with
                  | some j => match zs[j]? with
                    | some (.dat x) => .ok (.d x) (putP ρ2 i p w (zs.eraseIdx j))
                    | _ => .stuck
                  | none => .stuck else .stuck
                | none => .stuck) := q
              cases e4 : lstAt ρ2 i p with
              | none => simp only [e4] at q; exact q.elim
              | some wz =>
                obtain ⟨w, zs⟩ := wz
                simp only [e4] at q
                obtain ⟨cn, q⟩ := postEM_if q
                cases e5 : seqIndex? n zs.length with
                | none => simp only [e5] at q; exact q.elim
                | some j =>
                  simp only [e5] at q
                  obtain ⟨g3, g4⟩ := lstAt_get e4
                  have nv2 : Nav G2 m i rr p (.ref a) := Nav.mono (m := m) (m' := m) s2 (fun _ _ h1 h2 => ⟨h1, h2⟩) nv
                  obtain ⟨a', us2, F2, e6, k1, k2, k3, k4, go⟩ := r2.mut (ho1.mono s2) g3 g4 hr nv2 (pinP_of hpin cn.2)
                  cases e6
                  cases e7 : zs[j]? with
                  | none => simp only [e7] at q; exact q.elim
                  | some wj =>
                    cases wj with
                    | dat x =>
                      simp only [e7] at q
                      obtain ⟨vj, Fj, e8, l8, _⟩ := LinAll.get k3 e7
                      cases l8 with
                      | dat dx =>
                        obtain ⟨F', l1, l2⟩ := LinAll.eraseIdx j k3
                        obtain ⟨m3, r3, ho3⟩ := go _ _ [] F' (fun c hc => nomatch hc) (fun c hc => nomatch hc) l1 fun c hc => .inl (l2 c hc)
                        exact ⟨a, us2, n, j, vj, rfl, rfl, k1, cn.1.1, cn.1.2, by rw [k3.length]; exact e5, e8, q vj G2 _ m3 r3 ho3 (s1.trans s2) dx⟩
                    | _ => simp only [e7] at q; exact q.elim
            | _ => exact q.elim
          | _ => exact q.elim
/-- x = what stands at a path -/
def fAl (j : Nat) (fp : Ev → RP) : Ev → RS := fun ρ => match fp ρ with
  | .ok i p ρ1 => if rfAt ρ1 j = false then .next (ρ1.set j (some (.al i p))) else .stuck
  | .raise c ρ1 => .raise c ρ1
  | .stuck => .stuck
theorem al_post {j : Nat} {v : V} {i : Nat} {p : List Nat} {m : Hd} {rr : V} (r : Rel K (b.wt m) G H σ ρ) (ho : Ho b G m) (hr : m.rt i = some rr) (nv : Nav G m i rr p v) (hj : rfAt ρ j = false) : RelT K b G H (σ.set j (some v)) (ρ.set j (some (.al i p))) := by
  let m2 : Hd := { m with al := fun k => if k = j then some (i, p, v) else m.al k }
  have cases2 : ∀ {k : Nat} {s' : Sv}, (ρ.set j (some (.al i p)))[k]? = some (some s') → (k = j ∧ Sv.al i p = s' ∧ j < ρ.length) ∨ (k ≠ j ∧ ρ[k]? = some (some s')) := fun {k s'} q => by
    by_cases e : k = j
    · subst e
      by_cases hl : k < ρ.length
      · rw [List.getElem?_set_self hl] at q
        exact .inl ⟨rfl, Option.some.inj (Option.some.inj q), hl⟩
      · rw [List.getElem?_eq_none (by simpa using hl)] at q; cases q
    · rw [List.getElem?_set_ne (Ne.symm e)] at q
      exact .inr ⟨e, q⟩
  have own : ∀ {k : Nat} {a : Addr}, Owns (σ.set j (some v)) (ρ.set j (some (.al i p))) k a → Owns σ ρ k a := fun {k a} ⟨h1, l, h2⟩ => by
    have ne : k ≠ j ∧ (ρ[k]? = some (some (.ow l)) ∨ ρ[k]? = some (some (.rf l))) := by
      rcases h2 with h2 | h2
      · rcases cases2 h2 with ⟨_, z, _⟩ | ⟨z, y⟩
        · cases z
        · exact ⟨z, .inl y⟩
      · rcases cases2 h2 with ⟨_, z, _⟩ | ⟨z, y⟩
        · cases z
        · exact ⟨z, .inr y⟩
    rw [List.getElem?_set_ne (Ne.symm ne.1)] at h1
    exact ⟨h1, l, ne.2⟩
  refine ⟨m2, ⟨r.le, by rw [List.length_set, List.length_set]; exact r.len, fun k sv q => ?_, fun k l a h1 h2 => r.apart k l a (own h1) (own h2), r.keep, r.base, r.fresh, fun q hq => ?_, fun a o q => ?_⟩, ⟨ho.held, fun k l q u z => ?_, fun l q u z r0 hr0 => ?_⟩⟩
  · rcases cases2 q with ⟨e, z, hl⟩ | ⟨ne, z⟩
    · subst e
      subst z
      exact ⟨v, by rw [List.getElem?_set_self (by rw [← r.len]; exact hl)], if_pos rfl⟩
    · obtain ⟨u, h1, h2⟩ := r.slot k sv z
      refine ⟨u, by rw [List.getElem?_set_ne (Ne.symm ne)]; exact h1, ?_⟩
      cases sv with
      | al l q => exact (if_neg ne).trans h2
      | _ => exact h2
  · obtain ⟨l, h1, h2⟩ := r.byr q hq
    have ne : q.1 ≠ j := fun z => no_rf hj l (by rw [← z]; exact h2)
    exact ⟨l, by rw [List.getElem?_set_ne (Ne.symm ne)]; exact h1, by rw [List.getElem?_set_ne (Ne.symm ne)]; exact h2⟩
  · obtain ⟨h1, h2, h3, h4⟩ := r.tmp a o q
    exact ⟨h1, h2, h3, fun k z => h4 k (own z)⟩
  · have z : (if k = j then some (i, p, v) else m.al k) = some (l, q, u) := z
    by_cases e : k = j
    · rw [if_pos e] at z
      cases z
      exact ⟨rr, hr, Nav.keep (m := m) (m' := m2) (fun _ _ x y => ⟨x, y⟩) nv⟩
    · rw [if_neg e] at z
      obtain ⟨r0, x, y⟩ := ho.al k l q u z
      exact ⟨r0, x, Nav.keep (m := m) (m' := m2) (fun _ _ x y => ⟨x, y⟩) y⟩
  · exact Nav.keep (m := m) (m' := m2) (fun _ _ x y => ⟨x, y⟩) (ho.pin l q u z r0 hr0)
theorem m_al {j : Nat} {x : Str} {e : Expr} {fp : Ev → RP} {pos pos' : Pos} (hN : X.N.Nodup) (hi : X.N[j]? = some x) (hx : Loc X.env.scope x) (he : PE X e (tPa X.K b W fp)) (hs : swapsWith e (some (.Name x pos')) pos.line X.env = pure false := by rfl)
    (hf : X.fn x = true ∨ X.env.scope.names.lookup x = some .local := by first | exact .inl rfl | exact .inr rfl) : PS X (.Assign [.Name x pos'] e pos) (tM X.K b W (fAl j fp)) := PS.imp (ps_set hN hi hx he hs hf) fun D σ H ⟨ρ, G, r, q⟩ => by
  refine ⟨ρ, G, r, ?_⟩
  cases e1 : fp ρ with
  | stuck => simp only [fAl, e1] at q; exact q
  | raise c ρ1 => simp only [fAl, e1] at q; exact fun G' H' r' s' => q σ G' H' r' s'
  | ok i p ρ1 =>
    simp only [fAl, e1] at q
    intro v G1 H1 m rr r1 ho1 s1 hr nv
    obtain ⟨c, q⟩ := postM_if q
    exact q _ G1 H1 (al_post r1 ho1 hr nv c) s1
theorem m_setIx {t k e : Expr} {fp : Ev → RP} {ps : Pins} {fk f : Ev → RE} {pos spos : Pos} (hpin : b.pins = ps) (he : ∀ m, PE X e (tE X.K (b.wt m) W f)) (hv : PE X t (tPa X.K b W fp)) (hk : ∀ m, PE X k (tE X.K (b.wt m) W fk))
    (hg : ∀ {to ti : TE}, PE X t to → PE X k ti → PG X (.Subscript t k pos) (gSub to ti rSetL))
    (hs : swapsWithSole [.Subscript t k pos] e spos.line X.env = pure false := by rfl) (hw : swappedStores [.Subscript t k pos] e X.env = pure none := by rfl) (h1 : (assignEach [.Subscript t k pos] X.env).map (·.2) = [assign (.Subscript t k pos) X.env] := by rfl) :
    PS X (.Assign [.Subscript t k pos] e spos) (tM X.K b W (fSetP ps fp fk f)) :=
  PS.imp (ps_asg (⟨fun pins s σ H Q inv ⟨m, q⟩ => (he m).run pins s σ H Q inv q⟩ : PE X e (fun σ H Q => ∃ m, tE X.K (b.wt m) W f σ H Q)) (hg hv (⟨fun pins s σ H Q inv ⟨m, q⟩ => (hk m).run pins s σ H Q inv q⟩ : PE X k (fun σ H Q => ∃ m, tE X.K (b.wt m) W fk σ H Q))) hs hw h1) (setP_post hpin)
/-- a pattern from a value whose making changes what is held -/
theorem m_unp {tg e : Expr} {p : Pat} {f : Ev → RE} {pos : Pos} (he : PE X e (tEM X.K b W f)) (hg : ∀ m, PG X tg (gP X.K (b.wt m) p)) (hs : swapsWithSole [tg] e pos.line X.env = pure false := by rfl) (hw : swappedStores [tg] e X.env = pure none := by rfl) (h1 : (assignEach [tg] X.env).map (·.2) = [assign tg X.env] := by rfl) : PS X (.Assign [tg] e pos) (tM X.K b W (fUnp p f)) :=
  PS.imp (ps_asg he (pg_ex hg) hs hw h1) fun D σ H ⟨ρ, G, r, q⟩ => by
    refine stepSM r q fun v H1 ρ1 G1 sv m r1 ho1 s1 d1 q1 => ?_
    cases sv with
    | d x =>
      have q1 : PostM X.K b W G1 D (match bindP p x ρ1 with | some ρ2 => .next ρ2 | none => .stuck) := q1
      cases e : bindP p x ρ1 with
      | none => simp only [e] at q1; exact q1.elim
      | some ρ2 =>
        simp only [e] at q1
        exact ⟨m, ρ1, G1, x, r1, d1, ρ2, e, fun σ' r2 _ => q1 σ' G1 H1 ⟨m, r2, ho1⟩ (Same.refl _)⟩
    | ow l =>
      have q1 : PostM X.K b W G1 D (match bindP p (.list l) ρ1 with | some ρ2 => .next ρ2 | none => .stuck) := q1
      obtain ⟨G2, r2, s2, d2⟩ := Rel.pub r1 (sv := .ow l) d1 rfl
      cases e : bindP p (.list l) ρ1 with
      | none => simp only [e] at q1; exact q1.elim
      | some ρ2 =>
        simp only [e] at q1
        exact ⟨m, ρ1, G2, .list l, r2, d2, ρ2, e, fun σ' r3 _ => q1 σ' G2 H1 ⟨m, r3, ho1.mono s2⟩ s2⟩
    | _ => exact q1.elim
end
end Dl
set_option maxHeartbeats 4000000
/-! DlJ: comprehensions whose entries are structures of one's own. -/
namespace Dl
open PySem PySem.Spec L2
open PyProof.Rows (envOfC)
def lcLM (vs : List Nat) (p : Pat) (fc : Ev → RT) (fe : Ev → RE) : List D → Ev → Option (List Ow × Ev)
  | [], ρ => some ([], ρ)
  | x :: xs, ρ => match bindP p x ρ with
    | none => none
    | some ρ1 => match fc ρ1 with
      | .ok true ρ2 => match fe ρ2 with
        | .ok sv ρ3 => match sv.ow?, lcLM vs p fc fe xs (wipeE ρ3 vs) with
          | some y, some (ys, ρ4) => some (y :: ys, ρ4)
          | _, _ => none
        | _ => none
      | .ok false ρ2 => lcLM vs p fc fe xs (wipeE ρ2 vs)
      | _ => none
def fLcM (src : Ev → RI) (vs : List Nat) (p : Pat) (fc : Ev → RT) (fe : Ev → RE) : Ev → RE := fun ρ => match src ρ with
  | .ok xs ρ1 => if okW ρ1 vs = true then match lcLM vs p fc fe xs (wipeE ρ1 vs) with
    | some (ys, ρ2) => if ys.length ≤ sizeLine then .ok (.on (.lst ys)) (backE ρ1 ρ2 vs) else .stuck
    | none => .stuck
    else .stuck
  | .raise c ρ1 => .raise c ρ1
  | .stuck => .stuck
section
variable {K : PySem.W.Frag} {b : Bx} {W : WX} {G G1 H : Hp} {σ : St} {ρ : Ev} {Q : VK} {X : Cx} {D : Ends}
def tEMX (K : PySem.W.Frag) (cl : Nat → Addr) (f : Ev → RE) : TE := fun σ H Q => ∃ b : Bx, b.cl = cl ∧ tEM K b W0 f σ H Q
theorem PE.exM {e : Expr} {f : Ev → RE} {cl : Nat → Addr} (h : ∀ b : Bx, b.cl = cl → PE X e (tEM X.K b W0 f)) : PE X e (tEMX X.K cl f) := ⟨fun pins s σ H Q I ⟨b, hb, q⟩ => (h b hb).run pins s σ H Q I q⟩
/-- Ho for a lesser hold -/
theorem Ho.less {m : Hd} {T : Hp} {F : List Addr} {pn : List (Nat × List Nat × V)} (h : Ho (b.hd ⟨T, pn⟩) G m) (hs : Same b.T T) (hb : ∀ a ∈ F, b.T a = none) (hf : ∀ a ∈ F, m.own a = none) (hpn : ∀ x ∈ b.pin, x ∈ pn) : Ho b G (m.drop F) :=
  ⟨fun a o q => by
    have c : a ∉ F := fun c => by rw [hb a c] at q; cases q
    obtain ⟨h1, h2⟩ := h.held a o (hs a o q)
    exact ⟨by show (if a ∈ F then none else m.T a) = some o; rw [if_neg c]; exact h1, h2⟩,
   fun j i p v q => by
    obtain ⟨r, h1, h2⟩ := h.al j i p v q
    exact ⟨r, h1, Nav.keep (drop_keep fun a ha z => by rw [hf a ha] at z; cases z) h2⟩,
   fun i p v q r hr => Nav.keep (drop_keep fun a ha z => by rw [hf a ha] at z; cases z) (h.pin i p v (hpn _ q) r hr)⟩
/-- a held list is written -/
theorem Rel.setHeld {m : Hd} {a : Addr} {xs ys : List V} (r : Rel K (b.wt m) G H σ ρ) (h1 : m.T a = some (.lst xs)) (h2 : m.own a = none) : Rel K (b.wt { m with T := upd m.T a (.lst ys) }) G (upd H a (.lst ys)) σ ρ := by
  obtain ⟨t1, t2, t3, t4⟩ := r.tmp a _ h1
  refine ⟨fun c o q => ?_, r.len, fun i sv q => ?_, r.apart, fun c o q n => ?_, r.base, r.fresh, r.byr, fun c o q => ?_⟩
  · rw [upd_ne (ne_of_none q t2)]; exact r.le _ _ q
  · obtain ⟨v, y1, y2⟩ := r.slot i sv q
    refine ⟨v, y1, ?_⟩
    cases sv with
    | d _ => exact y2
    | ow l =>
      obtain ⟨c, zs, x1, x2, x3⟩ := y2
      subst x1
      exact ⟨c, zs, rfl, by rw [upd_ne fun e => t4 i ⟨by rw [y1, e], l, .inl q⟩]; exact x2, x3⟩
    | rf l =>
      obtain ⟨c, zs, x1, x2, x3⟩ := y2
      subst x1
      exact ⟨c, zs, rfl, by rw [upd_ne fun e => t4 i ⟨by rw [y1, e], l, .inr q⟩]; exact x2, x3⟩
    | ex _ => exact y2
    | px _ => exact y2
    | fz _ => exact y2
    | al _ _ => exact y2
    | on w =>
      obtain ⟨x1, F, x2, x3⟩ := y2
      exact ⟨x1, F, Lin.frame (Same.refl _) x2 (fun c hc => upd_ne fun e => by
        have y : m.own c = some i := x3 c hc
        rw [e, h2] at y; cases y) (fun c hc => (Lin.own x2 c hc).1), x3⟩
  · rw [upd_ne (fun e => by rw [e] at q; rw [show (b.wt { m with T := upd m.T a (.lst ys) }).H0 a = none from t3] at q; cases q)]
    exact r.keep c o q n
  · by_cases e : c = a
    · subst e
      have q : upd m.T c (.lst ys) c = some o := q
      rw [upd_same] at q
      exact ⟨by rw [upd_same]; exact q, t2, t3, t4⟩
    · have q : upd m.T a (.lst ys) c = some o := q
      rw [upd_ne e] at q
      obtain ⟨y1, y2⟩ := r.tmp c o q
      exact ⟨by rw [upd_ne e]; exact y1, y2⟩
theorem Rel.backM {H1 : Hp} {ρ1 ρ2 : Ev} {m1 m : Hd} {vs : List Nat} (r1 : Rel K (b.wt m1) G1 H1 σ ρ1) (r : Rel K (b.wt m) G H (L2.wipe σ vs) ρ2) (s : Same G1 G) (h : okW ρ1 vs = true) :
    Rel K (b.wt m) G H σ (backE ρ1 ρ2 vs) ∧ ∀ j a, Owns σ (backE ρ1 ρ2 vs) j a → Owns (L2.wipe σ vs) ρ2 j a := by
  have nk : ∀ {o : Option (Option Sv)} {l : List D}, keepS o ≠ some (.ow l) ∧ keepS o ≠ some (.rf l) := fun {o l} => by
    unfold keepS
    split <;> exact ⟨(fun z => nomatch z), (fun z => nomatch z)⟩
  have own : ∀ {j : Nat} {a : Addr}, Owns σ (backE ρ1 ρ2 vs) j a → Owns (L2.wipe σ vs) ρ2 j a := fun {j a} ⟨q1, l, q2⟩ => by
    rcases q2 with q2 | q2
    · rcases backE_in q2 with ⟨_, e⟩ | ⟨n, e⟩
      · exact absurd e nk.1
      · exact ⟨by rw [wipe_off n]; exact q1, l, .inl e⟩
    · rcases backE_in q2 with ⟨_, e⟩ | ⟨n, e⟩
      · exact absurd e nk.2
      · exact ⟨by rw [wipe_off n]; exact q1, l, .inr e⟩
  refine ⟨⟨r.le, by rw [backE_len, r.len, wipe_length], fun i sv q => ?_, fun i j a h1 h2 => r.apart i j a (own h1) (own h2), r.keep, r.base, r.fresh, fun p hp => ?_, fun a o q => ?_⟩, fun j a => own⟩
  · rcases backE_in q with ⟨_, e⟩ | ⟨n, e⟩
    · unfold keepS at e
      split at e
      · rename_i x z
        cases e
        obtain ⟨v, h1, h2⟩ := r1.slot _ _ z
        exact ⟨v, h1, Da.mono s h2⟩
      · rename_i c z
        cases e
        obtain ⟨v, h1, a, e1, h2⟩ := r1.slot _ _ z
        exact ⟨v, h1, a, e1, s _ _ h2⟩
      · rename_i l z
        cases e
        obtain ⟨v, h1, a, xs, e1, h2, h3⟩ := r1.slot _ _ z
        exact ⟨v, h1, a, xs, e1, s.seq h2, DaAll.mono s h3⟩
      · cases e
    · obtain ⟨v, h1, h2⟩ := r.slot i sv e
      rw [wipe_off n] at h1
      exact ⟨v, h1, h2⟩
  · obtain ⟨l, h1, h2⟩ := r.byr p hp
    obtain ⟨l', _, h4⟩ := r1.byr p hp
    have n : p.1 ∉ vs := fun z => by
      have q := List.all_eq_true.mp h _ z
      unfold rfAt at q
      rw [h4] at q
      cases q
    exact ⟨l, by rw [← wipe_off n]; exact h1, by rw [backE_out n]; exact h2⟩
  · obtain ⟨h1, h2, h3, h4⟩ := r.tmp a o q
    exact ⟨h1, h2, h3, fun i z => h4 i (own z)⟩

theorem lcM_post {src : Ev → RI} {vs : List Nat} {p : Pat} {fc : Ev → RT} {fe : Ev → RE} (hp : ∀ i ∈ pvars p, i ∈ vs) : ∀ σ H Q, tEM K b W (fLcM src vs p fc fe) σ H Q → tLc (fun σ H R => ∃ m, tI K (b.wt m) W src σ H R) (gX K b.cl p) (tTX K b.cl fc) (tEMX K b.cl fe) vs σ H Q := by
  rintro σ H Q ⟨ρ, G, ⟨m, r, ho⟩, q⟩
  refine ⟨m, ρ, G, r, ?_⟩
  cases e0 : src ρ with
  | stuck => simp only [fLcM, e0] at q; exact q
  | raise c ρ1 => simp only [fLcM, e0] at q; exact fun G' H' r' s' => q G' H' ⟨m, r', ho.mono s'⟩ s'
  | ok xs ρ1 =>
    simp only [fLcM, e0] at q
    intro J G1 H1 r1 s1 o1 D hD
    obtain ⟨hw, q⟩ := postEM_if q
    cases el : lcLM vs p fc fe xs (wipeE ρ1 vs) with
    | none => rw [el] at q; exact q.elim
    | some yr =>
      obtain ⟨tot, ρe⟩ := yr
      rw [el] at q
      obtain ⟨hz, q⟩ := postEM_if q
      have ho1 := ho.mono s1
      have hext := Ext.updH r1.le hD (.lst [])
      have rD : Rel K (b.wt m) G1 (upd H1 D (.lst [])) σ ρ1 := r1.ext hext
      have fD : Free (b.wt m) σ ρ1 [D] := fun a ha => by cases List.mem_singleton.mp ha; exact ⟨r1.h0 hD, r1.t0 hD, r1.noOwn hD⟩
      have gD : ∀ a ∈ [D], G1 a = none := fun a ha => by cases List.mem_singleton.mp ha; exact r1.g0 hD
      have bD : b.T D = none := by
        cases z : b.T D with
        | none => rfl
        | some o =>
          have y : m.T D = none := r1.t0 hD
          rw [(ho1.held D o z).1] at y; cases y
      have okB : ∀ {m' G4 H4 σ4 ρ4}, Rel K (b.wt m') G4 H4 σ4 ρ4 → okW ρ4 vs = true := fun {m' G4 H4 σ4 ρ4} r5 => by
        refine List.all_eq_true.mpr fun j hj => ?_
        have q1 : rfAt ρ1 j = false := by
          have z := List.all_eq_true.mp hw j hj
          cases e : rfAt ρ1 j with
          | false => rfl
          | true => rw [e] at z; cases z
        cases e : rfAt ρ4 j with
        | false => rfl
        | true =>
          obtain ⟨a, hB⟩ := r5.rfB e
          obtain ⟨l, _, h2⟩ := r1.byr _ hB
          exact absurd h2 (no_rf q1 l)
      have rW : Rel K (b.wt (m.grab (upd H1 D (.lst [])) [D] none)) G1 (upd H1 D (.lst [])) (wipe σ vs) (wipeE ρ1 vs) := (Rel.grab (b := b) rD fD gD).wipe hw
      have hoW : Ho (b.hd ⟨takeIn b.T (upd H1 D (.lst [])) [D], b.pin⟩) G1 (m.grab (upd H1 D (.lst [])) [D] none) := ho1.grab fun a ha => by cases List.mem_singleton.mp ha; exact r1.t0 hD
      let J2 : Nat → Hp → Prop := fun i H => ∃ ρ G m T acc accw F ys, Rel K (b.wt m) G H (wipe σ vs) ρ ∧ Ho (b.hd ⟨T, b.pin⟩) G m ∧ Same b.T T ∧ T D = some (.lst acc) ∧ (∀ a ∈ F, T a = H a ∧ b.T a = none) ∧ D ∉ F ∧ Same G1 G ∧ LinAll K G H acc accw F ∧ lcLM vs p fc fe (xs.drop i) ρ = some (ys, ρe) ∧ accw ++ ys = tot
      refine ⟨fun i n H => n = xs.length - i ∧ i ≤ xs.length ∧ J2 i H, ⟨xs.length, by simp, Nat.zero_le _, wipeE ρ1 vs, G1, _, _, [], [], [], tot, rW, hoW, fun a o z => ?_, ?_, (fun a ha => nomatch ha), (fun hm => nomatch hm), Same.refl _, .nil, el, rfl⟩, ?_⟩
      · show takeIn b.T (upd H1 D (.lst [])) [D] a = some o
        unfold takeIn
        rw [if_neg fun hm => by cases List.mem_singleton.mp hm; rw [bD] at z; cases z]
        exact z
      · show takeIn b.T (upd H1 D (.lst [])) [D] D = some (.lst [])
        unfold takeIn
        rw [if_pos (List.mem_singleton_self _), upd_same]
      rintro i n H2 ⟨rfl, hi, ρ2, G2, m2, T2, acc, accw, F, ys, r2, ho2, sT, tD, tF, nD, s2, l2, e2, et⟩
      by_cases hlt : i < xs.length
      · refine .inr ⟨o1.go i H2 (s2.trans r2.le) hlt, fun H => i + 1 ≤ xs.length ∧ J2 (i + 1) H, fun H' z => ⟨xs.length - (i + 1), by omega, rfl, z.1, z.2⟩, fun x H3 y => ?_⟩
        have ed : xs.drop i = xs[i] :: xs.drop (i + 1) := List.drop_eq_getElem_cons hlt
        rw [ed] at e2
        obtain ⟨G3, r3, s3, d3⟩ := o1.step r2 s2 (List.getElem?_eq_getElem hlt) y
        cases e1 : bindP p xs[i] ρ2 with
        | none => simp only [lcLM, e1] at e2; cases e2
        | some ρ3 =>
          simp only [lcLM, e1] at e2
          refine ⟨b.wt m2, rfl, ρ2, G3, xs[i], r3, d3, ρ3, e1, fun σ4 r4 ag => ?_⟩
          have ag' : Agree vs (wipe σ vs) σ4 := ⟨ag.1, fun j hj => ag.2 j fun z => hj (hp j z)⟩
          have ew : wipe σ4 vs = wipe σ vs := wipe_agree ag'
          -- the held cells, whatever stands
          have heldF : ∀ {G4 H4 ρ4 m4}, Rel K (b.wt m4) G4 H4 σ4 ρ4 → Ho (b.hd ⟨T2, b.pin⟩) G4 m4 → Same G2 G4 → LinAll K G4 H4 acc accw F ∧ (∀ a ∈ F, T2 a = H4 a) := fun {G4 H4 ρ4 m4} r4 ho4 s4 => by
            have k : ∀ a ∈ F, H4 a = H2 a ∧ G4 a = none := fun a ha => by
              obtain ⟨_, us, z⟩ := LinAll.own l2 a ha
              have z1 := (ho4.held a (.lst us) (by show T2 a = _; rw [(tF a ha).1]; exact z)).1
              obtain ⟨y1, y2, _⟩ := r4.tmp a _ z1
              exact ⟨by rw [y1, z], y2⟩
            exact ⟨LinAll.frame s4 l2 (fun a ha => (k a ha).1) fun a ha => (k a ha).2, fun a ha => by rw [(k a ha).1]; exact (tF a ha).1⟩
          refine ⟨ew, b.wt m2, rfl, ρ3, G3, r4, ?_⟩
          cases e3 : fc ρ3 with
          | stuck => simp only [e3] at e2; cases e2
          | raise c ρ4 => simp only [e3] at e2; cases e2
          | ok c ρ4 =>
            intro G4 H4 r5 s5
            have ho5 := ho2.mono (s3.trans s5)
            cases c with
            | false =>
              simp only [e3] at e2
              rw [if_neg Bool.false_ne_true]
              obtain ⟨l5, t5⟩ := heldF r5 ho5 (s3.trans s5)
              have r6 := r5.wipe (okB r5)
              rw [ew] at r6
              exact ⟨hlt, wipeE ρ4 vs, G4, m2, T2, acc, accw, F, ys, r6, ho5, sT, tD, fun a ha => ⟨t5 a ha, (tF a ha).2⟩, nD, (s2.trans s3).trans s5, l5, e2, et⟩
            | true =>
              simp only [e3] at e2
              rw [if_pos rfl]
              refine ⟨b.hd ⟨T2, b.pin⟩, rfl, ρ4, G4, ⟨m2, r5, ho5⟩, ?_⟩
              cases e4 : fe ρ4 with
              | stuck => simp only [e4] at e2; cases e2
              | raise c ρ5 => simp only [e4] at e2; cases e2
              | ok sv ρ5 =>
                simp only [e4] at e2
                intro u G5 H5 m5 r6 ho6 s6 d6
                cases e5 : sv.ow? with
                | none => simp only [e5] at e2; cases e2
                | some w =>
                  simp only [e5] at e2
                  obtain ⟨F6, l6, f6⟩ := d6.lin e5
                  cases e6 : lcLM vs p fc fe (xs.drop (i + 1)) (wipeE ρ5 vs) with
                  | none => simp only [e6] at e2; cases e2
                  | some yr =>
                    obtain ⟨ys', ρ6⟩ := yr
                    simp only [e6] at e2
                    cases e2
                    have r6 : Rel K (b.wt m5) G5 H5 σ4 ρ5 := r6
                    obtain ⟨l5, t5⟩ := heldF r6 ho6 ((s3.trans s5).trans s6)
                    obtain ⟨hD1, hD2⟩ := ho6.held D (.lst acc) tD
                    obtain ⟨a1, a2, a3, a4⟩ := r6.tmp D _ hD1
                    have la : acc.length = accw.length := l5.length
                    have lt : accw.length + (ys'.length + 1) = tot.length := by rw [← et, List.length_append, List.length_cons]
                    have g6 : ∀ a ∈ F6, G5 a = none := fun a ha => (Lin.own l6 a ha).1
                    have t6 : ∀ a ∈ F6, m5.T a = none := fun a ha => (f6 a ha).2.1
                    have nD6 : D ∉ F6 := fun hm => by rw [t6 D hm] at hD1; cases hD1
                    have dis : ∀ a ∈ F, a ∉ F6 := fun a ha hm => by
                      obtain ⟨_, us, z⟩ := LinAll.own l5 a ha
                      have z1 := (ho6.held a (.lst us) (by show T2 a = _; rw [t5 a ha]; exact z)).1
                      rw [t6 a hm] at z1; cases z1
                    refine ⟨acc, a1, by omega, hlt, wipeE ρ5 vs, G5, ?_⟩
                    -- the entry's cells are held, too; then the list is written
                    have r7 := Rel.grab (b := b) (o := none) r6 f6 g6
                    have gD7 : (m5.grab H5 F6 none).T D = some (.lst acc) ∧ (m5.grab H5 F6 none).own D = none := by
                      constructor
                      · show takeIn m5.T H5 F6 D = _
                        unfold takeIn; rw [if_neg nD6]; exact hD1
                      · show (if D ∈ F6 then none else m5.own D) = none
                        rw [if_neg nD6]; exact hD2
                    have r8 := Rel.setHeld (ys := acc ++ [u]) r7 gD7.1 gD7.2
                    have r9 := r8.wipe (okB r8)
                    rw [ew] at r9
                    refine ⟨_, upd (takeIn T2 H5 F6) D (.lst (acc ++ [u])), acc ++ [u], accw ++ [w], F ++ F6, ys', r9, ⟨fun a o z => ?_, fun j k q x z => ?_, fun k q x z r0 hr0 => ?_⟩, fun a o z => ?_, upd_same, fun a ha => ?_, fun hm => ?_, ((s2.trans s3).trans s5).trans s6, ?_, e6, by rw [List.append_assoc]; exact et⟩
                    · have z : upd (takeIn T2 H5 F6) D (.lst (acc ++ [u])) a = some o := z
                      show upd (takeIn m5.T H5 F6) D (.lst (acc ++ [u])) a = some o ∧ (if a ∈ F6 then none else m5.own a) = none
                      by_cases c : a = D
                      · subst c
                        rw [upd_same] at z ⊢
                        exact ⟨z, gD7.2⟩
                      · rw [upd_ne c] at z ⊢
                        unfold takeIn at z ⊢
                        by_cases c2 : a ∈ F6
                        · rw [if_pos c2] at z ⊢; rw [if_pos c2]; exact ⟨z, rfl⟩
                        · rw [if_neg c2] at z ⊢; rw [if_neg c2]; exact ho6.held a o z
                    · obtain ⟨r0, y1, y2⟩ := ho6.al j k q x z
                      refine ⟨r0, y1, Nav.keep (m := m5) (fun c o y3 y4 => ?_) y2⟩
                      obtain ⟨y5, y6⟩ := grab_keep (H := H5) (o := none) t6 c o y3 y4
                      exact ⟨(upd_ne fun e => by rw [e, hD2] at y4; cases y4).trans y5, y6⟩
                    · refine Nav.keep (m := m5) (fun c o y3 y4 => ?_) (ho6.pin k q x z r0 hr0)
                      obtain ⟨y5, y6⟩ := grab_keep (H := H5) (o := none) t6 c o y3 y4
                      exact ⟨(upd_ne fun e => by rw [e, hD2] at y4; cases y4).trans y5, y6⟩
                    · rw [upd_ne fun e => by rw [e, bD] at z; cases z]
                      unfold takeIn
                      by_cases c2 : a ∈ F6
                      · have z1 := (ho6.held a o (sT a o z)).1
                        rw [t6 a c2] at z1; cases z1
                      · rw [if_neg c2]; exact sT a o z
                    · rcases List.mem_append.mp ha with ha | ha
                      · have ne : a ≠ D := fun e => nD (e ▸ ha)
                        refine ⟨?_, (tF a ha).2⟩
                        rw [upd_ne ne, upd_ne ne]
                        unfold takeIn
                        rw [if_neg (dis a ha)]; exact t5 a ha
                      · have ne : a ≠ D := fun e => nD6 (e ▸ ha)
                        refine ⟨?_, ?_⟩
                        · rw [upd_ne ne, upd_ne ne]
                          unfold takeIn
                          rw [if_pos ha]
                        · cases z : b.T a with
                          | none => rfl
                          | some o =>
                            have z1 := (ho6.held a o (sT a o z)).1
                            rw [t6 a ha] at z1; cases z1
                    · rcases List.mem_append.mp hm with hm | hm
                      · exact nD hm
                      · exact nD6 hm
                    · have l6' : LinAll K G5 H5 [u] [w] (F6 ++ []) := .cons l6 .nil fun a ha hm => nomatch hm
                      rw [List.append_nil] at l6'
                      refine LinAll.frame (Same.refl _) (LinAll.append l5 l6' dis) (fun a ha => upd_ne fun e => ?_) fun a ha => ?_
                      · rcases List.mem_append.mp ha with ha | ha
                        · exact nD (e ▸ ha)
                        · exact nD6 (e ▸ ha)
                      · rcases List.mem_append.mp ha with ha | ha
                        · exact (LinAll.own l5 a ha).1
                        · exact g6 a ha
      · have e : i = xs.length := by omega
        subst e
        rw [List.drop_length] at e2
        unfold lcLM at e2
        cases e2
        rw [List.append_nil] at et
        subst et
        obtain ⟨hD1, hD2⟩ := ho2.held D (.lst acc) tD
        obtain ⟨a1, a2, a3, a4⟩ := r2.tmp D _ hD1
        have oF : ∀ a ∈ D :: F, m2.own a = none := fun a ha => by
          rcases List.mem_cons.mp ha with rfl | ha
          · exact hD2
          · obtain ⟨_, us, z⟩ := LinAll.own l2 a ha
            exact (ho2.held a (.lst us) (by show T2 a = _; rw [(tF a ha).1]; exact z)).2
        have bF : ∀ a ∈ D :: F, b.T a = none := fun a ha => by
          rcases List.mem_cons.mp ha with rfl | ha
          · exact bD
          · exact (tF a ha).2
        have r3 := Rel.drop (b := b) (F := D :: F) r2 oF
        have ho3 : Ho b G2 (m2.drop (D :: F)) := ho2.less sT bF oF fun _ h => h
        obtain ⟨r9, ob⟩ := Rel.backM (b := b) r1 r3 s2 hw
        refine .inl ⟨o1.stop _ H2 (s2.trans r2.le) (Nat.le_refl _), q _ G2 H2 _ r9 ho3 (s1.trans s2) ⟨D :: F, .lst a1 a2 l2 nD, fun a ha => ?_⟩⟩
        refine ⟨?_, by show (if a ∈ D :: F then none else m2.T a) = none; rw [if_pos ha], ?_⟩
        · rcases List.mem_cons.mp ha with rfl | ha
          · exact a3
          · obtain ⟨_, us, z⟩ := LinAll.own l2 a ha
            exact (r2.tmp a _ (ho2.held a (.lst us) (by show T2 a = _; rw [(tF a ha).1]; exact z)).1).2.2.1
        · intro j z
          rcases List.mem_cons.mp ha with rfl | ha
          · exact a4 j (ob j _ z)
          · obtain ⟨_, us, y⟩ := LinAll.own l2 a ha
            exact (r2.tmp a _ (ho2.held a (.lst us) (by show T2 a = _; rw [(tF a ha).1]; exact y)).1).2.2.2 j (ob j _ z)
theorem me_lc {elt tg iter : Expr} {ifs : List Expr} {scope : Scope} {own : List (Str × Nat)} {pos : Pos} {src : Ev → RI} {p : Pat} {fc : Ev → RT} {fe : Ev → RE} (hc : X.calm = true) (hN : X.N.Nodup) (hp : ∀ i ∈ pvars p, i ∈ own.map (·.2)) (hi : ∀ m, PI X tg iter (tI X.K (b.wt m) W src)) (ok : BlkOk X.N X.env.scope scope own)
    (hg : ∀ (s : Shared) (H : Hp) (C : Addr) (cs : List (Str × Addr)) (fp : List Addr) (b' : Bx), b'.cl = b.cl → PG (Blk X s H scope cs C fp) tg (gP X.K b' p))
    (ht : ∀ (s : Shared) (H : Hp) (C : Addr) (cs : List (Str × Addr)) (fp : List Addr) (b' : Bx), b'.cl = b.cl → PTs (Blk X s H scope cs C fp) ifs (tT X.K b' W0 fc))
    (he : ∀ (s : Shared) (H : Hp) (C : Addr) (cs : List (Str × Addr)) (fp : List Addr) (b' : Bx), b'.cl = b.cl → PE (Blk X s H scope cs C fp) elt (tEM X.K b' W0 fe)) (hs : ∀ x, foldedSetIterable iter X.env x = pure x := by intro _; rfl) :
    PE X (.ListComp elt [⟨tg, iter, ifs, 0⟩] scope pos) (tEM X.K b W (fLcM src (own.map (·.2)) p fc fe)) :=
  PE.imp (pe_lc hc hN (pi_ex hi) ok (fun s H C cl fp => PG.ex (hg s H C cl fp)) (fun s H C cl fp => PTs.ex (ht s H C cl fp)) (fun s H C cl fp => PE.exM (he s H C cl fp)) hs) (lcM_post hp)
theorem m_setLc {i : Nat} {y : Str} {py : Pos} {elt tg iter : Expr} {ifs : List Expr} {scope : Scope} {own : List (Str × Nat)} {pos spos : Pos} {src : Ev → RI} {p : Pat} {fc : Ev → RT} {fe : Ev → RE} {ps : Pins} (hpin : b.pins = ps) (hc : X.calm = true) (hN : X.N.Nodup) (hy : X.N[i]? = some y) (hyl : X.env.scope.names.lookup y = some .local)
    (hsw : swapsWith (.ListComp elt [⟨tg, iter, ifs, 0⟩] scope pos) (some (.Name y py)) spos.line X.env = pure true) (hp : ∀ i ∈ pvars p, i ∈ own.map (·.2)) (hi : ∀ m, PI X tg iter (tI X.K (b.wt m) W src)) (ok : BlkOk X.N X.env.scope scope own)
    (hg : ∀ (s : Shared) (H : Hp) (C : Addr) (cs : List (Str × Addr)) (fp : List Addr) (b' : Bx), b'.cl = b.cl → PG (Blk X s H scope cs C fp) tg (gP X.K b' p))
    (ht : ∀ (s : Shared) (H : Hp) (C : Addr) (cs : List (Str × Addr)) (fp : List Addr) (b' : Bx), b'.cl = b.cl → PTs (Blk X s H scope cs C fp) ifs (tT X.K b' W0 fc))
    (he : ∀ (s : Shared) (H : Hp) (C : Addr) (cs : List (Str × Addr)) (fp : List Addr) (b' : Bx), b'.cl = b.cl → PE (Blk X s H scope cs C fp) elt (tEM X.K b' W0 fe)) (hs : ∀ x, foldedSetIterable iter X.env x = pure x := by intro _; rfl) :
    PS X (.Assign [.Name y py] (.ListComp elt [⟨tg, iter, ifs, 0⟩] scope pos) spos) (tM X.K b W (fSetM ps i (fLcM src (own.map (·.2)) p fc fe))) :=
  PS.imp (ps_setLc hc hN hy hyl hsw (pi_ex hi) ok (fun s H C cl fp => PG.ex (hg s H C cl fp)) (fun s H C cl fp => PTs.ex (ht s H C cl fp)) (fun s H C cl fp => PE.exM (he s H C cl fp)) hs) fun D σ H ⟨ρ, G, r, q⟩ => by
    refine lcM_post hp σ H _ (stepSM r q fun v H1 ρ1 G1 sv m r1 ho1 s1 d1 q1 => ?_)
    obtain ⟨c, q1⟩ := postM_if q1
    cases sv with
    | on w =>
      obtain ⟨F, l, f⟩ := d1
      exact q1 _ _ _ (Rel.assignM r1 ho1 (pinS_of hpin c.2) l f c.1) (Same.refl _)
    | ow l =>
      obtain ⟨F, l, f⟩ := d1.lin rfl
      exact q1 _ _ _ (Rel.assignM r1 ho1 (pinS_of hpin c.2) l f c.1) (Same.refl _)
    | _ => exact q1 _ _ _ ⟨m, r1.assign d1 c.1, ho1⟩ (Same.refl _)
/-- x = [..], what is one's own looked at -/
theorem s_setLcB {i : Nat} {y : Str} {py : Pos} {elt tg iter : Expr} {ifs : List Expr} {scope : Scope} {own : List (Str × Nat)} {pos spos : Pos} {src : Ev → RI} {p : Pat} {fc : Ev → RT} {fe : Ev → RE} (hc : X.calm = true) (hN : X.N.Nodup) (hy : X.N[i]? = some y) (hyl : X.env.scope.names.lookup y = some .local)
    (hsw : swapsWith (.ListComp elt [⟨tg, iter, ifs, 0⟩] scope pos) (some (.Name y py)) spos.line X.env = pure true) (hp : ∀ i ∈ pvars p, i ∈ own.map (·.2)) (hi : ∀ b' : Bx, b'.cl = b.cl → PI X tg iter (tI X.K b' W src)) (ok : BlkOk X.N X.env.scope scope own)
    (hg : ∀ (s : Shared) (H : Hp) (C : Addr) (cs : List (Str × Addr)) (fp : List Addr) (b' : Bx), b'.cl = b.cl → PG (Blk X s H scope cs C fp) tg (gP X.K b' p))
    (ht : ∀ (s : Shared) (H : Hp) (C : Addr) (cs : List (Str × Addr)) (fp : List Addr) (b' : Bx), b'.cl = b.cl → PTs (Blk X s H scope cs C fp) ifs (tT X.K b' W0 fc))
    (he : ∀ (s : Shared) (H : Hp) (C : Addr) (cs : List (Str × Addr)) (fp : List Addr) (b' : Bx), b'.cl = b.cl → PE (Blk X s H scope cs C fp) elt (tE X.K b' W0 fe)) (hs : ∀ x, foldedSetIterable iter X.env x = pure x := by intro _; rfl) :
    PS X (.Assign [.Name y py] (.ListComp elt [⟨tg, iter, ifs, 0⟩] scope pos) spos) (tS X.K b W (fSet i (fBor (fLc src (own.map (·.2)) p fc fe)))) :=
  PS.imp (ps_setLc hc hN hy hyl hsw (⟨fun pins s σ H R I ⟨b', e, q⟩ => (hi b' e).run pins s σ H R I q⟩ : PI X tg iter (fun σ H R => ∃ b' : Bx, b'.cl = b.cl ∧ tI X.K b' W src σ H R)) ok (fun s H C cl fp => PG.ex (hg s H C cl fp)) (fun s H C cl fp => PTs.ex (ht s H C cl fp)) (fun s H C cl fp => PE.ex (he s H C cl fp)) hs) fun D σ H ⟨ρ, G, r, q⟩ => by
    obtain ⟨b', eb, z⟩ := bor_post σ H _ (stepS r q fun v H1 ρ1 G1 sv r1 s1 d1 q1 => by
      obtain ⟨c, q1⟩ := postS_if q1
      exact q1 _ _ _ (r1.assign d1 c) (Same.refl _))
    have y := lc_post hp σ H _ z
    rw [eb] at y
    exact ⟨b', eb, y⟩
end
end Dl
set_option maxHeartbeats 4000000
/-! DlM: structures of one's own, computed by simp. -/
namespace Dl
open PySem PySem.Spec L2
def borO : RE → Ev → RE
  | .ok (.d x) _, ρ => if lf x = true then .ok (.d x) ρ else .stuck
  | .ok (.ow l) _, ρ => if lfs l = true then .ok (.ow l) ρ else .stuck
  | .raise c _, ρ => .raise c ρ
  | _, _ => .stuck
def borTO : RT → Ev → RT
  | .ok c _, ρ => .ok c ρ
  | .raise c _, ρ => .raise c ρ
  | .stuck, _ => .stuck
def pnO : Option (Option Sv) → Nat → Ev → RP
  | some (some (.on _)), j, ρ => .ok j [] ρ
  | some (some (.al i p)), _, ρ => .ok i p ρ
  | _, _, _ => .stuck
def pxJ (i : Nat) (p : List Nat) (ρ : Ev) : Option Nat → RP
  | some k => .ok i (p ++ [k]) ρ
  | none => .stuck
def pxL (i : Nat) (p : List Nat) (n : Int) (ρ : Ev) : Option Nat → RP
  | some l => pxJ i p ρ (ixN l n)
  | none => .stuck
def pxK (i : Nat) (p : List Nat) : RE → RP
  | .ok (.d (.int n)) ρ => pxL i p n ρ (lenP ρ i p)
  | .raise c ρ => .raise c ρ
  | _ => .stuck
def RP.px (r : RP) (fk : Ev → RE) : RP := match r with
  | .ok i p ρ => pxK i p (fk ρ)
  | r => r
def lenA : Option Ow → Option Nat
  | some (.lst zs) => some zs.length
  | some (.tup zs) => some zs.length
  | _ => none
def lenO : Option (Option Sv) → List Nat → Option Nat
  | some (some (.on w)), p => lenA (w.at p)
  | _, _ => none
def onO : Option (Option Sv) → Option Ow
  | some (some (.on w)) => some w
  | _ => none
def lstA (w : Ow) : Option Ow → Option (Ow × List Ow)
  | some (.lst zs) => some (w, zs)
  | _ => none
def orLW : Option (Ow × List Ow) → RS → RS | some _, r => r | none, _ => .stuck
def appPO (ps : Pins) (i : Nat) (p : List Nat) (ρ : Ev) : Option Ow → Option (Ow × List Ow) → RS
  | some w1, some (w, zs) => if zs.length < sizeLine ∧ pinP ps i p = true then .next (putP ρ i p w (zs ++ [w1])) else .stuck
  | _, _ => .stuck
def RP.app (ps : Pins) (r : RP) (f : Ev → RE) : RS := match r with
  | .ok i p ρ1 => orLW (lstAt ρ1 i p) ((f ρ1).toS (appP ps i p))
  | .raise c ρ1 => .raise c ρ1
  | .stuck => .stuck
def clrO (ps : Pins) (i : Nat) (p : List Nat) (ρ : Ev) : Option (Ow × List Ow) → RS
  | some (w, _) => if pinP ps i p = true then .next (putP ρ i p w []) else .stuck
  | none => .stuck
def RP.clr (ps : Pins) : RP → RS
  | .ok i p ρ1 => clrO ps i p ρ1 (lstAt ρ1 i p)
  | .raise c ρ1 => .raise c ρ1
  | .stuck => .stuck
def amO (fs : List (Ev → RE)) (k : List Ow → Ev → RE) (ρ1 : Ev) : Option Ow → RE
  | some w => runAM fs ρ1 fun ws ρ2 => k (w :: ws) ρ2
  | none => .stuck
def amR (fs : List (Ev → RE)) (k : List Ow → Ev → RE) : RE → RE
  | .ok sv ρ1 => amO fs k ρ1 sv.ow?
  | .raise c ρ1 => .raise c ρ1
  | .stuck => .stuck
def mvO (i : Nat) (ρ : Ev) : Option (Option Sv) → RE
  | some (some (.on w)) => .ok (.on w) (kill (into i) (ρ.set i none))
  | _ => fMove i ρ
def callMO : Out → List Nat → Ev → RE
  | .ok sv out, is, ρ => .ok sv (putR ρ is out)
  | .raise c out, is, ρ => .raise c (putR ρ is out)
  | .stuck, _, _ => .stuck
def callMS (F : Fn) : Option (List Sv) → List Nat → Ev → RE
  | some svs, is, ρ => if is.length ≤ 1 then callMO (F svs) is ρ else .stuck
  | none, _, _ => .stuck
def callMK (F : Fn) (n : Nat) (xs : List AV) (ρ : Ev) : RE := if xs.length = n then callMS F (seen ρ xs) (refs xs) ρ else .stuck
def lcMO (vs : List Nat) (ρ1 : Ev) : Option (List Ow × Ev) → RE | some (ys, ρ2) => if ys.length ≤ sizeLine then .ok (.on (.lst ys)) (backE ρ1 ρ2 vs) else .stuck | none => .stuck
def RI.lcMK (r : RI) (vs : List Nat) (p : Pat) (fc : Ev → RT) (fe : Ev → RE) : RE := match r with
  | .ok xs ρ1 => if okW ρ1 vs = true then lcMO vs ρ1 (lcLM vs p fc fe xs (wipeE ρ1 vs)) else .stuck
  | .raise c ρ1 => .raise c ρ1
  | .stuck => .stuck
def RP.alS (r : RP) (j : Nat) : RS := match r with
  | .ok i p ρ1 => if rfAt ρ1 j = false then .next (ρ1.set j (some (.al i p))) else .stuck
  | .raise c ρ1 => .raise c ρ1
  | .stuck => .stuck
def catK (ρ : Ev) : Ow → Ow → RE
  | .lst xs, .lst ys => if xs.length + ys.length ≤ sizeLine then .ok (.on (.lst (xs ++ ys))) ρ else .stuck
  | _, _ => .stuck
def putA (ws : List Ow) (i : Nat) (p : List Nat) (z : Ow) : Option Ow → List Ow
  | some w => ws.set i (w.put p z)
  | none => ws
namespace S
variable {ρ ρ1 : Ev} {f : Ev → RE} {i j c : Nat} {x : D} {l : List D} {w z : Ow} {ws zs : List Ow} {p : List Nat} {sv : Sv} {fp : Ev → RP} {fk : Ev → RE} {n : Int} {P : Nat → List Nat → Bool} {ps : Pins}
theorem fBor_eq : fBor f ρ = borO (f (frz ρ)) ρ := by
  unfold fBor borO
  cases f (frz ρ) with
  | ok sv ρ1 => cases sv <;> rfl
  | _ => rfl
theorem bor_d : borO (.ok (.d x) ρ1) ρ = if lf x = true then .ok (.d x) ρ else .stuck := nrfl
theorem bor_ow : borO (.ok (.ow l) ρ1) ρ = if lfs l = true then .ok (.ow l) ρ else .stuck := nrfl
theorem bor_r : borO (.raise c ρ1) ρ = .raise c ρ := nrfl
theorem fBorT_eq {g : Ev → RT} : fBorT g ρ = borTO (g (frz ρ)) ρ := by
  unfold fBorT borTO
  cases g (frz ρ) <;> rfl
theorem borT_ok {b : Bool} : borTO (.ok b ρ1) ρ = .ok b ρ := nrfl
theorem borT_r : borTO (.raise c ρ1) ρ = .raise c ρ := nrfl
theorem frz_nil : frz [] = [] := nrfl
theorem frz_cons {s} : frz (s :: ρ) = frz1 s :: frz ρ := nrfl
theorem frz1_n : frz1 none = none := nrfl
theorem frz1_d : frz1 (some (.d x)) = some (.d x) := nrfl
theorem frz1_ow : frz1 (some (.ow l)) = some (.d (.list l)) := nrfl
theorem frz1_rf : frz1 (some (.rf l)) = some (.d (.list l)) := nrfl
theorem frz1_on : frz1 (some (.on w)) = some (.d w.toD) := nrfl
theorem frz1_al : frz1 (some (.al i p)) = none := nrfl
theorem frz1_ex : frz1 (some (.ex c)) = some (.ex c) := nrfl
theorem frz1_fz : frz1 (some (.fz l)) = some (.fz l) := nrfl
theorem lf_int : lf (.int n) = true := by rw [lf] <;> (intros; contradiction)
theorem lf_str {s} : lf (.str s) = true := by rw [lf] <;> (intros; contradiction)
theorem lf_bool {s} : lf (.bool s) = true := by rw [lf] <;> (intros; contradiction)
theorem lf_none : lf .none = true := by rw [lf] <;> (intros; contradiction)
theorem lf_tup : lf (.tuple l) = lfs l := by rw [lf]
theorem lfs_nil : lfs [] = true := by rw [lfs]
theorem lfs_cons : lfs (x :: l) = (lf x && lfs l) := by rw [lfs]
theorem toD_dat : (Ow.dat x).toD = x := by rw [Ow.toD]
theorem toD_lst : (Ow.lst ws).toD = .list (Ow.allD ws) := by rw [Ow.toD]
theorem toD_tup : (Ow.tup ws).toD = .tuple (Ow.allD ws) := by rw [Ow.toD]
theorem allD_nil : Ow.allD [] = [] := by rw [Ow.allD]
theorem allD_cons : Ow.allD (w :: ws) = w.toD :: Ow.allD ws := by rw [Ow.allD]
theorem allD_len : (Ow.allD ws).length = ws.length := by rw [Ow.allD_map, List.length_map]
theorem allD_dats : Ow.allD (l.map .dat) = l := by
  induction l with
  | nil => rw [List.map_nil, Ow.allD]
  | cons x l ih => rw [List.map_cons, Ow.allD, Ow.toD, ih]
theorem allD_app : Ow.allD (ws ++ zs) = Ow.allD ws ++ Ow.allD zs := by rw [Ow.allD_map, Ow.allD_map, Ow.allD_map, List.map_append]
theorem fSetM_eq : fSetM ps i f ρ = (f ρ).toS fun sv ρ1 => if rfAt ρ1 i = false ∧ pinS ps i = true then .next (setM ρ1 i sv) else .stuck := nrfl
theorem setM_on : setM ρ i (.on w) = (kill (into i) ρ).set i (some (.on w)) := nrfl
theorem setM_d : setM ρ i (.d x) = ρ.set i (some (.d x)) := nrfl
theorem setM_ow : setM ρ i (.ow l) = (kill (into i) ρ).set i (some (.on (.lst (l.map .dat)))) := nrfl
theorem kill_nil : kill P [] = [] := nrfl
theorem kill_cons {s} : kill P (s :: ρ) = kill1 P s :: kill P ρ := nrfl
theorem kill1_n : kill1 P none = none := nrfl
theorem kill1_d : kill1 P (some (.d x)) = some (.d x) := nrfl
theorem kill1_ow : kill1 P (some (.ow l)) = some (.ow l) := nrfl
theorem kill1_rf : kill1 P (some (.rf l)) = some (.rf l) := nrfl
theorem kill1_on : kill1 P (some (.on w)) = some (.on w) := nrfl
theorem kill1_al : kill1 P (some (.al i p)) = if P i p = true then none else some (.al i p) := nrfl
theorem kill1_ex : kill1 P (some (.ex c)) = some (.ex c) := nrfl
theorem kill1_fz : kill1 P (some (.fz l)) = some (.fz l) := nrfl
theorem into_eq : into i j p = (j == i) := nrfl
theorem thru_eq {q} : thru i p j q = (j == i && !(q.isPrefixOf p)) := nrfl
theorem fPn_eq : fPn j ρ = pnO ρ[j]? j ρ := by
  unfold fPn pnO
  split <;> simp_all
theorem pn_on : pnO (some (some (.on w))) j ρ = .ok j [] ρ := nrfl
theorem pn_al : pnO (some (some (.al i p))) j ρ = .ok i p ρ := nrfl
theorem fPx_eq : fPx fp fk ρ = (fp ρ).px fk := by
  unfold fPx RP.px
  cases fp ρ with
  | ok i p ρ1 =>
    dsimp only
    unfold pxK
    cases fk ρ1 with
    | ok sv ρ2 =>
      cases sv with
      | d x =>
        cases x with
        | int n => dsimp only; unfold pxL; cases lenP ρ2 i p <;> first | rfl | (dsimp only; unfold pxJ; rfl)
        | _ => rfl
      | _ => rfl
    | _ => rfl
  | _ => rfl
theorem px_ok : (RP.ok i p ρ).px fk = pxK i p (fk ρ) := nrfl
theorem px_i : pxK i p (.ok (.d (.int n)) ρ) = pxL i p n ρ (lenP ρ i p) := nrfl
theorem px_l {k : Nat} : pxL i p n ρ (some k) = pxJ i p ρ (ixN k n) := nrfl
theorem px_j {k : Nat} : pxJ i p ρ (some k) = .ok i (p ++ [k]) ρ := nrfl
theorem lenP_eq : lenP ρ i p = lenO ρ[i]? p := by
  unfold lenP lenO
  split <;> first | rfl | (split <;> simp_all [lenA])
theorem lenO_on : lenO (some (some (.on w))) p = lenA (w.at p) := nrfl
theorem lenA_l : lenA (some (.lst ws)) = some ws.length := nrfl
theorem lenA_t : lenA (some (.tup ws)) = some ws.length := nrfl
theorem at_nil : w.at [] = some w := by cases w <;> rfl
theorem at_l : (Ow.lst ws).at (i :: p) = (ws[i]?).bind fun w => w.at p := by rw [Ow.at]
theorem at_t : (Ow.tup ws).at (i :: p) = (ws[i]?).bind fun w => w.at p := by rw [Ow.at]
theorem put_nil : w.put [] z = z := by cases w <;> rfl
theorem put_l : (Ow.lst ws).put (i :: p) z = .lst (putA ws i p z ws[i]?) := by
  rw [Ow.put]; unfold putA; cases ws[i]? <;> rfl
theorem put_t : (Ow.tup ws).put (i :: p) z = .tup (putA ws i p z ws[i]?) := by
  rw [Ow.put]; unfold putA; cases ws[i]? <;> rfl
theorem putA_s : putA ws i p z (some w) = ws.set i (w.put p z) := nrfl
theorem lstAt_eq : lstAt ρ i p = (onO ρ[i]?).bind fun w => lstA w (w.at p) := by
  unfold lstAt onAt onO
  congr 1
theorem onO_s : onO (some (some (.on w))) = some w := nrfl
theorem lstA_s : lstA w (some (.lst zs)) = some (w, zs) := nrfl
theorem putP_eq : putP ρ i p w zs = (kill (thru i p) ρ).set i (some (.on (w.put p (.lst zs)))) := nrfl
theorem orLW_s {a r} : orLW (some a) r = r := nrfl
theorem fAppP_eq : fAppP ps fp f ρ = RP.app ps (fp ρ) f := by
  unfold fAppP RP.app
  cases fp ρ with
  | ok i p ρ1 => dsimp only; unfold orLW; cases lstAt ρ1 i p <;> rfl
  | _ => rfl
theorem appP_ok : RP.app ps (RP.ok i p ρ) f = orLW (lstAt ρ i p) ((f ρ).toS (appP ps i p)) := nrfl
theorem appP_eq : appP ps i p sv ρ = appPO ps i p ρ sv.ow? (lstAt ρ i p) := by
  unfold appP appPO
  cases sv.ow? <;> cases lstAt ρ i p <;> rfl
theorem appPO_s : appPO ps i p ρ (some z) (some (w, zs)) = if zs.length < sizeLine ∧ pinP ps i p = true then .next (putP ρ i p w (zs ++ [z])) else .stuck := nrfl
theorem ow_d : Sv.ow? (.d x) = some (.dat x) := nrfl
theorem ow_ow : Sv.ow? (.ow l) = some (.lst (l.map .dat)) := nrfl
theorem ow_on : Sv.ow? (.on w) = some w := nrfl
theorem fClrP_eq : fClrP ps fp ρ = RP.clr ps (fp ρ) := by
  unfold fClrP RP.clr
  cases fp ρ with
  | ok i p ρ1 => dsimp only; unfold clrO; cases lstAt ρ1 i p <;> rfl
  | _ => rfl
theorem clr_ok : RP.clr ps (RP.ok i p ρ) = clrO ps i p ρ (lstAt ρ i p) := nrfl
theorem clrO_s : clrO ps i p ρ (some (w, zs)) = if pinP ps i p = true then .next (putP ρ i p w []) else .stuck := nrfl
theorem pinS_n : pinS [] i = true := nrfl
theorem pinS_c {x : Nat × List Nat} : pinS (x :: ps) i = (x.1 != i && pinS ps i) := nrfl
theorem pinP_n : pinP [] i p = true := nrfl
theorem pinP_c {x : Nat × List Nat} : pinP (x :: ps) i p = ((x.1 != i || x.2.isPrefixOf p) && pinP ps i p) := nrfl
theorem am_nil {k} : runAM [] ρ k = k [] ρ := nrfl
theorem am_cons {k} {fs : List (Ev → RE)} : runAM (f :: fs) ρ k = amR fs k (f ρ) := by
  unfold amR
  rw [runAM]
  cases f ρ with
  | ok sv ρ1 => dsimp only; unfold amO; cases sv.ow? <;> rfl
  | _ => rfl
theorem am_ok {k} {fs : List (Ev → RE)} : amR fs k (.ok sv ρ) = amO fs k ρ sv.ow? := nrfl
theorem am_r {k} {fs : List (Ev → RE)} : amR fs k (.raise c ρ) = .raise c ρ := nrfl
theorem am_s {k} {fs : List (Ev → RE)} : amO fs k ρ (some w) = runAM fs ρ fun ws ρ2 => k (w :: ws) ρ2 := nrfl
theorem fTupM_eq {fs : List (Ev → RE)} : fTupM fs ρ = runAM fs ρ fun ws ρ1 => if ws.length ≤ sizeLine then .ok (.on (.tup ws)) ρ1 else .stuck := nrfl
theorem fLstM_eq {fs : List (Ev → RE)} : fLstM fs ρ = runAM fs ρ fun ws ρ1 => if ws.length ≤ sizeLine then .ok (.on (.lst ws)) ρ1 else .stuck := nrfl
theorem fCatM_eq {g : Ev → RE} : fCatM f g ρ = runAM [f, g] ρ fun ws ρ1 => match ws with
  | [a, b] => catK ρ1 a b
  | _ => .stuck := by
  unfold fCatM
  congr 1
  funext ws ρ1
  match ws with
  | [] => rfl
  | [a] => cases a <;> rfl
  | [a, b] => cases a <;> cases b <;> rfl
  | a :: b :: c :: ws => cases a <;> cases b <;> rfl
theorem catK_s : catK ρ (.lst ws) (.lst zs) = if ws.length + zs.length ≤ sizeLine then .ok (.on (.lst (ws ++ zs))) ρ else .stuck := nrfl
theorem fMvM_eq : fMvM i ρ = mvO i ρ ρ[i]? := by
  unfold fMvM mvO
  split <;> simp_all
theorem mv_on : mvO i ρ (some (some (.on w))) = .ok (.on w) (kill (into i) (ρ.set i none)) := nrfl
theorem mv_d : mvO i ρ (some (some (.d x))) = fMove i ρ := nrfl
theorem mv_ow : mvO i ρ (some (some (.ow l))) = fMove i ρ := nrfl
theorem fCallM_eq {F : Fn} {as : List Ar} : fCallM F as ρ = runArgs as ρ (callMK F as.length) := by
  unfold fCallM
  congr 1
  funext xs ρ1
  unfold callMK callMS
  split
  · cases seen ρ1 xs with
    | none => rfl
    | some svs =>
      dsimp only
      split
      · unfold callMO; cases F svs <;> rfl
      · rfl
  · rfl
theorem callMK_eq {F : Fn} {k : Nat} {xs : List AV} : callMK F k xs ρ = if xs.length = k then callMS F (seen ρ xs) (refs xs) ρ else .stuck := nrfl
theorem callMS_s {F : Fn} {svs is} : callMS F (some svs) is ρ = if is.length ≤ 1 then callMO (F svs) is ρ else .stuck := nrfl
theorem callMO_ok {is} : callMO (.ok sv l) is ρ = .ok sv (putR ρ is l) := nrfl
theorem callMO_r {is} : callMO (.raise c l) is ρ = .raise c (putR ρ is l) := nrfl
theorem fLcM_eq {s vs p fc fe} : fLcM s vs p fc fe ρ = (s ρ).lcMK vs p fc fe := by
  unfold fLcM RI.lcMK
  cases s ρ with
  | ok xs ρ1 =>
    dsimp only
    by_cases h : okW ρ1 vs = true
    · rw [if_pos h, if_pos h]
      unfold lcMO
      rfl
    · rw [if_neg h, if_neg h]
  | _ => rfl
theorem lcMK_ok {vs p fc fe} : (RI.ok l ρ).lcMK vs p fc fe = if okW ρ vs = true then lcMO vs ρ (lcLM vs p fc fe l (wipeE ρ vs)) else .stuck := nrfl
theorem lcMO_s {vs} {ρ2 : Ev} : lcMO vs ρ1 (some (ws, ρ2)) = if ws.length ≤ sizeLine then .ok (.on (.lst ws)) (backE ρ1 ρ2 vs) else .stuck := nrfl
theorem fAl_eq : fAl j fp ρ = (fp ρ).alS j := by
  unfold fAl RP.alS
  cases fp ρ <;> rfl
theorem al_ok : (RP.ok i p ρ).alS j = if rfAt ρ j = false then .next (ρ.set j (some (.al i p))) else .stuck := nrfl
theorem rf_on : rfAt (some (.on w) :: ρ) 0 = false := nrfl
theorem rf_al : rfAt (some (.al i p) :: ρ) 0 = false := nrfl
theorem rfOf_on : rfOf (some (.on w) :: ρ) = rfOf ρ := by rw [rfOf]; intro l h; injection h; contradiction
theorem rfOf_al : rfOf (some (.al i p) :: ρ) = rfOf ρ := by rw [rfOf]; intro l h; injection h; contradiction
theorem keep_on : keepS (some (some (.on w))) = none := nrfl
theorem keep_al : keepS (some (some (.al i p))) = none := nrfl
end S
end Dl
set_option maxHeartbeats 2000000
/-! DlY: neat data: compared and shown. -/
namespace Dl
open PySem
mutual
/-- small ints, short texts, no dict -/
def neat : D → Bool
  | .none => true
  | .bool _ => true
  | .int i => decide (i.natAbs < 10 ^ 60)
  | .str s => decide ((reprText s).length ≤ 60) && PyData.strOk s
  | .list xs => neats xs
  | .tuple xs => neats xs
  | .dict _ => false
def neats : List D → Bool
  | [] => true
  | x :: xs => neat x && neats xs
end
theorem neat_t {xs : List D} : neat (.tuple xs) = neats xs := by rw [neat]
theorem neat_l {xs : List D} : neat (.list xs) = neats xs := by rw [neat]
theorem neats_n : neats [] = true := by rw [neats]
theorem neats_c {x : D} {xs : List D} : neats (x :: xs) = (neat x && neats xs) := by rw [neats]
mutual
/-- no less than the signs that it is shown by -/
def cost : D → Nat
  | .list xs => 4 + costs xs
  | .tuple xs => 4 + costs xs
  | .none => 62
  | .bool _ => 62
  | .int _ => 62
  | .str _ => 62
  | .dict _ => 0
def costs : List D → Nat
  | [] => 0
  | x :: xs => cost x + 2 + costs xs
end
theorem textFrom_le : ∀ (ts : List Str) (k : Nat) (acc : Str), (textFrom k acc ts).length ≤ acc.length + (ts.map fun t => t.length + 2).sum
  | [], k, acc => by simp [textFrom]
  | t :: r, k, acc => by
    have ih := textFrom_le r (k + 1) (acc ++ (if k > 0 then ", " else "" : String) ++ t)
    have e : (textFrom k acc (t :: r)) = textFrom (k + 1) (acc ++ (if k > 0 then ", " else "" : String) ++ t) r := rfl
    rw [e]
    have l : (acc ++ ((if k > 0 then ", " else "" : String) : Str) ++ t).length ≤ acc.length + 2 + t.length := by
      rw [Str.length_append, Str.length_append]
      have : (((if k > 0 then ", " else "" : String) : Str)).length ≤ 2 := by split <;> decide +kernel
      omega
    simp only [List.map_cons, List.sum_cons]
    omega
theorem listText_le (ts : List Str) : (listText ts).length ≤ 4 + (ts.map fun t => t.length + 2).sum := by
  have h := textFrom_le ts 0 "["
  unfold listText
  rw [Str.length_append]
  have e1 : ((("[" : String) : Str)).length = 1 := by decide +kernel
  have e2 : ((("]" : String) : Str)).length = 1 := by decide +kernel
  omega
theorem tupleText_le (ts : List Str) : (tupleText ts).length ≤ 4 + (ts.map fun t => t.length + 2).sum := by
  have h := StrLaws.join_length_le ", " ts
  have e1 : ((("(" : String) : Str)).length = 1 := by decide +kernel
  have e2 : (((", " : String) : Str)).length = 2 := by decide +kernel
  have e3 : (((if ts.length == 1 then ",)" else ")" : String) : Str)).length ≤ 2 := by split <;> decide +kernel
  have e4 : ∀ l : List Str, (l.map (·.length)).sum + l.length * 2 = (l.map fun t => t.length + 2).sum := fun l => by
    induction l with
    | nil => rfl
    | cons x l ih => simp only [List.map_cons, List.sum_cons, List.length_cons, Nat.succ_mul]; omega
  have e5 := e4 ts
  unfold tupleText
  rw [Str.length_append, Str.length_append]
  rw [e2] at h
  omega
mutual
theorem shown_le : ∀ x : D, neat x = true → (PyData.shown x).length ≤ cost x ∧ PyData.showable x = true ∧ PyData.hasDict x = false ∧ PyData.canLay0 x = true
  | .none, _ => ⟨by decide +kernel, rfl, rfl, rfl⟩
  | .bool b, _ => ⟨by cases b <;> decide +kernel, rfl, rfl, rfl⟩
  | .int i, h => by
    have h : i.natAbs < 10 ^ 60 := by simpa [neat] using h
    refine ⟨?_, ?_, rfl, rfl⟩
    · show ((toString i : String) : Str).length ≤ 62
      rw [str_nt, S_len]
      have := nt_len (i := i) (k := 60) (by decide) h
      omega
    · show decide (i.natAbs.log2 < 1920) = true
      exact decide_eq_true (Nat.lt_trans (log_le (Nat.lt_of_lt_of_le h (by decide +kernel : 10 ^ 60 ≤ 2 ^ 200)) (by decide)) (by decide))
  | .str s, h => by
    have h : (reprText s).length ≤ 60 ∧ PyData.strOk s = true := by simpa [neat] using h
    exact ⟨Nat.le_trans h.1 (show 60 ≤ 62 by decide), rfl, rfl, h.2⟩
  | .list xs, h => by
    have h : neats xs = true := by simpa [neat] using h
    obtain ⟨h1, h2, h3, h4⟩ := showns_le xs h
    refine ⟨?_, by rw [PyData.showable]; exact h2, by rw [PyData.hasDict]; exact h3, by rw [PyData.canLay0]; exact h4⟩
    rw [PyData.shown, cost]
    have := listText_le (PyData.shownAll xs)
    omega
  | .tuple xs, h => by
    have h : neats xs = true := by simpa [neat] using h
    obtain ⟨h1, h2, h3, h4⟩ := showns_le xs h
    refine ⟨?_, by rw [PyData.showable]; exact h2, by rw [PyData.hasDict]; exact h3, by rw [PyData.canLay0]; exact h4⟩
    rw [PyData.shown, cost]
    have := tupleText_le (PyData.shownAll xs)
    omega
  | .dict _, h => by simp [neat] at h
theorem showns_le : ∀ xs : List D, neats xs = true → ((PyData.shownAll xs).map fun t => t.length + 2).sum ≤ costs xs ∧ PyData.showableAll xs = true ∧ PyData.hasDictAll xs = false ∧ PyData.canLayAll0 xs = true
  | [], _ => ⟨by decide, rfl, rfl, rfl⟩
  | x :: xs, h => by
    have h : neat x = true ∧ neats xs = true := by simpa [neats] using h
    obtain ⟨h1, h2, h3, h4⟩ := shown_le x h.1
    obtain ⟨g1, g2, g3, g4⟩ := showns_le xs h.2
    refine ⟨?_, by rw [PyData.showableAll, h2, g2]; rfl, by rw [PyData.hasDictAll, h3, g3]; rfl, by rw [PyData.canLayAll0, h4, g4]; rfl⟩
    rw [PyData.shownAll, List.map_cons, List.sum_cons, costs]
    omega
end
theorem neat_shaped {x : D} (h : neat x = true) (hd : PyData.depth x ≤ 64) : SeqAt.shaped x = true := by
  unfold SeqAt.shaped
  rw [(shown_le x h).2.2.2, decide_eq_true hd]
  rfl
mutual
theorem eqv_rfl : ∀ x : D, PyData.hasDict x = false → PyData.eqv x x = true
  | .none, _ => by rw [PyData.eqv]
  | .bool b, _ => by rw [PyData.eqv]; exact beq_self_eq_true b
  | .int i, _ => by rw [PyData.eqv]; exact beq_self_eq_true i
  | .str s, _ => by rw [PyData.eqv]; exact beq_self_eq_true s
  | .list xs, h => by rw [PyData.eqv]; exact eqvs_rfl xs (by simpa [PyData.hasDict] using h)
  | .tuple xs, h => by rw [PyData.eqv]; exact eqvs_rfl xs (by simpa [PyData.hasDict] using h)
  | .dict _, h => by simp [PyData.hasDict] at h
theorem eqvs_rfl : ∀ xs : List D, PyData.hasDictAll xs = false → PyData.eqvAll xs xs = true
  | [], _ => by rw [PyData.eqvAll]
  | x :: xs, h => by
    have h : PyData.hasDict x = false ∧ PyData.hasDictAll xs = false := by simpa [PyData.hasDictAll] using h
    rw [PyData.eqvAll, eqv_rfl x h.1, eqvs_rfl xs h.2]
    rfl
end
theorem eqB_rfl {x : D} (h : neat x = true) (hd : PyData.depth x ≤ 64) : eqB x x = some true := by
  have s := neat_shaped h hd
  have e := eqv_rfl x (shown_le x h).2.2.1
  unfold eqB
  split
  · rw [beq_self_eq_true]
  · rw [s, e]; rfl
theorem eqD_rfl {x : D} (h : neat x = true) (hd : PyData.depth x ≤ 64) : eqD x x = some (.d (.bool true)) := by
  unfold eqD; rw [eqB_rfl h hd]; rfl
theorem neD_rfl {x : D} (h : neat x = true) (hd : PyData.depth x ≤ 64) : neD x x = some (.d (.bool false)) := by
  unfold neD; rw [eqB_rfl h hd]; rfl
/-- str of a list or a tuple -/
theorem strD_neat {x : D} (hl : (∃ l, x = .list l) ∨ ∃ l, x = .tuple l) (h : neat x = true) (hd : PyData.depth x ≤ 64) (hc : cost x ≤ 16777216) : strD x = some (.d (.str (PyData.shown x))) := by
  obtain ⟨h1, h2, h3, _⟩ := shown_le x h
  have c : (PyData.showable x && !PyData.hasDict x && decide (PyData.depth x ≤ 180) && decide ((PyData.shown x).length ≤ sizeLine)) = true := by
    rw [h2, h3, decide_eq_true (by omega), decide_eq_true (by rw [sizeLine_eq]; omega)]
    rfl
  rcases hl with ⟨l, rfl⟩ | ⟨l, rfl⟩ <;> exact if_pos c
/-- lists, entry by entry -/
theorem neats_map {α : Type} {f : α → D} : ∀ {l : List α}, (∀ a ∈ l, neat (f a) = true) → neats (l.map f) = true
  | [], _ => by rw [List.map_nil, neats]
  | a :: l, h => by rw [List.map_cons, neats, h a (List.mem_cons_self ..), neats_map fun b hb => h b (List.mem_cons_of_mem _ hb)]; rfl
theorem costs_map {α : Type} {f : α → D} {c : Nat} : ∀ {l : List α}, (∀ a ∈ l, cost (f a) ≤ c) → costs (l.map f) ≤ l.length * (c + 2)
  | [], _ => by rw [List.map_nil, costs]; exact Nat.zero_le _
  | a :: l, h => by
    have h1 := h a (List.mem_cons_self ..)
    have h2 := costs_map (l := l) fun b hb => h b (List.mem_cons_of_mem _ hb)
    rw [List.map_cons, costs, List.length_cons, Nat.succ_mul]
    omega
theorem depths_map {α : Type} {f : α → D} {c : Nat} : ∀ {l : List α}, (∀ a ∈ l, PyData.depth (f a) ≤ c) → PyData.depthAll (l.map f) ≤ c
  | [], _ => by rw [List.map_nil, PyData.depthAll]; exact Nat.zero_le _
  | a :: l, h => by
    have h1 := h a (List.mem_cons_self ..)
    have h2 := depths_map (l := l) fun b hb => h b (List.mem_cons_of_mem _ hb)
    rw [List.map_cons, PyData.depthAll]
    omega
/-- comprehensions of structures of one's own over whole lists -/
theorem lcM_map {α : Type} {vs : List Nat} {p : Pat} {fe : Ev → RE} {f : α → D} {g : α → Ow} {ρ : Ev} : ∀ {l : List α}, (∀ x ∈ l, ∃ ρ1 ρ2 sv, bindP p (f x) ρ = some ρ1 ∧ fe ρ1 = .ok sv ρ2 ∧ sv.ow? = some (g x) ∧ wipeE ρ2 vs = ρ) → lcLM vs p fYes fe (l.map f) ρ = some (l.map g, ρ)
  | [], _ => rfl
  | x :: l, h => by
    obtain ⟨ρ1, ρ2, sv, h1, h2, h3, h4⟩ := h x (List.mem_cons_self ..)
    have ih := lcM_map (l := l) fun y hy => h y (List.mem_cons_of_mem _ hy)
    have y : fYes ρ1 = .ok true ρ1 := rfl
    rw [List.map_cons, lcLM, h1]
    dsimp only
    rw [y]
    dsimp only
    rw [h2]
    dsimp only
    rw [h3, h4, ih]
    rfl
end Dl
set_option maxHeartbeats 4000000
/-! DlF: sorted and max of lists and tuples of ints; repr of lists and tuples; list(range(..)), tuple(range(..)). -/
namespace SrtO
open PySem PyProof.Rows Srt
section
variable {prog : Program} {w : World} {A : Around} {E : Value → Shared → Prop} {s : Shared}
theorem collect_tup {l : Addr} {vs : List Value} {Q : List Value → Shared → Prop} (hl : s.heap.IsTuple l vs.toArray)
    (h : Q vs { s with heap := (s.heap.push (seqObj "list" #[] 0)).update s.heap.objs.size (Obj.mapSeq (· ++ vs.toArray)) }) (hsz : vs.length ≤ sizeLine := by size_fits) :
    wpAny (model prog w) A (collect (.ref l)) Q E s := by
  obtain ⟨o, ho, hc, n, hd⟩ := id hl
  unfold collect
  refine wpAny_bind (wpAny_runValue (codeAny_builtin entry_proto_collect' ?_))
  show wpAny _ _ (do again (.builtin "list.__iadd__" ⟨[← newList [], .ref l], []⟩)) _ _ s
  refine wpAny_bind (wpAny_newList (wpAny_pure ⟨Code.quiet_builtin _ (by decide +kernel), codeAny_builtin entry_list_iadd' ?_⟩))
  show wpAny _ _ (Builtin.List.listExtendWith (.ref s.heap.objs.size) (.ref l) (.ref s.heap.objs.size)) _ _ { s with heap := s.heap.push (seqObj "list" #[] 0) }
  unfold Builtin.List.listExtendWith
  have ho' : (s.heap.push (seqObj "list" #[] 0)).get? l = some o := Heap.get?_push_of_some _ ho
  refine wpAny_bind (wpAny_typeOf (T := "tuple") ⟨o, ho', hc⟩ ?_)
  have ht : (Value.type "tuple" == Value.type "tuple") = true := by rfl
  rw [if_pos (by rw [ht]; simp)]
  refine wpAny_bind (listItems_at ho' hd ?_)
  refine wpAny_bind (listItems_at (xs := #[]) (n := 0) (Heap.get?_push_size _ rfl) rfl ?_)
  rw [if_neg (by simp)]
  refine wpAny_bind (listUpdate_at (xs := #[]) (n := 0) (Heap.get?_push_size _ rfl) rfl ?_ (Nat.zero_le _) (by show (#[] ++ vs.toArray).size ≤ sizeLine + 1; simp only [Array.size_append, List.size_toArray, List.length_nil]; omega))
  refine wpAny_pure ?_
  show wpAny (model prog w) A (do
      let o ← load s.heap.objs.size
      match o.data with
      | .seq xs _ => pure xs.toList
      | _ => unsupported "internal:collect") Q E { s with heap := (s.heap.push (seqObj "list" #[] 0)).update s.heap.objs.size (Obj.mapSeq (· ++ vs.toArray)) }
  refine wpAny_bind (wpAny_load (get?_update_seq (Heap.get?_push_size _ rfl) _) ?_)
  show wpAny _ _ (pure ((#[] : Array Value) ++ vs.toArray).toList) Q E _
  rw [show ((#[] : Array Value) ++ vs.toArray).toList = vs by simp]
  exact wpAny_pure h
theorem sorted_ordT {l : Addr} {vs : List Value} {ltv : Value → Value → Bool} {Q : Value → Shared → Prop} (O : Swo ltv) (hl : s.heap.IsTuple l vs.toArray) (hz : vs.length ≤ sizeLine)
    (hS : 2 ≤ vs.length → ∀ (h₁ : Heap) (a : Addr), h₁.get? a = some (seqObj "list" vs.toArray 0) → (∀ b o, s.heap.get? b = some o → b ≠ a ∧ h₁.get? b = some o) → SortableO prog w A.in1.in1 { s with heap := h₁ } a vs ltv)
    (h : ∀ out : List Value, Srtd ltv out → Stb ltv out vs → Q (.ref (s.heap.objs.size + 1)) { s with heap := sortedAll s.heap vs out.toArray }) :
    wpAny (model prog w) A (call (.builtin "sorted") [.ref l]) Q E s := by
  refine Calls.call_function_entry kind_sorted plain_sorted entry_sorted (args_sorted1 _) ?_
  unfold Builtin.«sorted»
  refine wpAny_bind (m := checkCount "sorted" 1 1 _) (wpAny_pure ?_)
  refine wpAny_bind (collect_tup hl ?_ hz)
  refine wpAny_bind (wpAny_newList ?_ hz)
  have hsz : ((s.heap.push (seqObj "list" #[] 0)).update s.heap.objs.size (Obj.mapSeq (· ++ vs.toArray))).objs.size = s.heap.objs.size + 1 := by
    rw [Heap.size_update, size_push']
  have hoL : (((s.heap.push (seqObj "list" #[] 0)).update s.heap.objs.size (Obj.mapSeq (· ++ vs.toArray))).push (seqObj "list" vs.toArray 0)).get? (s.heap.objs.size + 1) = some (seqObj "list" vs.toArray 0) := by
    rw [← hsz]; exact Heap.get?_push_size _ rfl
  have keep : ∀ b o, s.heap.get? b = some o → b ≠ s.heap.objs.size + 1 ∧ (((s.heap.push (seqObj "list" #[] 0)).update s.heap.objs.size (Obj.mapSeq (· ++ vs.toArray))).push (seqObj "list" vs.toArray 0)).get? b = some o := fun b o q => by
    have hlt : b < s.heap.objs.size := Heap.lt_size q
    refine ⟨Nat.ne_of_lt (Nat.lt_succ_of_lt hlt), Heap.get?_push_of_some _ ?_⟩
    rw [Heap.get?_update_ne _ _ _ _ (Nat.ne_of_lt hlt)]
    exact Heap.get?_push_of_some _ q
  show wpAny _ _ _ _ _ { s with heap := ((s.heap.push (seqObj "list" #[] 0)).update s.heap.objs.size (Obj.mapSeq (· ++ vs.toArray))).push (seqObj "list" vs.toArray 0) }
  rw [hsz]
  refine wpAny_bind (wpAny_holding (wpAny_call_entry slot_list_sort ⟨_, hoL, rfl⟩ entry_list_sort (list_sort_ord O hoL hz (fun h2 => hS h2 _ _ hoL keep) fun out hs hb => ⟨_, rfl, ?_⟩) (args_list_sort _)))
  exact wpAny_pure ⟨_, rfl, h out hs hb⟩
end
end SrtO
namespace Dl
open PySem PySem.Spec L2
open PyProof.Rows (envOfC)
/-! ### sorted -/
def insI (x : Int) : List Int → List Int
  | [] => [x]
  | y :: ys => if x ≤ y then x :: y :: ys else y :: insI x ys
def srtI : List Int → List Int
  | [] => []
  | x :: xs => insI x (srtI xs)
theorem insI_perm (x : Int) : ∀ ys, (insI x ys).Perm (x :: ys)
  | [] => .refl _
  | y :: ys => by
    unfold insI
    split
    · exact .refl _
    · exact ((insI_perm x ys).cons y).trans (.swap ..)
theorem insI_sorted (x : Int) : ∀ {ys : List Int}, ys.Pairwise (· ≤ ·) → (insI x ys).Pairwise (· ≤ ·)
  | [], _ => by simp [insI]
  | y :: ys, h => by
    obtain ⟨h1, h2⟩ := List.pairwise_cons.mp h
    unfold insI
    split
    · rename_i c
      refine List.pairwise_cons.mpr ⟨fun z hz => ?_, h⟩
      rcases List.mem_cons.mp hz with rfl | hz
      · exact c
      · exact Int.le_trans c (h1 z hz)
    · rename_i c
      refine List.pairwise_cons.mpr ⟨fun z hz => ?_, insI_sorted x h2⟩
      rcases List.mem_cons.mp ((insI_perm x ys).mem_iff.mp hz) with rfl | hz
      · omega
      · exact h1 z hz
theorem srtI_perm : ∀ xs, (srtI xs).Perm xs
  | [] => .refl _
  | x :: xs => (insI_perm x _).trans ((srtI_perm xs).cons x)
theorem srtI_sorted : ∀ xs, (srtI xs).Pairwise (· ≤ ·)
  | [] => .nil
  | x :: xs => insI_sorted x (srtI_sorted xs)
theorem sorted_eq : ∀ {xs ys : List Int}, xs.Perm ys → xs.Pairwise (· ≤ ·) → ys.Pairwise (· ≤ ·) → xs = ys
  | [], ys, p, _, _ => (p.nil_eq)
  | x :: xs, [], p, _, _ => absurd p.length_eq (by simp)
  | x :: xs, y :: ys, p, h1, h2 => by
    obtain ⟨a1, a2⟩ := List.pairwise_cons.mp h1
    obtain ⟨b1, b2⟩ := List.pairwise_cons.mp h2
    have e : x = y := by
      have m1 : x ∈ y :: ys := p.mem_iff.mp (List.mem_cons_self ..)
      have m2 : y ∈ x :: xs := p.mem_iff.mpr (List.mem_cons_self ..)
      rcases List.mem_cons.mp m1 with e | m1
      · exact e
      · rcases List.mem_cons.mp m2 with e | m2
        · exact e.symm
        · have := b1 x m1
          have := a1 y m2
          omega
    subst e
    rw [sorted_eq p.cons_inv a2 b2]
def srtD : D → Option Sv
  | .list xs => (intsOf xs).map fun ns => .ow ((srtI ns).map .int)
  | .tuple xs => (intsOf xs).map fun ns => .ow ((srtI ns).map .int)
  | _ => none
def rSortT (K : PySem.W.Frag) : List V → Hp → VK → Prop := fun vs H Q => ∃ (a : Addr) (ns : List Int), vs = [V.ref a] ∧ SqT K H a (ns.map V.int) ∧
  ∀ (ns' : List Int) (p : Addr), ns'.Perm ns → ns'.Pairwise (· ≤ ·) → H p = none → Q (.ref p) (upd H p (.lst (ns'.map V.int)))
section
variable {X : Cx}
theorem cr_sortedTI : CallR X (.builtin "sorted") (rSortT X.K) := by
  intro pins s σ H vs us Q I r h
  obtain ⟨a, ns, rfl, hs, q⟩ := h
  obtain ⟨its, rv, hl, hz⟩ := I.tuple hs
  rw [Vals.ref1 r]
  have hi := rv.ints
  refine SrtO.sorted_ordT SrtO.swo_int hl (by rw [← rv.length]; exact hz) (fun h2 h₁ a' _ _ => SrtO.ints_sortable hi h2) fun out h1 h2 => ?_
  obtain ⟨k1, k2, k3⟩ := SrtO.ints_out hi h1 h2
  obtain ⟨ep, he'⟩ := PyProof.Rows.sortedAll_at s.heap its out.toArray
  have hl2 := rv.length
  have hlen : ((out.map SrtO.iv).map V.int).length ≤ sizeLine := by rw [List.length_map, k2.length_eq]; rw [List.length_map] at hz; exact hz
  refine ⟨.ref _, upd H (s.heap.objs.size + 1) (.lst ((out.map SrtO.iv).map V.int)), I.laid (t' := s.toks) (fun _ _ => PyProof.Rows.sortedAll_old) (Nat.le_succ _) ⟨hlen, out, ep, vals_of_ints k1, ?_⟩, rfl, q _ _ k2 k3 (I.hok.fresh (Nat.le_succ _))⟩
  exact he'
end
theorem ints_all : ∀ ns : List Int, ∀ {K : PySem.W.Frag} {G : Hp}, DaAll K G (ns.map V.int) (ns.map PyData.int)
  | [], _, _ => .nil
  | n :: ns, _, _ => .cons (.int n) (ints_all ns)
abbrev rSrt (K : PySem.W.Frag) : List V → Hp → VK → Prop := fun xs H Q => rSortedI K xs H Q ∨ rSortT K xs H Q
theorem call_srt {X : Cx} : CallR X (.builtin "sorted") (rSrt X.K) := cr_sortedI.or cr_sortedTI
theorem cs_srt {K : PySem.W.Frag} : CallS K (rSrt K) srtD := by
  intro b G H σ ρ x dx Q r hx h
  have go : ∀ {ns : List Int}, Post1 K b G σ ρ Q (some (.ow ((srtI ns).map .int))) → ∀ (ns' : List Int) (p : Addr), ns'.Perm ns → ns'.Pairwise (· ≤ ·) → H p = none → Q (.ref p) (upd H p (.lst (ns'.map V.int))) := fun {ns} h ns' p h1 h2 hp => by
    have e : ns' = srtI ns := sorted_eq (h1.trans (srtI_perm ns).symm) h2 (srtI_sorted ns)
    subst e
    exact post_ow r h (ints_all _) hp
  cases dx with
  | list xs =>
    have h : Post1 K b G σ ρ Q ((intsOf xs).map fun ns => .ow ((srtI ns).map .int)) := h
    obtain ⟨a, vs, rfl, g1, g2⟩ := hx.lst r.le
    cases e : intsOf xs with
    | none => rw [e] at h; exact h.elim
    | some ns =>
      rw [e] at h
      refine .inl ⟨a, ns, rfl, ?_, go h⟩
      rw [← ints_da g2 e]; exact SqL.of g1
  | tuple xs =>
    have hx := hx.da fun l z => nomatch z
    cases hx with
    | tup h1 h2 =>
      have h : Post1 K b G σ ρ Q ((intsOf xs).map fun ns => .ow ((srtI ns).map .int)) := h
      cases e : intsOf xs with
      | none => rw [e] at h; exact h.elim
      | some ns =>
        rw [e] at h
        refine .inr ⟨_, ns, rfl, ?_, go h⟩
        rw [← ints_da h2 e]; exact seqT r.le h1
  | _ => exact h.elim

/-! ### max of a list, of a tuple -/
def mxI : List Int → Option Int
  | [] => none
  | x :: xs => some (xs.foldl (fun a b => if b > a then b else a) x)
theorem foldmx : ∀ (xs : List Int) (x : Int), (∀ y ∈ xs, y ≤ xs.foldl (fun a b => if b > a then b else a) x) ∧ x ≤ xs.foldl (fun a b => if b > a then b else a) x ∧ (xs.foldl (fun a b => if b > a then b else a) x ∈ x :: xs)
  | [], x => ⟨(fun _ h => nomatch h), Int.le_refl _, by simp⟩
  | y :: xs, x => by
    rw [List.foldl_cons]
    obtain ⟨h1, h2, h3⟩ := foldmx xs (if y > x then y else x)
    have a : x ≤ (if y > x then y else x) ∧ y ≤ (if y > x then y else x) := by split <;> omega
    refine ⟨fun z hz => ?_, by omega, ?_⟩
    · rcases List.mem_cons.mp hz with rfl | hz
      · omega
      · exact h1 z hz
    · rcases List.mem_cons.mp h3 with e | h3
      · rw [e]
        split <;> simp
      · exact List.mem_cons_of_mem _ (List.mem_cons_of_mem _ h3)
theorem mxI_eq {ns : List Int} {m : Int} (h1 : m ∈ ns) (h2 : ∀ y ∈ ns, y ≤ m) : mxI ns = some m := by
  cases ns with
  | nil => cases h1
  | cons x xs =>
    obtain ⟨k1, k2, k3⟩ := foldmx xs x
    have a := h2 _ k3
    have b : m ≤ xs.foldl (fun a b => if b > a then b else a) x := by
      rcases List.mem_cons.mp h1 with rfl | h1
      · exact k2
      · exact k1 m h1
    show some _ = some m
    congr 1
    omega
def mxD : D → Option Sv
  | .list xs => (intsOf xs).bind fun ns => (mxI ns).map fun m => .d (.int m)
  | .tuple xs => (intsOf xs).bind fun ns => (mxI ns).map fun m => .d (.int m)
  | _ => none
section
variable {P : Program} {w : World} {A : Around} {E : Value → Shared → Prop} {s : Shared}
theorem maxT_raw {q : Addr} {els : List Value} {ns : List Int} {Q : Value → Shared → Prop} (hh : A.handled = none) (hT : s.heap.IsTuple q els.toArray) (hi : PyProof.Rows.IntsAre els ns) (hne : 0 < ns.length)
    (go : ∀ h' tk M t, (∀ b o, s.heap.get? b = some o → h'.get? b = some o) → M ∈ ns → (∀ a, a ∈ ns → a ≤ M) → Q (.int M t) { s with heap := h', toks := tk }) : wpAny (model P w) A (call (.builtin "max") [.ref q]) Q E s := by
  obtain ⟨xs, e⟩ := hi.allInts.items
  have hn : numsOf (intItems xs).toList = ns := by rw [← e]; exact hi.numsOf
  rw [nums_intItems] at hn
  subst hn
  have lt : q < s.heap.objs.size := by obtain ⟨_, z, _⟩ := hT; exact Heap.lt_size z
  rw [e] at hT
  have hsz : 0 < xs.size := by simpa using hne
  refine call_max_walk (wpAny_pyIter_tuple hT ?_)
  have k1 := Heap.get?_push_size s.heap (o := { cls := .type "tuple_iterator", data := .fields #[.ref q, .int 0 0] }) rfl
  refine ⟨s.heap.objs.size, _, _, _, _, _, _, rfl, Walks.tuple (A := A.in1) hh _ q (Nat.ne_of_lt lt) (intItems xs), ⟨⟨_, k1, rfl, rfl⟩, ?_⟩, ?_, by simpa [intItems] using hsz, CmpOf.ints_gt (numAt xs) (fun _ _ => intItems_at), fun v h' tk hP hk => ?_⟩
  · obtain ⟨o, z, r⟩ := hT
    exact ⟨o, Heap.get?_push_of_some _ z, r⟩
  · intro c hc
    rw [Heap.size_push]
    rcases List.mem_cons.mp hc with rfl | hc
    · exact Nat.lt_succ_self _
    · rw [List.mem_singleton.mp hc]
      exact Nat.lt_succ_of_lt lt
  · have hP : (intItems xs)[argBest (fun i j => decide (numAt xs i > numAt xs j)) (xs.size - 1)]? = some v := by simpa [intItems] using hP
    obtain ⟨t, rfl⟩ := intItems_at hP
    obtain ⟨h1, h2⟩ := argBest_gt (numAt xs) (xs.size - 1)
    refine go h' tk _ t (fun b o z => hk b o (fun hm => by
      rw [List.mem_singleton.mp hm] at z
      exact absurd (Heap.lt_size z) (Nat.lt_irrefl _)) (Heap.get?_push_of_some _ z)) ?_ fun a ha => ?_
    · rw [numAt_eq]; exact PySem.getD_mem (by rw [List.length_map, Array.length_toList]; omega)
    · obtain ⟨j, hj, rfl⟩ := mem_getD ha
      rw [List.length_map, Array.length_toList] at hj
      rw [← numAt_eq]; exact h2 j (by omega)
end
def rMaxT (K : PySem.W.Frag) : List V → Hp → VK → Prop := fun vs H Q => ∃ (a : Addr) (ns : List Int), vs = [V.ref a] ∧ SqT K H a (ns.map V.int) ∧ 0 < ns.length ∧ ∀ m, m ∈ ns → (∀ y, y ∈ ns → y ≤ m) → Q (.int m) H
theorem cr_maxT {X : Cx} (hc : X.calm = true) : CallR X (.builtin "max") (rMaxT X.K) := by
  intro pins s σ H vs us Q I r h
  obtain ⟨a, ns, rfl, hs, hne, q⟩ := h
  obtain ⟨its, rv, hl, _⟩ := I.tuple hs
  rw [Vals.ref1 r]
  exact maxT_raw (I.ok.hd hc) hl rv.ints hne fun h' tk m t' hk h1 h2 => ⟨.int _, H, I.kept hk, ⟨_, rfl⟩, q m h1 h2⟩
abbrev rMx (K : PySem.W.Frag) : List V → Hp → VK → Prop := fun xs H Q => rMax K xs H Q ∨ rMaxT K xs H Q
theorem call_mx {X : Cx} (hc : X.calm = true) : CallR X (.builtin "max") (rMx X.K) := (cr_max hc).or (cr_maxT hc)
theorem mx_ne {ns : List Int} {m : Int} (h : mxI ns = some m) : 0 < ns.length := by cases ns with | nil => cases h | cons => simp
theorem cs_mx {K : PySem.W.Frag} : CallS K (rMx K) mxD := by
  intro b G H σ ρ x dx Q r hx h
  cases dx with
  | list xs =>
    have h : Post1 K b G σ ρ Q ((intsOf xs).bind fun ns => (mxI ns).map fun m => .d (.int m)) := h
    obtain ⟨a, vs, rfl, g1, g2⟩ := hx.lst r.le
    cases e : intsOf xs with
    | none => rw [e] at h; exact h.elim
    | some ns =>
      rw [e] at h
      cases e2 : mxI ns with
      | none => rw [Option.bind_some, e2] at h; exact h.elim
      | some m =>
        rw [Option.bind_some, e2] at h
        refine .inl ⟨a, ns, rfl, ?_, mx_ne e2, fun m' h1 h2 => ?_⟩
        · rw [← ints_da g2 e]; exact SqL.of g1
        · rw [mxI_eq h1 h2] at e2; cases e2; exact post_int r h
  | tuple xs =>
    have hx := hx.da fun l z => nomatch z
    cases hx with
    | tup h1 h2 =>
      have h : Post1 K b G σ ρ Q ((intsOf xs).bind fun ns => (mxI ns).map fun m => .d (.int m)) := h
      cases e : intsOf xs with
      | none => rw [e] at h; exact h.elim
      | some ns =>
        rw [e] at h
        cases e2 : mxI ns with
        | none => rw [Option.bind_some, e2] at h; exact h.elim
        | some m =>
          rw [Option.bind_some, e2] at h
          refine .inr ⟨_, ns, rfl, ?_, mx_ne e2, fun m' k1 k2 => ?_⟩
          · rw [← ints_da h2 e]; exact seqT r.le h1
          · rw [mxI_eq k1 k2] at e2; cases e2; exact post_int r h
  | _ => exact h.elim

/-! ### repr -/
def reprD : D → Option Sv
  | .tuple l => if ((PyData.tuple l).showable && !(PyData.tuple l).hasDict && decide ((PyData.tuple l).depth ≤ 180) && decide ((PyData.tuple l).shown.length ≤ sizeLine)) = true then some (.d (.str (PyData.tuple l).shown)) else none
  | .list l => if ((PyData.list l).showable && !(PyData.list l).hasDict && decide ((PyData.list l).depth ≤ 180) && decide ((PyData.list l).shown.length ≤ sizeLine)) = true then some (.d (.str (PyData.list l).shown)) else none
  | _ => none
section
variable {X : Cx}
theorem call_reprD (gd : X.A.guards = some []) (hu : X.A.units + 200 < cLine) : CallR X (.builtin "repr") (rStrD X.K) := by
  intro pins s σ H xs us Q I r h
  obtain ⟨a, d, rfl, hd, h1, h2, h3, h4, q⟩ := h
  obtain ⟨u, rfl, r1⟩ := vals1 r
  cases (show u = Value.ref a from r1)
  obtain ⟨as, rd⟩ := Dp.reads I d (.ref a) (.ref a) hd rfl
  refine repr_of_reads' rd h1 (fun z => by rw [h2] at z; cases z) gd (by omega) (fun _ _ z => z) (fun h' u tk hk => ?_) h4
  exact ⟨.str d.shown, H, I.kept (t' := tk) hk, ⟨u, rfl⟩, q⟩
theorem cs_repr {K : PySem.W.Frag} : CallS K (rStrD K) reprD := by
  intro b G H σ ρ x dx Q r hx h
  cases dx with
  | tuple l =>
    obtain ⟨c, h⟩ := post_if h
    simp only [Bool.and_eq_true, decide_eq_true_eq, Bool.not_eq_true'] at c
    have dp := hx.dp r.le
    cases hx.da fun l z => nomatch z
    exact ⟨_, _, rfl, dp, c.1.1.1, c.1.1.2, c.1.2, c.2, post_str r h⟩
  | list l =>
    obtain ⟨c, h⟩ := post_if h
    simp only [Bool.and_eq_true, decide_eq_true_eq, Bool.not_eq_true'] at c
    have dp := hx.dp r.le
    obtain ⟨a, vs, rfl, g1, g2⟩ := hx.lst r.le
    exact ⟨_, _, rfl, dp, c.1.1.1, c.1.1.2, c.1.2, c.2, post_str r h⟩
  | _ => exact h.elim
end
theorem reprD_neat {x : D} (hl : (∃ l, x = .list l) ∨ ∃ l, x = .tuple l) (h : neat x = true) (hd : PyData.depth x ≤ 64) (hc : cost x ≤ 16777216) : reprD x = some (.d (.str (PyData.shown x))) := by
  obtain ⟨h1, h2, h3, _⟩ := shown_le x h
  have c : (PyData.showable x && !PyData.hasDict x && decide (PyData.depth x ≤ 180) && decide ((PyData.shown x).length ≤ sizeLine)) = true := by
    rw [h2, h3, decide_eq_true (by omega), decide_eq_true (by rw [sizeLine_eq]; omega)]
    rfl
  rcases hl with ⟨l, rfl⟩ | ⟨l, rfl⟩ <;> exact if_pos c

/-! ### list(range(..)), tuple(range(..)) -/
def rgOk (i j : Int) : Bool := decide (-(2 ^ 62) ≤ i ∧ i < 2 ^ 62 ∧ -(2 ^ 62) ≤ j ∧ j < 2 ^ 62 ∧ (j - i).toNat ≤ 2 ^ 24)
def fLRg (f : Ev → RE) : Ev → RE := fun ρ => (f ρ).bindD fun x ρ1 => match x with
  | .int n => if rgOk 0 n = true then .ok (.ow (upFrom 0 n.toNat)) ρ1 else .stuck
  | _ => .stuck
def fTRg2 (f g : Ev → RE) : Ev → RE := fun ρ => (f ρ).bindD fun x ρ1 => (g ρ1).bindD fun y ρ2 => match x, y with
  | .int i, .int j => if rgOk i j = true then .ok (.d (.tuple (upFrom i (j - i).toNat))) ρ2 else .stuck
  | _, _ => .stuck
section
variable {X : Cx} {b : Bx} {W : WX} {G H : Hp} {σ : St} {ρ : Ev}
theorem rg_all (i j : Int) {K : PySem.W.Frag} {G : Hp} : DaAll K G (rgV i j) (upFrom i (j - i).toNat) := by
  unfold rgV upFrom
  have : ∀ l : List Nat, DaAll K G (l.map fun k => V.int (i + (k : Nat))) (l.map fun k => PyData.int (i + (k : Nat))) := fun l => by
    induction l with
    | nil => exact .nil
    | cons x l ih => exact .cons (.int _) ih
  exact this _
theorem e_listRg {e : Expr} {p p2 pos pos2 : Pos} {f : Ev → RE} (hc : X.calm = true) (hg : Gl X "list") (hm : X.mg "list" = none) (hg2 : Gl X "range") (hm2 : X.mg "range" = none) (he : PE X e (tE X.K b W f))
    (na : starEach [e] X.env = (false, eval e X.env) :: starEach [] X.env := by rfl) (na2 : starEach [.Call (.Name "range" p2) [e] [] pos2] X.env = (false, eval (.Call (.Name "range" p2) [e] [] pos2) X.env) :: starEach [] X.env := by rfl) :
    PE X (.Call (.Name "list" p) [.Call (.Name "range" p2) [e] [] pos2] [] pos) (tE X.K b W (fLRg f)) :=
  PE.imp (pe_listRg hc hg hm (prg_1 hg2 hm2 he na) na2) fun σ H Q ⟨ρ, G, r, q⟩ => by
    refine stepD r q fun v H1 ρ1 G1 x r1 s1 d1 q1 => ?_
    cases x with
    | int n =>
      cases d1
      obtain ⟨c, q1⟩ := postE_if q1
      have c := of_decide_eq_true c
      refine ⟨n, rfl, c, fun p hp => ?_⟩
      have e0 : n.toNat = (n - 0).toNat := by rw [Int.sub_zero]
      rw [e0] at q1
      exact post_ow (Q := Q) r1 q1 (rg_all 0 n) hp
    | _ => exact q1.elim
theorem e_tupRg2 {e e' : Expr} {p p2 pos pos2 : Pos} {f g : Ev → RE} (hc : X.calm = true) (hg : Gl X "tuple") (hm : X.mg "tuple" = none) (hg2 : Gl X "range") (hm2 : X.mg "range" = none) (he : PE X e (tE X.K b W f)) (he' : PE X e' (tE X.K b W g))
    (na : starEach [e, e'] X.env = (false, eval e X.env) :: starEach [e'] X.env := by rfl) (nb : starEach [e'] X.env = (false, eval e' X.env) :: starEach [] X.env := by rfl) (hpl : (backTo pos2 (starEach [e'] X.env)).any (·.1) = false := by rfl) (na2 : starEach [.Call (.Name "range" p2) [e, e'] [] pos2] X.env = (false, eval (.Call (.Name "range" p2) [e, e'] [] pos2) X.env) :: starEach [] X.env := by rfl) :
    PE X (.Call (.Name "tuple" p) [.Call (.Name "range" p2) [e, e'] [] pos2] [] pos) (tE X.K b W (fTRg2 f g)) :=
  PE.imp (pe_tupRg hc hg hm (prg_2 hg2 hm2 he he' na nb hpl) na2) fun σ H Q ⟨ρ, G, r, q⟩ => by
    refine stepD r q fun v H1 ρ1 G1 x r1 s1 d1 q1 => ?_
    refine stepD r1 q1 fun u H2 ρ2 G2 y r2 s2 d2 q2 => ?_
    cases x with
    | int i =>
      cases d1
      cases y with
      | int j =>
        cases d2
        obtain ⟨c, q2⟩ := postE_if q2
        have c := of_decide_eq_true c
        exact ⟨i, j, rfl, rfl, c, fun p hp => post_tup (Q := Q) r2 q2 (rg_all i j) hp⟩
      | _ => exact q2.elim
    | _ => cases y <;> exact q2.elim
end
namespace S
theorem srt_l {xs : List D} : srtD (.list xs) = (intsOf xs).map fun ns => .ow ((srtI ns).map .int) := nrfl
theorem srt_t {xs : List D} : srtD (.tuple xs) = (intsOf xs).map fun ns => .ow ((srtI ns).map .int) := nrfl
theorem mx_l {xs : List D} : mxD (.list xs) = (intsOf xs).bind fun ns => (mxI ns).map fun m => .d (.int m) := nrfl
theorem mx_t {xs : List D} : mxD (.tuple xs) = (intsOf xs).bind fun ns => (mxI ns).map fun m => .d (.int m) := nrfl
theorem intsOf_map : ∀ ns : List Int, intsOf (ns.map PyData.int) = some ns
  | [] => rfl
  | n :: ns => by rw [List.map_cons, intsOf, intsOf_map ns]; rfl
end S
end Dl
set_option maxHeartbeats 4000000
/-! DlI: loops over a list of one's own, whose entries are changed. -/
namespace Dl
open PySem PySem.Spec L2
open PyProof.Rows (envOfC)
def lenL (ρ : Ev) (i : Nat) (p : List Nat) : Option Nat := (lstAt ρ i p).map fun x => x.2.length
def forA (body : Ev → RS) (j i : Nat) (p : List Nat) (n : Nat) : Nat → Ev → RS
  | 0, ρ => if lenL ρ i p = some n then .next ρ else .stuck
  | r + 1, ρ => if rfAt ρ j = false ∧ lenL ρ i p = some n then match body (ρ.set j (some (.al i (p ++ [n - (r + 1)])))) with
    | .next ρ2 => forA body j i p n r ρ2
    | .cnt ρ2 => forA body j i p n r ρ2
    | .brk ρ2 => .next ρ2
    | x => x
    else .stuck
def fForA (ps : Pins) (j : Nat) (fp : Ev → RP) (fb : Pins → Ev → RS) : Ev → RS := fun ρ => match fp ρ with
  | .ok i p ρ1 => match lstAt ρ1 i p with
    | some (_, zs) => forA (fb ((i, p) :: ps)) j i p zs.length zs.length ρ1
    | none => .stuck
  | .raise c ρ1 => .raise c ρ1
  | .stuck => .stuck
section
variable {K : PySem.W.Frag} {b : Bx} {W : WX} {G G1 H : Hp} {σ : St} {ρ : Ev} {Q : VK} {X : Cx} {D : Ends}
theorem lenL_get {i n : Nat} {p : List Nat} (h : lenL ρ i p = some n) : ∃ w zs, ρ[i]? = some (some (.on w)) ∧ w.at p = some (.lst zs) ∧ zs.length = n := by
  unfold lenL at h
  cases e : lstAt ρ i p with
  | none => rw [e] at h; cases h
  | some x =>
    obtain ⟨w, zs⟩ := x
    rw [e] at h
    obtain ⟨h1, h2⟩ := lstAt_get e
    exact ⟨w, zs, h1, h2, Option.some.inj h⟩
theorem postM_ite {c : Prop} [Decidable c] {x y : RS} (h : PostM K b W G D (if c then x else y)) : (c ∧ PostM K b W G D x) ∨ (¬ c ∧ PostM K b W G D y) := by
  by_cases e : c
  · rw [if_pos e] at h; exact .inl ⟨e, h⟩
  · rw [if_neg e] at h; exact .inr ⟨e, h⟩
theorem mforA_post {ps : Pins} {j : Nat} {fp : Ev → RP} {fb : Pins → Ev → RS} (hpin : b.pins = ps) : ∀ D σ H, tM K b W (fForA ps j fp fb) D σ H →
    tFor (iList K (tPa K b W fp)) (gName j) (fun D σ H => ∃ h ps', (b.hd h).pins = ps' ∧ tM K (b.hd h) W (fb ps') D σ H) D σ H := by
  rintro D σ H ⟨ρ, G, r, q⟩
  refine ⟨ρ, G, r, ?_⟩
  cases e0 : fp ρ with
  | stuck => simp only [fForA, e0] at q; exact q
  | raise c ρ1 => simp only [fForA, e0] at q; exact fun G' H' r' s' => q σ G' H' r' s'
  | ok i p ρ1 =>
    simp only [fForA, e0] at q
    intro v G1 H1 m1 rr r1 ho1 s1 hr nv
    cases e1 : lstAt ρ1 i p with
    | none => simp only [e1] at q; exact q.elim
    | some wz =>
      obtain ⟨w, zs⟩ := wz
      simp only [e1] at q
      obtain ⟨g1, g2⟩ := lstAt_get e1
      obtain ⟨a, us, rfl, c1⟩ := r1.cell g1 g2 hr nv
      have hi : ∀ x, (i, p, V.ref a) ∈ (i, p, V.ref a) :: x := fun x => List.mem_cons_self ..
      let h0 : Hl := ⟨b.T, (i, p, .ref a) :: b.pin⟩
      have hp0 : (b.hd h0).pins = (i, p) :: ps := by rw [← hpin]; rfl
      have low : ∀ {G' m'}, Ho (b.hd h0) G' m' → Ho b G' m' := fun {G' m'} h => ⟨h.held, h.al, fun k q x z => h.pin k q x (List.mem_cons_of_mem _ z)⟩
      have ho0 : Ho (b.hd h0) G1 m1 := ⟨ho1.held, ho1.al, fun k q x z r0 hr0 => by
        rcases List.mem_cons.mp z with z | z
        · cases z
          rw [hr] at hr0
          cases hr0
          exact nv
        · exact ho1.pin k q x z r0 hr0⟩
      generalize hn : zs.length = n at q
      -- the list's cell, whatever stands
      have cellAt : ∀ {G2 H2 σ2 ρ2 m2}, Rel K (b.wt m2) G2 H2 σ2 ρ2 → Ho (b.hd h0) G2 m2 → lenL ρ2 i p = some n → ∃ ws vs r0, m2.rt i = some r0 ∧ Nav G2 m2 i r0 p (.ref a) ∧ m2.T a = some (.lst vs) ∧ m2.own a = some i ∧ H2 a = some (.lst vs) ∧ vs.length = n := fun {G2 H2 σ2 ρ2 m2} r2 ho2 hl => by
        obtain ⟨w2, z2, k1, k2, k3⟩ := lenL_get hl
        obtain ⟨v0, y1, y2, _⟩ := r2.slot _ _ k1
        have y2 : m2.rt i = some v0 := y2
        have nv2 := ho2.pin i p _ (hi _) v0 y2
        obtain ⟨F, l, ow⟩ := r2.nav k1 y2 nv2 k2
        cases l with
        | lst t1 t2 t3 t4 =>
          exact ⟨w2, _, v0, y2, nv2, t1, ow _ (List.mem_cons_self ..), (r2.tmp _ _ t1).1, by rw [t3.length]; exact k3⟩
      refine ⟨a, rfl, ⟨us, SqL.of c1⟩, ?_⟩
      refine ⟨fun k d σ H => d = n - k ∧ k ≤ n ∧ ∃ ρ G, RelT K (b.hd h0) G H σ ρ ∧ Same G1 G ∧ PostM K b W G D (forA (fb ((i, p) :: ps)) j i p n (n - k) ρ), ⟨n, by simp, Nat.zero_le _, ρ1, G1, ⟨m1, r1, ho0⟩, Same.refl _, PostM.mono s1 q⟩, ?_⟩
      rintro k d σ2 H2 ⟨rfl, hk, ρ2, G2, ⟨m2, r2, ho2⟩, s2, q2⟩
      have r2 : Rel K (b.wt m2) G2 H2 σ2 ρ2 := r2
      by_cases hlt : k < n
      · obtain ⟨t, et⟩ : ∃ t, n - k = t + 1 := ⟨n - k - 1, by omega⟩
        rw [et] at q2
        unfold forA at q2
        obtain ⟨⟨cr, cl⟩, q2⟩ := postM_if q2
        obtain ⟨_, vs, r0, y1, y2, y3, y4, y5, y6⟩ := cellAt r2 ho2 cl
        have lk : k < vs.length := by rw [y6]; exact hlt
        refine .inr ⟨⟨vs, vs[k], SqL.of y5, List.getElem?_eq_getElem lk⟩, fun σ H => k + 1 ≤ n ∧ ∃ ρ G, RelT K (b.hd h0) G H σ ρ ∧ Same G1 G ∧ PostM K b W G D (forA (fb ((i, p) :: ps)) j i p n (n - (k + 1)) ρ), fun σ' H' z => ⟨n - (k + 1), by omega, rfl, z.1, z.2⟩, fun x H3 y => ?_⟩
        obtain ⟨rfl, y⟩ := y
        have ex := y vs (SqL.of y5)
        have e2 : n - (t + 1) = k := by omega
        rw [e2] at q2
        have nx : Nav G2 m2 i r0 (p ++ [k]) x := Nav.snocL y3 y4 ex y2
        have ra := al_post (b := b.hd h0) (j := j) r2 ho2 y1 nx cr
        refine ⟨h0, _, hp0, _, G2, ra, ?_⟩
        have e3 : n - (k + 1) = t := by omega
        rw [e3]
        have back : ∀ {G' H' σ' ρ'}, RelT K (b.hd h0) G' H' σ' ρ' → RelT K b G' H' σ' ρ' := fun {G' H' σ' ρ'} ⟨m', r', ho'⟩ => ⟨m', r', low ho'⟩
        cases eb : fb ((i, p) :: ps) (ρ2.set j (some (.al i (p ++ [k])))) with
        | next ρ5 => simp only [eb] at q2; exact fun σ' G' H' r' s' => ⟨hlt, ρ5, G', r', s2.trans s', PostM.mono s' q2⟩
        | cnt ρ5 => simp only [eb] at q2; exact fun σ' G' H' r' s' => ⟨hlt, ρ5, G', r', s2.trans s', PostM.mono s' q2⟩
        | brk ρ5 => simp only [eb] at q2; exact fun σ' G' H' r' s' => q2 σ' G' H' (back r') s'
        | ret sv ρ5 => simp only [eb] at q2; exact fun v σ' G' H' m' r' s' => q2 v σ' G' H' m' r' s'
        | raise c ρ5 => simp only [eb] at q2; exact fun σ' G' H' r' s' => q2 σ' G' H' (back r') s'
        | stuck => simp only [eb] at q2; exact q2
      · have e : k = n := by omega
        subst e
        rw [Nat.sub_self] at q2
        unfold forA at q2
        obtain ⟨cl, q2⟩ := postM_if q2
        obtain ⟨_, vs, r0, y1, y2, y3, y4, y5, y6⟩ := cellAt r2 ho2 cl
        exact .inl ⟨⟨vs, SqL.of y5, by rw [y6]; exact Nat.le_refl _⟩, q2 σ2 G2 H2 ⟨m2, r2, low ho2⟩ (Same.refl _)⟩
theorem m_forA {ps : Pins} {j : Nat} {x : Str} {xp : Pos} {iter : Expr} {body : List Stmt} {fp : Ev → RP} {fb : Pins → Ev → RS} {pos : Pos} (hpin : b.pins = ps) (hp : PassesOwn (model X.prog X.w) X.A X.env X.xe) (hc : X.calm = true) (hN : X.N.Nodup) (hj : X.N[j]? = some x) (hx : Loc X.env.scope x) (hi : PE X iter (tPa X.K b W fp)) (hb : ∀ h ps', (b.hd h).pins = ps' → PSs X body (tM X.K (b.hd h) W (fb ps')))
    (hf : X.fn x = true ∨ X.env.scope.names.lookup x = some .local := by first | exact .inl rfl | exact .inr rfl) (hs : ∀ x, foldedSetIterable iter X.env x = pure x := by intro _; rfl) : PS X (.For (.Name x xp) iter body [] pos) (tM X.K b W (fForA ps j fp fb)) :=
  PS.imp (ps_for hp hc (pi_list hi) (pg_name hN hj hx hf) (⟨fun pins s σ H D inv ⟨h, ps', e, q⟩ => (hb h ps' e).run pins s σ H D inv q⟩ : PSs X body (fun D σ H => ∃ h ps', (b.hd h).pins = ps' ∧ tM X.K (b.hd h) W (fb ps') D σ H)) hs) (mforA_post hpin)
end
end Dl
set_option maxHeartbeats 2000000
/-! DlH: slots of unknown content; loops and comprehensions over whole lists. -/
namespace Dl
open PySem
/-- no list of the caller's -/
def NR (o : Option Sv) : Prop := ∀ l, o ≠ some (.rf l)
theorem nr_rf {o : Option Sv} (h : NR o) (ρ : Ev) : rfAt (o :: ρ) 0 = false := by
  unfold rfAt
  split
  · rename_i l e
    exact absurd (Option.some.inj e) (h l)
  · rfl
theorem nr_d (x : D) : NR (some (.d x)) := fun l z => nomatch z
theorem nr_ow (x : List D) : NR (some (.ow x)) := fun l z => nomatch z
theorem nr_on (x : Ow) : NR (some (.on x)) := fun l z => nomatch z
theorem nr_al (i : Nat) (p : List Nat) : NR (some (.al i p)) := fun l z => nomatch z
theorem nr_n : NR none := fun l z => nomatch z
theorem nr_kill {P : Nat → List Nat → Bool} {o : Option Sv} (h : NR o) : NR (kill1 P o) := fun l z => by
  cases o with
  | none => cases z
  | some s =>
    cases s with
    | al i p =>
      unfold kill1 at z
      dsimp only at z
      split at z <;> cases z
    | rf l' => exact h l' rfl
    | _ => cases z
theorem rfOf_nr {o : Option Sv} (h : NR o) (ρ : Ev) : rfOf (o :: ρ) = rfOf ρ := by
  cases o with
  | none => rfl
  | some sv => cases sv <;> first | rfl | exact absurd rfl (h _)
/-- shared data, or nothing -/
def Pd (o : Option Sv) : Prop := o = none ∨ ∃ x, o = some (.d x)
theorem Pd.d (x : D) : Pd (some (.d x)) := .inr ⟨x, rfl⟩
theorem Pd.n : Pd none := .inl rfl
theorem Pd.nr {o : Option Sv} (h : Pd o) : NR o := by
  rcases h with rfl | ⟨x, rfl⟩
  · exact nr_n
  · exact nr_d x
theorem Pd.kill {o : Option Sv} (h : Pd o) {P : Nat → List Nat → Bool} : kill1 P o = o := by
  rcases h with rfl | ⟨x, rfl⟩ <;> rfl
theorem lcX_map {α : Type} {vs : List Nat} {p : Pat} {fe : Ev → RE} {f g : α → D} {ρ : Ev} : ∀ {l : List α}, (∀ x ∈ l, ∃ ρ1 ρ2, bindP p (f x) ρ = some ρ1 ∧ fe ρ1 = .ok (.d (g x)) ρ2 ∧ wipeE ρ2 vs = ρ) → lcX vs p fe (l.map f) ρ = .ok (l.map g) ρ
  | [], _ => S.x_nil
  | x :: l, h => by
    obtain ⟨ρ1, ρ2, h1, h2, h3⟩ := h x (List.mem_cons_self ..)
    have ih := lcX_map (l := l) fun y hy => h y (List.mem_cons_of_mem _ hy)
    rw [List.map_cons, S.x_cons, h1, S.xB_s, h2, S.xE_d, h3, ih, S.xc_ok]
    rfl
theorem lc_mapT {α : Type} {vs : List Nat} {p : Pat} {fe : Ev → RE} {f g : α → D} {ρ : Ev} : ∀ {l : List α}, (∀ x ∈ l, ∃ ρ1 ρ2 sv, bindP p (f x) ρ = some ρ1 ∧ fe ρ1 = .ok sv ρ2 ∧ sv.dat? = some (g x) ∧ wipeE ρ2 vs = ρ) → lcL vs p fYes fe (l.map f) ρ = some (l.map g, ρ)
  | [], _ => S.lc_nil
  | x :: l, h => by
    obtain ⟨ρ1, ρ2, sv, h1, h2, h3, h4⟩ := h x (List.mem_cons_self ..)
    have ih := lc_mapT (l := l) fun y hy => h y (List.mem_cons_of_mem _ hy)
    rw [List.map_cons, S.lc_cons, h1, S.lcB_s]
    show lcT vs p fYes fe (l.map f) (.ok true ρ1) = _
    rw [S.lcT_t, h2]
    cases sv with
    | d y => rw [S.lcE_d, h4, ih, List.map_cons, ← Option.some.inj h3]; rfl
    | ow y => rw [S.lcE_ow, h4, ih, List.map_cons, ← Option.some.inj h3]; rfl
    | _ => cases h3
/-- with a test: what passes -/
theorem lc_filter {α : Type} {vs : List Nat} {p : Pat} {fc : Ev → RT} {fe : Ev → RE} {f g : α → D} {c : α → Bool} {ρ : Ev} : ∀ {l : List α}, (∀ x ∈ l, ∃ ρ1 ρ2, bindP p (f x) ρ = some ρ1 ∧ fc ρ1 = .ok (c x) ρ2 ∧ wipeE ρ2 vs = ρ ∧ (c x = true → ∃ ρ3 sv, fe ρ2 = .ok sv ρ3 ∧ sv.dat? = some (g x) ∧ wipeE ρ3 vs = ρ)) →
    lcL vs p fc fe (l.map f) ρ = some ((l.filter c).map g, ρ)
  | [], _ => S.lc_nil
  | x :: l, h => by
    obtain ⟨ρ1, ρ2, h1, h2, h3, h4⟩ := h x (List.mem_cons_self ..)
    have ih := lc_filter (l := l) fun y hy => h y (List.mem_cons_of_mem _ hy)
    rw [List.map_cons, S.lc_cons, h1, S.lcB_s, h2]
    cases hc : c x with
    | false =>
      rw [S.lcT_f, h3, ih, List.filter_cons_of_neg (by rw [hc]; exact Bool.false_ne_true)]
    | true =>
      obtain ⟨ρ3, sv, k1, k2, k3⟩ := h4 hc
      rw [S.lcT_t, k1, List.filter_cons_of_pos hc]
      cases sv with
      | d y => rw [S.lcE_d, k3, ih, List.map_cons, ← Option.some.inj k2]; rfl
      | ow y => rw [S.lcE_ow, k3, ih, List.map_cons, ← Option.some.inj k2]; rfl
      | _ => cases k2
/-- a loop by an invariant over what is left -/
theorem for_inv {p : Pat} {body : Ev → RS} (I : List D → Ev → Prop) : ∀ {l : List D} {ρ : Ev}, (∀ x r ρ, I (x :: r) ρ → ∃ ρ1 ρ2, bindP p x ρ = some ρ1 ∧ body ρ1 = .next ρ2 ∧ I r ρ2) → I l ρ → ∃ ρ', forL p body l ρ = .next ρ' ∧ I [] ρ'
  | [], ρ, _, h => ⟨ρ, S.for_nil, h⟩
  | x :: l, ρ, st, h => by
    obtain ⟨ρ1, ρ2, h1, h2, h3⟩ := st x l ρ h
    obtain ⟨ρ', h4, h5⟩ := for_inv I (l := l) st h3
    refine ⟨ρ', ?_, h5⟩
    rw [S.for_cons, h1, S.frB_s, h2, S.frS_n, h4]
/-! ### slices -/
theorem cut_to {α : Type} {l : List α} {k : Nat} : cutL l none (some (k : Int)) = l.take k := by
  unfold cutL
  rw [HT.sIx_nat]
  have h : HT.sIx l.length 0 none = 0 := rfl
  rw [h, List.drop_zero, Nat.sub_zero]
  by_cases c : k ≤ l.length
  · rw [Nat.min_eq_left c]
  · rw [Nat.min_eq_right (by omega), List.take_of_length_le (Nat.le_refl _), List.take_of_length_le (by omega)]
theorem cut_from {α : Type} {l : List α} {k : Nat} : cutL l (some (k : Int)) none = l.drop k := by
  unfold cutL
  rw [HT.sIx_nat]
  have h : HT.sIx l.length l.length none = l.length := rfl
  rw [h]
  by_cases c : k ≤ l.length
  · rw [Nat.min_eq_left c]
    exact List.take_of_length_le (by rw [List.length_drop]; exact Nat.le_refl _)
  · rw [Nat.min_eq_right (by omega), List.drop_of_length_le (Nat.le_refl _), List.drop_of_length_le (by omega), List.take_nil]
theorem slL_to {l : List D} {k : Nat} {i : Int} (h : i = (k : Int)) : slD (.list l) none (some i) = some (.ow (l.take k)) := by
  subst h
  show some (Sv.ow (cutL l none (some (k : Int)))) = _
  rw [cut_to]
theorem slL_from {l : List D} {k : Nat} {i : Int} (h : i = (k : Int)) : slD (.list l) (some i) none = some (.ow (l.drop k)) := by
  subst h
  show some (Sv.ow (cutL l (some (k : Int)) none)) = _
  rw [cut_from]
theorem slT_to {l : List D} {k : Nat} {i : Int} (h : i = (k : Int)) : slD (.tuple l) none (some i) = some (.d (.tuple (l.take k))) := by
  subst h
  show some (Sv.d (.tuple (cutL l none (some (k : Int))))) = _
  rw [cut_to]
theorem slT_from {l : List D} {k : Nat} {i : Int} (h : i = (k : Int)) : slD (.tuple l) (some i) none = some (.d (.tuple (l.drop k))) := by
  subst h
  show some (Sv.d (.tuple (cutL l (some (k : Int)) none))) = _
  rw [cut_from]
theorem bools_const {α : Type} (l : List α) : boolsOf (l.map fun _ => PyData.bool true) = some (l.map fun _ => true) := by
  induction l with
  | nil => rfl
  | cons x l ih => rw [List.map_cons, boolsOf, ih]; rfl
theorem allD_bools {l : List Bool} : allD (.list (l.map PyData.bool)) = some (.d (.bool (l.all id))) := by
  have e : ∀ l : List Bool, boolsOf (l.map PyData.bool) = some l := fun l => by
    induction l with
    | nil => rfl
    | cons x l ih => rw [List.map_cons, boolsOf, ih]; rfl
  show (boolsOf _).map (fun ns => bol (ns.all id)) = _
  rw [e]
  rfl
theorem eqI_list {l : List Int} (h : ∀ x ∈ l, x.natAbs < 10 ^ 60) : eqD (.list (l.map .int)) (.list (l.map .int)) = some (.d (.bool true)) := by
  refine eqD_rfl ?_ ?_
  · rw [neat_l]
    exact neats_map fun x hx => by unfold neat; exact decide_eq_true (h x hx)
  · have := depths_map (f := PyData.int) (c := 0) (l := l) fun x hx => Nat.le_refl _
    rw [PyData.depth]
    omega
end Dl
set_option maxHeartbeats 2000000
/-! DlK: more of what simp computes: pop and item stores at paths, zip. -/
namespace Dl
open PySem PySem.Spec L2
def popPJ (ps : Pins) (i : Nat) (p : List Nat) (w : Ow) (zs : List Ow) (ρ : Ev) (j : Nat) : Option Ow → RE
  | some (.dat x) => .ok (.d x) (putP ρ i p w (zs.eraseIdx j))
  | _ => .stuck
def popPK (ps : Pins) (i : Nat) (p : List Nat) (w : Ow) (zs : List Ow) (ρ : Ev) : Option Nat → RE
  | some j => popPJ ps i p w zs ρ j zs[j]?
  | none => .stuck
def popPO (ps : Pins) (i : Nat) (p : List Nat) (n : Int) (ρ : Ev) : Option (Ow × List Ow) → RE
  | some (w, zs) => if (-(2 ^ 63) ≤ n ∧ n < 2 ^ 63) ∧ pinP ps i p = true then popPK ps i p w zs ρ (seqIndex? n zs.length) else .stuck
  | none => .stuck
def orLE : Option (Ow × List Ow) → RE → RE | some _, r => r | none, _ => .stuck
def RP.popR (ps : Pins) (r : RP) (fk : Ev → RE) : RE := match r with
  | .ok i p ρ1 => orLE (lstAt ρ1 i p) (popP ps i p (fk ρ1))
  | .raise c ρ1 => .raise c ρ1
  | .stuck => .stuck
def setK (ps : Pins) (i : Nat) (p : List Nat) (x : D) (w : Ow) (zs : List Ow) (ρ : Ev) : Option Nat → RS
  | some k => if pinP ps i p = true then .next (putP ρ i p w (zs.set k (.dat x))) else .stuck
  | none => .stuck
def setPO (ps : Pins) (i : Nat) (p : List Nat) (x : D) (n : Int) (ρ : Ev) : Option (Ow × List Ow) → RS
  | some (w, zs) => setK ps i p x w zs ρ (ixN zs.length n)
  | none => .stuck
def RP.setR (ps : Pins) (r : RP) (fk : Ev → RE) (x : D) : RS := match r with
  | .ok i p ρ2 => orLW (lstAt ρ2 i p) (setP ps i p x (fk ρ2))
  | .raise c ρ2 => .raise c ρ2
  | .stuck => .stuck
namespace S
variable {ρ : Ev} {f g : Ev → RE} {i j c : Nat} {x : D} {l r : List D} {w : Ow} {zs : List Ow} {p : List Nat} {fp : Ev → RP} {fk : Ev → RE} {n : Int} {ps : Pins}
theorem fPopP_eq : fPopP ps fp fk ρ = RP.popR ps (fp ρ) fk := by
  unfold fPopP RP.popR
  cases fp ρ with
  | ok i p ρ1 => dsimp only; unfold orLE; cases lstAt ρ1 i p <;> rfl
  | _ => rfl
theorem popR_ok : RP.popR ps (.ok i p ρ) fk = orLE (lstAt ρ i p) (popP ps i p (fk ρ)) := nrfl
theorem orLE_s {a e} : orLE (some a) e = e := nrfl
theorem popP_i : popP ps i p (.ok (.d (.int n)) ρ) = popPO ps i p n ρ (lstAt ρ i p) := by
  show (match lstAt ρ i p with
    | some (w, zs) => if (-(2 ^ 63) ≤ n ∧ n < 2 ^ 63) ∧ pinP ps i p = true then match seqIndex? n zs.length with
      | some j => match zs[j]? with
        | some (.dat x) => RE.ok (.d x) (putP ρ i p w (zs.eraseIdx j))
        | _ => .stuck
      | none => .stuck else .stuck
    | none => .stuck) = _
  unfold popPO
  cases lstAt ρ i p with
  | none => rfl
  | some a =>
    obtain ⟨w, zs⟩ := a
    dsimp only
    unfold popPK
    split
    · cases seqIndex? n zs.length with
      | none => rfl
      | some j =>
        dsimp only
        unfold popPJ
        split <;> first | rfl | simp_all
    · rfl
theorem popO_s : popPO ps i p n ρ (some (w, zs)) = if (-(2 ^ 63) ≤ n ∧ n < 2 ^ 63) ∧ pinP ps i p = true then popPK ps i p w zs ρ (seqIndex? n zs.length) else .stuck := nrfl
theorem popK_s : popPK ps i p w zs ρ (some j) = popPJ ps i p w zs ρ j zs[j]? := nrfl
theorem popJ_s : popPJ ps i p w zs ρ j (some (.dat x)) = .ok (.d x) (putP ρ i p w (zs.eraseIdx j)) := nrfl
theorem fSetP_eq : fSetP ps fp fk f ρ = (f ρ).toSD fun x ρ1 => RP.setR ps (fp ρ1) fk x := by
  unfold fSetP
  congr 1
  funext x ρ1
  unfold RP.setR
  cases fp ρ1 with
  | ok i p ρ2 => dsimp only; unfold orLW; cases lstAt ρ2 i p <;> rfl
  | _ => rfl
theorem setR_ok : RP.setR ps (.ok i p ρ) fk x = orLW (lstAt ρ i p) (setP ps i p x (fk ρ)) := nrfl
theorem setP_i : setP ps i p x (.ok (.d (.int n)) ρ) = setPO ps i p x n ρ (lstAt ρ i p) := by
  show (match lstAt ρ i p with
    | some (w, zs) => match ixN zs.length n with
      | some k => if pinP ps i p = true then RS.next (putP ρ i p w (zs.set k (.dat x))) else .stuck
      | none => .stuck
    | none => .stuck) = _
  unfold setPO
  cases lstAt ρ i p with
  | none => rfl
  | some a =>
    obtain ⟨w, zs⟩ := a
    dsimp only
    unfold setK
    cases ixN zs.length n <;> rfl
theorem setPO_s : setPO ps i p x n ρ (some (w, zs)) = setK ps i p x w zs ρ (ixN zs.length n) := nrfl
theorem setK_s : setK ps i p x w zs ρ (some j) = if pinP ps i p = true then .next (putP ρ i p w (zs.set j (.dat x))) else .stuck := nrfl
theorem zip_eq : fZip f g ρ = zipI g (f ρ) := nrfl
theorem zip_d : zipI g (.ok (.d x) ρ) = RI.of (g ρ) (kZip x) := nrfl
theorem zip_ow : zipI g (.ok (.ow l) ρ) = RI.of (g ρ) (kZip (.list l)) := nrfl
theorem kzip_ll : kZip (.list l) (.list r) = some (zipD2 l r) := nrfl
theorem kzip_tt : kZip (.tuple l) (.tuple r) = some (zipD2 l r) := nrfl
end S
theorem ixN_nat {l k : Nat} (h : k < l) : ixN l (k : Int) = some k := by
  unfold ixN
  rw [if_pos (by omega), if_pos (by omega)]
  rfl
theorem seqIx_nat {l k : Nat} (h : k < l) : seqIndex? (k : Int) l = some k := by
  unfold seqIndex?
  simp
  omega
theorem atI_at {l : List D} {k : Nat} {x : D} {i : Int} (hi : i = (k : Int)) (h : l[k]? = some x) : L2.atI l i = some x := by subst hi; exact L2.atI_nat h
end Dl
set_option maxHeartbeats 4000000
namespace K88
open PySem PySem.Spec L2 Dl
def top (i : Nat) : Stmt := PySem.Challenge.pw_updownworths_k88_visits_joined.main.body.getD i (.Pass ⟨0, 0, 0, 0⟩)
abbrev Sem := Nat → Fn
def tab_WORDS : List (Str × Int) := [("sum", 2), ("less", 2), ("least", 2), ("greatest", 2), ("pick", 3), ("times", 1), ("rest", 1), ("num", 0), ("worth", 0)]
/-- is_number(thing): 0 thing -/
def fb0 (S : Sem) : Ev → RS :=
  (fRet (fAndV (fIsN 0 isIntT (fun _ => none)) (fNotV (fIsN 0 isBoolT (fun _ => none)))))
/-- numbers_fit(thing): 0 thing, 1 part -/
def fb1 (S : Sem) : Ev → RS :=
  (fSeq (fIf (fTest (fOp eqD (.e (fOp ixD (.n 0) (.e (fC (.int 0))))) (.e (fC (.str "num")))))
    (fRet (fAndV (fOp eqD (.e (fUn lenD (.n 0))) (.e (fC (.int 2)))) (fAndV (fCall (S 0) [.v (fOp ixD (.n 0) (.e (fC (.int 1))))]) (fOp ltD (.e (fUn absD (.e (fOp ixD (.n 0) (.e (fC (.int 1))))))) (.e (fOp powD (.e (fC (.int 10))) (.e (fC (.int 6)))))))))
    fSkip)
    (fSeq (fIf (fTest (fOp eqD (.e (fOp ixD (.n 0) (.e (fC (.int 0))))) (.e (fC (.str "worth")))))
    (fRet (fAndV (fOp eqD (.e (fUn lenD (.n 0))) (.e (fC (.int 3)))) (fUn allD (.e (fLc (fun ρ => RI.of ((fSl (.n 0) (.e (fC (.int 1))) .no) ρ) kSeq) [1] (.n 1) fYes (fAndV (fCall (S 0) [.v (fVar 1)]) (fOp geD (.n 1) (.e (fC (.int 0))))))))))
    fSkip)
    (fSeq (fIf (fTest (fOp eqD (.e (fOp ixD (.n 0) (.e (fC (.int 0))))) (.e (fC (.str "times")))))
    (fRet (fAndV (fOp eqD (.e (fUn lenD (.n 0))) (.e (fC (.int 3)))) (fAndV (fCall (S 0) [.v (fOp ixD (.n 0) (.e (fC (.int 1))))]) (fOp ltD (.e (fUn absD (.e (fOp ixD (.n 0) (.e (fC (.int 1))))))) (.e (fOp powD (.e (fC (.int 10))) (.e (fC (.int 4)))))))))
    fSkip)
    (fSeq (fIf (fTest (fOp eqD (.e (fOp ixD (.n 0) (.e (fC (.int 0))))) (.e (fC (.str "rest")))))
    (fRet (fAndV (fOp eqD (.e (fUn lenD (.n 0))) (.e (fC (.int 3)))) (fAndV (fCall (S 0) [.v (fOp ixD (.n 0) (.e (fC (.int 1))))]) (fChain ltD ltD (.e (fC (.int 0))) (.e (fOp ixD (.n 0) (.e (fC (.int 1))))) (.e (fOp powD (.e (fC (.int 10))) (.e (fC (.int 4)))))))))
    fSkip)
    (fRet (fOp eqD (.e (fUn lenD (.n 0))) (.e (fOp addD (.e (fC (.int 1))) (.e (fUn (kgetD tab_WORDS) (.e (fOp ixD (.n 0) (.e (fC (.int 0)))))))))))))))
/-- inner_of(formula): 0 formula, 1 many -/
def fb2 (S : Sem) : Ev → RS :=
  (fSeq (fSet 1 (fUn (kgetD tab_WORDS) (.e (fOp ixD (.n 0) (.e (fC (.int 0)))))))
    (fRet (fSl (.n 0) (.e (fOp subD (.e (fUn lenD (.n 0))) (.n 1))) .no)))
/-- deep_of(thing, deep): 0 thing, 1 deep, 2 part -/
def fb3 (S : Sem) : Ev → RS :=
  (fSeq (fIf (fOrT (fTest (fOp gtD (.n 1) (.e (fC (.int 4))))) (fOrT (fNotT (fTest (fIsN 0 isTupleT (fun _ => none)))) (fOrT (fTest (fOp eqD (.e (fUn lenD (.n 0))) (.e (fC (.int 0))))) (fNotT (fTest (fIsE (fOp ixD (.n 0) (.e (fC (.int 0)))) isStrT))))))
    (fRet (fOp addD (.e (fC (.int 15))) (.e (fC (.int 1)))))
    fSkip)
    (fSeq (fIf (fOrT (fTest (fUn (kninD tab_WORDS) (.e (fOp ixD (.n 0) (.e (fC (.int 0))))))) (fNotT (fTest (fCall (S 1) [.v (fVar 0)]))))
    (fRet (fOp addD (.e (fC (.int 15))) (.e (fC (.int 1)))))
    fSkip)
    (fRet (fOp addD (.e (fC (.int 1))) (.e (fUn sumD (.e (fLc (fun ρ => RI.of ((fCall (S 2) [.v (fVar 0)]) ρ) kSeq) [2] (.n 2) fYes (fCall (S 3) [.v (fVar 2), .v (fOp addD (.n 1) (.e (fC (.int 1))))])))))))))
/-- is_formula(thing): 0 thing -/
def fb4 (S : Sem) : Ev → RS :=
  (fRet (fOp leD (.e (fCall (S 3) [.v (fVar 0), .v (fC (.int 1))])) (.e (fC (.int 15)))))
/-- names_in(formula): 0 formula, 1 found, 2 part -/
def fb5 (S : Sem) : Ev → RS :=
  (fSeq (fIf (fTest (fOp eqD (.e (fOp ixD (.n 0) (.e (fC (.int 0))))) (.e (fC (.str "worth")))))
    (fRet (fLst [(fTup [(fOp ixD (.n 0) (.e (fC (.int 1)))), (fOp ixD (.n 0) (.e (fC (.int 2))))])]))
    fSkip)
    (fSeq (fSet 1 (fLst []))
    (fSeq (fFor (fun ρ => RI.of ((fCall (S 2) [.v (fVar 0)]) ρ) kSeq) (.n 2)
    (fSet 1 (fOp addD (.n 1) (.e (fCall (S 5) [.v (fVar 2)])))))
    (fRet (fMove 1)))))
/-- is_from(thing, low, high): 0 thing, 1 low, 2 high -/
def fb6 (S : Sem) : Ev → RS :=
  (fRet (fAndV (fCall (S 0) [.v (fVar 0)]) (fChain leD leD (.n 1) (.n 0) (.n 2))))
/-- is_sign(thing): 0 thing, 1 part -/
def fb7 (S : Sem) : Ev → RS :=
  (fRet (fAndV (fIsN 0 isTupleT (fun _ => none)) (fAndV (fOp eqD (.e (fUn lenD (.n 0))) (.e (fC (.int 2)))) (fUn allD (.e (fLc (fun ρ => RI.of ((fVar 0) ρ) kSeq) [1] (.n 1) fYes (fCall (S 6) [.v (fVar 1), .v (fC (.int 0)), .v (fC (.int 2))])))))))
/-- worths_of_place(signs, rule, place): 0 signs, 1 rule, 2 place, 3 places -/
def fb8 (S : Sem) : Ev → RS :=
  (fSeq (fSet 3 (fOp addD (.e (fTup [(fOp ixD (.n 1) (.e (fC (.int 0))))])) (.e (fOp ixD (.n 1) (.e (fC (.int 1)))))))
    (fSeq (fIf (fTest (fOp geD (.n 2) (.e (fUn lenD (.n 3)))))
    (fRet (fC (.int 0)))
    fSkip)
    (fRet (fUn sumT (.e (fOp ixD (.n 0) (.e (fOp ixD (.n 3) (.n 2)))))))))
/-- names_told(signs, rule): 0 signs, 1 rule, 2 downs, 3 ups, 4 found, 5 place, 6 part, 7 k -/
def fb9 (S : Sem) : Ev → RS :=
  (fSeq (fUnp (.t [(.n 2), (.n 3)]) (fOp ixD (.n 0) (.e (fOp ixD (.n 1) (.e (fC (.int 0)))))))
    (fSeq (fSet 4 (fLc (fun ρ => RI.of ((fVar 3) ρ) kRng) [7] (.n 7) fYes (fTup [(fC (.int 0)), (fOp addD (.n 2) (.n 7))])))
    (fSeq (fFor (fun ρ => RI.of ((fOp ixD (.n 1) (.e (fC (.int 1)))) ρ) kEnum) (.t [(.n 5), (.n 6)])
    (fSet 4 (fOp addD (.n 4) (.e (fLc (fun ρ => RI.of ((fOp ixD (.e (fOp ixD (.n 0) (.n 6))) (.e (fC (.int 0)))) ρ) kRng) [7] (.n 7) fYes (fTup [(fOp addD (.n 5) (.e (fC (.int 1)))), (fVar 7)]))))))
    (fRet (fMove 4)))))
/-- is_making(signs, rule, thing): 0 signs, 1 rule, 2 thing, 3 place, 4 number -/
def fb10 (S : Sem) : Ev → RS :=
  (fSeq (fIf (fNotT (fTest (fCall (S 4) [.v (fVar 2)])))
    (fRet (fC (.bool false)))
    fSkip)
    (fRet (fUn allD (.e (fLc (fun ρ => RI.of ((fCall (S 5) [.v (fVar 2)]) ρ) kSeq) [3, 4] (.t [(.n 3), (.n 4)]) fYes (fOp ltD (.n 4) (.e (fCall (S 8) [.v (fVar 0), .v (fVar 1), .v (fVar 3)]))))))))
/-- is_rule(signs, thing): 0 signs, 1 thing, 2 part -/
def fb11 (S : Sem) : Ev → RS :=
  (fSeq (fIf (fOrT (fNotT (fTest (fIsN 1 isTupleT (fun _ => none)))) (fOrT (fTest (fOp neD (.e (fUn lenD (.n 1))) (.e (fC (.int 3))))) (fNotT (fTest (fCall (S 6) [.v (fOp ixD (.n 1) (.e (fC (.int 0)))), .v (fC (.int 0)), .v (fOp subD (.e (fUn lenD (.n 0))) (.e (fC (.int 1))))])))))
    (fRet (fC (.bool false)))
    fSkip)
    (fSeq (fIf (fOrT (fNotT (fTest (fIsE (fOp ixD (.n 1) (.e (fC (.int 1)))) isTupleT))) (fOrT (fTest (fOp gtD (.e (fUn lenD (.e (fOp ixD (.n 1) (.e (fC (.int 1))))))) (.e (fC (.int 2))))) (fNotT (fTest (fIsE (fOp ixD (.n 1) (.e (fC (.int 2)))) isListT)))))
    (fRet (fC (.bool false)))
    fSkip)
    (fSeq (fIf (fNotT (fTest (fUn allD (.e (fLc (fun ρ => RI.of ((fOp ixD (.n 1) (.e (fC (.int 1)))) ρ) kSeq) [2] (.n 2) fYes (fCall (S 6) [.v (fVar 2), .v (fC (.int 0)), .v (fOp subD (.e (fUn lenD (.n 0))) (.e (fC (.int 1))))]))))))
    (fRet (fC (.bool false)))
    fSkip)
    (fSeq (fIf (fTest (fOp neD (.e (fUn lenD (.e (fOp ixD (.n 1) (.e (fC (.int 2))))))) (.e (fUn lenD (.e (fCall (S 9) [.v (fVar 0), .v (fVar 1)]))))))
    (fRet (fC (.bool false)))
    fSkip)
    (fRet (fUn allD (.e (fLc (fun ρ => RI.of ((fOp ixD (.n 1) (.e (fC (.int 2)))) ρ) kSeq) [2] (.n 2) fYes (fCall (S 10) [.v (fVar 0), .v (fVar 1), .v (fVar 2)])))))))))
/-- is_book(thing): 0 thing, 1 signs, 2 rules, 3 part, 4 sign, 5 rule -/
def fb12 (S : Sem) : Ev → RS :=
  (fSeq (fIf (fOrT (fNotT (fTest (fIsN 0 isTupleT (fun _ => none)))) (fOrT (fTest (fOp neD (.e (fUn lenD (.n 0))) (.e (fC (.int 2))))) (fNotT (fTest (fUn allD (.e (fLc (fun ρ => RI.of ((fVar 0) ρ) kSeq) [3] (.n 3) fYes (fIsN 3 isListT (fun _ => none)))))))))
    (fRet (fC (.bool false)))
    fSkip)
    (fSeq (fUnp (.t [(.n 1), (.n 2)]) (fVar 0))
    (fSeq (fIf (fOrT (fTest (fOp ltD (.e (fUn lenD (.n 1))) (.e (fC (.int 1))))) (fOrT (fTest (fOp gtD (.e (fUn lenD (.n 1))) (.e (fC (.int 4))))) (fTest (fOp gtD (.e (fUn lenD (.n 2))) (.e (fC (.int 8)))))))
    (fRet (fC (.bool false)))
    fSkip)
    (fRet (fAndV (fUn allD (.e (fLc (fun ρ => RI.of ((fVar 1) ρ) kSeq) [4] (.n 4) fYes (fCall (S 7) [.v (fVar 4)])))) (fUn allD (.e (fLc (fun ρ => RI.of ((fVar 2) ρ) kSeq) [5] (.n 5) fYes (fCall (S 11) [.v (fVar 1), .v (fVar 5)])))))))))
/-- look_at_book(thing): 0 thing -/
def fb13 (S : Sem) : Ev → RS :=
  (fIf (fNotT (fTest (fCall (S 12) [.v (fVar 0)])))
    (fRaise 1)
    fSkip)
/-- are_rising(thing, low, high): 0 thing, 1 low, 2 high, 3 part, 4 k -/
def fb14 (S : Sem) : Ev → RS :=
  (fSeq (fIf (fOrT (fNotT (fTest (fIsN 0 isTupleT (fun _ => none)))) (fNotT (fTest (fUn allD (.e (fLc (fun ρ => RI.of ((fVar 0) ρ) kSeq) [3] (.n 3) fYes (fCall (S 6) [.v (fVar 3), .v (fVar 1), .v (fOp subD (.n 2) (.e (fC (.int 1))))])))))))
    (fRet (fC (.bool false)))
    fSkip)
    (fRet (fUn allD (.e (fLc (fun ρ => RI.of ((fOp subD (.e (fUn lenD (.n 0))) (.e (fC (.int 1)))) ρ) kRng) [4] (.n 4) fYes (fOp ltD (.e (fOp ixD (.n 0) (.n 4))) (.e (fOp ixD (.n 0) (.e (fOp addD (.n 4) (.e (fC (.int 1)))))))))))))
/-- are_visits(sign, thing): 0 sign, 1 thing, 2 downs, 3 ups, 4 told, 5 visit -/
def fb15 (S : Sem) : Ev → RS :=
  (fSeq (fUnp (.t [(.n 2), (.n 3)]) (fVar 0))
    (fSeq (fIf (fNotT (fTest (fIsN 1 isListT (fun _ => none))))
    (fRet (fC (.bool false)))
    fSkip)
    (fSeq (fSet 4 (fLst []))
    (fSeq (fFor (fun ρ => RI.of ((fVar 1) ρ) kSeq) (.n 5)
    (fSeq (fIf (fOrT (fNotT (fTest (fIsN 5 isTupleT (fun _ => none)))) (fTest (fOp neD (.e (fUn lenD (.n 5))) (.e (fC (.int 2))))))
    (fRet (fC (.bool false)))
    fSkip)
    (fSeq (fIf (fOrT (fNotT (fTest (fCall (S 14) [.v (fOp ixD (.n 5) (.e (fC (.int 0)))), .v (fC (.int 0)), .v (fVar 2)]))) (fNotT (fTest (fCall (S 14) [.v (fOp ixD (.n 5) (.e (fC (.int 1)))), .v (fVar 2), .v (fOp addD (.n 2) (.n 3))]))))
    (fRet (fC (.bool false)))
    fSkip)
    (fSeq (fIf (fAndT (fTest (fOp eqD (.e (fOp addD (.e (fUn lenD (.e (fOp ixD (.n 5) (.e (fC (.int 0))))))) (.e (fUn lenD (.e (fOp ixD (.n 5) (.e (fC (.int 1))))))))) (.e (fC (.int 0))))) (fTest (fOp gtD (.e (fOp addD (.n 2) (.n 3))) (.e (fC (.int 0))))))
    (fRet (fC (.bool false)))
    fSkip)
    (fSet 4 (fOp addD (.n 4) (.e (fUn listD (.e (fOp addD (.e (fOp ixD (.n 5) (.e (fC (.int 0))))) (.e (fOp ixD (.n 5) (.e (fC (.int 1)))))))))))))))
    (fSeq (fIf (fTest (fOp eqD (.e (fOp addD (.n 2) (.n 3))) (.e (fC (.int 0)))))
    (fRet (fOp eqD (.e (fUn lenD (.n 1))) (.e (fC (.int 1)))))
    fSkip)
    (fRet (fOp eqD (.e (fUn srtD (.n 4))) (.e (fLRg (fOp addD (.n 2) (.n 3)))))))))))
/-- is_visit_book(book, thing): 0 book, 1 thing, 2 sign, 3 visits -/
def fb16 (S : Sem) : Ev → RS :=
  (fSeq (fIf (fOrT (fNotT (fTest (fIsN 1 isListT (fun _ => none)))) (fTest (fOp neD (.e (fUn lenD (.n 1))) (.e (fUn lenD (.e (fOp ixD (.n 0) (.e (fC (.int 0))))))))))
    (fRet (fC (.bool false)))
    fSkip)
    (fRet (fUn allD (.e (fLc (fZip (fOp ixD (.n 0) (.e (fC (.int 0)))) (fVar 1)) [2, 3] (.t [(.n 2), (.n 3)]) fYes (fCall (S 15) [.v (fVar 2), .v (fVar 3)]))))))
/-- look_at_visits(book, thing): 0 book, 1 thing -/
def fb17 (S : Sem) : Ev → RS :=
  (fSeq (fDrop (fCall (S 13) [.v (fVar 0)]))
    (fIf (fNotT (fTest (fCall (S 16) [.v (fVar 0), .v (fVar 1)])))
    (fRaise 3)
    fSkip))
/-- joined_at(visits, sign, at): 0 visits, 1 sign, 2 at, 3 row, 4 downs, 5 ups, 6 other, 7 some -/
def fb18 (S : Sem) : Ev → RS :=
  (fSeq (fSet 3 (fOp ixD (.n 0) (.n 1)))
    (fSeq (fSet 4 (fUn tupleD (.e (fUn srtD (.e (fOp addD (.e (fOp ixD (.e (fOp ixD (.n 3) (.n 2))) (.e (fC (.int 0))))) (.e (fOp ixD (.e (fOp ixD (.n 3) (.e (fOp addD (.n 2) (.e (fC (.int 1))))))) (.e (fC (.int 0)))))))))))
    (fSeq (fSet 5 (fUn tupleD (.e (fUn srtD (.e (fOp addD (.e (fOp ixD (.e (fOp ixD (.n 3) (.n 2))) (.e (fC (.int 1))))) (.e (fOp ixD (.e (fOp ixD (.n 3) (.e (fOp addD (.n 2) (.e (fC (.int 1))))))) (.e (fC (.int 1)))))))))))
    (fSeq (fSetM [] 6 (fOp addD (.e (fOp addD (.e (fUn listD (.e (fSl (.n 3) .no (.e (fVar 2)))))) (.e (fLst [(fTup [(fVar 4), (fVar 5)])])))) (.e (fUn listD (.e (fSl (.n 3) (.e (fOp addD (.n 2) (.e (fC (.int 2))))) .no))))))
    (fRet (fCatM (fCatM (fLcM (fun ρ => RI.of ((fSl (.n 0) .no (.e (fVar 1))) ρ) kSeq) [7] (.n 7) fYes (fUn listD (.n 7))) (fLstM [(fMvM 6)])) (fLcM (fun ρ => RI.of ((fSl (.n 0) (.e (fOp addD (.n 1) (.e (fC (.int 1))))) .no) ρ) kSeq) [7] (.n 7) fYes (fUn listD (.n 7)))))))))
/-- joined_visits(book, visits, sign, at): 0 book, 1 visits, 2 sign, 3 at -/
def fb19 (S : Sem) : Ev → RS :=
  (fSeq (fDrop (fCall (S 17) [.v (fVar 0), .v (fVar 1)]))
    (fSeq (fIf (fNotT (fTest (fCall (S 6) [.v (fVar 2), .v (fC (.int 0)), .v (fOp subD (.e (fUn lenD (.n 1))) (.e (fC (.int 1))))])))
    (fRaise 2)
    fSkip)
    (fSeq (fIf (fNotT (fTest (fCall (S 6) [.v (fVar 3), .v (fC (.int 0)), .v (fOp subD (.e (fUn lenD (.e (fOp ixD (.n 1) (.n 2))))) (.e (fC (.int 2))))])))
    (fRaise 4)
    fSkip)
    (fRet (fCallM (S 18) [.v (fVar 1), .v (fVar 2), .v (fVar 3)])))))
/-- _law_mixed(_law_cell_here, _law_k): 0 _law_cell_here, 1 _law_k, 2 _law_number -/
def fb20 (S : Sem) : Ev → RS :=
  (fSeq (fSet 2 (fOp modD (.e (fOp addD (.e (fOp addD (.e (fOp mulD (.e (fOp modD (.n 0) (.e (fC (.int 2147483647))))) (.e (fC (.int 48271))))) (.e (fOp mulD (.n 1) (.e (fC (.int 69621))))))) (.e (fC (.int 1048583))))) (.e (fC (.int 2147483629)))))
    (fSeq (fSet 2 (fOp modD (.e (fOp mulD (.n 2) (.n 2))) (.e (fC (.int 2147483587)))))
    (fRet (fOp modD (.e (fOp mulD (.n 2) (.e (fOp addD (.n 2) (.e (fC (.int 2))))))) (.e (fC (.int 2147483579)))))))
/-- _law_cell(_law_script, _law_k): 0 _law_script, 1 _law_k, 2 _law_cell_here, 3 _law_found, 4 _law_j -/
def fb21 (S : Sem) : Ev → RS :=
  (fSeq (fSet 2 (fC (.int 0)))
    (fSeq (fIf (fTest (fOp ltD (.n 1) (.e (fLenF 0))))
    (fSet 2 (fIxF 0 (fVar 1)))
    fSkip)
    (fSeq (fIf (fTest (fOp geD (.n 2) (.e (fOp powD (.e (fC (.int 10))) (.e (fC (.int 18)))))))
    (fRet (fOp modD (.e (fOp subD (.n 2) (.e (fOp powD (.e (fC (.int 10))) (.e (fC (.int 18))))))) (.e (fOp mulD (.e (fOp mulD (.e (fOp mulD (.e (fOp powD (.e (fC (.int 10))) (.e (fC (.int 60))))) (.e (fOp powD (.e (fC (.int 10))) (.e (fC (.int 60))))))) (.e (fOp powD (.e (fC (.int 10))) (.e (fC (.int 60))))))) (.e (fOp powD (.e (fC (.int 10))) (.e (fC (.int 60)))))))))
    fSkip)
    (fSeq (fSet 3 (fC (.int 0)))
    (fSeq (fFor (fun ρ => RI.of ((fC (.int 24)) ρ) kRng) (.n 4)
    (fSet 3 (fOp addD (.e (fOp mulD (.n 3) (.e (fC (.int 2147483579))))) (.e (fCall (S 20) [.v (fVar 2), .v (fOp addD (.e (fOp addD (.e (fOp mulD (.e (fC (.int 7))) (.n 1))) (.e (fOp mulD (.e (fC (.int 100))) (.n 4))))) (.e (fOp mulD (.n 4) (.n 4))))])))))
    (fRet (fMove 3)))))))
/-- _law_take(_law_pile, _law_size): 0 _law_pile, 1 _law_size, 2 _law_digit -/
def fb22 (S : Sem) : Ev → RS :=
  (fSeq (fSet 2 (fOp modD (.e (fOp ixD (.n 0) (.e (fC (.int 0))))) (.n 1)))
    (fSeq (fSetIx 0 (fC (.int 0)) (fOp fdivD (.e (fOp ixD (.n 0) (.e (fC (.int 0))))) (.n 1)))
    (fRet (fMove 2))))
/-- _law_formula(_law_pile, _law_names_here, _law_deep): 0 _law_pile, 1 _law_names_here, 2 _law_deep, 3 _law_way, 4 _law_word, 5 _law_inner, 6 _law_k -/
def fb23 (S : Sem) : Ev → RS :=
  (fSeq (fSet 3 (fCall (S 22) [.r 0, .v (fC (.int 10))]))
    (fSeq (fIf (fOrT (fTest (fOp eqD (.n 2) (.e (fC (.int 0))))) (fTest (fOp ltD (.n 3) (.e (fC (.int 3))))))
    (fSeq (fIf (fOrT (fTest (fOp eqD (.n 1) (.e (fLst [])))) (fTest (fOp eqD (.e (fCall (S 22) [.r 0, .v (fC (.int 5))])) (.e (fC (.int 0))))))
    (fRet (fTup [(fC (.str "num")), (fOp subD (.e (fCall (S 22) [.r 0, .v (fC (.int 19))])) (.e (fC (.int 9))))]))
    fSkip)
    (fRet (fOp addD (.e (fTup [(fC (.str "worth"))])) (.e (fOp ixD (.n 1) (.e (fCall (S 22) [.r 0, .v (fUn lenD (.n 1))])))))))
    fSkip)
    (fSeq (fSet 4 (fOp ixD (.e (fLst [(fC (.str "sum")), (fC (.str "less")), (fC (.str "least")), (fC (.str "greatest")), (fC (.str "times")), (fC (.str "rest")), (fC (.str "pick"))])) (.e (fOp subD (.n 3) (.e (fC (.int 3)))))))
    (fSeq (fSet 5 (fUn tupleD (.e (fLc (fun ρ => RI.of ((fOp ixD (.e (fLst [(fC (.int 2)), (fC (.int 2)), (fC (.int 2)), (fC (.int 2)), (fC (.int 1)), (fC (.int 1)), (fC (.int 3))])) (.e (fOp subD (.n 3) (.e (fC (.int 3)))))) ρ) kRng) [6] (.n 6) fYes (fCall (S 23) [.r 0, .v (fVar 1), .v (fOp subD (.n 2) (.e (fC (.int 1))))])))))
    (fSeq (fIf (fTest (fOp eqD (.n 4) (.e (fC (.str "times")))))
    (fRet (fOp addD (.e (fTup [(fVar 4), (fOp subD (.e (fCall (S 22) [.r 0, .v (fC (.int 7))])) (.e (fC (.int 3))))])) (.n 5)))
    fSkip)
    (fSeq (fIf (fTest (fOp eqD (.n 4) (.e (fC (.str "rest")))))
    (fRet (fOp addD (.e (fTup [(fVar 4), (fOp addD (.e (fC (.int 1))) (.e (fCall (S 22) [.r 0, .v (fC (.int 7))])))])) (.n 5)))
    fSkip)
    (fRet (fOp addD (.e (fTup [(fVar 4)])) (.n 5)))))))))
/-- _law_told(_law_signs, _law_sign, _law_parts): 0 _law_signs, 1 _law_sign, 2 _law_parts, 3 _law_downs, 4 _law_ups, 5 _law_found, 6 _law_place, 7 _law_part, 8 _law_k -/
def fb24 (S : Sem) : Ev → RS :=
  (fSeq (fUnp (.t [(.n 3), (.n 4)]) (fOp ixD (.n 0) (.n 1)))
    (fSeq (fSet 5 (fLc (fun ρ => RI.of ((fVar 4) ρ) kRng) [8] (.n 8) fYes (fTup [(fC (.int 0)), (fOp addD (.n 3) (.n 8))])))
    (fSeq (fFor (fun ρ => RI.of ((fVar 2) ρ) kEnum) (.t [(.n 6), (.n 7)])
    (fSet 5 (fOp addD (.n 5) (.e (fLc (fun ρ => RI.of ((fOp ixD (.e (fOp ixD (.n 0) (.n 7))) (.e (fC (.int 0)))) ρ) kRng) [8] (.n 8) fYes (fTup [(fOp addD (.n 6) (.e (fC (.int 1)))), (fVar 8)]))))))
    (fRet (fMove 5)))))
/-- _law_names(_law_signs, _law_sign, _law_parts, _law_free): 0 _law_signs, 1 _law_sign, 2 _law_parts, 3 _law_free, 4 _law_found, 5 _law_place, 6 _law_part, 7 _law_told_here, 8 _law_k, 9 _law_name -/
def fb25 (S : Sem) : Ev → RS :=
  (fSeq (fSet 4 (fLst []))
    (fSeq (fFor (fun ρ => RI.of ((fOp addD (.e (fTup [(fVar 1)])) (.n 2)) ρ) kEnum) (.t [(.n 5), (.n 6)])
    (fSet 4 (fOp addD (.n 4) (.e (fLc (fun ρ => RI.of ((fUn sumT (.e (fOp ixD (.n 0) (.n 6)))) ρ) kRng) [8] (.n 8) fYes (fTup [(fVar 5), (fVar 8)]))))))
    (fSeq (fIf (fTest (fVar 3))
    (fRet (fMove 4))
    fSkip)
    (fSeq (fSet 7 (fCall (S 24) [.v (fVar 0), .v (fVar 1), .v (fVar 2)]))
    (fRet (fLc (fun ρ => RI.of ((fVar 4) ρ) kSeq) [9] (.n 9) (fTest (fOp ninD (.n 9) (.n 7))) (fVar 9)))))))
/-- _law_rule(_law_pile, _law_signs, _law_sign, _law_most, _law_free): 0 _law_pile, 1 _law_signs, 2 _law_sign, 3 _law_most, 4 _law_free, 5 _law_parts, 6 _law_names_here, 7 _law_k, 8 _law_name -/
def fb26 (S : Sem) : Ev → RS :=
  (fSeq (fSet 5 (fUn tupleD (.e (fLc (fun ρ => RI.of ((fCall (S 22) [.r 0, .v (fOp addD (.n 3) (.e (fC (.int 1))))]) ρ) kRng) [7] (.n 7) fYes (fCall (S 22) [.r 0, .v (fUn lenD (.n 1))])))))
    (fSeq (fSet 6 (fCall (S 25) [.v (fVar 1), .v (fVar 2), .v (fVar 5), .v (fVar 4)]))
    (fRet (fTup [(fVar 2), (fVar 5), (fLc (fun ρ => RI.of ((fCall (S 24) [.v (fVar 1), .v (fVar 2), .v (fVar 5)]) ρ) kSeq) [8] (.n 8) fYes (fCall (S 23) [.r 0, .v (fVar 6), .v (fC (.int 2))]))]))))
/-- _law_book(_law_script, _law_start): 0 _law_script, 1 _law_start, 2 _law_pile, 3 _law_signs, 4 _law_leaves, 5 _law_free, 6 _law_rules, 7 _law_k, 8 _law_own, 9 _law_sign, 10 _law_most -/
def fb27 (S : Sem) : Ev → RS :=
  (fSeq (fSet 2 (fLst [(fCall (S 21) [.v (fVar 0), .v (fVar 1)])]))
    (fSeq (fSet 3 (fLc (fun ρ => RI.of ((fOp addD (.e (fC (.int 1))) (.e (fCall (S 22) [.r 2, .v (fC (.int 4))]))) ρ) kRng) [7] (.n 7) fYes (fTup [(fCall (S 22) [.r 2, .v (fC (.int 3))]), (fCall (S 22) [.r 2, .v (fC (.int 3))])])))
    (fSeq (fSet 4 (fOp gtD (.e (fCall (S 22) [.r 2, .v (fC (.int 4))])) (.e (fC (.int 0)))))
    (fSeq (fSet 5 (fOp eqD (.e (fCall (S 22) [.r 2, .v (fC (.int 4))])) (.e (fC (.int 0)))))
    (fSeq (fSet 6 (fLst []))
    (fSeq (fFor (fun ρ => RI.of ((fCall (S 22) [.r 2, .v (fC (.int 9))]) ρ) kRng) (.n 7)
    (fSeq (fSet 8 (fLst [(fCall (S 21) [.v (fVar 0), .v (fOp addD (.e (fOp addD (.n 1) (.e (fC (.int 1))))) (.n 7))])]))
    (fSeq (fSet 9 (fCall (S 22) [.r 8, .v (fUn lenD (.n 3))]))
    (fSeq (fSet 10 (fC (.int 2)))
    (fSeq (fIf (fAndT (fTest (fVar 4)) (fTest (fOp ltD (.n 7) (.e (fUn lenD (.n 3))))))
    (fSeq (fSet 9 (fVar 7))
    (fSet 10 (fC (.int 0))))
    fSkip)
    (fApp 6 (fCall (S 26) [.r 8, .v (fVar 3), .v (fVar 9), .v (fVar 10), .v (fVar 5)])))))))
    (fRet (fTup [(fVar 3), (fVar 6)]))))))))
/-- _law_copy(_law_book_here): 0 _law_book_here, 1 _law_sign, 2 _law_parts, 3 _law_makings -/
def fb28 (S : Sem) : Ev → RS :=
  (fRet (fTup [(fUn listD (.e (fOp ixD (.n 0) (.e (fC (.int 0)))))), (fLc (fun ρ => RI.of ((fOp ixD (.n 0) (.e (fC (.int 1)))) ρ) kSeq) [1, 2, 3] (.t [(.n 1), (.n 2), (.n 3)]) fYes (fTup [(fVar 1), (fVar 2), (fUn listD (.n 3))]))]))
/-- _law_visits(_law_pile, _law_sign): 0 _law_pile, 1 _law_sign, 2 _law_downs, 3 _law_ups, 4 _law_rows, 5 _law_number, 6 _law_row, 7 _law_found, 8 _law_k, 9 _law_one, 10 _law_other -/
def fb29 (S : Sem) : Ev → RS :=
  (fSeq (fUnp (.t [(.n 2), (.n 3)]) (fVar 1))
    (fSeq (fSetM [] 4 (fLcM (fun ρ => RI.of ((fOp addD (.n 2) (.n 3)) ρ) kRng) [8] (.n 8) fYes (fLstM [(fLst []), (fLst [])])))
    (fSeq (fFor (fun ρ => RI.of ((fOp addD (.n 2) (.n 3)) ρ) kRng) (.n 5)
    (fSeq (fAl 6 (fPx (fPn 4) (fCall (S 22) [.r 0, .v (fOp addD (.n 2) (.n 3))])))
    (fAppP [] (fPx (fPn 6) (fUn intD (.e (fOp geD (.n 5) (.n 2))))) (fVar 5))))
    (fSeq (fSet 7 (fBor (fLc (fun ρ => RI.of ((fVar 4) ρ) kSeq) [9, 10] (.t [(.n 9), (.n 10)]) (fTest (fOp neD (.e (fOp addD (.n 9) (.n 10))) (.e (fLst [])))) (fTup [(fUn tupleD (.n 9)), (fUn tupleD (.n 10))]))))
    (fSeq (fIf (fTest (fOp eqD (.n 7) (.e (fLst []))))
    (fRet (fLst [(fTup [(fTup []), (fTup [])])]))
    fSkip)
    (fRet (fMove 7)))))))
/-- _law_joined(_law_visits_here, _law_sign, _law_at): 0 _law_visits_here, 1 _law_sign, 2 _law_at, 3 _law_found, 4 _law_downs, 5 _law_ups, 6 _law_more, 7 _law_others, 8 _law_row -/
def fb30 (S : Sem) : Ev → RS :=
  (fSeq (fSetM [] 3 (fLcM (fun ρ => RI.of ((fVar 0) ρ) kSeq) [8] (.n 8) fYes (fUn listD (.n 8))))
    (fSeq (fUnp (.t [(.n 4), (.n 5)]) (fBor (fOp ixD (.e (fOp ixD (.n 3) (.n 1))) (.n 2))))
    (fSeq (fUnp (.t [(.n 6), (.n 7)]) (fPopP [] (fPx (fPn 3) (fVar 1)) (fOp addD (.n 2) (.e (fC (.int 1))))))
    (fSeq (fSetP [] (fPx (fPn 3) (fVar 1)) (fVar 2) (fTup [(fUn tupleD (.e (fUn srtD (.e (fOp addD (.n 4) (.n 6)))))), (fUn tupleD (.e (fUn srtD (.e (fOp addD (.n 5) (.n 7))))))]))
    (fRet (fMvM 3))))))
/-- _law_good(_law_book_here, _law_visits_here, _law_sign, _law_at): 0 _law_book_here, 1 _law_visits_here, 2 _law_sign, 3 _law_at, 4 _law_due, 5 _law_turn, 6 _law_found, 7 _law_place -/
def fb31 (S : Sem) : Ev → RS :=
  (fSeq (fSet 4 (fCall (S 30) [.v (fVar 1), .v (fVar 2), .v (fVar 3)]))
    (fSeq (fFor (fun ρ => RI.of ((fC (.int 2)) ρ) kRng) (.n 5)
    (fSeq (fSetM [] 6 (fCallM (S 19) [.v (fVar 0), .v (fVar 1), .v (fVar 2), .v (fVar 3)]))
    (fSeq (fIf (fBorT (fOrT (fNotT (fTest (fIsN 6 isListT (fun _ => none)))) (fTest (fOp neD (.e (fUn reprD (.n 6))) (.e (fUn reprD (.n 4)))))))
    (fRet (fC (.bool false)))
    fSkip)
    (fSeq (fFor (fun ρ => RI.of ((fBor (fUn lenD (.n 6))) ρ) kRng) (.n 7)
    (fSeq (fClrP [] (fPx (fPn 6) (fVar 7)))
    (fIf (fBorT (fTest (fOp neD (.e (fSl (.n 6) (.e (fOp addD (.n 7) (.e (fC (.int 1))))) .no)) (.e (fSl (.n 4) (.e (fOp addD (.n 7) (.e (fC (.int 1))))) .no)))))
    (fRet (fC (.bool false)))
    fSkip)))
    (fClrP [] (fPn 6))))))
    (fRet (fC (.bool true)))))
/-- law(_law_script): 0 _law_script, 1 _law_book_here, 2 _law_kept, 3 _law_k, 4 _law_pile, 5 _law_visits_here, 6 _law_text, 7 _law_sign, 8 _law_at, 9 _law_alike, 10 _law_twin, 11 _law_other -/
def fb32 (S : Sem) : Ev → RS :=
  (fSeq (fSet 1 (fCall (S 27) [.v (fVar 0), .v (fC (.int 0))]))
    (fSeq (fSet 2 (fCall (S 28) [.v (fVar 1)]))
    (fSeq (fFor (fun ρ => RI.of ((fOp maxD (.e (fOp minD (.e (fOp subD (.e (fLenF 0)) (.e (fC (.int 9))))) (.e (fC (.int 6))))) (.e (fC (.int 1)))) ρ) kRng) (.n 3)
    (fSeq (fSet 4 (fLst [(fCall (S 21) [.v (fVar 0), .v (fOp addD (.e (fC (.int 9))) (.n 3))])]))
    (fSeq (fSet 5 (fLc (fun ρ => RI.of ((fOp ixD (.n 1) (.e (fC (.int 0)))) ρ) kSeq) [7] (.n 7) fYes (fCall (S 29) [.r 4, .v (fVar 7)])))
    (fSeq (fSet 6 (fUn reprD (.n 5)))
    (fSeq (fFor (fun ρ => RI.of ((fUn lenD (.n 5)) ρ) kRng) (.n 7)
    (fFor (fun ρ => RI.of ((fOp subD (.e (fUn lenD (.e (fOp ixD (.n 5) (.n 7))))) (.e (fC (.int 1)))) ρ) kRng) (.n 8)
    (fSeq (fSet 9 (fLc (fun ρ => RI.of ((fUn lenD (.n 5)) ρ) kRng) [11] (.n 11) (fTest (fOp eqD (.e (fOp ixD (.e (fOp ixD (.n 1) (.e (fC (.int 0))))) (.n 11))) (.e (fOp ixD (.e (fOp ixD (.n 1) (.e (fC (.int 0))))) (.n 7))))) (fVar 11)))
    (fSeq (fSet 10 (fLc (fun ρ => RI.of ((fUn lenD (.n 5)) ρ) kRng) [11] (.n 11) fYes (fOp ixD (.n 5) (.e (fOp ixD (.e (fLst [(fVar 11), (fVar 7)])) (.e (fUn intD (.e (fOp inD (.n 11) (.n 9))))))))))
    (fIf (fOrT (fNotT (fTest (fCall (S 31) [.v (fVar 1), .v (fVar 5), .v (fVar 7), .v (fVar 8)]))) (fNotT (fTest (fCall (S 31) [.v (fVar 1), .v (fVar 10), .v (fVar 7), .v (fVar 8)]))))
    (fRet (fC (.bool false)))
    fSkip)))))
    (fIf (fTest (fOp neD (.e (fUn reprD (.n 5))) (.n 6)))
    (fRet (fC (.bool false)))
    fSkip))))))
    (fRet (fOp eqD (.n 1) (.n 2))))))
def bodyOf (S : Sem) (i : Nat) : Fn := match i with
  | 0 => runF 1 (fb0 S)
  | 1 => runF 2 (fb1 S)
  | 2 => runF 2 (fb2 S)
  | 3 => runF 3 (fb3 S)
  | 4 => runF 1 (fb4 S)
  | 5 => runF 3 (fb5 S)
  | 6 => runF 3 (fb6 S)
  | 7 => runF 2 (fb7 S)
  | 8 => runF 4 (fb8 S)
  | 9 => runF 8 (fb9 S)
  | 10 => runF 5 (fb10 S)
  | 11 => runF 3 (fb11 S)
  | 12 => runF 6 (fb12 S)
  | 13 => runF 1 (fb13 S)
  | 14 => runF 5 (fb14 S)
  | 15 => runF 6 (fb15 S)
  | 16 => runF 4 (fb16 S)
  | 17 => runF 2 (fb17 S)
  | 18 => runF 8 (fb18 S)
  | 19 => runF 4 (fb19 S)
  | 20 => runF 3 (fb20 S)
  | 21 => runF 5 (fb21 S)
  | 22 => runF 3 (fb22 S)
  | 23 => runF 7 (fb23 S)
  | 24 => runF 9 (fb24 S)
  | 25 => runF 10 (fb25 S)
  | 26 => runF 9 (fb26 S)
  | 27 => runF 11 (fb27 S)
  | 28 => runF 4 (fb28 S)
  | 29 => runF 11 (fb29 S)
  | 30 => runF 9 (fb30 S)
  | 31 => runF 8 (fb31 S)
  | 32 => runF 12 (fb32 S)
  | _ => fun _ => .stuck
def sem : Nat → Sem
  | 0, _ => fun _ => .stuck
  | n + 1, i => bodyOf (sem n) i
end K88
set_option maxHeartbeats 1000000
set_option exponentiation.threshold 10000
namespace K88
open Dl PySem
theorem sem_succ (n i : Nat) : sem (n + 1) i = bodyOf (sem n) i := rfl
theorem take_eq {n : Nat} {p k : Int} (hn : 1 ≤ n) (h0 : 0 < k) (h1 : k.natAbs.log2 < 9000) : sem n 22 [.rf [.int p], .d (.int k)] = .ok (.d (.int (p % k))) [.int (p / k)] := by
  obtain ⟨n, rfl⟩ : ∃ m, n = m + 1 := ⟨n - 1, by omega⟩
  simp only [sem_succ, bodyOf, fb22]
  simp_arith [h0, h1]
def isI : D → Bool | .int _ => true | _ => false
theorem num_eq {n : Nat} {x : D} (hn : 1 ≤ n) (h : ∀ kv, x ≠ .dict kv) : sem n 0 [.d x] = .ok (.d (.bool (isI x))) [] := by
  obtain ⟨n, rfl⟩ : ∃ m, n = m + 1 := ⟨n - 1, by omega⟩
  simp only [sem_succ, bodyOf, fb0]
  cases x with
  | dict kv => exact absurd rfl (h kv)
  | _ => simp_arith [isIntT, isBoolT, isI]
/-- the words of two entries -/
inductive W2 where
  | sum
  | less
  | least
  | greatest
def W2.s : W2 → Str | .sum => "sum" | .less => "less" | .least => "least" | .greatest => "greatest"
/-- a formula -/
inductive F where
  | num (i : Int)
  | wor (a b : Int)
  | two (w : W2) (a b : F)
  | pick (a b c : F)
  | times (k : Int) (a : F)
  | rest (k : Int) (a : F)
def F.d : F → D
  | .num i => .tuple [.str "num", .int i]
  | .wor a b => .tuple [.str "worth", .int a, .int b]
  | .two w a b => .tuple [.str w.s, a.d, b.d]
  | .pick a b c => .tuple [.str "pick", a.d, b.d, c.d]
  | .times k a => .tuple [.str "times", .int k, a.d]
  | .rest k a => .tuple [.str "rest", .int k, a.d]
def F.parts : F → Int
  | .num _ => 1
  | .wor _ _ => 1
  | .two _ a b => 1 + (a.parts + b.parts)
  | .pick a b c => 1 + (a.parts + (b.parts + c.parts))
  | .times _ a => 1 + a.parts
  | .rest _ a => 1 + a.parts
def F.deep : F → Nat
  | .num _ => 1
  | .wor _ _ => 1
  | .two _ a b => max a.deep b.deep + 1
  | .pick a b c => max a.deep (max b.deep c.deep) + 1
  | .times _ a => a.deep + 1
  | .rest _ a => a.deep + 1
def F.ok : F → Prop
  | .num i => -1000000 < i ∧ i < 1000000
  | .wor a b => (0 ≤ a ∧ a < 10000000000000000000000000000000000000000) ∧ (0 ≤ b ∧ b < 10000000000000000000000000000000000000000)
  | .two _ a b => a.ok ∧ b.ok
  | .pick a b c => a.ok ∧ b.ok ∧ c.ok
  | .times k a => (-10000 < k ∧ k < 10000) ∧ a.ok
  | .rest k a => (0 < k ∧ k < 10000) ∧ a.ok

/-! ### words -/
theorem kg_w (w : W2) : kgetD tab_WORDS (.str w.s) = some (.d (.int 2)) := by cases w <;> kernel_rfl
theorem kg_p : kgetD tab_WORDS (.str "pick") = some (.d (.int 3)) := by kernel_rfl
theorem kg_t : kgetD tab_WORDS (.str "times") = some (.d (.int 1)) := by kernel_rfl
theorem kg_r : kgetD tab_WORDS (.str "rest") = some (.d (.int 1)) := by kernel_rfl
theorem kg_n : kgetD tab_WORDS (.str "num") = some (.d (.int 0)) := by kernel_rfl
theorem kg_o : kgetD tab_WORDS (.str "worth") = some (.d (.int 0)) := by kernel_rfl
theorem kn_w (w : W2) : kninD tab_WORDS (.str w.s) = some (.d (.bool false)) := by cases w <;> kernel_rfl
theorem kn_p : kninD tab_WORDS (.str "pick") = some (.d (.bool false)) := by kernel_rfl
theorem kn_t : kninD tab_WORDS (.str "times") = some (.d (.bool false)) := by kernel_rfl
theorem kn_r : kninD tab_WORDS (.str "rest") = some (.d (.bool false)) := by kernel_rfl
theorem kn_n : kninD tab_WORDS (.str "num") = some (.d (.bool false)) := by kernel_rfl
theorem kn_o : kninD tab_WORDS (.str "worth") = some (.d (.bool false)) := by kernel_rfl
theorem w_num (w : W2) : (w.s == ("num" : Str)) = false := by cases w <;> decide +kernel
theorem w_wor (w : W2) : (w.s == ("worth" : Str)) = false := by cases w <;> decide +kernel
theorem w_tim (w : W2) : (w.s == ("times" : Str)) = false := by cases w <;> decide +kernel
theorem w_res (w : W2) : (w.s == ("rest" : Str)) = false := by cases w <;> decide +kernel
theorem nn : (("num" : Str) == ("num" : Str)) = true := by decide +kernel
theorem on : (("worth" : Str) == ("num" : Str)) = false := by decide +kernel
theorem oo : (("worth" : Str) == ("worth" : Str)) = true := by decide +kernel
theorem pn : (("pick" : Str) == ("num" : Str)) = false := by decide +kernel
theorem po : (("pick" : Str) == ("worth" : Str)) = false := by decide +kernel
theorem pt : (("pick" : Str) == ("times" : Str)) = false := by decide +kernel
theorem pr : (("pick" : Str) == ("rest" : Str)) = false := by decide +kernel
theorem tn : (("times" : Str) == ("num" : Str)) = false := by decide +kernel
theorem to : (("times" : Str) == ("worth" : Str)) = false := by decide +kernel
theorem tt : (("times" : Str) == ("times" : Str)) = true := by decide +kernel
theorem rn : (("rest" : Str) == ("num" : Str)) = false := by decide +kernel
theorem ro : (("rest" : Str) == ("worth" : Str)) = false := by decide +kernel
theorem rt : (("rest" : Str) == ("times" : Str)) = false := by decide +kernel
theorem rr : (("rest" : Str) == ("rest" : Str)) = true := by decide +kernel
theorem p6 : powD (.int 10) (.int 6) = some (.d (.int 1000000)) := by kernel_rfl
theorem n10 : (10 : Int).natAbs = 10 := rfl
theorem e6 : (10 : Int) ^ 6 = 1000000 := by decide
theorem e4 : (10 : Int) ^ 4 = 10000 := by decide
theorem sl_drop {l : List D} {k : Nat} (h : k ≤ l.length) : slD (.tuple l) (some (k : Int)) none = some (.d (.tuple (l.drop k))) := by
  show some (Sv.d (.tuple (cutL l (some (k : Int)) none))) = _
  have e : cutL l (some (k : Int)) none = l.drop k := by
    unfold cutL
    rw [HT.sIx_nat, Nat.min_eq_left h]
    have h2 : HT.sIx l.length l.length none = l.length := rfl
    rw [h2]
    exact List.take_of_length_le (by rw [List.length_drop]; omega)
  rw [e]
theorem sl1 {x : D} {l : List D} : slD (.tuple (x :: l)) (some 1) none = some (.d (.tuple l)) := sl_drop (l := x :: l) (k := 1) (by simp)
theorem sl2 {x y : D} {l : List D} : slD (.tuple (x :: y :: l)) (some 2) none = some (.d (.tuple l)) := sl_drop (l := x :: y :: l) (k := 2) (by simp)
theorem sl3 {x y z : D} {l : List D} : slD (.tuple (x :: y :: z :: l)) (some 3) none = some (.d (.tuple l)) := sl_drop (l := x :: y :: z :: l) (k := 3) (by simp)
theorem abs_i {i : Int} : absD (.int i) = some (.d (.int (if i < 0 then -i else i))) := rfl
theorem fit_eq {t : F} {n : Nat} (hn : 2 ≤ n) (ho : t.ok) : sem n 1 [.d t.d] = .ok (.d (.bool true)) [] := by
  obtain ⟨n, rfl⟩ : ∃ m, n = m + 1 := ⟨n - 1, by omega⟩
  have e := fun {i : Int} => num_eq (n := n) (x := .int i) (by omega) (fun _ z => nomatch z)
  cases t with
  | num i =>
    obtain ⟨h1, h2⟩ : -1000000 < i ∧ i < 1000000 := ho
    have h3 : (if i < 0 then -i else i) < 1000000 := by split <;> omega
    simp only [sem_succ, bodyOf, fb1, F.d]
    simp_arith [nn, e, isI, abs_i, n10, e6, h3]
  | wor a b =>
    obtain ⟨h1, h2⟩ : (0 ≤ a ∧ a < 10000000000000000000000000000000000000000) ∧ (0 ≤ b ∧ b < 10000000000000000000000000000000000000000) := ho
    simp only [sem_succ, bodyOf, fb1, F.d]
    simp_arith [on, oo, e, isI, sl1, h1, h2]
  | two w a b =>
    simp only [sem_succ, bodyOf, fb1, F.d]
    simp_arith [w_num, w_wor, w_tim, w_res, kg_w]
  | pick a b c =>
    simp only [sem_succ, bodyOf, fb1, F.d]
    simp_arith [pn, po, pt, pr, kg_p]
  | times k a =>
    obtain ⟨⟨h1, h2⟩, _⟩ : (-10000 < k ∧ k < 10000) ∧ a.ok := ho
    have h3 : (if k < 0 then -k else k) < 10000 := by split <;> omega
    simp only [sem_succ, bodyOf, fb1, F.d]
    simp_arith [tn, to, tt, e, isI, abs_i, n10, e4, h3]
  | rest k a =>
    obtain ⟨⟨h1, h2⟩, _⟩ : (0 < k ∧ k < 10000) ∧ a.ok := ho
    simp only [sem_succ, bodyOf, fb1, F.d]
    simp_arith [rn, ro, rt, rr, e, isI, n10, e4, h1, h2]

def F.inner : F → List D
  | .num _ => []
  | .wor _ _ => []
  | .two _ a b => [a.d, b.d]
  | .pick a b c => [a.d, b.d, c.d]
  | .times _ a => [a.d]
  | .rest _ a => [a.d]
theorem inner_eq (t : F) {n : Nat} (hn : 1 ≤ n) : sem n 2 [.d t.d] = .ok (.d (.tuple t.inner)) [] := by
  obtain ⟨n, rfl⟩ : ∃ m, n = m + 1 := ⟨n - 1, by omega⟩
  cases t with
  | num i => simp only [sem_succ, bodyOf, fb2, F.d, F.inner]; simp_arith [kg_n, sl2]
  | wor a b => simp only [sem_succ, bodyOf, fb2, F.d, F.inner]; simp_arith [kg_o, sl3]
  | two w a b => simp only [sem_succ, bodyOf, fb2, F.d, F.inner]; simp_arith [kg_w, sl1]
  | pick a b c => simp only [sem_succ, bodyOf, fb2, F.d, F.inner]; simp_arith [kg_p, sl1]
  | times k a => simp only [sem_succ, bodyOf, fb2, F.d, F.inner]; simp_arith [kg_t, sl2]
  | rest k a => simp only [sem_succ, bodyOf, fb2, F.d, F.inner]; simp_arith [kg_r, sl2]
theorem F.deep1 (t : F) : 1 ≤ t.deep := by cases t <;> unfold F.deep <;> omega
theorem F.parts1 : ∀ t : F, 1 ≤ t.parts
  | .num _ => Int.le_refl _
  | .wor _ _ => Int.le_refl _
  | .two _ a b => by have := F.parts1 a; have := F.parts1 b; unfold F.parts; omega
  | .pick a b c => by have := F.parts1 a; have := F.parts1 b; have := F.parts1 c; unfold F.parts; omega
  | .times _ a => by have := F.parts1 a; unfold F.parts; omega
  | .rest _ a => by have := F.parts1 a; unfold F.parts; omega
theorem deep_eq : ∀ (t : F) {n k : Nat}, t.ok → k + t.deep ≤ 5 → t.deep + 2 ≤ n → sem n 3 [.d t.d, .d (.int (k : Int))] = .ok (.d (.int t.parts)) []
  | .num i, n, k, ho, hk, hn => by
    unfold F.deep at hk hn
    obtain ⟨n, rfl⟩ : ∃ m, n = m + 1 := ⟨n - 1, by omega⟩
    have e1 := fit_eq (t := .num i) (n := n) (by omega) ho
    have e2 := inner_eq (.num i) (n := n) (by omega)
    have h : ¬ (4 : Int) < (k : Int) := by omega
    simp only [F.d, F.inner] at e1 e2
    simp only [sem_succ, bodyOf, fb3, F.d, F.parts]
    simp_arith [h, isTupleT, isStrT, kn_n, e1, e2]
  | .wor a b, n, k, ho, hk, hn => by
    unfold F.deep at hk hn
    obtain ⟨n, rfl⟩ : ∃ m, n = m + 1 := ⟨n - 1, by omega⟩
    have e1 := fit_eq (t := .wor a b) (n := n) (by omega) ho
    have e2 := inner_eq (.wor a b) (n := n) (by omega)
    have h : ¬ (4 : Int) < (k : Int) := by omega
    simp only [F.d, F.inner] at e1 e2
    simp only [sem_succ, bodyOf, fb3, F.d, F.parts]
    simp_arith [h, isTupleT, isStrT, kn_o, e1, e2]
  | .two w a b, n, k, ho, hk, hn => by
    unfold F.deep at hk hn
    obtain ⟨n, rfl⟩ : ∃ m, n = m + 1 := ⟨n - 1, by omega⟩
    have e1 := fit_eq (t := .two w a b) (n := n) (by omega) ho
    have e2 := inner_eq (.two w a b) (n := n) (by omega)
    have e3 := deep_eq a (n := n) (k := k + 1) ho.1 (by omega) (by omega)
    have e4 := deep_eq b (n := n) (k := k + 1) ho.2 (by omega) (by omega)
    have h : ¬ (4 : Int) < (k : Int) := by omega
    rw [show ((k + 1 : Nat) : Int) = (k : Int) + 1 by omega] at e3 e4
    simp only [F.d, F.inner] at e1 e2
    simp only [sem_succ, bodyOf, fb3, F.d, F.parts]
    simp_arith [h, isTupleT, isStrT, kn_w, e1, e2, e3, e4, Int.add_zero]
  | .pick a b c, n, k, ho, hk, hn => by
    unfold F.deep at hk hn
    obtain ⟨n, rfl⟩ : ∃ m, n = m + 1 := ⟨n - 1, by omega⟩
    have e1 := fit_eq (t := .pick a b c) (n := n) (by omega) ho
    have e2 := inner_eq (.pick a b c) (n := n) (by omega)
    have e3 := deep_eq a (n := n) (k := k + 1) ho.1 (by omega) (by omega)
    have e4 := deep_eq b (n := n) (k := k + 1) ho.2.1 (by omega) (by omega)
    have e5 := deep_eq c (n := n) (k := k + 1) ho.2.2 (by omega) (by omega)
    have h : ¬ (4 : Int) < (k : Int) := by omega
    rw [show ((k + 1 : Nat) : Int) = (k : Int) + 1 by omega] at e3 e4 e5
    simp only [F.d, F.inner] at e1 e2
    simp only [sem_succ, bodyOf, fb3, F.d, F.parts]
    simp_arith [h, isTupleT, isStrT, kn_p, e1, e2, e3, e4, e5, Int.add_zero]
  | .times i a, n, k, ho, hk, hn => by
    unfold F.deep at hk hn
    obtain ⟨n, rfl⟩ : ∃ m, n = m + 1 := ⟨n - 1, by omega⟩
    have e1 := fit_eq (t := .times i a) (n := n) (by omega) ho
    have e2 := inner_eq (.times i a) (n := n) (by omega)
    have e3 := deep_eq a (n := n) (k := k + 1) ho.2 (by omega) (by omega)
    have h : ¬ (4 : Int) < (k : Int) := by omega
    rw [show ((k + 1 : Nat) : Int) = (k : Int) + 1 by omega] at e3
    simp only [F.d, F.inner] at e1 e2
    simp only [sem_succ, bodyOf, fb3, F.d, F.parts]
    simp_arith [h, isTupleT, isStrT, kn_t, e1, e2, e3, Int.add_zero]
  | .rest i a, n, k, ho, hk, hn => by
    unfold F.deep at hk hn
    obtain ⟨n, rfl⟩ : ∃ m, n = m + 1 := ⟨n - 1, by omega⟩
    have e1 := fit_eq (t := .rest i a) (n := n) (by omega) ho
    have e2 := inner_eq (.rest i a) (n := n) (by omega)
    have e3 := deep_eq a (n := n) (k := k + 1) ho.2 (by omega) (by omega)
    have h : ¬ (4 : Int) < (k : Int) := by omega
    rw [show ((k + 1 : Nat) : Int) = (k : Int) + 1 by omega] at e3
    simp only [F.d, F.inner] at e1 e2
    simp only [sem_succ, bodyOf, fb3, F.d, F.parts]
    simp_arith [h, isTupleT, isStrT, kn_r, e1, e2, e3, Int.add_zero]
def F.fine (f : F) : Prop := f.ok ∧ f.deep ≤ 4 ∧ f.parts ≤ 15
theorem nt_small {i : Int} (h : -10000000000000000000000000000000000000000 < i ∧ i < 10000000000000000000000000000000000000000) : (nt i).length ≤ 41 := nt_len (k := 40) (by decide) (by omega)
end K88
set_option maxHeartbeats 1000000
set_option exponentiation.threshold 10000
namespace K88
open Dl PySem
theorem log_small {k : Int} (h0 : 0 ≤ k) (h : k ≤ 100000) : k.natAbs.log2 < 9000 := log_le (Nat.lt_of_lt_of_le (show k.natAbs < 2 ^ 20 by omega) (Nat.pow_le_pow_right (by decide) (by decide))) (by decide)
theorem T1 {n : Nat} {p k : Int} (hn : 1 ≤ n) (h : 0 < k) (h2 : k ≤ 2000000000) : sem n 22 [.rf [.int p], .d (.int k)] = .ok (.d (.int (p % k))) [.int (p / k)] :=
  take_eq hn h (log_le (Nat.lt_of_lt_of_le (show k.natAbs < 2 ^ 31 by omega) (Nat.pow_le_pow_right (by decide) (by decide))) (by decide))
theorem mixed_eq {n : Nat} {c k : Int} (hn : 1 ≤ n) (h0 : 0 ≤ k) (h1 : k < 100000) : ∃ r, 0 ≤ r ∧ r < 2147483579 ∧ sem n 20 [.d (.int c), .d (.int k)] = .ok (.d (.int r)) [] := by
  obtain ⟨n, rfl⟩ : ∃ m, n = m + 1 := ⟨n - 1, by omega⟩
  have big : (2147483647 : Nat) ≤ 2 ^ 4000 := by decide +kernel
  have m1 : (c % 2147483647).natAbs.log2 + (48271 : Int).natAbs.log2 < 1000000 := mul_small (pow_big (by omega) big) (pow_big (by decide) big)
  have m2 : k.natAbs.log2 + (69621 : Int).natAbs.log2 < 1000000 := mul_small (pow_big (by omega) big) (pow_big (by decide) big)
  have m3 : ∀ a b : Int, 0 ≤ a → a < 2147483647 → 0 ≤ b → b < 2147483647 → a.natAbs.log2 + b.natAbs.log2 < 1000000 := fun a b h1 h2 h3 h4 => mul_small (pow_big (by omega) big) (pow_big (by omega) big)
  simp only [sem_succ, bodyOf, fb20]
  simp_all_arith [m1, m2]
  generalize hx : (c % 2147483647 * 48271 + k * 69621 + 1048583) % 2147483629 = x
  have x0 : 0 ≤ x ∧ x < 2147483629 := by omega
  have m4 := m3 x x x0.1 (by omega) x0.1 (by omega)
  simp_all_arith [m4]
  generalize hy : x * x % 2147483587 = y
  have y0 : 0 ≤ y ∧ y < 2147483587 := by
    have := Int.emod_nonneg (x * x) (show (2147483587 : Int) ≠ 0 by decide)
    have := Int.emod_lt_of_pos (x * x) (show (0 : Int) < 2147483587 by decide)
    omega
  have m5 := m3 y (y + 2) y0.1 (by omega) (by omega) (by omega)
  simp_all_arith [m5]
  exact ⟨_, Int.emod_nonneg _ (by decide), Int.emod_lt_of_pos _ (by decide), rfl⟩
theorem cell_eq {n : Nat} {ns : List Int} {k : Nat} (hn : 2 ≤ n) (hk : k ≤ 1000) : ∃ c : Int, sem n 21 [.fz (ns.map PyData.int), .d (.int k)] = .ok (.d (.int c)) [] := by
  obtain ⟨n, rfl⟩ : ∃ m, n = m + 1 := ⟨n - 1, by omega⟩
  have n10 : (10 : Int).natAbs = 10 := rfl
  have l60 : ((10 : Int) ^ 60).natAbs.log2 = 199 := by kernel_rfl
  have l120 : ((10 : Int) ^ 60 * 10 ^ 60).natAbs.log2 = 398 := by kernel_rfl
  have l180 : ((10 : Int) ^ 60 * 10 ^ 60 * 10 ^ 60).natAbs.log2 = 597 := by kernel_rfl
  have pos : (0 : Int) < 10 ^ 60 * 10 ^ 60 * 10 ^ 60 * 10 ^ 60 := by decide +kernel
  -- from the script's number on
  have rest : ∀ c : Int, ∃ c' : Int, outO ((fSeq (fIf (fTest (fOp geD (.n 2) (.e (fOp powD (.e (fC (.int 10))) (.e (fC (.int 18)))))))
    (fRet (fOp modD (.e (fOp subD (.n 2) (.e (fOp powD (.e (fC (.int 10))) (.e (fC (.int 18))))))) (.e (fOp mulD (.e (fOp mulD (.e (fOp mulD (.e (fOp powD (.e (fC (.int 10))) (.e (fC (.int 60))))) (.e (fOp powD (.e (fC (.int 10))) (.e (fC (.int 60))))))) (.e (fOp powD (.e (fC (.int 10))) (.e (fC (.int 60))))))) (.e (fOp powD (.e (fC (.int 10))) (.e (fC (.int 60)))))))))
    fSkip)
    (fSeq (fSet 3 (fC (.int 0)))
    (fSeq (fFor (fun ρ => RI.of ((fC (.int 24)) ρ) kRng) (.n 4)
    (fSet 3 (fOp addD (.e (fOp mulD (.n 3) (.e (fC (.int 2147483579))))) (.e (fCall (sem n 20) [.v (fVar 2), .v (fOp addD (.e (fOp addD (.e (fOp mulD (.e (fC (.int 7))) (.n 1))) (.e (fOp mulD (.e (fC (.int 100))) (.n 4))))) (.e (fOp mulD (.n 4) (.n 4))))])))))
    (fRet (fMove 3))))) [some (.fz (ns.map PyData.int)), some (.d (.int k)), some (.d (.int c)), none, none]) = .ok (.d (.int c')) [] := by
    intro c
    by_cases h : (10 : Int) ^ 18 ≤ c
    · refine ⟨(c - 10 ^ 18) % (10 ^ 60 * 10 ^ 60 * 10 ^ 60 * 10 ^ 60), ?_⟩
      simp_arith [n10, l60, l120, l180, h, pos]
    · have up := kRng_up (n := 24) (by decide)
      have up : kRng (.int 24) = some (upFrom 0 24) := up
      obtain ⟨ρ', e, f, x, rfl, _, hx⟩ := for_n (v := 4) (body := fSet 3 (fOp addD (.e (fOp mulD (.n 3) (.e (fC (.int 2147483579))))) (.e (fCall (sem n 20) [.v (fVar 2), .v (fOp addD (.e (fOp addD (.e (fOp mulD (.e (fC (.int 7))) (.n 1))) (.e (fOp mulD (.e (fC (.int 100))) (.n 4))))) (.e (fOp mulD (.n 4) (.n 4))))]))))
        (I := fun j ρ => ∃ (f : Int) (x : Option Sv), ρ = [some (.fz (ns.map PyData.int)), some (.d (.int k)), some (.d (.int c)), some (.d (.int f)), x] ∧ (0 ≤ f ∧ f < 2 ^ (32 * j)) ∧ (x = none ∨ ∃ y, x = some (.d y))) (n := 24)
        (ρ := [some (.fz (ns.map PyData.int)), some (.d (.int k)), some (.d (.int c)), some (.d (.int 0)), none])
        (fun j ρ hj ⟨f, x, e, hf, hx⟩ => by
          subst e
          have rx : rfAt [x] 0 = false := by rcases hx with rfl | ⟨y, rfl⟩ <;> rfl
          obtain ⟨r, r0, r1, em⟩ := mixed_eq (n := n) (c := c) (k := 7 * (k : Int) + 100 * (j : Int) + (j : Int) * (j : Int)) (by omega) (by
            have : 0 ≤ (j : Int) * (j : Int) := Int.mul_nonneg (by omega) (by omega)
            omega) (by
            have : (j : Int) * (j : Int) ≤ 24 * 24 := Int.mul_le_mul (by omega) (by omega) (by omega) (by omega)
            omega)
          have big : (2147483647 : Nat) ≤ 2 ^ 4000 := by decide +kernel
          have pw : (2 : Int) ^ (32 * j) ≤ 2 ^ 768 := by
            have : (2 : Nat) ^ (32 * j) ≤ 2 ^ 768 := Nat.pow_le_pow_right (by decide) (by omega)
            exact_mod_cast this
          have fb : f.natAbs < 2 ^ 4000 := by
            have h3 : (2 : Int) ^ 768 < 2 ^ 4000 := by decide +kernel
            have h4 : ((f.natAbs : Nat) : Int) = f := by omega
            have h5 : ((f.natAbs : Nat) : Int) < ((2 ^ 4000 : Nat) : Int) := by
              rw [h4]
              have : ((2 ^ 4000 : Nat) : Int) = (2 : Int) ^ 4000 := by norm_cast
              omega
            exact_mod_cast h5
          have m1 : f.natAbs.log2 + (2147483579 : Int).natAbs.log2 < 1000000 := mul_small fb (pow_big (by decide) big)
          have m2 : (7 : Int).natAbs.log2 + ((k : Nat) : Int).natAbs.log2 < 1000000 := mul_small (pow_big (by decide) big) (pow_big (by omega) big)
          have m3 : (100 : Int).natAbs.log2 + ((j : Nat) : Int).natAbs.log2 < 1000000 := mul_small (pow_big (by decide) big) (pow_big (by omega) big)
          have m4 : ((j : Nat) : Int).natAbs.log2 + ((j : Nat) : Int).natAbs.log2 < 1000000 := mul_small (pow_big (by omega) big) (pow_big (by omega) big)
          refine ⟨rx, _, ?_, f * 2147483579 + r, some (.d (.int j)), rfl, ⟨?_, ?_⟩, .inr ⟨_, rfl⟩⟩
          · simp_all_arith [m1, m2, m3, m4, em]
          · have := Int.mul_nonneg hf.1 (show (0 : Int) ≤ 2147483579 by decide)
            omega
          · have h6 : (2 : Int) ^ (32 * (j + 1)) = 2 ^ (32 * j) * 4294967296 := by
              rw [Nat.mul_add, Int.pow_add]
              rfl
            rw [h6]
            have := Int.mul_le_mul_of_nonneg_right (show f + 1 ≤ 2 ^ (32 * j) by omega) (show (0 : Int) ≤ 2147483579 by decide)
            have := Int.mul_le_mul_of_nonneg_left (show (2147483579 : Int) ≤ 4294967296 by decide) (show (0 : Int) ≤ 2 ^ (32 * j) by omega)
            rw [Int.add_mul] at *
            omega) ⟨0, none, rfl, ⟨Int.le_refl _, by decide⟩, .inl rfl⟩
      refine ⟨f, ?_⟩
      simp_arith [n10, h, up, e]
      rcases hx with rfl | ⟨y, rfl⟩ <;> rfl
  simp only [sem_succ, bodyOf, fb21]
  by_cases h : ((k : Nat) : Int) < (((ns.map PyData.int).length : Nat) : Int)
  · have hl : k < ns.length := by rw [List.length_map] at h; omega
    have at1 : L2.atI (ns.map PyData.int) (k : Int) = some (.int ns[k]) := L2.atI_nat (by rw [List.getElem?_map, List.getElem?_eq_getElem hl]; rfl)
    obtain ⟨c', e⟩ := rest ns[k]
    refine ⟨c', ?_⟩
    rw [← e]
    rw [S.runF_eq, S.fSeq_eq]
    simp_arith [h, at1]
  · obtain ⟨c', e⟩ := rest 0
    refine ⟨c', ?_⟩
    rw [← e]
    rw [S.runF_eq, S.fSeq_eq]
    simp_arith [h]

end K88
set_option maxHeartbeats 2000000
set_option exponentiation.threshold 10000
namespace K88
open Dl PySem
/-! ### comprehensions over whole lists -/
theorem lc_map {vs : List Nat} {p : Pat} {fe : Ev → RE} {g : D → D} {ρ : Ev} : ∀ {l : List D}, (∀ x ∈ l, ∃ ρ1 ρ2, bindP p x ρ = some ρ1 ∧ fe ρ1 = .ok (.d (g x)) ρ2 ∧ wipeE ρ2 vs = ρ) → lcL vs p fYes fe l ρ = some (l.map g, ρ)
  | [], _ => S.lc_nil
  | x :: l, h => by
    obtain ⟨ρ1, ρ2, h1, h2, h3⟩ := h x (List.mem_cons_self ..)
    have ih := lc_map (l := l) fun y hy => h y (List.mem_cons_of_mem _ hy)
    rw [S.lc_cons, h1, S.lcB_s]
    show lcT vs p fYes fe l (.ok true ρ1) = _
    rw [S.lcT_t, h2, S.lcE_d, h3, ih]
    rfl
theorem lc_inv {vs : List Nat} {p : Pat} {fe : Ev → RE} {R : D → D → Prop} {I : Ev → Prop} : ∀ {l : List D} {ρ : Ev}, (∀ x ∈ l, ∀ ρ, I ρ → ∃ ρ1 ρ2 y, bindP p x ρ = some ρ1 ∧ fe ρ1 = .ok (.d y) ρ2 ∧ R x y ∧ I (wipeE ρ2 vs)) → I ρ →
    ∃ ys ρ', lcL vs p fYes fe l ρ = some (ys, ρ') ∧ ys.length = l.length ∧ (∀ y, y ∈ ys → ∃ x, x ∈ l ∧ R x y) ∧ I ρ'
  | [], ρ, _, hi => ⟨[], ρ, S.lc_nil, rfl, fun y hy => absurd hy (by simp), hi⟩
  | x :: l, ρ, h, hi => by
    obtain ⟨ρ1, ρ2, y, h1, h2, h3, h4⟩ := h x (List.mem_cons_self ..) ρ hi
    obtain ⟨ys, ρ', e, hl, hr, hi'⟩ := lc_inv (l := l) (fun z hz => h z (List.mem_cons_of_mem _ hz)) h4
    refine ⟨y :: ys, ρ', ?_, by simp [hl], fun z hz => ?_, hi'⟩
    · rw [S.lc_cons, h1, S.lcB_s]
      show lcT vs p fYes fe l (.ok true ρ1) = _
      rw [S.lcT_t, h2, S.lcE_d, e]
      rfl
    · rcases List.mem_cons.mp hz with rfl | hz
      · exact ⟨x, List.mem_cons_self .., h3⟩
      · obtain ⟨x', hx, r⟩ := hr z hz
        exact ⟨x', List.mem_cons_of_mem _ hx, r⟩
def pD (x : Nat × Nat) : D := .tuple [.int (x.1 : Nat), .int (x.2 : Nat)]
def iD (i : Nat) : D := .int (i : Nat)
def F.nms : F → List (Int × Int)
  | .num _ => []
  | .wor a b => [(a, b)]
  | .two _ a b => a.nms ++ b.nms
  | .pick a b c => a.nms ++ (b.nms ++ c.nms)
  | .times _ a => a.nms
  | .rest _ a => a.nms
def qD (x : Int × Int) : D := .tuple [.int x.1, .int x.2]
theorem F.nms_len : ∀ t : F, (t.nms.length : Int) ≤ t.parts
  | .num _ => by unfold F.nms F.parts; simp
  | .wor a b => by unfold F.nms F.parts; simp
  | .two _ a b => by have := a.nms_len; have := b.nms_len; unfold F.nms F.parts; simp only [List.length_append]; omega
  | .pick a b c => by have := a.nms_len; have := b.nms_len; have := c.nms_len; unfold F.nms F.parts; simp only [List.length_append]; omega
  | .times _ a => by have := a.nms_len; unfold F.nms F.parts; omega
  | .rest _ a => by have := a.nms_len; unfold F.nms F.parts; omega
theorem names_eq : ∀ (t : F) {n : Nat}, t.parts ≤ 1000 → t.deep + 1 ≤ n → sem n 5 [.d t.d] = .ok (.ow (t.nms.map qD)) []
  | .num i, n, hp, hd => by
    obtain ⟨n, rfl⟩ : ∃ m, n = m + 1 := ⟨n - 1, by omega⟩
    unfold F.deep at hd
    have e := inner_eq (.num i) (n := n) (by omega)
    simp only [sem_succ, bodyOf, fb5, F.d, F.nms]
    simp only [F.d, F.inner] at e
    simp_arith [e, nn, on, show (("num" : Str) == ("worth" : Str)) = false by decide +kernel]
  | .wor a b, n, hp, hd => by
    obtain ⟨n, rfl⟩ : ∃ m, n = m + 1 := ⟨n - 1, by omega⟩
    unfold F.deep at hd
    simp only [sem_succ, bodyOf, fb5, F.d, F.nms]
    simp_arith [oo]
    rfl
  | .two w a b, n, hp, hd => by
    obtain ⟨n, rfl⟩ : ∃ m, n = m + 1 := ⟨n - 1, by omega⟩
    unfold F.deep at hd
    unfold F.parts at hp
    have k1 := F.parts1 a
    have k2 := F.parts1 b
    have d1 := F.deep1 a
    have e := inner_eq (.two w a b) (n := n) (by omega)
    have l1 := a.nms_len
    have l2 := b.nms_len
    simp only [sem_succ, bodyOf, fb5, F.d, F.nms]
    simp only [F.d, F.inner] at e
    have e1 := names_eq a (n := n) (by omega) (by omega)
    have e2 := names_eq b (n := n) (by omega) (by omega)
    simp_all_arith [e, w_wor, e1, e2, List.length_map, List.nil_append, List.map_append]
  | .times k a, n, hp, hd => by
    obtain ⟨n, rfl⟩ : ∃ m, n = m + 1 := ⟨n - 1, by omega⟩
    unfold F.deep at hd
    unfold F.parts at hp
    have k1 := F.parts1 a
    have d1 := F.deep1 a
    have e := inner_eq (.times k a) (n := n) (by omega)
    have l1 := a.nms_len
    simp only [sem_succ, bodyOf, fb5, F.d, F.nms]
    simp only [F.d, F.inner] at e
    have e1 := names_eq a (n := n) (by omega) (by omega)
    simp_all_arith [e, to, e1, List.length_map, List.nil_append, List.map_append]
  | .rest k a, n, hp, hd => by
    obtain ⟨n, rfl⟩ : ∃ m, n = m + 1 := ⟨n - 1, by omega⟩
    unfold F.deep at hd
    unfold F.parts at hp
    have k1 := F.parts1 a
    have d1 := F.deep1 a
    have e := inner_eq (.rest k a) (n := n) (by omega)
    have l1 := a.nms_len
    simp only [sem_succ, bodyOf, fb5, F.d, F.nms]
    simp only [F.d, F.inner] at e
    have e1 := names_eq a (n := n) (by omega) (by omega)
    simp_all_arith [e, ro, e1, List.length_map, List.nil_append, List.map_append]
  | .pick a b c, n, hp, hd => by
    obtain ⟨n, rfl⟩ : ∃ m, n = m + 1 := ⟨n - 1, by omega⟩
    unfold F.deep at hd
    unfold F.parts at hp
    have k1 := F.parts1 a
    have k2 := F.parts1 b
    have k3 := F.parts1 c
    have d1 := F.deep1 a
    have e := inner_eq (.pick a b c) (n := n) (by omega)
    have l1 := a.nms_len
    have l2 := b.nms_len
    have l3 := c.nms_len
    simp only [sem_succ, bodyOf, fb5, F.d, F.nms]
    simp only [F.d, F.inner] at e
    have e1 := names_eq a (n := n) (by omega) (by omega)
    have e2 := names_eq b (n := n) (by omega) (by omega)
    have e3 := names_eq c (n := n) (by omega) (by omega)
    simp_all_arith [e, po, e1, e2, e3, List.length_map, List.length_append, List.nil_append, List.map_append, List.append_assoc]
theorem isfrom_eq {n : Nat} {i lo hi : Int} (hn : 2 ≤ n) : sem n 6 [.d (.int i), .d (.int lo), .d (.int hi)] = .ok (.d (.bool (decide (lo ≤ i ∧ i ≤ hi)))) [] := by
  obtain ⟨n, rfl⟩ : ∃ m, n = m + 1 := ⟨n - 1, by omega⟩
  have e := num_eq (x := .int i) (n := n) (by omega) (by intro _ h; cases h)
  simp only [isI] at e
  simp only [sem_succ, bodyOf, fb6]
  by_cases h1 : lo ≤ i <;> by_cases h2 : i ≤ hi
  all_goals
    simp_arith [e, h1, h2]
theorem sign_eq {n : Nat} {d u : Int} (hn : 3 ≤ n) : sem n 7 [.d (.tuple [.int d, .int u])] = .ok (.d (.bool (decide ((0 ≤ d ∧ d ≤ 2) ∧ (0 ≤ u ∧ u ≤ 2))))) [] := by
  obtain ⟨n, rfl⟩ : ∃ m, n = m + 1 := ⟨n - 1, by omega⟩
  have e1 := isfrom_eq (n := n) (i := d) (lo := 0) (hi := 2) (by omega)
  have e2 := isfrom_eq (n := n) (i := u) (lo := 0) (hi := 2) (by omega)
  simp only [sem_succ, bodyOf, fb7]
  by_cases h1 : 0 ≤ d ∧ d ≤ 2 <;> by_cases h2 : 0 ≤ u ∧ u ≤ 2
  all_goals
    simp only [h1, h2, decide_true, decide_false, and_self, and_true, and_false, true_and, false_and] at e1 e2 ⊢
    simp_arith [e1, e2, isTupleT, Bool.and_self]
end K88
set_option maxHeartbeats 2000000
set_option exponentiation.threshold 10000
namespace K88
open Dl PySem
def wid (sg : List (Nat × Nat)) (s : Nat) (ps : List Nat) (pl : Nat) : Nat := match (s :: ps)[pl]? with | none => 0 | some i => match sg[i]? with | some x => x.1 + x.2 | none => 0
/-- the sign of number i -/
def gt (sg : List (Nat × Nat)) (i : Nat) : Nat × Nat := sg.getD i (0, 0)
def toldP (sg : List (Nat × Nat)) : Nat → List Nat → List (Nat × Nat)
  | _, [] => []
  | i, p :: ps => (List.range (gt sg p).1).map (fun k => (i, k)) ++ toldP sg (i + 1) ps
def told (sg : List (Nat × Nat)) (s : Nat) (ps : List Nat) : List (Nat × Nat) := (List.range (gt sg s).2).map (fun k => (0, (gt sg s).1 + k)) ++ toldP sg 1 ps
/-- the parts of a rule are signs -/
def In (sg : List (Nat × Nat)) (s : Nat) (ps : List Nat) : Prop := s < sg.length ∧ ps.length ≤ 2 ∧ ∀ p ∈ ps, p < sg.length
def Small (sg : List (Nat × Nat)) : Prop := 1 ≤ sg.length ∧ sg.length ≤ 4 ∧ ∀ x ∈ sg, x.1 ≤ 2 ∧ x.2 ≤ 2
theorem at_sg {sg : List (Nat × Nat)} {i : Nat} (h : i < sg.length) : L2.atI (sg.map pD) (i : Int) = some (.tuple [.int ((gt sg i).1 : Nat), .int ((gt sg i).2 : Nat)]) := by
  refine L2.atI_nat ?_
  rw [List.getElem?_map, List.getElem?_eq_getElem h]
  simp [pD, gt, List.getD, h]
theorem Small.at {sg : List (Nat × Nat)} (h : Small sg) (i : Nat) : (gt sg i).1 ≤ 2 ∧ (gt sg i).2 ≤ 2 := by
  by_cases hi : i < sg.length
  · have := h.2.2 sg[i] (List.getElem_mem hi)
    simpa [gt, List.getD, hi] using this
  · simp [gt, List.getD, show sg[i]? = none from List.getElem?_eq_none (by omega)]
theorem place_eq {n pl s : Nat} {sg : List (Nat × Nat)} {ps : List Nat} {mk : D} (hn : 1 ≤ n) (hI : In sg s ps) : sem n 8 [.d (.list (sg.map pD)), .d (.tuple [.int (s : Nat), .tuple (ps.map iD), mk]), .d (.int (pl : Nat))] = .ok (.d (.int (wid sg s ps pl : Nat))) [] := by
  obtain ⟨n, rfl⟩ : ∃ m, n = m + 1 := ⟨n - 1, by omega⟩
  obtain ⟨h1, h2, h3⟩ := hI
  simp only [sem_succ, bodyOf, fb8]
  by_cases h : pl < (s :: ps).length
  · have hm : (s :: ps)[pl] < sg.length := by
      rcases List.mem_cons.mp (List.getElem_mem h) with e | e
      · omega
      · exact h3 _ e
    have a1 : L2.atI (.int (s : Nat) :: ps.map iD) (pl : Int) = some (.int (((s :: ps)[pl] : Nat) : Int)) := by
      refine L2.atI_nat ?_
      show ((s :: ps).map iD)[pl]? = _
      rw [List.getElem?_map, List.getElem?_eq_getElem h]
      rfl
    have a2 := at_sg hm
    have hw : wid sg s ps pl = (gt sg ((s :: ps)[pl])).1 + (gt sg ((s :: ps)[pl])).2 := by
      unfold wid
      rw [List.getElem?_eq_getElem h]
      dsimp only
      rw [List.getElem?_eq_getElem hm]
      simp [gt, List.getD, hm]
    rw [hw]
    generalize (s :: ps)[pl] = i at a1 a2
    have hp : ¬ ((pl : Nat) : Int) ≥ (((ps.length + 1 : Nat)) : Int) := by simp at h; omega
    have sm : ∀ a b : Int, sumT (.tuple [.int a, .int b]) = some (.d (.int (a + (b + 0)))) := fun _ _ => by kernel_rfl
    simp_all_arith [S.addT, List.length_map, a1, a2, hp, sm, Int.add_zero, Int.natCast_add]
  · have hw : wid sg s ps pl = 0 := by
      unfold wid
      rw [List.getElem?_eq_none (by omega)]
    rw [hw]
    have hp : ((pl : Nat) : Int) ≥ (((ps.length + 1 : Nat)) : Int) := by simp at h; omega
    simp_all_arith [S.addT, List.length_map, hp]
theorem up_map (lo : Int) (k : Nat) : ∀ x ∈ upFrom lo k, ∃ j : Int, x = .int j := fun x hx => by
  unfold upFrom at hx
  obtain ⟨i, _, rfl⟩ := List.mem_map.mp hx
  exact ⟨_, rfl⟩
def putI (i : Nat) : D → D | .int j => .tuple [.int (i : Nat), .int j] | _ => .none
def addI' (d : Nat) : D → D | .int j => .tuple [.int 0, .int ((d : Nat) + j)] | _ => .none
theorem up_put (i k : Nat) : (upFrom 0 k).map (putI i) = ((List.range k).map fun j => (i, j)).map pD := by
  unfold upFrom
  rw [List.map_map, List.map_map]
  refine List.map_congr_left fun j _ => ?_
  simp [putI, pD]
theorem up_add (d k : Nat) : (upFrom 0 k).map (addI' d) = ((List.range k).map fun j => (0, d + j)).map pD := by
  unfold upFrom
  rw [List.map_map, List.map_map]
  refine List.map_congr_left fun j _ => ?_
  simp [addI', pD]
theorem comp_up {a0 a1 a3 a4 a5 a6 : Option Sv} {d k : Nat} : lcL [7] (.n 7) fYes (fTup [(fC (.int 0)), (fOp addD (.n 2) (.n 7))]) (upFrom 0 k) [a0, a1, some (.d (.int (d : Nat))), a3, a4, a5, a6, none] =
    some (((List.range k).map fun j => (0, d + j)).map pD, [a0, a1, some (.d (.int (d : Nat))), a3, a4, a5, a6, none]) := by
  rw [lc_map (g := addI' d) (fun x hx => ?_), up_add]
  obtain ⟨j, rfl⟩ := up_map _ _ x hx
  refine ⟨[a0, a1, some (.d (.int (d : Nat))), a3, a4, a5, a6, some (.d (.int j))], [a0, a1, some (.d (.int (d : Nat))), a3, a4, a5, a6, some (.d (.int j))], rfl, ?_, rfl⟩
  simp_arith []
  rfl
theorem comp_put {a0 a1 a2 a3 a4 a6 : Option Sv} {i k : Nat} : lcL [7] (.n 7) fYes (fTup [(fOp addD (.n 5) (.e (fC (.int 1)))), (fVar 7)]) (upFrom 0 k) [a0, a1, a2, a3, a4, some (.d (.int (i : Nat))), a6, none] =
    some (((List.range k).map fun j => (i + 1, j)).map pD, [a0, a1, a2, a3, a4, some (.d (.int (i : Nat))), a6, none]) := by
  rw [lc_map (g := putI (i + 1)) (fun x hx => ?_), up_put]
  obtain ⟨j, rfl⟩ := up_map _ _ x hx
  refine ⟨[a0, a1, a2, a3, a4, some (.d (.int (i : Nat))), a6, some (.d (.int j))], [a0, a1, a2, a3, a4, some (.d (.int (i : Nat))), a6, some (.d (.int j))], rfl, ?_, rfl⟩
  simp_arith []
  rfl
theorem told_eq {n s : Nat} {sg : List (Nat × Nat)} {ps : List Nat} {mk : D} (hn : 1 ≤ n) (hS : Small sg) (hI : In sg s ps) : sem n 9 [.d (.list (sg.map pD)), .d (.tuple [.int (s : Nat), .tuple (ps.map iD), mk])] = .ok (.ow ((told sg s ps).map pD)) [] := by
  obtain ⟨n, rfl⟩ : ∃ m, n = m + 1 := ⟨n - 1, by omega⟩
  obtain ⟨h1, h2, h3⟩ := hI
  have as := at_sg h1
  have ks := hS.at s
  have U : ∀ k : Nat, k ≤ 2 → kRng (.int (k : Nat)) = some (upFrom 0 k) := fun k hk => kRng_up (by omega)
  have u1 := U _ ks.2
  have c0 := fun {a0 a1 a3 a4 a5 a6 : Option Sv} => comp_up (a0 := a0) (a1 := a1) (a3 := a3) (a4 := a4) (a5 := a5) (a6 := a6) (d := (gt sg s).1) (k := (gt sg s).2)
  have c1 := fun {a0 a1 a2 a3 a4 a6 : Option Sv} {i k : Nat} => comp_put (a0 := a0) (a1 := a1) (a2 := a2) (a3 := a3) (a4 := a4) (a6 := a6) (i := i) (k := k)
  simp only [sem_succ, bodyOf, fb9]
  match ps, h2, h3 with
  | [], _, _ =>
    have kE : kEnum (.tuple []) = some [] := rfl
    simp_all_arith [as, u1, c0, kE, len_up, List.length_map, List.length_range]
    simp [told, toldP]
  | [p], _, h3 =>
    have a1 := at_sg (h3 p (by simp))
    have k1 := hS.at p
    have u2 := U _ k1.1
    have kE : kEnum (.tuple [.int (p : Nat)]) = some [.tuple [.int ((0 : Nat) : Int), .int (p : Nat)]] := rfl
    have c2 := fun {a0 a1 a2 a3 a4 a6 : Option Sv} => c1 (a0 := a0) (a1 := a1) (a2 := a2) (a3 := a3) (a4 := a4) (a6 := a6) (i := 0) (k := (gt sg p).1)
    simp only [S.cast0] at c2
    simp only [List.map_cons, List.map_nil, iD]
    simp_all_arith [as, u1, c0, kE, a1, u2, c2, len_up, List.length_map, List.length_range]
    simp [told, toldP]
  | [p, q], _, h3 =>
    have a1 := at_sg (h3 p (by simp))
    have k1 := hS.at p
    have u2 := U _ k1.1
    have a2 := at_sg (h3 q (by simp))
    have k2 := hS.at q
    have u3 := U _ k2.1
    have kE : kEnum (.tuple [.int (p : Nat), .int (q : Nat)]) = some [.tuple [.int ((0 : Nat) : Int), .int (p : Nat)], .tuple [.int ((1 : Nat) : Int), .int (q : Nat)]] := rfl
    have c2 := fun {a0 a1 a2 a3 a4 a6 : Option Sv} => c1 (a0 := a0) (a1 := a1) (a2 := a2) (a3 := a3) (a4 := a4) (a6 := a6) (i := 0) (k := (gt sg p).1)
    have c3 := fun {a0 a1 a2 a3 a4 a6 : Option Sv} => c1 (a0 := a0) (a1 := a1) (a2 := a2) (a3 := a3) (a4 := a4) (a6 := a6) (i := 1) (k := (gt sg q).1)
    simp only [S.cast0] at c2
    simp only [S.cast1] at c3
    simp only [List.map_cons, List.map_nil, iD]
    simp_all_arith [as, u1, c0, kE, a1, u2, c2, a2, u3, c3, len_up, List.length_map, List.length_range, List.length_append]
    simp [told, toldP]
end K88
set_option maxHeartbeats 2000000
set_option exponentiation.threshold 10000
namespace K88
open Dl PySem
theorem bools_true {α : Type} (l : List α) : boolsOf (l.map fun _ => PyData.bool true) = some (l.map fun _ => true) := by
  induction l with
  | nil => rfl
  | cons x l ih => rw [List.map_cons, boolsOf, ih]; rfl
theorem all_true {α : Type} (l : List α) : (l.map fun _ => true).all id = true := by
  induction l with
  | nil => rfl
  | cons x l ih => rw [List.map_cons, List.all_cons, ih]; rfl
theorem allD_true {α : Type} (l : List α) : allD (.list (l.map fun _ => PyData.bool true)) = some (.d (.bool true)) := by
  show (boolsOf _).map (fun ns => bol (ns.all id)) = _
  rw [bools_true, Option.map_some, all_true]
  rfl
structure Ru where
  s : Nat
  ps : List Nat
  fm : List F
def Ru.d (r : Ru) : D := .tuple [.int (r.s : Nat), .tuple (r.ps.map iD), .list (r.fm.map F.d)]
/-- a formula of a rule -/
def Mk (sg : List (Nat × Nat)) (s : Nat) (ps : List Nat) (t : F) : Prop := t.fine ∧ ∀ x ∈ t.nms, 0 ≤ x.1 ∧ x.2 < (wid sg s ps x.1.toNat : Nat)
def Ru.good (sg : List (Nat × Nat)) (r : Ru) : Prop := In sg r.s r.ps ∧ r.fm.length = (told sg r.s r.ps).length ∧ ∀ t ∈ r.fm, Mk sg r.s r.ps t
theorem formula_eq {t : F} {n : Nat} (hn : 10 ≤ n) (h : t.fine) : sem n 4 [.d t.d] = .ok (.d (.bool true)) [] := by
  obtain ⟨n, rfl⟩ : ∃ m, n = m + 1 := ⟨n - 1, by omega⟩
  obtain ⟨h1, h2, h3⟩ := h
  have e := deep_eq t (n := n) (k := 1) h1 (by omega) (by omega)
  have e : sem n 3 [.d t.d, .d (.int 1)] = .ok (.d (.int t.parts)) [] := e
  simp only [sem_succ, bodyOf, fb4]
  simp_arith [e, h3]
theorem making_eq {n s : Nat} {sg : List (Nat × Nat)} {ps : List Nat} {t : F} {mk : D} (hn : 12 ≤ n) (hI : In sg s ps) (h : Mk sg s ps t) :
    sem n 10 [.d (.list (sg.map pD)), .d (.tuple [.int (s : Nat), .tuple (ps.map iD), mk]), .d t.d] = .ok (.d (.bool true)) [] := by
  obtain ⟨n, rfl⟩ : ∃ m, n = m + 1 := ⟨n - 1, by omega⟩
  obtain ⟨h0, h4⟩ := h
  have e1 := formula_eq (n := n) (by omega) h0
  obtain ⟨h1, h2, h3⟩ := h0
  have e2 := names_eq t (n := n) (by omega) (by omega)
  have c : lcL [3, 4] (.t [(.n 3), (.n 4)]) fYes (fOp ltD (.n 4) (.e (fCall (sem n 8) [.v (fVar 0), .v (fVar 1), .v (fVar 3)]))) (t.nms.map qD) [some (.d (.list (sg.map pD))), some (.d (.tuple [.int (s : Nat), .tuple (ps.map iD), mk])), some (.d t.d), none, none] =
      some ((t.nms.map qD).map (fun _ => .bool true), [some (.d (.list (sg.map pD))), some (.d (.tuple [.int (s : Nat), .tuple (ps.map iD), mk])), some (.d t.d), none, none]) :=
    lc_map fun x hx => by
      obtain ⟨⟨a, c⟩, hm, rfl⟩ := List.mem_map.mp hx
      obtain ⟨k1, k2⟩ := h4 _ hm
      obtain ⟨pl, rfl⟩ : ∃ pl : Nat, a = (pl : Int) := ⟨a.toNat, by omega⟩
      have e3 := place_eq (n := n) (pl := pl) (mk := mk) (by omega) hI
      have k2 : c < (wid sg s ps pl : Nat) := by simpa using k2
      refine ⟨[some (.d (.list (sg.map pD))), some (.d (.tuple [.int (s : Nat), .tuple (ps.map iD), mk])), some (.d t.d), some (.d (.int pl)), some (.d (.int c))], [some (.d (.list (sg.map pD))), some (.d (.tuple [.int (s : Nat), .tuple (ps.map iD), mk])), some (.d t.d), some (.d (.int pl)), some (.d (.int c))], rfl, ?_, rfl⟩
      simp_arith [e3, k2]
  have a := allD_true (t.nms.map qD)
  have hl := t.nms_len
  simp only [sem_succ, bodyOf, fb10]
  simp_all_arith [e1, e2, c, a, List.length_map]
theorem told_len {sg : List (Nat × Nat)} {s : Nat} {ps : List Nat} (hS : Small sg) (hI : In sg s ps) : (told sg s ps).length ≤ 100 := by
  have h0 := hS.at s
  obtain ⟨_, h2, _⟩ := hI
  unfold told
  match ps, h2 with
  | [], _ => simp [toldP]; omega
  | [p], _ =>
    have h1 := hS.at p
    simp [toldP]; omega
  | [p, q], _ =>
    have h1 := hS.at p
    have h2 := hS.at q
    simp [toldP]; omega
theorem rule_eq {n : Nat} {sg : List (Nat × Nat)} {r : Ru} (hn : 14 ≤ n) (hS : Small sg) (h : r.good sg) : sem n 11 [.d (.list (sg.map pD)), .d r.d] = .ok (.d (.bool true)) [] := by
  obtain ⟨n, rfl⟩ : ∃ m, n = m + 1 := ⟨n - 1, by omega⟩
  obtain ⟨s, ps, mk⟩ := r
  obtain ⟨hI, hl, hm⟩ := h
  dsimp only at hI hl hm
  have et := told_eq (n := n) (mk := .list (mk.map F.d)) (by omega) hS hI
  have hI2 := hI
  obtain ⟨i1, i2, i3⟩ := hI
  have fs : ∀ i : Nat, i < sg.length → sem n 6 [.d (.int (i : Nat)), .d (.int 0), .d (.int ((sg.length : Nat) - 1))] = .ok (.d (.bool true)) [] := fun i hi => by
    rw [isfrom_eq (by omega), decide_eq_true (by omega)]
  have f0 := fs s i1
  have cm : ∀ {a : Option Sv}, lcL [2] (.n 2) fYes (fCall (sem n 10) [.v (fVar 0), .v (fVar 1), .v (fVar 2)]) (mk.map F.d) [some (.d (.list (sg.map pD))), some (.d (.tuple [.int (s : Nat), .tuple (ps.map iD), .list (mk.map F.d)])), none] =
      some ((mk.map F.d).map (fun _ => .bool true), [some (.d (.list (sg.map pD))), some (.d (.tuple [.int (s : Nat), .tuple (ps.map iD), .list (mk.map F.d)])), none]) := fun {a} =>
    lc_map fun x hx => by
      obtain ⟨t, ht, rfl⟩ := List.mem_map.mp hx
      have e3 := making_eq (n := n) (mk := .list (mk.map F.d)) (by omega) hI2 (hm t ht)
      refine ⟨[some (.d (.list (sg.map pD))), some (.d (.tuple [.int (s : Nat), .tuple (ps.map iD), .list (mk.map F.d)])), some (.d t.d)], [some (.d (.list (sg.map pD))), some (.d (.tuple [.int (s : Nat), .tuple (ps.map iD), .list (mk.map F.d)])), some (.d t.d)], rfl, ?_, rfl⟩
      simp_arith [e3]
  have cp : lcL [2] (.n 2) fYes (fCall (sem n 6) [.v (fVar 2), .v (fC (.int 0)), .v (fOp subD (.e (fUn lenD (.n 0))) (.e (fC (.int 1))))]) (ps.map iD) [some (.d (.list (sg.map pD))), some (.d (.tuple [.int (s : Nat), .tuple (ps.map iD), .list (mk.map F.d)])), none] =
      some ((ps.map iD).map (fun _ => .bool true), [some (.d (.list (sg.map pD))), some (.d (.tuple [.int (s : Nat), .tuple (ps.map iD), .list (mk.map F.d)])), none]) :=
    lc_map fun x hx => by
      obtain ⟨p, hp, rfl⟩ := List.mem_map.mp hx
      have e3 := fs p (i3 p hp)
      refine ⟨[some (.d (.list (sg.map pD))), some (.d (.tuple [.int (s : Nat), .tuple (ps.map iD), .list (mk.map F.d)])), some (.d (iD p))], [some (.d (.list (sg.map pD))), some (.d (.tuple [.int (s : Nat), .tuple (ps.map iD), .list (mk.map F.d)])), some (.d (iD p))], rfl, ?_, rfl⟩
      unfold iD
      simp_arith [e3, List.length_map]
  have a1 := allD_true (mk.map F.d)
  have a2 := allD_true (ps.map iD)
  have le : ¬ ((ps.length : Nat) : Int) > 2 := by omega
  have cm := cm (a := none)
  simp only [sem_succ, bodyOf, fb11, Ru.d]
  have hL : mk.length ≤ 100 := by
    rw [hl]
    exact told_len hS hI2
  simp_all_arith [f0, cm, cp, a1, a2, et, le, hl, isTupleT, isListT, List.length_map]
def bookD (sg : List (Nat × Nat)) (rs : List Ru) : D := .tuple [.list (sg.map pD), .list (rs.map Ru.d)]
def Bk (sg : List (Nat × Nat)) (rs : List Ru) : Prop := Small sg ∧ rs.length ≤ 8 ∧ ∀ r ∈ rs, r.good sg
theorem book_eq {n : Nat} {sg : List (Nat × Nat)} {rs : List Ru} (hn : 16 ≤ n) (h : Bk sg rs) : sem n 12 [.d (bookD sg rs)] = .ok (.d (.bool true)) [] := by
  obtain ⟨n, rfl⟩ : ∃ m, n = m + 1 := ⟨n - 1, by omega⟩
  obtain ⟨hS, hr, hg⟩ := h
  have hS2 := hS
  obtain ⟨s1, s2, s3⟩ := hS2
  have cs : lcL [4] (.n 4) fYes (fCall (sem n 7) [.v (fVar 4)]) (sg.map pD) [some (.d (bookD sg rs)), some (.d (.list (sg.map pD))), some (.d (.list (rs.map Ru.d))), none, none, none] =
      some ((sg.map pD).map (fun _ => .bool true), [some (.d (bookD sg rs)), some (.d (.list (sg.map pD))), some (.d (.list (rs.map Ru.d))), none, none, none]) :=
    lc_map fun x hx => by
      obtain ⟨⟨a, c⟩, hm, rfl⟩ := List.mem_map.mp hx
      have hb := s3 _ hm
      have e3 := sign_eq (n := n) (d := (a : Nat)) (u := (c : Nat)) (by omega)
      rw [decide_eq_true (by dsimp only at hb; omega)] at e3
      refine ⟨[some (.d (bookD sg rs)), some (.d (.list (sg.map pD))), some (.d (.list (rs.map Ru.d))), none, some (.d (pD (a, c))), none], [some (.d (bookD sg rs)), some (.d (.list (sg.map pD))), some (.d (.list (rs.map Ru.d))), none, some (.d (pD (a, c))), none], rfl, ?_, rfl⟩
      unfold pD
      simp_arith [e3]
  have cr : lcL [5] (.n 5) fYes (fCall (sem n 11) [.v (fVar 1), .v (fVar 5)]) (rs.map Ru.d) [some (.d (bookD sg rs)), some (.d (.list (sg.map pD))), some (.d (.list (rs.map Ru.d))), none, none, none] =
      some ((rs.map Ru.d).map (fun _ => .bool true), [some (.d (bookD sg rs)), some (.d (.list (sg.map pD))), some (.d (.list (rs.map Ru.d))), none, none, none]) :=
    lc_map fun x hx => by
      obtain ⟨r, hm, rfl⟩ := List.mem_map.mp hx
      have e3 := rule_eq (n := n) (by omega) hS (hg r hm)
      refine ⟨[some (.d (bookD sg rs)), some (.d (.list (sg.map pD))), some (.d (.list (rs.map Ru.d))), none, none, some (.d r.d)], [some (.d (bookD sg rs)), some (.d (.list (sg.map pD))), some (.d (.list (rs.map Ru.d))), none, none, some (.d r.d)], rfl, ?_, rfl⟩
      simp_arith [e3]
  have a1 := allD_true (sg.map pD)
  have a2 := allD_true (rs.map Ru.d)
  have l1 : ¬ ((sg.length : Nat) : Int) < 1 := by omega
  have l2 : ¬ ((sg.length : Nat) : Int) > 4 := by omega
  have l3 : ¬ ((rs.length : Nat) : Int) > 8 := by omega
  simp only [sem_succ, bodyOf, fb12]
  unfold bookD at cs cr ⊢
  simp_all_arith [cs, cr, a1, a2, l1, l2, l3, isTupleT, isListT, List.length_map]
theorem look_eq {n : Nat} {sg : List (Nat × Nat)} {rs : List Ru} (hn : 17 ≤ n) (h : Bk sg rs) : sem n 13 [.d (bookD sg rs)] = .ok (.d .none) [] := by
  obtain ⟨n, rfl⟩ : ∃ m, n = m + 1 := ⟨n - 1, by omega⟩
  have e := book_eq (n := n) (by omega) h
  simp only [sem_succ, bodyOf, fb13]
  simp_arith [e]
end K88
set_option maxHeartbeats 4000000
set_option exponentiation.threshold 10000
namespace K88
open Dl PySem
theorem lay_all : ∀ l : List (Nat × Nat), PyData.canLayAll0 (l.map pD) = true ∧ PyData.depthAll (l.map pD) ≤ 3
  | [] => by simp [PyData.canLayAll0, PyData.depthAll]
  | x :: l => by
    obtain ⟨h1, h2⟩ := lay_all l
    simp [PyData.canLayAll0, PyData.canLay0, PyData.depthAll, PyData.depth, pD, h1]
    omega
theorem shape_l (l : List (Nat × Nat)) : SeqAt.shaped (.list (l.map pD)) = true := by
  obtain ⟨h1, h2⟩ := lay_all l
  simp [SeqAt.shaped, PyData.canLay0, PyData.depth, h1]
  omega
theorem shape_p (x : Nat × Nat) : SeqAt.shaped (pD x) = true := by
  simp [SeqAt.shaped, PyData.canLay0, PyData.canLayAll0, PyData.depth, PyData.depthAll, pD]
theorem eq_nilL (l : List (Nat × Nat)) : eqD (.list (l.map pD)) (.list []) = some (.d (.bool l.isEmpty)) := by
  have h := shape_l l
  have h2 : SeqAt.shaped (.list []) = true := by decide +kernel
  show (if SeqAt.shaped (.list (l.map pD)) && SeqAt.shaped (.list []) then some (PyData.eqv (.list (l.map pD)) (.list [])) else none : Option Bool).map bol = _
  rw [h, h2]
  cases l <;> rfl
theorem nin_some (x : Nat × Nat) (l : List (Nat × Nat)) : ∃ b, ninD (pD x) (.list (l.map pD)) = some (.d (.bool b)) := by
  have h : inB (pD x) (.list (l.map pD)) = if SeqAt.shaped (pD x) && SeqAt.shaped (.list (l.map pD)) then some ((l.map pD).any fun z => PyData.eqv z (pD x)) else none := by
    unfold inB pD
    rfl
  unfold ninD
  rw [h, shape_l, shape_p]
  exact ⟨_, rfl⟩
theorem upL1 : kRng (.int 1) = some [.int 0] := by rfl
theorem upL2 : kRng (.int 2) = some [.int 0, .int 1] := by rfl
theorem upL3 : kRng (.int 3) = some [.int 0, .int 1, .int 2] := by rfl
theorem ixW {w : Int} {z : Str} {k : Nat} (hk : ([("sum" : Str), "less", "least", "greatest", "times", "rest", "pick"])[k]? = some z) (hw : w = (k : Int)) : ixD (.list [.str "sum", .str "less", .str "least", .str "greatest", .str "times", .str "rest", .str "pick"]) (.int w) = some (.d (.str z)) := by
  subst hw
  show (L2.atI ([("sum" : Str), "less", "least", "greatest", "times", "rest", "pick"].map PyData.str) (k : Int)).map Sv.d = _
  rw [L2.atI_nat (v := PyData.str z) (by rw [List.getElem?_map, hk]; rfl)]
  rfl
theorem at7_0 (a b c d e f g : D) : L2.atI [a, b, c, d, e, f, g] 0 = some a := rfl
theorem at7_1 (a b c d e f g : D) : L2.atI [a, b, c, d, e, f, g] 1 = some b := rfl
theorem at7_2 (a b c d e f g : D) : L2.atI [a, b, c, d, e, f, g] 2 = some c := rfl
theorem at7_3 (a b c d e f g : D) : L2.atI [a, b, c, d, e, f, g] 3 = some d := rfl
theorem at7_4 (a b c d e f g : D) : L2.atI [a, b, c, d, e, f, g] 4 = some e := rfl
theorem at7_5 (a b c d e f g : D) : L2.atI [a, b, c, d, e, f, g] 5 = some f := rfl
theorem at7_6 (a b c d e f g : D) : L2.atI [a, b, c, d, e, f, g] 6 = some g := rfl
def cap : Nat → Int | 0 => 1 | d + 1 => 1 + 3 * cap d
theorem cap_pos : ∀ d, 1 ≤ cap d | 0 => Int.le_refl _ | d + 1 => by have := cap_pos d; unfold cap; omega
/-- the names of a formula are among these -/
def Of (nm : List (Nat × Nat)) (t : F) : Prop := ∀ x ∈ t.nms, ∃ y ∈ nm, x = (((y.1 : Nat) : Int), ((y.2 : Nat) : Int))
theorem formula_l : ∀ (dp : Nat) {n : Nat} {p : Int} {nm : List (Nat × Nat)}, dp + 2 ≤ n → nm.length ≤ 1000 → (∀ y ∈ nm, y.1 < 1000 ∧ y.2 < 1000) → ∃ (t : F) (p' : Int), t.ok ∧ t.parts ≤ cap dp ∧ t.deep ≤ dp + 1 ∧ Of nm t ∧
    sem n 23 [.rf [.int p], .d (.list (nm.map pD)), .d (.int (dp : Nat))] = .ok (.d t.d) [.int p']
  | dp, n, p, nm, hn, hl, hb => by
    obtain ⟨n, rfl⟩ : ∃ m, n = m + 1 := ⟨n - 1, by omega⟩
    have t10 := T1 (n := n) (p := p) (k := 10) (by omega) (by decide) (by decide)
    have t5 := fun {p : Int} => T1 (n := n) (p := p) (k := 5) (by omega) (by decide) (by decide)
    have t19 := fun {p : Int} => T1 (n := n) (p := p) (k := 19) (by omega) (by decide) (by decide)
    have t7 := fun {p : Int} => T1 (n := n) (p := p) (k := 7) (by omega) (by decide) (by decide)
    have w0 := Int.emod_nonneg p (show (10 : Int) ≠ 0 by decide)
    have w1 := Int.emod_lt_of_pos p (show (0 : Int) < 10 by decide)
    have en := eq_nilL nm
    generalize p / 10 = p1 at t10
    generalize p % 10 = w at t10 w0 w1
    by_cases leaf : dp = 0 ∨ w < 3
    · have lf : ∀ (c1 : ((dp : Nat) : Int) = 0 ∨ w < 3), (((dp : Nat) : Int) = 0) ∨ (¬ ((dp : Nat) : Int) = 0 ∧ w < 3) := fun _ => by omega
      have lf := lf (by omega)
      cases hm : nm with
      | nil =>
        rw [hm] at en
        refine ⟨.num (p1 % 19 - 9), p1 / 19, ⟨by omega, by omega⟩, by have := cap_pos dp; unfold F.parts; omega, by unfold F.deep; omega, fun x hx => absurd hx (by simp [F.nms]), ?_⟩
        simp only [List.map_nil, List.isEmpty_nil] at en
        simp only [sem_succ, bodyOf, fb23, F.d, List.map_nil]
        rcases lf with c | ⟨c, c2⟩
        · simp_arith [t10, c, en, t19]
        · simp_arith [t10, c, c2, en, t19]
      | cons y0 l0 =>
        have hne : nm ≠ [] := by rw [hm]; exact List.cons_ne_nil _ _
        rw [← hm]
        have en : eqD (.list (nm.map pD)) (.list []) = some (.d (.bool false)) := by rw [en, hm]; rfl
        by_cases c5 : p1 % 5 = 0
        · refine ⟨.num (p1 / 5 % 19 - 9), p1 / 5 / 19, ⟨by omega, by omega⟩, by have := cap_pos dp; unfold F.parts; omega, by unfold F.deep; omega, fun x hx => absurd hx (by simp [F.nms]), ?_⟩
          simp only [sem_succ, bodyOf, fb23, F.d]
          rcases lf with c | ⟨c, c2⟩
          · simp_arith [t10, c, en, t5, c5, t19]
          · simp_arith [t10, c, c2, en, t5, c5, t19]
        · have l0 : 0 < nm.length := List.length_pos_iff.mpr hne
          have tl := T1 (n := n) (p := p1 / 5) (k := ((nm.length : Nat) : Int)) (by omega) (by omega) (by omega)
          obtain ⟨i, hi⟩ : ∃ i : Nat, p1 / 5 % ((nm.length : Nat) : Int) = (i : Int) := ⟨(p1 / 5 % ((nm.length : Nat) : Int)).toNat, by have := Int.emod_nonneg (p1 / 5) (show ((nm.length : Nat) : Int) ≠ 0 by omega); omega⟩
          have hil : i < nm.length := by have := Int.emod_lt_of_pos (p1 / 5) (show (0 : Int) < ((nm.length : Nat) : Int) by omega); omega
          rw [hi] at tl
          have ai : L2.atI (nm.map pD) (i : Int) = some (.tuple [.int ((nm[i].1 : Nat) : Int), .int ((nm[i].2 : Nat) : Int)]) := by
            refine L2.atI_nat ?_
            rw [List.getElem?_map, List.getElem?_eq_getElem hil]
            rfl
          have bi := hb _ (List.getElem_mem hil)
          refine ⟨.wor ((nm[i].1 : Nat) : Int) ((nm[i].2 : Nat) : Int), p1 / 5 / ((nm.length : Nat) : Int), ⟨by omega, by omega⟩, by have := cap_pos dp; unfold F.parts; omega, by unfold F.deep; omega, fun x hx => ⟨nm[i], List.getElem_mem hil, by simpa [F.nms] using hx⟩, ?_⟩
          simp only [sem_succ, bodyOf, fb23, F.d]
          rcases lf with c | ⟨c, c2⟩
          · simp_all_arith [t10, c, en, t5, c5, tl, ai, List.length_map, S.addT]
          · simp_all_arith [t10, c, c2, en, t5, c5, tl, ai, List.length_map, S.addT]
    · obtain ⟨d, rfl⟩ : ∃ d, dp = d + 1 := ⟨dp - 1, by omega⟩
      have IH := fun (p : Int) => formula_l d (n := n) (p := p) (nm := nm) (by omega) hl hb
      have c1 : ¬ (((d + 1 : Nat) : Nat) : Int) = 0 := by omega
      have c2 : ¬ w < 3 := by omega
      have cd : (((d + 1 : Nat) : Nat) : Int) - 1 = ((d : Nat) : Int) := by omega
      have kp := cap_pos d
      have ww : w = 3 ∨ w = 4 ∨ w = 5 ∨ w = 6 ∨ w = 7 ∨ w = 8 ∨ w = 9 := by omega
      have tn : ∀ z : W2, (z.s == ("times" : Str)) = false := w_tim
      have rn' : ∀ z : W2, (z.s == ("rest" : Str)) = false := w_res
      rcases ww with e | e | e | e | e | e | e <;> subst e
      · obtain ⟨a, q1, ao, ak, ad, an, e1⟩ := IH p1
        obtain ⟨b, q2, bo, bk, bd, bn, e2⟩ := IH q1
        have xw := ixW (w := 3 - 3) (k := 0) (z := W2.s .sum) rfl rfl
        have xm : ixD (.list [.int 2, .int 2, .int 2, .int 2, .int 1, .int 1, .int 3]) (.int (3 - 3)) = some (.d (.int 2)) := by kernel_rfl
        have x1 : (("sum" : Str) == ("times" : Str)) = false := w_tim .sum
        have x2 : (("sum" : Str) == ("rest" : Str)) = false := w_res .sum
        refine ⟨.two .sum a b, q2, ⟨ao, bo⟩, by unfold F.parts cap; omega, by unfold F.deep; omega, fun x hx => (List.mem_append.mp hx).elim (an x) (bn x), ?_⟩
        simp only [sem_succ, bodyOf, fb23, F.d]
        simp_all_arith [t10, c1, at7_0, at7_1, at7_2, at7_3, at7_4, at7_5, at7_6, upL2, cd, e1, e2, x1, x2, S.addT, W2.s]
      · obtain ⟨a, q1, ao, ak, ad, an, e1⟩ := IH p1
        obtain ⟨b, q2, bo, bk, bd, bn, e2⟩ := IH q1
        have xw := ixW (w := 4 - 3) (k := 1) (z := W2.s .less) rfl rfl
        have xm : ixD (.list [.int 2, .int 2, .int 2, .int 2, .int 1, .int 1, .int 3]) (.int (4 - 3)) = some (.d (.int 2)) := by kernel_rfl
        have x1 : (("less" : Str) == ("times" : Str)) = false := w_tim .less
        have x2 : (("less" : Str) == ("rest" : Str)) = false := w_res .less
        refine ⟨.two .less a b, q2, ⟨ao, bo⟩, by unfold F.parts cap; omega, by unfold F.deep; omega, fun x hx => (List.mem_append.mp hx).elim (an x) (bn x), ?_⟩
        simp only [sem_succ, bodyOf, fb23, F.d]
        simp_all_arith [t10, c1, at7_0, at7_1, at7_2, at7_3, at7_4, at7_5, at7_6, upL2, cd, e1, e2, x1, x2, S.addT, W2.s]
      · obtain ⟨a, q1, ao, ak, ad, an, e1⟩ := IH p1
        obtain ⟨b, q2, bo, bk, bd, bn, e2⟩ := IH q1
        have xw := ixW (w := 5 - 3) (k := 2) (z := W2.s .least) rfl rfl
        have xm : ixD (.list [.int 2, .int 2, .int 2, .int 2, .int 1, .int 1, .int 3]) (.int (5 - 3)) = some (.d (.int 2)) := by kernel_rfl
        have x1 : (("least" : Str) == ("times" : Str)) = false := w_tim .least
        have x2 : (("least" : Str) == ("rest" : Str)) = false := w_res .least
        refine ⟨.two .least a b, q2, ⟨ao, bo⟩, by unfold F.parts cap; omega, by unfold F.deep; omega, fun x hx => (List.mem_append.mp hx).elim (an x) (bn x), ?_⟩
        simp only [sem_succ, bodyOf, fb23, F.d]
        simp_all_arith [t10, c1, at7_0, at7_1, at7_2, at7_3, at7_4, at7_5, at7_6, upL2, cd, e1, e2, x1, x2, S.addT, W2.s]
      · obtain ⟨a, q1, ao, ak, ad, an, e1⟩ := IH p1
        obtain ⟨b, q2, bo, bk, bd, bn, e2⟩ := IH q1
        have xw := ixW (w := 6 - 3) (k := 3) (z := W2.s .greatest) rfl rfl
        have xm : ixD (.list [.int 2, .int 2, .int 2, .int 2, .int 1, .int 1, .int 3]) (.int (6 - 3)) = some (.d (.int 2)) := by kernel_rfl
        have x1 : (("greatest" : Str) == ("times" : Str)) = false := w_tim .greatest
        have x2 : (("greatest" : Str) == ("rest" : Str)) = false := w_res .greatest
        refine ⟨.two .greatest a b, q2, ⟨ao, bo⟩, by unfold F.parts cap; omega, by unfold F.deep; omega, fun x hx => (List.mem_append.mp hx).elim (an x) (bn x), ?_⟩
        simp only [sem_succ, bodyOf, fb23, F.d]
        simp_all_arith [t10, c1, at7_0, at7_1, at7_2, at7_3, at7_4, at7_5, at7_6, upL2, cd, e1, e2, x1, x2, S.addT, W2.s]
      · obtain ⟨a, q1, ao, ak, ad, an, e1⟩ := IH p1
        have xw := ixW (w := 7 - 3) (k := 4) (z := "times") rfl rfl
        have xm : ixD (.list [.int 2, .int 2, .int 2, .int 2, .int 1, .int 1, .int 3]) (.int (7 - 3)) = some (.d (.int 1)) := by kernel_rfl
        refine ⟨.times (q1 % 7 - 3) a, q1 / 7, ⟨⟨by omega, by omega⟩, ao⟩, by unfold F.parts cap; omega, by unfold F.deep; omega, fun x hx => an x hx, ?_⟩
        simp only [sem_succ, bodyOf, fb23, F.d]
        simp_all_arith [t10, c1, at7_0, at7_1, at7_2, at7_3, at7_4, at7_5, at7_6, upL1, cd, e1, t7, tt, rt, rr, S.addT]
      · obtain ⟨a, q1, ao, ak, ad, an, e1⟩ := IH p1
        have xw := ixW (w := 8 - 3) (k := 5) (z := "rest") rfl rfl
        have xm : ixD (.list [.int 2, .int 2, .int 2, .int 2, .int 1, .int 1, .int 3]) (.int (8 - 3)) = some (.d (.int 1)) := by kernel_rfl
        refine ⟨.rest (1 + q1 % 7) a, q1 / 7, ⟨⟨by omega, by omega⟩, ao⟩, by unfold F.parts cap; omega, by unfold F.deep; omega, fun x hx => an x hx, ?_⟩
        simp only [sem_succ, bodyOf, fb23, F.d]
        simp_all_arith [t10, c1, at7_0, at7_1, at7_2, at7_3, at7_4, at7_5, at7_6, upL1, cd, e1, t7, tt, rt, rr, S.addT]
      · obtain ⟨a, q1, ao, ak, ad, an, e1⟩ := IH p1
        obtain ⟨b, q2, bo, bk, bd, bn, e2⟩ := IH q1
        obtain ⟨c, q3, co, ck, cd2, cn, e3⟩ := IH q2
        have xw := ixW (w := 9 - 3) (k := 6) (z := "pick") rfl rfl
        have xm : ixD (.list [.int 2, .int 2, .int 2, .int 2, .int 1, .int 1, .int 3]) (.int (9 - 3)) = some (.d (.int 3)) := by kernel_rfl
        refine ⟨.pick a b c, q3, ⟨ao, bo, co⟩, by unfold F.parts cap; omega, by unfold F.deep; omega, fun x hx => (List.mem_append.mp hx).elim (an x) fun h => (List.mem_append.mp h).elim (bn x) (cn x), ?_⟩
        simp only [sem_succ, bodyOf, fb23, F.d]
        simp_all_arith [t10, c1, at7_0, at7_1, at7_2, at7_3, at7_4, at7_5, at7_6, upL3, cd, e1, e2, e3, pt, pr, S.addT]
end K88
set_option maxHeartbeats 4000000
set_option exponentiation.threshold 10000
namespace K88
open Dl PySem
theorem lc_sub {vs : List Nat} {p : Pat} {fc : Ev → RT} {fe : Ev → RE} {ρ : Ev} : ∀ {l : List (Nat × Nat)}, (∀ x ∈ l, ∃ ρ1 ρ2 ρ3 c, bindP p (pD x) ρ = some ρ1 ∧ fc ρ1 = .ok c ρ2 ∧ wipeE ρ2 vs = ρ ∧ fe ρ2 = .ok (.d (pD x)) ρ3 ∧ wipeE ρ3 vs = ρ) →
    ∃ zs : List (Nat × Nat), lcL vs p fc fe (l.map pD) ρ = some (zs.map pD, ρ) ∧ (∀ z ∈ zs, z ∈ l) ∧ zs.length ≤ l.length
  | [], _ => ⟨[], S.lc_nil, fun z hz => hz, Nat.le_refl _⟩
  | x :: l, h => by
    obtain ⟨ρ1, ρ2, ρ3, c, h1, h2, h3, h4, h5⟩ := h x (List.mem_cons_self ..)
    obtain ⟨zs, e, hz, hl⟩ := lc_sub (l := l) fun y hy => h y (List.mem_cons_of_mem _ hy)
    cases c with
    | true =>
      refine ⟨x :: zs, ?_, fun z hm => ?_, by simp; omega⟩
      · rw [List.map_cons, S.lc_cons, h1, S.lcB_s, h2, S.lcT_t, h4, S.lcE_d, h5, e]
        rfl
      · rcases List.mem_cons.mp hm with rfl | hm
        · exact List.mem_cons_self ..
        · exact List.mem_cons_of_mem _ (hz z hm)
    | false =>
      refine ⟨zs, ?_, fun z hm => List.mem_cons_of_mem _ (hz z hm), by simp; omega⟩
      rw [List.map_cons, S.lc_cons, h1, S.lcB_s, h2, S.lcT_f, h3, e]
def putV (i : Nat) : D → D := fun x => .tuple [.int (i : Nat), x]
theorem up_putV (i k : Nat) : (upFrom 0 k).map (putV i) = ((List.range k).map fun j => (i, j)).map pD := by
  unfold upFrom
  rw [List.map_map, List.map_map]
  refine List.map_congr_left fun j _ => ?_
  simp [putV, pD]
theorem lcomp_up {a0 a1 a2 a4 a5 a6 a7 : Option Sv} {d k : Nat} : lcL [8] (.n 8) fYes (fTup [(fC (.int 0)), (fOp addD (.n 3) (.n 8))]) (upFrom 0 k) [a0, a1, a2, some (.d (.int (d : Nat))), a4, a5, a6, a7, none] =
    some (((List.range k).map fun j => (0, d + j)).map pD, [a0, a1, a2, some (.d (.int (d : Nat))), a4, a5, a6, a7, none]) := by
  rw [lc_map (g := addI' d) (fun x hx => ?_), up_add]
  obtain ⟨j, rfl⟩ := up_map _ _ x hx
  refine ⟨[a0, a1, a2, some (.d (.int (d : Nat))), a4, a5, a6, a7, some (.d (.int j))], [a0, a1, a2, some (.d (.int (d : Nat))), a4, a5, a6, a7, some (.d (.int j))], rfl, ?_, rfl⟩
  simp_arith []
  rfl
theorem lcomp_put {a0 a1 a2 a3 a4 a5 a7 : Option Sv} {i k : Nat} : lcL [8] (.n 8) fYes (fTup [(fOp addD (.n 6) (.e (fC (.int 1)))), (fVar 8)]) (upFrom 0 k) [a0, a1, a2, a3, a4, a5, some (.d (.int (i : Nat))), a7, none] =
    some (((List.range k).map fun j => (i + 1, j)).map pD, [a0, a1, a2, a3, a4, a5, some (.d (.int (i : Nat))), a7, none]) := by
  rw [lc_map (g := putI (i + 1)) (fun x hx => ?_), up_put]
  obtain ⟨j, rfl⟩ := up_map _ _ x hx
  refine ⟨[a0, a1, a2, a3, a4, a5, some (.d (.int (i : Nat))), a7, some (.d (.int j))], [a0, a1, a2, a3, a4, a5, some (.d (.int (i : Nat))), a7, some (.d (.int j))], rfl, ?_, rfl⟩
  simp_arith []
  rfl
theorem ltold_eq {n s : Nat} {sg : List (Nat × Nat)} {ps : List Nat} (hn : 1 ≤ n) (hS : Small sg) (hI : In sg s ps) : sem n 24 [.d (.list (sg.map pD)), .d (.int (s : Nat)), .d (.tuple (ps.map iD))] = .ok (.ow ((told sg s ps).map pD)) [] := by
  obtain ⟨n, rfl⟩ : ∃ m, n = m + 1 := ⟨n - 1, by omega⟩
  obtain ⟨h1, h2, h3⟩ := hI
  have as := at_sg h1
  have ks := hS.at s
  have U : ∀ k : Nat, k ≤ 2 → kRng (.int (k : Nat)) = some (upFrom 0 k) := fun k hk => kRng_up (by omega)
  have u1 := U _ ks.2
  have c0 := fun {a0 a1 a2 a4 a5 a6 a7 : Option Sv} => lcomp_up (a0 := a0) (a1 := a1) (a2 := a2) (a4 := a4) (a5 := a5) (a6 := a6) (a7 := a7) (d := (gt sg s).1) (k := (gt sg s).2)
  simp only [sem_succ, bodyOf, fb24]
  match ps, h2, h3 with
  | [], _, _ =>
    have kE : kEnum (.tuple []) = some [] := rfl
    simp_all_arith [as, u1, c0, kE, len_up, List.length_map, List.length_range]
    simp [told, toldP]
  | [p], _, h3 =>
    have a1 := at_sg (h3 p (by simp))
    have k1 := hS.at p
    have u2 := U _ k1.1
    have kE : kEnum (.tuple [.int (p : Nat)]) = some [.tuple [.int ((0 : Nat) : Int), .int (p : Nat)]] := rfl
    have c2 := fun {a0 a1 a2 a3 a4 a5 a7 : Option Sv} => lcomp_put (a0 := a0) (a1 := a1) (a2 := a2) (a3 := a3) (a4 := a4) (a5 := a5) (a7 := a7) (i := 0) (k := (gt sg p).1)
    simp only [S.cast0] at c2
    simp only [List.map_cons, List.map_nil, iD]
    simp_all_arith [as, u1, c0, kE, a1, u2, c2, len_up, List.length_map, List.length_range]
    simp [told, toldP]
  | [p, q], _, h3 =>
    have a1 := at_sg (h3 p (by simp))
    have k1 := hS.at p
    have u2 := U _ k1.1
    have a2 := at_sg (h3 q (by simp))
    have k2 := hS.at q
    have u3 := U _ k2.1
    have kE : kEnum (.tuple [.int (p : Nat), .int (q : Nat)]) = some [.tuple [.int ((0 : Nat) : Int), .int (p : Nat)], .tuple [.int ((1 : Nat) : Int), .int (q : Nat)]] := rfl
    have c2 := fun {a0 a1 a2 a3 a4 a5 a7 : Option Sv} => lcomp_put (a0 := a0) (a1 := a1) (a2 := a2) (a3 := a3) (a4 := a4) (a5 := a5) (a7 := a7) (i := 0) (k := (gt sg p).1)
    have c3 := fun {a0 a1 a2 a3 a4 a5 a7 : Option Sv} => lcomp_put (a0 := a0) (a1 := a1) (a2 := a2) (a3 := a3) (a4 := a4) (a5 := a5) (a7 := a7) (i := 1) (k := (gt sg q).1)
    simp only [S.cast0] at c2
    simp only [S.cast1] at c3
    simp only [List.map_cons, List.map_nil, iD]
    simp_all_arith [as, u1, c0, kE, a1, u2, c2, a2, u3, c3, len_up, List.length_map, List.length_range, List.length_append]
    simp [told, toldP]
def plN (sg : List (Nat × Nat)) : Nat → List Nat → List (Nat × Nat)
  | _, [] => []
  | i, p :: ps => (List.range ((gt sg p).1 + (gt sg p).2)).map (fun k => (i, k)) ++ plN sg (i + 1) ps
theorem cast2 : ((2 : Nat) : Int) = 2 := rfl
theorem plN_len {sg : List (Nat × Nat)} {s : Nat} {ps : List Nat} (hS : Small sg) (hI : In sg s ps) : (plN sg 0 (s :: ps)).length ≤ 12 := by
  have h0 := hS.at s
  obtain ⟨_, h2, _⟩ := hI
  match ps, h2 with
  | [], _ => simp [plN]; omega
  | [p], _ =>
    have h1 := hS.at p
    simp [plN]; omega
  | [p, q], _ =>
    have h1 := hS.at p
    have h2 := hS.at q
    simp [plN]; omega
theorem ncomp_put {a0 a1 a2 a3 a4 a6 a7 a9 : Option Sv} {i k : Nat} : lcL [8] (.n 8) fYes (fTup [(fVar 5), (fVar 8)]) (upFrom 0 k) [a0, a1, a2, a3, a4, some (.d (.int (i : Nat))), a6, a7, none, a9] =
    some (((List.range k).map fun j => (i, j)).map pD, [a0, a1, a2, a3, a4, some (.d (.int (i : Nat))), a6, a7, none, a9]) := by
  rw [lc_map (g := putV i) (fun x hx => ?_), up_putV]
  obtain ⟨j, rfl⟩ := up_map _ _ x hx
  refine ⟨[a0, a1, a2, a3, a4, some (.d (.int (i : Nat))), a6, a7, some (.d (.int j)), a9], [a0, a1, a2, a3, a4, some (.d (.int (i : Nat))), a6, a7, some (.d (.int j)), a9], rfl, ?_, rfl⟩
  simp_arith []
  rfl
theorem sum2 (a b : Nat) : sumT (.tuple [.int (a : Nat), .int (b : Nat)]) = some (.d (.int ((a + b : Nat) : Int))) := by
  have : sumT (.tuple [.int (a : Nat), .int (b : Nat)]) = some (.d (.int ((a : Int) + ((b : Int) + 0)))) := by kernel_rfl
  rw [this, Int.add_zero, Int.natCast_add]
theorem names_l {n s : Nat} {sg : List (Nat × Nat)} {ps : List Nat} {fr : Bool} (hn : 2 ≤ n) (hS : Small sg) (hI : In sg s ps) : ∃ zs : List (Nat × Nat), sem n 25 [.d (.list (sg.map pD)), .d (.int (s : Nat)), .d (.tuple (ps.map iD)), .d (.bool fr)] = .ok (.ow (zs.map pD)) [] ∧ (∀ z ∈ zs, z ∈ plN sg 0 (s :: ps)) ∧ zs.length ≤ 12 := by
  obtain ⟨n, rfl⟩ : ∃ m, n = m + 1 := ⟨n - 1, by omega⟩
  have et := ltold_eq (n := n) (by omega) hS hI
  have hI2 := hI
  obtain ⟨h1, h2, h3⟩ := hI
  have as := at_sg h1
  have ks := hS.at s
  have U : ∀ k : Nat, k ≤ 4 → kRng (.int (k : Nat)) = some (upFrom 0 k) := fun k hk => kRng_up (by omega)
  have u1 := U ((gt sg s).1 + (gt sg s).2) (by omega)
  have c0 := fun {a0 a1 a2 a3 a4 a6 a7 a9 : Option Sv} => ncomp_put (a0 := a0) (a1 := a1) (a2 := a2) (a3 := a3) (a4 := a4) (a6 := a6) (a7 := a7) (a9 := a9) (i := 0) (k := (gt sg s).1 + (gt sg s).2)
  simp only [S.cast0] at c0
  have flt : ∀ {l : List (Nat × Nat)} {a0 a1 a2 a3 a4 a5 a6 a8 : Option Sv}, ∃ zs : List (Nat × Nat), lcL [9] (.n 9) (fTest (fOp ninD (.n 9) (.n 7))) (fVar 9) (l.map pD) [a0, a1, a2, a3, a4, a5, a6, some (.ow ((told sg s ps).map pD)), a8, none] =
      some (zs.map pD, [a0, a1, a2, a3, a4, a5, a6, some (.ow ((told sg s ps).map pD)), a8, none]) ∧ (∀ z ∈ zs, z ∈ l) ∧ zs.length ≤ l.length := fun {l a0 a1 a2 a3 a4 a5 a6 a8} =>
    lc_sub fun x hx => by
      obtain ⟨c, e⟩ := nin_some x (told sg s ps)
      refine ⟨[a0, a1, a2, a3, a4, a5, a6, some (.ow ((told sg s ps).map pD)), a8, some (.d (pD x))], [a0, a1, a2, a3, a4, a5, a6, some (.ow ((told sg s ps).map pD)), a8, some (.d (pD x))], [a0, a1, a2, a3, a4, a5, a6, some (.ow ((told sg s ps).map pD)), a8, some (.d (pD x))], c, rfl, ?_, rfl, ?_, rfl⟩
      · unfold pD at e ⊢
        simp_arith [e]
      · simp_arith []
  have lp := plN_len hS hI2
  match ps, h2, h3 with
  | [], _, h3 =>
    have kE : kEnum (.tuple [.int (s : Nat)]) = some [.tuple [.int ((0 : Nat) : Int), .int (s : Nat)]] := rfl
    cases fr with
    | true =>
      refine ⟨plN sg 0 (s :: []), ?_, fun z hz => hz, lp⟩
      simp only [sem_succ, bodyOf, fb25, List.map_cons, List.map_nil, iD]
      simp_all_arith [S.addT, as, sum2, u1, c0, kE, len_up, List.length_map, List.length_range, List.nil_append, List.length_append, List.append_assoc]
      simp [plN]
    | false =>
      obtain ⟨zs, e, hz, hl⟩ := flt (l := plN sg 0 (s :: [])) (a0 := some (.d (.list (sg.map pD)))) (a1 := some (.d (.int (s : Nat)))) (a2 := some (.d (.tuple (List.map iD [])))) (a3 := some (.d (.bool false))) (a4 := some (.d (.list ((plN sg 0 (s :: [])).map pD)))) (a5 := some (.d (.int 0))) (a6 := some (.d (.int (s : Nat)))) (a8 := none)
      refine ⟨zs, ?_, hz, Nat.le_trans hl lp⟩
      simp only [sem_succ, bodyOf, fb25, List.map_cons, List.map_nil, iD] at et ⊢
      simp only [plN, List.map_cons, List.map_nil, iD, List.map_append, List.append_nil, Nat.zero_add, Nat.reduceAdd] at e
      simp_all_arith [S.addT, as, sum2, u1, c0, kE, len_up, List.length_map, List.length_range, List.nil_append, List.length_append, List.append_assoc, et, e]
  | [p], _, h3 =>
    have a1 := at_sg (h3 p (by simp))
    have k1 := hS.at p
    have u2 := U ((gt sg p).1 + (gt sg p).2) (by omega)
    have c2 := fun {a0 a1 a2 a3 a4 a6 a7 a9 : Option Sv} => ncomp_put (a0 := a0) (a1 := a1) (a2 := a2) (a3 := a3) (a4 := a4) (a6 := a6) (a7 := a7) (a9 := a9) (i := 1) (k := (gt sg p).1 + (gt sg p).2)
    simp only [S.cast1] at c2
    have kE : kEnum (.tuple [.int (s : Nat), .int (p : Nat)]) = some [.tuple [.int ((0 : Nat) : Int), .int (s : Nat)], .tuple [.int ((1 : Nat) : Int), .int (p : Nat)]] := rfl
    cases fr with
    | true =>
      refine ⟨plN sg 0 (s :: [p]), ?_, fun z hz => hz, lp⟩
      simp only [sem_succ, bodyOf, fb25, List.map_cons, List.map_nil, iD]
      simp_all_arith [S.addT, as, sum2, u1, c0, kE, len_up, List.length_map, List.length_range, List.nil_append, List.length_append, List.append_assoc, a1, u2, c2]
      simp [plN]
    | false =>
      obtain ⟨zs, e, hz, hl⟩ := flt (l := plN sg 0 (s :: [p])) (a0 := some (.d (.list (sg.map pD)))) (a1 := some (.d (.int (s : Nat)))) (a2 := some (.d (.tuple (List.map iD [p])))) (a3 := some (.d (.bool false))) (a4 := some (.d (.list ((plN sg 0 (s :: [p])).map pD)))) (a5 := some (.d (.int 1))) (a6 := some (.d (.int (p : Nat)))) (a8 := none)
      refine ⟨zs, ?_, hz, Nat.le_trans hl lp⟩
      simp only [sem_succ, bodyOf, fb25, List.map_cons, List.map_nil, iD] at et ⊢
      simp only [plN, List.map_cons, List.map_nil, iD, List.map_append, List.append_nil, Nat.zero_add, Nat.reduceAdd] at e
      simp_all_arith [S.addT, as, sum2, u1, c0, kE, len_up, List.length_map, List.length_range, List.nil_append, List.length_append, List.append_assoc, a1, u2, c2, et, e]
  | [p, q], _, h3 =>
    have a1 := at_sg (h3 p (by simp))
    have k1 := hS.at p
    have u2 := U ((gt sg p).1 + (gt sg p).2) (by omega)
    have c2 := fun {a0 a1 a2 a3 a4 a6 a7 a9 : Option Sv} => ncomp_put (a0 := a0) (a1 := a1) (a2 := a2) (a3 := a3) (a4 := a4) (a6 := a6) (a7 := a7) (a9 := a9) (i := 1) (k := (gt sg p).1 + (gt sg p).2)
    simp only [S.cast1] at c2
    have a2 := at_sg (h3 q (by simp))
    have k2 := hS.at q
    have u3 := U ((gt sg q).1 + (gt sg q).2) (by omega)
    have c3 := fun {a0 a1 a2 a3 a4 a6 a7 a9 : Option Sv} => ncomp_put (a0 := a0) (a1 := a1) (a2 := a2) (a3 := a3) (a4 := a4) (a6 := a6) (a7 := a7) (a9 := a9) (i := 2) (k := (gt sg q).1 + (gt sg q).2)
    simp only [cast2] at c3
    have kE : kEnum (.tuple [.int (s : Nat), .int (p : Nat), .int (q : Nat)]) = some [.tuple [.int ((0 : Nat) : Int), .int (s : Nat)], .tuple [.int ((1 : Nat) : Int), .int (p : Nat)], .tuple [.int ((2 : Nat) : Int), .int (q : Nat)]] := rfl
    cases fr with
    | true =>
      refine ⟨plN sg 0 (s :: [p, q]), ?_, fun z hz => hz, lp⟩
      simp only [sem_succ, bodyOf, fb25, List.map_cons, List.map_nil, iD]
      simp_all_arith [S.addT, as, sum2, u1, c0, kE, len_up, List.length_map, List.length_range, List.nil_append, List.length_append, List.append_assoc, a1, u2, c2, a2, u3, c3]
      simp [plN]
    | false =>
      obtain ⟨zs, e, hz, hl⟩ := flt (l := plN sg 0 (s :: [p, q])) (a0 := some (.d (.list (sg.map pD)))) (a1 := some (.d (.int (s : Nat)))) (a2 := some (.d (.tuple (List.map iD [p, q])))) (a3 := some (.d (.bool false))) (a4 := some (.d (.list ((plN sg 0 (s :: [p, q])).map pD)))) (a5 := some (.d (.int 2))) (a6 := some (.d (.int (q : Nat)))) (a8 := none)
      refine ⟨zs, ?_, hz, Nat.le_trans hl lp⟩
      simp only [sem_succ, bodyOf, fb25, List.map_cons, List.map_nil, iD] at et ⊢
      simp only [plN, List.map_cons, List.map_nil, iD, List.map_append, List.append_nil, Nat.zero_add, Nat.reduceAdd] at e
      simp_all_arith [S.addT, as, sum2, u1, c0, kE, len_up, List.length_map, List.length_range, List.nil_append, List.length_append, List.append_assoc, a1, u2, c2, a2, u3, c3, et, e]
end K88
set_option maxHeartbeats 4000000
set_option exponentiation.threshold 10000
namespace K88
open Dl PySem
theorem wid_at {sg : List (Nat × Nat)} {s : Nat} {ps : List Nat} {pl p : Nat} (h : (s :: ps)[pl]? = some p) (hp : p < sg.length) : wid sg s ps pl = (gt sg p).1 + (gt sg p).2 := by
  unfold wid
  rw [h]
  dsimp only
  rw [List.getElem?_eq_getElem hp]
  simp [gt, List.getD, hp]
theorem plN_mem {sg : List (Nat × Nat)} : ∀ (l : List Nat) (i : Nat) (z : Nat × Nat), z ∈ plN sg i l → ∃ (j p : Nat), l[j]? = some p ∧ z.1 = i + j ∧ z.2 < (gt sg p).1 + (gt sg p).2
  | [], _, z, h => absurd h (by simp [plN])
  | p :: l, i, z, h => by
    unfold plN at h
    rcases List.mem_append.mp h with h | h
    · obtain ⟨k, hk, rfl⟩ := List.mem_map.mp h
      exact ⟨0, p, rfl, rfl, List.mem_range.mp hk⟩
    · obtain ⟨j, q, h1, h2, h3⟩ := plN_mem l (i + 1) z h
      exact ⟨j + 1, q, by simpa using h1, by omega, h3⟩
theorem plN_wid {sg : List (Nat × Nat)} {s : Nat} {ps : List Nat} (hI : In sg s ps) {z : Nat × Nat} (h : z ∈ plN sg 0 (s :: ps)) : z.2 < wid sg s ps z.1 ∧ z.1 ≤ 2 := by
  obtain ⟨j, p, h1, h2, h3⟩ := plN_mem _ _ _ h
  obtain ⟨i1, i2, i3⟩ := hI
  have hj := (List.getElem?_eq_some_iff.mp h1).1
  have hp : p < sg.length := by
    rcases List.mem_cons.mp (List.mem_of_getElem? h1) with e | e
    · omega
    · exact i3 p e
  have e : z.1 = j := by omega
  rw [e, wid_at h1 hp]
  simp at hj
  exact ⟨h3, by omega⟩
theorem ints_of {m : Nat} : ∀ {ys : List D}, (∀ y, y ∈ ys → ∃ i : Nat, y = .int (i : Nat) ∧ i < m) → ∃ ps : List Nat, ys = ps.map iD ∧ ∀ p ∈ ps, p < m
  | [], _ => ⟨[], rfl, fun _ h => nomatch h⟩
  | y :: ys, h => by
    obtain ⟨i, rfl, hi⟩ := h y (List.mem_cons_self ..)
    obtain ⟨ps, rfl, hp⟩ := ints_of (ys := ys) fun z hz => h z (List.mem_cons_of_mem _ hz)
    exact ⟨i :: ps, rfl, fun p hm => (List.mem_cons.mp hm).elim (fun e => e ▸ hi) (hp p)⟩
theorem forms_of {P : F → Prop} : ∀ {ys : List D}, (∀ y, y ∈ ys → ∃ t : F, y = t.d ∧ P t) → ∃ ts : List F, ys = ts.map F.d ∧ ∀ t ∈ ts, P t
  | [], _ => ⟨[], rfl, fun _ h => nomatch h⟩
  | y :: ys, h => by
    obtain ⟨i, rfl, hi⟩ := h y (List.mem_cons_self ..)
    obtain ⟨ps, rfl, hp⟩ := forms_of (ys := ys) fun z hz => h z (List.mem_cons_of_mem _ hz)
    exact ⟨i :: ps, rfl, fun p hm => (List.mem_cons.mp hm).elim (fun e => e ▸ hi) (hp p)⟩
theorem rule_l {n s most : Nat} {p : Int} {sg : List (Nat × Nat)} {fr : Bool} (hn : 6 ≤ n) (hS : Small sg) (hs : s < sg.length) (hm : most ≤ 2) :
    ∃ (r : Ru) (p' : Int), r.good sg ∧ sem n 26 [.rf [.int p], .d (.list (sg.map pD)), .d (.int (s : Nat)), .d (.int (most : Nat)), .d (.bool fr)] = .ok (.d r.d) [.int p'] := by
  obtain ⟨n, rfl⟩ : ∃ m, n = m + 1 := ⟨n - 1, by omega⟩
  obtain ⟨s1, s2, _⟩ := id hS
  have tm := T1 (n := n) (p := p) (k := ((most : Nat) : Int) + 1) (by omega) (by omega) (by omega)
  obtain ⟨m, hmm, hm2⟩ : ∃ m : Nat, p % (((most : Nat) : Int) + 1) = (m : Int) ∧ m ≤ 2 := by
    have h1 := Int.emod_nonneg p (show ((most : Nat) : Int) + 1 ≠ 0 by omega)
    have h2 := Int.emod_lt_of_pos p (show 0 < ((most : Nat) : Int) + 1 by omega)
    exact ⟨(p % (((most : Nat) : Int) + 1)).toNat, by omega, by omega⟩
  rw [hmm] at tm
  have um : kRng (.int (m : Nat)) = some (upFrom 0 m) := kRng_up (by omega)
  generalize p / (((most : Nat) : Int) + 1) = p1 at tm
  obtain ⟨ys, ρ1, e1, l1, hy, q1, rfl⟩ := lc_inv (vs := [7]) (p := .n 7) (fe := fCall (sem n 22) [.r 0, .v (fUn lenD (.n 1))]) (R := fun _ y => ∃ i : Nat, y = .int (i : Nat) ∧ i < sg.length)
    (I := fun ρ => ∃ q : Int, ρ = [some (.rf [.int q]), some (.d (.list (sg.map pD))), some (.d (.int (s : Nat))), some (.d (.int (most : Nat))), some (.d (.bool fr)), none, none, none, none]) (l := upFrom 0 m)
    (ρ := [some (.rf [.int p1]), some (.d (.list (sg.map pD))), some (.d (.int (s : Nat))), some (.d (.int (most : Nat))), some (.d (.bool fr)), none, none, none, none])
    (fun x hx ρ ⟨q, eρ⟩ => by
      subst eρ
      have t := T1 (n := n) (p := q) (k := ((sg.length : Nat) : Int)) (by omega) (by omega) (by omega)
      obtain ⟨i, hi, hi2⟩ : ∃ i : Nat, q % ((sg.length : Nat) : Int) = (i : Int) ∧ i < sg.length := by
        have h1 := Int.emod_nonneg q (show ((sg.length : Nat) : Int) ≠ 0 by omega)
        have h2 := Int.emod_lt_of_pos q (show (0 : Int) < ((sg.length : Nat) : Int) by omega)
        exact ⟨(q % ((sg.length : Nat) : Int)).toNat, by omega, by omega⟩
      rw [hi] at t
      refine ⟨[some (.rf [.int q]), some (.d (.list (sg.map pD))), some (.d (.int (s : Nat))), some (.d (.int (most : Nat))), some (.d (.bool fr)), none, none, some (.d x), none], [some (.rf [.int (q / ((sg.length : Nat) : Int))]), some (.d (.list (sg.map pD))), some (.d (.int (s : Nat))), some (.d (.int (most : Nat))), some (.d (.bool fr)), none, none, some (.d x), none], _, rfl, ?_, ⟨i, rfl, hi2⟩, _, rfl⟩
      simp_arith [t, List.length_map]) ⟨p1, rfl⟩
  obtain ⟨ps, rfl, hp⟩ := ints_of (fun y hm => (hy y hm).elim fun _ h => h.2)
  have hlp : ps.length ≤ 2 := by
    rw [List.length_map] at l1
    rw [l1, len_up]
    exact hm2
  have hI : In sg s ps := ⟨hs, hlp, hp⟩
  obtain ⟨zs, e2, hz, hzl⟩ := names_l (n := n) (fr := fr) (by omega) hS hI
  have e3 := ltold_eq (n := n) (by omega) hS hI
  have tl := told_len hS hI
  have hb : ∀ y ∈ zs, y.1 < 1000 ∧ y.2 < 1000 := fun y hy => by
    obtain ⟨j, p, h1, h2, h3⟩ := plN_mem _ _ _ (hz y hy)
    have hj := (List.getElem?_eq_some_iff.mp h1).1
    have := hS.at p
    simp at hj
    exact ⟨by omega, by omega⟩
  obtain ⟨ws, ρ2, e4, l4, hw, q2, x6, rfl, h6⟩ := lc_inv (vs := [8]) (p := .n 8) (fe := fCall (sem n 23) [.r 0, .v (fVar 6), .v (fC (.int 2))]) (R := fun _ y => ∃ t : F, y = t.d ∧ t.fine ∧ Of zs t)
    (I := fun ρ => ∃ (q : Int) (x6 : Option Sv), ρ = [some (.rf [.int q]), some (.d (.list (sg.map pD))), some (.d (.int (s : Nat))), some (.d (.int (most : Nat))), some (.d (.bool fr)), some (.d (.tuple (ps.map iD))), x6, none, none] ∧ (x6 = some (.ow (zs.map pD)) ∨ x6 = some (.d (.list (zs.map pD))))) (l := (told sg s ps).map pD)
    (ρ := [some (.rf [.int q1]), some (.d (.list (sg.map pD))), some (.d (.int (s : Nat))), some (.d (.int (most : Nat))), some (.d (.bool fr)), some (.d (.tuple (ps.map iD))), some (.ow (zs.map pD)), none, none])
    (fun x hx ρ ⟨q, x6, eρ, h6⟩ => by
      subst eρ
      obtain ⟨t, q', to, tk, td, tn, et⟩ := formula_l 2 (n := n) (p := q) (nm := zs) (by omega) (by omega) hb
      have et : sem n 23 [.rf [.int q], .d (.list (zs.map pD)), .d (.int 2)] = .ok (.d t.d) [.int q'] := et
      refine ⟨[some (.rf [.int q]), some (.d (.list (sg.map pD))), some (.d (.int (s : Nat))), some (.d (.int (most : Nat))), some (.d (.bool fr)), some (.d (.tuple (ps.map iD))), x6, none, some (.d x)], [some (.rf [.int q']), some (.d (.list (sg.map pD))), some (.d (.int (s : Nat))), some (.d (.int (most : Nat))), some (.d (.bool fr)), some (.d (.tuple (ps.map iD))), some (.d (.list (zs.map pD))), none, some (.d x)], t.d, rfl, ?_, ⟨t, rfl, ⟨to, by omega, by have tk : t.parts ≤ 13 := tk; omega⟩, tn⟩, q', _, rfl, .inr rfl⟩
      rcases h6 with rfl | rfl
      all_goals
        simp_arith [et]) ⟨q1, _, rfl, .inl rfl⟩
  obtain ⟨ts, rfl, ht⟩ := forms_of (fun y hm => (hw y hm).elim fun _ h => h.2)
  have lt : ts.length = (told sg s ps).length := by simpa using l4
  refine ⟨⟨s, ps, ts⟩, q2, ⟨hI, lt, fun t hm => ⟨(ht t hm).1, fun x hx => ?_⟩⟩, ?_⟩
  · obtain ⟨y, hy, rfl⟩ := (ht t hm).2 x hx
    have := (plN_wid hI (hz y hy)).1
    refine ⟨by omega, ?_⟩
    show ((y.2 : Nat) : Int) < ((wid sg s ps ((y.1 : Nat) : Int).toNat : Nat) : Int)
    rw [Int.toNat_natCast]
    omega
  · simp only [sem_succ, bodyOf, fb26, Ru.d]
    rcases h6 with rfl | rfl
    all_goals
      simp_all_arith [tm, um, e1, e2, e3, e4, len_up, List.length_map]
theorem pairs_of {P : Nat × Nat → Prop} : ∀ {ys : List D}, (∀ y, y ∈ ys → ∃ x : Nat × Nat, y = pD x ∧ P x) → ∃ sg : List (Nat × Nat), ys = sg.map pD ∧ ∀ x ∈ sg, P x
  | [], _ => ⟨[], rfl, fun _ h => nomatch h⟩
  | y :: ys, h => by
    obtain ⟨i, rfl, hi⟩ := h y (List.mem_cons_self ..)
    obtain ⟨ps, rfl, hp⟩ := pairs_of (ys := ys) fun z hz => h z (List.mem_cons_of_mem _ hz)
    exact ⟨i :: ps, rfl, fun p hm => (List.mem_cons.mp hm).elim (fun e => e ▸ hi) (hp p)⟩
theorem emod_nat (p : Int) {k : Nat} (hk : 0 < k) : ∃ i : Nat, p % (k : Int) = (i : Int) ∧ i < k := by
  have h1 := Int.emod_nonneg p (show (k : Int) ≠ 0 by omega)
  have h2 := Int.emod_lt_of_pos p (show (0 : Int) < (k : Int) by omega)
  exact ⟨(p % (k : Int)).toNat, by omega, by omega⟩
def bkB (n : Nat) : Ev → RS := (fSeq (fSet 8 (fLst [(fCall (sem n 21) [.v (fVar 0), .v (fOp addD (.e (fOp addD (.n 1) (.e (fC (.int 1))))) (.n 7))])]))
    (fSeq (fSet 9 (fCall (sem n 22) [.r 8, .v (fUn lenD (.n 3))]))
    (fSeq (fSet 10 (fC (.int 2)))
    (fSeq (fIf (fAndT (fTest (fVar 4)) (fTest (fOp ltD (.n 7) (.e (fUn lenD (.n 3))))))
    (fSeq (fSet 9 (fVar 7))
    (fSet 10 (fC (.int 0))))
    fSkip)
    (fApp 6 (fCall (sem n 26) [.r 8, .v (fVar 3), .v (fVar 9), .v (fVar 10), .v (fVar 5)]))))))
theorem rfOf_nr {o : Option Sv} (h : NR o) (ρ : Ev) : rfOf (o :: ρ) = rfOf ρ := by
  cases o with
  | none => rfl
  | some sv => cases sv <;> first | rfl | exact absurd rfl (h _)
theorem fb27_eq (n : Nat) : fb27 (sem n) = (fSeq (fSet 2 (fLst [(fCall (sem n 21) [.v (fVar 0), .v (fVar 1)])]))
    (fSeq (fSet 3 (fLc (fun ρ => RI.of ((fOp addD (.e (fC (.int 1))) (.e (fCall (sem n 22) [.r 2, .v (fC (.int 4))]))) ρ) kRng) [7] (.n 7) fYes (fTup [(fCall (sem n 22) [.r 2, .v (fC (.int 3))]), (fCall (sem n 22) [.r 2, .v (fC (.int 3))])])))
    (fSeq (fSet 4 (fOp gtD (.e (fCall (sem n 22) [.r 2, .v (fC (.int 4))])) (.e (fC (.int 0)))))
    (fSeq (fSet 5 (fOp eqD (.e (fCall (sem n 22) [.r 2, .v (fC (.int 4))])) (.e (fC (.int 0)))))
    (fSeq (fSet 6 (fLst []))
    (fSeq (fFor (fun ρ => RI.of ((fCall (sem n 22) [.r 2, .v (fC (.int 9))]) ρ) kRng) (.n 7) (bkB n))
    (fRet (fTup [(fVar 3), (fVar 6)])))))))) := rfl
theorem book_l {n : Nat} {ns : List Int} (hn : 10 ≤ n) : ∃ (sg : List (Nat × Nat)) (rs : List Ru), Bk sg rs ∧ sem n 27 [.fz (ns.map PyData.int), .d (.int 0)] = .ok (.d (bookD sg rs)) [] := by
  obtain ⟨n, rfl⟩ : ∃ m, n = m + 1 := ⟨n - 1, by omega⟩
  obtain ⟨x, ec⟩ := cell_eq (n := n) (ns := ns) (k := 0) (by omega) (by omega)
  have ec : sem n 21 [.fz (ns.map PyData.int), .d (.int 0)] = .ok (.d (.int x)) [] := ec
  have t4 := fun {p : Int} => T1 (n := n) (p := p) (k := 4) (by omega) (by decide) (by decide)
  have t9 := fun {p : Int} => T1 (n := n) (p := p) (k := 9) (by omega) (by decide) (by decide)
  have t3 := fun {p : Int} => T1 (n := n) (p := p) (k := 3) (by omega) (by decide) (by decide)
  obtain ⟨m, hm, hm4⟩ := emod_nat x (k := 4) (by decide)
  have hm : x % 4 = (m : Int) := hm
  have t0 := t4 (p := x)
  rw [hm] at t0
  have um : kRng (.int (1 + (m : Nat))) = some (upFrom 0 (m + 1)) := by
    rw [show (1 : Int) + (m : Nat) = ((m + 1 : Nat) : Int) by omega]
    exact kRng_up (by omega)
  obtain ⟨ys, ρ1, e1, l1, hy, q1, rfl⟩ := lc_inv (vs := [7]) (p := .n 7) (fe := fTup [(fCall (sem n 22) [.r 2, .v (fC (.int 3))]), (fCall (sem n 22) [.r 2, .v (fC (.int 3))])]) (R := fun _ y => ∃ x : Nat × Nat, y = pD x ∧ x.1 ≤ 2 ∧ x.2 ≤ 2)
    (I := fun ρ => ∃ q : Int, ρ = [some (.fz (ns.map PyData.int)), some (.d (.int 0)), some (.ow [.int q]), none, none, none, none, none, none, none, none]) (l := upFrom 0 (m + 1))
    (ρ := [some (.fz (ns.map PyData.int)), some (.d (.int 0)), some (.ow [.int (x / 4)]), none, none, none, none, none, none, none, none])
    (fun z hx ρ ⟨q, eρ⟩ => by
      subst eρ
      obtain ⟨i, hi, hi2⟩ := emod_nat q (k := 3) (by decide)
      obtain ⟨j, hj, hj2⟩ := emod_nat (q / 3) (k := 3) (by decide)
      have a := t3 (p := q)
      have b := t3 (p := q / 3)
      rw [show q % 3 = (i : Int) from hi] at a
      rw [show q / 3 % 3 = (j : Int) from hj] at b
      refine ⟨[some (.fz (ns.map PyData.int)), some (.d (.int 0)), some (.ow [.int q]), none, none, none, none, some (.d z), none, none, none], [some (.fz (ns.map PyData.int)), some (.d (.int 0)), some (.ow [.int (q / 3 / 3)]), none, none, none, none, some (.d z), none, none, none], _, rfl, ?_, ⟨(i, j), rfl, by omega, by omega⟩, _, rfl⟩
      simp_arith [a, b]
      rfl) ⟨x / 4, rfl⟩
  obtain ⟨sg, rfl, hp⟩ := pairs_of (fun y hm => (hy y hm).elim fun _ h => h.2)
  have hlen : sg.length = m + 1 := by
    rw [List.length_map] at l1
    rw [l1, len_up]
  have hS : Small sg := ⟨by omega, by omega, hp⟩
  obtain ⟨r, hr, hr9⟩ := emod_nat (q1 / 4 / 4) (k := 9) (by decide)
  have tr := t9 (p := q1 / 4 / 4)
  rw [show q1 / 4 / 4 % 9 = (r : Int) from hr] at tr
  have ur : kRng (.int (r : Nat)) = some (upFrom 0 r) := kRng_up (by omega)
  generalize hlv : decide (q1 % 4 > 0) = lv
  generalize hfr : decide (q1 / 4 % 4 = 0) = fr
  obtain ⟨ρ', e2, x3, x7, x8, x9, x10, rs, rfl, h3, h7, h8, h9, h10, hl, hg⟩ := for_n (v := 7) (body := bkB n)
    (I := fun j ρ => ∃ (x3 x7 x8 x9 x10 : Option Sv) (rs : List Ru), ρ = [some (.fz (ns.map PyData.int)), some (.d (.int 0)), some (.ow [.int (q1 / 4 / 4 / 9)]), x3, some (.d (.bool lv)), some (.d (.bool fr)), some (.ow (rs.map Ru.d)), x7, x8, x9, x10] ∧
      (x3 = some (.ow (sg.map pD)) ∨ x3 = some (.d (.list (sg.map pD)))) ∧ NR x7 ∧ NR x8 ∧ NR x9 ∧ NR x10 ∧ rs.length = j ∧ ∀ r ∈ rs, r.good sg) (n := r)
    (ρ := [some (.fz (ns.map PyData.int)), some (.d (.int 0)), some (.ow [.int (q1 / 4 / 4 / 9)]), some (.ow (sg.map pD)), some (.d (.bool lv)), some (.d (.bool fr)), some (.ow []), none, none, none, none])
    (fun j ρ hj ⟨x3, x7, x8, x9, x10, rs, eρ, h3, h7, h8, h9, h10, hl, hg⟩ => by
      subst eρ
      refine ⟨nr_rf h7 [x8, x9, x10], ?_⟩
      obtain ⟨c, e3⟩ := cell_eq (n := n) (ns := ns) (k := j + 1) (by omega) (by omega)
      have e3 : sem n 21 [.fz (ns.map PyData.int), .d (.int (1 + (j : Nat)))] = .ok (.d (.int c)) [] := by
        rw [show (1 : Int) + (j : Nat) = ((j + 1 : Nat) : Int) by omega]
        exact e3
      have t := T1 (n := n) (p := c) (k := ((sg.length : Nat) : Int)) (by omega) (by omega) (by omega)
      obtain ⟨s, hs, hs2⟩ := emod_nat c (k := sg.length) (by omega)
      rw [hs] at t
      have y8 := nr_rf h8
      have y9 := nr_rf h9
      have y10 := nr_rf h10
      have len6 : rs.length < 100 := by omega
      by_cases hc : lv = true ∧ ((j : Nat) : Int) < ((sg.length : Nat) : Int)
      · obtain ⟨hc1, hc2⟩ := hc
        obtain ⟨ru, p', hru, er⟩ := rule_l (n := n) (s := j) (most := 0) (p := c / ((sg.length : Nat) : Int)) (fr := fr) (by omega) hS (by omega) (by omega)
        have er : sem n 26 [.rf [.int (c / ((sg.length : Nat) : Int))], .d (.list (sg.map pD)), .d (.int (j : Nat)), .d (.int 0), .d (.bool fr)] = .ok (.d ru.d) [.int p'] := er
        refine ⟨[some (.fz (ns.map PyData.int)), some (.d (.int 0)), some (.ow [.int (q1 / 4 / 4 / 9)]), some (.d (.list (sg.map pD))), some (.d (.bool lv)), some (.d (.bool fr)), some (.ow ((rs ++ [ru]).map Ru.d)), some (.d (.int (j : Nat))), some (.ow [.int p']), some (.d (.int (j : Nat))), some (.d (.int 0))], ?_, _, _, _, _, _, rs ++ [ru], rfl, .inr rfl, nr_d _, nr_ow _, nr_d _, nr_d _, by simp [hl], fun r hr => (List.mem_append.mp hr).elim (hg r) fun h => by rw [List.mem_singleton.mp h]; exact hru⟩
        unfold bkB
        subst hc1
        rcases h3 with rfl | rfl
        all_goals
          simp_all_arith [e3, t, hc2, er, y8, y9, y10, List.length_map, List.map_append]
      · obtain ⟨ru, p', hru, er⟩ := rule_l (n := n) (s := s) (most := 2) (p := c / ((sg.length : Nat) : Int)) (fr := fr) (by omega) hS hs2 (by omega)
        have er : sem n 26 [.rf [.int (c / ((sg.length : Nat) : Int))], .d (.list (sg.map pD)), .d (.int (s : Nat)), .d (.int 2), .d (.bool fr)] = .ok (.d ru.d) [.int p'] := er
        refine ⟨[some (.fz (ns.map PyData.int)), some (.d (.int 0)), some (.ow [.int (q1 / 4 / 4 / 9)]), some (.d (.list (sg.map pD))), some (.d (.bool lv)), some (.d (.bool fr)), some (.ow ((rs ++ [ru]).map Ru.d)), some (.d (.int (j : Nat))), some (.ow [.int p']), some (.d (.int (s : Nat))), some (.d (.int 2))], ?_, _, _, _, _, _, rs ++ [ru], rfl, .inr rfl, nr_d _, nr_ow _, nr_d _, nr_d _, by simp [hl], fun r hr => (List.mem_append.mp hr).elim (hg r) fun h => by rw [List.mem_singleton.mp h]; exact hru⟩
        unfold bkB
        cases lv with
        | false =>
          rcases h3 with rfl | rfl
          all_goals
            simp_all_arith [e3, t, er, y8, y9, y10, List.length_map, List.map_append]
        | true =>
          have hc2 : ¬ ((j : Nat) : Int) < ((sg.length : Nat) : Int) := fun h => hc ⟨rfl, h⟩
          rcases h3 with rfl | rfl
          all_goals
            simp_all_arith [e3, t, hc2, er, y8, y9, y10, List.length_map, List.map_append])
    ⟨_, _, _, _, _, [], rfl, .inl rfl, nr_n, nr_n, nr_n, nr_n, rfl, fun _ h => nomatch h⟩
  refine ⟨sg, rs, ⟨hS, by omega, hg⟩, ?_⟩
  have f7 := rfOf_nr h7
  have f8 := rfOf_nr h8
  have f9 := rfOf_nr h9
  have f10 := rfOf_nr h10
  have a1 := t4 (p := q1)
  have a2 := t4 (p := q1 / 4)
  have b1 : gtD (.int (q1 % 4)) (.int 0) = some (.d (.bool lv)) := by
    rw [← hlv]
    kernel_rfl
  have b2 : eqD (.int (q1 / 4 % 4)) (.int 0) = some (.d (.bool fr)) := by
    rw [← hfr, S.eqI]
  simp only [sem_succ, bodyOf, fb27_eq, bookD]
  rcases h3 with rfl | rfl
  all_goals
    simp_all_arith [ec, t0, um, e1, a1, a2, b1, b2, tr, ur, e2, f7, f8, f9, f10, len_up, List.length_map]
end K88
set_option maxHeartbeats 4000000
set_option exponentiation.threshold 10000
namespace K88
open Dl PySem
theorem kRng_int {n : Int} (h0 : -4611686018427387904 ≤ n) (h1 : n < 4611686018427387904) : kRng (.int n) = some (upFrom 0 n.toNat) := by
  show (if -(2 ^ 62) ≤ n ∧ n < 2 ^ 62 then some (upFrom 0 n.toNat) else none) = _
  rw [if_pos ⟨by omega, by omega⟩]
/-! ### visits -/
abbrev Vi := List Int × List Int
def tI (l : List Int) : D := .tuple (l.map .int)
def viD (v : Vi) : D := .tuple [tI v.1, tI v.2]
def rowD (r : List Vi) : D := .list (r.map viD)
def allV (r : List Vi) : List Int := r.flatMap fun v => v.1 ++ v.2
def upI (n : Nat) : List Int := (List.range n).map Int.ofNat
/-- rising numbers from lo on, below hi -/
def Rs (lo hi : Int) (l : List Int) : Prop := l.Pairwise (· < ·) ∧ ∀ x ∈ l, lo ≤ x ∧ x < hi
/-- visits of a sign -/
structure GV (d u : Nat) (r : List Vi) : Prop where
  all : ∀ v ∈ r, Rs 0 d v.1 ∧ Rs d ((d + u : Nat) : Int) v.2
  ne : 0 < d + u → ∀ v ∈ r, v.1 ++ v.2 ≠ []
  perm : (allV r).Perm (upI (d + u))
  one : d + u = 0 → r = [([], [])]
theorem upI_len (n : Nat) : (upI n).length = n := by unfold upI; rw [List.length_map, List.length_range]
theorem upI_sorted (n : Nat) : (upI n).Pairwise (· ≤ ·) := by
  unfold upI
  refine List.pairwise_map.mpr ?_
  exact List.pairwise_lt_range.imp fun {a b} h => by simpa using Nat.le_of_lt h
theorem upI_D (n : Nat) : upFrom 0 n = (upI n).map .int := by
  unfold upFrom upI
  rw [List.map_map]
  exact List.map_congr_left fun x _ => by simp
theorem mem_upI {n : Nat} {x : Int} : x ∈ upI n ↔ 0 ≤ x ∧ x < n := by
  unfold upI
  rw [List.mem_map]
  constructor
  · rintro ⟨k, hk, rfl⟩
    have := List.mem_range.mp hk
    exact ⟨Int.ofNat_nonneg k, by simpa using this⟩
  · rintro ⟨h0, h1⟩
    exact ⟨x.toNat, List.mem_range.mpr (by omega), by simp; omega⟩
theorem GV.flat_le {r : List Vi} (h : ∀ v ∈ r, v.1 ++ v.2 ≠ []) : r.length ≤ (allV r).length := by
  induction r with
  | nil => simp
  | cons v r ih =>
    have h1 := ih fun x hx => h x (List.mem_cons_of_mem _ hx)
    have h2 := h v (List.mem_cons_self ..)
    unfold allV at h1 ⊢
    rw [List.flatMap_cons, List.length_append, List.length_cons]
    have : 0 < (v.1 ++ v.2).length := List.length_pos_iff.mpr h2
    omega
theorem GV.len {d u : Nat} {r : List Vi} (h : GV d u r) (h4 : d + u ≤ 4) : r.length ≤ 4 := by
  by_cases c : 0 < d + u
  · have := GV.flat_le (h.ne c)
    rw [h.perm.length_eq, upI_len] at this
    omega
  · rw [h.one (by omega)]
    simp
theorem Rs.len {lo hi : Int} {l : List Int} (h : Rs lo hi l) : (l.length : Int) ≤ max 0 (hi - lo) := by
  induction l generalizing lo with
  | nil => rw [List.length_nil]; omega
  | cons x l ih =>
    obtain ⟨h1, h2⟩ := h
    obtain ⟨k1, k2⟩ := List.pairwise_cons.mp h1
    have hx := h2 x (List.mem_cons_self ..)
    have := ih (lo := x + 1) ⟨k2, fun y hy => ⟨by have := k1 y hy; omega, (h2 y (List.mem_cons_of_mem _ hy)).2⟩⟩
    rw [List.length_cons]
    omega
theorem rising_eq {n : Nat} {l : List Int} {lo hi : Int} (hn : 3 ≤ n) (h : Rs lo hi l) (hl : l.length ≤ 100) : sem n 14 [.d (tI l), .d (.int lo), .d (.int hi)] = .ok (.d (.bool true)) [] := by
  obtain ⟨n, rfl⟩ : ∃ m, n = m + 1 := ⟨n - 1, by omega⟩
  obtain ⟨h1, h2⟩ := h
  have c1 : lcL [3] (.n 3) fYes (fCall (sem n 6) [.v (fVar 3), .v (fVar 1), .v (fOp subD (.n 2) (.e (fC (.int 1))))]) (l.map PyData.int) [some (.d (tI l)), some (.d (.int lo)), some (.d (.int hi)), none, none] =
      some (l.map (fun _ => PyData.bool true), [some (.d (tI l)), some (.d (.int lo)), some (.d (.int hi)), none, none]) :=
    lc_mapT fun x hx => by
      have e := isfrom_eq (n := n) (i := x) (lo := lo) (hi := hi - 1) (by omega)
      rw [decide_eq_true (by have := h2 x hx; omega)] at e
      refine ⟨[some (.d (tI l)), some (.d (.int lo)), some (.d (.int hi)), some (.d (.int x)), none], [some (.d (tI l)), some (.d (.int lo)), some (.d (.int hi)), some (.d (.int x)), none], .d (.bool true), rfl, ?_, rfl, rfl⟩
      simp_arith [e]
  have c2 : lcL [4] (.n 4) fYes (fOp ltD (.e (fOp ixD (.n 0) (.n 4))) (.e (fOp ixD (.n 0) (.e (fOp addD (.n 4) (.e (fC (.int 1)))))))) (upFrom 0 (l.length - 1)) [some (.d (tI l)), some (.d (.int lo)), some (.d (.int hi)), none, none] =
      some ((upI (l.length - 1)).map (fun _ => PyData.bool true), [some (.d (tI l)), some (.d (.int lo)), some (.d (.int hi)), none, none]) := by
    rw [upI_D]
    exact lc_mapT fun x hx => by
      obtain ⟨x0, x1⟩ := mem_upI.mp hx
      obtain ⟨k, rfl⟩ : ∃ k : Nat, x = (k : Int) := ⟨x.toNat, by omega⟩
      have lk : k + 1 < l.length := by omega
      have a1 : L2.atI (l.map PyData.int) ((k : Nat) : Int) = some (.int l[k]) := L2.atI_nat (by rw [List.getElem?_map, List.getElem?_eq_getElem (by omega)]; rfl)
      have a2 : L2.atI (l.map PyData.int) (((k : Nat) : Int) + 1) = some (.int l[k + 1]) := by
        have z := L2.atI_nat (xs := l.map PyData.int) (j := k + 1) (v := .int l[k + 1]) (by rw [List.getElem?_map, List.getElem?_eq_getElem lk]; rfl)
        rw [← z]; rfl
      have lt : l[k] < l[k + 1] := List.pairwise_iff_getElem.mp h1 k (k + 1) (by omega) lk (by omega)
      refine ⟨[some (.d (tI l)), some (.d (.int lo)), some (.d (.int hi)), none, some (.d (.int k))], [some (.d (tI l)), some (.d (.int lo)), some (.d (.int hi)), none, some (.d (.int k))], .d (.bool true), rfl, ?_, rfl, rfl⟩
      unfold tI
      simp_arith [a1, a2, decide_eq_true lt]
  have kr : kRng (.int ((l.length : Int) - 1)) = some (upFrom 0 (l.length - 1)) := by
    rw [kRng_int (by omega) (by omega)]
    congr 2
    omega
  have b1 : allD (.list (l.map fun _ => PyData.bool true)) = some (.d (.bool true)) := by
    have := allD_bools (l := l.map fun _ => true)
    rw [List.map_map] at this
    rw [show (PyData.bool ∘ fun _ : Int => true) = fun _ => PyData.bool true from rfl] at this
    rw [this]
    congr 3
    induction l with
    | nil => rfl
    | cons => simp
  have b2 : allD (.list ((upI (l.length - 1)).map fun _ => PyData.bool true)) = some (.d (.bool true)) := by
    have := allD_bools (l := (upI (l.length - 1)).map fun _ => true)
    rw [List.map_map] at this
    rw [show (PyData.bool ∘ fun _ : Int => true) = fun _ => PyData.bool true from rfl] at this
    rw [this]
    congr 3
    generalize upI (l.length - 1) = z
    induction z with
    | nil => rfl
    | cons => simp_all
  have hz : l.length ≤ 16777216 := by omega
  have hz2 : (upI (l.length - 1)).length ≤ 16777216 := by rw [upI_len]; omega
  simp only [sem_succ, bodyOf, fb14]
  unfold tI at c1 c2 ⊢
  simp_all_arith [isTupleT, c1, b1, kr, c2, b2, List.length_map]
end K88
set_option maxHeartbeats 4000000
set_option exponentiation.threshold 10000
namespace K88
open Dl PySem
theorem zip_eq {f g : Ev → RE} {ρ : Ev} : fZip f g ρ = zipI g (f ρ) := nrfl
theorem zip_d {g : Ev → RE} {x : D} {ρ : Ev} : zipI g (.ok (.d x) ρ) = RI.of (g ρ) (kZip x) := nrfl
theorem zip_ow {g : Ev → RE} {x : List D} {ρ : Ev} : zipI g (.ok (.ow x) ρ) = RI.of (g ρ) (kZip (.list x)) := nrfl
theorem kzip_ll {l r : List D} : kZip (.list l) (.list r) = some (zipD2 l r) := nrfl
def avB (n : Nat) : Ev → RS := (fSeq (fIf (fOrT (fNotT (fTest (fIsN 5 isTupleT (fun _ => none)))) (fTest (fOp neD (.e (fUn lenD (.n 5))) (.e (fC (.int 2))))))
    (fRet (fC (.bool false)))
    fSkip)
    (fSeq (fIf (fOrT (fNotT (fTest (fCall (sem n 14) [.v (fOp ixD (.n 5) (.e (fC (.int 0)))), .v (fC (.int 0)), .v (fVar 2)]))) (fNotT (fTest (fCall (sem n 14) [.v (fOp ixD (.n 5) (.e (fC (.int 1)))), .v (fVar 2), .v (fOp addD (.n 2) (.n 3))]))))
    (fRet (fC (.bool false)))
    fSkip)
    (fSeq (fIf (fAndT (fTest (fOp eqD (.e (fOp addD (.e (fUn lenD (.e (fOp ixD (.n 5) (.e (fC (.int 0))))))) (.e (fUn lenD (.e (fOp ixD (.n 5) (.e (fC (.int 1))))))))) (.e (fC (.int 0))))) (fTest (fOp gtD (.e (fOp addD (.n 2) (.n 3))) (.e (fC (.int 0))))))
    (fRet (fC (.bool false)))
    fSkip)
    (fSet 4 (fOp addD (.n 4) (.e (fUn listD (.e (fOp addD (.e (fOp ixD (.n 5) (.e (fC (.int 0))))) (.e (fOp ixD (.n 5) (.e (fC (.int 1)))))))))))))) 
theorem fb15_eq (n : Nat) : fb15 (sem n) = (fSeq (fUnp (.t [(.n 2), (.n 3)]) (fVar 0))
    (fSeq (fIf (fNotT (fTest (fIsN 1 isListT (fun _ => none))))
    (fRet (fC (.bool false)))
    fSkip)
    (fSeq (fSet 4 (fLst []))
    (fSeq (fFor (fun ρ => RI.of ((fVar 1) ρ) kSeq) (.n 5) (avB n))
    (fSeq (fIf (fTest (fOp eqD (.e (fOp addD (.n 2) (.n 3))) (.e (fC (.int 0)))))
    (fRet (fOp eqD (.e (fUn lenD (.n 1))) (.e (fC (.int 1)))))
    fSkip)
    (fRet (fOp eqD (.e (fUn srtD (.n 4))) (.e (fLRg (fOp addD (.n 2) (.n 3))))))))))) := rfl
theorem av_one {n d u : Nat} {v : Vi} {a b : D} {acc : List Int} (hn : 6 ≤ n) (hd : d ≤ 2) (hu : u ≤ 2) (h1 : Rs 0 d v.1) (h2 : Rs d ((d + u : Nat) : Int) v.2) (h3 : 0 < d + u → v.1 ++ v.2 ≠ []) (hl : acc.length ≤ 1000) :
    avB n [some (.d a), some (.d b), some (.d (.int (d : Nat))), some (.d (.int (u : Nat))), some (.ow (acc.map .int)), some (.d (viD v))] = .next [some (.d a), some (.d b), some (.d (.int (d : Nat))), some (.d (.int (u : Nat))), some (.ow ((acc ++ (v.1 ++ v.2)).map .int)), some (.d (viD v))] := by
  have l1 := h1.len
  have l2 := h2.len
  have e1 := rising_eq (n := n) (by omega) h1 (by omega)
  have e2 := rising_eq (n := n) (by omega) h2 (by omega)
  rw [show ((d + u : Nat) : Int) = (d : Int) + (u : Int) by omega] at e2
  have c : ¬ (((v.1.length : Nat) : Int) + ((v.2.length : Nat) : Int) = 0 ∧ (d : Int) + (u : Int) > 0) := fun ⟨x, y⟩ => by
    have := h3 (by omega)
    refine this ?_
    have k1 : v.1 = [] := List.eq_nil_of_length_eq_zero (by omega)
    have k2 : v.2 = [] := List.eq_nil_of_length_eq_zero (by omega)
    rw [k1, k2]; rfl
  have z1 : v.1.length ≤ 16777216 := by omega
  have z2 : v.1.length + v.2.length ≤ 16777216 := by omega
  have z3 : acc.length + (v.1.length + v.2.length) ≤ 16777216 := by omega
  unfold avB viD
  by_cases q : ((v.1.length : Nat) : Int) + ((v.2.length : Nat) : Int) = 0
  · have g : ¬ (d : Int) + (u : Int) > 0 := fun y => c ⟨q, y⟩
    simp_all_arith [isTupleT, e1, e2]
    unfold tI
    simp_all_arith [List.length_map, q, g, List.length_append, List.map_append]
  · simp_all_arith [isTupleT, e1, e2]
    unfold tI
    simp_all_arith [List.length_map, q, List.length_append, List.map_append]
theorem av_all {n d u : Nat} {a b : D} (hn : 6 ≤ n) (hd : d ≤ 2) (hu : u ≤ 2) : ∀ (r : List Vi) {acc : List Int} {x5 : Option Sv}, (∀ v ∈ r, (Rs 0 d v.1 ∧ Rs d ((d + u : Nat) : Int) v.2) ∧ (0 < d + u → v.1 ++ v.2 ≠ [])) → acc.length + (allV r).length ≤ 1000 → Pd x5 →
    ∃ y5, Pd y5 ∧ forL (.n 5) (avB n) (r.map viD) [some (.d a), some (.d b), some (.d (.int (d : Nat))), some (.d (.int (u : Nat))), some (.ow (acc.map .int)), x5] = .next [some (.d a), some (.d b), some (.d (.int (d : Nat))), some (.d (.int (u : Nat))), some (.ow ((acc ++ allV r).map .int)), y5]
  | [], acc, x5, _, _, h5 => ⟨x5, h5, by simp [S.for_nil, allV]⟩
  | v :: r, acc, x5, h, hl, h5 => by
    obtain ⟨⟨h1, h2⟩, h3⟩ := h v (List.mem_cons_self ..)
    have el : allV (v :: r) = (v.1 ++ v.2) ++ allV r := by unfold allV; rw [List.flatMap_cons]
    rw [el, List.length_append] at hl
    have e := av_one (n := n) (a := a) (b := b) hn hd hu h1 h2 h3 (acc := acc) (by omega)
    obtain ⟨y5, k5, ih⟩ := av_all (a := a) (b := b) hn hd hu r (acc := acc ++ (v.1 ++ v.2)) (x5 := some (.d (viD v))) (fun x hx => h x (List.mem_cons_of_mem _ hx)) (by rw [List.length_append]; omega) (.d _)
    refine ⟨y5, k5, ?_⟩
    rw [List.map_cons, S.for_cons]
    simp_arith [nr_rf h5.nr]
    rw [e]
    simp_arith []
    rw [ih, el, List.append_assoc]
theorem upI_small {n : Nat} (h : n ≤ 100) : ∀ x ∈ upI n, x.natAbs < 10 ^ 60 := fun x hx => by
  obtain ⟨h0, h1⟩ := mem_upI.mp hx
  omega
theorem visits_eq {n d u : Nat} {r : List Vi} (hn : 8 ≤ n) (hd : d ≤ 2) (hu : u ≤ 2) (h : GV d u r) : sem n 15 [.d (pD (d, u)), .d (rowD r)] = .ok (.d (.bool true)) [] := by
  obtain ⟨n, rfl⟩ : ∃ m, n = m + 1 := ⟨n - 1, by omega⟩
  have hp := h.perm.length_eq
  rw [upI_len] at hp
  obtain ⟨y5, k5, e⟩ := av_all (n := n) (a := pD (d, u)) (b := rowD r) (by omega) hd hu r (acc := []) (x5 := none) (fun v hv => ⟨h.all v hv, fun c => h.ne c v hv⟩) (by rw [List.length_nil]; omega) .n
  rw [List.nil_append, List.map_nil] at e
  have hl := h.len (by omega)
  have il : intsOf ((allV r).map PyData.int) = some (allV r) := S.intsOf_map _
  have es : srtI (allV r) = upI (d + u) := sorted_eq ((srtI_perm _).trans h.perm) (srtI_sorted _) (upI_sorted _)
  have eq := eqI_list (l := upI (d + u)) (upI_small (by omega))
  have rg : rgOk 0 ((d : Int) + (u : Int)) = true := by unfold rgOk; exact decide_eq_true ⟨by omega, by omega, by omega, by omega, by omega⟩
  have tn : ((d : Int) + (u : Int)).toNat = d + u := by omega
  have hu2 : upFrom 0 (d + u) = (upI (d + u)).map .int := upI_D _
  simp only [sem_succ, bodyOf]
  rw [fb15_eq]
  unfold pD rowD at e ⊢
  by_cases c : (d : Int) + (u : Int) = 0
  · have h1 : ((r.length : Nat) : Int) = 1 := by rw [h.one (by omega)]; rfl
    simp_all_arith [isListT, e, c, List.length_map, h1]
    rw [rfOf_nr k5.nr]
    rfl
  · simp_all_arith [isListT, e, c, Dl.S.srt_l, il, es, fLRg, rg, tn, hu2, eq]
    rw [rfOf_nr k5.nr]
    rfl
inductive GVs : List (Nat × Nat) → List (List Vi) → Prop
  | nil : GVs [] []
  | cons {s : Nat × Nat} {r : List Vi} {sg : List (Nat × Nat)} {V : List (List Vi)} : GV s.1 s.2 r → GVs sg V → GVs (s :: sg) (r :: V)
theorem GVs.len : ∀ {sg V}, GVs sg V → V.length = sg.length
  | _, _, .nil => rfl
  | _, _, .cons _ t => by rw [List.length_cons, List.length_cons, t.len]
theorem GVs.at : ∀ {sg V} {i : Nat} {s : Nat × Nat} {r : List Vi}, GVs sg V → sg[i]? = some s → V[i]? = some r → GV s.1 s.2 r
  | _, _, 0, _, _, .cons h _, e, f => by simp at e f; subst e; subst f; exact h
  | _, _, i + 1, _, _, .cons _ t, e, f => t.at (i := i) (by simpa using e) (by simpa using f)
def bkV (V : List (List Vi)) : D := .list (V.map rowD)
theorem vb_comp {n : Nat} {a b : D} (hn : 8 ≤ n) : ∀ {sg V}, GVs sg V → (∀ x ∈ sg, x.1 ≤ 2 ∧ x.2 ≤ 2) → lcL [2, 3] (.t [(.n 2), (.n 3)]) fYes (fCall (sem n 15) [.v (fVar 2), .v (fVar 3)]) (zipD2 (sg.map pD) (V.map rowD)) [some (.d a), some (.d b), none, none] =
    some ((sg.map fun _ => true).map PyData.bool, [some (.d a), some (.d b), none, none])
  | _, _, .nil, _ => S.lc_nil
  | _, _, .cons (s := s) (r := r) h t, hs => by
    have h0 := hs s (List.mem_cons_self ..)
    have e := visits_eq hn h0.1 h0.2 h
    have ih := vb_comp (a := a) (b := b) hn t fun x hx => hs x (List.mem_cons_of_mem _ hx)
    rw [List.map_cons, List.map_cons, zipD2, S.lc_cons]
    simp_arith [e, ih, List.map_cons]
theorem all_trues {α : Type} (l : List α) : (l.map fun _ => true).all id = true := by
  induction l with
  | nil => rfl
  | cons x l ih => rw [List.map_cons, List.all_cons, ih]; rfl
theorem vbook_eq {n : Nat} {sg : List (Nat × Nat)} {V : List (List Vi)} {rs : D} (hn : 10 ≤ n) (hs : Small sg) (h : GVs sg V) : sem n 16 [.d (.tuple [.list (sg.map pD), rs]), .d (bkV V)] = .ok (.d (.bool true)) [] := by
  obtain ⟨n, rfl⟩ : ∃ m, n = m + 1 := ⟨n - 1, by omega⟩
  obtain ⟨s1, s2, s3⟩ := hs
  have hl := h.len
  have e := vb_comp (n := n) (a := .tuple [.list (sg.map pD), rs]) (b := bkV V) (by omega) h s3
  have a := allD_bools (l := sg.map fun _ => true)
  rw [all_trues] at a
  have z : sg.length ≤ 16777216 := by omega
  simp only [sem_succ, bodyOf, fb16]
  unfold bkV at e ⊢
  simp_all_arith [isListT, List.length_map, hl, zip_eq, zip_d, kzip_ll, e, a]
theorem lookv_eq {n : Nat} {sg : List (Nat × Nat)} {rs : List Ru} {V : List (List Vi)} (hn : 30 ≤ n) (hb : Bk sg rs) (h : GVs sg V) : sem n 17 [.d (bookD sg rs), .d (bkV V)] = .ok (.d .none) [] := by
  obtain ⟨n, rfl⟩ : ∃ m, n = m + 1 := ⟨n - 1, by omega⟩
  have e1 := look_eq (n := n) (by omega) hb
  have e2 := vbook_eq (n := n) (rs := .list (rs.map Ru.d)) (by omega) hb.1 h
  have e2 : sem n 16 [.d (bookD sg rs), .d (bkV V)] = .ok (.d (.bool true)) [] := e2
  simp only [sem_succ, bodyOf, fb17]
  simp_arith [e1, e2]
end K88
set_option maxHeartbeats 4000000
set_option exponentiation.threshold 10000
namespace K88
open Dl PySem
def mrg (a b : Vi) : Vi := (srtI (a.1 ++ b.1), srtI (a.2 ++ b.2))
/-- a visit and the next one as one -/
def jn (r : List Vi) (k : Nat) (a b : Vi) : List Vi := r.take k ++ mrg a b :: r.drop (k + 2)
def rowO (r : List Vi) : Ow := .lst ((r.map viD).map .dat)
def bkO (V : List (List Vi)) : Ow := .lst (V.map rowO)
theorem rowO_toD (r : List Vi) : (rowO r).toD = rowD r := by unfold rowO; rw [S.toD_lst, S.allD_dats]; rfl
theorem bkO_toD (V : List (List Vi)) : (bkO V).toD = bkV V := by
  unfold bkO bkV
  rw [S.toD_lst, Ow.allD_map, List.map_map]
  congr 1
  exact List.map_congr_left fun r _ => rowO_toD r
theorem ints_app (a b : List Int) : intsOf (a.map PyData.int ++ b.map PyData.int) = some (a ++ b) := by rw [← List.map_append]; exact S.intsOf_map _
theorem ixV0 (a : Vi) : ixD (viD a) (.int 0) = some (.d (tI a.1)) := rfl
theorem ixV1 (a : Vi) : ixD (viD a) (.int 1) = some (.d (tI a.2)) := rfl
theorem add_tI {a b : List Int} (h : a.length + b.length ≤ 16777216) : addD (tI a) (tI b) = some (.d (tI (a ++ b))) := by
  unfold tI
  rw [S.addT, if_pos (by rw [List.length_map, List.length_map]; exact h), List.map_append]
theorem srt_tI (a : List Int) : srtD (tI a) = some (.ow ((srtI a).map .int)) := by
  unfold tI
  rw [S.srt_t, S.intsOf_map]
  rfl
theorem ix_row {r : List Vi} {k : Nat} {i : Int} {a : Vi} (hi : i = (k : Int)) (h : r[k]? = some a) : ixD (rowD r) (.int i) = some (.d (viD a)) := by
  unfold rowD
  rw [S.ixL, atI_at hi (x := viD a) (by rw [List.getElem?_map, h]; rfl)]
  rfl
theorem ix_bk {V : List (List Vi)} {k : Nat} {i : Int} {r : List Vi} (hi : i = (k : Int)) (h : V[k]? = some r) : ixD (bkV V) (.int i) = some (.d (rowD r)) := by
  unfold bkV
  rw [S.ixL, atI_at hi (x := rowD r) (by rw [List.getElem?_map, h]; rfl)]
  rfl
theorem sl_row_to {r : List Vi} {k : Nat} {i : Int} (hi : i = (k : Int)) : slD (rowD r) none (some i) = some (.ow ((r.take k).map viD)) := by
  unfold rowD
  rw [slL_to hi, List.map_take]
theorem sl_row_from {r : List Vi} {k : Nat} {i : Int} (hi : i = (k : Int)) : slD (rowD r) (some i) none = some (.ow ((r.drop k).map viD)) := by
  unfold rowD
  rw [slL_from hi, List.map_drop]
theorem sl_bk_to {r : List (List Vi)} {k : Nat} {i : Int} (hi : i = (k : Int)) : slD (bkV r) none (some i) = some (.ow ((r.take k).map rowD)) := by
  unfold bkV
  rw [slL_to hi, List.map_take]
theorem sl_bk_from {r : List (List Vi)} {k : Nat} {i : Int} (hi : i = (k : Int)) : slD (bkV r) (some i) none = some (.ow ((r.drop k).map rowD)) := by
  unfold bkV
  rw [slL_from hi, List.map_drop]
theorem tup_ints (l : List Int) : PyData.tuple (l.map .int) = tI l := rfl
theorem lis_row (r : List Vi) : listD (rowD r) = some (.ow (r.map viD)) := rfl
theorem rows_lc {x : Ev} {v : Nat} (hv : v = x.length) : ∀ (l : List (List Vi)), lcLM [v] (.n v) fYes (fUn listD (.n v)) (l.map rowD) (x ++ [none]) = some (l.map rowO, x ++ [none]) := fun l =>
  lcM_map fun r hr => by
    subst hv
    refine ⟨x ++ [some (.d (rowD r))], x ++ [some (.d (rowD r))], .ow (r.map viD), ?_, ?_, rfl, ?_⟩
    · rw [S.bind_n, if_pos (by unfold rfAt; simp)]
      simp
    · have e : viewAt (x ++ [some (.d (rowD r))]) x.length = some (rowD r) := by unfold viewAt; simp
      simp_arith [e, lis_row]
    · simp [wipeE]
theorem joinat_eq {n : Nat} {V : List (List Vi)} {r : List Vi} {s k : Nat} {a b : Vi} (hn : 1 ≤ n) (hV : V.length ≤ 100) (hr : r.length ≤ 100) (h1 : V[s]? = some r) (h2 : r[k]? = some a) (h3 : r[k + 1]? = some b)
    (la : a.1.length ≤ 100 ∧ a.2.length ≤ 100) (lb : b.1.length ≤ 100 ∧ b.2.length ≤ 100) :
    sem n 18 [.d (bkV V), .d (.int (s : Nat)), .d (.int (k : Nat))] = .ok (.on (bkO (V.take s ++ jn r k a b :: V.drop (s + 1)))) [] := by
  obtain ⟨n, rfl⟩ : ∃ m, n = m + 1 := ⟨n - 1, by omega⟩
  have a1 := ix_bk (i := (s : Nat)) rfl h1
  have a2 := ix_row (i := (k : Nat)) rfl h2
  have a3 := ix_row (k := k + 1) (i := (k : Nat) + 1) (by omega) h3
  have i1 := add_tI (a := a.1) (b := b.1) (by omega)
  have i2 := add_tI (a := a.2) (b := b.2) (by omega)
  have s1 := sl_row_to (r := r) (k := k) (i := (k : Nat)) rfl
  have s2 := sl_row_from (r := r) (k := k + 2) (i := (k : Nat) + 2) (by omega)
  have s3 := sl_bk_to (r := V) (k := s) (i := (s : Nat)) rfl
  have s4 := sl_bk_from (r := V) (k := s + 1) (i := (s : Nat) + 1) (by omega)
  have lt : k < r.length := (List.getElem?_eq_some_iff.mp h2).1
  have lt2 : s < V.length := (List.getElem?_eq_some_iff.mp h1).1
  have lk : (r.take k).length = k := by rw [List.length_take]; omega
  have ls : (V.take s).length = s := by rw [List.length_take]; omega
  have w1 : k + 1 ≤ 16777216 := by omega
  have w2 : k + 1 + (r.length - (k + 2)) ≤ 16777216 := by omega
  have w3 : s ≤ 16777216 := by omega
  have w4 : V.length - (s + 1) ≤ 16777216 := by omega
  have w5 : s + 1 ≤ 16777216 := by omega
  have w6 : s + 1 + (V.length - (s + 1)) ≤ 16777216 := by omega
  have cm := fun (l : List (List Vi)) (x1 x2 x3 x4 x5 x6 x8 : Option Sv) => rows_lc (x := [x1, x2, x3, x4, x5, x6, x8]) (v := 7) rfl l
  simp only [List.cons_append, List.nil_append] at cm
  have m1 : PyData.tuple [tI (srtI (a.1 ++ b.1)), tI (srtI (a.2 ++ b.2))] = viD (mrg a b) := rfl
  simp only [sem_succ, bodyOf, fb18]
  simp_all_arith [Dl.S.fBor_eq, Dl.S.bor_d, Dl.S.bor_ow, Dl.S.bor_r, Dl.S.fBorT_eq, Dl.S.borT_ok, Dl.S.borT_r, Dl.S.frz_nil, Dl.S.frz_cons, Dl.S.frz1_n, Dl.S.frz1_d, Dl.S.frz1_ow, Dl.S.frz1_rf, Dl.S.frz1_on, Dl.S.frz1_al, Dl.S.frz1_ex, Dl.S.frz1_fz, Dl.S.lf_int, Dl.S.lf_str, Dl.S.lf_bool, Dl.S.lf_none, Dl.S.lf_tup, Dl.S.lfs_nil, Dl.S.lfs_cons, Dl.S.toD_dat, Dl.S.toD_lst, Dl.S.toD_tup, Dl.S.allD_nil, Dl.S.allD_cons, Dl.S.fSetM_eq, Dl.S.setM_on, Dl.S.setM_d, Dl.S.setM_ow, Dl.S.kill_nil, Dl.S.kill_cons, Dl.S.kill1_n, Dl.S.kill1_d, Dl.S.kill1_ow, Dl.S.kill1_rf, Dl.S.kill1_on, Dl.S.kill1_al, Dl.S.kill1_ex, Dl.S.kill1_fz, Dl.S.into_eq, Dl.S.thru_eq, Dl.S.fPn_eq, Dl.S.pn_on, Dl.S.pn_al, Dl.S.fPx_eq, Dl.S.px_ok, Dl.S.px_i, Dl.S.px_l, Dl.S.px_j, Dl.S.lenP_eq, Dl.S.lenO_on, Dl.S.lenA_l, Dl.S.lenA_t, Dl.S.at_nil, Dl.S.at_l, Dl.S.at_t, Dl.S.put_nil, Dl.S.put_l, Dl.S.put_t, Dl.S.putA_s, Dl.S.lstAt_eq, Dl.S.onO_s, Dl.S.lstA_s, Dl.S.putP_eq, Dl.S.orLW_s, Dl.S.fAppP_eq, Dl.S.appP_ok, Dl.S.appP_eq, Dl.S.appPO_s, Dl.S.ow_d, Dl.S.ow_ow, Dl.S.ow_on, Dl.S.fClrP_eq, Dl.S.clr_ok, Dl.S.clrO_s, Dl.S.pinS_n, Dl.S.pinS_c, Dl.S.pinP_n, Dl.S.pinP_c, Dl.S.am_nil, Dl.S.am_cons, Dl.S.am_ok, Dl.S.am_r, Dl.S.am_s, Dl.S.fTupM_eq, Dl.S.fLstM_eq, Dl.S.fCatM_eq, Dl.S.catK_s, Dl.S.fMvM_eq, Dl.S.mv_on, Dl.S.mv_d, Dl.S.mv_ow, Dl.S.fCallM_eq, Dl.S.callMK_eq, Dl.S.callMS_s, Dl.S.callMO_ok, Dl.S.callMO_r, Dl.S.fLcM_eq, Dl.S.lcMK_ok, Dl.S.lcMO_s, Dl.S.fAl_eq, Dl.S.al_ok, Dl.S.rf_on, Dl.S.rf_al, Dl.S.rfOf_on, Dl.S.rfOf_al, Dl.S.keep_on, Dl.S.keep_al, a1, a2, a3, ixV0, ixV1, i1, i2, srt_tI, tup_ints, s1, s2, s3, s4, List.length_map, lk, ls, w1, w2, w3, w4, w5, w6, cm, m1, List.length_append, List.length_drop]
  unfold bkO rowO jn
  simp
end K88
set_option maxHeartbeats 4000000
set_option exponentiation.threshold 10000
namespace K88
open Dl PySem
theorem GVs.vlen {sg V} (h : GVs sg V) (hs : ∀ x ∈ sg, x.1 ≤ 2 ∧ x.2 ≤ 2) : ∀ {i : Nat} {r : List Vi}, V[i]? = some r → r.length ≤ 4 ∧ ∀ v ∈ r, v.1.length ≤ 2 ∧ v.2.length ≤ 2 := by
  induction h with
  | nil => intro i r e; simp at e
  | cons g t ih =>
    rename_i s r sg V
    have h0 := hs s (List.mem_cons_self ..)
    intro i r' e
    cases i with
    | zero =>
      simp at e; subst e
      refine ⟨g.len (by omega), fun v hv => ?_⟩
      have := g.all v hv
      have l1 := this.1.len
      have l2 := this.2.len
      constructor <;> omega
    | succ i => exact ih (fun x hx => hs x (List.mem_cons_of_mem _ hx)) (by simpa using e)
theorem jv_eq {n : Nat} {sg : List (Nat × Nat)} {rs : List Ru} {V : List (List Vi)} {r : List Vi} {s k : Nat} {a b : Vi} (hn : 32 ≤ n) (hb : Bk sg rs) (h : GVs sg V) (h1 : V[s]? = some r) (h2 : r[k]? = some a) (h3 : r[k + 1]? = some b) :
    sem n 19 [.d (bookD sg rs), .d (bkV V), .d (.int (s : Nat)), .d (.int (k : Nat))] = .ok (.on (bkO (V.take s ++ jn r k a b :: V.drop (s + 1)))) [] := by
  obtain ⟨n, rfl⟩ : ∃ m, n = m + 1 := ⟨n - 1, by omega⟩
  obtain ⟨s1, s2, s3⟩ := hb.1
  have hl := h.len
  obtain ⟨v1, v2⟩ := h.vlen s3 h1
  have la := v2 a (List.mem_of_getElem? h2)
  have lb := v2 b (List.mem_of_getElem? h3)
  have lt : k + 1 < r.length := (List.getElem?_eq_some_iff.mp h3).1
  have lt2 : s < V.length := (List.getElem?_eq_some_iff.mp h1).1
  have e1 := lookv_eq (n := n) (by omega) hb h
  have e2 := isfrom_eq (n := n) (i := (s : Nat)) (lo := 0) (hi := (V.length : Int) - 1) (by omega)
  rw [decide_eq_true (by omega)] at e2
  have e3 := isfrom_eq (n := n) (i := (k : Nat)) (lo := 0) (hi := (r.length : Int) - 2) (by omega)
  rw [decide_eq_true (by omega)] at e3
  have e4 := joinat_eq (n := n) (by omega) (V := V) (by omega) (by omega) h1 h2 h3 (by omega) (by omega)
  have a1 := ix_bk (i := (s : Nat)) rfl h1
  have l1 : lenD (bkV V) = some (.d (.int V.length)) := by unfold bkV; simp_all_arith [List.length_map]
  have l2 : lenD (rowD r) = some (.d (.int r.length)) := by unfold rowD; simp_all_arith [List.length_map]
  simp only [sem_succ, bodyOf, fb19]
  simp_all_arith [Dl.S.fBor_eq, Dl.S.bor_d, Dl.S.bor_ow, Dl.S.bor_r, Dl.S.fBorT_eq, Dl.S.borT_ok, Dl.S.borT_r, Dl.S.frz_nil, Dl.S.frz_cons, Dl.S.frz1_n, Dl.S.frz1_d, Dl.S.frz1_ow, Dl.S.frz1_rf, Dl.S.frz1_on, Dl.S.frz1_al, Dl.S.frz1_ex, Dl.S.frz1_fz, Dl.S.lf_int, Dl.S.lf_str, Dl.S.lf_bool, Dl.S.lf_none, Dl.S.lf_tup, Dl.S.lfs_nil, Dl.S.lfs_cons, Dl.S.toD_dat, Dl.S.toD_lst, Dl.S.toD_tup, Dl.S.allD_nil, Dl.S.allD_cons, Dl.S.fSetM_eq, Dl.S.setM_on, Dl.S.setM_d, Dl.S.setM_ow, Dl.S.kill_nil, Dl.S.kill_cons, Dl.S.kill1_n, Dl.S.kill1_d, Dl.S.kill1_ow, Dl.S.kill1_rf, Dl.S.kill1_on, Dl.S.kill1_al, Dl.S.kill1_ex, Dl.S.kill1_fz, Dl.S.into_eq, Dl.S.thru_eq, Dl.S.fPn_eq, Dl.S.pn_on, Dl.S.pn_al, Dl.S.fPx_eq, Dl.S.px_ok, Dl.S.px_i, Dl.S.px_l, Dl.S.px_j, Dl.S.lenP_eq, Dl.S.lenO_on, Dl.S.lenA_l, Dl.S.lenA_t, Dl.S.at_nil, Dl.S.at_l, Dl.S.at_t, Dl.S.put_nil, Dl.S.put_l, Dl.S.put_t, Dl.S.putA_s, Dl.S.lstAt_eq, Dl.S.onO_s, Dl.S.lstA_s, Dl.S.putP_eq, Dl.S.orLW_s, Dl.S.fAppP_eq, Dl.S.appP_ok, Dl.S.appP_eq, Dl.S.appPO_s, Dl.S.ow_d, Dl.S.ow_ow, Dl.S.ow_on, Dl.S.fClrP_eq, Dl.S.clr_ok, Dl.S.clrO_s, Dl.S.pinS_n, Dl.S.pinS_c, Dl.S.pinP_n, Dl.S.pinP_c, Dl.S.am_nil, Dl.S.am_cons, Dl.S.am_ok, Dl.S.am_r, Dl.S.am_s, Dl.S.fTupM_eq, Dl.S.fLstM_eq, Dl.S.fCatM_eq, Dl.S.catK_s, Dl.S.fMvM_eq, Dl.S.mv_on, Dl.S.mv_d, Dl.S.mv_ow, Dl.S.fCallM_eq, Dl.S.callMK_eq, Dl.S.callMS_s, Dl.S.callMO_ok, Dl.S.callMO_r, Dl.S.fLcM_eq, Dl.S.lcMK_ok, Dl.S.lcMO_s, Dl.S.fAl_eq, Dl.S.al_ok, Dl.S.rf_on, Dl.S.rf_al, Dl.S.rfOf_on, Dl.S.rfOf_al, Dl.S.keep_on, Dl.S.keep_al, e1, e2, e3, e4, a1, l1, l2]
end K88
set_option maxHeartbeats 4000000
set_option exponentiation.threshold 10000
namespace K88
open Dl PySem
theorem lf_tI (l : List Int) : lf (tI l) = true := by
  unfold tI
  rw [S.lf_tup]
  induction l with
  | nil => exact S.lfs_nil
  | cons x l ih => rw [List.map_cons, S.lfs_cons, S.lf_int, ih]; rfl
theorem lf_viD (v : Vi) : lf (viD v) = true := by
  unfold viD
  rw [S.lf_tup, S.lfs_cons, S.lfs_cons, S.lfs_nil, lf_tI, lf_tI]; rfl
theorem row_jn {r : List Vi} {k : Nat} {a b : Vi} (h2 : r[k]? = some a) (h3 : r[k + 1]? = some b) : (r.eraseIdx (k + 1)).set k (mrg a b) = jn r k a b := by
  have lt : k + 1 < r.length := (List.getElem?_eq_some_iff.mp h3).1
  unfold jn
  rw [List.eraseIdx_eq_take_drop_succ]
  have e : r.take (k + 1) = r.take k ++ [a] := by rw [List.take_succ, h2]; rfl
  rw [e, List.append_assoc, List.set_append_right _ _ (by rw [List.length_take]; omega), List.length_take, show k - min k r.length = 0 by omega]
  rfl
theorem bk_set {V : List (List Vi)} {s : Nat} {r : List Vi} (h : s < V.length) : V.set s r = V.take s ++ r :: V.drop (s + 1) := by
  rw [List.set_eq_take_append_cons_drop, if_pos h]
theorem bkO_at {V : List (List Vi)} {s : Nat} {r : List Vi} (h1 : V[s]? = some r) : (bkO V).at [s] = some (rowO r) := by
  unfold bkO
  rw [S.at_l, List.getElem?_map, h1]
  exact S.at_nil
theorem bkO_put {V : List (List Vi)} {s : Nat} {r r' : List Vi} (h1 : V[s]? = some r) : (bkO V).put [s] (rowO r') = bkO (V.set s r') := by
  unfold bkO
  rw [S.put_l, List.getElem?_map, h1]
  show Ow.lst (putA _ s [] _ (some (rowO r))) = _
  rw [S.putA_s, S.put_nil, List.map_set]
theorem rowO_set (r : List Vi) (k : Nat) (v : Vi) : Ow.lst (((r.map viD).map Ow.dat).set k (.dat (viD v))) = rowO (r.set k v) := by
  unfold rowO; rw [List.map_set, List.map_set]
theorem rowO_erase (r : List Vi) (k : Nat) : Ow.lst (((r.map viD).map Ow.dat).eraseIdx k) = rowO (r.eraseIdx k) := by
  unfold rowO
  rw [List.eraseIdx_eq_take_drop_succ, List.eraseIdx_eq_take_drop_succ]
  simp [List.map_take, List.map_drop]
theorem ljoin_eq {n : Nat} {V : List (List Vi)} {r : List Vi} {s k : Nat} {a b : Vi} (hn : 1 ≤ n) (hV : V.length ≤ 100) (hr : r.length ≤ 100) (h1 : V[s]? = some r) (h2 : r[k]? = some a) (h3 : r[k + 1]? = some b)
    (la : a.1.length ≤ 100 ∧ a.2.length ≤ 100) (lb : b.1.length ≤ 100 ∧ b.2.length ≤ 100) :
    sem n 30 [.d (bkV V), .d (.int (s : Nat)), .d (.int (k : Nat))] = .ok (.on (bkO (V.take s ++ jn r k a b :: V.drop (s + 1)))) [] := by
  obtain ⟨n, rfl⟩ : ∃ m, n = m + 1 := ⟨n - 1, by omega⟩
  have lt : k + 1 < r.length := (List.getElem?_eq_some_iff.mp h3).1
  have lt2 : s < V.length := (List.getElem?_eq_some_iff.mp h1).1
  have a1 := ix_bk (i := (s : Nat)) rfl h1
  have a2 := ix_row (i := (k : Nat)) rfl h2
  have i1 := add_tI (a := a.1) (b := b.1) (by omega)
  have i2 := add_tI (a := a.2) (b := b.2) (by omega)
  have cm := fun (l : List (List Vi)) (x1 x2 x3 x4 x5 x6 x8 x9 : Option Sv) => rows_lc (x := [x1, x2, x3, x4, x5, x6, x8, x9]) (v := 8) rfl l
  simp only [List.cons_append, List.nil_append] at cm
  have m1 : PyData.tuple [tI (srtI (a.1 ++ b.1)), tI (srtI (a.2 ++ b.2))] = viD (mrg a b) := rfl
  have q1 : lstAt ([] : Ev) 0 [] = none := rfl
  have x1 : L2.ixN (V.map rowO).length ((s : Nat) : Int) = some s := ixN_nat (by rw [List.length_map]; exact lt2)
  have x2 : seqIndex? (((k : Nat) : Int) + 1) ((r.map viD).map Ow.dat).length = some (k + 1) := by
    have := seqIx_nat (l := ((r.map viD).map Ow.dat).length) (k := k + 1) (by rw [List.length_map, List.length_map]; exact lt)
    rw [← this]; rfl
  have x3 : L2.ixN (r.eraseIdx (k + 1)).length ((k : Nat) : Int) = some k := ixN_nat (by rw [List.length_eraseIdx]; split <;> omega)
  have g1 : ((r.map viD).map Ow.dat)[k + 1]? = some (.dat (viD b)) := by rw [List.getElem?_map, List.getElem?_map, h3]; rfl
  have p1 := bkO_at h1
  have p2 : (bkO V).put [s] (.lst (((r.map viD).map Ow.dat).eraseIdx (k + 1))) = bkO (V.set s (r.eraseIdx (k + 1))) := by rw [rowO_erase, bkO_put h1]
  have p3 : (bkO (V.set s (r.eraseIdx (k + 1)))).at [s] = some (rowO (r.eraseIdx (k + 1))) := bkO_at (by rw [List.getElem?_set_self lt2])
  simp only [sem_succ, bodyOf, fb30]
  have vt := bkO_toD V
  have fin : bkO (V.take s ++ jn r k a b :: V.drop (s + 1)) = bkO ((V.set s (r.eraseIdx (k + 1))).set s ((r.eraseIdx (k + 1)).set k (mrg a b))) := by
    rw [List.set_set, row_jn h2 h3, bk_set lt2]
  rw [fin]
  have cm2 : ∀ (x1 x2 x3 x4 x5 x6 x8 x9 : Option Sv), _ := fun x1 x2 x3 x4 x5 x6 x8 x9 => cm V x1 x2 x3 x4 x5 x6 x8 x9
  have w : (V.map rowO).length ≤ 16777216 := by rw [List.length_map]; omega
  have ks : kSeq (bkV V) = some (V.map rowD) := rfl
  have ol : Ow.lst (V.map rowO) = bkO V := rfl
  have n1 : lenA (some (bkO V)) = some (V.map rowO).length := rfl
  have n2 : lenA (some (bkO (V.set s (r.eraseIdx (k + 1))))) = some (V.map rowO).length := by show some (List.map rowO _).length = _; rw [List.length_map, List.length_set, List.length_map]
  have la1 : ∀ w r, lstA w (some (rowO r)) = some (w, (r.map viD).map Ow.dat) := fun _ _ => rfl
  have xl : ((((r.eraseIdx (k + 1)).map viD).map Ow.dat)).length = (r.eraseIdx (k + 1)).length := by rw [List.length_map, List.length_map]
  have p4 : (bkO (V.set s (r.eraseIdx (k + 1)))).put [s] (.lst ((((r.eraseIdx (k + 1)).map viD).map Ow.dat).set k (.dat (viD (mrg a b))))) = bkO ((V.set s (r.eraseIdx (k + 1))).set s ((r.eraseIdx (k + 1)).set k (mrg a b))) := by
    rw [rowO_set, bkO_put (List.getElem?_set_self lt2)]
  have b1 : Sv.dat? (.d (viD a)) = some (viD a) := rfl
  have bd : ∀ (v : Vi) (p : Pat) (q : Pat) (ρ : Ev), bindP (.t [p, q]) (viD v) ρ = bindP (.t [p, q]) (.tuple [tI v.1, tI v.2]) ρ := fun _ _ _ _ => rfl
  have z1 : (-9223372036854775808 : Int) ≤ (k : Int) + 1 ∧ (k : Int) + 1 < 9223372036854775808 := by omega
  simp_all_arith [Dl.S.fBor_eq, Dl.S.bor_d, Dl.S.bor_ow, Dl.S.bor_r, Dl.S.fBorT_eq, Dl.S.borT_ok, Dl.S.borT_r, Dl.S.frz_nil, Dl.S.frz_cons, Dl.S.frz1_n, Dl.S.frz1_d, Dl.S.frz1_ow, Dl.S.frz1_rf, Dl.S.frz1_on, Dl.S.frz1_al, Dl.S.frz1_ex, Dl.S.frz1_fz, Dl.S.lf_int, Dl.S.lf_str, Dl.S.lf_bool, Dl.S.lf_none, Dl.S.lf_tup, Dl.S.lfs_nil, Dl.S.lfs_cons, Dl.S.toD_dat, Dl.S.toD_lst, Dl.S.toD_tup, Dl.S.allD_nil, Dl.S.allD_cons, Dl.S.fSetM_eq, Dl.S.setM_on, Dl.S.setM_d, Dl.S.setM_ow, Dl.S.kill_nil, Dl.S.kill_cons, Dl.S.kill1_n, Dl.S.kill1_d, Dl.S.kill1_ow, Dl.S.kill1_rf, Dl.S.kill1_on, Dl.S.kill1_al, Dl.S.kill1_ex, Dl.S.kill1_fz, Dl.S.into_eq, Dl.S.thru_eq, Dl.S.fPn_eq, Dl.S.pn_on, Dl.S.pn_al, Dl.S.fPx_eq, Dl.S.px_ok, Dl.S.px_i, Dl.S.px_l, Dl.S.px_j, Dl.S.lenP_eq, Dl.S.lenO_on, Dl.S.lenA_l, Dl.S.lenA_t, Dl.S.at_nil, Dl.S.at_l, Dl.S.at_t, Dl.S.put_nil, Dl.S.put_l, Dl.S.put_t, Dl.S.putA_s, Dl.S.lstAt_eq, Dl.S.onO_s, Dl.S.lstA_s, Dl.S.putP_eq, Dl.S.orLW_s, Dl.S.fAppP_eq, Dl.S.appP_ok, Dl.S.appP_eq, Dl.S.appPO_s, Dl.S.ow_d, Dl.S.ow_ow, Dl.S.ow_on, Dl.S.fClrP_eq, Dl.S.clr_ok, Dl.S.clrO_s, Dl.S.pinS_n, Dl.S.pinS_c, Dl.S.pinP_n, Dl.S.pinP_c, Dl.S.am_nil, Dl.S.am_cons, Dl.S.am_ok, Dl.S.am_r, Dl.S.am_s, Dl.S.fTupM_eq, Dl.S.fLstM_eq, Dl.S.fCatM_eq, Dl.S.catK_s, Dl.S.fMvM_eq, Dl.S.mv_on, Dl.S.mv_d, Dl.S.mv_ow, Dl.S.fCallM_eq, Dl.S.callMK_eq, Dl.S.callMS_s, Dl.S.callMO_ok, Dl.S.callMO_r, Dl.S.fLcM_eq, Dl.S.lcMK_ok, Dl.S.lcMO_s, Dl.S.fAl_eq, Dl.S.al_ok, Dl.S.rf_on, Dl.S.rf_al, Dl.S.rfOf_on, Dl.S.rfOf_al, Dl.S.keep_on, Dl.S.keep_al, ks, cm, w, ol, vt, a1, a2, lf_viD, n1, n2, x1, x2, x3, g1, p1, p2, p3, p4, la1, xl, i1, i2, srt_tI, tup_ints, m1, bd, S.fPopP_eq, S.popR_ok, S.orLE_s, S.popP_i, S.popO_s, S.popK_s, S.popJ_s, S.fSetP_eq, S.setR_ok, S.setP_i, S.setPO_s, S.setK_s]
end K88
set_option maxHeartbeats 4000000
set_option exponentiation.threshold 10000
namespace K88
open Dl PySem
def inO (l : List Int) : List Ow := (l.map PyData.int).map .dat
def vO (v : Vi) : Ow := .lst [.lst (inO v.1), .lst (inO v.2)]
def wO (W : List Vi) : Ow := .lst (W.map vO)
def vL (v : Vi) : D := .list [.list (v.1.map .int), .list (v.2.map .int)]
theorem wO_toD (W : List Vi) : (wO W).toD = .list (W.map vL) := by
  unfold wO
  rw [S.toD_lst, Ow.allD_map, List.map_map]
  congr 1
  refine List.map_congr_left fun v _ => ?_
  show (vO v).toD = vL v
  unfold vO vL inO
  rw [S.toD_lst, S.allD_cons, S.allD_cons, S.allD_nil, S.toD_lst, S.toD_lst, S.allD_dats, S.allD_dats]
theorem wO_at {W : List Vi} {i : Nat} {v : Vi} (h : W[i]? = some v) : (wO W).at [i] = some (vO v) := by
  unfold wO
  rw [S.at_l, List.getElem?_map, h]
  exact S.at_nil
theorem wO_at0 {W : List Vi} {i : Nat} {v : Vi} (h : W[i]? = some v) : (wO W).at [i, 0] = some (.lst (inO v.1)) := by
  unfold wO
  rw [S.at_l, List.getElem?_map, h]
  show (vO v).at [0] = _
  unfold vO
  rw [S.at_l]
  exact S.at_nil
theorem wO_at1 {W : List Vi} {i : Nat} {v : Vi} (h : W[i]? = some v) : (wO W).at [i, 1] = some (.lst (inO v.2)) := by
  unfold wO
  rw [S.at_l, List.getElem?_map, h]
  show (vO v).at [1] = _
  unfold vO
  rw [S.at_l]
  exact S.at_nil
theorem wO_put0 {W : List Vi} {i : Nat} {v : Vi} (k : Int) (h : W[i]? = some v) : (wO W).put [i, 0] (.lst (inO v.1 ++ [.dat (.int k)])) = wO (W.set i (v.1 ++ [k], v.2)) := by
  unfold wO
  rw [S.put_l, List.getElem?_map, h]
  show Ow.lst ((W.map vO).set i ((vO v).put [0] _)) = _
  rw [List.map_set]
  congr 2
  unfold vO
  rw [S.put_l]
  show Ow.lst (([Ow.lst (inO v.1), Ow.lst (inO v.2)]).set 0 ((Ow.lst (inO v.1)).put [] _)) = _
  rw [S.put_nil]
  simp [inO]
theorem wO_put1 {W : List Vi} {i : Nat} {v : Vi} (k : Int) (h : W[i]? = some v) : (wO W).put [i, 1] (.lst (inO v.2 ++ [.dat (.int k)])) = wO (W.set i (v.1, v.2 ++ [k])) := by
  unfold wO
  rw [S.put_l, List.getElem?_map, h]
  show Ow.lst ((W.map vO).set i ((vO v).put [1] _)) = _
  rw [List.map_set]
  congr 2
  unfold vO
  rw [S.put_l]
  show Ow.lst (([Ow.lst (inO v.1), Ow.lst (inO v.2)]).set 1 ((Ow.lst (inO v.2)).put [] _)) = _
  rw [S.put_nil]
  simp [inO]
theorem inO_len (l : List Int) : (inO l).length = l.length := by unfold inO; rw [List.length_map, List.length_map]
def visB (n : Nat) : Ev → RS := (fSeq (fAl 6 (fPx (fPn 4) (fCall (sem n 22) [.r 0, .v (fOp addD (.n 2) (.n 3))])))
    (fAppP [] (fPx (fPn 6) (fUn intD (.e (fOp geD (.n 5) (.n 2))))) (fVar 5)))
theorem fb29_eq (n : Nat) : fb29 (sem n) = (fSeq (fUnp (.t [(.n 2), (.n 3)]) (fVar 1))
    (fSeq (fSetM [] 4 (fLcM (fun ρ => RI.of ((fOp addD (.n 2) (.n 3)) ρ) kRng) [8] (.n 8) fYes (fLstM [(fLst []), (fLst [])])))
    (fSeq (fFor (fun ρ => RI.of ((fOp addD (.n 2) (.n 3)) ρ) kRng) (.n 5) (visB n))
    (fSeq (fSet 7 (fBor (fLc (fun ρ => RI.of ((fVar 4) ρ) kSeq) [9, 10] (.t [(.n 9), (.n 10)]) (fTest (fOp neD (.e (fOp addD (.n 9) (.n 10))) (.e (fLst [])))) (fTup [(fUn tupleD (.n 9)), (fUn tupleD (.n 10))]))))
    (fSeq (fIf (fTest (fOp eqD (.n 7) (.e (fLst []))))
    (fRet (fLst [(fTup [(fTup []), (fTup [])])]))
    fSkip)
    (fRet (fMove 7))))))) := rfl
def addV (d k : Nat) (v : Vi) : Vi := if d ≤ k then (v.1, v.2 ++ [(k : Int)]) else (v.1 ++ [(k : Int)], v.2)
theorem visB_eq {n d u k i : Nat} {p : Int} {s : D} {W : List Vi} {v : Vi} {x6 : Option Sv} (hn : 1 ≤ n) (hd : d ≤ 2) (hu : u ≤ 2) (h0 : 0 < d + u) (hi : p % (((d + u : Nat)) : Int) = (i : Int)) (hl : W.length ≤ 100) (hv : W[i]? = some v) (l1 : v.1.length ≤ 1000) (l2 : v.2.length ≤ 1000) (h6 : NR x6) :
    visB n [some (.rf [.int p]), some (.d s), some (.d (.int (d : Nat))), some (.d (.int (u : Nat))), some (.on (wO W)), some (.d (.int (k : Nat))), x6, none, none, none, none] =
      .next [some (.rf [.int (p / ((d + u : Nat) : Int))]), some (.d s), some (.d (.int (d : Nat))), some (.d (.int (u : Nat))), some (.on (wO (W.set i (addV d k v)))), some (.d (.int (k : Nat))), some (.al 4 [i]), none, none, none, none] := by
  have t := T1 (n := n) (p := p) (k := ((d + u : Nat) : Int)) hn (by omega) (by omega)
  rw [hi, show (((d + u : Nat)) : Int) = (d : Int) + (u : Int) by omega] at t
  rw [show (((d + u : Nat)) : Int) = (d : Int) + (u : Int) by omega]
  have y6 := nr_rf h6
  have lt := (List.getElem?_eq_some_iff.mp hv).1
  have n1 : lenA (some (wO W)) = some (W.map vO).length := rfl
  have x1 : L2.ixN (W.map vO).length ((i : Nat) : Int) = some i := ixN_nat (by rw [List.length_map]; exact lt)
  have n2 : lenA (some (vO v)) = some 2 := rfl
  have a0 := wO_at hv
  have z1 : (inO v.1).length < 16777216 := by rw [inO_len]; omega
  have z2 : (inO v.2).length < 16777216 := by rw [inO_len]; omega
  have s1 : ∀ w l, lstA w (some (.lst (inO l))) = some (w, inO l) := fun _ _ => rfl
  have ib : ∀ b : Bool, intD (.bool b) = some (.d (.int (if b then 1 else 0))) := fun _ => rfl
  have j0 : L2.ixN 2 0 = some 0 := rfl
  have j1 : L2.ixN 2 1 = some 1 := rfl
  unfold visB addV
  by_cases c : d ≤ k
  · have c' : (k : Int) ≥ (d : Int) := by omega
    have a2 := wO_at1 hv
    have p2 := wO_put1 (k : Int) hv
    simp_arith [Dl.S.fBor_eq, Dl.S.bor_d, Dl.S.bor_ow, Dl.S.bor_r, Dl.S.fBorT_eq, Dl.S.borT_ok, Dl.S.borT_r, Dl.S.frz_nil, Dl.S.frz_cons, Dl.S.frz1_n, Dl.S.frz1_d, Dl.S.frz1_ow, Dl.S.frz1_rf, Dl.S.frz1_on, Dl.S.frz1_al, Dl.S.frz1_ex, Dl.S.frz1_fz, Dl.S.lf_int, Dl.S.lf_str, Dl.S.lf_bool, Dl.S.lf_none, Dl.S.lf_tup, Dl.S.lfs_nil, Dl.S.lfs_cons, Dl.S.toD_dat, Dl.S.toD_lst, Dl.S.toD_tup, Dl.S.allD_nil, Dl.S.allD_cons, Dl.S.fSetM_eq, Dl.S.setM_on, Dl.S.setM_d, Dl.S.setM_ow, Dl.S.kill_nil, Dl.S.kill_cons, Dl.S.kill1_n, Dl.S.kill1_d, Dl.S.kill1_ow, Dl.S.kill1_rf, Dl.S.kill1_on, Dl.S.kill1_al, Dl.S.kill1_ex, Dl.S.kill1_fz, Dl.S.into_eq, Dl.S.thru_eq, Dl.S.fPn_eq, Dl.S.pn_on, Dl.S.pn_al, Dl.S.fPx_eq, Dl.S.px_ok, Dl.S.px_i, Dl.S.px_l, Dl.S.px_j, Dl.S.lenP_eq, Dl.S.lenO_on, Dl.S.lenA_l, Dl.S.lenA_t, Dl.S.at_nil, Dl.S.at_l, Dl.S.at_t, Dl.S.put_nil, Dl.S.put_l, Dl.S.put_t, Dl.S.putA_s, Dl.S.lstAt_eq, Dl.S.onO_s, Dl.S.lstA_s, Dl.S.putP_eq, Dl.S.orLW_s, Dl.S.fAppP_eq, Dl.S.appP_ok, Dl.S.appP_eq, Dl.S.appPO_s, Dl.S.ow_d, Dl.S.ow_ow, Dl.S.ow_on, Dl.S.fClrP_eq, Dl.S.clr_ok, Dl.S.clrO_s, Dl.S.pinS_n, Dl.S.pinS_c, Dl.S.pinP_n, Dl.S.pinP_c, Dl.S.am_nil, Dl.S.am_cons, Dl.S.am_ok, Dl.S.am_r, Dl.S.am_s, Dl.S.fTupM_eq, Dl.S.fLstM_eq, Dl.S.fCatM_eq, Dl.S.catK_s, Dl.S.fMvM_eq, Dl.S.mv_on, Dl.S.mv_d, Dl.S.mv_ow, Dl.S.fCallM_eq, Dl.S.callMK_eq, Dl.S.callMS_s, Dl.S.callMO_ok, Dl.S.callMO_r, Dl.S.fLcM_eq, Dl.S.lcMK_ok, Dl.S.lcMO_s, Dl.S.fAl_eq, Dl.S.al_ok, Dl.S.rf_on, Dl.S.rf_al, Dl.S.rfOf_on, Dl.S.rfOf_al, Dl.S.keep_on, Dl.S.keep_al, t, y6, n1, x1, n2, a0, z1, z2, s1, ib, c', j0, j1, a2, p2, if_pos c]
    simp
  · have c' : ¬ (k : Int) ≥ (d : Int) := by omega
    have a2 := wO_at0 hv
    have p2 := wO_put0 (k : Int) hv
    simp_arith [Dl.S.fBor_eq, Dl.S.bor_d, Dl.S.bor_ow, Dl.S.bor_r, Dl.S.fBorT_eq, Dl.S.borT_ok, Dl.S.borT_r, Dl.S.frz_nil, Dl.S.frz_cons, Dl.S.frz1_n, Dl.S.frz1_d, Dl.S.frz1_ow, Dl.S.frz1_rf, Dl.S.frz1_on, Dl.S.frz1_al, Dl.S.frz1_ex, Dl.S.frz1_fz, Dl.S.lf_int, Dl.S.lf_str, Dl.S.lf_bool, Dl.S.lf_none, Dl.S.lf_tup, Dl.S.lfs_nil, Dl.S.lfs_cons, Dl.S.toD_dat, Dl.S.toD_lst, Dl.S.toD_tup, Dl.S.allD_nil, Dl.S.allD_cons, Dl.S.fSetM_eq, Dl.S.setM_on, Dl.S.setM_d, Dl.S.setM_ow, Dl.S.kill_nil, Dl.S.kill_cons, Dl.S.kill1_n, Dl.S.kill1_d, Dl.S.kill1_ow, Dl.S.kill1_rf, Dl.S.kill1_on, Dl.S.kill1_al, Dl.S.kill1_ex, Dl.S.kill1_fz, Dl.S.into_eq, Dl.S.thru_eq, Dl.S.fPn_eq, Dl.S.pn_on, Dl.S.pn_al, Dl.S.fPx_eq, Dl.S.px_ok, Dl.S.px_i, Dl.S.px_l, Dl.S.px_j, Dl.S.lenP_eq, Dl.S.lenO_on, Dl.S.lenA_l, Dl.S.lenA_t, Dl.S.at_nil, Dl.S.at_l, Dl.S.at_t, Dl.S.put_nil, Dl.S.put_l, Dl.S.put_t, Dl.S.putA_s, Dl.S.lstAt_eq, Dl.S.onO_s, Dl.S.lstA_s, Dl.S.putP_eq, Dl.S.orLW_s, Dl.S.fAppP_eq, Dl.S.appP_ok, Dl.S.appP_eq, Dl.S.appPO_s, Dl.S.ow_d, Dl.S.ow_ow, Dl.S.ow_on, Dl.S.fClrP_eq, Dl.S.clr_ok, Dl.S.clrO_s, Dl.S.pinS_n, Dl.S.pinS_c, Dl.S.pinP_n, Dl.S.pinP_c, Dl.S.am_nil, Dl.S.am_cons, Dl.S.am_ok, Dl.S.am_r, Dl.S.am_s, Dl.S.fTupM_eq, Dl.S.fLstM_eq, Dl.S.fCatM_eq, Dl.S.catK_s, Dl.S.fMvM_eq, Dl.S.mv_on, Dl.S.mv_d, Dl.S.mv_ow, Dl.S.fCallM_eq, Dl.S.callMK_eq, Dl.S.callMS_s, Dl.S.callMO_ok, Dl.S.callMO_r, Dl.S.fLcM_eq, Dl.S.lcMK_ok, Dl.S.lcMO_s, Dl.S.fAl_eq, Dl.S.al_ok, Dl.S.rf_on, Dl.S.rf_al, Dl.S.rfOf_on, Dl.S.rfOf_al, Dl.S.keep_on, Dl.S.keep_al, t, y6, n1, x1, n2, a0, z1, z2, s1, ib, c', j0, j1, a2, p2, if_neg c]
    simp
end K88
set_option maxHeartbeats 4000000
set_option exponentiation.threshold 10000
namespace K88
open Dl PySem
theorem w_neat (w : W2) : neat (.str w.s) = true := by cases w <;> decide +kernel
theorem nn_neat : neat (.str "num") = true := by decide +kernel
theorem oo_neat : neat (.str "worth") = true := by decide +kernel
theorem pp_neat : neat (.str "pick") = true := by decide +kernel
theorem tt_neat : neat (.str "times") = true := by decide +kernel
theorem rr_neat : neat (.str "rest") = true := by decide +kernel
theorem i_neat {i : Int} (h : i.natAbs < 10 ^ 60) : neat (.int i) = true := by unfold neat; exact decide_eq_true h
theorem F.neat : ∀ t : F, t.ok → Dl.neat t.d = true ∧ PyData.depth t.d ≤ t.deep ∧ (cost t.d : Int) ≤ 250 * t.parts
  | .num i, ho => by
    unfold F.ok at ho
    refine ⟨?_, ?_, ?_⟩
    · simp only [F.d, neat_t, neat_l, neats_n, neats_c, Bool.and_self, nn_neat, i_neat (i := i) (by omega)]
    · simp [F.d, PyData.depth, PyData.depthAll, F.deep]
    · simp [F.d, cost, costs, F.parts]
  | .wor a b, ho => by
    unfold F.ok at ho
    refine ⟨?_, ?_, ?_⟩
    · simp only [F.d, neat_t, neat_l, neats_n, neats_c, Bool.and_self, oo_neat, i_neat (i := a) (by omega), i_neat (i := b) (by omega)]
    · simp [F.d, PyData.depth, PyData.depthAll, F.deep]
    · simp [F.d, cost, costs, F.parts]
  | .two w a b, ho => by
    unfold F.ok at ho
    obtain ⟨h1, h2, h3⟩ := F.neat a ho.1
    obtain ⟨g1, g2, g3⟩ := F.neat b ho.2
    refine ⟨?_, ?_, ?_⟩
    · simp only [F.d, neat_t, neat_l, neats_n, neats_c, Bool.and_self, w_neat, h1, g1]
    · simp only [F.d, PyData.depth, PyData.depthAll, F.deep]; omega
    · simp only [F.d, cost, costs, F.parts]; omega
  | .pick a b c, ho => by
    unfold F.ok at ho
    obtain ⟨h1, h2, h3⟩ := F.neat a ho.1
    obtain ⟨g1, g2, g3⟩ := F.neat b ho.2.1
    obtain ⟨k1, k2, k3⟩ := F.neat c ho.2.2
    refine ⟨?_, ?_, ?_⟩
    · simp only [F.d, neat_t, neat_l, neats_n, neats_c, Bool.and_self, pp_neat, h1, g1, k1]
    · simp only [F.d, PyData.depth, PyData.depthAll, F.deep]; omega
    · simp only [F.d, cost, costs, F.parts]; omega
  | .times k a, ho => by
    unfold F.ok at ho
    obtain ⟨h1, h2, h3⟩ := F.neat a ho.2
    refine ⟨?_, ?_, ?_⟩
    · simp only [F.d, neat_t, neat_l, neats_n, neats_c, Bool.and_self, tt_neat, h1, i_neat (i := k) (by omega)]
    · simp only [F.d, PyData.depth, PyData.depthAll, F.deep]; omega
    · simp only [F.d, cost, costs, F.parts]; omega
  | .rest k a, ho => by
    unfold F.ok at ho
    obtain ⟨h1, h2, h3⟩ := F.neat a ho.2
    refine ⟨?_, ?_, ?_⟩
    · simp only [F.d, neat_t, neat_l, neats_n, neats_c, Bool.and_self, rr_neat, h1, i_neat (i := k) (by omega)]
    · simp only [F.d, PyData.depth, PyData.depthAll, F.deep]; omega
    · simp only [F.d, cost, costs, F.parts]; omega
theorem nat_neat {p : Nat} (h : p < 1000000) : neat (iD p) = true := i_neat (by omega)
theorem pair_neat {x : Nat × Nat} (h : x.1 < 1000000 ∧ x.2 < 1000000) : neat (pD x) = true := by
  show neat (.tuple [.int (x.1 : Nat), .int (x.2 : Nat)]) = true
  simp only [neat_t, neats_n, neats_c, Bool.and_self, i_neat (i := (x.1 : Nat)) (by omega), i_neat (i := (x.2 : Nat)) (by omega)]
theorem Ru.neat {sg : List (Nat × Nat)} {r : Ru} (hS : Small sg) (h : r.good sg) : Dl.neat r.d = true ∧ PyData.depth r.d ≤ 10 ∧ cost r.d ≤ 400000 := by
  have hl := told_len hS h.1
  obtain ⟨⟨i1, i2, i3⟩, h2, h3⟩ := h
  have s2 := hS.2.1
  have hf : ∀ t ∈ r.fm, Dl.neat t.d = true ∧ PyData.depth t.d ≤ 8 ∧ cost t.d ≤ 3750 := fun t ht => by
    obtain ⟨o1, o2, o3⟩ := (h3 t ht).1
    obtain ⟨n1, n2, n3⟩ := F.neat t o1
    exact ⟨n1, by omega, by omega⟩
  have a1 := neats_map (f := F.d) fun t ht => (hf t ht).1
  have a2 := depths_map (f := F.d) (c := 8) fun t ht => (hf t ht).2.1
  have a3 := costs_map (f := F.d) (c := 3750) fun t ht => (hf t ht).2.2
  have b1 := neats_map (f := iD) (l := r.ps) fun p hp => nat_neat (by have := i3 p hp; omega)
  have b2 := depths_map (f := iD) (c := 0) (l := r.ps) fun p hp => Nat.le_refl _
  have b3 := costs_map (f := iD) (c := 62) (l := r.ps) fun p hp => Nat.le_refl _
  have i0 := i_neat (i := (r.s : Nat)) (by omega)
  refine ⟨?_, ?_, ?_⟩
  · simp only [Ru.d, neat_t, neat_l, neats_n, neats_c, Bool.and_self, a1, b1, i0]
  · simp only [Ru.d, PyData.depth, PyData.depthAll]; omega
  · simp only [Ru.d, cost, costs]
    have : r.fm.length * (3750 + 2) ≤ 100 * 3752 := Nat.mul_le_mul (by omega) (by omega)
    have : r.ps.length * (62 + 2) ≤ 2 * 64 := Nat.mul_le_mul (by omega) (by omega)
    omega
theorem book_neat {sg : List (Nat × Nat)} {rs : List Ru} (h : Bk sg rs) : neat (bookD sg rs) = true ∧ PyData.depth (bookD sg rs) ≤ 12 ∧ cost (bookD sg rs) ≤ 4000000 := by
  obtain ⟨hS, hr, hg⟩ := h
  have hS2 := hS
  obtain ⟨s1, s2, s3⟩ := hS2
  have a1 := neats_map (f := pD) (l := sg) fun x hx => pair_neat (by have := s3 x hx; omega)
  have a2 := depths_map (f := pD) (c := 1) (l := sg) fun x hx => by simp [pD, PyData.depth, PyData.depthAll]
  have a3 := costs_map (f := pD) (c := 132) (l := sg) fun x hx => by simp [pD, cost, costs]
  have b1 := neats_map (f := Ru.d) (l := rs) fun r hr => (Ru.neat hS (hg r hr)).1
  have b2 := depths_map (f := Ru.d) (c := 10) (l := rs) fun r hr => (Ru.neat hS (hg r hr)).2.1
  have b3 := costs_map (f := Ru.d) (c := 400000) (l := rs) fun r hr => (Ru.neat hS (hg r hr)).2.2
  refine ⟨?_, ?_, ?_⟩
  · simp only [bookD, neat_t, neat_l, neats_n, neats_c, Bool.and_self, a1, b1]
  · simp only [bookD, PyData.depth, PyData.depthAll]; omega
  · simp only [bookD, cost, costs]
    have : rs.length * (400000 + 2) ≤ 8 * 400002 := Nat.mul_le_mul (by omega) (by omega)
    have : sg.length * (132 + 2) ≤ 4 * 134 := Nat.mul_le_mul (by omega) (by omega)
    omega
/-! ### visits -/
theorem ints_neat {l : List Int} (h : ∀ x ∈ l, x.natAbs < 1000000) : neats (l.map PyData.int) = true ∧ PyData.depthAll (l.map PyData.int) ≤ 1 ∧ costs (l.map PyData.int) ≤ l.length * 64 := by
  refine ⟨neats_map fun x hx => i_neat (by have := h x hx; omega), depths_map (c := 1) fun x hx => ?_, costs_map (c := 62) fun x hx => ?_⟩
  · simp [PyData.depth]
  · simp [cost]
theorem tI_neat {l : List Int} (h : ∀ x ∈ l, x.natAbs < 1000000) : neat (tI l) = true ∧ PyData.depth (tI l) ≤ 2 ∧ cost (tI l) ≤ 4 + l.length * 64 := by
  obtain ⟨h1, h2, h3⟩ := ints_neat h
  unfold tI
  refine ⟨by rw [neat_t, h1], by rw [PyData.depth]; omega, by rw [cost]; omega⟩
def Low (v : Vi) : Prop := (∀ x ∈ v.1, x.natAbs < 1000000) ∧ (∀ x ∈ v.2, x.natAbs < 1000000) ∧ v.1.length ≤ 100 ∧ v.2.length ≤ 100
theorem viD_neat {v : Vi} (h : Low v) : neat (viD v) = true ∧ PyData.depth (viD v) ≤ 3 ∧ cost (viD v) ≤ 14000 := by
  obtain ⟨a, b, c, d⟩ := h
  obtain ⟨h1, h2, h3⟩ := tI_neat a
  obtain ⟨g1, g2, g3⟩ := tI_neat b
  unfold viD
  refine ⟨by simp only [neat_t, neats_c, neats_n, h1, g1, Bool.and_self], ?_, ?_⟩
  · simp only [PyData.depth, PyData.depthAll]; omega
  · simp only [cost, costs]; omega
theorem rowD_neat {r : List Vi} (h : ∀ v ∈ r, Low v) (hl : r.length ≤ 100) : neat (rowD r) = true ∧ PyData.depth (rowD r) ≤ 4 ∧ cost (rowD r) ≤ 1410000 := by
  unfold rowD
  have a := neats_map (f := viD) fun v hv => (viD_neat (h v hv)).1
  have b := depths_map (f := viD) (c := 3) fun v hv => (viD_neat (h v hv)).2.1
  have c := costs_map (f := viD) (c := 14000) fun v hv => (viD_neat (h v hv)).2.2
  refine ⟨by rw [neat_l, a], by rw [PyData.depth]; omega, by rw [cost]; have := Nat.mul_le_mul_right 14002 hl; omega⟩
theorem eq_nilN {l : List D} (h : neats l = true) (hd : PyData.depthAll l ≤ 60) : eqD (.list l) (.list []) = some (.d (.bool l.isEmpty)) ∧ neD (.list l) (.list []) = some (.d (.bool (!l.isEmpty))) := by
  have h1 : SeqAt.shaped (.list l) = true := neat_shaped (by rw [neat_l, h]) (by rw [PyData.depth]; omega)
  have h2 : SeqAt.shaped (.list []) = true := by decide +kernel
  have e : eqB (.list l) (.list []) = some l.isEmpty := by
    show (if SeqAt.shaped (.list l) && SeqAt.shaped (.list []) then some (PyData.eqv (.list l) (.list [])) else none : Option Bool) = _
    rw [h1, h2]
    cases l <;> rfl
  constructor
  · unfold eqD; rw [e]; rfl
  · unfold neD; rw [e]; rfl
end K88
set_option maxHeartbeats 4000000
set_option exponentiation.threshold 10000
namespace K88
open Dl PySem
/-- rows under way -/
structure IW (d u j : Nat) (W : List Vi) : Prop where
  len : W.length = d + u
  all : ∀ v ∈ W, (Rs 0 d v.1 ∧ ∀ x ∈ v.1, x < j) ∧ (Rs d ((d + u : Nat) : Int) v.2 ∧ ∀ x ∈ v.2, x < j)
  perm : (allV W).Perm (upI j)
theorem upI_succ (j : Nat) : upI (j + 1) = upI j ++ [(j : Int)] := by
  unfold upI
  rw [List.range_succ, List.map_append]
  rfl
theorem Rs.snoc {lo hi : Int} {l : List Int} {k : Nat} (h : Rs lo hi l) (hk : ∀ x ∈ l, x < (k : Int)) (h1 : lo ≤ k) (h2 : (k : Int) < hi) : Rs lo hi (l ++ [(k : Int)]) := by
  obtain ⟨a, b⟩ := h
  refine ⟨List.pairwise_append.mpr ⟨a, List.pairwise_singleton .., fun x hx y hy => by rw [List.mem_singleton.mp hy]; exact hk x hx⟩, fun x hx => ?_⟩
  rcases List.mem_append.mp hx with hx | hx
  · exact b x hx
  · rw [List.mem_singleton.mp hx]; exact ⟨h1, h2⟩
theorem allV_set {x : Int} : ∀ {W : List Vi} {i : Nat} {v v' : Vi}, W[i]? = some v → (v'.1 ++ v'.2).Perm (x :: (v.1 ++ v.2)) → (allV (W.set i v')).Perm (x :: allV W)
  | [], i, v, v', h, _ => by simp at h
  | w :: W, 0, v, v', h, p => by
    simp at h; subst h
    show ((v' :: W).flatMap fun v => v.1 ++ v.2).Perm (x :: ((w :: W).flatMap fun v => v.1 ++ v.2))
    rw [List.flatMap_cons, List.flatMap_cons]
    exact p.append_right _
  | w :: W, i + 1, v, v', h, p => by
    have ih := allV_set (W := W) (i := i) (by simpa using h) p
    show ((w :: W.set i v').flatMap fun v => v.1 ++ v.2).Perm (x :: ((w :: W).flatMap fun v => v.1 ++ v.2))
    rw [List.flatMap_cons, List.flatMap_cons]
    exact (ih.append_left _).trans List.perm_middle
theorem IW.step {d u j i : Nat} {W : List Vi} {v : Vi} (h : IW d u j W) (hj : j < d + u) (hv : W[i]? = some v) : IW d u (j + 1) (W.set i (addV d j v)) := by
  have hm := h.all v (List.mem_of_getElem? hv)
  refine ⟨by rw [List.length_set, h.len], fun w hw => ?_, ?_⟩
  · rcases List.mem_or_eq_of_mem_set hw with hw | rfl
    · obtain ⟨⟨a, b⟩, c, e⟩ := h.all w hw
      exact ⟨⟨a, fun x hx => by have := b x hx; omega⟩, c, fun x hx => by have := e x hx; omega⟩
    · obtain ⟨⟨a, b⟩, c, e⟩ := hm
      unfold addV
      by_cases q : d ≤ j
      · rw [if_pos q]
        refine ⟨⟨a, fun x hx => by have := b x hx; omega⟩, c.snoc e (by omega) (by omega), fun x hx => ?_⟩
        rcases List.mem_append.mp hx with hx | hx
        · have := e x hx; omega
        · rw [List.mem_singleton.mp hx]; omega
      · rw [if_neg q]
        refine ⟨⟨a.snoc b (by omega) (by omega), fun x hx => ?_⟩, c, fun x hx => by have := e x hx; omega⟩
        rcases List.mem_append.mp hx with hx | hx
        · have := b x hx; omega
        · rw [List.mem_singleton.mp hx]; omega
  · have p : ((addV d j v).1 ++ (addV d j v).2).Perm ((j : Int) :: (v.1 ++ v.2)) := by
      unfold addV
      by_cases q : d ≤ j
      · rw [if_pos q]
        show (v.1 ++ (v.2 ++ [(j : Int)])).Perm _
        rw [← List.append_assoc]
        exact List.perm_append_singleton _ _
      · rw [if_neg q]
        show (v.1 ++ [(j : Int)] ++ v.2).Perm _
        rw [List.append_assoc]
        exact List.perm_middle
    refine (allV_set hv p).trans ?_
    rw [upI_succ]
    exact (h.perm.cons _).trans (List.perm_append_singleton _ _).symm
theorem IW.zero (d u : Nat) : IW d u 0 ((List.range (d + u)).map fun _ => (([], []) : Vi)) := by
  refine ⟨by rw [List.length_map, List.length_range], fun v hv => ?_, ?_⟩
  · obtain ⟨_, _, rfl⟩ := List.mem_map.mp hv
    exact ⟨⟨⟨List.Pairwise.nil, fun _ h => nomatch h⟩, fun _ h => nomatch h⟩, ⟨List.Pairwise.nil, fun _ h => nomatch h⟩, fun _ h => nomatch h⟩
  · have : allV ((List.range (d + u)).map fun _ => (([], []) : Vi)) = [] := by
      unfold allV
      rw [List.flatMap_map]
      simp
    rw [this]
    exact List.Perm.refl _
def nz (v : Vi) : Bool := !(v.1 ++ v.2).isEmpty
theorem allV_nz : ∀ W : List Vi, allV (W.filter nz) = allV W
  | [] => rfl
  | v :: W => by
    have ih := allV_nz W
    unfold allV at ih ⊢
    cases c : nz v with
    | true => rw [List.filter_cons_of_pos c, List.flatMap_cons, List.flatMap_cons, ih]
    | false =>
      have e : v.1 ++ v.2 = [] := by
        unfold nz at c
        rw [Bool.not_eq_false'] at c
        exact List.isEmpty_iff.mp c
      rw [List.filter_cons_of_neg (by rw [c]; exact Bool.false_ne_true), List.flatMap_cons, ih, e]
      rfl
/-- the visits that the rows make -/
def fin (W : List Vi) : List Vi := if (W.filter nz).isEmpty then [([], [])] else W.filter nz
theorem IW.done {d u : Nat} {W : List Vi} (h : IW d u (d + u) W) : GV d u (fin W) := by
  by_cases c : 0 < d + u
  · have hp := h.perm
    rw [← allV_nz] at hp
    have ne : W.filter nz ≠ [] := fun e => by
      rw [e] at hp
      have := hp.length_eq
      rw [upI_len] at this
      simp [allV] at this
      omega
    have e : fin W = W.filter nz := by
      unfold fin
      rw [if_neg (by rw [List.isEmpty_iff]; exact ne)]
    rw [e]
    refine ⟨fun v hv => ?_, fun _ v hv => ?_, hp, fun z => by omega⟩
    · have := h.all v (List.mem_filter.mp hv).1
      exact ⟨this.1.1, this.2.1⟩
    · have := (List.mem_filter.mp hv).2
      unfold nz at this
      rw [Bool.not_eq_true'] at this
      intro z
      rw [z] at this
      cases this
  · have hl := h.len
    have e : W = [] := List.eq_nil_of_length_eq_zero (by omega)
    subst e
    have e : fin [] = [([], [])] := rfl
    rw [e]
    refine ⟨fun v hv => ?_, fun z => by omega, ?_, fun _ => rfl⟩
    · rw [List.mem_singleton.mp hv]
      exact ⟨⟨List.Pairwise.nil, fun _ h => nomatch h⟩, ⟨List.Pairwise.nil, fun _ h => nomatch h⟩⟩
    · rw [show d + u = 0 by omega]
      exact List.Perm.refl _
theorem Rs.low {lo hi : Int} {l : List Int} (h : Rs lo hi l) (h0 : 0 ≤ lo) (h1 : hi ≤ 100) : ∀ x ∈ l, x.natAbs < 1000000 := fun x hx => by
  have := h.2 x hx
  omega
theorem rows_eq {a0 a1 a2 a3 a4 a5 a6 a7 a9 a10 : Option Sv} {m : Nat} : lcLM [8] (.n 8) fYes (fLstM [(fLst []), (fLst [])]) (upFrom 0 m) [a0, a1, a2, a3, a4, a5, a6, a7, none, a9, a10] =
    some (((List.range m).map fun _ => (([], []) : Vi)).map vO, [a0, a1, a2, a3, a4, a5, a6, a7, none, a9, a10]) := by
  rw [upI_D]
  have : upI m = (List.range m).map Int.ofNat := rfl
  rw [this, List.map_map, List.map_map]
  refine lcM_map fun x _ => ?_
  refine ⟨[a0, a1, a2, a3, a4, a5, a6, a7, some (.d (.int x)), a9, a10], [a0, a1, a2, a3, a4, a5, a6, a7, some (.d (.int x)), a9, a10], .on (vO ([], [])), rfl, ?_, rfl, rfl⟩
  simp_arith [Dl.S.fBor_eq, Dl.S.bor_d, Dl.S.bor_ow, Dl.S.bor_r, Dl.S.fBorT_eq, Dl.S.borT_ok, Dl.S.borT_r, Dl.S.frz_nil, Dl.S.frz_cons, Dl.S.frz1_n, Dl.S.frz1_d, Dl.S.frz1_ow, Dl.S.frz1_rf, Dl.S.frz1_on, Dl.S.frz1_al, Dl.S.frz1_ex, Dl.S.frz1_fz, Dl.S.lf_int, Dl.S.lf_str, Dl.S.lf_bool, Dl.S.lf_none, Dl.S.lf_tup, Dl.S.lfs_nil, Dl.S.lfs_cons, Dl.S.toD_dat, Dl.S.toD_lst, Dl.S.toD_tup, Dl.S.allD_nil, Dl.S.allD_cons, Dl.S.fSetM_eq, Dl.S.setM_on, Dl.S.setM_d, Dl.S.setM_ow, Dl.S.kill_nil, Dl.S.kill_cons, Dl.S.kill1_n, Dl.S.kill1_d, Dl.S.kill1_ow, Dl.S.kill1_rf, Dl.S.kill1_on, Dl.S.kill1_al, Dl.S.kill1_ex, Dl.S.kill1_fz, Dl.S.into_eq, Dl.S.thru_eq, Dl.S.fPn_eq, Dl.S.pn_on, Dl.S.pn_al, Dl.S.fPx_eq, Dl.S.px_ok, Dl.S.px_i, Dl.S.px_l, Dl.S.px_j, Dl.S.lenP_eq, Dl.S.lenO_on, Dl.S.lenA_l, Dl.S.lenA_t, Dl.S.at_nil, Dl.S.at_l, Dl.S.at_t, Dl.S.put_nil, Dl.S.put_l, Dl.S.put_t, Dl.S.putA_s, Dl.S.lstAt_eq, Dl.S.onO_s, Dl.S.lstA_s, Dl.S.putP_eq, Dl.S.orLW_s, Dl.S.fAppP_eq, Dl.S.appP_ok, Dl.S.appP_eq, Dl.S.appPO_s, Dl.S.ow_d, Dl.S.ow_ow, Dl.S.ow_on, Dl.S.fClrP_eq, Dl.S.clr_ok, Dl.S.clrO_s, Dl.S.pinS_n, Dl.S.pinS_c, Dl.S.pinP_n, Dl.S.pinP_c, Dl.S.am_nil, Dl.S.am_cons, Dl.S.am_ok, Dl.S.am_r, Dl.S.am_s, Dl.S.fTupM_eq, Dl.S.fLstM_eq, Dl.S.fCatM_eq, Dl.S.catK_s, Dl.S.fMvM_eq, Dl.S.mv_on, Dl.S.mv_d, Dl.S.mv_ow, Dl.S.fCallM_eq, Dl.S.callMK_eq, Dl.S.callMS_s, Dl.S.callMO_ok, Dl.S.callMO_r, Dl.S.fLcM_eq, Dl.S.lcMK_ok, Dl.S.lcMO_s, Dl.S.fAl_eq, Dl.S.al_ok, Dl.S.rf_on, Dl.S.rf_al, Dl.S.rfOf_on, Dl.S.rfOf_al, Dl.S.keep_on, Dl.S.keep_al]
  rfl
theorem filt_eq {a0 a1 a2 a3 a4 a5 a6 a7 a8 : Option Sv} {W : List Vi} (h : ∀ v ∈ W, Low v) : lcL [9, 10] (.t [(.n 9), (.n 10)]) (fTest (fOp neD (.e (fOp addD (.n 9) (.n 10))) (.e (fLst [])))) (fTup [(fUn tupleD (.n 9)), (fUn tupleD (.n 10))]) (W.map vL) [a0, a1, a2, a3, a4, a5, a6, a7, a8, none, none] =
    some ((W.filter nz).map viD, [a0, a1, a2, a3, a4, a5, a6, a7, a8, none, none]) :=
  lc_filter fun v hv => by
    obtain ⟨b1, b2, b3, b4⟩ := h v hv
    have hn := ints_neat (l := v.1 ++ v.2) fun x hx => (List.mem_append.mp hx).elim (b1 x) (b2 x)
    have e := (eq_nilN hn.1 (by omega)).2
    have z1 : v.1.length + v.2.length ≤ 16777216 := by omega
    have e2 : ((v.1 ++ v.2).map PyData.int).isEmpty = (v.1 ++ v.2).isEmpty := by cases v.1 ++ v.2 <;> rfl
    rw [e2, List.map_append] at e
    refine ⟨[a0, a1, a2, a3, a4, a5, a6, a7, a8, some (.d (.list (v.1.map .int))), some (.d (.list (v.2.map .int)))], [a0, a1, a2, a3, a4, a5, a6, a7, a8, some (.d (.list (v.1.map .int))), some (.d (.list (v.2.map .int)))], rfl, ?_, rfl, fun _ => ⟨[a0, a1, a2, a3, a4, a5, a6, a7, a8, some (.d (.list (v.1.map .int))), some (.d (.list (v.2.map .int)))], .d (viD v), ?_, rfl, rfl⟩⟩
    · simp_arith [z1, e, List.length_map]
      rfl
    · simp_arith []
      rfl
theorem visits_l {n d u : Nat} {p : Int} (hn : 3 ≤ n) (hd : d ≤ 2) (hu : u ≤ 2) : ∃ (r : List Vi) (p' : Int), GV d u r ∧ sem n 29 [.rf [.int p], .d (pD (d, u))] = .ok (.ow (r.map viD)) [.int p'] := by
  obtain ⟨n, rfl⟩ : ∃ m, n = m + 1 := ⟨n - 1, by omega⟩
  obtain ⟨ρ', e, W, q, x5, x6, rfl, h5, h6, hw⟩ := for_n (v := 5) (body := visB n) (n := d + u)
    (I := fun j ρ => ∃ (W : List Vi) (q : Int) (x5 x6 : Option Sv), ρ = [some (.rf [.int q]), some (.d (pD (d, u))), some (.d (.int (d : Nat))), some (.d (.int (u : Nat))), some (.on (wO W)), x5, x6, none, none, none, none] ∧ NR x5 ∧ NR x6 ∧ IW d u j W)
    (ρ := [some (.rf [.int p]), some (.d (pD (d, u))), some (.d (.int (d : Nat))), some (.d (.int (u : Nat))), some (.on (wO ((List.range (d + u)).map fun _ => (([], []) : Vi)))), none, none, none, none, none, none])
    (fun j ρ hj ⟨W, q, x5, x6, eρ, h5, h6, hw⟩ => by
      subst eρ
      refine ⟨nr_rf h5 [x6, none, none, none, none], ?_⟩
      obtain ⟨i, hi, hi2⟩ := emod_nat q (k := d + u) (by omega)
      obtain ⟨v, hv⟩ : ∃ v, W[i]? = some v := ⟨_, List.getElem?_eq_getElem (by rw [hw.len]; exact hi2)⟩
      have hm := hw.all v (List.mem_of_getElem? hv)
      have l1 := hm.1.1.len
      have l2 := hm.2.1.len
      have e := visB_eq (n := n) (k := j) (s := pD (d, u)) (by omega) hd hu (by omega) hi (by rw [hw.len]; omega) hv (by omega) (by omega) h6
      exact ⟨_, e, _, _, _, _, rfl, nr_d _, nr_al _ _, hw.step hj hv⟩) ⟨_, _, _, _, rfl, nr_n, nr_n, IW.zero d u⟩
  refine ⟨fin W, q, hw.done, ?_⟩
  have low : ∀ v ∈ W, Low v := fun v hv => by
    have hm := hw.all v hv
    have l1 := hm.1.1.len
    have l2 := hm.2.1.len
    exact ⟨hm.1.1.low (by omega) (by omega), hm.2.1.low (by omega) (by omega), by omega, by omega⟩
  have hl := hw.len
  have rg : kRng (.int ((d : Int) + (u : Int))) = some (upFrom 0 (d + u)) := by
    rw [show (d : Int) + (u : Int) = ((d + u : Nat) : Int) by omega]
    exact kRng_up (by omega)
  have z1 : d + u ≤ 16777216 := by omega
  have wd := wO_toD W
  have lw : Ow.lst (((List.range (d + u)).map fun _ => (([], []) : Vi)).map vO) = wO ((List.range (d + u)).map fun _ => (([], []) : Vi)) := rfl
  have fl : (W.filter nz).length ≤ W.length := List.length_filter_le ..
  have z2 : (W.filter nz).length ≤ 16777216 := by omega
  have lfr : ∀ r : List Vi, lfs (r.map viD) = true := fun r => by
    induction r with
    | nil => exact S.lfs_nil
    | cons v r ih => rw [List.map_cons, S.lfs_cons, lf_viD, ih]; rfl
  have lowf : ∀ v ∈ W.filter nz, Low v := fun v hv => low v (List.mem_filter.mp hv).1
  have rn := rowD_neat lowf (by omega)
  unfold rowD at rn
  have en := (eq_nilN (l := (W.filter nz).map viD) (by rw [← neat_l]; exact rn.1) (by have := rn.2.1; rw [PyData.depth] at this; omega)).1
  have e2 : ((W.filter nz).map viD).isEmpty = (W.filter nz).isEmpty := by cases W.filter nz <;> rfl
  rw [e2] at en
  have f5 := rfOf_nr h5
  have f6 := rfOf_nr h6
  simp only [sem_succ, bodyOf]
  rw [fb29_eq]
  have pe : pD (d, u) = .tuple [.int (d : Nat), .int (u : Nat)] := rfl
  rw [pe] at e ⊢
  unfold fin
  cases c : (W.filter nz).isEmpty with
  | true =>
    rw [c] at en
    simp_all_arith [Dl.S.fBor_eq, Dl.S.bor_d, Dl.S.bor_ow, Dl.S.bor_r, Dl.S.fBorT_eq, Dl.S.borT_ok, Dl.S.borT_r, Dl.S.frz_nil, Dl.S.frz_cons, Dl.S.frz1_n, Dl.S.frz1_d, Dl.S.frz1_ow, Dl.S.frz1_rf, Dl.S.frz1_on, Dl.S.frz1_al, Dl.S.frz1_ex, Dl.S.frz1_fz, Dl.S.lf_int, Dl.S.lf_str, Dl.S.lf_bool, Dl.S.lf_none, Dl.S.lf_tup, Dl.S.lfs_nil, Dl.S.lfs_cons, Dl.S.toD_dat, Dl.S.toD_lst, Dl.S.toD_tup, Dl.S.allD_nil, Dl.S.allD_cons, Dl.S.fSetM_eq, Dl.S.setM_on, Dl.S.setM_d, Dl.S.setM_ow, Dl.S.kill_nil, Dl.S.kill_cons, Dl.S.kill1_n, Dl.S.kill1_d, Dl.S.kill1_ow, Dl.S.kill1_rf, Dl.S.kill1_on, Dl.S.kill1_al, Dl.S.kill1_ex, Dl.S.kill1_fz, Dl.S.into_eq, Dl.S.thru_eq, Dl.S.fPn_eq, Dl.S.pn_on, Dl.S.pn_al, Dl.S.fPx_eq, Dl.S.px_ok, Dl.S.px_i, Dl.S.px_l, Dl.S.px_j, Dl.S.lenP_eq, Dl.S.lenO_on, Dl.S.lenA_l, Dl.S.lenA_t, Dl.S.at_nil, Dl.S.at_l, Dl.S.at_t, Dl.S.put_nil, Dl.S.put_l, Dl.S.put_t, Dl.S.putA_s, Dl.S.lstAt_eq, Dl.S.onO_s, Dl.S.lstA_s, Dl.S.putP_eq, Dl.S.orLW_s, Dl.S.fAppP_eq, Dl.S.appP_ok, Dl.S.appP_eq, Dl.S.appPO_s, Dl.S.ow_d, Dl.S.ow_ow, Dl.S.ow_on, Dl.S.fClrP_eq, Dl.S.clr_ok, Dl.S.clrO_s, Dl.S.pinS_n, Dl.S.pinS_c, Dl.S.pinP_n, Dl.S.pinP_c, Dl.S.am_nil, Dl.S.am_cons, Dl.S.am_ok, Dl.S.am_r, Dl.S.am_s, Dl.S.fTupM_eq, Dl.S.fLstM_eq, Dl.S.fCatM_eq, Dl.S.catK_s, Dl.S.fMvM_eq, Dl.S.mv_on, Dl.S.mv_d, Dl.S.mv_ow, Dl.S.fCallM_eq, Dl.S.callMK_eq, Dl.S.callMS_s, Dl.S.callMO_ok, Dl.S.callMO_r, Dl.S.fLcM_eq, Dl.S.lcMK_ok, Dl.S.lcMO_s, Dl.S.fAl_eq, Dl.S.al_ok, Dl.S.rf_on, Dl.S.rf_al, Dl.S.rfOf_on, Dl.S.rfOf_al, Dl.S.keep_on, Dl.S.keep_al, rg, rows_eq, z1, lw, e, wd, filt_eq low, z2, lfr, en, f5, f6, List.length_map, List.length_range]
    rfl
  | false =>
    rw [c] at en
    simp_all_arith [Dl.S.fBor_eq, Dl.S.bor_d, Dl.S.bor_ow, Dl.S.bor_r, Dl.S.fBorT_eq, Dl.S.borT_ok, Dl.S.borT_r, Dl.S.frz_nil, Dl.S.frz_cons, Dl.S.frz1_n, Dl.S.frz1_d, Dl.S.frz1_ow, Dl.S.frz1_rf, Dl.S.frz1_on, Dl.S.frz1_al, Dl.S.frz1_ex, Dl.S.frz1_fz, Dl.S.lf_int, Dl.S.lf_str, Dl.S.lf_bool, Dl.S.lf_none, Dl.S.lf_tup, Dl.S.lfs_nil, Dl.S.lfs_cons, Dl.S.toD_dat, Dl.S.toD_lst, Dl.S.toD_tup, Dl.S.allD_nil, Dl.S.allD_cons, Dl.S.fSetM_eq, Dl.S.setM_on, Dl.S.setM_d, Dl.S.setM_ow, Dl.S.kill_nil, Dl.S.kill_cons, Dl.S.kill1_n, Dl.S.kill1_d, Dl.S.kill1_ow, Dl.S.kill1_rf, Dl.S.kill1_on, Dl.S.kill1_al, Dl.S.kill1_ex, Dl.S.kill1_fz, Dl.S.into_eq, Dl.S.thru_eq, Dl.S.fPn_eq, Dl.S.pn_on, Dl.S.pn_al, Dl.S.fPx_eq, Dl.S.px_ok, Dl.S.px_i, Dl.S.px_l, Dl.S.px_j, Dl.S.lenP_eq, Dl.S.lenO_on, Dl.S.lenA_l, Dl.S.lenA_t, Dl.S.at_nil, Dl.S.at_l, Dl.S.at_t, Dl.S.put_nil, Dl.S.put_l, Dl.S.put_t, Dl.S.putA_s, Dl.S.lstAt_eq, Dl.S.onO_s, Dl.S.lstA_s, Dl.S.putP_eq, Dl.S.orLW_s, Dl.S.fAppP_eq, Dl.S.appP_ok, Dl.S.appP_eq, Dl.S.appPO_s, Dl.S.ow_d, Dl.S.ow_ow, Dl.S.ow_on, Dl.S.fClrP_eq, Dl.S.clr_ok, Dl.S.clrO_s, Dl.S.pinS_n, Dl.S.pinS_c, Dl.S.pinP_n, Dl.S.pinP_c, Dl.S.am_nil, Dl.S.am_cons, Dl.S.am_ok, Dl.S.am_r, Dl.S.am_s, Dl.S.fTupM_eq, Dl.S.fLstM_eq, Dl.S.fCatM_eq, Dl.S.catK_s, Dl.S.fMvM_eq, Dl.S.mv_on, Dl.S.mv_d, Dl.S.mv_ow, Dl.S.fCallM_eq, Dl.S.callMK_eq, Dl.S.callMS_s, Dl.S.callMO_ok, Dl.S.callMO_r, Dl.S.fLcM_eq, Dl.S.lcMK_ok, Dl.S.lcMO_s, Dl.S.fAl_eq, Dl.S.al_ok, Dl.S.rf_on, Dl.S.rf_al, Dl.S.rfOf_on, Dl.S.rfOf_al, Dl.S.keep_on, Dl.S.keep_al, rg, rows_eq, z1, lw, e, wd, filt_eq low, z2, lfr, en, f5, f6, List.length_map, List.length_range]
end K88
set_option maxHeartbeats 4000000
set_option exponentiation.threshold 10000
namespace K88
open Dl PySem
structure LowV (V : List (List Vi)) : Prop where
  len : V.length ≤ 4
  rows : ∀ r ∈ V, r.length ≤ 4 ∧ ∀ v ∈ r, Low v
theorem bk_neat {V : List (List Vi)} (h : LowV V) : neat (bkV V) = true ∧ PyData.depth (bkV V) ≤ 5 ∧ cost (bkV V) ≤ 300000 := by
  have rw : ∀ r ∈ V, neat (rowD r) = true ∧ PyData.depth (rowD r) ≤ 4 ∧ cost (rowD r) ≤ 60000 := fun r hr => by
    obtain ⟨h1, h2⟩ := h.rows r hr
    obtain ⟨a, b, _⟩ := rowD_neat h2 (by omega)
    refine ⟨a, b, ?_⟩
    have c := costs_map (f := viD) (c := 14000) fun v hv => (viD_neat (h2 v hv)).2.2
    unfold rowD
    rw [cost]
    have := Nat.mul_le_mul_right 14002 h1
    omega
  have a := neats_map (f := rowD) fun r hr => (rw r hr).1
  have b := depths_map (f := rowD) (c := 4) fun r hr => (rw r hr).2.1
  have c := costs_map (f := rowD) (c := 60000) fun r hr => (rw r hr).2.2
  have := Nat.mul_le_mul_right 60002 h.len
  unfold bkV
  exact ⟨by rw [neat_l, a], by rw [PyData.depth]; omega, by rw [cost]; omega⟩
theorem GVs.low {sg V} (h : GVs sg V) (hs : Small sg) : LowV V := by
  obtain ⟨s1, s2, s3⟩ := hs
  have hl := h.len
  refine ⟨by omega, fun r hr => ?_⟩
  obtain ⟨i, hi⟩ := List.mem_iff_getElem?.mp hr
  obtain ⟨v1, v2⟩ := h.vlen s3 hi
  have li : i < sg.length := by rw [← hl]; exact (List.getElem?_eq_some_iff.mp hi).1
  have g := h.at (List.getElem?_eq_getElem li) hi
  have hx := s3 _ (List.getElem_mem li)
  refine ⟨v1, fun v hv => ?_⟩
  obtain ⟨g1, g2⟩ := g.all v hv
  have l := v2 v hv
  exact ⟨g1.low (by omega) (by omega), g2.low (by omega) (by omega), by omega, by omega⟩
theorem srt_len (l : List Int) : (srtI l).length = l.length := (srtI_perm l).length_eq
theorem mrg_low {a b : Vi} (ha : Low a) (hb : Low b) (la : a.1.length ≤ 2 ∧ a.2.length ≤ 2) (lb : b.1.length ≤ 2 ∧ b.2.length ≤ 2) : Low (mrg a b) := by
  obtain ⟨a1, a2, _, _⟩ := ha
  obtain ⟨b1, b2, _, _⟩ := hb
  refine ⟨fun x hx => ?_, fun x hx => ?_, ?_, ?_⟩
  · exact (List.mem_append.mp ((srtI_perm _).mem_iff.mp hx)).elim (a1 x) (b1 x)
  · exact (List.mem_append.mp ((srtI_perm _).mem_iff.mp hx)).elim (a2 x) (b2 x)
  · show (srtI (a.1 ++ b.1)).length ≤ 100
    rw [srt_len, List.length_append]; omega
  · show (srtI (a.2 ++ b.2)).length ≤ 100
    rw [srt_len, List.length_append]; omega
theorem join_low {sg : List (Nat × Nat)} {V : List (List Vi)} {r : List Vi} {s k : Nat} {a b : Vi} (h : GVs sg V) (hs : Small sg) (h1 : V[s]? = some r) (h2 : r[k]? = some a) (h3 : r[k + 1]? = some b) :
    LowV (V.take s ++ jn r k a b :: V.drop (s + 1)) := by
  have L := h.low hs
  have lt : k + 1 < r.length := (List.getElem?_eq_some_iff.mp h3).1
  have lt2 : s < V.length := (List.getElem?_eq_some_iff.mp h1).1
  obtain ⟨r1, r2⟩ := L.rows r (List.mem_of_getElem? h1)
  obtain ⟨v1, v2⟩ := h.vlen hs.2.2 h1
  have ma := List.mem_of_getElem? h2
  have mb := List.mem_of_getElem? h3
  refine ⟨?_, fun r' hr => ?_⟩
  · have := L.len
    rw [List.length_append, List.length_cons, List.length_take, List.length_drop]; omega
  · rcases List.mem_append.mp hr with hr | hr
    · exact L.rows r' (List.mem_of_mem_take hr)
    · rcases List.mem_cons.mp hr with rfl | hr
      · refine ⟨?_, fun v hv => ?_⟩
        · unfold jn; rw [List.length_append, List.length_cons, List.length_take, List.length_drop]; omega
        · unfold jn at hv
          rcases List.mem_append.mp hv with hv | hv
          · exact r2 v (List.mem_of_mem_take hv)
          · rcases List.mem_cons.mp hv with rfl | hv
            · exact mrg_low (r2 a ma) (r2 b mb) (v2 a ma) (v2 b mb)
            · exact r2 v (List.mem_of_mem_drop hv)
      · exact L.rows r' (List.mem_of_mem_drop hr)
def gdI : Ev → RS := (fSeq (fClrP [] (fPx (fPn 6) (fVar 7)))
    (fIf (fBorT (fTest (fOp neD (.e (fSl (.n 6) (.e (fOp addD (.n 7) (.e (fC (.int 1))))) .no)) (.e (fSl (.n 4) (.e (fOp addD (.n 7) (.e (fC (.int 1))))) .no)))))
    (fRet (fC (.bool false)))
    fSkip))
def gdB (n : Nat) : Ev → RS := (fSeq (fSetM [] 6 (fCallM (sem n 19) [.v (fVar 0), .v (fVar 1), .v (fVar 2), .v (fVar 3)]))
    (fSeq (fIf (fBorT (fOrT (fNotT (fTest (fIsN 6 isListT (fun _ => none)))) (fTest (fOp neD (.e (fUn reprD (.n 6))) (.e (fUn reprD (.n 4)))))))
    (fRet (fC (.bool false)))
    fSkip)
    (fSeq (fFor (fun ρ => RI.of ((fBor (fUn lenD (.n 6))) ρ) kRng) (.n 7) gdI)
    (fClrP [] (fPn 6)))))
theorem fb31_eq (n : Nat) : fb31 (sem n) = (fSeq (fSet 4 (fCall (sem n 30) [.v (fVar 1), .v (fVar 2), .v (fVar 3)]))
    (fSeq (fFor (fun ρ => RI.of ((fC (.int 2)) ρ) kRng) (.n 5) (gdB n))
    (fRet (fC (.bool true))))) := rfl
theorem gdI_eq {a0 a1 a2 a3 a5 : D} {X V : List (List Vi)} {j : Nat} (hV : LowV V) (hj : j < X.length) (hd : X.drop (j + 1) = V.drop (j + 1)) :
    gdI [some (.d a0), some (.d a1), some (.d a2), some (.d a3), some (.d (bkV V)), some (.d a5), some (.on (bkO X)), some (.d (.int (j : Nat)))] =
      .next [some (.d a0), some (.d a1), some (.d a2), some (.d a3), some (.d (bkV V)), some (.d a5), some (.on (bkO (X.set j []))), some (.d (.int (j : Nat)))] := by
  obtain ⟨r, hr⟩ : ∃ r, X[j]? = some r := ⟨_, List.getElem?_eq_getElem hj⟩
  have n1 : lenA (some (bkO X)) = some (X.map rowO).length := rfl
  have x1 : L2.ixN (X.map rowO).length ((j : Nat) : Int) = some j := ixN_nat (by rw [List.length_map]; exact hj)
  have p1 := bkO_at hr
  have la1 : ∀ w r, lstA w (some (rowO r)) = some (w, (r.map viD).map Ow.dat) := fun _ _ => rfl
  have p2 : (bkO X).put [j] (.lst []) = bkO (X.set j []) := bkO_put (r' := []) hr
  have td := bkO_toD (X.set j [])
  have s1 := sl_bk_from (r := X.set j []) (k := j + 1) (i := ((j : Nat) : Int) + 1) (by omega)
  have s2 := sl_bk_from (r := V) (k := j + 1) (i := ((j : Nat) : Int) + 1) (by omega)
  rw [List.drop_set_of_lt (by omega), hd] at s1
  have L : LowV (V.drop (j + 1)) := ⟨by rw [List.length_drop]; have := hV.len; omega, fun r hr => hV.rows r (List.mem_of_mem_drop hr)⟩
  obtain ⟨k1, k2, _⟩ := bk_neat L
  have ne := neD_rfl k1 (by omega)
  unfold bkV at ne
  unfold gdI
  simp_arith [Dl.S.fBor_eq, Dl.S.bor_d, Dl.S.bor_ow, Dl.S.bor_r, Dl.S.fBorT_eq, Dl.S.borT_ok, Dl.S.borT_r, Dl.S.frz_nil, Dl.S.frz_cons, Dl.S.frz1_n, Dl.S.frz1_d, Dl.S.frz1_ow, Dl.S.frz1_rf, Dl.S.frz1_on, Dl.S.frz1_al, Dl.S.frz1_ex, Dl.S.frz1_fz, Dl.S.lf_int, Dl.S.lf_str, Dl.S.lf_bool, Dl.S.lf_none, Dl.S.lf_tup, Dl.S.lfs_nil, Dl.S.lfs_cons, Dl.S.toD_dat, Dl.S.toD_lst, Dl.S.toD_tup, Dl.S.allD_nil, Dl.S.allD_cons, Dl.S.fSetM_eq, Dl.S.setM_on, Dl.S.setM_d, Dl.S.setM_ow, Dl.S.kill_nil, Dl.S.kill_cons, Dl.S.kill1_n, Dl.S.kill1_d, Dl.S.kill1_ow, Dl.S.kill1_rf, Dl.S.kill1_on, Dl.S.kill1_al, Dl.S.kill1_ex, Dl.S.kill1_fz, Dl.S.into_eq, Dl.S.thru_eq, Dl.S.fPn_eq, Dl.S.pn_on, Dl.S.pn_al, Dl.S.fPx_eq, Dl.S.px_ok, Dl.S.px_i, Dl.S.px_l, Dl.S.px_j, Dl.S.lenP_eq, Dl.S.lenO_on, Dl.S.lenA_l, Dl.S.lenA_t, Dl.S.at_nil, Dl.S.at_l, Dl.S.at_t, Dl.S.put_nil, Dl.S.put_l, Dl.S.put_t, Dl.S.putA_s, Dl.S.lstAt_eq, Dl.S.onO_s, Dl.S.lstA_s, Dl.S.putP_eq, Dl.S.orLW_s, Dl.S.fAppP_eq, Dl.S.appP_ok, Dl.S.appP_eq, Dl.S.appPO_s, Dl.S.ow_d, Dl.S.ow_ow, Dl.S.ow_on, Dl.S.fClrP_eq, Dl.S.clr_ok, Dl.S.clrO_s, Dl.S.pinS_n, Dl.S.pinS_c, Dl.S.pinP_n, Dl.S.pinP_c, Dl.S.am_nil, Dl.S.am_cons, Dl.S.am_ok, Dl.S.am_r, Dl.S.am_s, Dl.S.fTupM_eq, Dl.S.fLstM_eq, Dl.S.fCatM_eq, Dl.S.catK_s, Dl.S.fMvM_eq, Dl.S.mv_on, Dl.S.mv_d, Dl.S.mv_ow, Dl.S.fCallM_eq, Dl.S.callMK_eq, Dl.S.callMS_s, Dl.S.callMO_ok, Dl.S.callMO_r, Dl.S.fLcM_eq, Dl.S.lcMK_ok, Dl.S.lcMO_s, Dl.S.fAl_eq, Dl.S.al_ok, Dl.S.rf_on, Dl.S.rf_al, Dl.S.rfOf_on, Dl.S.rfOf_al, Dl.S.keep_on, Dl.S.keep_al, n1, x1, p1, la1, p2, td, s1, s2, ne]
theorem gdI_all {a0 a1 a2 a3 a5 : D} {V : List (List Vi)} (hV : LowV V) {x : Option Sv} (hx : NR x) : ∃ (X : List (List Vi)) (x7 : Option Sv), NR x7 ∧ forL (.n 7) gdI (upFrom 0 V.length) [some (.d a0), some (.d a1), some (.d a2), some (.d a3), some (.d (bkV V)), some (.d a5), some (.on (bkO V)), x] =
      .next [some (.d a0), some (.d a1), some (.d a2), some (.d a3), some (.d (bkV V)), some (.d a5), some (.on (bkO X)), x7] := by
  obtain ⟨ρ', e, X, x7, rfl, h7, _⟩ := for_n (v := 7) (body := gdI) (n := V.length)
    (I := fun j ρ => ∃ (X : List (List Vi)) (x7 : Option Sv), ρ = [some (.d a0), some (.d a1), some (.d a2), some (.d a3), some (.d (bkV V)), some (.d a5), some (.on (bkO X)), x7] ∧ NR x7 ∧ X.length = V.length ∧ X.drop j = V.drop j)
    (ρ := [some (.d a0), some (.d a1), some (.d a2), some (.d a3), some (.d (bkV V)), some (.d a5), some (.on (bkO V)), x])
    (fun j ρ hj ⟨X, x7, eρ, h7, hl, hd⟩ => by
      subst eρ
      refine ⟨nr_rf h7 [], ?_⟩
      have hd2 : X.drop (j + 1) = V.drop (j + 1) := by
        rw [← List.drop_drop, ← List.drop_drop, hd]
      exact ⟨_, gdI_eq hV (by omega) hd2, _, _, rfl, nr_d _, by rw [List.length_set, hl], by rw [List.drop_set_of_lt (by omega), hd2]⟩) ⟨_, _, rfl, hx, rfl, rfl⟩
  exact ⟨X, x7, h7, e⟩
theorem gdB_eq {n : Nat} {sg : List (Nat × Nat)} {rs : List Ru} {V : List (List Vi)} {r : List Vi} {s k : Nat} {a b : Vi} {a5 : D} {x6 x7 : Option Sv} (hn : 32 ≤ n) (hb : Bk sg rs) (h : GVs sg V) (h1 : V[s]? = some r) (h2 : r[k]? = some a) (h3 : r[k + 1]? = some b) (h6 : NR x6) (h7 : NR x7) :
    ∃ y7, NR y7 ∧ gdB n [some (.d (bookD sg rs)), some (.d (bkV V)), some (.d (.int (s : Nat))), some (.d (.int (k : Nat))), some (.d (bkV (V.take s ++ jn r k a b :: V.drop (s + 1)))), some (.d a5), x6, x7] =
      .next [some (.d (bookD sg rs)), some (.d (bkV V)), some (.d (.int (s : Nat))), some (.d (.int (k : Nat))), some (.d (bkV (V.take s ++ jn r k a b :: V.drop (s + 1)))), some (.d a5), some (.on (.lst [])), y7] := by
  have L := join_low h hb.1 h1 h2 h3
  have e := jv_eq hn hb h h1 h2 h3
  generalize V.take s ++ jn r k a b :: V.drop (s + 1) = W at L e ⊢
  have k7 : NR (kill1 (into 6) x7) := nr_kill h7
  obtain ⟨X, y7, hy, ef⟩ := gdI_all (a0 := bookD sg rs) (a1 := bkV V) (a2 := .int (s : Nat)) (a3 := .int (k : Nat)) (a5 := a5) L k7
  refine ⟨kill1 (thru 6 []) y7, nr_kill hy, ?_⟩
  obtain ⟨w1, w2, w3⟩ := bk_neat L
  have rp := reprD_neat (x := bkV W) (.inl ⟨_, rfl⟩) w1 (by omega) (by omega)
  have td := bkO_toD W
  have y6 := nr_rf h6
  have lw : lenD (bkV W) = some (.d (.int W.length)) := by unfold bkV; simp_arith [List.length_map]
  have rg : kRng (.int (W.length : Nat)) = some (upFrom 0 W.length) := kRng_up (by have := L.len; omega)
  have il : isListT (bkV W) = true := rfl
  have xo : lstA (bkO X) (some (bkO X)) = some (bkO X, X.map rowO) := rfl
  unfold gdB
  simp_arith [Dl.S.fBor_eq, Dl.S.bor_d, Dl.S.bor_ow, Dl.S.bor_r, Dl.S.fBorT_eq, Dl.S.borT_ok, Dl.S.borT_r, Dl.S.frz_nil, Dl.S.frz_cons, Dl.S.frz1_n, Dl.S.frz1_d, Dl.S.frz1_ow, Dl.S.frz1_rf, Dl.S.frz1_on, Dl.S.frz1_al, Dl.S.frz1_ex, Dl.S.frz1_fz, Dl.S.lf_int, Dl.S.lf_str, Dl.S.lf_bool, Dl.S.lf_none, Dl.S.lf_tup, Dl.S.lfs_nil, Dl.S.lfs_cons, Dl.S.toD_dat, Dl.S.toD_lst, Dl.S.toD_tup, Dl.S.allD_nil, Dl.S.allD_cons, Dl.S.fSetM_eq, Dl.S.setM_on, Dl.S.setM_d, Dl.S.setM_ow, Dl.S.kill_nil, Dl.S.kill_cons, Dl.S.kill1_n, Dl.S.kill1_d, Dl.S.kill1_ow, Dl.S.kill1_rf, Dl.S.kill1_on, Dl.S.kill1_al, Dl.S.kill1_ex, Dl.S.kill1_fz, Dl.S.into_eq, Dl.S.thru_eq, Dl.S.fPn_eq, Dl.S.pn_on, Dl.S.pn_al, Dl.S.fPx_eq, Dl.S.px_ok, Dl.S.px_i, Dl.S.px_l, Dl.S.px_j, Dl.S.lenP_eq, Dl.S.lenO_on, Dl.S.lenA_l, Dl.S.lenA_t, Dl.S.at_nil, Dl.S.at_l, Dl.S.at_t, Dl.S.put_nil, Dl.S.put_l, Dl.S.put_t, Dl.S.putA_s, Dl.S.lstAt_eq, Dl.S.onO_s, Dl.S.lstA_s, Dl.S.putP_eq, Dl.S.orLW_s, Dl.S.fAppP_eq, Dl.S.appP_ok, Dl.S.appP_eq, Dl.S.appPO_s, Dl.S.ow_d, Dl.S.ow_ow, Dl.S.ow_on, Dl.S.fClrP_eq, Dl.S.clr_ok, Dl.S.clrO_s, Dl.S.pinS_n, Dl.S.pinS_c, Dl.S.pinP_n, Dl.S.pinP_c, Dl.S.am_nil, Dl.S.am_cons, Dl.S.am_ok, Dl.S.am_r, Dl.S.am_s, Dl.S.fTupM_eq, Dl.S.fLstM_eq, Dl.S.fCatM_eq, Dl.S.catK_s, Dl.S.fMvM_eq, Dl.S.mv_on, Dl.S.mv_d, Dl.S.mv_ow, Dl.S.fCallM_eq, Dl.S.callMK_eq, Dl.S.callMS_s, Dl.S.callMO_ok, Dl.S.callMO_r, Dl.S.fLcM_eq, Dl.S.lcMK_ok, Dl.S.lcMO_s, Dl.S.fAl_eq, Dl.S.al_ok, Dl.S.rf_on, Dl.S.rf_al, Dl.S.rfOf_on, Dl.S.rfOf_al, Dl.S.keep_on, Dl.S.keep_al, e, td, y6, rp, lw, rg, ef, il, xo, beq_self_eq_true, Bool.not_true]
theorem good_eq {n : Nat} {sg : List (Nat × Nat)} {rs : List Ru} {V : List (List Vi)} {r : List Vi} {s k : Nat} (hn : 34 ≤ n) (hb : Bk sg rs) (h : GVs sg V) (h1 : V[s]? = some r) (hk : k + 1 < r.length) :
    sem n 31 [.d (bookD sg rs), .d (bkV V), .d (.int (s : Nat)), .d (.int (k : Nat))] = .ok (.d (.bool true)) [] := by
  obtain ⟨n, rfl⟩ : ∃ m, n = m + 1 := ⟨n - 1, by omega⟩
  obtain ⟨a, h2⟩ : ∃ a, r[k]? = some a := ⟨_, List.getElem?_eq_getElem (by omega)⟩
  obtain ⟨b, h3⟩ : ∃ b, r[k + 1]? = some b := ⟨_, List.getElem?_eq_getElem hk⟩
  obtain ⟨v1, v2⟩ := h.vlen hb.1.2.2 h1
  have la := v2 a (List.mem_of_getElem? h2)
  have lb := v2 b (List.mem_of_getElem? h3)
  have L := h.low hb.1
  have lv := L.len
  have e := ljoin_eq (n := n) (by omega) (by omega) (by omega) h1 h2 h3 (by omega) (by omega)
  obtain ⟨y, hy, e1⟩ := gdB_eq (n := n) (a5 := .int 0) (x6 := none) (x7 := none) (by omega) hb h h1 h2 h3 nr_n nr_n
  obtain ⟨z, hz, e2⟩ := gdB_eq (n := n) (a5 := .int 1) (x6 := some (.on (.lst []))) (x7 := y) (by omega) hb h h1 h2 h3 (nr_on _) hy
  have td := bkO_toD (V.take s ++ jn r k a b :: V.drop (s + 1))
  have k2 : kRng (.int 2) = some [.int 0, .int 1] := upL2
  have fz := rfOf_nr hz
  simp only [sem_succ, bodyOf]
  rw [fb31_eq]
  simp_all_arith [Dl.S.fBor_eq, Dl.S.bor_d, Dl.S.bor_ow, Dl.S.bor_r, Dl.S.fBorT_eq, Dl.S.borT_ok, Dl.S.borT_r, Dl.S.frz_nil, Dl.S.frz_cons, Dl.S.frz1_n, Dl.S.frz1_d, Dl.S.frz1_ow, Dl.S.frz1_rf, Dl.S.frz1_on, Dl.S.frz1_al, Dl.S.frz1_ex, Dl.S.frz1_fz, Dl.S.lf_int, Dl.S.lf_str, Dl.S.lf_bool, Dl.S.lf_none, Dl.S.lf_tup, Dl.S.lfs_nil, Dl.S.lfs_cons, Dl.S.toD_dat, Dl.S.toD_lst, Dl.S.toD_tup, Dl.S.allD_nil, Dl.S.allD_cons, Dl.S.fSetM_eq, Dl.S.setM_on, Dl.S.setM_d, Dl.S.setM_ow, Dl.S.kill_nil, Dl.S.kill_cons, Dl.S.kill1_n, Dl.S.kill1_d, Dl.S.kill1_ow, Dl.S.kill1_rf, Dl.S.kill1_on, Dl.S.kill1_al, Dl.S.kill1_ex, Dl.S.kill1_fz, Dl.S.into_eq, Dl.S.thru_eq, Dl.S.fPn_eq, Dl.S.pn_on, Dl.S.pn_al, Dl.S.fPx_eq, Dl.S.px_ok, Dl.S.px_i, Dl.S.px_l, Dl.S.px_j, Dl.S.lenP_eq, Dl.S.lenO_on, Dl.S.lenA_l, Dl.S.lenA_t, Dl.S.at_nil, Dl.S.at_l, Dl.S.at_t, Dl.S.put_nil, Dl.S.put_l, Dl.S.put_t, Dl.S.putA_s, Dl.S.lstAt_eq, Dl.S.onO_s, Dl.S.lstA_s, Dl.S.putP_eq, Dl.S.orLW_s, Dl.S.fAppP_eq, Dl.S.appP_ok, Dl.S.appP_eq, Dl.S.appPO_s, Dl.S.ow_d, Dl.S.ow_ow, Dl.S.ow_on, Dl.S.fClrP_eq, Dl.S.clr_ok, Dl.S.clrO_s, Dl.S.pinS_n, Dl.S.pinS_c, Dl.S.pinP_n, Dl.S.pinP_c, Dl.S.am_nil, Dl.S.am_cons, Dl.S.am_ok, Dl.S.am_r, Dl.S.am_s, Dl.S.fTupM_eq, Dl.S.fLstM_eq, Dl.S.fCatM_eq, Dl.S.catK_s, Dl.S.fMvM_eq, Dl.S.mv_on, Dl.S.mv_d, Dl.S.mv_ow, Dl.S.fCallM_eq, Dl.S.callMK_eq, Dl.S.callMS_s, Dl.S.callMO_ok, Dl.S.callMO_r, Dl.S.fLcM_eq, Dl.S.lcMK_ok, Dl.S.lcMO_s, Dl.S.fAl_eq, Dl.S.al_ok, Dl.S.rf_on, Dl.S.rf_al, Dl.S.rfOf_on, Dl.S.rfOf_al, Dl.S.keep_on, Dl.S.keep_al, e, td, k2, e1, e2, fz]
end K88
set_option maxHeartbeats 4000000
set_option exponentiation.threshold 10000
namespace K88
open Dl PySem
theorem copy_eq {n : Nat} {sg : List (Nat × Nat)} {rs : List Ru} (hn : 2 ≤ n) (h : Bk sg rs) : sem n 28 [.d (bookD sg rs)] = .ok (.d (bookD sg rs)) [] := by
  obtain ⟨n, rfl⟩ : ∃ m, n = m + 1 := ⟨n - 1, by omega⟩
  obtain ⟨hS, hr, hg⟩ := h
  have c : lcL [1, 2, 3] (.t [(.n 1), (.n 2), (.n 3)]) fYes (fTup [(fVar 1), (fVar 2), (fUn listD (.n 3))]) (rs.map Ru.d) [some (.d (bookD sg rs)), none, none, none] = some (rs.map Ru.d, [some (.d (bookD sg rs)), none, none, none]) :=
    lc_mapT fun r hr => by
      refine ⟨[some (.d (bookD sg rs)), some (.d (.int (r.s : Nat))), some (.d (.tuple (r.ps.map iD))), some (.d (.list (r.fm.map F.d)))], [some (.d (bookD sg rs)), some (.d (.int (r.s : Nat))), some (.d (.tuple (r.ps.map iD))), some (.d (.list (r.fm.map F.d)))], .d r.d, rfl, ?_, rfl, rfl⟩
      simp_arith []
      rfl
  have e : bookD sg rs = .tuple [.list (sg.map pD), .list (rs.map Ru.d)] := rfl
  have hl : rs.length ≤ 16777216 := by omega
  simp only [sem_succ, bodyOf, fb28]
  rw [e] at c ⊢
  simp_all_arith [c, List.length_map, hl]
theorem vis_lc {n : Nat} {a0 a1 a2 a3 a5 a6 a8 a9 a10 a11 : Option Sv} (hn : 3 ≤ n) : ∀ {sg : List (Nat × Nat)} {p : Int}, (∀ x ∈ sg, x.1 ≤ 2 ∧ x.2 ≤ 2) → ∃ (V : List (List Vi)) (p' : Int), GVs sg V ∧
    lcL [7] (.n 7) fYes (fCall (sem n 29) [.r 4, .v (fVar 7)]) (sg.map pD) [a0, a1, a2, a3, some (.ow [.int p]), a5, a6, none, a8, a9, a10, a11] =
      some (V.map rowD, [a0, a1, a2, a3, some (.ow [.int p']), a5, a6, none, a8, a9, a10, a11])
  | [], p, _ => ⟨[], p, .nil, S.lc_nil⟩
  | s :: sg, p, hs => by
    have h0 := hs s (List.mem_cons_self ..)
    obtain ⟨r, p1, g, e⟩ := visits_l (n := n) (p := p) hn h0.1 h0.2
    obtain ⟨V, p2, gs, ih⟩ := vis_lc (a0 := a0) (a1 := a1) (a2 := a2) (a3 := a3) (a5 := a5) (a6 := a6) (a8 := a8) (a9 := a9) (a10 := a10) (a11 := a11) hn (sg := sg) (p := p1) fun x hx => hs x (List.mem_cons_of_mem _ hx)
    refine ⟨r :: V, p2, .cons g gs, ?_⟩
    rw [List.map_cons, List.map_cons, S.lc_cons]
    simp_arith [e, ih]
    rfl
theorem eq_pD (x y : Nat × Nat) : eqD (pD x) (pD y) = some (.d (.bool (decide (x = y)))) := by
  have e : eqB (pD x) (pD y) = if SeqAt.shaped (pD x) && SeqAt.shaped (pD y) then some (PyData.eqv (pD x) (pD y)) else none := rfl
  unfold eqD
  rw [e, shape_p, shape_p]
  show some (Sv.d (.bool _)) = _
  congr 3
  obtain ⟨a, b⟩ := x
  obtain ⟨c, d⟩ := y
  simp only [pD, PyData.eqv, PyData.eqvAll]
  by_cases h1 : a = c
  · by_cases h2 : b = d
    · subst h1; subst h2; simp
    · simp [h2]; omega
  · simp [h1]; omega
theorem any_iD {i : Nat} : ∀ l : List Nat, ((l.map iD).any fun z => PyData.eqv z (.int (i : Nat))) = decide (i ∈ l)
  | [] => by simp
  | x :: l => by
    have e : PyData.eqv (iD x) (.int (i : Nat)) = decide (i = x) := by
      show PyData.eqv (.int (x : Nat)) (.int (i : Nat)) = _
      rw [PyData.eqv]
      by_cases c : i = x
      · subst c; simp
      · rw [decide_eq_false c, beq_eq_false_iff_ne]; omega
    rw [List.map_cons, List.any_cons, e, any_iD l, ← Bool.decide_or]
    exact decide_eq_decide.mpr List.mem_cons.symm
theorem in_iD {i : Nat} {l : List Nat} (hi : i < 1000000) (h : ∀ x ∈ l, x < 1000000) : inD (.int (i : Nat)) (.list (l.map iD)) = some (.d (.bool (decide (i ∈ l)))) := by
  have s1 : SeqAt.shaped (.int (i : Nat)) = true := neat_shaped (nat_neat hi) (by simp [PyData.depth])
  have n2 := neats_map (f := iD) (l := l) fun p hp => nat_neat (h p hp)
  have d2 := depths_map (f := iD) (c := 0) (l := l) fun p hp => Nat.le_refl _
  have s2 : SeqAt.shaped (.list (l.map iD)) = true := neat_shaped (by rw [neat_l, n2]) (by rw [PyData.depth]; omega)
  have e : inB (.int (i : Nat)) (.list (l.map iD)) = if SeqAt.shaped (.int (i : Nat)) && SeqAt.shaped (.list (l.map iD)) then some ((l.map iD).any fun z => PyData.eqv z (.int (i : Nat))) else none := by
    unfold inB
    rfl
  unfold inD
  rw [e, s1, s2, any_iD]
  rfl
theorem GVs.mk : ∀ {sg : List (Nat × Nat)} {V : List (List Vi)}, V.length = sg.length → (∀ (i : Nat) s r, sg[i]? = some s → V[i]? = some r → GV s.1 s.2 r) → GVs sg V
  | [], [], _, _ => .nil
  | [], _ :: _, h, _ => nomatch h
  | _ :: _, [], h, _ => nomatch h
  | s :: sg, r :: V, h, g => .cons (g 0 s r rfl rfl) (GVs.mk (by simpa using h) fun i s' r' h1 h2 => g (i + 1) s' r' (by simpa using h1) (by simpa using h2))
def alike (sg : List (Nat × Nat)) (c : Nat) : List Nat := (List.range sg.length).filter fun i => decide (gt sg i = gt sg c)
def twin (sg : List (Nat × Nat)) (V : List (List Vi)) (c : Nat) : List (List Vi) := (List.range sg.length).map fun i => V.getD (if i ∈ alike sg c then c else i) []
theorem twin_at {sg : List (Nat × Nat)} {V : List (List Vi)} {c i : Nat} {r : List Vi} (hl : V.length = sg.length) (h : V[if i ∈ alike sg c then c else i]? = some r) (hi : i < sg.length) : (twin sg V c)[i]? = some r := by
  unfold twin
  rw [List.getElem?_map, List.getElem?_range hi]
  show some (V.getD (if i ∈ alike sg c then c else i) []) = _
  rw [List.getD_eq_getElem?_getD, h]
  rfl
theorem twin_gvs {sg : List (Nat × Nat)} {V : List (List Vi)} {c : Nat} (h : GVs sg V) (hc : c < sg.length) : GVs sg (twin sg V c) := by
  have hl := h.len
  refine GVs.mk (by unfold twin; rw [List.length_map, List.length_range]) fun i s r h1 h2 => ?_
  have hi := (List.getElem?_eq_some_iff.mp h1).1
  by_cases q : i ∈ alike sg c
  · obtain ⟨r', hr⟩ : ∃ r', V[c]? = some r' := ⟨_, List.getElem?_eq_getElem (by omega)⟩
    have e := twin_at (c := c) (i := i) hl (by rw [if_pos q]; exact hr) hi
    rw [e] at h2
    cases h2
    have g := h.at (List.getElem?_eq_getElem hc) hr
    have q2 := of_decide_eq_true (List.mem_filter.mp q).2
    have g1 : gt sg i = s := by simp [gt, List.getD, h1]
    have g2 : gt sg c = sg[c] := by simp [gt, List.getD, hc]
    rw [← g1, q2, g2]
    exact g
  · obtain ⟨r', hr⟩ : ∃ r', V[i]? = some r' := ⟨_, List.getElem?_eq_getElem (by omega)⟩
    have e := twin_at (c := c) (i := i) hl (by rw [if_neg q]; exact hr) hi
    rw [e] at h2
    cases h2
    exact h.at h1 hr
theorem twin_c {sg : List (Nat × Nat)} {V : List (List Vi)} {c : Nat} {r : List Vi} (h : GVs sg V) (hr : V[c]? = some r) : (twin sg V c)[c]? = some r := by
  have hl := h.len
  have hc := (List.getElem?_eq_some_iff.mp hr).1
  refine twin_at hl ?_ (by omega)
  rw [ite_self]
  exact hr
end K88
set_option maxHeartbeats 4000000
namespace K88
open PySem PySem.Spec L2 Dl
open PyProof.Rows (envOfC)
abbrev N0 : List Str := ["thing"]
theorem sc0 : FnScope N0 ["thing"] (defScope (top 10)) := ⟨rfl, rfl, rfl, by decide +kernel, rfl, by decide +kernel, by decide +kernel⟩
abbrev N1 : List Str := ["thing", "part"]
theorem sc1 : FnScope N1 ["thing"] (defScope (top 11)) := ⟨rfl, rfl, rfl, by decide +kernel, rfl, by decide +kernel, by decide +kernel⟩
abbrev N2 : List Str := ["formula", "many"]
theorem sc2 : FnScope N2 ["formula"] (defScope (top 12)) := ⟨rfl, rfl, rfl, by decide +kernel, rfl, by decide +kernel, by decide +kernel⟩
abbrev N3 : List Str := ["thing", "deep", "part"]
theorem sc3 : FnScope N3 ["thing", "deep"] (defScope (top 13)) := ⟨rfl, rfl, rfl, by decide +kernel, rfl, by decide +kernel, by decide +kernel⟩
abbrev N4 : List Str := ["thing"]
theorem sc4 : FnScope N4 ["thing"] (defScope (top 14)) := ⟨rfl, rfl, rfl, by decide +kernel, rfl, by decide +kernel, by decide +kernel⟩
abbrev N5 : List Str := ["formula", "found", "part"]
theorem sc5 : FnScope N5 ["formula"] (defScope (top 15)) := ⟨rfl, rfl, rfl, by decide +kernel, rfl, by decide +kernel, by decide +kernel⟩
abbrev N6 : List Str := ["thing", "low", "high"]
theorem sc6 : FnScope N6 ["thing", "low", "high"] (defScope (top 21)) := ⟨rfl, rfl, rfl, by decide +kernel, rfl, by decide +kernel, by decide +kernel⟩
abbrev N7 : List Str := ["thing", "part"]
theorem sc7 : FnScope N7 ["thing"] (defScope (top 22)) := ⟨rfl, rfl, rfl, by decide +kernel, rfl, by decide +kernel, by decide +kernel⟩
abbrev N8 : List Str := ["signs", "rule", "place", "places"]
theorem sc8 : FnScope N8 ["signs", "rule", "place"] (defScope (top 23)) := ⟨rfl, rfl, rfl, by decide +kernel, rfl, by decide +kernel, by decide +kernel⟩
abbrev N9 : List Str := ["signs", "rule", "downs", "ups", "found", "place", "part", "k"]
theorem sc9 : FnScope N9 ["signs", "rule"] (defScope (top 24)) := ⟨rfl, rfl, rfl, by decide +kernel, rfl, by decide +kernel, by decide +kernel⟩
abbrev N10 : List Str := ["signs", "rule", "thing", "place", "number"]
theorem sc10 : FnScope N10 ["signs", "rule", "thing"] (defScope (top 25)) := ⟨rfl, rfl, rfl, by decide +kernel, rfl, by decide +kernel, by decide +kernel⟩
abbrev N11 : List Str := ["signs", "thing", "part"]
theorem sc11 : FnScope N11 ["signs", "thing"] (defScope (top 26)) := ⟨rfl, rfl, rfl, by decide +kernel, rfl, by decide +kernel, by decide +kernel⟩
abbrev N12 : List Str := ["thing", "signs", "rules", "part", "sign", "rule"]
theorem sc12 : FnScope N12 ["thing"] (defScope (top 27)) := ⟨rfl, rfl, rfl, by decide +kernel, rfl, by decide +kernel, by decide +kernel⟩
abbrev N13 : List Str := ["thing"]
theorem sc13 : FnScope N13 ["thing"] (defScope (top 28)) := ⟨rfl, rfl, rfl, by decide +kernel, rfl, by decide +kernel, by decide +kernel⟩
abbrev N14 : List Str := ["thing", "low", "high", "part", "k"]
theorem sc14 : FnScope N14 ["thing", "low", "high"] (defScope (top 30)) := ⟨rfl, rfl, rfl, by decide +kernel, rfl, by decide +kernel, by decide +kernel⟩
abbrev N15 : List Str := ["sign", "thing", "downs", "ups", "told", "visit"]
theorem sc15 : FnScope N15 ["sign", "thing"] (defScope (top 31)) := ⟨rfl, rfl, rfl, by decide +kernel, rfl, by decide +kernel, by decide +kernel⟩
abbrev N16 : List Str := ["book", "thing", "sign", "visits"]
theorem sc16 : FnScope N16 ["book", "thing"] (defScope (top 32)) := ⟨rfl, rfl, rfl, by decide +kernel, rfl, by decide +kernel, by decide +kernel⟩
abbrev N17 : List Str := ["book", "thing"]
theorem sc17 : FnScope N17 ["book", "thing"] (defScope (top 33)) := ⟨rfl, rfl, rfl, by decide +kernel, rfl, by decide +kernel, by decide +kernel⟩
abbrev N18 : List Str := ["visits", "sign", "at", "row", "downs", "ups", "other", "some"]
theorem sc18 : FnScope N18 ["visits", "sign", "at"] (defScope (top 35)) := ⟨rfl, rfl, rfl, by decide +kernel, rfl, by decide +kernel, by decide +kernel⟩
abbrev N19 : List Str := ["book", "visits", "sign", "at"]
theorem sc19 : FnScope N19 ["book", "visits", "sign", "at"] (defScope (top 36)) := ⟨rfl, rfl, rfl, by decide +kernel, rfl, by decide +kernel, by decide +kernel⟩
abbrev N20 : List Str := ["_law_cell_here", "_law_k", "_law_number"]
theorem sc20 : FnScope N20 ["_law_cell_here", "_law_k"] (defScope (top 38)) := ⟨rfl, rfl, rfl, by decide +kernel, rfl, by decide +kernel, by decide +kernel⟩
abbrev N21 : List Str := ["_law_script", "_law_k", "_law_cell_here", "_law_found", "_law_j"]
theorem sc21 : FnScope N21 ["_law_script", "_law_k"] (defScope (top 39)) := ⟨rfl, rfl, rfl, by decide +kernel, rfl, by decide +kernel, by decide +kernel⟩
abbrev N22 : List Str := ["_law_pile", "_law_size", "_law_digit"]
theorem sc22 : FnScope N22 ["_law_pile", "_law_size"] (defScope (top 40)) := ⟨rfl, rfl, rfl, by decide +kernel, rfl, by decide +kernel, by decide +kernel⟩
abbrev N23 : List Str := ["_law_pile", "_law_names_here", "_law_deep", "_law_way", "_law_word", "_law_inner", "_law_k"]
theorem sc23 : FnScope N23 ["_law_pile", "_law_names_here", "_law_deep"] (defScope (top 41)) := ⟨rfl, rfl, rfl, by decide +kernel, rfl, by decide +kernel, by decide +kernel⟩
abbrev N24 : List Str := ["_law_signs", "_law_sign", "_law_parts", "_law_downs", "_law_ups", "_law_found", "_law_place", "_law_part", "_law_k"]
theorem sc24 : FnScope N24 ["_law_signs", "_law_sign", "_law_parts"] (defScope (top 42)) := ⟨rfl, rfl, rfl, by decide +kernel, rfl, by decide +kernel, by decide +kernel⟩
abbrev N25 : List Str := ["_law_signs", "_law_sign", "_law_parts", "_law_free", "_law_found", "_law_place", "_law_part", "_law_told_here", "_law_k", "_law_name"]
theorem sc25 : FnScope N25 ["_law_signs", "_law_sign", "_law_parts", "_law_free"] (defScope (top 43)) := ⟨rfl, rfl, rfl, by decide +kernel, rfl, by decide +kernel, by decide +kernel⟩
abbrev N26 : List Str := ["_law_pile", "_law_signs", "_law_sign", "_law_most", "_law_free", "_law_parts", "_law_names_here", "_law_k", "_law_name"]
theorem sc26 : FnScope N26 ["_law_pile", "_law_signs", "_law_sign", "_law_most", "_law_free"] (defScope (top 44)) := ⟨rfl, rfl, rfl, by decide +kernel, rfl, by decide +kernel, by decide +kernel⟩
abbrev N27 : List Str := ["_law_script", "_law_start", "_law_pile", "_law_signs", "_law_leaves", "_law_free", "_law_rules", "_law_k", "_law_own", "_law_sign", "_law_most"]
theorem sc27 : FnScope N27 ["_law_script", "_law_start"] (defScope (top 45)) := ⟨rfl, rfl, rfl, by decide +kernel, rfl, by decide +kernel, by decide +kernel⟩
abbrev N28 : List Str := ["_law_book_here", "_law_sign", "_law_parts", "_law_makings"]
theorem sc28 : FnScope N28 ["_law_book_here"] (defScope (top 46)) := ⟨rfl, rfl, rfl, by decide +kernel, rfl, by decide +kernel, by decide +kernel⟩
abbrev N29 : List Str := ["_law_pile", "_law_sign", "_law_downs", "_law_ups", "_law_rows", "_law_number", "_law_row", "_law_found", "_law_k", "_law_one", "_law_other"]
theorem sc29 : FnScope N29 ["_law_pile", "_law_sign"] (defScope (top 47)) := ⟨rfl, rfl, rfl, by decide +kernel, rfl, by decide +kernel, by decide +kernel⟩
abbrev N30 : List Str := ["_law_visits_here", "_law_sign", "_law_at", "_law_found", "_law_downs", "_law_ups", "_law_more", "_law_others", "_law_row"]
theorem sc30 : FnScope N30 ["_law_visits_here", "_law_sign", "_law_at"] (defScope (top 48)) := ⟨rfl, rfl, rfl, by decide +kernel, rfl, by decide +kernel, by decide +kernel⟩
abbrev N31 : List Str := ["_law_book_here", "_law_visits_here", "_law_sign", "_law_at", "_law_due", "_law_turn", "_law_found", "_law_place"]
theorem sc31 : FnScope N31 ["_law_book_here", "_law_visits_here", "_law_sign", "_law_at"] (defScope (top 49)) := ⟨rfl, rfl, rfl, by decide +kernel, rfl, by decide +kernel, by decide +kernel⟩
abbrev N32 : List Str := ["_law_script", "_law_book_here", "_law_kept", "_law_k", "_law_pile", "_law_visits_here", "_law_text", "_law_sign", "_law_at", "_law_alike", "_law_twin", "_law_other"]
theorem sc32 : FnScope N32 ["_law_script"] (defScope (top 50)) := ⟨rfl, rfl, rfl, by decide +kernel, rfl, by decide +kernel, by decide +kernel⟩
def psOf (i : Nat) : List Str := match i with
  | 0 => ["thing"]
  | 1 => ["thing"]
  | 2 => ["formula"]
  | 3 => ["thing", "deep"]
  | 4 => ["thing"]
  | 5 => ["formula"]
  | 6 => ["thing", "low", "high"]
  | 7 => ["thing"]
  | 8 => ["signs", "rule", "place"]
  | 9 => ["signs", "rule"]
  | 10 => ["signs", "rule", "thing"]
  | 11 => ["signs", "thing"]
  | 12 => ["thing"]
  | 13 => ["thing"]
  | 14 => ["thing", "low", "high"]
  | 15 => ["sign", "thing"]
  | 16 => ["book", "thing"]
  | 17 => ["book", "thing"]
  | 18 => ["visits", "sign", "at"]
  | 19 => ["book", "visits", "sign", "at"]
  | 20 => ["_law_cell_here", "_law_k"]
  | 21 => ["_law_script", "_law_k"]
  | 22 => ["_law_pile", "_law_size"]
  | 23 => ["_law_pile", "_law_names_here", "_law_deep"]
  | 24 => ["_law_signs", "_law_sign", "_law_parts"]
  | 25 => ["_law_signs", "_law_sign", "_law_parts", "_law_free"]
  | 26 => ["_law_pile", "_law_signs", "_law_sign", "_law_most", "_law_free"]
  | 27 => ["_law_script", "_law_start"]
  | 28 => ["_law_book_here"]
  | 29 => ["_law_pile", "_law_sign"]
  | 30 => ["_law_visits_here", "_law_sign", "_law_at"]
  | 31 => ["_law_book_here", "_law_visits_here", "_law_sign", "_law_at"]
  | 32 => ["_law_script"]
  | _ => []
/-- what the top of the text says -/
structure Facts (K : PySem.W.Frag) (w : World) (mg : Str → Option Value) (cl fa dd : Nat → Addr) (fd : Nat → FuncData) : Prop where
  f0 : Fun K "is_number" "is_number" (top 10) (fa 0) (fd 0)
  b0 : Binds K (fd 0) (psOf 0) []
  m0 : mg "is_number" = some (.ref (fa 0))
  f1 : Fun K "numbers_fit" "numbers_fit" (top 11) (fa 1) (fd 1)
  b1 : Binds K (fd 1) (psOf 1) []
  m1 : mg "numbers_fit" = some (.ref (fa 1))
  f2 : Fun K "inner_of" "inner_of" (top 12) (fa 2) (fd 2)
  b2 : Binds K (fd 2) (psOf 2) []
  m2 : mg "inner_of" = some (.ref (fa 2))
  f3 : Fun K "deep_of" "deep_of" (top 13) (fa 3) (fd 3)
  b3 : Binds K (fd 3) (psOf 3) []
  m3 : mg "deep_of" = some (.ref (fa 3))
  f4 : Fun K "is_formula" "is_formula" (top 14) (fa 4) (fd 4)
  b4 : Binds K (fd 4) (psOf 4) []
  m4 : mg "is_formula" = some (.ref (fa 4))
  f5 : Fun K "names_in" "names_in" (top 15) (fa 5) (fd 5)
  b5 : Binds K (fd 5) (psOf 5) []
  m5 : mg "names_in" = some (.ref (fa 5))
  f6 : Fun K "is_from" "is_from" (top 21) (fa 6) (fd 6)
  b6 : Binds K (fd 6) (psOf 6) []
  m6 : mg "is_from" = some (.ref (fa 6))
  f7 : Fun K "is_sign" "is_sign" (top 22) (fa 7) (fd 7)
  b7 : Binds K (fd 7) (psOf 7) []
  m7 : mg "is_sign" = some (.ref (fa 7))
  f8 : Fun K "worths_of_place" "worths_of_place" (top 23) (fa 8) (fd 8)
  b8 : Binds K (fd 8) (psOf 8) []
  m8 : mg "worths_of_place" = some (.ref (fa 8))
  f9 : Fun K "names_told" "names_told" (top 24) (fa 9) (fd 9)
  b9 : Binds K (fd 9) (psOf 9) []
  m9 : mg "names_told" = some (.ref (fa 9))
  f10 : Fun K "is_making" "is_making" (top 25) (fa 10) (fd 10)
  b10 : Binds K (fd 10) (psOf 10) []
  m10 : mg "is_making" = some (.ref (fa 10))
  f11 : Fun K "is_rule" "is_rule" (top 26) (fa 11) (fd 11)
  b11 : Binds K (fd 11) (psOf 11) []
  m11 : mg "is_rule" = some (.ref (fa 11))
  f12 : Fun K "is_book" "is_book" (top 27) (fa 12) (fd 12)
  b12 : Binds K (fd 12) (psOf 12) []
  m12 : mg "is_book" = some (.ref (fa 12))
  f13 : Fun K "look_at_book" "look_at_book" (top 28) (fa 13) (fd 13)
  b13 : Binds K (fd 13) (psOf 13) []
  m13 : mg "look_at_book" = some (.ref (fa 13))
  f14 : Fun K "are_rising" "are_rising" (top 30) (fa 14) (fd 14)
  b14 : Binds K (fd 14) (psOf 14) []
  m14 : mg "are_rising" = some (.ref (fa 14))
  f15 : Fun K "are_visits" "are_visits" (top 31) (fa 15) (fd 15)
  b15 : Binds K (fd 15) (psOf 15) []
  m15 : mg "are_visits" = some (.ref (fa 15))
  f16 : Fun K "is_visit_book" "is_visit_book" (top 32) (fa 16) (fd 16)
  b16 : Binds K (fd 16) (psOf 16) []
  m16 : mg "is_visit_book" = some (.ref (fa 16))
  f17 : Fun K "look_at_visits" "look_at_visits" (top 33) (fa 17) (fd 17)
  b17 : Binds K (fd 17) (psOf 17) []
  m17 : mg "look_at_visits" = some (.ref (fa 17))
  f18 : Fun K "joined_at" "joined_at" (top 35) (fa 18) (fd 18)
  b18 : Binds K (fd 18) (psOf 18) []
  m18 : mg "joined_at" = some (.ref (fa 18))
  f19 : Fun K "joined_visits" "joined_visits" (top 36) (fa 19) (fd 19)
  b19 : Binds K (fd 19) (psOf 19) []
  m19 : mg "joined_visits" = some (.ref (fa 19))
  f20 : Fun K "_law_mixed" "_law_mixed" (top 38) (fa 20) (fd 20)
  b20 : Binds K (fd 20) (psOf 20) []
  m20 : mg "_law_mixed" = some (.ref (fa 20))
  f21 : Fun K "_law_cell" "_law_cell" (top 39) (fa 21) (fd 21)
  b21 : Binds K (fd 21) (psOf 21) []
  m21 : mg "_law_cell" = some (.ref (fa 21))
  f22 : Fun K "_law_take" "_law_take" (top 40) (fa 22) (fd 22)
  b22 : Binds K (fd 22) (psOf 22) []
  m22 : mg "_law_take" = some (.ref (fa 22))
  f23 : Fun K "_law_formula" "_law_formula" (top 41) (fa 23) (fd 23)
  b23 : Binds K (fd 23) (psOf 23) []
  m23 : mg "_law_formula" = some (.ref (fa 23))
  f24 : Fun K "_law_told" "_law_told" (top 42) (fa 24) (fd 24)
  b24 : Binds K (fd 24) (psOf 24) []
  m24 : mg "_law_told" = some (.ref (fa 24))
  f25 : Fun K "_law_names" "_law_names" (top 43) (fa 25) (fd 25)
  b25 : Binds K (fd 25) (psOf 25) []
  m25 : mg "_law_names" = some (.ref (fa 25))
  f26 : Fun K "_law_rule" "_law_rule" (top 44) (fa 26) (fd 26)
  b26 : Binds K (fd 26) (psOf 26) []
  m26 : mg "_law_rule" = some (.ref (fa 26))
  f27 : Fun K "_law_book" "_law_book" (top 45) (fa 27) (fd 27)
  b27 : Binds K (fd 27) (psOf 27) []
  m27 : mg "_law_book" = some (.ref (fa 27))
  f28 : Fun K "_law_copy" "_law_copy" (top 46) (fa 28) (fd 28)
  b28 : Binds K (fd 28) (psOf 28) []
  m28 : mg "_law_copy" = some (.ref (fa 28))
  f29 : Fun K "_law_visits" "_law_visits" (top 47) (fa 29) (fd 29)
  b29 : Binds K (fd 29) (psOf 29) []
  m29 : mg "_law_visits" = some (.ref (fa 29))
  f30 : Fun K "_law_joined" "_law_joined" (top 48) (fa 30) (fd 30)
  b30 : Binds K (fd 30) (psOf 30) []
  m30 : mg "_law_joined" = some (.ref (fa 30))
  f31 : Fun K "_law_good" "_law_good" (top 49) (fa 31) (fd 31)
  b31 : Binds K (fd 31) (psOf 31) []
  m31 : mg "_law_good" = some (.ref (fa 31))
  f32 : Fun K "law" "law" (top 50) (fa 32) (fd 32)
  b32 : Binds K (fd 32) (psOf 32) []
  m32 : mg "law" = some (.ref (fa 32))
  g_abs : mg "abs" = none
  g_all : mg "all" = none
  g_bool : mg "bool" = none
  g_enumerate : mg "enumerate" = none
  g_int : mg "int" = none
  g_isinstance : mg "isinstance" = none
  g_len : mg "len" = none
  g_list : mg "list" = none
  g_max : mg "max" = none
  g_min : mg "min" = none
  g_range : mg "range" = none
  g_repr : mg "repr" = none
  g_sorted : mg "sorted" = none
  g_str : mg "str" = none
  g_sum : mg "sum" = none
  g_tuple : mg "tuple" = none
  g_zip : mg "zip" = none
  k_MOST_DEEP : ∃ t, mg "MOST_DEEP" = some (.int 4 t)
  k_MOST_PARTS_formulas : ∃ t, mg "MOST_PARTS_formulas" = some (.int 15 t)
  k_MOST_WORTHS : ∃ t, mg "MOST_WORTHS" = some (.int 2 t)
  k_MOST_PARTS_books : ∃ t, mg "MOST_PARTS_books" = some (.int 2 t)
  k_MOST_SIGNS : ∃ t, mg "MOST_SIGNS" = some (.int 4 t)
  k_MOST_RULES : ∃ t, mg "MOST_RULES" = some (.int 8 t)
  n_WORDS : mg "WORDS" = some (.ref (dd 0))
  d_WORDS : KTab K w (dd 0) tab_WORDS
  x_NoBook : ExcF K mg "NoBook" (cl 1)
  x_NoVisits : ExcF K mg "NoVisits" (cl 3)
  x_NoSign : ExcF K mg "NoSign" (cl 2)
  x_NoJoin : ExcF K mg "NoJoin" (cl 4)
section
variable {P : Program} {w : World} {K : PySem.W.Frag} {mg : Str → Option Value} {base : Heap} {cl fa dd : Nat → Addr} {fd : Nat → FuncData}
abbrev Ok (P : Program) (w : World) (K : PySem.W.Frag) (mg : Str → Option Value) (base : Heap) (cl fa : Nat → Addr) (fd : Nat → FuncData) (n i : Nat) : Prop := FnG P w K mg base n (fa i) (fd i) (psOf i) (spF K cl (sem n i) (psOf i).length)
theorem st0 {n : Nat} (F : Facts K w mg cl fa dd fd) (ih : ∀ i, i < 33 → Ok P w K mg base cl fa fd n i) : Ok P w K mg base cl fa fd (n + 1) 0 := by
  refine fn_body (N := N0) (fb := fb0 (sem n)) F.f0 sc0 fun cdv A outer s H E b gd hr hcl => ?_
  have pas := passes_of (X := cxOf (L2.CX P w) P w K mg base N0 "is_number" (defScope (top 10)) (fa 0) cdv A outer s H E) rfl
  have tk := takes_of (X := cxOf (L2.CX P w) P w K mg base N0 "is_number" (defScope (top 10)) (fa 0) cdv A outer s H E) (E := E) rfl rfl rfl rfl
  have lets := lets_of tk
  have U64 : (A.deeper (envOfC "is_number" (defScope (top 10)) s.heap.objs.size (fa 0) cdv)).units + 64 < cLine := by have := hr.un; omega
  have U65 : (A.deeper (envOfC "is_number" (defScope (top 10)) s.heap.objs.size (fa 0) cdv)).units + 65 < cLine := by have := hr.un; omega
  have U200 : (A.deeper (envOfC "is_number" (defScope (top 10)) s.heap.objs.size (fa 0) cdv)).units + 200 < cLine := by have := hr.un; omega
  exact (s_one (s_ret (e_and (e_isN hcl isT_int isEx_none rfl F.g_isinstance (o_n (b := b) (W := W0) 0) (pe_bltn (v := .ty "int") (u := .type "int") rfl F.g_int (by decide +kernel) rfl) (.ty "int")) (e_one (e_not (e_isN hcl isT_bool isEx_none rfl F.g_isinstance (o_n (b := b) (W := W0) 0) (pe_bltn (v := .ty "bool") (u := .type "bool") rfl F.g_bool (by decide +kernel) rfl) (.ty "bool")))))))
theorem st1 {n : Nat} (F : Facts K w mg cl fa dd fd) (ih : ∀ i, i < 33 → Ok P w K mg base cl fa fd n i) : Ok P w K mg base cl fa fd (n + 1) 1 := by
  refine fn_body (N := N1) (fb := fb1 (sem n)) F.f1 sc1 fun cdv A outer s H E b gd hr hcl => ?_
  have pas := passes_of (X := cxOf (L2.CX P w) P w K mg base N1 "numbers_fit" (defScope (top 11)) (fa 1) cdv A outer s H E) rfl
  have tk := takes_of (X := cxOf (L2.CX P w) P w K mg base N1 "numbers_fit" (defScope (top 11)) (fa 1) cdv A outer s H E) (E := E) rfl rfl rfl rfl
  have lets := lets_of tk
  have U64 : (A.deeper (envOfC "numbers_fit" (defScope (top 11)) s.heap.objs.size (fa 1) cdv)).units + 64 < cLine := by have := hr.un; omega
  have U65 : (A.deeper (envOfC "numbers_fit" (defScope (top 11)) s.heap.objs.size (fa 1) cdv)).units + 65 < cLine := by have := hr.un; omega
  have U200 : (A.deeper (envOfC "numbers_fit" (defScope (top 11)) s.heap.objs.size (fa 1) cdv)).units + 200 < cLine := by have := hr.un; omega
  exact (s_cons (s_if (t_cmp (op_eqD2 U64) os_eq (e_ix (o_n 0) e_int) e_str)
    (s_one (s_ret (e_and (e_cmp (op_eqD2 U64) os_eq (e_callB call_len cs_len rfl F.g_len boot_len (o_n 0)) e_int) (e_and (e_call hcl (ih 0 (by decide)) gd hr rfl F.m0 F.f0.kp F.b0 lets (ar_v (e_ix (o_n 0) e_int) ar_nil)) (e_one (e_cmp op_lt os_lt (e_callB call_abs cs_abs rfl F.g_abs (by decide +kernel) (e_ix (o_n 0) e_int)) (e_op L2.op_pow os_pow e_int e_int)))))))
    s_nil)
    (s_cons (s_if (t_cmp (op_eqD2 U64) os_eq (e_ix (o_n 0) e_int) e_str)
    (s_one (s_ret (e_and (e_cmp (op_eqD2 U64) os_eq (e_callB call_len cs_len rfl F.g_len boot_len (o_n 0)) e_int) (e_one (e_callB (cr_all rfl) cs_all rfl F.g_all (by decide +kernel) (e_lc (own := [("part", 1)]) rfl sc1.nd (by decide) (i_seq (e_sl (o_n 0) (pr_e e_int) pr_no)) (blkOk_by (N := N1) (sc := defScope (top 11)) (by decide +kernel)) (fun _ _ _ _ _ b1 h1 => (g_n sc1.nd rfl (by first | exact Or.inl rfl | exact Or.inr rfl))) (fun _ _ _ _ _ b1 h1 => ts_nil) (fun _ _ _ _ _ b1 h1 => (e_and (e_call (h1.trans hcl) (ih 0 (by decide)) gd hr rfl F.m0 F.f0.kp F.b0 lets0 (ar_v (e_var 1) ar_nil)) (e_one (e_cmp op_ge os_ge (o_n 1) e_int))))))))))
    s_nil)
    (s_cons (s_if (t_cmp (op_eqD2 U64) os_eq (e_ix (o_n 0) e_int) e_str)
    (s_one (s_ret (e_and (e_cmp (op_eqD2 U64) os_eq (e_callB call_len cs_len rfl F.g_len boot_len (o_n 0)) e_int) (e_and (e_call hcl (ih 0 (by decide)) gd hr rfl F.m0 F.f0.kp F.b0 lets (ar_v (e_ix (o_n 0) e_int) ar_nil)) (e_one (e_cmp op_lt os_lt (e_callB call_abs cs_abs rfl F.g_abs (by decide +kernel) (e_ix (o_n 0) e_int)) (e_op L2.op_pow os_pow e_int e_int)))))))
    s_nil)
    (s_cons (s_if (t_cmp (op_eqD2 U64) os_eq (e_ix (o_n 0) e_int) e_str)
    (s_one (s_ret (e_and (e_cmp (op_eqD2 U64) os_eq (e_callB call_len cs_len rfl F.g_len boot_len (o_n 0)) e_int) (e_and (e_call hcl (ih 0 (by decide)) gd hr rfl F.m0 F.f0.kp F.b0 lets (ar_v (e_ix (o_n 0) e_int) ar_nil)) (e_one (e_chain op_lt os_lt op_lt os_lt e_int (e_ix (o_n 0) e_int) (e_op L2.op_pow os_pow e_int e_int)))))))
    s_nil)
    (s_one (s_ret (e_cmp (op_eqD2 U64) os_eq (e_callB call_len cs_len rfl F.g_len boot_len (o_n 0)) (e_op op_addD os_add e_int (e_kget F.d_WORDS (pe_glob (v := .ref (dd 0)) rfl F.n_WORDS rfl) (e_ix (o_n 0) e_int))))))))))
theorem st2 {n : Nat} (F : Facts K w mg cl fa dd fd) (ih : ∀ i, i < 33 → Ok P w K mg base cl fa fd n i) : Ok P w K mg base cl fa fd (n + 1) 2 := by
  refine fn_body (N := N2) (fb := fb2 (sem n)) F.f2 sc2 fun cdv A outer s H E b gd hr hcl => ?_
  have pas := passes_of (X := cxOf (L2.CX P w) P w K mg base N2 "inner_of" (defScope (top 12)) (fa 2) cdv A outer s H E) rfl
  have tk := takes_of (X := cxOf (L2.CX P w) P w K mg base N2 "inner_of" (defScope (top 12)) (fa 2) cdv A outer s H E) (E := E) rfl rfl rfl rfl
  have lets := lets_of tk
  have U64 : (A.deeper (envOfC "inner_of" (defScope (top 12)) s.heap.objs.size (fa 2) cdv)).units + 64 < cLine := by have := hr.un; omega
  have U65 : (A.deeper (envOfC "inner_of" (defScope (top 12)) s.heap.objs.size (fa 2) cdv)).units + 65 < cLine := by have := hr.un; omega
  have U200 : (A.deeper (envOfC "inner_of" (defScope (top 12)) s.heap.objs.size (fa 2) cdv)).units + 200 < cLine := by have := hr.un; omega
  exact (s_cons (s_set (i := 1) sc2.nd rfl (by first | exact Or.inl rfl | exact Or.inr rfl) (e_kget F.d_WORDS (pe_glob (v := .ref (dd 0)) rfl F.n_WORDS rfl) (e_ix (o_n 0) e_int)))
    (s_one (s_ret (e_sl (o_n 0) (pr_e (e_op L2.op_sub os_sub (e_callB call_len cs_len rfl F.g_len boot_len (o_n 0)) (o_n 1))) pr_no))))
theorem st3 {n : Nat} (F : Facts K w mg cl fa dd fd) (ih : ∀ i, i < 33 → Ok P w K mg base cl fa fd n i) : Ok P w K mg base cl fa fd (n + 1) 3 := by
  refine fn_body (N := N3) (fb := fb3 (sem n)) F.f3 sc3 fun cdv A outer s H E b gd hr hcl => ?_
  have pas := passes_of (X := cxOf (L2.CX P w) P w K mg base N3 "deep_of" (defScope (top 13)) (fa 3) cdv A outer s H E) rfl
  have tk := takes_of (X := cxOf (L2.CX P w) P w K mg base N3 "deep_of" (defScope (top 13)) (fa 3) cdv A outer s H E) (E := E) rfl rfl rfl rfl
  have lets := lets_of tk
  have U64 : (A.deeper (envOfC "deep_of" (defScope (top 13)) s.heap.objs.size (fa 3) cdv)).units + 64 < cLine := by have := hr.un; omega
  have U65 : (A.deeper (envOfC "deep_of" (defScope (top 13)) s.heap.objs.size (fa 3) cdv)).units + 65 < cLine := by have := hr.un; omega
  have U200 : (A.deeper (envOfC "deep_of" (defScope (top 13)) s.heap.objs.size (fa 3) cdv)).units + 200 < cLine := by have := hr.un; omega
  exact (s_cons (s_if (t_pw (w_or (t_cmp op_gt os_gt (o_n 1) (e_glob (v := (.int 4)) rfl (F.k_MOST_DEEP).choose_spec ⟨_, rfl⟩ (fun _ => .int _))) (w_or (t_not (t_val (e_isN hcl isT_tuple isEx_none rfl F.g_isinstance (o_n (b := b) (W := W0) 0) (pe_bltn (v := .ty "tuple") (u := .type "tuple") rfl F.g_tuple (by decide +kernel) rfl) (.ty "tuple")))) (w_or (t_cmp (op_eqD2 U64) os_eq (e_callB call_len cs_len rfl F.g_len boot_len (o_n 0)) e_int) (w_or1 (t_not (t_val (e_isE isT_str rfl F.g_isinstance (e_ix (o_n 0) e_int) (pe_bltn (v := .ty "str") (u := .type "str") rfl F.g_str (by decide +kernel) rfl) (.ty "str")))))))))
    (s_one (s_ret (e_op op_addD os_add (e_glob (v := (.int 15)) rfl (F.k_MOST_PARTS_formulas).choose_spec ⟨_, rfl⟩ (fun _ => .int _)) e_int)))
    s_nil)
    (s_cons (s_if (t_pw (w_or (t_knin F.d_WORDS (pe_glob (v := .ref (dd 0)) rfl F.n_WORDS rfl) (e_ix (o_n 0) e_int)) (w_or1 (t_not (t_val (e_call hcl (ih 1 (by decide)) gd hr rfl F.m1 F.f1.kp F.b1 lets (ar_v (e_var 0) ar_nil)))))))
    (s_one (s_ret (e_op op_addD os_add (e_glob (v := (.int 15)) rfl (F.k_MOST_PARTS_formulas).choose_spec ⟨_, rfl⟩ (fun _ => .int _)) e_int)))
    s_nil)
    (s_one (s_ret (e_op op_addD os_add e_int (e_callB (cr_sum rfl) cs_sum rfl F.g_sum (by decide +kernel) (e_lc (own := [("part", 2)]) rfl sc3.nd (by decide) (i_seq (e_call hcl (ih 2 (by decide)) gd hr rfl F.m2 F.f2.kp F.b2 lets (ar_v (e_var 0) ar_nil))) (blkOk_by (N := N3) (sc := defScope (top 13)) (by decide +kernel)) (fun _ _ _ _ _ b2 h2 => (g_n sc3.nd rfl (by first | exact Or.inl rfl | exact Or.inr rfl))) (fun _ _ _ _ _ b2 h2 => ts_nil) (fun _ _ _ _ _ b2 h2 => (e_call (h2.trans hcl) (ih 3 (by decide)) gd hr rfl F.m3 F.f3.kp F.b3 lets0 (ar_v (e_var 2) (ar_v (e_op op_addD os_add (o_n 1) e_int) ar_nil)))))))))))
theorem st4 {n : Nat} (F : Facts K w mg cl fa dd fd) (ih : ∀ i, i < 33 → Ok P w K mg base cl fa fd n i) : Ok P w K mg base cl fa fd (n + 1) 4 := by
  refine fn_body (N := N4) (fb := fb4 (sem n)) F.f4 sc4 fun cdv A outer s H E b gd hr hcl => ?_
  have pas := passes_of (X := cxOf (L2.CX P w) P w K mg base N4 "is_formula" (defScope (top 14)) (fa 4) cdv A outer s H E) rfl
  have tk := takes_of (X := cxOf (L2.CX P w) P w K mg base N4 "is_formula" (defScope (top 14)) (fa 4) cdv A outer s H E) (E := E) rfl rfl rfl rfl
  have lets := lets_of tk
  have U64 : (A.deeper (envOfC "is_formula" (defScope (top 14)) s.heap.objs.size (fa 4) cdv)).units + 64 < cLine := by have := hr.un; omega
  have U65 : (A.deeper (envOfC "is_formula" (defScope (top 14)) s.heap.objs.size (fa 4) cdv)).units + 65 < cLine := by have := hr.un; omega
  have U200 : (A.deeper (envOfC "is_formula" (defScope (top 14)) s.heap.objs.size (fa 4) cdv)).units + 200 < cLine := by have := hr.un; omega
  exact (s_one (s_ret (e_cmp op_le os_le (e_call hcl (ih 3 (by decide)) gd hr rfl F.m3 F.f3.kp F.b3 lets (ar_v (e_var 0) (ar_v e_int ar_nil))) (e_glob (v := (.int 15)) rfl (F.k_MOST_PARTS_formulas).choose_spec ⟨_, rfl⟩ (fun _ => .int _)))))
theorem st5 {n : Nat} (F : Facts K w mg cl fa dd fd) (ih : ∀ i, i < 33 → Ok P w K mg base cl fa fd n i) : Ok P w K mg base cl fa fd (n + 1) 5 := by
  refine fn_body (N := N5) (fb := fb5 (sem n)) F.f5 sc5 fun cdv A outer s H E b gd hr hcl => ?_
  have pas := passes_of (X := cxOf (L2.CX P w) P w K mg base N5 "names_in" (defScope (top 15)) (fa 5) cdv A outer s H E) rfl
  have tk := takes_of (X := cxOf (L2.CX P w) P w K mg base N5 "names_in" (defScope (top 15)) (fa 5) cdv A outer s H E) (E := E) rfl rfl rfl rfl
  have lets := lets_of tk
  have U64 : (A.deeper (envOfC "names_in" (defScope (top 15)) s.heap.objs.size (fa 5) cdv)).units + 64 < cLine := by have := hr.un; omega
  have U65 : (A.deeper (envOfC "names_in" (defScope (top 15)) s.heap.objs.size (fa 5) cdv)).units + 65 < cLine := by have := hr.un; omega
  have U200 : (A.deeper (envOfC "names_in" (defScope (top 15)) s.heap.objs.size (fa 5) cdv)).units + 200 < cLine := by have := hr.un; omega
  exact (s_cons (s_if (t_cmp (op_eqD2 U64) os_eq (e_ix (o_n 0) e_int) e_str)
    (s_one (s_ret (e_lst (as_cons (e_tup (as_cons (e_ix (o_n 0) e_int) (as_cons (e_ix (o_n 0) e_int) as_nil))) as_nil))))
    s_nil)
    (s_cons (s_set (i := 1) sc5.nd rfl (by first | exact Or.inl rfl | exact Or.inr rfl) (e_lst as_nil))
    (s_cons (s_for pas rfl (i_seq (e_call hcl (ih 2 (by decide)) gd hr rfl F.m2 F.f2.kp F.b2 lets (ar_v (e_var 0) ar_nil))) (g_n sc5.nd rfl (by first | exact Or.inl rfl | exact Or.inr rfl))
    (s_one (s_set (i := 1) sc5.nd rfl (by first | exact Or.inl rfl | exact Or.inr rfl) (e_op op_addD os_add (o_n 1) (e_call hcl (ih 5 (by decide)) gd hr rfl F.m5 F.f5.kp F.b5 lets (ar_v (e_var 2) ar_nil))))))
    (s_one (s_ret (e_move 1))))))
theorem st6 {n : Nat} (F : Facts K w mg cl fa dd fd) (ih : ∀ i, i < 33 → Ok P w K mg base cl fa fd n i) : Ok P w K mg base cl fa fd (n + 1) 6 := by
  refine fn_body (N := N6) (fb := fb6 (sem n)) F.f6 sc6 fun cdv A outer s H E b gd hr hcl => ?_
  have pas := passes_of (X := cxOf (L2.CX P w) P w K mg base N6 "is_from" (defScope (top 21)) (fa 6) cdv A outer s H E) rfl
  have tk := takes_of (X := cxOf (L2.CX P w) P w K mg base N6 "is_from" (defScope (top 21)) (fa 6) cdv A outer s H E) (E := E) rfl rfl rfl rfl
  have lets := lets_of tk
  have U64 : (A.deeper (envOfC "is_from" (defScope (top 21)) s.heap.objs.size (fa 6) cdv)).units + 64 < cLine := by have := hr.un; omega
  have U65 : (A.deeper (envOfC "is_from" (defScope (top 21)) s.heap.objs.size (fa 6) cdv)).units + 65 < cLine := by have := hr.un; omega
  have U200 : (A.deeper (envOfC "is_from" (defScope (top 21)) s.heap.objs.size (fa 6) cdv)).units + 200 < cLine := by have := hr.un; omega
  exact (s_one (s_ret (e_and (e_call hcl (ih 0 (by decide)) gd hr rfl F.m0 F.f0.kp F.b0 lets (ar_v (e_var 0) ar_nil)) (e_one (e_chain op_le os_le op_le os_le (o_n 1) (o_n 0) (o_n 2))))))
theorem st7 {n : Nat} (F : Facts K w mg cl fa dd fd) (ih : ∀ i, i < 33 → Ok P w K mg base cl fa fd n i) : Ok P w K mg base cl fa fd (n + 1) 7 := by
  refine fn_body (N := N7) (fb := fb7 (sem n)) F.f7 sc7 fun cdv A outer s H E b gd hr hcl => ?_
  have pas := passes_of (X := cxOf (L2.CX P w) P w K mg base N7 "is_sign" (defScope (top 22)) (fa 7) cdv A outer s H E) rfl
  have tk := takes_of (X := cxOf (L2.CX P w) P w K mg base N7 "is_sign" (defScope (top 22)) (fa 7) cdv A outer s H E) (E := E) rfl rfl rfl rfl
  have lets := lets_of tk
  have U64 : (A.deeper (envOfC "is_sign" (defScope (top 22)) s.heap.objs.size (fa 7) cdv)).units + 64 < cLine := by have := hr.un; omega
  have U65 : (A.deeper (envOfC "is_sign" (defScope (top 22)) s.heap.objs.size (fa 7) cdv)).units + 65 < cLine := by have := hr.un; omega
  have U200 : (A.deeper (envOfC "is_sign" (defScope (top 22)) s.heap.objs.size (fa 7) cdv)).units + 200 < cLine := by have := hr.un; omega
  exact (s_one (s_ret (e_and (e_isN hcl isT_tuple isEx_none rfl F.g_isinstance (o_n (b := b) (W := W0) 0) (pe_bltn (v := .ty "tuple") (u := .type "tuple") rfl F.g_tuple (by decide +kernel) rfl) (.ty "tuple")) (e_and (e_cmp (op_eqD2 U64) os_eq (e_callB call_len cs_len rfl F.g_len boot_len (o_n 0)) e_int) (e_one (e_callB (cr_all rfl) cs_all rfl F.g_all (by decide +kernel) (e_lc (own := [("part", 1)]) rfl sc7.nd (by decide) (i_seq (e_var 0)) (blkOk_by (N := N7) (sc := defScope (top 22)) (by decide +kernel)) (fun _ _ _ _ _ b3 h3 => (g_n sc7.nd rfl (by first | exact Or.inl rfl | exact Or.inr rfl))) (fun _ _ _ _ _ b3 h3 => ts_nil) (fun _ _ _ _ _ b3 h3 => (e_call (h3.trans hcl) (ih 6 (by decide)) gd hr rfl F.m6 F.f6.kp F.b6 lets0 (ar_v (e_var 1) (ar_v e_int (ar_v (e_glob (v := (.int 2)) rfl (F.k_MOST_WORTHS).choose_spec ⟨_, rfl⟩ (fun _ => .int _)) ar_nil))))))))))))
theorem st8 {n : Nat} (F : Facts K w mg cl fa dd fd) (ih : ∀ i, i < 33 → Ok P w K mg base cl fa fd n i) : Ok P w K mg base cl fa fd (n + 1) 8 := by
  refine fn_body (N := N8) (fb := fb8 (sem n)) F.f8 sc8 fun cdv A outer s H E b gd hr hcl => ?_
  have pas := passes_of (X := cxOf (L2.CX P w) P w K mg base N8 "worths_of_place" (defScope (top 23)) (fa 8) cdv A outer s H E) rfl
  have tk := takes_of (X := cxOf (L2.CX P w) P w K mg base N8 "worths_of_place" (defScope (top 23)) (fa 8) cdv A outer s H E) (E := E) rfl rfl rfl rfl
  have lets := lets_of tk
  have U64 : (A.deeper (envOfC "worths_of_place" (defScope (top 23)) s.heap.objs.size (fa 8) cdv)).units + 64 < cLine := by have := hr.un; omega
  have U65 : (A.deeper (envOfC "worths_of_place" (defScope (top 23)) s.heap.objs.size (fa 8) cdv)).units + 65 < cLine := by have := hr.un; omega
  have U200 : (A.deeper (envOfC "worths_of_place" (defScope (top 23)) s.heap.objs.size (fa 8) cdv)).units + 200 < cLine := by have := hr.un; omega
  exact (s_cons (s_set (i := 3) sc8.nd rfl (by first | exact Or.inl rfl | exact Or.inr rfl) (e_op op_addD os_add (e_tup (as_cons (e_ix (o_n 1) e_int) as_nil)) (e_ix (o_n 1) e_int)))
    (s_cons (s_if (t_cmp op_ge os_ge (o_n 2) (e_callB call_len cs_len rfl F.g_len boot_len (o_n 3)))
    (s_one (s_ret e_int))
    s_nil)
    (s_one (s_ret (e_callB (cr_sumT rfl) cs_sumT rfl F.g_sum (by decide +kernel) (e_ix (o_n 0) (e_ix (o_n 3) (o_n 2))))))))
theorem st9 {n : Nat} (F : Facts K w mg cl fa dd fd) (ih : ∀ i, i < 33 → Ok P w K mg base cl fa fd n i) : Ok P w K mg base cl fa fd (n + 1) 9 := by
  refine fn_body (N := N9) (fb := fb9 (sem n)) F.f9 sc9 fun cdv A outer s H E b gd hr hcl => ?_
  have pas := passes_of (X := cxOf (L2.CX P w) P w K mg base N9 "names_told" (defScope (top 24)) (fa 9) cdv A outer s H E) rfl
  have tk := takes_of (X := cxOf (L2.CX P w) P w K mg base N9 "names_told" (defScope (top 24)) (fa 9) cdv A outer s H E) (E := E) rfl rfl rfl rfl
  have lets := lets_of tk
  have U64 : (A.deeper (envOfC "names_told" (defScope (top 24)) s.heap.objs.size (fa 9) cdv)).units + 64 < cLine := by have := hr.un; omega
  have U65 : (A.deeper (envOfC "names_told" (defScope (top 24)) s.heap.objs.size (fa 9) cdv)).units + 65 < cLine := by have := hr.un; omega
  have U200 : (A.deeper (envOfC "names_told" (defScope (top 24)) s.heap.objs.size (fa 9) cdv)).units + 200 < cLine := by have := hr.un; omega
  exact (s_cons (s_unp (e_ix (o_n 0) (e_ix (o_n 1) e_int)) (g_t rfl (gs_cons (g_n sc9.nd rfl (by first | exact Or.inl rfl | exact Or.inr rfl)) (gs_cons (g_n sc9.nd rfl (by first | exact Or.inl rfl | exact Or.inr rfl)) gs_nil))))
    (s_cons (s_setLc (own := [("k", 7)]) rfl sc9.nd (i := 4) rfl rfl rfl (by decide) (i_rng rfl F.g_range (e_var 3)) (blkOk_by (N := N9) (sc := defScope (top 24)) (by decide +kernel)) (fun _ _ _ _ _ b4 h4 => (g_n sc9.nd rfl (by first | exact Or.inl rfl | exact Or.inr rfl))) (fun _ _ _ _ _ b4 h4 => ts_nil) (fun _ _ _ _ _ b4 h4 => (e_tup (as_cons e_int (as_cons (e_op op_addD os_add (o_n 2) (o_n 7)) as_nil)))))
    (s_cons (s_for pas rfl (i_enum rfl F.g_enumerate (e_ix (o_n 1) e_int)) (g_t rfl (gs_cons (g_n sc9.nd rfl (by first | exact Or.inl rfl | exact Or.inr rfl)) (gs_cons (g_n sc9.nd rfl (by first | exact Or.inl rfl | exact Or.inr rfl)) gs_nil)))
    (s_one (s_set (i := 4) sc9.nd rfl (by first | exact Or.inl rfl | exact Or.inr rfl) (e_op op_addD os_add (o_n 4) (e_lc (own := [("k", 7)]) rfl sc9.nd (by decide) (i_rng rfl F.g_range (e_ix (e_ix (o_n 0) (o_n 6)) e_int)) (blkOk_by (N := N9) (sc := defScope (top 24)) (by decide +kernel)) (fun _ _ _ _ _ b5 h5 => (g_n sc9.nd rfl (by first | exact Or.inl rfl | exact Or.inr rfl))) (fun _ _ _ _ _ b5 h5 => ts_nil) (fun _ _ _ _ _ b5 h5 => (e_tup (as_cons (e_op op_addD os_add (o_n 5) e_int) (as_cons (e_var 7) as_nil)))))))))
    (s_one (s_ret (e_move 4))))))
theorem st10 {n : Nat} (F : Facts K w mg cl fa dd fd) (ih : ∀ i, i < 33 → Ok P w K mg base cl fa fd n i) : Ok P w K mg base cl fa fd (n + 1) 10 := by
  refine fn_body (N := N10) (fb := fb10 (sem n)) F.f10 sc10 fun cdv A outer s H E b gd hr hcl => ?_
  have pas := passes_of (X := cxOf (L2.CX P w) P w K mg base N10 "is_making" (defScope (top 25)) (fa 10) cdv A outer s H E) rfl
  have tk := takes_of (X := cxOf (L2.CX P w) P w K mg base N10 "is_making" (defScope (top 25)) (fa 10) cdv A outer s H E) (E := E) rfl rfl rfl rfl
  have lets := lets_of tk
  have U64 : (A.deeper (envOfC "is_making" (defScope (top 25)) s.heap.objs.size (fa 10) cdv)).units + 64 < cLine := by have := hr.un; omega
  have U65 : (A.deeper (envOfC "is_making" (defScope (top 25)) s.heap.objs.size (fa 10) cdv)).units + 65 < cLine := by have := hr.un; omega
  have U200 : (A.deeper (envOfC "is_making" (defScope (top 25)) s.heap.objs.size (fa 10) cdv)).units + 200 < cLine := by have := hr.un; omega
  exact (s_cons (s_if (t_not (t_val (e_call hcl (ih 4 (by decide)) gd hr rfl F.m4 F.f4.kp F.b4 lets (ar_v (e_var 2) ar_nil))))
    (s_one (s_ret e_bl))
    s_nil)
    (s_one (s_ret (e_callB (cr_all rfl) cs_all rfl F.g_all (by decide +kernel) (e_lc (own := [("place", 3), ("number", 4)]) rfl sc10.nd (by decide) (i_seq (e_call hcl (ih 5 (by decide)) gd hr rfl F.m5 F.f5.kp F.b5 lets (ar_v (e_var 2) ar_nil))) (blkOk_by (N := N10) (sc := defScope (top 25)) (by decide +kernel)) (fun _ _ _ _ _ b6 h6 => (g_t rfl (gs_cons (g_n sc10.nd rfl (by first | exact Or.inl rfl | exact Or.inr rfl)) (gs_cons (g_n sc10.nd rfl (by first | exact Or.inl rfl | exact Or.inr rfl)) gs_nil)))) (fun _ _ _ _ _ b6 h6 => ts_nil) (fun _ _ _ _ _ b6 h6 => (e_cmp op_lt os_lt (o_n 4) (e_call (h6.trans hcl) (ih 8 (by decide)) gd hr rfl F.m8 F.f8.kp F.b8 lets0 (ar_v (e_var 0) (ar_v (e_var 1) (ar_v (e_var 3) ar_nil)))))))))))
theorem st11 {n : Nat} (F : Facts K w mg cl fa dd fd) (ih : ∀ i, i < 33 → Ok P w K mg base cl fa fd n i) : Ok P w K mg base cl fa fd (n + 1) 11 := by
  refine fn_body (N := N11) (fb := fb11 (sem n)) F.f11 sc11 fun cdv A outer s H E b gd hr hcl => ?_
  have pas := passes_of (X := cxOf (L2.CX P w) P w K mg base N11 "is_rule" (defScope (top 26)) (fa 11) cdv A outer s H E) rfl
  have tk := takes_of (X := cxOf (L2.CX P w) P w K mg base N11 "is_rule" (defScope (top 26)) (fa 11) cdv A outer s H E) (E := E) rfl rfl rfl rfl
  have lets := lets_of tk
  have U64 : (A.deeper (envOfC "is_rule" (defScope (top 26)) s.heap.objs.size (fa 11) cdv)).units + 64 < cLine := by have := hr.un; omega
  have U65 : (A.deeper (envOfC "is_rule" (defScope (top 26)) s.heap.objs.size (fa 11) cdv)).units + 65 < cLine := by have := hr.un; omega
  have U200 : (A.deeper (envOfC "is_rule" (defScope (top 26)) s.heap.objs.size (fa 11) cdv)).units + 200 < cLine := by have := hr.un; omega
  exact (s_cons (s_if (t_pw (w_or (t_not (t_val (e_isN hcl isT_tuple isEx_none rfl F.g_isinstance (o_n (b := b) (W := W0) 1) (pe_bltn (v := .ty "tuple") (u := .type "tuple") rfl F.g_tuple (by decide +kernel) rfl) (.ty "tuple")))) (w_or (t_cmp (op_neD2 U64) os_ne (e_callB call_len cs_len rfl F.g_len boot_len (o_n 1)) e_int) (w_or1 (t_not (t_val (e_call hcl (ih 6 (by decide)) gd hr rfl F.m6 F.f6.kp F.b6 lets (ar_v (e_ix (o_n 1) e_int) (ar_v e_int (ar_v (e_op L2.op_sub os_sub (e_callB call_len cs_len rfl F.g_len boot_len (o_n 0)) e_int) ar_nil))))))))))
    (s_one (s_ret e_bl))
    s_nil)
    (s_cons (s_if (t_pw (w_or (t_not (t_val (e_isE isT_tuple rfl F.g_isinstance (e_ix (o_n 1) e_int) (pe_bltn (v := .ty "tuple") (u := .type "tuple") rfl F.g_tuple (by decide +kernel) rfl) (.ty "tuple")))) (w_or (t_cmp op_gt os_gt (e_callB call_len cs_len rfl F.g_len boot_len (e_ix (o_n 1) e_int)) (e_glob (v := (.int 2)) rfl (F.k_MOST_PARTS_books).choose_spec ⟨_, rfl⟩ (fun _ => .int _))) (w_or1 (t_not (t_val (e_isE isT_list rfl F.g_isinstance (e_ix (o_n 1) e_int) (pe_bltn (v := .ty "list") (u := .type "list") rfl F.g_list (by decide +kernel) rfl) (.ty "list"))))))))
    (s_one (s_ret e_bl))
    s_nil)
    (s_cons (s_if (t_not (t_val (e_callB (cr_all rfl) cs_all rfl F.g_all (by decide +kernel) (e_lc (own := [("part", 2)]) rfl sc11.nd (by decide) (i_seq (e_ix (o_n 1) e_int)) (blkOk_by (N := N11) (sc := defScope (top 26)) (by decide +kernel)) (fun _ _ _ _ _ b7 h7 => (g_n sc11.nd rfl (by first | exact Or.inl rfl | exact Or.inr rfl))) (fun _ _ _ _ _ b7 h7 => ts_nil) (fun _ _ _ _ _ b7 h7 => (e_call (h7.trans hcl) (ih 6 (by decide)) gd hr rfl F.m6 F.f6.kp F.b6 lets0 (ar_v (e_var 2) (ar_v e_int (ar_v (e_op L2.op_sub os_sub (e_callB call_len cs_len rfl F.g_len boot_len (o_n 0)) e_int) ar_nil)))))))))
    (s_one (s_ret e_bl))
    s_nil)
    (s_cons (s_if (t_cmp (op_neD2 U64) os_ne (e_callB call_len cs_len rfl F.g_len boot_len (e_ix (o_n 1) e_int)) (e_callB call_len cs_len rfl F.g_len boot_len (e_call hcl (ih 9 (by decide)) gd hr rfl F.m9 F.f9.kp F.b9 lets (ar_v (e_var 0) (ar_v (e_var 1) ar_nil)))))
    (s_one (s_ret e_bl))
    s_nil)
    (s_one (s_ret (e_callB (cr_all rfl) cs_all rfl F.g_all (by decide +kernel) (e_lc (own := [("part", 2)]) rfl sc11.nd (by decide) (i_seq (e_ix (o_n 1) e_int)) (blkOk_by (N := N11) (sc := defScope (top 26)) (by decide +kernel)) (fun _ _ _ _ _ b8 h8 => (g_n sc11.nd rfl (by first | exact Or.inl rfl | exact Or.inr rfl))) (fun _ _ _ _ _ b8 h8 => ts_nil) (fun _ _ _ _ _ b8 h8 => (e_call (h8.trans hcl) (ih 10 (by decide)) gd hr rfl F.m10 F.f10.kp F.b10 lets0 (ar_v (e_var 0) (ar_v (e_var 1) (ar_v (e_var 2) ar_nil)))))))))))))
theorem st12 {n : Nat} (F : Facts K w mg cl fa dd fd) (ih : ∀ i, i < 33 → Ok P w K mg base cl fa fd n i) : Ok P w K mg base cl fa fd (n + 1) 12 := by
  refine fn_body (N := N12) (fb := fb12 (sem n)) F.f12 sc12 fun cdv A outer s H E b gd hr hcl => ?_
  have pas := passes_of (X := cxOf (L2.CX P w) P w K mg base N12 "is_book" (defScope (top 27)) (fa 12) cdv A outer s H E) rfl
  have tk := takes_of (X := cxOf (L2.CX P w) P w K mg base N12 "is_book" (defScope (top 27)) (fa 12) cdv A outer s H E) (E := E) rfl rfl rfl rfl
  have lets := lets_of tk
  have U64 : (A.deeper (envOfC "is_book" (defScope (top 27)) s.heap.objs.size (fa 12) cdv)).units + 64 < cLine := by have := hr.un; omega
  have U65 : (A.deeper (envOfC "is_book" (defScope (top 27)) s.heap.objs.size (fa 12) cdv)).units + 65 < cLine := by have := hr.un; omega
  have U200 : (A.deeper (envOfC "is_book" (defScope (top 27)) s.heap.objs.size (fa 12) cdv)).units + 200 < cLine := by have := hr.un; omega
  exact (s_cons (s_if (t_pw (w_or (t_not (t_val (e_isN hcl isT_tuple isEx_none rfl F.g_isinstance (o_n (b := b) (W := W0) 0) (pe_bltn (v := .ty "tuple") (u := .type "tuple") rfl F.g_tuple (by decide +kernel) rfl) (.ty "tuple")))) (w_or (t_cmp (op_neD2 U64) os_ne (e_callB call_len cs_len rfl F.g_len boot_len (o_n 0)) e_int) (w_or1 (t_not (t_val (e_callB (cr_all rfl) cs_all rfl F.g_all (by decide +kernel) (e_lc (own := [("part", 3)]) rfl sc12.nd (by decide) (i_seq (e_var 0)) (blkOk_by (N := N12) (sc := defScope (top 27)) (by decide +kernel)) (fun _ _ _ _ _ b9 h9 => (g_n sc12.nd rfl (by first | exact Or.inl rfl | exact Or.inr rfl))) (fun _ _ _ _ _ b9 h9 => ts_nil) (fun _ _ _ _ _ b9 h9 => (e_isN (h9.trans hcl) isT_list isEx_none rfl F.g_isinstance (o_n (b := b9) (W := W0) 3) (pe_bltn (v := .ty "list") (u := .type "list") rfl F.g_list (by decide +kernel) rfl) (.ty "list")))))))))))
    (s_one (s_ret e_bl))
    s_nil)
    (s_cons (s_unp (e_var 0) (g_t rfl (gs_cons (g_n sc12.nd rfl (by first | exact Or.inl rfl | exact Or.inr rfl)) (gs_cons (g_n sc12.nd rfl (by first | exact Or.inl rfl | exact Or.inr rfl)) gs_nil))))
    (s_cons (s_if (t_pw (w_or (t_cmp op_lt os_lt (e_callB call_len cs_len rfl F.g_len boot_len (o_n 1)) e_int) (w_or (t_cmp op_gt os_gt (e_callB call_len cs_len rfl F.g_len boot_len (o_n 1)) (e_glob (v := (.int 4)) rfl (F.k_MOST_SIGNS).choose_spec ⟨_, rfl⟩ (fun _ => .int _))) (w_or1 (t_cmp op_gt os_gt (e_callB call_len cs_len rfl F.g_len boot_len (o_n 2)) (e_glob (v := (.int 8)) rfl (F.k_MOST_RULES).choose_spec ⟨_, rfl⟩ (fun _ => .int _)))))))
    (s_one (s_ret e_bl))
    s_nil)
    (s_one (s_ret (e_and (e_callB (cr_all rfl) cs_all rfl F.g_all (by decide +kernel) (e_lc (own := [("sign", 4)]) rfl sc12.nd (by decide) (i_seq (e_var 1)) (blkOk_by (N := N12) (sc := defScope (top 27)) (by decide +kernel)) (fun _ _ _ _ _ b10 h10 => (g_n sc12.nd rfl (by first | exact Or.inl rfl | exact Or.inr rfl))) (fun _ _ _ _ _ b10 h10 => ts_nil) (fun _ _ _ _ _ b10 h10 => (e_call (h10.trans hcl) (ih 7 (by decide)) gd hr rfl F.m7 F.f7.kp F.b7 lets0 (ar_v (e_var 4) ar_nil))))) (e_one (e_callB (cr_all rfl) cs_all rfl F.g_all (by decide +kernel) (e_lc (own := [("rule", 5)]) rfl sc12.nd (by decide) (i_seq (e_var 2)) (blkOk_by (N := N12) (sc := defScope (top 27)) (by decide +kernel)) (fun _ _ _ _ _ b11 h11 => (g_n sc12.nd rfl (by first | exact Or.inl rfl | exact Or.inr rfl))) (fun _ _ _ _ _ b11 h11 => ts_nil) (fun _ _ _ _ _ b11 h11 => (e_call (h11.trans hcl) (ih 11 (by decide)) gd hr rfl F.m11 F.f11.kp F.b11 lets0 (ar_v (e_var 1) (ar_v (e_var 5) ar_nil)))))))))))))
theorem st13 {n : Nat} (F : Facts K w mg cl fa dd fd) (ih : ∀ i, i < 33 → Ok P w K mg base cl fa fd n i) : Ok P w K mg base cl fa fd (n + 1) 13 := by
  refine fn_body (N := N13) (fb := fb13 (sem n)) F.f13 sc13 fun cdv A outer s H E b gd hr hcl => ?_
  have pas := passes_of (X := cxOf (L2.CX P w) P w K mg base N13 "look_at_book" (defScope (top 28)) (fa 13) cdv A outer s H E) rfl
  have tk := takes_of (X := cxOf (L2.CX P w) P w K mg base N13 "look_at_book" (defScope (top 28)) (fa 13) cdv A outer s H E) (E := E) rfl rfl rfl rfl
  have lets := lets_of tk
  have U64 : (A.deeper (envOfC "look_at_book" (defScope (top 28)) s.heap.objs.size (fa 13) cdv)).units + 64 < cLine := by have := hr.un; omega
  have U65 : (A.deeper (envOfC "look_at_book" (defScope (top 28)) s.heap.objs.size (fa 13) cdv)).units + 65 < cLine := by have := hr.un; omega
  have U200 : (A.deeper (envOfC "look_at_book" (defScope (top 28)) s.heap.objs.size (fa 13) cdv)).units + 200 < cLine := by have := hr.un; omega
  exact (s_one (s_if (t_not (t_val (e_call hcl (ih 12 (by decide)) gd hr rfl F.m12 F.f12.kp F.b12 lets (ar_v (e_var 0) ar_nil))))
    (s_one (s_raise 1 hcl rfl tk (F.x_NoBook.ok rfl rfl)))
    s_nil))
theorem st14 {n : Nat} (F : Facts K w mg cl fa dd fd) (ih : ∀ i, i < 33 → Ok P w K mg base cl fa fd n i) : Ok P w K mg base cl fa fd (n + 1) 14 := by
  refine fn_body (N := N14) (fb := fb14 (sem n)) F.f14 sc14 fun cdv A outer s H E b gd hr hcl => ?_
  have pas := passes_of (X := cxOf (L2.CX P w) P w K mg base N14 "are_rising" (defScope (top 30)) (fa 14) cdv A outer s H E) rfl
  have tk := takes_of (X := cxOf (L2.CX P w) P w K mg base N14 "are_rising" (defScope (top 30)) (fa 14) cdv A outer s H E) (E := E) rfl rfl rfl rfl
  have lets := lets_of tk
  have U64 : (A.deeper (envOfC "are_rising" (defScope (top 30)) s.heap.objs.size (fa 14) cdv)).units + 64 < cLine := by have := hr.un; omega
  have U65 : (A.deeper (envOfC "are_rising" (defScope (top 30)) s.heap.objs.size (fa 14) cdv)).units + 65 < cLine := by have := hr.un; omega
  have U200 : (A.deeper (envOfC "are_rising" (defScope (top 30)) s.heap.objs.size (fa 14) cdv)).units + 200 < cLine := by have := hr.un; omega
  exact (s_cons (s_if (t_pw (w_or (t_not (t_val (e_isN hcl isT_tuple isEx_none rfl F.g_isinstance (o_n (b := b) (W := W0) 0) (pe_bltn (v := .ty "tuple") (u := .type "tuple") rfl F.g_tuple (by decide +kernel) rfl) (.ty "tuple")))) (w_or1 (t_not (t_val (e_callB (cr_all rfl) cs_all rfl F.g_all (by decide +kernel) (e_lc (own := [("part", 3)]) rfl sc14.nd (by decide) (i_seq (e_var 0)) (blkOk_by (N := N14) (sc := defScope (top 30)) (by decide +kernel)) (fun _ _ _ _ _ b12 h12 => (g_n sc14.nd rfl (by first | exact Or.inl rfl | exact Or.inr rfl))) (fun _ _ _ _ _ b12 h12 => ts_nil) (fun _ _ _ _ _ b12 h12 => (e_call (h12.trans hcl) (ih 6 (by decide)) gd hr rfl F.m6 F.f6.kp F.b6 lets0 (ar_v (e_var 3) (ar_v (e_var 1) (ar_v (e_op L2.op_sub os_sub (o_n 2) e_int) ar_nil))))))))))))
    (s_one (s_ret e_bl))
    s_nil)
    (s_one (s_ret (e_callB (cr_all rfl) cs_all rfl F.g_all (by decide +kernel) (e_lc (own := [("k", 4)]) rfl sc14.nd (by decide) (i_rng rfl F.g_range (e_op L2.op_sub os_sub (e_callB call_len cs_len rfl F.g_len boot_len (o_n 0)) e_int)) (blkOk_by (N := N14) (sc := defScope (top 30)) (by decide +kernel)) (fun _ _ _ _ _ b13 h13 => (g_n sc14.nd rfl (by first | exact Or.inl rfl | exact Or.inr rfl))) (fun _ _ _ _ _ b13 h13 => ts_nil) (fun _ _ _ _ _ b13 h13 => (e_cmp op_lt os_lt (e_ix (o_n 0) (o_n 4)) (e_ix (o_n 0) (e_op op_addD os_add (o_n 4) e_int)))))))))
theorem st15 {n : Nat} (F : Facts K w mg cl fa dd fd) (ih : ∀ i, i < 33 → Ok P w K mg base cl fa fd n i) : Ok P w K mg base cl fa fd (n + 1) 15 := by
  refine fn_body (N := N15) (fb := fb15 (sem n)) F.f15 sc15 fun cdv A outer s H E b gd hr hcl => ?_
  have pas := passes_of (X := cxOf (L2.CX P w) P w K mg base N15 "are_visits" (defScope (top 31)) (fa 15) cdv A outer s H E) rfl
  have tk := takes_of (X := cxOf (L2.CX P w) P w K mg base N15 "are_visits" (defScope (top 31)) (fa 15) cdv A outer s H E) (E := E) rfl rfl rfl rfl
  have lets := lets_of tk
  have U64 : (A.deeper (envOfC "are_visits" (defScope (top 31)) s.heap.objs.size (fa 15) cdv)).units + 64 < cLine := by have := hr.un; omega
  have U65 : (A.deeper (envOfC "are_visits" (defScope (top 31)) s.heap.objs.size (fa 15) cdv)).units + 65 < cLine := by have := hr.un; omega
  have U200 : (A.deeper (envOfC "are_visits" (defScope (top 31)) s.heap.objs.size (fa 15) cdv)).units + 200 < cLine := by have := hr.un; omega
  exact (s_cons (s_unp (e_var 0) (g_t rfl (gs_cons (g_n sc15.nd rfl (by first | exact Or.inl rfl | exact Or.inr rfl)) (gs_cons (g_n sc15.nd rfl (by first | exact Or.inl rfl | exact Or.inr rfl)) gs_nil))))
    (s_cons (s_if (t_not (t_val (e_isN hcl isT_list isEx_none rfl F.g_isinstance (o_n (b := b) (W := W0) 1) (pe_bltn (v := .ty "list") (u := .type "list") rfl F.g_list (by decide +kernel) rfl) (.ty "list"))))
    (s_one (s_ret e_bl))
    s_nil)
    (s_cons (s_set (i := 4) sc15.nd rfl (by first | exact Or.inl rfl | exact Or.inr rfl) (e_lst as_nil))
    (s_cons (s_for pas rfl (i_seq (e_var 1)) (g_n sc15.nd rfl (by first | exact Or.inl rfl | exact Or.inr rfl))
    (s_cons (s_if (t_pw (w_or (t_not (t_val (e_isN hcl isT_tuple isEx_none rfl F.g_isinstance (o_n (b := b) (W := W0) 5) (pe_bltn (v := .ty "tuple") (u := .type "tuple") rfl F.g_tuple (by decide +kernel) rfl) (.ty "tuple")))) (w_or1 (t_cmp (op_neD2 U64) os_ne (e_callB call_len cs_len rfl F.g_len boot_len (o_n 5)) e_int))))
    (s_one (s_ret e_bl))
    s_nil)
    (s_cons (s_if (t_pw (w_or (t_not (t_val (e_call hcl (ih 14 (by decide)) gd hr rfl F.m14 F.f14.kp F.b14 lets (ar_v (e_ix (o_n 5) e_int) (ar_v e_int (ar_v (e_var 2) ar_nil)))))) (w_or1 (t_not (t_val (e_call hcl (ih 14 (by decide)) gd hr rfl F.m14 F.f14.kp F.b14 lets (ar_v (e_ix (o_n 5) e_int) (ar_v (e_var 2) (ar_v (e_op op_addD os_add (o_n 2) (o_n 3)) ar_nil)))))))))
    (s_one (s_ret e_bl))
    s_nil)
    (s_cons (s_if (t_pw (w_and (t_cmp (op_eqD2 U64) os_eq (e_op op_addD os_add (e_callB call_len cs_len rfl F.g_len boot_len (e_ix (o_n 5) e_int)) (e_callB call_len cs_len rfl F.g_len boot_len (e_ix (o_n 5) e_int))) e_int) (w_and1 (t_cmp op_gt os_gt (e_op op_addD os_add (o_n 2) (o_n 3)) e_int))))
    (s_one (s_ret e_bl))
    s_nil)
    (s_one (s_set (i := 4) sc15.nd rfl (by first | exact Or.inl rfl | exact Or.inr rfl) (e_op op_addD os_add (o_n 4) (e_callTy call_list_of cs_list rfl F.g_list (by decide +kernel) (e_op op_addD os_add (e_ix (o_n 5) e_int) (e_ix (o_n 5) e_int))))))))))
    (s_cons (s_if (t_cmp (op_eqD2 U64) os_eq (e_op op_addD os_add (o_n 2) (o_n 3)) e_int)
    (s_one (s_ret (e_cmp (op_eqD2 U64) os_eq (e_callB call_len cs_len rfl F.g_len boot_len (o_n 1)) e_int)))
    s_nil)
    (s_one (s_ret (e_cmp (op_eqD2 U64) os_eq (e_callB call_srt cs_srt rfl F.g_sorted (by decide +kernel) (o_n 4)) (e_listRg rfl rfl F.g_list rfl F.g_range (e_op op_addD os_add (o_n 2) (o_n 3)))))))))))
theorem st16 {n : Nat} (F : Facts K w mg cl fa dd fd) (ih : ∀ i, i < 33 → Ok P w K mg base cl fa fd n i) : Ok P w K mg base cl fa fd (n + 1) 16 := by
  refine fn_body (N := N16) (fb := fb16 (sem n)) F.f16 sc16 fun cdv A outer s H E b gd hr hcl => ?_
  have pas := passes_of (X := cxOf (L2.CX P w) P w K mg base N16 "is_visit_book" (defScope (top 32)) (fa 16) cdv A outer s H E) rfl
  have tk := takes_of (X := cxOf (L2.CX P w) P w K mg base N16 "is_visit_book" (defScope (top 32)) (fa 16) cdv A outer s H E) (E := E) rfl rfl rfl rfl
  have lets := lets_of tk
  have U64 : (A.deeper (envOfC "is_visit_book" (defScope (top 32)) s.heap.objs.size (fa 16) cdv)).units + 64 < cLine := by have := hr.un; omega
  have U65 : (A.deeper (envOfC "is_visit_book" (defScope (top 32)) s.heap.objs.size (fa 16) cdv)).units + 65 < cLine := by have := hr.un; omega
  have U200 : (A.deeper (envOfC "is_visit_book" (defScope (top 32)) s.heap.objs.size (fa 16) cdv)).units + 200 < cLine := by have := hr.un; omega
  exact (s_cons (s_if (t_pw (w_or (t_not (t_val (e_isN hcl isT_list isEx_none rfl F.g_isinstance (o_n (b := b) (W := W0) 1) (pe_bltn (v := .ty "list") (u := .type "list") rfl F.g_list (by decide +kernel) rfl) (.ty "list")))) (w_or1 (t_cmp (op_neD2 U64) os_ne (e_callB call_len cs_len rfl F.g_len boot_len (o_n 1)) (e_callB call_len cs_len rfl F.g_len boot_len (e_ix (o_n 0) e_int))))))
    (s_one (s_ret e_bl))
    s_nil)
    (s_one (s_ret (e_callB (cr_all rfl) cs_all rfl F.g_all (by decide +kernel) (e_lc (own := [("sign", 2), ("visits", 3)]) rfl sc16.nd (by decide) (i_zip rfl F.g_zip (e_ix (o_n 0) e_int) (e_var 1)) (blkOk_by (N := N16) (sc := defScope (top 32)) (by decide +kernel)) (fun _ _ _ _ _ b14 h14 => (g_t rfl (gs_cons (g_n sc16.nd rfl (by first | exact Or.inl rfl | exact Or.inr rfl)) (gs_cons (g_n sc16.nd rfl (by first | exact Or.inl rfl | exact Or.inr rfl)) gs_nil)))) (fun _ _ _ _ _ b14 h14 => ts_nil) (fun _ _ _ _ _ b14 h14 => (e_call (h14.trans hcl) (ih 15 (by decide)) gd hr rfl F.m15 F.f15.kp F.b15 lets0 (ar_v (e_var 2) (ar_v (e_var 3) ar_nil)))))))))
theorem st17 {n : Nat} (F : Facts K w mg cl fa dd fd) (ih : ∀ i, i < 33 → Ok P w K mg base cl fa fd n i) : Ok P w K mg base cl fa fd (n + 1) 17 := by
  refine fn_body (N := N17) (fb := fb17 (sem n)) F.f17 sc17 fun cdv A outer s H E b gd hr hcl => ?_
  have pas := passes_of (X := cxOf (L2.CX P w) P w K mg base N17 "look_at_visits" (defScope (top 33)) (fa 17) cdv A outer s H E) rfl
  have tk := takes_of (X := cxOf (L2.CX P w) P w K mg base N17 "look_at_visits" (defScope (top 33)) (fa 17) cdv A outer s H E) (E := E) rfl rfl rfl rfl
  have lets := lets_of tk
  have U64 : (A.deeper (envOfC "look_at_visits" (defScope (top 33)) s.heap.objs.size (fa 17) cdv)).units + 64 < cLine := by have := hr.un; omega
  have U65 : (A.deeper (envOfC "look_at_visits" (defScope (top 33)) s.heap.objs.size (fa 17) cdv)).units + 65 < cLine := by have := hr.un; omega
  have U200 : (A.deeper (envOfC "look_at_visits" (defScope (top 33)) s.heap.objs.size (fa 17) cdv)).units + 200 < cLine := by have := hr.un; omega
  exact (s_cons (s_expr (e_call hcl (ih 13 (by decide)) gd hr rfl F.m13 F.f13.kp F.b13 lets (ar_v (e_var 0) ar_nil)))
    (s_one (s_if (t_not (t_val (e_call hcl (ih 16 (by decide)) gd hr rfl F.m16 F.f16.kp F.b16 lets (ar_v (e_var 0) (ar_v (e_var 1) ar_nil)))))
    (s_one (s_raise 3 hcl rfl tk (F.x_NoVisits.ok rfl rfl)))
    s_nil)))
theorem st18 {n : Nat} (F : Facts K w mg cl fa dd fd) (ih : ∀ i, i < 33 → Ok P w K mg base cl fa fd n i) : Ok P w K mg base cl fa fd (n + 1) 18 := by
  refine fn_bodyM (N := N18) (fb := fb18 (sem n)) F.f18 sc18 fun cdv A outer s H E b gd hr hcl hpin0 => ?_
  have hpin : b.pins = [] := by unfold Bx.pins; rw [hpin0]; rfl
  have pas := passes_of (X := cxOf (L2.CX P w) P w K mg base N18 "joined_at" (defScope (top 35)) (fa 18) cdv A outer s H E) rfl
  have tk := takes_of (X := cxOf (L2.CX P w) P w K mg base N18 "joined_at" (defScope (top 35)) (fa 18) cdv A outer s H E) (E := E) rfl rfl rfl rfl
  have lets := lets_of tk
  have U64 : (A.deeper (envOfC "joined_at" (defScope (top 35)) s.heap.objs.size (fa 18) cdv)).units + 64 < cLine := by have := hr.un; omega
  have U65 : (A.deeper (envOfC "joined_at" (defScope (top 35)) s.heap.objs.size (fa 18) cdv)).units + 65 < cLine := by have := hr.un; omega
  have U200 : (A.deeper (envOfC "joined_at" (defScope (top 35)) s.heap.objs.size (fa 18) cdv)).units + 200 < cLine := by have := hr.un; omega
  exact (m_cons (m_plain fun m => (s_set (i := 3) sc18.nd rfl (by first | exact Or.inl rfl | exact Or.inr rfl) (e_ix (o_n 0) (o_n 1))))
    (m_cons (m_plain fun m => (s_set (i := 4) sc18.nd rfl (by first | exact Or.inl rfl | exact Or.inr rfl) (e_callTy call_tuple_of cs_tuple rfl F.g_tuple (by decide +kernel) (e_callB call_srt cs_srt rfl F.g_sorted (by decide +kernel) (e_op op_addD os_add (e_ix (e_ix (o_n 3) (o_n 2)) e_int) (e_ix (e_ix (o_n 3) (e_op op_addD os_add (o_n 2) e_int)) e_int))))))
    (m_cons (m_plain fun m => (s_set (i := 5) sc18.nd rfl (by first | exact Or.inl rfl | exact Or.inr rfl) (e_callTy call_tuple_of cs_tuple rfl F.g_tuple (by decide +kernel) (e_callB call_srt cs_srt rfl F.g_sorted (by decide +kernel) (e_op op_addD os_add (e_ix (e_ix (o_n 3) (o_n 2)) e_int) (e_ix (e_ix (o_n 3) (e_op op_addD os_add (o_n 2) e_int)) e_int))))))
    (m_cons (m_set (i := 6) hpin sc18.nd rfl (by first | exact Or.inl rfl | exact Or.inr rfl) (me_plain fun m => (e_op op_addD os_add (e_op op_addD os_add (e_callTy call_list_of cs_list rfl F.g_list (by decide +kernel) (e_sl (o_n 3) pr_no (pr_e (e_var 2)))) (e_lst (as_cons (e_tup (as_cons (e_var 4) (as_cons (e_var 5) as_nil))) as_nil))) (e_callTy call_list_of cs_list rfl F.g_list (by decide +kernel) (e_sl (o_n 3) (pr_e (e_op op_addD os_add (o_n 2) e_int)) pr_no)))))
    (m_one (m_ret (me_cat (me_cat (me_lc (own := [("some", 7)]) rfl sc18.nd (by decide) (fun m => (i_seq (e_sl (o_n 0) pr_no (pr_e (e_var 1))))) (blkOk_by (N := N18) (sc := defScope (top 35)) (by decide +kernel)) (fun _ _ _ _ _ b15 h15 => (g_n sc18.nd rfl (by first | exact Or.inl rfl | exact Or.inr rfl))) (fun _ _ _ _ _ b15 h15 => ts_nil) (fun _ _ _ _ _ b15 h15 => (me_plain fun m => (e_callTy call_list_of cs_list rfl F.g_list (by decide +kernel) (o_n 7))))) (fun _ => (me_lst (am_cons (me_mv 6) (fun _ => am_nil))))) (fun _ => (me_lc (own := [("some", 7)]) rfl sc18.nd (by decide) (fun m => (i_seq (e_sl (o_n 0) (pr_e (e_op op_addD os_add (o_n 1) e_int)) pr_no))) (blkOk_by (N := N18) (sc := defScope (top 35)) (by decide +kernel)) (fun _ _ _ _ _ b16 h16 => (g_n sc18.nd rfl (by first | exact Or.inl rfl | exact Or.inr rfl))) (fun _ _ _ _ _ b16 h16 => ts_nil) (fun _ _ _ _ _ b16 h16 => (me_plain fun m => (e_callTy call_list_of cs_list rfl F.g_list (by decide +kernel) (o_n 7)))))))))))))
theorem st19 {n : Nat} (F : Facts K w mg cl fa dd fd) (ih : ∀ i, i < 33 → Ok P w K mg base cl fa fd n i) : Ok P w K mg base cl fa fd (n + 1) 19 := by
  refine fn_bodyM (N := N19) (fb := fb19 (sem n)) F.f19 sc19 fun cdv A outer s H E b gd hr hcl hpin0 => ?_
  have hpin : b.pins = [] := by unfold Bx.pins; rw [hpin0]; rfl
  have pas := passes_of (X := cxOf (L2.CX P w) P w K mg base N19 "joined_visits" (defScope (top 36)) (fa 19) cdv A outer s H E) rfl
  have tk := takes_of (X := cxOf (L2.CX P w) P w K mg base N19 "joined_visits" (defScope (top 36)) (fa 19) cdv A outer s H E) (E := E) rfl rfl rfl rfl
  have lets := lets_of tk
  have U64 : (A.deeper (envOfC "joined_visits" (defScope (top 36)) s.heap.objs.size (fa 19) cdv)).units + 64 < cLine := by have := hr.un; omega
  have U65 : (A.deeper (envOfC "joined_visits" (defScope (top 36)) s.heap.objs.size (fa 19) cdv)).units + 65 < cLine := by have := hr.un; omega
  have U200 : (A.deeper (envOfC "joined_visits" (defScope (top 36)) s.heap.objs.size (fa 19) cdv)).units + 200 < cLine := by have := hr.un; omega
  exact (m_cons (m_plain fun m => (s_expr (e_call hcl (ih 17 (by decide)) gd hr rfl F.m17 F.f17.kp F.b17 lets (ar_v (e_var 0) (ar_v (e_var 1) ar_nil)))))
    (m_cons (m_if (fun m => (t_not (t_val (e_call hcl (ih 6 (by decide)) gd hr rfl F.m6 F.f6.kp F.b6 lets (ar_v (e_var 2) (ar_v e_int (ar_v (e_op L2.op_sub os_sub (e_callB call_len cs_len rfl F.g_len boot_len (o_n 1)) e_int) ar_nil)))))))
    (m_one (m_plain fun m => (s_raise 2 hcl rfl tk (F.x_NoSign.ok rfl rfl))))
    (m_plains fun m => s_nil))
    (m_cons (m_if (fun m => (t_not (t_val (e_call hcl (ih 6 (by decide)) gd hr rfl F.m6 F.f6.kp F.b6 lets (ar_v (e_var 3) (ar_v e_int (ar_v (e_op L2.op_sub os_sub (e_callB call_len cs_len rfl F.g_len boot_len (e_ix (o_n 1) (o_n 2))) e_int) ar_nil)))))))
    (m_one (m_plain fun m => (s_raise 4 hcl rfl tk (F.x_NoJoin.ok rfl rfl))))
    (m_plains fun m => s_nil))
    (m_one (m_ret (me_call hcl (ih 18 (by decide)) gd hr rfl F.m18 F.f18.kp F.b18 lets (fun m => (ar_v (e_var 1) (ar_v (e_var 2) (ar_v (e_var 3) ar_nil))))))))))
theorem st20 {n : Nat} (F : Facts K w mg cl fa dd fd) (ih : ∀ i, i < 33 → Ok P w K mg base cl fa fd n i) : Ok P w K mg base cl fa fd (n + 1) 20 := by
  refine fn_body (N := N20) (fb := fb20 (sem n)) F.f20 sc20 fun cdv A outer s H E b gd hr hcl => ?_
  have pas := passes_of (X := cxOf (L2.CX P w) P w K mg base N20 "_law_mixed" (defScope (top 38)) (fa 20) cdv A outer s H E) rfl
  have tk := takes_of (X := cxOf (L2.CX P w) P w K mg base N20 "_law_mixed" (defScope (top 38)) (fa 20) cdv A outer s H E) (E := E) rfl rfl rfl rfl
  have lets := lets_of tk
  have U64 : (A.deeper (envOfC "_law_mixed" (defScope (top 38)) s.heap.objs.size (fa 20) cdv)).units + 64 < cLine := by have := hr.un; omega
  have U65 : (A.deeper (envOfC "_law_mixed" (defScope (top 38)) s.heap.objs.size (fa 20) cdv)).units + 65 < cLine := by have := hr.un; omega
  have U200 : (A.deeper (envOfC "_law_mixed" (defScope (top 38)) s.heap.objs.size (fa 20) cdv)).units + 200 < cLine := by have := hr.un; omega
  exact (s_cons (s_set (i := 2) sc20.nd rfl (by first | exact Or.inl rfl | exact Or.inr rfl) (e_op L2.op_mod os_mod (e_op op_addD os_add (e_op op_addD os_add (e_op op_mulD os_mul (e_op L2.op_mod os_mod (o_n 0) e_int) e_int) (e_op op_mulD os_mul (o_n 1) e_int)) e_int) e_int))
    (s_cons (s_set (i := 2) sc20.nd rfl (by first | exact Or.inl rfl | exact Or.inr rfl) (e_op L2.op_mod os_mod (e_op op_mulD os_mul (o_n 2) (o_n 2)) e_int))
    (s_one (s_ret (e_op L2.op_mod os_mod (e_op op_mulD os_mul (o_n 2) (e_op op_addD os_add (o_n 2) e_int)) e_int)))))
theorem st21 {n : Nat} (F : Facts K w mg cl fa dd fd) (ih : ∀ i, i < 33 → Ok P w K mg base cl fa fd n i) : Ok P w K mg base cl fa fd (n + 1) 21 := by
  refine fn_body (N := N21) (fb := fb21 (sem n)) F.f21 sc21 fun cdv A outer s H E b gd hr hcl => ?_
  have pas := passes_of (X := cxOf (L2.CX P w) P w K mg base N21 "_law_cell" (defScope (top 39)) (fa 21) cdv A outer s H E) rfl
  have tk := takes_of (X := cxOf (L2.CX P w) P w K mg base N21 "_law_cell" (defScope (top 39)) (fa 21) cdv A outer s H E) (E := E) rfl rfl rfl rfl
  have lets := lets_of tk
  have U64 : (A.deeper (envOfC "_law_cell" (defScope (top 39)) s.heap.objs.size (fa 21) cdv)).units + 64 < cLine := by have := hr.un; omega
  have U65 : (A.deeper (envOfC "_law_cell" (defScope (top 39)) s.heap.objs.size (fa 21) cdv)).units + 65 < cLine := by have := hr.un; omega
  have U200 : (A.deeper (envOfC "_law_cell" (defScope (top 39)) s.heap.objs.size (fa 21) cdv)).units + 200 < cLine := by have := hr.un; omega
  exact (s_cons (s_set (i := 2) sc21.nd rfl (by first | exact Or.inl rfl | exact Or.inr rfl) e_int)
    (s_cons (s_if (t_cmp op_lt os_lt (o_n 1) (e_lenF rfl F.g_len (o_n (b := b) (W := W0) 0)))
    (s_one (s_set (i := 2) sc21.nd rfl (by first | exact Or.inl rfl | exact Or.inr rfl) (e_ixF (o_n (b := b) (W := W0) 0) (e_var 1))))
    s_nil)
    (s_cons (s_if (t_cmp op_ge os_ge (o_n 2) (e_op L2.op_pow os_pow e_int e_int))
    (s_one (s_ret (e_op L2.op_mod os_mod (e_op L2.op_sub os_sub (o_n 2) (e_op L2.op_pow os_pow e_int e_int)) (e_op op_mulD os_mul (e_op op_mulD os_mul (e_op op_mulD os_mul (e_op L2.op_pow os_pow e_int e_int) (e_op L2.op_pow os_pow e_int e_int)) (e_op L2.op_pow os_pow e_int e_int)) (e_op L2.op_pow os_pow e_int e_int)))))
    s_nil)
    (s_cons (s_set (i := 3) sc21.nd rfl (by first | exact Or.inl rfl | exact Or.inr rfl) e_int)
    (s_cons (s_for pas rfl (i_rng rfl F.g_range e_int) (g_n sc21.nd rfl (by first | exact Or.inl rfl | exact Or.inr rfl))
    (s_one (s_set (i := 3) sc21.nd rfl (by first | exact Or.inl rfl | exact Or.inr rfl) (e_op op_addD os_add (e_op op_mulD os_mul (o_n 3) e_int) (e_call hcl (ih 20 (by decide)) gd hr rfl F.m20 F.f20.kp F.b20 lets (ar_v (e_var 2) (ar_v (e_op op_addD os_add (e_op op_addD os_add (e_op op_mulD os_mul e_int (o_n 1)) (e_op op_mulD os_mul e_int (o_n 4))) (e_op op_mulD os_mul (o_n 4) (o_n 4))) ar_nil)))))))
    (s_one (s_ret (e_move 3))))))))
theorem st22 {n : Nat} (F : Facts K w mg cl fa dd fd) (ih : ∀ i, i < 33 → Ok P w K mg base cl fa fd n i) : Ok P w K mg base cl fa fd (n + 1) 22 := by
  refine fn_body (N := N22) (fb := fb22 (sem n)) F.f22 sc22 fun cdv A outer s H E b gd hr hcl => ?_
  have pas := passes_of (X := cxOf (L2.CX P w) P w K mg base N22 "_law_take" (defScope (top 40)) (fa 22) cdv A outer s H E) rfl
  have tk := takes_of (X := cxOf (L2.CX P w) P w K mg base N22 "_law_take" (defScope (top 40)) (fa 22) cdv A outer s H E) (E := E) rfl rfl rfl rfl
  have lets := lets_of tk
  have U64 : (A.deeper (envOfC "_law_take" (defScope (top 40)) s.heap.objs.size (fa 22) cdv)).units + 64 < cLine := by have := hr.un; omega
  have U65 : (A.deeper (envOfC "_law_take" (defScope (top 40)) s.heap.objs.size (fa 22) cdv)).units + 65 < cLine := by have := hr.un; omega
  have U200 : (A.deeper (envOfC "_law_take" (defScope (top 40)) s.heap.objs.size (fa 22) cdv)).units + 200 < cLine := by have := hr.un; omega
  exact (s_cons (s_set (i := 2) sc22.nd rfl (by first | exact Or.inl rfl | exact Or.inr rfl) (e_op L2.op_mod os_mod (e_ix (o_n 0) e_int) (o_n 1)))
    (s_cons (PS.imp (ps_asg (e_op L2.op_fdivW os_fdiv (e_ix (o_n 0) e_int) (o_n 1)) (pg_sub (o_n (b := b) (W := W0) 0) e_int set_list)) set_post)
    (s_one (s_ret (e_move 2)))))
theorem st23 {n : Nat} (F : Facts K w mg cl fa dd fd) (ih : ∀ i, i < 33 → Ok P w K mg base cl fa fd n i) : Ok P w K mg base cl fa fd (n + 1) 23 := by
  refine fn_body (N := N23) (fb := fb23 (sem n)) F.f23 sc23 fun cdv A outer s H E b gd hr hcl => ?_
  have pas := passes_of (X := cxOf (L2.CX P w) P w K mg base N23 "_law_formula" (defScope (top 41)) (fa 23) cdv A outer s H E) rfl
  have tk := takes_of (X := cxOf (L2.CX P w) P w K mg base N23 "_law_formula" (defScope (top 41)) (fa 23) cdv A outer s H E) (E := E) rfl rfl rfl rfl
  have lets := lets_of tk
  have U64 : (A.deeper (envOfC "_law_formula" (defScope (top 41)) s.heap.objs.size (fa 23) cdv)).units + 64 < cLine := by have := hr.un; omega
  have U65 : (A.deeper (envOfC "_law_formula" (defScope (top 41)) s.heap.objs.size (fa 23) cdv)).units + 65 < cLine := by have := hr.un; omega
  have U200 : (A.deeper (envOfC "_law_formula" (defScope (top 41)) s.heap.objs.size (fa 23) cdv)).units + 200 < cLine := by have := hr.un; omega
  exact (s_cons (s_set (i := 3) sc23.nd rfl (by first | exact Or.inl rfl | exact Or.inr rfl) (e_call hcl (ih 22 (by decide)) gd hr rfl F.m22 F.f22.kp F.b22 lets (ar_r (o_n (b := b) (W := W0) 0) (ar_v e_int ar_nil))))
    (s_cons (s_if (t_pw (w_or (t_cmp (op_eqD2 U64) os_eq (o_n 2) e_int) (w_or1 (t_cmp op_lt os_lt (o_n 3) e_int))))
    (s_cons (s_if (t_pw (w_or (t_cmp (op_eqD2 U64) os_eq (o_n 1) (e_lst as_nil)) (w_or1 (t_cmp (op_eqD2 U64) os_eq (e_call hcl (ih 22 (by decide)) gd hr rfl F.m22 F.f22.kp F.b22 lets (ar_r (o_n (b := b) (W := W0) 0) (ar_v e_int ar_nil))) e_int))))
    (s_one (s_ret (e_tup (as_cons e_str (as_cons (e_op L2.op_sub os_sub (e_call hcl (ih 22 (by decide)) gd hr rfl F.m22 F.f22.kp F.b22 lets (ar_r (o_n (b := b) (W := W0) 0) (ar_v e_int ar_nil))) e_int) as_nil)))))
    s_nil)
    (s_one (s_ret (e_op op_addD os_add (e_tup (as_cons e_str as_nil)) (e_ix (o_n 1) (e_call hcl (ih 22 (by decide)) gd hr rfl F.m22 F.f22.kp F.b22 lets (ar_r (o_n (b := b) (W := W0) 0) (ar_v (e_callB call_len cs_len rfl F.g_len boot_len (o_n 1)) ar_nil))))))))
    s_nil)
    (s_cons (s_set (i := 4) sc23.nd rfl (by first | exact Or.inl rfl | exact Or.inr rfl) (e_ix (e_lst (as_cons e_str (as_cons e_str (as_cons e_str (as_cons e_str (as_cons e_str (as_cons e_str (as_cons e_str as_nil)))))))) (e_op L2.op_sub os_sub (o_n 3) e_int)))
    (s_cons (s_set (i := 5) sc23.nd rfl (by first | exact Or.inl rfl | exact Or.inr rfl) (e_callTy call_tuple_of cs_tuple rfl F.g_tuple (by decide +kernel) (e_lc (own := [("_law_k", 6)]) rfl sc23.nd (by decide) (i_rng rfl F.g_range (e_ix (e_lst (as_cons e_int (as_cons e_int (as_cons e_int (as_cons e_int (as_cons e_int (as_cons e_int (as_cons e_int as_nil)))))))) (e_op L2.op_sub os_sub (o_n 3) e_int))) (blkOk_by (N := N23) (sc := defScope (top 41)) (by decide +kernel)) (fun _ _ _ _ _ b17 h17 => (g_n sc23.nd rfl (by first | exact Or.inl rfl | exact Or.inr rfl))) (fun _ _ _ _ _ b17 h17 => ts_nil) (fun _ _ _ _ _ b17 h17 => (e_call (h17.trans hcl) (ih 23 (by decide)) gd hr rfl F.m23 F.f23.kp F.b23 lets0 (ar_r (o_n (b := b17) (W := W0) 0) (ar_v (e_var 1) (ar_v (e_op L2.op_sub os_sub (o_n 2) e_int) ar_nil))))))))
    (s_cons (s_if (t_cmp (op_eqD2 U64) os_eq (o_n 4) e_str)
    (s_one (s_ret (e_op op_addD os_add (e_tup (as_cons (e_var 4) (as_cons (e_op L2.op_sub os_sub (e_call hcl (ih 22 (by decide)) gd hr rfl F.m22 F.f22.kp F.b22 lets (ar_r (o_n (b := b) (W := W0) 0) (ar_v e_int ar_nil))) e_int) as_nil))) (o_n 5))))
    s_nil)
    (s_cons (s_if (t_cmp (op_eqD2 U64) os_eq (o_n 4) e_str)
    (s_one (s_ret (e_op op_addD os_add (e_tup (as_cons (e_var 4) (as_cons (e_op op_addD os_add e_int (e_call hcl (ih 22 (by decide)) gd hr rfl F.m22 F.f22.kp F.b22 lets (ar_r (o_n (b := b) (W := W0) 0) (ar_v e_int ar_nil)))) as_nil))) (o_n 5))))
    s_nil)
    (s_one (s_ret (e_op op_addD os_add (e_tup (as_cons (e_var 4) as_nil)) (o_n 5))))))))))
theorem st24 {n : Nat} (F : Facts K w mg cl fa dd fd) (ih : ∀ i, i < 33 → Ok P w K mg base cl fa fd n i) : Ok P w K mg base cl fa fd (n + 1) 24 := by
  refine fn_body (N := N24) (fb := fb24 (sem n)) F.f24 sc24 fun cdv A outer s H E b gd hr hcl => ?_
  have pas := passes_of (X := cxOf (L2.CX P w) P w K mg base N24 "_law_told" (defScope (top 42)) (fa 24) cdv A outer s H E) rfl
  have tk := takes_of (X := cxOf (L2.CX P w) P w K mg base N24 "_law_told" (defScope (top 42)) (fa 24) cdv A outer s H E) (E := E) rfl rfl rfl rfl
  have lets := lets_of tk
  have U64 : (A.deeper (envOfC "_law_told" (defScope (top 42)) s.heap.objs.size (fa 24) cdv)).units + 64 < cLine := by have := hr.un; omega
  have U65 : (A.deeper (envOfC "_law_told" (defScope (top 42)) s.heap.objs.size (fa 24) cdv)).units + 65 < cLine := by have := hr.un; omega
  have U200 : (A.deeper (envOfC "_law_told" (defScope (top 42)) s.heap.objs.size (fa 24) cdv)).units + 200 < cLine := by have := hr.un; omega
  exact (s_cons (s_unp (e_ix (o_n 0) (o_n 1)) (g_t rfl (gs_cons (g_n sc24.nd rfl (by first | exact Or.inl rfl | exact Or.inr rfl)) (gs_cons (g_n sc24.nd rfl (by first | exact Or.inl rfl | exact Or.inr rfl)) gs_nil))))
    (s_cons (s_setLc (own := [("_law_k", 8)]) rfl sc24.nd (i := 5) rfl rfl rfl (by decide) (i_rng rfl F.g_range (e_var 4)) (blkOk_by (N := N24) (sc := defScope (top 42)) (by decide +kernel)) (fun _ _ _ _ _ b18 h18 => (g_n sc24.nd rfl (by first | exact Or.inl rfl | exact Or.inr rfl))) (fun _ _ _ _ _ b18 h18 => ts_nil) (fun _ _ _ _ _ b18 h18 => (e_tup (as_cons e_int (as_cons (e_op op_addD os_add (o_n 3) (o_n 8)) as_nil)))))
    (s_cons (s_for pas rfl (i_enum rfl F.g_enumerate (e_var 2)) (g_t rfl (gs_cons (g_n sc24.nd rfl (by first | exact Or.inl rfl | exact Or.inr rfl)) (gs_cons (g_n sc24.nd rfl (by first | exact Or.inl rfl | exact Or.inr rfl)) gs_nil)))
    (s_one (s_set (i := 5) sc24.nd rfl (by first | exact Or.inl rfl | exact Or.inr rfl) (e_op op_addD os_add (o_n 5) (e_lc (own := [("_law_k", 8)]) rfl sc24.nd (by decide) (i_rng rfl F.g_range (e_ix (e_ix (o_n 0) (o_n 7)) e_int)) (blkOk_by (N := N24) (sc := defScope (top 42)) (by decide +kernel)) (fun _ _ _ _ _ b19 h19 => (g_n sc24.nd rfl (by first | exact Or.inl rfl | exact Or.inr rfl))) (fun _ _ _ _ _ b19 h19 => ts_nil) (fun _ _ _ _ _ b19 h19 => (e_tup (as_cons (e_op op_addD os_add (o_n 6) e_int) (as_cons (e_var 8) as_nil)))))))))
    (s_one (s_ret (e_move 5))))))
theorem st25 {n : Nat} (F : Facts K w mg cl fa dd fd) (ih : ∀ i, i < 33 → Ok P w K mg base cl fa fd n i) : Ok P w K mg base cl fa fd (n + 1) 25 := by
  refine fn_body (N := N25) (fb := fb25 (sem n)) F.f25 sc25 fun cdv A outer s H E b gd hr hcl => ?_
  have pas := passes_of (X := cxOf (L2.CX P w) P w K mg base N25 "_law_names" (defScope (top 43)) (fa 25) cdv A outer s H E) rfl
  have tk := takes_of (X := cxOf (L2.CX P w) P w K mg base N25 "_law_names" (defScope (top 43)) (fa 25) cdv A outer s H E) (E := E) rfl rfl rfl rfl
  have lets := lets_of tk
  have U64 : (A.deeper (envOfC "_law_names" (defScope (top 43)) s.heap.objs.size (fa 25) cdv)).units + 64 < cLine := by have := hr.un; omega
  have U65 : (A.deeper (envOfC "_law_names" (defScope (top 43)) s.heap.objs.size (fa 25) cdv)).units + 65 < cLine := by have := hr.un; omega
  have U200 : (A.deeper (envOfC "_law_names" (defScope (top 43)) s.heap.objs.size (fa 25) cdv)).units + 200 < cLine := by have := hr.un; omega
  exact (s_cons (s_set (i := 4) sc25.nd rfl (by first | exact Or.inl rfl | exact Or.inr rfl) (e_lst as_nil))
    (s_cons (s_for pas rfl (i_enum rfl F.g_enumerate (e_op op_addD os_add (e_tup (as_cons (e_var 1) as_nil)) (o_n 2))) (g_t rfl (gs_cons (g_n sc25.nd rfl (by first | exact Or.inl rfl | exact Or.inr rfl)) (gs_cons (g_n sc25.nd rfl (by first | exact Or.inl rfl | exact Or.inr rfl)) gs_nil)))
    (s_one (s_set (i := 4) sc25.nd rfl (by first | exact Or.inl rfl | exact Or.inr rfl) (e_op op_addD os_add (o_n 4) (e_lc (own := [("_law_k", 8)]) rfl sc25.nd (by decide) (i_rng rfl F.g_range (e_callB (cr_sumT rfl) cs_sumT rfl F.g_sum (by decide +kernel) (e_ix (o_n 0) (o_n 6)))) (blkOk_by (N := N25) (sc := defScope (top 43)) (by decide +kernel)) (fun _ _ _ _ _ b20 h20 => (g_n sc25.nd rfl (by first | exact Or.inl rfl | exact Or.inr rfl))) (fun _ _ _ _ _ b20 h20 => ts_nil) (fun _ _ _ _ _ b20 h20 => (e_tup (as_cons (e_var 5) (as_cons (e_var 8) as_nil)))))))))
    (s_cons (s_if (t_val (e_var 3))
    (s_one (s_ret (e_move 4)))
    s_nil)
    (s_cons (s_set (i := 7) sc25.nd rfl (by first | exact Or.inl rfl | exact Or.inr rfl) (e_call hcl (ih 24 (by decide)) gd hr rfl F.m24 F.f24.kp F.b24 lets (ar_v (e_var 0) (ar_v (e_var 1) (ar_v (e_var 2) ar_nil)))))
    (s_one (s_ret (e_lc (own := [("_law_name", 9)]) rfl sc25.nd (by decide) (i_seq (e_var 4)) (blkOk_by (N := N25) (sc := defScope (top 43)) (by decide +kernel)) (fun _ _ _ _ _ b21 h21 => (g_n sc25.nd rfl (by first | exact Or.inl rfl | exact Or.inr rfl))) (fun _ _ _ _ _ b21 h21 => (ts_one (t_cmp (op_ninA U65) os_nin (o_n 9) (o_n 7)))) (fun _ _ _ _ _ b21 h21 => (e_var 9)))))))))
theorem st26 {n : Nat} (F : Facts K w mg cl fa dd fd) (ih : ∀ i, i < 33 → Ok P w K mg base cl fa fd n i) : Ok P w K mg base cl fa fd (n + 1) 26 := by
  refine fn_body (N := N26) (fb := fb26 (sem n)) F.f26 sc26 fun cdv A outer s H E b gd hr hcl => ?_
  have pas := passes_of (X := cxOf (L2.CX P w) P w K mg base N26 "_law_rule" (defScope (top 44)) (fa 26) cdv A outer s H E) rfl
  have tk := takes_of (X := cxOf (L2.CX P w) P w K mg base N26 "_law_rule" (defScope (top 44)) (fa 26) cdv A outer s H E) (E := E) rfl rfl rfl rfl
  have lets := lets_of tk
  have U64 : (A.deeper (envOfC "_law_rule" (defScope (top 44)) s.heap.objs.size (fa 26) cdv)).units + 64 < cLine := by have := hr.un; omega
  have U65 : (A.deeper (envOfC "_law_rule" (defScope (top 44)) s.heap.objs.size (fa 26) cdv)).units + 65 < cLine := by have := hr.un; omega
  have U200 : (A.deeper (envOfC "_law_rule" (defScope (top 44)) s.heap.objs.size (fa 26) cdv)).units + 200 < cLine := by have := hr.un; omega
  exact (s_cons (s_set (i := 5) sc26.nd rfl (by first | exact Or.inl rfl | exact Or.inr rfl) (e_callTy call_tuple_of cs_tuple rfl F.g_tuple (by decide +kernel) (e_lc (own := [("_law_k", 7)]) rfl sc26.nd (by decide) (i_rng rfl F.g_range (e_call hcl (ih 22 (by decide)) gd hr rfl F.m22 F.f22.kp F.b22 lets (ar_r (o_n (b := b) (W := W0) 0) (ar_v (e_op op_addD os_add (o_n 3) e_int) ar_nil)))) (blkOk_by (N := N26) (sc := defScope (top 44)) (by decide +kernel)) (fun _ _ _ _ _ b22 h22 => (g_n sc26.nd rfl (by first | exact Or.inl rfl | exact Or.inr rfl))) (fun _ _ _ _ _ b22 h22 => ts_nil) (fun _ _ _ _ _ b22 h22 => (e_call (h22.trans hcl) (ih 22 (by decide)) gd hr rfl F.m22 F.f22.kp F.b22 lets0 (ar_r (o_n (b := b22) (W := W0) 0) (ar_v (e_callB call_len cs_len rfl F.g_len boot_len (o_n 1)) ar_nil)))))))
    (s_cons (s_set (i := 6) sc26.nd rfl (by first | exact Or.inl rfl | exact Or.inr rfl) (e_call hcl (ih 25 (by decide)) gd hr rfl F.m25 F.f25.kp F.b25 lets (ar_v (e_var 1) (ar_v (e_var 2) (ar_v (e_var 5) (ar_v (e_var 4) ar_nil))))))
    (s_one (s_ret (e_tup (as_cons (e_var 2) (as_cons (e_var 5) (as_cons (e_lc (own := [("_law_name", 8)]) rfl sc26.nd (by decide) (i_seq (e_call hcl (ih 24 (by decide)) gd hr rfl F.m24 F.f24.kp F.b24 lets (ar_v (e_var 1) (ar_v (e_var 2) (ar_v (e_var 5) ar_nil))))) (blkOk_by (N := N26) (sc := defScope (top 44)) (by decide +kernel)) (fun _ _ _ _ _ b23 h23 => (g_n sc26.nd rfl (by first | exact Or.inl rfl | exact Or.inr rfl))) (fun _ _ _ _ _ b23 h23 => ts_nil) (fun _ _ _ _ _ b23 h23 => (e_call (h23.trans hcl) (ih 23 (by decide)) gd hr rfl F.m23 F.f23.kp F.b23 lets0 (ar_r (o_n (b := b23) (W := W0) 0) (ar_v (e_var 6) (ar_v e_int ar_nil)))))) as_nil))))))))
theorem st27 {n : Nat} (F : Facts K w mg cl fa dd fd) (ih : ∀ i, i < 33 → Ok P w K mg base cl fa fd n i) : Ok P w K mg base cl fa fd (n + 1) 27 := by
  refine fn_body (N := N27) (fb := fb27 (sem n)) F.f27 sc27 fun cdv A outer s H E b gd hr hcl => ?_
  have pas := passes_of (X := cxOf (L2.CX P w) P w K mg base N27 "_law_book" (defScope (top 45)) (fa 27) cdv A outer s H E) rfl
  have tk := takes_of (X := cxOf (L2.CX P w) P w K mg base N27 "_law_book" (defScope (top 45)) (fa 27) cdv A outer s H E) (E := E) rfl rfl rfl rfl
  have lets := lets_of tk
  have U64 : (A.deeper (envOfC "_law_book" (defScope (top 45)) s.heap.objs.size (fa 27) cdv)).units + 64 < cLine := by have := hr.un; omega
  have U65 : (A.deeper (envOfC "_law_book" (defScope (top 45)) s.heap.objs.size (fa 27) cdv)).units + 65 < cLine := by have := hr.un; omega
  have U200 : (A.deeper (envOfC "_law_book" (defScope (top 45)) s.heap.objs.size (fa 27) cdv)).units + 200 < cLine := by have := hr.un; omega
  exact (s_cons (s_set (i := 2) sc27.nd rfl (by first | exact Or.inl rfl | exact Or.inr rfl) (e_lst (as_cons (e_call hcl (ih 21 (by decide)) gd hr rfl F.m21 F.f21.kp F.b21 lets (ar_v (e_var 0) (ar_v (e_var 1) ar_nil))) as_nil)))
    (s_cons (s_setLc (own := [("_law_k", 7)]) rfl sc27.nd (i := 3) rfl rfl rfl (by decide) (i_rng rfl F.g_range (e_op op_addD os_add e_int (e_call hcl (ih 22 (by decide)) gd hr rfl F.m22 F.f22.kp F.b22 lets (ar_r (o_n (b := b) (W := W0) 2) (ar_v e_int ar_nil))))) (blkOk_by (N := N27) (sc := defScope (top 45)) (by decide +kernel)) (fun _ _ _ _ _ b24 h24 => (g_n sc27.nd rfl (by first | exact Or.inl rfl | exact Or.inr rfl))) (fun _ _ _ _ _ b24 h24 => ts_nil) (fun _ _ _ _ _ b24 h24 => (e_tup (as_cons (e_call (h24.trans hcl) (ih 22 (by decide)) gd hr rfl F.m22 F.f22.kp F.b22 lets0 (ar_r (o_n (b := b24) (W := W0) 2) (ar_v e_int ar_nil))) (as_cons (e_call (h24.trans hcl) (ih 22 (by decide)) gd hr rfl F.m22 F.f22.kp F.b22 lets0 (ar_r (o_n (b := b24) (W := W0) 2) (ar_v e_int ar_nil))) as_nil)))))
    (s_cons (s_set (i := 4) sc27.nd rfl (by first | exact Or.inl rfl | exact Or.inr rfl) (e_cmp op_gt os_gt (e_call hcl (ih 22 (by decide)) gd hr rfl F.m22 F.f22.kp F.b22 lets (ar_r (o_n (b := b) (W := W0) 2) (ar_v e_int ar_nil))) e_int))
    (s_cons (s_set (i := 5) sc27.nd rfl (by first | exact Or.inl rfl | exact Or.inr rfl) (e_cmp (op_eqD2 U64) os_eq (e_call hcl (ih 22 (by decide)) gd hr rfl F.m22 F.f22.kp F.b22 lets (ar_r (o_n (b := b) (W := W0) 2) (ar_v e_int ar_nil))) e_int))
    (s_cons (s_set (i := 6) sc27.nd rfl (by first | exact Or.inl rfl | exact Or.inr rfl) (e_lst as_nil))
    (s_cons (s_for pas rfl (i_rng rfl F.g_range (e_call hcl (ih 22 (by decide)) gd hr rfl F.m22 F.f22.kp F.b22 lets (ar_r (o_n (b := b) (W := W0) 2) (ar_v e_int ar_nil)))) (g_n sc27.nd rfl (by first | exact Or.inl rfl | exact Or.inr rfl))
    (s_cons (s_set (i := 8) sc27.nd rfl (by first | exact Or.inl rfl | exact Or.inr rfl) (e_lst (as_cons (e_call hcl (ih 21 (by decide)) gd hr rfl F.m21 F.f21.kp F.b21 lets (ar_v (e_var 0) (ar_v (e_op op_addD os_add (e_op op_addD os_add (o_n 1) e_int) (o_n 7)) ar_nil))) as_nil)))
    (s_cons (s_set (i := 9) sc27.nd rfl (by first | exact Or.inl rfl | exact Or.inr rfl) (e_call hcl (ih 22 (by decide)) gd hr rfl F.m22 F.f22.kp F.b22 lets (ar_r (o_n (b := b) (W := W0) 8) (ar_v (e_callB call_len cs_len rfl F.g_len boot_len (o_n 3)) ar_nil))))
    (s_cons (s_set (i := 10) sc27.nd rfl (by first | exact Or.inl rfl | exact Or.inr rfl) e_int)
    (s_cons (s_if (t_pw (w_and (t_val (e_var 4)) (w_and1 (t_cmp op_lt os_lt (o_n 7) (e_callB call_len cs_len rfl F.g_len boot_len (o_n 3))))))
    (s_cons (s_set (i := 9) sc27.nd rfl (by first | exact Or.inl rfl | exact Or.inr rfl) (e_var 7))
    (s_one (s_set (i := 10) sc27.nd rfl (by first | exact Or.inl rfl | exact Or.inr rfl) e_int)))
    s_nil)
    (s_one (s_append (e_call hcl (ih 26 (by decide)) gd hr rfl F.m26 F.f26.kp F.b26 lets (ar_r (o_n (b := b) (W := W0) 8) (ar_v (e_var 3) (ar_v (e_var 9) (ar_v (e_var 10) (ar_v (e_var 5) ar_nil)))))) (o_n (b := b) (W := W0) 6))))))))
    (s_one (s_ret (e_tup (as_cons (e_var 3) (as_cons (e_var 6) as_nil)))))))))))
theorem st28 {n : Nat} (F : Facts K w mg cl fa dd fd) (ih : ∀ i, i < 33 → Ok P w K mg base cl fa fd n i) : Ok P w K mg base cl fa fd (n + 1) 28 := by
  refine fn_body (N := N28) (fb := fb28 (sem n)) F.f28 sc28 fun cdv A outer s H E b gd hr hcl => ?_
  have pas := passes_of (X := cxOf (L2.CX P w) P w K mg base N28 "_law_copy" (defScope (top 46)) (fa 28) cdv A outer s H E) rfl
  have tk := takes_of (X := cxOf (L2.CX P w) P w K mg base N28 "_law_copy" (defScope (top 46)) (fa 28) cdv A outer s H E) (E := E) rfl rfl rfl rfl
  have lets := lets_of tk
  have U64 : (A.deeper (envOfC "_law_copy" (defScope (top 46)) s.heap.objs.size (fa 28) cdv)).units + 64 < cLine := by have := hr.un; omega
  have U65 : (A.deeper (envOfC "_law_copy" (defScope (top 46)) s.heap.objs.size (fa 28) cdv)).units + 65 < cLine := by have := hr.un; omega
  have U200 : (A.deeper (envOfC "_law_copy" (defScope (top 46)) s.heap.objs.size (fa 28) cdv)).units + 200 < cLine := by have := hr.un; omega
  exact (s_one (s_ret (e_tup (as_cons (e_callTy call_list_of cs_list rfl F.g_list (by decide +kernel) (e_ix (o_n 0) e_int)) (as_cons (e_lc (own := [("_law_sign", 1), ("_law_parts", 2), ("_law_makings", 3)]) rfl sc28.nd (by decide) (i_seq (e_ix (o_n 0) e_int)) (blkOk_by (N := N28) (sc := defScope (top 46)) (by decide +kernel)) (fun _ _ _ _ _ b25 h25 => (g_t rfl (gs_cons (g_n sc28.nd rfl (by first | exact Or.inl rfl | exact Or.inr rfl)) (gs_cons (g_n sc28.nd rfl (by first | exact Or.inl rfl | exact Or.inr rfl)) (gs_cons (g_n sc28.nd rfl (by first | exact Or.inl rfl | exact Or.inr rfl)) gs_nil))))) (fun _ _ _ _ _ b25 h25 => ts_nil) (fun _ _ _ _ _ b25 h25 => (e_tup (as_cons (e_var 1) (as_cons (e_var 2) (as_cons (e_callTy call_list_of cs_list rfl F.g_list (by decide +kernel) (o_n 3)) as_nil)))))) as_nil)))))
theorem st29 {n : Nat} (F : Facts K w mg cl fa dd fd) (ih : ∀ i, i < 33 → Ok P w K mg base cl fa fd n i) : Ok P w K mg base cl fa fd (n + 1) 29 := by
  refine fn_bodyM (N := N29) (fb := fb29 (sem n)) F.f29 sc29 fun cdv A outer s H E b gd hr hcl hpin0 => ?_
  have hpin : b.pins = [] := by unfold Bx.pins; rw [hpin0]; rfl
  have pas := passes_of (X := cxOf (L2.CX P w) P w K mg base N29 "_law_visits" (defScope (top 47)) (fa 29) cdv A outer s H E) rfl
  have tk := takes_of (X := cxOf (L2.CX P w) P w K mg base N29 "_law_visits" (defScope (top 47)) (fa 29) cdv A outer s H E) (E := E) rfl rfl rfl rfl
  have lets := lets_of tk
  have U64 : (A.deeper (envOfC "_law_visits" (defScope (top 47)) s.heap.objs.size (fa 29) cdv)).units + 64 < cLine := by have := hr.un; omega
  have U65 : (A.deeper (envOfC "_law_visits" (defScope (top 47)) s.heap.objs.size (fa 29) cdv)).units + 65 < cLine := by have := hr.un; omega
  have U200 : (A.deeper (envOfC "_law_visits" (defScope (top 47)) s.heap.objs.size (fa 29) cdv)).units + 200 < cLine := by have := hr.un; omega
  exact (m_cons (m_plain fun m => (s_unp (e_var 1) (g_t rfl (gs_cons (g_n sc29.nd rfl (by first | exact Or.inl rfl | exact Or.inr rfl)) (gs_cons (g_n sc29.nd rfl (by first | exact Or.inl rfl | exact Or.inr rfl)) gs_nil)))))
    (m_cons (m_setLc (own := [("_law_k", 8)]) hpin rfl sc29.nd (i := 4) rfl rfl rfl (by decide) (fun m => (i_rng rfl F.g_range (e_op op_addD os_add (o_n 2) (o_n 3)))) (blkOk_by (N := N29) (sc := defScope (top 47)) (by decide +kernel)) (fun _ _ _ _ _ b26 h26 => (g_n sc29.nd rfl (by first | exact Or.inl rfl | exact Or.inr rfl))) (fun _ _ _ _ _ b26 h26 => ts_nil) (fun _ _ _ _ _ b26 h26 => (me_lst (am_cons (me_plain fun m => (e_lst as_nil)) (fun _ => (am_cons (me_plain fun m => (e_lst as_nil)) (fun _ => am_nil)))))))
    (m_cons (m_for pas rfl (fun m => (i_rng rfl F.g_range (e_op op_addD os_add (o_n 2) (o_n 3)))) (fun m => (g_n sc29.nd rfl (by first | exact Or.inl rfl | exact Or.inr rfl)))
    (m_cons (m_al (j := 6) sc29.nd rfl (by first | exact Or.inl rfl | exact Or.inr rfl) (p_ix (p_nm 4) (fun m => (e_call hcl (ih 22 (by decide)) gd hr rfl F.m22 F.f22.kp F.b22 lets (ar_r (o_n (b := b) (W := W0) 0) (ar_v (e_op op_addD os_add (o_n 2) (o_n 3)) ar_nil))))))
    (m_one (m_append hpin (p_ix (p_nm 6) (fun m => (e_callTy call_intD cs_int rfl F.g_int (by decide +kernel) (e_cmp op_ge os_ge (o_n 5) (o_n 2))))) (fun _ => (me_plain fun m => (e_var 5)))))))
    (m_cons (m_plain fun m => (s_setLcB (own := [("_law_one", 9), ("_law_other", 10)]) rfl sc29.nd (i := 7) rfl rfl rfl (by decide) (fun b27 h27 => (i_seq (e_var 4))) (blkOk_by (N := N29) (sc := defScope (top 47)) (by decide +kernel)) (fun _ _ _ _ _ b28 h28 => (g_t rfl (gs_cons (g_n sc29.nd rfl (by first | exact Or.inl rfl | exact Or.inr rfl)) (gs_cons (g_n sc29.nd rfl (by first | exact Or.inl rfl | exact Or.inr rfl)) gs_nil)))) (fun _ _ _ _ _ b28 h28 => (ts_one (t_cmp (op_neD2 U64) os_ne (e_op op_addD os_add (o_n 9) (o_n 10)) (e_lst as_nil)))) (fun _ _ _ _ _ b28 h28 => (e_tup (as_cons (e_callTy call_tuple_of cs_tuple rfl F.g_tuple (by decide +kernel) (o_n 9)) (as_cons (e_callTy call_tuple_of cs_tuple rfl F.g_tuple (by decide +kernel) (o_n 10)) as_nil))))))
    (m_cons (m_if (fun m => (t_cmp (op_eqD2 U64) os_eq (o_n 7) (e_lst as_nil)))
    (m_one (m_plain fun m => (s_ret (e_lst (as_cons (e_tup (as_cons (e_tup as_nil) (as_cons (e_tup as_nil) as_nil))) as_nil)))))
    (m_plains fun m => s_nil))
    (m_one (m_plain fun m => (s_ret (e_move 7)))))))))
theorem st30 {n : Nat} (F : Facts K w mg cl fa dd fd) (ih : ∀ i, i < 33 → Ok P w K mg base cl fa fd n i) : Ok P w K mg base cl fa fd (n + 1) 30 := by
  refine fn_bodyM (N := N30) (fb := fb30 (sem n)) F.f30 sc30 fun cdv A outer s H E b gd hr hcl hpin0 => ?_
  have hpin : b.pins = [] := by unfold Bx.pins; rw [hpin0]; rfl
  have pas := passes_of (X := cxOf (L2.CX P w) P w K mg base N30 "_law_joined" (defScope (top 48)) (fa 30) cdv A outer s H E) rfl
  have tk := takes_of (X := cxOf (L2.CX P w) P w K mg base N30 "_law_joined" (defScope (top 48)) (fa 30) cdv A outer s H E) (E := E) rfl rfl rfl rfl
  have lets := lets_of tk
  have U64 : (A.deeper (envOfC "_law_joined" (defScope (top 48)) s.heap.objs.size (fa 30) cdv)).units + 64 < cLine := by have := hr.un; omega
  have U65 : (A.deeper (envOfC "_law_joined" (defScope (top 48)) s.heap.objs.size (fa 30) cdv)).units + 65 < cLine := by have := hr.un; omega
  have U200 : (A.deeper (envOfC "_law_joined" (defScope (top 48)) s.heap.objs.size (fa 30) cdv)).units + 200 < cLine := by have := hr.un; omega
  exact (m_cons (m_setLc (own := [("_law_row", 8)]) hpin rfl sc30.nd (i := 3) rfl rfl rfl (by decide) (fun m => (i_seq (e_var 0))) (blkOk_by (N := N30) (sc := defScope (top 48)) (by decide +kernel)) (fun _ _ _ _ _ b29 h29 => (g_n sc30.nd rfl (by first | exact Or.inl rfl | exact Or.inr rfl))) (fun _ _ _ _ _ b29 h29 => ts_nil) (fun _ _ _ _ _ b29 h29 => (me_plain fun m => (e_callTy call_list_of cs_list rfl F.g_list (by decide +kernel) (o_n 8)))))
    (m_cons (m_plain fun m => (s_unp (e_bor fun b30 h30 => (e_ix (e_ix (o_n 3) (o_n 1)) (o_n 2))) (g_t rfl (gs_cons (g_n sc30.nd rfl (by first | exact Or.inl rfl | exact Or.inr rfl)) (gs_cons (g_n sc30.nd rfl (by first | exact Or.inl rfl | exact Or.inr rfl)) gs_nil)))))
    (m_cons (m_unp (me_pop hpin (p_ix (p_nm 3) (fun m => (e_var 1))) (fun m => (e_op op_addD os_add (o_n 2) e_int))) (fun m => (g_t rfl (gs_cons (g_n sc30.nd rfl (by first | exact Or.inl rfl | exact Or.inr rfl)) (gs_cons (g_n sc30.nd rfl (by first | exact Or.inl rfl | exact Or.inr rfl)) gs_nil)))))
    (m_cons (m_setIx hpin (fun m => (e_tup (as_cons (e_callTy call_tuple_of cs_tuple rfl F.g_tuple (by decide +kernel) (e_callB call_srt cs_srt rfl F.g_sorted (by decide +kernel) (e_op op_addD os_add (o_n 4) (o_n 6)))) (as_cons (e_callTy call_tuple_of cs_tuple rfl F.g_tuple (by decide +kernel) (e_callB call_srt cs_srt rfl F.g_sorted (by decide +kernel) (e_op op_addD os_add (o_n 5) (o_n 7)))) as_nil)))) (p_ix (p_nm 3) (fun m => (e_var 1))) (fun m => (e_var 2)) (fun ho hi => pg_sub ho hi set_list))
    (m_one (m_ret (me_mv 3)))))))
theorem st31 {n : Nat} (F : Facts K w mg cl fa dd fd) (ih : ∀ i, i < 33 → Ok P w K mg base cl fa fd n i) : Ok P w K mg base cl fa fd (n + 1) 31 := by
  refine fn_bodyM (N := N31) (fb := fb31 (sem n)) F.f31 sc31 fun cdv A outer s H E b gd hr hcl hpin0 => ?_
  have hpin : b.pins = [] := by unfold Bx.pins; rw [hpin0]; rfl
  have pas := passes_of (X := cxOf (L2.CX P w) P w K mg base N31 "_law_good" (defScope (top 49)) (fa 31) cdv A outer s H E) rfl
  have tk := takes_of (X := cxOf (L2.CX P w) P w K mg base N31 "_law_good" (defScope (top 49)) (fa 31) cdv A outer s H E) (E := E) rfl rfl rfl rfl
  have lets := lets_of tk
  have U64 : (A.deeper (envOfC "_law_good" (defScope (top 49)) s.heap.objs.size (fa 31) cdv)).units + 64 < cLine := by have := hr.un; omega
  have U65 : (A.deeper (envOfC "_law_good" (defScope (top 49)) s.heap.objs.size (fa 31) cdv)).units + 65 < cLine := by have := hr.un; omega
  have U200 : (A.deeper (envOfC "_law_good" (defScope (top 49)) s.heap.objs.size (fa 31) cdv)).units + 200 < cLine := by have := hr.un; omega
  exact (m_cons (m_plain fun m => (s_set (i := 4) sc31.nd rfl (by first | exact Or.inl rfl | exact Or.inr rfl) (e_call hcl (ih 30 (by decide)) gd hr rfl F.m30 F.f30.kp F.b30 lets (ar_v (e_var 1) (ar_v (e_var 2) (ar_v (e_var 3) ar_nil))))))
    (m_cons (m_for pas rfl (fun m => (i_rng rfl F.g_range e_int)) (fun m => (g_n sc31.nd rfl (by first | exact Or.inl rfl | exact Or.inr rfl)))
    (m_cons (m_set (i := 6) hpin sc31.nd rfl (by first | exact Or.inl rfl | exact Or.inr rfl) (me_call hcl (ih 19 (by decide)) gd hr rfl F.m19 F.f19.kp F.b19 lets (fun m => (ar_v (e_var 0) (ar_v (e_var 1) (ar_v (e_var 2) (ar_v (e_var 3) ar_nil)))))))
    (m_cons (m_if (fun m => (t_bor fun b31 h31 => (t_pw (w_or (t_not (t_val (e_isN (h31.trans hcl) isT_list isEx_none rfl F.g_isinstance (o_n (b := b31) (W := W0) 6) (pe_bltn (v := .ty "list") (u := .type "list") rfl F.g_list (by decide +kernel) rfl) (.ty "list")))) (w_or1 (t_cmp (op_neD2 U64) os_ne (e_callB (call_reprD gd U200) cs_repr rfl F.g_repr (by decide +kernel) (o_n 6)) (e_callB (call_reprD gd U200) cs_repr rfl F.g_repr (by decide +kernel) (o_n 4))))))))
    (m_one (m_plain fun m => (s_ret e_bl)))
    (m_plains fun m => s_nil))
    (m_cons (m_for pas rfl (fun m => (i_rng rfl F.g_range (e_bor fun b32 h32 => (e_callB call_len cs_len rfl F.g_len boot_len (o_n 6))))) (fun m => (g_n sc31.nd rfl (by first | exact Or.inl rfl | exact Or.inr rfl)))
    (m_cons (m_clear hpin (p_ix (p_nm 6) (fun m => (e_var 7))))
    (m_one (m_if (fun m => (t_bor fun b33 h33 => (t_cmp (op_neD2 U64) os_ne (e_sl (o_n 6) (pr_e (e_op op_addD os_add (o_n 7) e_int)) pr_no) (e_sl (o_n 4) (pr_e (e_op op_addD os_add (o_n 7) e_int)) pr_no))))
    (m_one (m_plain fun m => (s_ret e_bl)))
    (m_plains fun m => s_nil)))))
    (m_one (m_clear hpin (p_nm 6)))))))
    (m_one (m_plain fun m => (s_ret e_bl)))))
theorem st32 {n : Nat} (F : Facts K w mg cl fa dd fd) (ih : ∀ i, i < 33 → Ok P w K mg base cl fa fd n i) : Ok P w K mg base cl fa fd (n + 1) 32 := by
  refine fn_body (N := N32) (fb := fb32 (sem n)) F.f32 sc32 fun cdv A outer s H E b gd hr hcl => ?_
  have pas := passes_of (X := cxOf (L2.CX P w) P w K mg base N32 "law" (defScope (top 50)) (fa 32) cdv A outer s H E) rfl
  have tk := takes_of (X := cxOf (L2.CX P w) P w K mg base N32 "law" (defScope (top 50)) (fa 32) cdv A outer s H E) (E := E) rfl rfl rfl rfl
  have lets := lets_of tk
  have U64 : (A.deeper (envOfC "law" (defScope (top 50)) s.heap.objs.size (fa 32) cdv)).units + 64 < cLine := by have := hr.un; omega
  have U65 : (A.deeper (envOfC "law" (defScope (top 50)) s.heap.objs.size (fa 32) cdv)).units + 65 < cLine := by have := hr.un; omega
  have U200 : (A.deeper (envOfC "law" (defScope (top 50)) s.heap.objs.size (fa 32) cdv)).units + 200 < cLine := by have := hr.un; omega
  exact (s_cons (s_set (i := 1) sc32.nd rfl (by first | exact Or.inl rfl | exact Or.inr rfl) (e_call hcl (ih 27 (by decide)) gd hr rfl F.m27 F.f27.kp F.b27 lets (ar_v (e_var 0) (ar_v e_int ar_nil))))
    (s_cons (s_set (i := 2) sc32.nd rfl (by first | exact Or.inl rfl | exact Or.inr rfl) (e_call hcl (ih 28 (by decide)) gd hr rfl F.m28 F.f28.kp F.b28 lets (ar_v (e_var 1) ar_nil)))
    (s_cons (s_for pas rfl (i_rng rfl F.g_range (e_callB2 (call_max2 rfl) cs_max rfl F.g_max (by decide +kernel) (e_callB2 (call_min2 rfl) cs_min rfl F.g_min (by decide +kernel) (e_op L2.op_sub os_sub (e_lenF rfl F.g_len (o_n (b := b) (W := W0) 0)) e_int) e_int) e_int)) (g_n sc32.nd rfl (by first | exact Or.inl rfl | exact Or.inr rfl))
    (s_cons (s_set (i := 4) sc32.nd rfl (by first | exact Or.inl rfl | exact Or.inr rfl) (e_lst (as_cons (e_call hcl (ih 21 (by decide)) gd hr rfl F.m21 F.f21.kp F.b21 lets (ar_v (e_var 0) (ar_v (e_op op_addD os_add e_int (o_n 3)) ar_nil))) as_nil)))
    (s_cons (s_set (i := 5) sc32.nd rfl (by first | exact Or.inl rfl | exact Or.inr rfl) (e_lc (own := [("_law_sign", 7)]) rfl sc32.nd (by decide) (i_seq (e_ix (o_n 1) e_int)) (blkOk_by (N := N32) (sc := defScope (top 50)) (by decide +kernel)) (fun _ _ _ _ _ b34 h34 => (g_n sc32.nd rfl (by first | exact Or.inl rfl | exact Or.inr rfl))) (fun _ _ _ _ _ b34 h34 => ts_nil) (fun _ _ _ _ _ b34 h34 => (e_call (h34.trans hcl) (ih 29 (by decide)) gd hr rfl F.m29 F.f29.kp F.b29 lets0 (ar_r (o_n (b := b34) (W := W0) 4) (ar_v (e_var 7) ar_nil))))))
    (s_cons (s_set (i := 6) sc32.nd rfl (by first | exact Or.inl rfl | exact Or.inr rfl) (e_callB (call_reprD gd U200) cs_repr rfl F.g_repr (by decide +kernel) (o_n 5)))
    (s_cons (s_for pas rfl (i_rng rfl F.g_range (e_callB call_len cs_len rfl F.g_len boot_len (o_n 5))) (g_n sc32.nd rfl (by first | exact Or.inl rfl | exact Or.inr rfl))
    (s_one (s_for pas rfl (i_rng rfl F.g_range (e_op L2.op_sub os_sub (e_callB call_len cs_len rfl F.g_len boot_len (e_ix (o_n 5) (o_n 7))) e_int)) (g_n sc32.nd rfl (by first | exact Or.inl rfl | exact Or.inr rfl))
    (s_cons (s_set (i := 9) sc32.nd rfl (by first | exact Or.inl rfl | exact Or.inr rfl) (e_lc (own := [("_law_other", 11)]) rfl sc32.nd (by decide) (i_rng rfl F.g_range (e_callB call_len cs_len rfl F.g_len boot_len (o_n 5))) (blkOk_by (N := N32) (sc := defScope (top 50)) (by decide +kernel)) (fun _ _ _ _ _ b35 h35 => (g_n sc32.nd rfl (by first | exact Or.inl rfl | exact Or.inr rfl))) (fun _ _ _ _ _ b35 h35 => (ts_one (t_cmp (op_eqD2 U64) os_eq (e_ix (e_ix (o_n 1) e_int) (o_n 11)) (e_ix (e_ix (o_n 1) e_int) (o_n 7))))) (fun _ _ _ _ _ b35 h35 => (e_var 11))))
    (s_cons (s_setLc (own := [("_law_other", 11)]) rfl sc32.nd (i := 10) rfl rfl rfl (by decide) (i_rng rfl F.g_range (e_callB call_len cs_len rfl F.g_len boot_len (o_n 5))) (blkOk_by (N := N32) (sc := defScope (top 50)) (by decide +kernel)) (fun _ _ _ _ _ b36 h36 => (g_n sc32.nd rfl (by first | exact Or.inl rfl | exact Or.inr rfl))) (fun _ _ _ _ _ b36 h36 => ts_nil) (fun _ _ _ _ _ b36 h36 => (e_ix (o_n 5) (e_ix (e_lst (as_cons (e_var 11) (as_cons (e_var 7) as_nil))) (e_callTy call_intD cs_int rfl F.g_int (by decide +kernel) (e_cmp (op_inA U65) os_in (o_n 11) (o_n 9)))))))
    (s_one (s_if (t_pw (w_or (t_not (t_val (e_call hcl (ih 31 (by decide)) gd hr rfl F.m31 F.f31.kp F.b31 lets (ar_v (e_var 1) (ar_v (e_var 5) (ar_v (e_var 7) (ar_v (e_var 8) ar_nil))))))) (w_or1 (t_not (t_val (e_call hcl (ih 31 (by decide)) gd hr rfl F.m31 F.f31.kp F.b31 lets (ar_v (e_var 1) (ar_v (e_var 10) (ar_v (e_var 7) (ar_v (e_var 8) ar_nil))))))))))
    (s_one (s_ret e_bl))
    s_nil)))))))
    (s_one (s_if (t_cmp (op_neD2 U64) os_ne (e_callB (call_reprD gd U200) cs_repr rfl F.g_repr (by decide +kernel) (o_n 5)) (o_n 6))
    (s_one (s_ret e_bl))
    s_nil)))))))
    (s_one (s_ret (e_cmp (op_eqD2 U64) os_eq (o_n 1) (o_n 2)))))))
theorem all (F : Facts K w mg cl fa dd fd) : ∀ n i, i < 33 → Ok P w K mg base cl fa fd n i
  | 0, _, _ => fn_zero
  | n + 1, i, h => by
    have ih := all F n
    match i, h with
    | 0, _ => exact st0 F ih
    | 1, _ => exact st1 F ih
    | 2, _ => exact st2 F ih
    | 3, _ => exact st3 F ih
    | 4, _ => exact st4 F ih
    | 5, _ => exact st5 F ih
    | 6, _ => exact st6 F ih
    | 7, _ => exact st7 F ih
    | 8, _ => exact st8 F ih
    | 9, _ => exact st9 F ih
    | 10, _ => exact st10 F ih
    | 11, _ => exact st11 F ih
    | 12, _ => exact st12 F ih
    | 13, _ => exact st13 F ih
    | 14, _ => exact st14 F ih
    | 15, _ => exact st15 F ih
    | 16, _ => exact st16 F ih
    | 17, _ => exact st17 F ih
    | 18, _ => exact st18 F ih
    | 19, _ => exact st19 F ih
    | 20, _ => exact st20 F ih
    | 21, _ => exact st21 F ih
    | 22, _ => exact st22 F ih
    | 23, _ => exact st23 F ih
    | 24, _ => exact st24 F ih
    | 25, _ => exact st25 F ih
    | 26, _ => exact st26 F ih
    | 27, _ => exact st27 F ih
    | 28, _ => exact st28 F ih
    | 29, _ => exact st29 F ih
    | 30, _ => exact st30 F ih
    | 31, _ => exact st31 F ih
    | 32, _ => exact st32 F ih
    | k + 33, h => omega
end
end K88
set_option maxHeartbeats 4000000
set_option exponentiation.threshold 10000
namespace K88
open Dl PySem
def lwI (n : Nat) : Ev → RS := (fSeq (fSet 9 (fLc (fun ρ => RI.of ((fUn lenD (.n 5)) ρ) kRng) [11] (.n 11) (fTest (fOp eqD (.e (fOp ixD (.e (fOp ixD (.n 1) (.e (fC (.int 0))))) (.n 11))) (.e (fOp ixD (.e (fOp ixD (.n 1) (.e (fC (.int 0))))) (.n 7))))) (fVar 11)))
    (fSeq (fSet 10 (fLc (fun ρ => RI.of ((fUn lenD (.n 5)) ρ) kRng) [11] (.n 11) fYes (fOp ixD (.n 5) (.e (fOp ixD (.e (fLst [(fVar 11), (fVar 7)])) (.e (fUn intD (.e (fOp inD (.n 11) (.n 9))))))))))
    (fIf (fOrT (fNotT (fTest (fCall (sem n 31) [.v (fVar 1), .v (fVar 5), .v (fVar 7), .v (fVar 8)]))) (fNotT (fTest (fCall (sem n 31) [.v (fVar 1), .v (fVar 10), .v (fVar 7), .v (fVar 8)]))))
    (fRet (fC (.bool false)))
    fSkip)))
def lwJ (n : Nat) : Ev → RS := (fFor (fun ρ => RI.of ((fOp subD (.e (fUn lenD (.e (fOp ixD (.n 5) (.n 7))))) (.e (fC (.int 1)))) ρ) kRng) (.n 8) (lwI n))
def lwB (n : Nat) : Ev → RS := (fSeq (fSet 4 (fLst [(fCall (sem n 21) [.v (fVar 0), .v (fOp addD (.e (fC (.int 9))) (.n 3))])]))
    (fSeq (fSet 5 (fLc (fun ρ => RI.of ((fOp ixD (.n 1) (.e (fC (.int 0)))) ρ) kSeq) [7] (.n 7) fYes (fCall (sem n 29) [.r 4, .v (fVar 7)])))
    (fSeq (fSet 6 (fUn reprD (.n 5)))
    (fSeq (fFor (fun ρ => RI.of ((fUn lenD (.n 5)) ρ) kRng) (.n 7) (lwJ n))
    (fIf (fTest (fOp neD (.e (fUn reprD (.n 5))) (.n 6)))
    (fRet (fC (.bool false)))
    fSkip)))))
theorem fb32_eq (n : Nat) : fb32 (sem n) = (fSeq (fSet 1 (fCall (sem n 27) [.v (fVar 0), .v (fC (.int 0))]))
    (fSeq (fSet 2 (fCall (sem n 28) [.v (fVar 1)]))
    (fSeq (fFor (fun ρ => RI.of ((fOp maxD (.e (fOp minD (.e (fOp subD (.e (fLenF 0)) (.e (fC (.int 9))))) (.e (fC (.int 6))))) (.e (fC (.int 1)))) ρ) kRng) (.n 3) (lwB n))
    (fRet (fOp eqD (.n 1) (.n 2)))))) := rfl
theorem up_iD (n : Nat) : upFrom 0 n = (List.range n).map iD := by
  rw [upI_D]
  unfold upI
  rw [List.map_map]
  exact List.map_congr_left fun x _ => by simp [iD]
theorem alike_lc {x0 x2 x3 x4 x5 x6 x8 x9 x10 : Option Sv} {sg : List (Nat × Nat)} {rs : D} {c : Nat} (hc : c < sg.length) :
    lcL [11] (.n 11) (fTest (fOp eqD (.e (fOp ixD (.e (fOp ixD (.n 1) (.e (fC (.int 0))))) (.n 11))) (.e (fOp ixD (.e (fOp ixD (.n 1) (.e (fC (.int 0))))) (.n 7))))) (fVar 11) (upFrom 0 sg.length) [x0, some (.d (.tuple [.list (sg.map pD), rs])), x2, x3, x4, x5, x6, some (.d (.int (c : Nat))), x8, x9, x10, none] =
      some ((alike sg c).map iD, [x0, some (.d (.tuple [.list (sg.map pD), rs])), x2, x3, x4, x5, x6, some (.d (.int (c : Nat))), x8, x9, x10, none]) := by
  rw [up_iD]
  unfold alike
  refine lc_filter fun i hi => ?_
  have hi := List.mem_range.mp hi
  have a1 := at_sg hi
  have a2 := at_sg hc
  have e := eq_pD (gt sg i) (gt sg c)
  unfold pD at e
  refine ⟨[x0, some (.d (.tuple [.list (sg.map pD), rs])), x2, x3, x4, x5, x6, some (.d (.int (c : Nat))), x8, x9, x10, some (.d (.int (i : Nat)))], [x0, some (.d (.tuple [.list (sg.map pD), rs])), x2, x3, x4, x5, x6, some (.d (.int (c : Nat))), x8, x9, x10, some (.d (.int (i : Nat)))], rfl, ?_, rfl, fun _ => ⟨[x0, some (.d (.tuple [.list (sg.map pD), rs])), x2, x3, x4, x5, x6, some (.d (.int (c : Nat))), x8, x9, x10, some (.d (.int (i : Nat)))], .d (iD i), ?_, rfl, rfl⟩⟩
  · simp_arith [a1, a2, e]
  · simp_arith []
    rfl
theorem twin_lc {x0 x1 x2 x3 x4 x6 x8 x10 : Option Sv} {sg : List (Nat × Nat)} {V : List (List Vi)} {s5 : Sv} {c : Nat} (h : GVs sg V) (hc : c < sg.length) (hs : sg.length ≤ 4) (h5 : s5 = .ow (V.map rowD) ∨ s5 = .d (bkV V)) :
    lcL [11] (.n 11) fYes (fOp ixD (.n 5) (.e (fOp ixD (.e (fLst [(fVar 11), (fVar 7)])) (.e (fUn intD (.e (fOp inD (.n 11) (.n 9)))))))) (upFrom 0 sg.length) [x0, x1, x2, x3, x4, some s5, x6, some (.d (.int (c : Nat))), x8, some (.ow ((alike sg c).map iD)), x10, none] =
      some ((twin sg V c).map rowD, [x0, x1, x2, x3, x4, some s5, x6, some (.d (.int (c : Nat))), x8, some (.ow ((alike sg c).map iD)), x10, none]) := by
  have hl := h.len
  rw [up_iD]
  unfold twin
  rw [List.map_map]
  refine lc_mapT fun i hi => ?_
  have hi := List.mem_range.mp hi
  have e1 := in_iD (i := i) (l := alike sg c) (by omega) fun x hx => by have := List.mem_range.mp (List.mem_filter.mp hx).1; omega
  obtain ⟨rc, hrc⟩ : ∃ r, V[c]? = some r := ⟨_, List.getElem?_eq_getElem (by omega)⟩
  obtain ⟨ri, hri⟩ : ∃ r, V[i]? = some r := ⟨_, List.getElem?_eq_getElem (by omega)⟩
  have b1 := atI_at (l := V.map rowD) (k := c) (i := (c : Nat)) rfl (x := rowD rc) (by rw [List.getElem?_map, hrc]; rfl)
  have b2 := atI_at (l := V.map rowD) (k := i) (i := (i : Nat)) rfl (x := rowD ri) (by rw [List.getElem?_map, hri]; rfl)
  have ib : ∀ b : Bool, intD (.bool b) = some (.d (.int (if b then 1 else 0))) := fun _ => rfl
  have z0 : ∀ a b : D, L2.atI [a, b] 0 = some a := fun _ _ => rfl
  have z1 : ∀ a b : D, L2.atI [a, b] 1 = some b := fun _ _ => rfl
  refine ⟨[x0, x1, x2, x3, x4, some s5, x6, some (.d (.int (c : Nat))), x8, some (.ow ((alike sg c).map iD)), x10, some (.d (.int (i : Nat)))], [x0, x1, x2, x3, x4, some s5, x6, some (.d (.int (c : Nat))), x8, some (.ow ((alike sg c).map iD)), x10, some (.d (.int (i : Nat)))], .d (rowD (V.getD (if i ∈ alike sg c then c else i) [])), rfl, ?_, rfl, rfl⟩
  unfold bkV at h5
  by_cases q : i ∈ alike sg c
  · rw [if_pos q, List.getD_eq_getElem?_getD, hrc]
    rcases h5 with rfl | rfl
    all_goals
      simp_arith [e1, ib, z0, z1, b1, b2, decide_eq_true q]
      rfl
  · rw [if_neg q, List.getD_eq_getElem?_getD, hri]
    rcases h5 with rfl | rfl
    all_goals
      simp_arith [e1, ib, z0, z1, b1, b2, decide_eq_false q]
      rfl
theorem lwI_eq {n : Nat} {sg : List (Nat × Nat)} {rs : List Ru} {V : List (List Vi)} {r : List Vi} {s5 : Sv} {c k : Nat} {x0 x2 x3 x4 x6 x9 x10 : Option Sv} (hn : 34 ≤ n) (hb : Bk sg rs) (h : GVs sg V) (h1 : V[c]? = some r) (hk : k + 1 < r.length)
    (h5 : s5 = .ow (V.map rowD) ∨ s5 = .d (bkV V)) (h9 : NR x9) (h10 : NR x10) :
    lwI n [x0, some (.d (bookD sg rs)), x2, x3, x4, some s5, x6, some (.d (.int (c : Nat))), some (.d (.int (k : Nat))), x9, x10, none] =
      .next [x0, some (.d (bookD sg rs)), x2, x3, x4, some (.d (bkV V)), x6, some (.d (.int (c : Nat))), some (.d (.int (k : Nat))), some (.ow ((alike sg c).map iD)), some (.d (bkV (twin sg V c))), none] := by
  have hl := h.len
  have hc : c < sg.length := by rw [← hl]; exact (List.getElem?_eq_some_iff.mp h1).1
  have g1 := good_eq hn hb h h1 hk
  have g2 := good_eq hn hb (twin_gvs h hc) (twin_c h h1) hk
  have y9 := nr_rf h9
  have y10 := nr_rf h10
  have e1 := fun {x0 x2 x3 x4 x5 x6 x8 x9 x10 : Option Sv} => alike_lc (x0 := x0) (x2 := x2) (x3 := x3) (x4 := x4) (x5 := x5) (x6 := x6) (x8 := x8) (x9 := x9) (x10 := x10) (rs := .list (rs.map Ru.d)) hc
  have e2 := fun {x0 x1 x2 x3 x4 x6 x8 x10 : Option Sv} => twin_lc (x0 := x0) (x1 := x1) (x2 := x2) (x3 := x3) (x4 := x4) (x6 := x6) (x8 := x8) (x10 := x10) h hc hb.1.2.1 h5
  have rg : kRng (.int (sg.length : Nat)) = some (upFrom 0 sg.length) := kRng_up (by have := hb.1.2.1; omega)
  have s2 := hb.1.2.1
  have f1 : (alike sg c).length ≤ 16777216 := by have := List.length_filter_le (fun i => decide (gt sg i = gt sg c)) (List.range sg.length); rw [List.length_range] at this; unfold alike; omega
  have f2 : (twin sg V c).length ≤ 16777216 := by unfold twin; rw [List.length_map, List.length_range]; omega
  have bd : bookD sg rs = .tuple [.list (sg.map pD), .list (rs.map Ru.d)] := rfl
  unfold lwI
  rw [bd] at g1 g2 ⊢
  unfold bkV at g1 g2 h5 ⊢
  rcases h5 with rfl | rfl
  all_goals
    simp_all_arith [y9, y10, List.length_map, hl, rg, e1, f1, e2, f2, g1, g2]
theorem lwJ_eq {n : Nat} {sg : List (Nat × Nat)} {rs : List Ru} {V : List (List Vi)} {r : List Vi} {s5 : Sv} {c : Nat} {x0 x2 x3 x4 x6 x8 x9 x10 : Option Sv} (hn : 34 ≤ n) (hb : Bk sg rs) (h : GVs sg V) (h1 : V[c]? = some r)
    (h5 : s5 = .ow (V.map rowD) ∨ s5 = .d (bkV V)) (h8 : NR x8) (h9 : NR x9) (h10 : NR x10) :
    ∃ (t5 : Sv) (y8 y9 y10 : Option Sv), (t5 = .ow (V.map rowD) ∨ t5 = .d (bkV V)) ∧ NR y8 ∧ NR y9 ∧ NR y10 ∧
    lwJ n [x0, some (.d (bookD sg rs)), x2, x3, x4, some s5, x6, some (.d (.int (c : Nat))), x8, x9, x10, none] =
      .next [x0, some (.d (bookD sg rs)), x2, x3, x4, some t5, x6, some (.d (.int (c : Nat))), y8, y9, y10, none] := by
  have lv := (h.vlen hb.1.2.2 h1).1
  obtain ⟨ρ', e, t5, y8, y9, y10, rfl, k5, k8, k9, k10⟩ := for_n (v := 8) (body := lwI n) (n := r.length - 1)
    (I := fun j ρ => ∃ (t5 : Sv) (y8 y9 y10 : Option Sv), ρ = [x0, some (.d (bookD sg rs)), x2, x3, x4, some t5, x6, some (.d (.int (c : Nat))), y8, y9, y10, none] ∧ (t5 = .ow (V.map rowD) ∨ t5 = .d (bkV V)) ∧ NR y8 ∧ NR y9 ∧ NR y10)
    (ρ := [x0, some (.d (bookD sg rs)), x2, x3, x4, some s5, x6, some (.d (.int (c : Nat))), x8, x9, x10, none])
    (fun j ρ hj ⟨t5, y8, y9, y10, eρ, k5, k8, k9, k10⟩ => by
      subst eρ
      exact ⟨nr_rf k8 [y9, y10, none], _, lwI_eq hn hb h h1 (by omega) k5 k9 k10, _, _, _, _, rfl, .inr rfl, nr_d _, nr_ow _, nr_d _⟩) ⟨_, _, _, _, rfl, h5, h8, h9, h10⟩
  refine ⟨t5, y8, y9, y10, k5, k8, k9, k10, ?_⟩
  have ai := atI_at (l := V.map rowD) (k := c) (i := (c : Nat)) rfl (x := rowD r) (by rw [List.getElem?_map, h1]; rfl)
  have l1 : lenD (rowD r) = some (.d (.int r.length)) := by unfold rowD; simp_all_arith [List.length_map]
  have rg : kRng (.int ((r.length : Int) - 1)) = some (upFrom 0 (r.length - 1)) := by
    rw [kRng_int (by omega) (by omega)]
    congr 2
    omega
  unfold lwJ
  unfold bkV at h5
  rcases h5 with rfl | rfl
  all_goals
    simp_arith [ai, l1, rg, e]
theorem lwB_eq {n : Nat} {ns : List Int} {sg : List (Nat × Nat)} {rs : List Ru} {j : Nat} {x2 x4 x5 x6 x7 x8 x9 x10 : Option Sv} (hn : 34 ≤ n) (hj : j ≤ 100) (hb : Bk sg rs) (h4 : NR x4) (h5 : NR x5) (h6 : NR x6) (h7 : Pd x7) (h8 : NR x8) (h9 : NR x9) (h10 : NR x10) :
    ∃ y4 y5 y6 y7 y8 y9 y10, (NR y4 ∧ NR y5 ∧ NR y6 ∧ Pd y7 ∧ NR y8 ∧ NR y9 ∧ NR y10) ∧
    lwB n [some (.fz (ns.map PyData.int)), some (.d (bookD sg rs)), x2, some (.d (.int (j : Nat))), x4, x5, x6, x7, x8, x9, x10, none] =
      .next [some (.fz (ns.map PyData.int)), some (.d (bookD sg rs)), x2, some (.d (.int (j : Nat))), y4, y5, y6, y7, y8, y9, y10, none] := by
  obtain ⟨x, ec⟩ := cell_eq (n := n) (ns := ns) (k := 9 + j) (by omega) (by omega)
  rw [show ((9 + j : Nat) : Int) = 9 + (j : Int) by omega] at ec
  obtain ⟨V, p', g, e1⟩ := vis_lc (n := n) (a0 := some (.fz (ns.map PyData.int))) (a1 := some (.d (bookD sg rs))) (a2 := x2) (a3 := some (.d (.int (j : Nat)))) (a5 := x5) (a6 := x6) (a8 := x8) (a9 := x9) (a10 := x10) (a11 := none) (by omega) (sg := sg) (p := x) hb.1.2.2
  have hl := g.len
  have L := g.low hb.1
  have s2 := hb.1.2.1
  obtain ⟨w1, w2, w3⟩ := bk_neat L
  have rp := reprD_neat (x := bkV V) (.inl ⟨_, rfl⟩) w1 (by omega) (by omega)
  obtain ⟨ρ', e2, t5, y7, y8, y9, y10, rfl, k5, k7, k8, k9, k10⟩ := for_n (v := 7) (body := lwJ n) (n := V.length)
    (I := fun j' ρ => ∃ (t5 : Sv) (y7 y8 y9 y10 : Option Sv), ρ = [some (.fz (ns.map PyData.int)), some (.d (bookD sg rs)), x2, some (.d (.int (j : Nat))), some (.ow [.int p']), some t5, some (.d (.str (PyData.shown (bkV V)))), y7, y8, y9, y10, none] ∧ (t5 = .ow (V.map rowD) ∨ t5 = .d (bkV V)) ∧ Pd y7 ∧ NR y8 ∧ NR y9 ∧ NR y10)
    (ρ := [some (.fz (ns.map PyData.int)), some (.d (bookD sg rs)), x2, some (.d (.int (j : Nat))), some (.ow [.int p']), some (.ow (V.map rowD)), some (.d (.str (PyData.shown (bkV V)))), x7, x8, x9, x10, none])
    (fun c ρ hc ⟨t5, y7, y8, y9, y10, eρ, k5, k7, k8, k9, k10⟩ => by
      subst eρ
      obtain ⟨r, hr⟩ : ∃ r, V[c]? = some r := ⟨_, List.getElem?_eq_getElem hc⟩
      obtain ⟨u5, z8, z9, z10, q5, q8, q9, q10, e⟩ := lwJ_eq (n := n) (x0 := some (.fz (ns.map PyData.int))) (x2 := x2) (x3 := some (.d (.int (j : Nat)))) (x4 := some (.ow [.int p'])) (x6 := some (.d (.str (PyData.shown (bkV V))))) hn hb g hr k5 k8 k9 k10
      exact ⟨nr_rf k7.nr [y8, y9, y10, none], _, e, _, _, _, _, _, rfl, q5, .d _, q8, q9, q10⟩) ⟨_, _, _, _, _, rfl, .inl rfl, h7, h8, h9, h10⟩
  refine ⟨some (.ow [.int p']), some t5, some (.d (.str (PyData.shown (bkV V)))), y7, y8, y9, y10, ⟨nr_ow _, by rcases k5 with rfl | rfl <;> first | exact nr_ow _ | exact nr_d _, nr_d _, k7, k8, k9, k10⟩, ?_⟩
  have f4 := nr_rf h4
  have f7 := nr_rf h7.nr
  have k7' : keepS (some x7) = x7 := by rcases h7 with rfl | ⟨y, rfl⟩ <;> rfl
  have f5 := nr_rf h5
  have f6 := nr_rf h6
  have rg : kRng (.int (sg.length : Nat)) = some (upFrom 0 sg.length) := kRng_up (by omega)
  rw [hl] at e2
  have bd : bookD sg rs = .tuple [.list (sg.map pD), .list (rs.map Ru.d)] := rfl
  have nes : ∀ z : Str, (z == z) = true := fun z => beq_self_eq_true z
  have z1 : V.length ≤ 16777216 := by omega
  unfold lwB
  rw [bd] at e1 e2 ⊢
  unfold bkV at rp k5 e2 ⊢
  rcases k5 with rfl | rfl
  all_goals
    simp_all_arith [ec, f4, f5, f6, f7, k7', e1, z1, rp, List.length_map, hl, rg, e2, nes, S.neS]
theorem win_at {n : Nat} {ns : List Int} (hn : 60 ≤ n) (hl : ns.length ≤ 63) : sem (n + 1) 32 [.fz (ns.map PyData.int)] = .ok (.d (.bool true)) [] := by
  obtain ⟨sg, rs, hb, e1⟩ := book_l (n := n) (ns := ns) (by omega)
  obtain ⟨b1, b2, b3⟩ := book_neat hb
  have e2 := copy_eq (n := n) (by omega) hb
  have q := eqD_rfl b1 (by omega)
  obtain ⟨m, hm, hm2⟩ : ∃ m : Nat, (let a : Int := if (6 : Int) < (ns.length : Int) - 9 then 6 else (ns.length : Int) - 9; (if (1 : Int) > a then 1 else a)) = (m : Int) ∧ m ≤ 6 :=
    ⟨(let a : Int := if (6 : Int) < (ns.length : Int) - 9 then 6 else (ns.length : Int) - 9; (if (1 : Int) > a then 1 else a)).toNat, by dsimp only; split <;> split <;> omega, by dsimp only; split <;> split <;> omega⟩
  dsimp only at hm
  obtain ⟨ρ', ef, x3, y4, y5, y6, y7, y8, y9, y10, rfl, k3, k4, k5, k6, k7, k8, k9, k10⟩ := for_n (v := 3) (body := lwB n) (n := m)
    (I := fun j ρ => ∃ (x3 y4 y5 y6 y7 y8 y9 y10 : Option Sv), ρ = [some (.fz (ns.map PyData.int)), some (.d (bookD sg rs)), some (.d (bookD sg rs)), x3, y4, y5, y6, y7, y8, y9, y10, none] ∧ NR x3 ∧ NR y4 ∧ NR y5 ∧ NR y6 ∧ Pd y7 ∧ NR y8 ∧ NR y9 ∧ NR y10)
    (ρ := [some (.fz (ns.map PyData.int)), some (.d (bookD sg rs)), some (.d (bookD sg rs)), none, none, none, none, none, none, none, none, none])
    (fun j ρ hj ⟨x3, y4, y5, y6, y7, y8, y9, y10, eρ, k3, k4, k5, k6, k7, k8, k9, k10⟩ => by
      subst eρ
      obtain ⟨z4, z5, z6, z7, z8, z9, z10, ⟨q4, q5, q6, q7, q8, q9, q10⟩, e⟩ := lwB_eq (n := n) (ns := ns) (j := j) (x2 := some (.d (bookD sg rs))) (by omega) (by omega) hb k4 k5 k6 k7 k8 k9 k10
      exact ⟨nr_rf k3 [y4, y5, y6, y7, y8, y9, y10, none], _, e, _, _, _, _, _, _, _, _, rfl, nr_d _, q4, q5, q6, q7, q8, q9, q10⟩) ⟨_, _, _, _, _, _, _, _, rfl, nr_n, nr_n, nr_n, nr_n, .n, nr_n, nr_n, nr_n⟩
  have rg : kRng (.int (m : Nat)) = some (upFrom 0 m) := kRng_up (by omega)
  have f3 := rfOf_nr k3
  have f4 := rfOf_nr k4
  have f5 := rfOf_nr k5
  have f6 := rfOf_nr k6
  have f7 := rfOf_nr k7.nr
  have f8 := rfOf_nr k8
  have f9 := rfOf_nr k9
  have f10 := rfOf_nr k10
  have mx : ∀ a : Int, maxD (.int a) (.int 1) = some (.d (.int (if 1 > a then 1 else a))) := fun _ => S.maxI
  have mn : ∀ a : Int, minD (.int a) (.int 6) = some (.d (.int (if 6 < a then 6 else a))) := fun _ => S.minI
  simp only [sem_succ, bodyOf]
  rw [fb32_eq]
  generalize bookD sg rs = B at *
  simp_all_arith [Dl.S.fBor_eq, Dl.S.bor_d, Dl.S.bor_ow, Dl.S.bor_r, Dl.S.fBorT_eq, Dl.S.borT_ok, Dl.S.borT_r, Dl.S.frz_nil, Dl.S.frz_cons, Dl.S.frz1_n, Dl.S.frz1_d, Dl.S.frz1_ow, Dl.S.frz1_rf, Dl.S.frz1_on, Dl.S.frz1_al, Dl.S.frz1_ex, Dl.S.frz1_fz, Dl.S.lf_int, Dl.S.lf_str, Dl.S.lf_bool, Dl.S.lf_none, Dl.S.lf_tup, Dl.S.lfs_nil, Dl.S.lfs_cons, Dl.S.toD_dat, Dl.S.toD_lst, Dl.S.toD_tup, Dl.S.allD_nil, Dl.S.allD_cons, Dl.S.fSetM_eq, Dl.S.setM_on, Dl.S.setM_d, Dl.S.setM_ow, Dl.S.kill_nil, Dl.S.kill_cons, Dl.S.kill1_n, Dl.S.kill1_d, Dl.S.kill1_ow, Dl.S.kill1_rf, Dl.S.kill1_on, Dl.S.kill1_al, Dl.S.kill1_ex, Dl.S.kill1_fz, Dl.S.into_eq, Dl.S.thru_eq, Dl.S.fPn_eq, Dl.S.pn_on, Dl.S.pn_al, Dl.S.fPx_eq, Dl.S.px_ok, Dl.S.px_i, Dl.S.px_l, Dl.S.px_j, Dl.S.lenP_eq, Dl.S.lenO_on, Dl.S.lenA_l, Dl.S.lenA_t, Dl.S.at_nil, Dl.S.at_l, Dl.S.at_t, Dl.S.put_nil, Dl.S.put_l, Dl.S.put_t, Dl.S.putA_s, Dl.S.lstAt_eq, Dl.S.onO_s, Dl.S.lstA_s, Dl.S.putP_eq, Dl.S.orLW_s, Dl.S.fAppP_eq, Dl.S.appP_ok, Dl.S.appP_eq, Dl.S.appPO_s, Dl.S.ow_d, Dl.S.ow_ow, Dl.S.ow_on, Dl.S.fClrP_eq, Dl.S.clr_ok, Dl.S.clrO_s, Dl.S.pinS_n, Dl.S.pinS_c, Dl.S.pinP_n, Dl.S.pinP_c, Dl.S.am_nil, Dl.S.am_cons, Dl.S.am_ok, Dl.S.am_r, Dl.S.am_s, Dl.S.fTupM_eq, Dl.S.fLstM_eq, Dl.S.fCatM_eq, Dl.S.catK_s, Dl.S.fMvM_eq, Dl.S.mv_on, Dl.S.mv_d, Dl.S.mv_ow, Dl.S.fCallM_eq, Dl.S.callMK_eq, Dl.S.callMS_s, Dl.S.callMO_ok, Dl.S.callMO_r, Dl.S.fLcM_eq, Dl.S.lcMK_ok, Dl.S.lcMO_s, Dl.S.fAl_eq, Dl.S.al_ok, Dl.S.rf_on, Dl.S.rf_al, Dl.S.rfOf_on, Dl.S.rfOf_al, Dl.S.keep_on, Dl.S.keep_al, e1, e2, mx, mn, List.length_map, hm, rg, ef, q, f3, f4, f5, f6, f7, f8, f9, f10]
theorem win : ∀ ns : List Int, ns.length ≤ 63 → ∃ o, sem 64 32 [.fz (ns.map PySem.PyData.int)] = .ok (.d (.bool true)) o := fun ns h => ⟨_, win_at (n := 63) (by decide) h⟩
end K88
set_option maxHeartbeats 4000000
namespace K88
open PySem PySem.Spec L2 Dl
section
variable {l : PySem.W.OpenLaw} {w : World} {K : PySem.W.Frag} {h : Heap} {mg : Str → Option Value} {fa : Addr}
abbrev fdOf (nm : Str) (st : Stmt) (kV doc pm : Value) (an : Option Addr) (cd ct : Value) : FuncData := PySem.W.fnOf nm nm (defArgs st) (defBody st) (defScope st) .none kV doc pm an cd ct
theorem all_mk (KX : K.In h) (G : h.Ns mainGlobals mg) (hfa : mg "law" = some (.ref fa)) (win : ∀ ns : List Int, ns.length ≤ 63 → ∃ o, sem 64 32 [.fz (ns.map PyData.int)] = .ok (.d (.bool true)) o)
    {f0 f1 f2 f3 f4 f5 f6 f7 f8 f9 f10 f11 f12 f13 f14 f15 f16 f17 f18 f19 f20 f21 f22 f23 f24 f25 f26 f27 f28 f29 f30 f31 f32 : Addr}
    {C1 C2 C3 C4 : Addr}
    {od0 an0 od1 an1 od2 an2 od3 an3 od4 an4 od5 an5 od6 an6 od7 an7 od8 an8 od9 an9 od10 an10 od11 an11 od12 an12 od13 an13 od14 an14 od15 an15 od16 an16 od17 an17 od18 an18 od19 an19 od20 an20 od21 an21 od22 an22 od23 an23 od24 an24 od25 an25 od26 an26 od27 an27 od28 an28 od29 an29 od30 an30 od31 an31 od32 an32 : Option Addr}
    {sl0 sl1 sl2 sl3 sl4 sl5 sl6 sl7 sl8 sl9 sl10 sl11 sl12 sl13 sl14 sl15 sl16 sl17 sl18 sl19 sl20 sl21 sl22 sl23 sl24 sl25 sl26 sl27 sl28 sl29 sl30 sl31 sl32 : Array (Option Value)}
    {oc0 kV0 dc0 pm0 cd0 ct0 oc1 kV1 dc1 pm1 cd1 ct1 oc2 kV2 dc2 pm2 cd2 ct2 oc3 kV3 dc3 pm3 cd3 ct3 oc4 kV4 dc4 pm4 cd4 ct4 oc5 kV5 dc5 pm5 cd5 ct5 oc6 kV6 dc6 pm6 cd6 ct6 oc7 kV7 dc7 pm7 cd7 ct7 oc8 kV8 dc8 pm8 cd8 ct8 oc9 kV9 dc9 pm9 cd9 ct9 oc10 kV10 dc10 pm10 cd10 ct10 oc11 kV11 dc11 pm11 cd11 ct11 oc12 kV12 dc12 pm12 cd12 ct12 oc13 kV13 dc13 pm13 cd13 ct13 oc14 kV14 dc14 pm14 cd14 ct14 oc15 kV15 dc15 pm15 cd15 ct15 oc16 kV16 dc16 pm16 cd16 ct16 oc17 kV17 dc17 pm17 cd17 ct17 oc18 kV18 dc18 pm18 cd18 ct18 oc19 kV19 dc19 pm19 cd19 ct19 oc20 kV20 dc20 pm20 cd20 ct20 oc21 kV21 dc21 pm21 cd21 ct21 oc22 kV22 dc22 pm22 cd22 ct22 oc23 kV23 dc23 pm23 cd23 ct23 oc24 kV24 dc24 pm24 cd24 ct24 oc25 kV25 dc25 pm25 cd25 ct25 oc26 kV26 dc26 pm26 cd26 ct26 oc27 kV27 dc27 pm27 cd27 ct27 oc28 kV28 dc28 pm28 cd28 ct28 oc29 kV29 dc29 pm29 cd29 ct29 oc30 kV30 dc30 pm30 cd30 ct30 oc31 kV31 dc31 pm31 cd31 ct31 oc32 kV32 dc32 pm32 cd32 ct32 : Value}
    {dD_WORDS : Addr} {es_WORDS : Array DictEntry} {nD_WORDS : Nat}
    {tk_MOST_DEEP tk_MOST_PARTS_formulas tk_MOST_WORTHS tk_MOST_PARTS_books tk_MOST_SIGNS tk_MOST_RULES : Nat}
    (a0 : PySem.W.nsIn K mainGlobals "is_number" = some (some (.ref f0)))
    (l0 : K.lookup f0 = some ⟨oc0, od0, .func (fdOf "is_number" (top 10) kV0 dc0 pm0 an0 cd0 ct0), sl0⟩)
    (c0 : PySem.W.codeIn K cd0 "is_number" = true)
    (k0 : PySem.W.keepIn K (.ref f0) = true)
    (a1 : PySem.W.nsIn K mainGlobals "numbers_fit" = some (some (.ref f1)))
    (l1 : K.lookup f1 = some ⟨oc1, od1, .func (fdOf "numbers_fit" (top 11) kV1 dc1 pm1 an1 cd1 ct1), sl1⟩)
    (c1 : PySem.W.codeIn K cd1 "numbers_fit" = true)
    (k1 : PySem.W.keepIn K (.ref f1) = true)
    (a2 : PySem.W.nsIn K mainGlobals "inner_of" = some (some (.ref f2)))
    (l2 : K.lookup f2 = some ⟨oc2, od2, .func (fdOf "inner_of" (top 12) kV2 dc2 pm2 an2 cd2 ct2), sl2⟩)
    (c2 : PySem.W.codeIn K cd2 "inner_of" = true)
    (k2 : PySem.W.keepIn K (.ref f2) = true)
    (a3 : PySem.W.nsIn K mainGlobals "deep_of" = some (some (.ref f3)))
    (l3 : K.lookup f3 = some ⟨oc3, od3, .func (fdOf "deep_of" (top 13) kV3 dc3 pm3 an3 cd3 ct3), sl3⟩)
    (c3 : PySem.W.codeIn K cd3 "deep_of" = true)
    (k3 : PySem.W.keepIn K (.ref f3) = true)
    (a4 : PySem.W.nsIn K mainGlobals "is_formula" = some (some (.ref f4)))
    (l4 : K.lookup f4 = some ⟨oc4, od4, .func (fdOf "is_formula" (top 14) kV4 dc4 pm4 an4 cd4 ct4), sl4⟩)
    (c4 : PySem.W.codeIn K cd4 "is_formula" = true)
    (k4 : PySem.W.keepIn K (.ref f4) = true)
    (a5 : PySem.W.nsIn K mainGlobals "names_in" = some (some (.ref f5)))
    (l5 : K.lookup f5 = some ⟨oc5, od5, .func (fdOf "names_in" (top 15) kV5 dc5 pm5 an5 cd5 ct5), sl5⟩)
    (c5 : PySem.W.codeIn K cd5 "names_in" = true)
    (k5 : PySem.W.keepIn K (.ref f5) = true)
    (a6 : PySem.W.nsIn K mainGlobals "is_from" = some (some (.ref f6)))
    (l6 : K.lookup f6 = some ⟨oc6, od6, .func (fdOf "is_from" (top 21) kV6 dc6 pm6 an6 cd6 ct6), sl6⟩)
    (c6 : PySem.W.codeIn K cd6 "is_from" = true)
    (k6 : PySem.W.keepIn K (.ref f6) = true)
    (a7 : PySem.W.nsIn K mainGlobals "is_sign" = some (some (.ref f7)))
    (l7 : K.lookup f7 = some ⟨oc7, od7, .func (fdOf "is_sign" (top 22) kV7 dc7 pm7 an7 cd7 ct7), sl7⟩)
    (c7 : PySem.W.codeIn K cd7 "is_sign" = true)
    (k7 : PySem.W.keepIn K (.ref f7) = true)
    (a8 : PySem.W.nsIn K mainGlobals "worths_of_place" = some (some (.ref f8)))
    (l8 : K.lookup f8 = some ⟨oc8, od8, .func (fdOf "worths_of_place" (top 23) kV8 dc8 pm8 an8 cd8 ct8), sl8⟩)
    (c8 : PySem.W.codeIn K cd8 "worths_of_place" = true)
    (k8 : PySem.W.keepIn K (.ref f8) = true)
    (a9 : PySem.W.nsIn K mainGlobals "names_told" = some (some (.ref f9)))
    (l9 : K.lookup f9 = some ⟨oc9, od9, .func (fdOf "names_told" (top 24) kV9 dc9 pm9 an9 cd9 ct9), sl9⟩)
    (c9 : PySem.W.codeIn K cd9 "names_told" = true)
    (k9 : PySem.W.keepIn K (.ref f9) = true)
    (a10 : PySem.W.nsIn K mainGlobals "is_making" = some (some (.ref f10)))
    (l10 : K.lookup f10 = some ⟨oc10, od10, .func (fdOf "is_making" (top 25) kV10 dc10 pm10 an10 cd10 ct10), sl10⟩)
    (c10 : PySem.W.codeIn K cd10 "is_making" = true)
    (k10 : PySem.W.keepIn K (.ref f10) = true)
    (a11 : PySem.W.nsIn K mainGlobals "is_rule" = some (some (.ref f11)))
    (l11 : K.lookup f11 = some ⟨oc11, od11, .func (fdOf "is_rule" (top 26) kV11 dc11 pm11 an11 cd11 ct11), sl11⟩)
    (c11 : PySem.W.codeIn K cd11 "is_rule" = true)
    (k11 : PySem.W.keepIn K (.ref f11) = true)
    (a12 : PySem.W.nsIn K mainGlobals "is_book" = some (some (.ref f12)))
    (l12 : K.lookup f12 = some ⟨oc12, od12, .func (fdOf "is_book" (top 27) kV12 dc12 pm12 an12 cd12 ct12), sl12⟩)
    (c12 : PySem.W.codeIn K cd12 "is_book" = true)
    (k12 : PySem.W.keepIn K (.ref f12) = true)
    (a13 : PySem.W.nsIn K mainGlobals "look_at_book" = some (some (.ref f13)))
    (l13 : K.lookup f13 = some ⟨oc13, od13, .func (fdOf "look_at_book" (top 28) kV13 dc13 pm13 an13 cd13 ct13), sl13⟩)
    (c13 : PySem.W.codeIn K cd13 "look_at_book" = true)
    (k13 : PySem.W.keepIn K (.ref f13) = true)
    (a14 : PySem.W.nsIn K mainGlobals "are_rising" = some (some (.ref f14)))
    (l14 : K.lookup f14 = some ⟨oc14, od14, .func (fdOf "are_rising" (top 30) kV14 dc14 pm14 an14 cd14 ct14), sl14⟩)
    (c14 : PySem.W.codeIn K cd14 "are_rising" = true)
    (k14 : PySem.W.keepIn K (.ref f14) = true)
    (a15 : PySem.W.nsIn K mainGlobals "are_visits" = some (some (.ref f15)))
    (l15 : K.lookup f15 = some ⟨oc15, od15, .func (fdOf "are_visits" (top 31) kV15 dc15 pm15 an15 cd15 ct15), sl15⟩)
    (c15 : PySem.W.codeIn K cd15 "are_visits" = true)
    (k15 : PySem.W.keepIn K (.ref f15) = true)
    (a16 : PySem.W.nsIn K mainGlobals "is_visit_book" = some (some (.ref f16)))
    (l16 : K.lookup f16 = some ⟨oc16, od16, .func (fdOf "is_visit_book" (top 32) kV16 dc16 pm16 an16 cd16 ct16), sl16⟩)
    (c16 : PySem.W.codeIn K cd16 "is_visit_book" = true)
    (k16 : PySem.W.keepIn K (.ref f16) = true)
    (a17 : PySem.W.nsIn K mainGlobals "look_at_visits" = some (some (.ref f17)))
    (l17 : K.lookup f17 = some ⟨oc17, od17, .func (fdOf "look_at_visits" (top 33) kV17 dc17 pm17 an17 cd17 ct17), sl17⟩)
    (c17 : PySem.W.codeIn K cd17 "look_at_visits" = true)
    (k17 : PySem.W.keepIn K (.ref f17) = true)
    (a18 : PySem.W.nsIn K mainGlobals "joined_at" = some (some (.ref f18)))
    (l18 : K.lookup f18 = some ⟨oc18, od18, .func (fdOf "joined_at" (top 35) kV18 dc18 pm18 an18 cd18 ct18), sl18⟩)
    (c18 : PySem.W.codeIn K cd18 "joined_at" = true)
    (k18 : PySem.W.keepIn K (.ref f18) = true)
    (a19 : PySem.W.nsIn K mainGlobals "joined_visits" = some (some (.ref f19)))
    (l19 : K.lookup f19 = some ⟨oc19, od19, .func (fdOf "joined_visits" (top 36) kV19 dc19 pm19 an19 cd19 ct19), sl19⟩)
    (c19 : PySem.W.codeIn K cd19 "joined_visits" = true)
    (k19 : PySem.W.keepIn K (.ref f19) = true)
    (a20 : PySem.W.nsIn K mainGlobals "_law_mixed" = some (some (.ref f20)))
    (l20 : K.lookup f20 = some ⟨oc20, od20, .func (fdOf "_law_mixed" (top 38) kV20 dc20 pm20 an20 cd20 ct20), sl20⟩)
    (c20 : PySem.W.codeIn K cd20 "_law_mixed" = true)
    (k20 : PySem.W.keepIn K (.ref f20) = true)
    (a21 : PySem.W.nsIn K mainGlobals "_law_cell" = some (some (.ref f21)))
    (l21 : K.lookup f21 = some ⟨oc21, od21, .func (fdOf "_law_cell" (top 39) kV21 dc21 pm21 an21 cd21 ct21), sl21⟩)
    (c21 : PySem.W.codeIn K cd21 "_law_cell" = true)
    (k21 : PySem.W.keepIn K (.ref f21) = true)
    (a22 : PySem.W.nsIn K mainGlobals "_law_take" = some (some (.ref f22)))
    (l22 : K.lookup f22 = some ⟨oc22, od22, .func (fdOf "_law_take" (top 40) kV22 dc22 pm22 an22 cd22 ct22), sl22⟩)
    (c22 : PySem.W.codeIn K cd22 "_law_take" = true)
    (k22 : PySem.W.keepIn K (.ref f22) = true)
    (a23 : PySem.W.nsIn K mainGlobals "_law_formula" = some (some (.ref f23)))
    (l23 : K.lookup f23 = some ⟨oc23, od23, .func (fdOf "_law_formula" (top 41) kV23 dc23 pm23 an23 cd23 ct23), sl23⟩)
    (c23 : PySem.W.codeIn K cd23 "_law_formula" = true)
    (k23 : PySem.W.keepIn K (.ref f23) = true)
    (a24 : PySem.W.nsIn K mainGlobals "_law_told" = some (some (.ref f24)))
    (l24 : K.lookup f24 = some ⟨oc24, od24, .func (fdOf "_law_told" (top 42) kV24 dc24 pm24 an24 cd24 ct24), sl24⟩)
    (c24 : PySem.W.codeIn K cd24 "_law_told" = true)
    (k24 : PySem.W.keepIn K (.ref f24) = true)
    (a25 : PySem.W.nsIn K mainGlobals "_law_names" = some (some (.ref f25)))
    (l25 : K.lookup f25 = some ⟨oc25, od25, .func (fdOf "_law_names" (top 43) kV25 dc25 pm25 an25 cd25 ct25), sl25⟩)
    (c25 : PySem.W.codeIn K cd25 "_law_names" = true)
    (k25 : PySem.W.keepIn K (.ref f25) = true)
    (a26 : PySem.W.nsIn K mainGlobals "_law_rule" = some (some (.ref f26)))
    (l26 : K.lookup f26 = some ⟨oc26, od26, .func (fdOf "_law_rule" (top 44) kV26 dc26 pm26 an26 cd26 ct26), sl26⟩)
    (c26 : PySem.W.codeIn K cd26 "_law_rule" = true)
    (k26 : PySem.W.keepIn K (.ref f26) = true)
    (a27 : PySem.W.nsIn K mainGlobals "_law_book" = some (some (.ref f27)))
    (l27 : K.lookup f27 = some ⟨oc27, od27, .func (fdOf "_law_book" (top 45) kV27 dc27 pm27 an27 cd27 ct27), sl27⟩)
    (c27 : PySem.W.codeIn K cd27 "_law_book" = true)
    (k27 : PySem.W.keepIn K (.ref f27) = true)
    (a28 : PySem.W.nsIn K mainGlobals "_law_copy" = some (some (.ref f28)))
    (l28 : K.lookup f28 = some ⟨oc28, od28, .func (fdOf "_law_copy" (top 46) kV28 dc28 pm28 an28 cd28 ct28), sl28⟩)
    (c28 : PySem.W.codeIn K cd28 "_law_copy" = true)
    (k28 : PySem.W.keepIn K (.ref f28) = true)
    (a29 : PySem.W.nsIn K mainGlobals "_law_visits" = some (some (.ref f29)))
    (l29 : K.lookup f29 = some ⟨oc29, od29, .func (fdOf "_law_visits" (top 47) kV29 dc29 pm29 an29 cd29 ct29), sl29⟩)
    (c29 : PySem.W.codeIn K cd29 "_law_visits" = true)
    (k29 : PySem.W.keepIn K (.ref f29) = true)
    (a30 : PySem.W.nsIn K mainGlobals "_law_joined" = some (some (.ref f30)))
    (l30 : K.lookup f30 = some ⟨oc30, od30, .func (fdOf "_law_joined" (top 48) kV30 dc30 pm30 an30 cd30 ct30), sl30⟩)
    (c30 : PySem.W.codeIn K cd30 "_law_joined" = true)
    (k30 : PySem.W.keepIn K (.ref f30) = true)
    (a31 : PySem.W.nsIn K mainGlobals "_law_good" = some (some (.ref f31)))
    (l31 : K.lookup f31 = some ⟨oc31, od31, .func (fdOf "_law_good" (top 49) kV31 dc31 pm31 an31 cd31 ct31), sl31⟩)
    (c31 : PySem.W.codeIn K cd31 "_law_good" = true)
    (k31 : PySem.W.keepIn K (.ref f31) = true)
    (a32 : PySem.W.nsIn K mainGlobals "law" = some (some (.ref f32)))
    (l32 : K.lookup f32 = some ⟨oc32, od32, .func (fdOf "law" (top 50) kV32 dc32 pm32 an32 cd32 ct32), sl32⟩)
    (c32 : PySem.W.codeIn K cd32 "law" = true)
    (k32 : PySem.W.keepIn K (.ref f32) = true)
    (n_WORDS : PySem.W.nsIn K mainGlobals "WORDS" = some (some (.ref dD_WORDS)))
    (l_WORDS : K.lookup dD_WORDS = some ⟨.type "dict", none, .dict es_WORDS nD_WORDS, #[]⟩)
    (kl_WORDS : PySem.W.KeysLit w.params es_WORDS.toList)
    (tb_WORDS : TabOk es_WORDS.toList tab_WORDS)
    (lo_WORDS : (dD_WORDS == sysModules) = false)
    (z_abs : PySem.W.nsIn K mainGlobals "abs" = some none)
    (z_all : PySem.W.nsIn K mainGlobals "all" = some none)
    (z_bool : PySem.W.nsIn K mainGlobals "bool" = some none)
    (z_enumerate : PySem.W.nsIn K mainGlobals "enumerate" = some none)
    (z_int : PySem.W.nsIn K mainGlobals "int" = some none)
    (z_isinstance : PySem.W.nsIn K mainGlobals "isinstance" = some none)
    (z_len : PySem.W.nsIn K mainGlobals "len" = some none)
    (z_list : PySem.W.nsIn K mainGlobals "list" = some none)
    (z_max : PySem.W.nsIn K mainGlobals "max" = some none)
    (z_min : PySem.W.nsIn K mainGlobals "min" = some none)
    (z_range : PySem.W.nsIn K mainGlobals "range" = some none)
    (z_repr : PySem.W.nsIn K mainGlobals "repr" = some none)
    (z_sorted : PySem.W.nsIn K mainGlobals "sorted" = some none)
    (z_str : PySem.W.nsIn K mainGlobals "str" = some none)
    (z_sum : PySem.W.nsIn K mainGlobals "sum" = some none)
    (z_tuple : PySem.W.nsIn K mainGlobals "tuple" = some none)
    (z_zip : PySem.W.nsIn K mainGlobals "zip" = some none)
    (v_MOST_DEEP : PySem.W.nsIn K mainGlobals "MOST_DEEP" = some (some (.int 4 tk_MOST_DEEP)))
    (v_MOST_PARTS_formulas : PySem.W.nsIn K mainGlobals "MOST_PARTS_formulas" = some (some (.int 15 tk_MOST_PARTS_formulas)))
    (v_MOST_WORTHS : PySem.W.nsIn K mainGlobals "MOST_WORTHS" = some (some (.int 2 tk_MOST_WORTHS)))
    (v_MOST_PARTS_books : PySem.W.nsIn K mainGlobals "MOST_PARTS_books" = some (some (.int 2 tk_MOST_PARTS_books)))
    (v_MOST_SIGNS : PySem.W.nsIn K mainGlobals "MOST_SIGNS" = some (some (.int 4 tk_MOST_SIGNS)))
    (v_MOST_RULES : PySem.W.nsIn K mainGlobals "MOST_RULES" = some (some (.int 8 tk_MOST_RULES)))
    (n_NoBook : PySem.W.nsIn K mainGlobals "NoBook" = some (some (.ref C1)))
    (n_NoSign : PySem.W.nsIn K mainGlobals "NoSign" = some (some (.ref C2)))
    (n_NoVisits : PySem.W.nsIn K mainGlobals "NoVisits" = some (some (.ref C3)))
    (n_NoJoin : PySem.W.nsIn K mainGlobals "NoJoin" = some (some (.ref C4)))
    (q_NoBook : PySem.W.excIn K C1 [.type "ValueError", .type "Exception", .type "BaseException", .type "object"] "ValueError.__new__" = true)
    (kc_NoBook : PySem.W.keepIn K (.ref C1) = true)
    (s_NoBook : PySem.W.subIn K (.ref C1) (.type "BaseException") = some true)
    (t_NoBook : PySem.W.typeIn K (.ref C1) = some (.type "type"))
    (q_NoVisits : PySem.W.excIn K C3 [.type "ValueError", .type "Exception", .type "BaseException", .type "object"] "ValueError.__new__" = true)
    (kc_NoVisits : PySem.W.keepIn K (.ref C3) = true)
    (s_NoVisits : PySem.W.subIn K (.ref C3) (.type "BaseException") = some true)
    (t_NoVisits : PySem.W.typeIn K (.ref C3) = some (.type "type"))
    (q_NoSign : PySem.W.excIn K C2 [.type "ValueError", .type "Exception", .type "BaseException", .type "object"] "ValueError.__new__" = true)
    (kc_NoSign : PySem.W.keepIn K (.ref C2) = true)
    (s_NoSign : PySem.W.subIn K (.ref C2) (.type "BaseException") = some true)
    (t_NoSign : PySem.W.typeIn K (.ref C2) = some (.type "type"))
    (q_NoJoin : PySem.W.excIn K C4 [.type "ValueError", .type "Exception", .type "BaseException", .type "object"] "ValueError.__new__" = true)
    (kc_NoJoin : PySem.W.keepIn K (.ref C4) = true)
    (s_NoJoin : PySem.W.subIn K (.ref C4) (.type "BaseException") = some true)
    (t_NoJoin : PySem.W.typeIn K (.ref C4) = some (.type "type"))
    : ∃ fd : FuncData, (∀ (s : Shared) (v : Value), BindsTo s fd ⟨[v], []⟩ [("_law_script", v)]) ∧ ∀ base : Heap, K.In base → base.Ns mainGlobals mg → FnG l.prog w K mg base 64 fa fd ["_law_script"] (spLaw 63 K) := by
  have e := hfa.symm.trans (PySem.W.mg_of KX G a32)
  have e := (PySem.Value.ref.inj (Option.some.inj e)).symm
  subst e
  refine ⟨fdOf "law" (top 50) kV32 dc32 pm32 an32 cd32 ct32, fun s v => .of_eq rfl, fun base _ _ => ?_⟩
  have F0 := fun_mk (st := top 10) l0 c0 k0
  have b0 := F0.binds (ps := psOf 0) fun _ _ _ _ _ _ us hl => match us, hl with | [_], _ => rfl
  have F1 := fun_mk (st := top 11) l1 c1 k1
  have b1 := F1.binds (ps := psOf 1) fun _ _ _ _ _ _ us hl => match us, hl with | [_], _ => rfl
  have F2 := fun_mk (st := top 12) l2 c2 k2
  have b2 := F2.binds (ps := psOf 2) fun _ _ _ _ _ _ us hl => match us, hl with | [_], _ => rfl
  have F3 := fun_mk (st := top 13) l3 c3 k3
  have b3 := F3.binds (ps := psOf 3) fun _ _ _ _ _ _ us hl => match us, hl with | [_, _], _ => rfl
  have F4 := fun_mk (st := top 14) l4 c4 k4
  have b4 := F4.binds (ps := psOf 4) fun _ _ _ _ _ _ us hl => match us, hl with | [_], _ => rfl
  have F5 := fun_mk (st := top 15) l5 c5 k5
  have b5 := F5.binds (ps := psOf 5) fun _ _ _ _ _ _ us hl => match us, hl with | [_], _ => rfl
  have F6 := fun_mk (st := top 21) l6 c6 k6
  have b6 := F6.binds (ps := psOf 6) fun _ _ _ _ _ _ us hl => match us, hl with | [_, _, _], _ => rfl
  have F7 := fun_mk (st := top 22) l7 c7 k7
  have b7 := F7.binds (ps := psOf 7) fun _ _ _ _ _ _ us hl => match us, hl with | [_], _ => rfl
  have F8 := fun_mk (st := top 23) l8 c8 k8
  have b8 := F8.binds (ps := psOf 8) fun _ _ _ _ _ _ us hl => match us, hl with | [_, _, _], _ => rfl
  have F9 := fun_mk (st := top 24) l9 c9 k9
  have b9 := F9.binds (ps := psOf 9) fun _ _ _ _ _ _ us hl => match us, hl with | [_, _], _ => rfl
  have F10 := fun_mk (st := top 25) l10 c10 k10
  have b10 := F10.binds (ps := psOf 10) fun _ _ _ _ _ _ us hl => match us, hl with | [_, _, _], _ => rfl
  have F11 := fun_mk (st := top 26) l11 c11 k11
  have b11 := F11.binds (ps := psOf 11) fun _ _ _ _ _ _ us hl => match us, hl with | [_, _], _ => rfl
  have F12 := fun_mk (st := top 27) l12 c12 k12
  have b12 := F12.binds (ps := psOf 12) fun _ _ _ _ _ _ us hl => match us, hl with | [_], _ => rfl
  have F13 := fun_mk (st := top 28) l13 c13 k13
  have b13 := F13.binds (ps := psOf 13) fun _ _ _ _ _ _ us hl => match us, hl with | [_], _ => rfl
  have F14 := fun_mk (st := top 30) l14 c14 k14
  have b14 := F14.binds (ps := psOf 14) fun _ _ _ _ _ _ us hl => match us, hl with | [_, _, _], _ => rfl
  have F15 := fun_mk (st := top 31) l15 c15 k15
  have b15 := F15.binds (ps := psOf 15) fun _ _ _ _ _ _ us hl => match us, hl with | [_, _], _ => rfl
  have F16 := fun_mk (st := top 32) l16 c16 k16
  have b16 := F16.binds (ps := psOf 16) fun _ _ _ _ _ _ us hl => match us, hl with | [_, _], _ => rfl
  have F17 := fun_mk (st := top 33) l17 c17 k17
  have b17 := F17.binds (ps := psOf 17) fun _ _ _ _ _ _ us hl => match us, hl with | [_, _], _ => rfl
  have F18 := fun_mk (st := top 35) l18 c18 k18
  have b18 := F18.binds (ps := psOf 18) fun _ _ _ _ _ _ us hl => match us, hl with | [_, _, _], _ => rfl
  have F19 := fun_mk (st := top 36) l19 c19 k19
  have b19 := F19.binds (ps := psOf 19) fun _ _ _ _ _ _ us hl => match us, hl with | [_, _, _, _], _ => rfl
  have F20 := fun_mk (st := top 38) l20 c20 k20
  have b20 := F20.binds (ps := psOf 20) fun _ _ _ _ _ _ us hl => match us, hl with | [_, _], _ => rfl
  have F21 := fun_mk (st := top 39) l21 c21 k21
  have b21 := F21.binds (ps := psOf 21) fun _ _ _ _ _ _ us hl => match us, hl with | [_, _], _ => rfl
  have F22 := fun_mk (st := top 40) l22 c22 k22
  have b22 := F22.binds (ps := psOf 22) fun _ _ _ _ _ _ us hl => match us, hl with | [_, _], _ => rfl
  have F23 := fun_mk (st := top 41) l23 c23 k23
  have b23 := F23.binds (ps := psOf 23) fun _ _ _ _ _ _ us hl => match us, hl with | [_, _, _], _ => rfl
  have F24 := fun_mk (st := top 42) l24 c24 k24
  have b24 := F24.binds (ps := psOf 24) fun _ _ _ _ _ _ us hl => match us, hl with | [_, _, _], _ => rfl
  have F25 := fun_mk (st := top 43) l25 c25 k25
  have b25 := F25.binds (ps := psOf 25) fun _ _ _ _ _ _ us hl => match us, hl with | [_, _, _, _], _ => rfl
  have F26 := fun_mk (st := top 44) l26 c26 k26
  have b26 := F26.binds (ps := psOf 26) fun _ _ _ _ _ _ us hl => match us, hl with | [_, _, _, _, _], _ => rfl
  have F27 := fun_mk (st := top 45) l27 c27 k27
  have b27 := F27.binds (ps := psOf 27) fun _ _ _ _ _ _ us hl => match us, hl with | [_, _], _ => rfl
  have F28 := fun_mk (st := top 46) l28 c28 k28
  have b28 := F28.binds (ps := psOf 28) fun _ _ _ _ _ _ us hl => match us, hl with | [_], _ => rfl
  have F29 := fun_mk (st := top 47) l29 c29 k29
  have b29 := F29.binds (ps := psOf 29) fun _ _ _ _ _ _ us hl => match us, hl with | [_, _], _ => rfl
  have F30 := fun_mk (st := top 48) l30 c30 k30
  have b30 := F30.binds (ps := psOf 30) fun _ _ _ _ _ _ us hl => match us, hl with | [_, _, _], _ => rfl
  have F31 := fun_mk (st := top 49) l31 c31 k31
  have b31 := F31.binds (ps := psOf 31) fun _ _ _ _ _ _ us hl => match us, hl with | [_, _, _, _], _ => rfl
  have F32 := fun_mk (st := top 50) l32 c32 k32
  have b32 := F32.binds (ps := psOf 32) fun _ _ _ _ _ _ us hl => match us, hl with | [_], _ => rfl
  let cl : Nat → Addr := fun n => match n with | 1 => C1 | 2 => C2 | 3 => C3 | 4 => C4 | _ => f0
  let fs : Nat → Addr := fun n => match n with | 0 => f0 | 1 => f1 | 2 => f2 | 3 => f3 | 4 => f4 | 5 => f5 | 6 => f6 | 7 => f7 | 8 => f8 | 9 => f9 | 10 => f10 | 11 => f11 | 12 => f12 | 13 => f13 | 14 => f14 | 15 => f15 | 16 => f16 | 17 => f17 | 18 => f18 | 19 => f19 | 20 => f20 | 21 => f21 | 22 => f22 | 23 => f23 | 24 => f24 | 25 => f25 | 26 => f26 | 27 => f27 | 28 => f28 | 29 => f29 | 30 => f30 | 31 => f31 | 32 => f32 | _ => f0
  let ds : Nat → FuncData := fun n => match n with | 0 => fdOf "is_number" (top 10) kV0 dc0 pm0 an0 cd0 ct0 | 1 => fdOf "numbers_fit" (top 11) kV1 dc1 pm1 an1 cd1 ct1 | 2 => fdOf "inner_of" (top 12) kV2 dc2 pm2 an2 cd2 ct2 | 3 => fdOf "deep_of" (top 13) kV3 dc3 pm3 an3 cd3 ct3 | 4 => fdOf "is_formula" (top 14) kV4 dc4 pm4 an4 cd4 ct4 | 5 => fdOf "names_in" (top 15) kV5 dc5 pm5 an5 cd5 ct5 | 6 => fdOf "is_from" (top 21) kV6 dc6 pm6 an6 cd6 ct6 | 7 => fdOf "is_sign" (top 22) kV7 dc7 pm7 an7 cd7 ct7 | 8 => fdOf "worths_of_place" (top 23) kV8 dc8 pm8 an8 cd8 ct8 | 9 => fdOf "names_told" (top 24) kV9 dc9 pm9 an9 cd9 ct9 | 10 => fdOf "is_making" (top 25) kV10 dc10 pm10 an10 cd10 ct10 | 11 => fdOf "is_rule" (top 26) kV11 dc11 pm11 an11 cd11 ct11 | 12 => fdOf "is_book" (top 27) kV12 dc12 pm12 an12 cd12 ct12 | 13 => fdOf "look_at_book" (top 28) kV13 dc13 pm13 an13 cd13 ct13 | 14 => fdOf "are_rising" (top 30) kV14 dc14 pm14 an14 cd14 ct14 | 15 => fdOf "are_visits" (top 31) kV15 dc15 pm15 an15 cd15 ct15 | 16 => fdOf "is_visit_book" (top 32) kV16 dc16 pm16 an16 cd16 ct16 | 17 => fdOf "look_at_visits" (top 33) kV17 dc17 pm17 an17 cd17 ct17 | 18 => fdOf "joined_at" (top 35) kV18 dc18 pm18 an18 cd18 ct18 | 19 => fdOf "joined_visits" (top 36) kV19 dc19 pm19 an19 cd19 ct19 | 20 => fdOf "_law_mixed" (top 38) kV20 dc20 pm20 an20 cd20 ct20 | 21 => fdOf "_law_cell" (top 39) kV21 dc21 pm21 an21 cd21 ct21 | 22 => fdOf "_law_take" (top 40) kV22 dc22 pm22 an22 cd22 ct22 | 23 => fdOf "_law_formula" (top 41) kV23 dc23 pm23 an23 cd23 ct23 | 24 => fdOf "_law_told" (top 42) kV24 dc24 pm24 an24 cd24 ct24 | 25 => fdOf "_law_names" (top 43) kV25 dc25 pm25 an25 cd25 ct25 | 26 => fdOf "_law_rule" (top 44) kV26 dc26 pm26 an26 cd26 ct26 | 27 => fdOf "_law_book" (top 45) kV27 dc27 pm27 an27 cd27 ct27 | 28 => fdOf "_law_copy" (top 46) kV28 dc28 pm28 an28 cd28 ct28 | 29 => fdOf "_law_visits" (top 47) kV29 dc29 pm29 an29 cd29 ct29 | 30 => fdOf "_law_joined" (top 48) kV30 dc30 pm30 an30 cd30 ct30 | 31 => fdOf "_law_good" (top 49) kV31 dc31 pm31 an31 cd31 ct31 | 32 => fdOf "law" (top 50) kV32 dc32 pm32 an32 cd32 ct32 | _ => fdOf "is_number" (top 10) kV0 dc0 pm0 an0 cd0 ct0
  let dd : Nat → Addr := fun n => match n with | 0 => dD_WORDS | _ => f0
  have F : Facts K w mg cl fs dd ds := {
    f0 := F0, b0 := b0, m0 := PySem.W.mg_of KX G a0
    f1 := F1, b1 := b1, m1 := PySem.W.mg_of KX G a1
    f2 := F2, b2 := b2, m2 := PySem.W.mg_of KX G a2
    f3 := F3, b3 := b3, m3 := PySem.W.mg_of KX G a3
    f4 := F4, b4 := b4, m4 := PySem.W.mg_of KX G a4
    f5 := F5, b5 := b5, m5 := PySem.W.mg_of KX G a5
    f6 := F6, b6 := b6, m6 := PySem.W.mg_of KX G a6
    f7 := F7, b7 := b7, m7 := PySem.W.mg_of KX G a7
    f8 := F8, b8 := b8, m8 := PySem.W.mg_of KX G a8
    f9 := F9, b9 := b9, m9 := PySem.W.mg_of KX G a9
    f10 := F10, b10 := b10, m10 := PySem.W.mg_of KX G a10
    f11 := F11, b11 := b11, m11 := PySem.W.mg_of KX G a11
    f12 := F12, b12 := b12, m12 := PySem.W.mg_of KX G a12
    f13 := F13, b13 := b13, m13 := PySem.W.mg_of KX G a13
    f14 := F14, b14 := b14, m14 := PySem.W.mg_of KX G a14
    f15 := F15, b15 := b15, m15 := PySem.W.mg_of KX G a15
    f16 := F16, b16 := b16, m16 := PySem.W.mg_of KX G a16
    f17 := F17, b17 := b17, m17 := PySem.W.mg_of KX G a17
    f18 := F18, b18 := b18, m18 := PySem.W.mg_of KX G a18
    f19 := F19, b19 := b19, m19 := PySem.W.mg_of KX G a19
    f20 := F20, b20 := b20, m20 := PySem.W.mg_of KX G a20
    f21 := F21, b21 := b21, m21 := PySem.W.mg_of KX G a21
    f22 := F22, b22 := b22, m22 := PySem.W.mg_of KX G a22
    f23 := F23, b23 := b23, m23 := PySem.W.mg_of KX G a23
    f24 := F24, b24 := b24, m24 := PySem.W.mg_of KX G a24
    f25 := F25, b25 := b25, m25 := PySem.W.mg_of KX G a25
    f26 := F26, b26 := b26, m26 := PySem.W.mg_of KX G a26
    f27 := F27, b27 := b27, m27 := PySem.W.mg_of KX G a27
    f28 := F28, b28 := b28, m28 := PySem.W.mg_of KX G a28
    f29 := F29, b29 := b29, m29 := PySem.W.mg_of KX G a29
    f30 := F30, b30 := b30, m30 := PySem.W.mg_of KX G a30
    f31 := F31, b31 := b31, m31 := PySem.W.mg_of KX G a31
    f32 := F32, b32 := b32, m32 := PySem.W.mg_of KX G a32
    g_abs := PySem.W.mg_none_of KX G z_abs
    g_all := PySem.W.mg_none_of KX G z_all
    g_bool := PySem.W.mg_none_of KX G z_bool
    g_enumerate := PySem.W.mg_none_of KX G z_enumerate
    g_int := PySem.W.mg_none_of KX G z_int
    g_isinstance := PySem.W.mg_none_of KX G z_isinstance
    g_len := PySem.W.mg_none_of KX G z_len
    g_list := PySem.W.mg_none_of KX G z_list
    g_max := PySem.W.mg_none_of KX G z_max
    g_min := PySem.W.mg_none_of KX G z_min
    g_range := PySem.W.mg_none_of KX G z_range
    g_repr := PySem.W.mg_none_of KX G z_repr
    g_sorted := PySem.W.mg_none_of KX G z_sorted
    g_str := PySem.W.mg_none_of KX G z_str
    g_sum := PySem.W.mg_none_of KX G z_sum
    g_tuple := PySem.W.mg_none_of KX G z_tuple
    g_zip := PySem.W.mg_none_of KX G z_zip
    k_MOST_DEEP := ⟨_, PySem.W.mg_of KX G v_MOST_DEEP⟩
    k_MOST_PARTS_formulas := ⟨_, PySem.W.mg_of KX G v_MOST_PARTS_formulas⟩
    k_MOST_WORTHS := ⟨_, PySem.W.mg_of KX G v_MOST_WORTHS⟩
    k_MOST_PARTS_books := ⟨_, PySem.W.mg_of KX G v_MOST_PARTS_books⟩
    k_MOST_SIGNS := ⟨_, PySem.W.mg_of KX G v_MOST_SIGNS⟩
    k_MOST_RULES := ⟨_, PySem.W.mg_of KX G v_MOST_RULES⟩
    n_WORDS := PySem.W.mg_of KX G n_WORDS, d_WORDS := ⟨_, _, ⟨l_WORDS, kl_WORDS, lo_WORDS⟩, tb_WORDS⟩
    x_NoBook := ⟨q_NoBook, PySem.W.mg_of KX G n_NoBook, kc_NoBook, s_NoBook, t_NoBook⟩
    x_NoVisits := ⟨q_NoVisits, PySem.W.mg_of KX G n_NoVisits, kc_NoVisits, s_NoVisits, t_NoVisits⟩
    x_NoSign := ⟨q_NoSign, PySem.W.mg_of KX G n_NoSign, kc_NoSign, s_NoSign, t_NoSign⟩
    x_NoJoin := ⟨q_NoJoin, PySem.W.mg_of KX G n_NoJoin, kc_NoJoin, s_NoJoin, t_NoJoin⟩
    }
  exact (all (P := l.prog) (w := w) (base := base) F 64 32 (by decide)).weak (law_sp win)
end
end K88
open PySem PySem.W PyProof.Rows
set_option maxRecDepth 100000 in
set_option maxHeartbeats 0 in
theorem PySem.Challenge.cw_updownworths_k88_visits_joined_holds : PySem.Challenge.rw_updownworths_k88_visits_joined.Holds := by
  w_on; o_law; k_head; (case hw => w_witness2)
  k_fill
  refine Dl.walk_G (l := PySem.Challenge.rw_updownworths_k88_visits_joined) (n := 63) (k := 64) (x := "_law_script") (sp := Dl.spLaw 63) rfl (by decide) rfl ⟨rfl, by decide, by decide⟩ (fun w h Y => PySem.W.kIn_of Y) ?F ?S
  case S => exact fun K H a ns hl hS => ⟨a, ns, rfl, hS, hl, fun _ => rfl⟩
  case F =>
    intro w mg fa h KX G hmg
    refine' K88.all_mk KX G hmg K88.win ?a0 ?l0 ?c0 ?k0 ?a1 ?l1 ?c1 ?k1 ?a2 ?l2 ?c2 ?k2 ?a3 ?l3 ?c3 ?k3 ?a4 ?l4 ?c4 ?k4 ?a5 ?l5 ?c5 ?k5 ?a6 ?l6 ?c6 ?k6 ?a7 ?l7 ?c7 ?k7 ?a8 ?l8 ?c8 ?k8 ?a9 ?l9 ?c9 ?k9 ?a10 ?l10 ?c10 ?k10 ?a11 ?l11 ?c11 ?k11 ?a12 ?l12 ?c12 ?k12 ?a13 ?l13 ?c13 ?k13 ?a14 ?l14 ?c14 ?k14 ?a15 ?l15 ?c15 ?k15 ?a16 ?l16 ?c16 ?k16 ?a17 ?l17 ?c17 ?k17 ?a18 ?l18 ?c18 ?k18 ?a19 ?l19 ?c19 ?k19 ?a20 ?l20 ?c20 ?k20 ?a21 ?l21 ?c21 ?k21 ?a22 ?l22 ?c22 ?k22 ?a23 ?l23 ?c23 ?k23 ?a24 ?l24 ?c24 ?k24 ?a25 ?l25 ?c25 ?k25 ?a26 ?l26 ?c26 ?k26 ?a27 ?l27 ?c27 ?k27 ?a28 ?l28 ?c28 ?k28 ?a29 ?l29 ?c29 ?k29 ?a30 ?l30 ?c30 ?k30 ?a31 ?l31 ?c31 ?k31 ?a32 ?l32 ?c32 ?k32 ?n_WORDS ?l_WORDS ?kl_WORDS ?tb_WORDS ?lo_WORDS ?z_abs ?z_all ?z_bool ?z_enumerate ?z_int ?z_isinstance ?z_len ?z_list ?z_max ?z_min ?z_range ?z_repr ?z_sorted ?z_str ?z_sum ?z_tuple ?z_zip ?v_MOST_DEEP ?v_MOST_PARTS_formulas ?v_MOST_WORTHS ?v_MOST_PARTS_books ?v_MOST_SIGNS ?v_MOST_RULES ?n_NoBook ?n_NoSign ?n_NoVisits ?n_NoJoin ?q_NoBook ?kc_NoBook ?s_NoBook ?t_NoBook ?q_NoVisits ?kc_NoVisits ?s_NoVisits ?t_NoVisits ?q_NoSign ?kc_NoSign ?s_NoSign ?t_NoSign ?q_NoJoin ?kc_NoJoin ?s_NoJoin ?t_NoJoin
    (case a0 => k_is)
    (case l0 => k_is)
    (case c0 => k_is)
    (case k0 => k_is)
    (case a1 => k_is)
    (case l1 => k_is)
    (case c1 => k_is)
    (case k1 => k_is)
    (case a2 => k_is)
    (case l2 => k_is)
    (case c2 => k_is)
    (case k2 => k_is)
    (case a3 => k_is)
    (case l3 => k_is)
    (case c3 => k_is)
    (case k3 => k_is)
    (case a4 => k_is)
    (case l4 => k_is)
    (case c4 => k_is)
    (case k4 => k_is)
    (case a5 => k_is)
    (case l5 => k_is)
    (case c5 => k_is)
    (case k5 => k_is)
    (case a6 => k_is)
    (case l6 => k_is)
    (case c6 => k_is)
    (case k6 => k_is)
    (case a7 => k_is)
    (case l7 => k_is)
    (case c7 => k_is)
    (case k7 => k_is)
    (case a8 => k_is)
    (case l8 => k_is)
    (case c8 => k_is)
    (case k8 => k_is)
    (case a9 => k_is)
    (case l9 => k_is)
    (case c9 => k_is)
    (case k9 => k_is)
    (case a10 => k_is)
    (case l10 => k_is)
    (case c10 => k_is)
    (case k10 => k_is)
    (case a11 => k_is)
    (case l11 => k_is)
    (case c11 => k_is)
    (case k11 => k_is)
    (case a12 => k_is)
    (case l12 => k_is)
    (case c12 => k_is)
    (case k12 => k_is)
    (case a13 => k_is)
    (case l13 => k_is)
    (case c13 => k_is)
    (case k13 => k_is)
    (case a14 => k_is)
    (case l14 => k_is)
    (case c14 => k_is)
    (case k14 => k_is)
    (case a15 => k_is)
    (case l15 => k_is)
    (case c15 => k_is)
    (case k15 => k_is)
    (case a16 => k_is)
    (case l16 => k_is)
    (case c16 => k_is)
    (case k16 => k_is)
    (case a17 => k_is)
    (case l17 => k_is)
    (case c17 => k_is)
    (case k17 => k_is)
    (case a18 => k_is)
    (case l18 => k_is)
    (case c18 => k_is)
    (case k18 => k_is)
    (case a19 => k_is)
    (case l19 => k_is)
    (case c19 => k_is)
    (case k19 => k_is)
    (case a20 => k_is)
    (case l20 => k_is)
    (case c20 => k_is)
    (case k20 => k_is)
    (case a21 => k_is)
    (case l21 => k_is)
    (case c21 => k_is)
    (case k21 => k_is)
    (case a22 => k_is)
    (case l22 => k_is)
    (case c22 => k_is)
    (case k22 => k_is)
    (case a23 => k_is)
    (case l23 => k_is)
    (case c23 => k_is)
    (case k23 => k_is)
    (case a24 => k_is)
    (case l24 => k_is)
    (case c24 => k_is)
    (case k24 => k_is)
    (case a25 => k_is)
    (case l25 => k_is)
    (case c25 => k_is)
    (case k25 => k_is)
    (case a26 => k_is)
    (case l26 => k_is)
    (case c26 => k_is)
    (case k26 => k_is)
    (case a27 => k_is)
    (case l27 => k_is)
    (case c27 => k_is)
    (case k27 => k_is)
    (case a28 => k_is)
    (case l28 => k_is)
    (case c28 => k_is)
    (case k28 => k_is)
    (case a29 => k_is)
    (case l29 => k_is)
    (case c29 => k_is)
    (case k29 => k_is)
    (case a30 => k_is)
    (case l30 => k_is)
    (case c30 => k_is)
    (case k30 => k_is)
    (case a31 => k_is)
    (case l31 => k_is)
    (case c31 => k_is)
    (case k31 => k_is)
    (case a32 => k_is)
    (case l32 => k_is)
    (case c32 => k_is)
    (case k32 => k_is)
    (case n_WORDS => k_is)
    (case l_WORDS => k_is)
    (case kl_WORDS => exact ⟨⟨_, _, rfl, rfl⟩, ⟨⟨_, _, rfl, rfl⟩, ⟨⟨_, _, rfl, rfl⟩, ⟨⟨_, _, rfl, rfl⟩, ⟨⟨_, _, rfl, rfl⟩, ⟨⟨_, _, rfl, rfl⟩, ⟨⟨_, _, rfl, rfl⟩, ⟨⟨_, _, rfl, rfl⟩, ⟨⟨_, _, rfl, rfl⟩, trivial⟩⟩⟩⟩⟩⟩⟩⟩⟩)
    (case tb_WORDS => exact .cons rfl rfl (.cons rfl rfl (.cons rfl rfl (.cons rfl rfl (.cons rfl rfl (.cons rfl rfl (.cons rfl rfl (.cons rfl rfl (.cons rfl rfl (.nil))))))))))
    (case lo_WORDS => rfl)
    (case z_abs => k_is)
    (case z_all => k_is)
    (case z_bool => k_is)
    (case z_enumerate => k_is)
    (case z_int => k_is)
    (case z_isinstance => k_is)
    (case z_len => k_is)
    (case z_list => k_is)
    (case z_max => k_is)
    (case z_min => k_is)
    (case z_range => k_is)
    (case z_repr => k_is)
    (case z_sorted => k_is)
    (case z_str => k_is)
    (case z_sum => k_is)
    (case z_tuple => k_is)
    (case z_zip => k_is)
    (case v_MOST_DEEP => k_is)
    (case v_MOST_PARTS_formulas => k_is)
    (case v_MOST_WORTHS => k_is)
    (case v_MOST_PARTS_books => k_is)
    (case v_MOST_SIGNS => k_is)
    (case v_MOST_RULES => k_is)
    (case n_NoBook => k_is)
    (case n_NoSign => k_is)
    (case n_NoVisits => k_is)
    (case n_NoJoin => k_is)
    (case q_NoBook => k_exc)
    (case kc_NoBook => k_is)
    (case s_NoBook => k_is)
    (case t_NoBook => k_is)
    (case q_NoVisits => k_exc)
    (case kc_NoVisits => k_is)
    (case s_NoVisits => k_is)
    (case t_NoVisits => k_is)
    (case q_NoSign => k_exc)
    (case kc_NoSign => k_is)
    (case s_NoSign => k_is)
    (case t_NoSign => k_is)
    (case q_NoJoin => k_exc)
    (case kc_NoJoin => k_is)
    (case s_NoJoin => k_is)
    (case t_NoJoin => k_is)
