import PyProof.Rows.All
import Wide.All
import OpenK.AllK
import Wide.FinOn
import HandS.ForMost
import HandS.ForExc
import HandS.Wide
import HandS.IsInst
import HandS.Defaults
import HandS.CallSlots
import HandS.Flow
import HandS.Zip
import HandS.HeadHook1
import HandS.HeadHook2
import HandS.TupAny
import HandS.Deep
import HandS.WideBits
import KE.KExcSuper
import KE.KSuper
import HandS.ExcInit
import HandS.TryMany
import HandS.OwnEq
import KE.KStateDown
import HandS.Head0
import HandS.Head1
import HandS.Head2
import HandS.HeadEnd
import HandS.HeadWalk
import HandS.EndBits
import PySem.Challenge.RW_wishunseen_k03_fields_and_inverses
section
set_option Elab.async false
set_option linter.all false
set_option maxRecDepth 100000
set_option maxHeartbeats 4000000
/-! DL: deep data over the hand layer. Own work. -/
namespace DL
open PySem PySem.Spec PyProof.Rows L2

/-- data: what never changes; an own class's finished instance is data too (class, field names, values) -/
inductive D where
  | non | bl (b : Bool) | int (i : Int) | str (x : Str) | lst (xs : List D) | tup (xs : List D) | ins (c : Str) (ns : List Str) (xs : List D)

mutual
/-- the value v is the data d, by the objects of G -/
def Dn (K : PySem.W.Frag) (G : Hp) : D → V → Prop
  | .non, v => v = .non
  | .bl b, v => v = .bl b
  | .int i, v => v = .int i
  | .str x, v => v = .str x
  | .lst xs, v => ∃ a vs, v = .ref a ∧ SqL K G a vs ∧ Dns K G xs vs
  | .tup xs, v => ∃ a vs, v = .ref a ∧ SqT K G a vs ∧ Dns K G xs vs
  | .ins c ns xs, v => ∃ a dx fs, v = .ref a ∧ G a = some (.ins (He.ga K c) dx fs) ∧ fs.map (·.1) = ns ∧ Dns K G xs (fs.map (·.2))
def Dns (K : PySem.W.Frag) (G : Hp) : List D → List V → Prop
  | [], vs => vs = []
  | d :: ds, vs => ∃ v r, vs = v :: r ∧ Dn K G d v ∧ Dns K G ds r
end

theorem same_refl (H : Hp) : Same H H := fun _ _ h => h
theorem same_trans {H H1 H2 : Hp} (a : Same H H1) (b : Same H1 H2) : Same H H2 := fun x o h => b x o (a x o h)
theorem same_new {H : Hp} {p : Addr} {o : HO} (h : H p = none) : Same H (upd H p o) := fun a u e => by
  rw [upd_ne (ne_of_none e h)]
  exact e
theorem rd_mono {H H' : Hp} {a : Addr} {u : HO} (e : Same H H') (h : Rd H a u) : Rd H' a u := by
  rcases h with h | ⟨o, h⟩
  · exact Or.inl (e a _ h)
  · exact Or.inr ⟨o, e a _ h⟩
theorem sql_mono {K : PySem.W.Frag} {H H' : Hp} {a : Addr} {xs : List V} (e : Same H H') (h : SqL K H a xs) : SqL K H' a xs := by
  rcases h with h | h
  · exact Or.inl (rd_mono e h)
  · exact Or.inr h
theorem sqt_mono {K : PySem.W.Frag} {H H' : Hp} {a : Addr} {xs : List V} (e : Same H H') (h : SqT K H a xs) : SqT K H' a xs := by
  rcases h with h | h
  · exact Or.inl (rd_mono e h)
  · exact Or.inr h

mutual
theorem Dn.mono {K : PySem.W.Frag} {G G' : Hp} (e : Same G G') : ∀ (d : D) (v : V), Dn K G d v → Dn K G' d v
  | .non, v, h => h
  | .bl b, v, h => h
  | .int i, v, h => h
  | .str x, v, h => h
  | .lst xs, v, h => by
    unfold Dn at h ⊢
    obtain ⟨a, vs, h1, h2, h3⟩ := h
    exact ⟨a, vs, h1, sql_mono e h2, Dns.mono e xs vs h3⟩
  | .tup xs, v, h => by
    unfold Dn at h ⊢
    obtain ⟨a, vs, h1, h2, h3⟩ := h
    exact ⟨a, vs, h1, sqt_mono e h2, Dns.mono e xs vs h3⟩
  | .ins c ns xs, v, h => by
    unfold Dn at h ⊢
    obtain ⟨a, dx, fs, h1, h2, h3, h4⟩ := h
    exact ⟨a, dx, fs, h1, e _ _ h2, h3, Dns.mono e xs _ h4⟩
theorem Dns.mono {K : PySem.W.Frag} {G G' : Hp} (e : Same G G') : ∀ (ds : List D) (vs : List V), Dns K G ds vs → Dns K G' ds vs
  | [], vs, h => h
  | d :: ds, vs, h => by
    unfold Dns at h ⊢
    obtain ⟨v, r, h1, h2, h3⟩ := h
    exact ⟨v, r, h1, Dn.mono e d v h2, Dns.mono e ds r h3⟩
end
section
variable {K : PySem.W.Frag} {G G' H H' : Hp} {d : D} {ds es : List D} {v : V} {vs ws : List V}
theorem Dns.len : ∀ {ds : List D} {vs : List V}, Dns K G ds vs → vs.length = ds.length
  | [], vs, h => by
    unfold Dns at h
    rw [h]; rfl
  | d :: ds, vs, h => by
    unfold Dns at h
    obtain ⟨v, r, h1, _, h3⟩ := h
    rw [h1, List.length_cons, List.length_cons, Dns.len h3]
theorem Dns.nil : Dns K G [] [] := rfl
theorem Dns.cons (h : Dn K G d v) (t : Dns K G ds vs) : Dns K G (d :: ds) (v :: vs) := ⟨v, vs, rfl, h, t⟩
theorem Dns.uncons (h : Dns K G (d :: ds) vs) : ∃ v r, vs = v :: r ∧ Dn K G d v ∧ Dns K G ds r := h
theorem Dns.get : ∀ {ds : List D} {vs : List V} {i : Nat} {d : D}, Dns K G ds vs → ds[i]? = some d → ∃ v, vs[i]? = some v ∧ Dn K G d v
  | [], _, _, _, _, e => by simp at e
  | d :: ds, vs, 0, x, h, e => by
    obtain ⟨v, r, rfl, h2, _⟩ := h
    simp at e; subst e
    exact ⟨v, rfl, h2⟩
  | d :: ds, vs, i + 1, x, h, e => by
    obtain ⟨v, r, rfl, _, h3⟩ := h
    simpa using Dns.get (i := i) h3 (by simpa using e)
theorem Dns.get' : ∀ {ds : List D} {vs : List V} {i : Nat} {v : V}, Dns K G ds vs → vs[i]? = some v → ∃ d, ds[i]? = some d ∧ Dn K G d v
  | [], vs, i, v, h, e => by
    unfold Dns at h
    subst h; simp at e
  | d :: ds, vs, 0, x, h, e => by
    obtain ⟨v, r, rfl, h2, _⟩ := h
    simp at e; subst e
    exact ⟨d, rfl, h2⟩
  | d :: ds, vs, i + 1, x, h, e => by
    obtain ⟨v, r, rfl, _, h3⟩ := h
    simpa using Dns.get' (i := i) h3 (by simpa using e)
theorem Dns.set : ∀ {ds : List D} {vs : List V} (i : Nat), Dns K G ds vs → Dn K G d v → Dns K G (ds.set i d) (vs.set i v)
  | [], vs, i, h, _ => by
    unfold Dns at h
    subst h; exact Dns.nil
  | _ :: _, _, 0, h, k => by
    obtain ⟨_, r, rfl, _, h3⟩ := h
    exact Dns.cons k h3
  | _ :: _, _, i + 1, h, k => by
    obtain ⟨_, r, rfl, h2, h3⟩ := h
    exact Dns.cons h2 (Dns.set i h3 k)
theorem Dns.append : ∀ {ds es : List D} {vs ws : List V}, Dns K G ds vs → Dns K G es ws → Dns K G (ds ++ es) (vs ++ ws)
  | [], _, vs, _, h, k => by
    unfold Dns at h
    subst h; exact k
  | _ :: _, _, _, _, h, k => by
    obtain ⟨_, r, rfl, h2, h3⟩ := h
    exact Dns.cons h2 (Dns.append h3 k)
theorem Dns.drop : ∀ {ds : List D} {vs : List V} (n : Nat), Dns K G ds vs → Dns K G (ds.drop n) (vs.drop n)
  | _, _, 0, h => h
  | [], vs, n + 1, h => by
    unfold Dns at h
    subst h; exact Dns.nil
  | _ :: _, _, n + 1, h => by
    obtain ⟨_, r, rfl, _, h3⟩ := h
    exact Dns.drop n h3
theorem Dns.take : ∀ {ds : List D} {vs : List V} (n : Nat), Dns K G ds vs → Dns K G (ds.take n) (vs.take n)
  | _, _, 0, h => Dns.nil
  | [], vs, n + 1, h => by
    unfold Dns at h
    subst h; exact Dns.nil
  | _ :: _, _, n + 1, h => by
    obtain ⟨_, r, rfl, h2, h3⟩ := h
    exact Dns.cons h2 (Dns.take n h3)
theorem Dns.rev : ∀ {ds : List D} {vs : List V}, Dns K G ds vs → Dns K G ds.reverse vs.reverse
  | [], vs, h => by
    unfold Dns at h
    subst h; exact Dns.nil
  | _ :: _, _, h => by
    obtain ⟨_, r, rfl, h2, h3⟩ := h
    rw [List.reverse_cons, List.reverse_cons]
    exact Dns.append (Dns.rev h3) (Dns.cons h2 Dns.nil)
theorem Dns.eraseIdx : ∀ {ds : List D} {vs : List V} (i : Nat), Dns K G ds vs → Dns K G (ds.eraseIdx i) (vs.eraseIdx i)
  | [], vs, i, h => by
    unfold Dns at h
    subst h; exact Dns.nil
  | _ :: _, _, 0, h => by
    obtain ⟨_, r, rfl, h2, h3⟩ := h
    exact h3
  | _ :: _, _, i + 1, h => by
    obtain ⟨_, r, rfl, h2, h3⟩ := h
    exact Dns.cons h2 (Dns.eraseIdx i h3)
end

/-! ### slots, the entry, the state -/
/-- a slot: unknown; data; a list of its own; an instance of its own -/
inductive Sl where
  | no | d (x : D) | m (xs : List D) | o (c : Str) (ns : List Str) (xs : List D)
def SlR (K : PySem.W.Frag) (G H : Hp) : Sl → Option V → Prop
  | .no, _ => True
  | .d x, v => ∃ u, v = some u ∧ Dn K G x u
  | .m xs, v => ∃ a vs, v = some (.ref a) ∧ H a = some (.lst vs) ∧ G a = none ∧ Dns K G xs vs
  | .o c ns xs, v => ∃ a dx fs, v = some (.ref a) ∧ H a = some (.ins (He.ga K c) dx fs) ∧ G a = none ∧ fs.map (·.1) = ns ∧ Dns K G xs (fs.map (·.2))
/-- the address of what a slot may change -/
def mad : Sl → Option V → Option Addr
  | .m _, some (.ref a) => some a
  | .o _ _ _, some (.ref a) => some a
  | _, _ => none
/-- the entry of a def: its heap, its data, the addresses of what was handed in to be changed, their slots, the slots at the entry -/
structure En where
  H0 : Hp
  G0 : Hp
  bor : List Addr
  B : List Nat
  s0 : L2.St

structure Sim (K : PySem.W.Frag) (e : En) (G H : Hp) (σ : L2.St) (ρ : List Sl) : Prop where
  ex : Same G H
  len : σ.length = ρ.length
  rel : ∀ (i : Nat) (s : Sl), ρ[i]? = some s → ∃ v, σ[i]? = some v ∧ SlR K G H s v
  sep : ∀ (i j : Nat) (s t : Sl) (v w : Option V) (a : Addr), ρ[i]? = some s → ρ[j]? = some t → σ[i]? = some v → σ[j]? = some w → mad s v = some a → mad t w = some a → i = j
  own : ∀ (i : Nat) (s : Sl) (v : Option V) (a : Addr), ρ[i]? = some s → σ[i]? = some v → mad s v = some a → (i ∈ e.B ∧ a ∈ e.bor) ∨ (i ∉ e.B ∧ e.H0 a = none)
  keep : ∀ a o, e.H0 a = some o → a ∉ e.bor → H a = some o
  new : ∀ a o, G a = some o → e.G0 a = some o ∨ e.H0 a = none
  there : ∀ a ∈ e.bor, ∃ o, H a = some o
  bs : ∀ i ∈ e.B, σ[i]? = e.s0[i]?

section
variable {K : PySem.W.Frag} {e : En} {G H G' H' : Hp} {σ : L2.St} {ρ : List Sl}
theorem SlR.mono {s : Sl} {v : Option V} (g : Same G G') (h : ∀ a o, mad s v = some a → H a = some o → H' a = some o ∧ G' a = none) (r : SlR K G H s v) : SlR K G' H' s v := by
  cases s with
  | no => trivial
  | d x =>
    obtain ⟨u, h1, h2⟩ := r
    exact ⟨u, h1, Dn.mono g _ _ h2⟩
  | m xs =>
    obtain ⟨a, vs, h1, h2, h3, h4⟩ := r
    subst h1
    obtain ⟨q1, q2⟩ := h a _ rfl h2
    exact ⟨a, vs, rfl, q1, q2, Dns.mono g _ _ h4⟩
  | o c ns xs =>
    obtain ⟨a, dx, fs, h1, h2, h3, h4, h5⟩ := r
    subst h1
    obtain ⟨q1, q2⟩ := h a _ rfl h2
    exact ⟨a, dx, fs, rfl, q1, q2, h4, Dns.mono g _ _ h5⟩
theorem SlR.madH {s : Sl} {v : Option V} {a : Addr} (r : SlR K G H s v) (m : mad s v = some a) : (∃ o, H a = some o) ∧ G a = none := by
  cases s with
  | no => cases v with
    | none => cases m
    | some u => cases u <;> cases m
  | d x => cases v with
    | none => cases m
    | some u => cases u <;> cases m
  | m xs =>
    obtain ⟨b, vs, h1, h2, h3, h4⟩ := r
    subst h1
    have e : b = a := Option.some.inj m
    subst e
    exact ⟨⟨_, h2⟩, h3⟩
  | o c ns xs =>
    obtain ⟨b, dx, fs, h1, h2, h3, h4, h5⟩ := r
    subst h1
    have e : b = a := Option.some.inj m
    subst e
    exact ⟨⟨_, h2⟩, h3⟩
/-- a new object that is data -/
theorem Sim.alloc {p : Addr} {o : HO} (S : Sim K e G H σ ρ) (hp : H p = none) : Sim K e (upd G p o) (upd H p o) σ ρ := by
  have gp : G p = none := by
    cases q : G p with
    | none => rfl
    | some u =>
      have z := S.ex p u q
      rw [hp] at z
      cases z
  refine ⟨fun a u h => ?_, S.len, fun i s hs => ?_, S.sep, S.own, fun a u h n => ?_, fun a u h => ?_, fun a ha => ?_, S.bs⟩
  · by_cases q : a = p
    · subst q
      rw [upd_same] at h ⊢
      exact h
    · rw [upd_ne q] at h ⊢
      exact S.ex a u h
  · obtain ⟨v, h1, h2⟩ := S.rel i s hs
    refine ⟨v, h1, h2.mono (same_new gp) fun a u ma ha => ?_⟩
    have na : a ≠ p := ne_of_none ha hp
    rw [upd_ne na, upd_ne na]
    exact ⟨ha, (h2.madH ma).2⟩
  · have z := S.keep a u h n
    rw [upd_ne (ne_of_none z hp)]
    exact z
  · by_cases q : a = p
    · subst q
      right
      cases z : e.H0 a with
      | none => rfl
      | some w =>
        by_cases nb : a ∈ e.bor
        · obtain ⟨w2, z2⟩ := S.there a nb
          rw [hp] at z2; cases z2
        · have z2 := S.keep a w z nb
          rw [hp] at z2; cases z2
    · rw [upd_ne q] at h
      exact S.new a u h
  · obtain ⟨u, h⟩ := S.there a ha
    exact ⟨u, by rw [upd_ne (ne_of_none h hp)]; exact h⟩
/-- what is not tracked now was not at the entry -/
theorem Sim.fresh0 {p : Addr} (S : Sim K e G H σ ρ) (hp : H p = none) : e.H0 p = none := by
  cases z : e.H0 p with
  | none => rfl
  | some w =>
    by_cases nb : p ∈ e.bor
    · obtain ⟨w2, z2⟩ := S.there p nb
      rw [hp] at z2; cases z2
    · have z2 := S.keep p w z nb
      rw [hp] at z2; cases z2
theorem Sim.freshG {p : Addr} (S : Sim K e G H σ ρ) (hp : H p = none) : G p = none := by
  cases q : G p with
  | none => rfl
  | some u =>
    have z := S.ex p u q
    rw [hp] at z
    cases z
/-- a new object of its own (a list that is held by no slot yet) -/
theorem Sim.allocM {p : Addr} {o : HO} (S : Sim K e G H σ ρ) (hp : H p = none) : Sim K e G (upd H p o) σ ρ := by
  refine ⟨fun a u h => ?_, S.len, fun i s hs => ?_, S.sep, S.own, fun a u h n => ?_, S.new, fun a ha => ?_, S.bs⟩
  · have z := S.ex a u h
    rw [upd_ne (ne_of_none z hp)]
    exact z
  · obtain ⟨v, h1, h2⟩ := S.rel i s hs
    refine ⟨v, h1, h2.mono (same_refl G) fun a u ma ha => ?_⟩
    rw [upd_ne (ne_of_none ha hp)]
    exact ⟨ha, (h2.madH ma).2⟩
  · have z := S.keep a u h n
    rw [upd_ne (ne_of_none z hp)]
    exact z
  · obtain ⟨u, h⟩ := S.there a ha
    exact ⟨u, by rw [upd_ne (ne_of_none h hp)]; exact h⟩
/-- an own list becomes data -/
theorem Sim.freeze {p : Addr} {o : HO} (S : Sim K e G H σ ρ) (hp : H p = some o) (gp : G p = none) (h0 : e.H0 p = none) (nm : ∀ (i : Nat) (s : Sl) (v : Option V), ρ[i]? = some s → σ[i]? = some v → mad s v ≠ some p) : Sim K e (upd G p o) H σ ρ := by
  refine ⟨fun a u h => ?_, S.len, fun i s hs => ?_, S.sep, S.own, S.keep, fun a u h => ?_, S.there, S.bs⟩
  · by_cases q : a = p
    · subst q
      rw [upd_same] at h
      rw [hp]; exact h
    · rw [upd_ne q] at h
      exact S.ex a u h
  · obtain ⟨v, h1, h2⟩ := S.rel i s hs
    refine ⟨v, h1, h2.mono (same_new gp) fun a u ma ha => ?_⟩
    have na : a ≠ p := fun z => nm i s v hs h1 (by rw [ma, z])
    rw [upd_ne na]
    exact ⟨ha, (h2.madH ma).2⟩
  · by_cases q : a = p
    · subst q
      exact Or.inr h0
    · rw [upd_ne q] at h
      exact S.new a u h
/-- a slot is forgotten -/
theorem Sim.drop (S : Sim K e G H σ ρ) (i : Nat) : Sim K e G H σ (ρ.set i .no) := by
  have key : ∀ (j : Nat) (t : Sl), (ρ.set i Sl.no)[j]? = some t → t = .no ∨ ρ[j]? = some t := fun j t h => by
    by_cases q : i = j
    · subst q
      by_cases l : i < ρ.length
      · rw [List.getElem?_set_self l] at h
        exact .inl (Option.some.inj h).symm
      · rw [List.getElem?_eq_none (by simpa using l)] at h
        cases h
    · rw [List.getElem?_set_ne q] at h
      exact .inr h
  have nomad : ∀ v a, mad .no v ≠ some a := fun v a z => by
    cases v with
    | none => cases z
    | some u => cases u <;> cases z
  refine ⟨S.ex, by simpa using S.len, fun j t h => ?_, fun i j s t v w a h1 h2 h3 h4 m1 m2 => ?_, fun j t v a h hv ma => ?_, S.keep, S.new, S.there, S.bs⟩
  · rcases key j t h with z | z
    · have l : j < σ.length := by
        rw [S.len]
        have := (List.getElem?_eq_some_iff.mp h).1
        simpa using this
      exact ⟨σ[j], List.getElem?_eq_getElem l, by rw [z]; trivial⟩
    · exact S.rel j t z
  · rcases key i s h1 with z | z1
    · subst z; exact absurd m1 (nomad _ _)
    · rcases key j t h2 with z | z2
      · subst z; exact absurd m2 (nomad _ _)
      · exact S.sep i j s t v w a z1 z2 h3 h4 m1 m2
  · rcases key j t h with z | z
    · subst z; exact absurd ma (nomad _ _)
    · exact S.own j t v a z hv ma
end
end DL
end

section
set_option Elab.async false
set_option linter.all false
set_option maxRecDepth 100000
set_option maxHeartbeats 4000000
namespace DL
open PySem PySem.Spec PyProof.Rows L2

/-! ### what a piece of code hands back -/
inductive Out (α : Type) where
  | ok (a : α) (ρ : List Sl) | exc (c : Str) (ns : List Str) (xs : List D) (ρ : List Sl) | bad
def Out.bind {α β : Type} (o : Out α) (g : α → List Sl → Out β) : Out β := match o with
  | .ok a ρ => g a ρ
  | .exc c ns xs ρ => .exc c ns xs ρ
  | .bad => .bad
def ofO {α : Type} (o : Option α) (ρ : List Sl) : Out α := match o with
  | some a => .ok a ρ
  | none => .bad
abbrev Ex (α : Type) := List Sl → Out α

/-- what follows -/
def Cont {α : Type} (K : PySem.W.Frag) (e : En) (W : WX) (σ : L2.St) (G : Hp) (o : Out α) (P : α → List Sl → Hp → Hp → Prop) : Prop := match o with
  | .ok a ρ => ∀ G' H', Same G G' → Sim K e G' H' σ ρ → P a ρ G' H'
  | .exc c ns xs ρ => ∀ G' H' dd gs, Same G G' → Sim K e G' H' σ ρ → H' dd = some (.xd gs) → gs.map (·.1) = ns → Dns K G' xs (gs.map (·.2)) → W (.ref (He.ga K c)) (some dd) σ H'
  | .bad => False
section
variable {α β : Type} {K : PySem.W.Frag} {e : En} {W : WX} {σ : L2.St} {G G' : Hp} {o : Out α}
theorem Cont.imp {P P' : α → List Sl → Hp → Hp → Prop} (h : Cont K e W σ G o P) (k : ∀ a ρ G' H', Same G G' → Sim K e G' H' σ ρ → P a ρ G' H' → P' a ρ G' H') : Cont K e W σ G o P' := by
  cases o with
  | ok a ρ => exact fun G' H' s S => k a ρ G' H' s S (h G' H' s S)
  | exc c ns xs ρ => exact h
  | bad => exact h
theorem Cont.mono {P : α → List Sl → Hp → Hp → Prop} (g : Same G G') (h : Cont K e W σ G o P) : Cont K e W σ G' o P := by
  cases o with
  | ok a ρ => exact fun G1 H1 s S => h G1 H1 (same_trans g s) S
  | exc c ns xs ρ => exact fun G1 H1 dd gs s S => h G1 H1 dd gs (same_trans g s) S
  | bad => exact h
theorem Cont.bind {g : α → List Sl → Out β} {P : β → List Sl → Hp → Hp → Prop} (h : Cont K e W σ G (o.bind g) P) : Cont K e W σ G o fun a ρ G1 _ => Cont K e W σ G1 (g a ρ) P := by
  cases o with
  | ok a ρ => exact fun G' H' s S => Cont.mono s h
  | exc c ns xs ρ => exact h
  | bad => exact h
end

/-! ### readings made of what is handed back -/
section
variable (K : PySem.W.Frag) (B : List Nat) (W : WX)
/-- data -/
def tD (f : Ex D) : TE := fun σ H Q => ∃ (e : En) (G : Hp) (ρ : List Sl), e.B = B ∧ Sim K e G H σ ρ ∧ Cont K e W σ G (f ρ) fun d _ G' H' => ∀ v, Dn K G' d v → Q v H'
/-- a new list that nobody else holds -/
def tM (f : Ex (List D)) : TE := fun σ H Q => ∃ (e : En) (G : Hp) (ρ : List Sl), e.B = B ∧ Sim K e G H σ ρ ∧ Cont K e W σ G (f ρ) fun xs ρ' G' H' =>
  ∀ a vs, H' a = some (.lst vs) → G' a = none → e.H0 a = none → (∀ (i : Nat) (s : Sl) (u : Option V), ρ'[i]? = some s → σ[i]? = some u → mad s u ≠ some a) → Dns K G' xs vs → Q (.ref a) H'
/-- a sequence to be looked at (b: a tuple) -/
def tP (f : Ex (Bool × List D)) : TE := fun σ H Q => ∃ (e : En) (G : Hp) (ρ : List Sl), e.B = B ∧ Sim K e G H σ ρ ∧ Cont K e W σ G (f ρ) fun p _ G' H' =>
  ∀ a vs, (if p.1 = true then SqT K H' a vs else SqL K H' a vs) → Dns K G' p.2 vs → Q (.ref a) H'
def tT (f : Ex Bool) : TT := fun σ H Q => ∃ (e : En) (G : Hp) (ρ : List Sl), e.B = B ∧ Sim K e G H σ ρ ∧ Cont K e W σ G (f ρ) fun b _ _ H' => Q b H'
end
/-- an argument: data, or what the slot i holds, to be changed -/
inductive AV where
  | dv (x : D) | mv (i : Nat)
def Avs (K : PySem.W.Frag) (G : Hp) (σ : L2.St) : List AV → List V → Prop
  | [], vs => vs = []
  | .dv x :: as, vs => ∃ v r, vs = v :: r ∧ Dn K G x v ∧ Avs K G σ as r
  | .mv i :: as, vs => ∃ v r, vs = v :: r ∧ σ[i]? = some (some v) ∧ Avs K G σ as r
def tA (K : PySem.W.Frag) (B : List Nat) (W : WX) (f : Ex (List AV)) : TA := fun σ H Q => ∃ (e : En) (G : Hp) (ρ : List Sl), e.B = B ∧ Sim K e G H σ ρ ∧ Cont K e W σ G (f ρ) fun as _ G' H' => ∀ vs, Avs K G' σ as vs → Q vs H'

/-- the judgements -/
abbrev DE (X : Cx) (B : List Nat) (W : WX) (e : Expr) (f : Ex D) : Prop := PE X e (tD X.K B W f)
abbrev DM (X : Cx) (B : List Nat) (W : WX) (e : Expr) (f : Ex (List D)) : Prop := PE X e (tM X.K B W f)
abbrev DP (X : Cx) (B : List Nat) (W : WX) (e : Expr) (f : Ex (Bool × List D)) : Prop := PE X e (tP X.K B W f)
abbrev DT (X : Cx) (B : List Nat) (W : WX) (e : Expr) (f : Ex Bool) : Prop := PT X e (tT X.K B W f)
abbrev DA (X : Cx) (B : List Nat) (W : WX) (es : List Expr) (f : Ex (List AV)) : Prop := PA X es (tA X.K B W f)
theorem pe_imp {X : Cx} {e : Expr} {t t' : TE} (h : PE X e t) (k : ∀ σ H Q, t' σ H Q → t σ H Q) : PE X e t' := ⟨fun pins s σ H Q I q => h.run pins s σ H Q I (k σ H Q q)⟩
theorem pt_imp {X : Cx} {e : Expr} {t t' : TT} (h : PT X e t) (k : ∀ σ H Q, t' σ H Q → t σ H Q) : PT X e t' := ⟨fun pins s σ H Q I q => h.run pins s σ H Q I (k σ H Q q)⟩
theorem pw_imp {X : Cx} {e : Expr} {t t' : TT} (h : PW X e t) (k : ∀ σ H Q, t' σ H Q → t σ H Q) : PW X e t' := ⟨fun wh pins s σ H Q I q => h.run wh pins s σ H Q I (k σ H Q q)⟩
theorem pa_imp {X : Cx} {es : List Expr} {t t' : TA} (h : PA X es t) (k : ∀ σ H Q, t' σ H Q → t σ H Q) : PA X es t' := ⟨fun pos pins s σ H Q I q => h.run pos pins s σ H Q I (k σ H Q q)⟩

/-! ### names, constants -/
def nm (i : Nat) : Ex D := fun ρ => match ρ[i]? with
  | some (.d x) => .ok x ρ
  | _ => .bad
def cst (d : D) : Ex D := fun ρ => .ok d ρ
/-- the slot's own list becomes data -/
def nmF (B : List Nat) (i : Nat) : Ex D := fun ρ => match ρ[i]? with
  | some (.m xs) => if i ∈ B then .bad else .ok (.lst xs) (ρ.set i (.d (.lst xs)))
  | some (.o c ns xs) => if i ∈ B then .bad else .ok (.ins c ns xs) (ρ.set i (.d (.ins c ns xs)))
  | _ => .bad
/-- the slot's own list, looked at -/
def nmP (i : Nat) : Ex (Bool × List D) := fun ρ => match ρ[i]? with
  | some (.m xs) => .ok (false, xs) ρ
  | _ => .bad
/-- data looked at -/
def pk (f : Ex D) : Ex (Bool × List D) := fun ρ => (f ρ).bind fun d ρ' => match d with
  | .lst xs => .ok (false, xs) ρ'
  | .tup xs => .ok (true, xs) ρ'
  | _ => .bad
/-- a new list looked at -/
def pkM (f : Ex (List D)) : Ex (Bool × List D) := fun ρ => (f ρ).bind fun xs ρ' => .ok (false, xs) ρ'
/-- a new list becomes data -/
def frz (f : Ex (List D)) : Ex D := fun ρ => (f ρ).bind fun xs ρ' => .ok (.lst xs) ρ'

section
variable {X : Cx} {B : List Nat} {W : WX}
theorem dnm (i : Nat) {x : Str} {pos : Pos} (hN : X.N[i]? = some x := by rfl) (hv : Vis X.env.scope x := by first | exact Or.inl rfl | exact Or.inr (Or.inl rfl) | exact Or.inr (Or.inr rfl)) (hd : (x == ("__debug__" : Str)) = false := by decide)
    (hcd : (x == ("__classdict__" : Str)) = false := by decide) : DE X B W (.Name x pos) (nm i) := by
  refine pe_imp (pe_var hN hv hd hcd) fun σ H Q h => ?_
  obtain ⟨e, G, ρ, rfl, S, h⟩ := h
  unfold nm at h
  split at h
  · rename_i x' hx
    obtain ⟨v, h1, u, rfl, h3⟩ := S.rel _ _ hx
    exact ⟨u, h1, h G H (same_refl G) S u h3⟩
  · exact h.elim
theorem dnmP (i : Nat) {x : Str} {pos : Pos} (hN : X.N[i]? = some x := by rfl) (hv : Vis X.env.scope x := by first | exact Or.inl rfl | exact Or.inr (Or.inl rfl) | exact Or.inr (Or.inr rfl)) (hd : (x == ("__debug__" : Str)) = false := by decide)
    (hcd : (x == ("__classdict__" : Str)) = false := by decide) : DP X B W (.Name x pos) (nmP i) := by
  refine pe_imp (pe_var hN hv hd hcd) fun σ H Q h => ?_
  obtain ⟨e, G, ρ, rfl, S, h⟩ := h
  unfold nmP at h
  split at h
  · rename_i xs hx
    obtain ⟨v, h1, a, vs, rfl, h3, h4, h5⟩ := S.rel _ _ hx
    exact ⟨_, h1, h G H (same_refl G) S a vs (SqL.of h3) h5⟩
  · exact h.elim
theorem set_cases {ρ : List Sl} {i j : Nat} {s t : Sl} (h : (ρ.set i s)[j]? = some t) : (j = i ∧ t = s) ∨ (j ≠ i ∧ ρ[j]? = some t) := by
  by_cases q : i = j
  · subst q
    by_cases l : i < ρ.length
    · rw [List.getElem?_set_self l] at h
      exact .inl ⟨rfl, (Option.some.inj h).symm⟩
    · rw [List.getElem?_eq_none (by simpa using l)] at h
      cases h
  · rw [List.getElem?_set_ne q] at h
    exact .inr ⟨fun z => q z.symm, h⟩
theorem mad_d {x : D} {v : Option V} {a : Addr} : mad (.d x) v ≠ some a := fun z => by
  cases v with
  | none => cases z
  | some u => cases u <;> cases z
theorem mad_no {v : Option V} {a : Addr} : mad .no v ≠ some a := fun z => by
  cases v with
  | none => cases z
  | some u => cases u <;> cases z
/-- the slot's own object becomes data -/
theorem Sim.freezeSlot {K : PySem.W.Frag} {e : En} {G H : Hp} {σ : L2.St} {ρ : List Sl} {i : Nat} {s : Sl} {d : D} {u : V} {a : Addr} {o : HO} (S : Sim K e G H σ ρ) (hs : ρ[i]? = some s) (hv : σ[i]? = some (some u)) (hm : mad s (some u) = some a) (hB : i ∉ e.B)
    (ho : H a = some o) (gn : G a = none) (hd : Dn K (upd G a o) d u) : Sim K e (upd G a o) H σ (ρ.set i (.d d)) := by
  have nom : ∀ (j : Nat) (t : Sl) (w : Option V), j ≠ i → ρ[j]? = some t → σ[j]? = some w → mad t w ≠ some a := fun j t w nj h1 h2 z => nj (S.sep j i t s w (some u) a h1 hs h2 hv z hm)
  have h0 : e.H0 a = none := by
    rcases S.own i s (some u) a hs hv hm with ⟨q, _⟩ | ⟨_, q⟩
    · exact absurd q hB
    · exact q
  refine ⟨fun b w h => ?_, by simpa using S.len, fun j t h => ?_, fun j k t t' w w' b h1 h2 h3 h4 m1 m2 => ?_, fun j t w b h1 h2 m => ?_, S.keep, fun b w h => ?_, S.there, S.bs⟩
  · by_cases q : b = a
    · subst q
      rw [upd_same] at h
      rw [ho]; exact h
    · rw [upd_ne q] at h
      exact S.ex b w h
  · rcases set_cases h with ⟨rfl, rfl⟩ | ⟨nj, h⟩
    · exact ⟨some u, hv, u, rfl, hd⟩
    · obtain ⟨w, h1, h2⟩ := S.rel j t h
      refine ⟨w, h1, h2.mono (same_new gn) fun b z mb hb => ?_⟩
      have nb : b ≠ a := fun z => nom j t w nj h h1 (by rw [mb, z])
      rw [upd_ne nb]
      exact ⟨hb, (h2.madH mb).2⟩
  · rcases set_cases h1 with ⟨rfl, rfl⟩ | ⟨nj, h1⟩
    · exact absurd m1 mad_d
    · rcases set_cases h2 with ⟨rfl, rfl⟩ | ⟨nk, h2⟩
      · exact absurd m2 mad_d
      · exact S.sep j k t t' w w' b h1 h2 h3 h4 m1 m2
  · rcases set_cases h1 with ⟨rfl, rfl⟩ | ⟨nj, h1⟩
    · exact absurd m mad_d
    · exact S.own j t w b h1 h2 m
  · by_cases q : b = a
    · subst q
      exact Or.inr h0
    · rw [upd_ne q] at h
      exact S.new b w h
theorem dnmF (i : Nat) {x : Str} {pos : Pos} (hN : X.N[i]? = some x := by rfl) (hv : Vis X.env.scope x := by first | exact Or.inl rfl | exact Or.inr (Or.inl rfl) | exact Or.inr (Or.inr rfl)) (hd : (x == ("__debug__" : Str)) = false := by decide)
    (hcd : (x == ("__classdict__" : Str)) = false := by decide) : DE X B W (.Name x pos) (nmF B i) := by
  refine pe_imp (pe_var hN hv hd hcd) fun σ H Q h => ?_
  obtain ⟨e, G, ρ, rfl, S, h⟩ := h
  unfold nmF at h
  split at h
  · rename_i xs hx
    split at h
    · exact h.elim
    · rename_i nB
      obtain ⟨v, h1, a, vs, rfl, h3, h4, h5⟩ := S.rel _ _ hx
      have hd : Dn X.K (upd G a (.lst vs)) (.lst xs) (.ref a) := ⟨a, vs, rfl, SqL.of upd_same, Dns.mono (same_new h4) _ _ h5⟩
      exact ⟨_, h1, h _ H (same_new h4) (S.freezeSlot hx h1 rfl nB h3 h4 hd) _ hd⟩
  · rename_i c ns xs hx
    split at h
    · exact h.elim
    · rename_i nB
      obtain ⟨v, h1, a, dx, fs, rfl, h3, h4, h5, h6⟩ := S.rel _ _ hx
      have hd : Dn X.K (upd G a (.ins (He.ga X.K c) dx fs)) (.ins c ns xs) (.ref a) := ⟨a, dx, fs, rfl, upd_same, h5, Dns.mono (same_new h4) _ _ h6⟩
      exact ⟨_, h1, h _ H (same_new h4) (S.freezeSlot hx h1 rfl nB h3 h4 hd) _ hd⟩
  · exact h.elim
theorem dcst {v : V} {d : D} {e : Expr} (h : PE X e (tC v)) (hd : ∀ K G, Dn K G d v) : DE X B W e (cst d) := by
  refine pe_imp h fun σ H Q h => ?_
  obtain ⟨e, G, ρ, rfl, S, h⟩ := h
  exact h G H (same_refl G) S v (hd _ _)
theorem dint {i : Int} {j pos} : DE X B W (.Constant (.int i) j pos) (cst (.int i)) := dcst pe_int fun _ _ => rfl
theorem dbl {b : Bool} {j pos} : DE X B W (.Constant (.bool b) j pos) (cst (.bl b)) := dcst pe_bl fun _ _ => rfl
theorem dnon {j pos} : DE X B W (.Constant .none j pos) (cst .non) := dcst pe_non fun _ _ => rfl
theorem dstr {x : Str} {j pos} : DE X B W (.Constant (.str x) j pos) (cst (.str x)) := dcst pe_str fun _ _ => rfl
/-- a module's constant that is data -/
theorem dglob {x : Str} {u : Value} {v : V} {d : D} {pos : Pos} (hg : Gl X x) (hm : X.mg x = some u) (r : RelV v u) (hd : ∀ G, Dn X.K G d v) (hdb : (x == ("__debug__" : Str)) = false := by decide) : DE X B W (.Name x pos) (cst d) := by
  refine pe_imp (pe_glob hg hm r hdb) fun σ H Q h => ?_
  obtain ⟨e, G, ρ, rfl, S, h⟩ := h
  exact h G H (same_refl G) S v (hd _)

/-! ### looked at, frozen -/
theorem dpk {e : Expr} {f : Ex D} (h : DE X B W e f) : DP X B W e (pk f) := by
  refine pe_imp h fun σ H Q h => ?_
  obtain ⟨e, G, ρ, rfl, S, h⟩ := h
  refine ⟨e, G, ρ, rfl, S, (Cont.bind h).imp fun d ρ' G' H' g S' k v hv => ?_⟩
  cases d with
  | lst xs =>
    obtain ⟨a, vs, rfl, h1, h2⟩ := hv
    exact k G' H' (same_refl G') S' a vs (sql_mono S'.ex h1) h2
  | tup xs =>
    obtain ⟨a, vs, rfl, h1, h2⟩ := hv
    exact k G' H' (same_refl G') S' a vs (sqt_mono S'.ex h1) h2
  | _ => exact k.elim
theorem dpkM {e : Expr} {f : Ex (List D)} (h : DM X B W e f) : DP X B W e (pkM f) := by
  refine pe_imp h fun σ H Q h => ?_
  obtain ⟨e, G, ρ, rfl, S, h⟩ := h
  exact ⟨e, G, ρ, rfl, S, (Cont.bind h).imp fun xs ρ' G' H' g S' k a vs ha gn h0 nm hd => k G' H' (same_refl G') S' a vs (SqL.of ha) hd⟩
theorem dfrz {e : Expr} {f : Ex (List D)} (h : DM X B W e f) : DE X B W e (frz f) := by
  refine pe_imp h fun σ H Q h => ?_
  obtain ⟨e, G, ρ, rfl, S, h⟩ := h
  refine ⟨e, G, ρ, rfl, S, (Cont.bind h).imp fun xs ρ' G' H' g S' k a vs ha gn h0 nm hd => ?_⟩
  exact k (upd G' a (.lst vs)) H' (same_new gn) (S'.freeze ha gn h0 nm) _ ⟨a, vs, rfl, SqL.of upd_same, Dns.mono (same_new gn) _ _ hd⟩

/-! ### operators -/
/-- what an operation on data asks, and gives -/
def rD (K : PySem.W.Frag) (op : D → D → Option D) : R2 := fun x y H Q => ∃ (G : Hp) (d1 d2 z : D), Same G H ∧ Dn K G d1 x ∧ Dn K G d2 y ∧ op d1 d2 = some z ∧ ∀ v, Dn K G z v → Q v H
abbrev OpD (X : Cx) (f : Value → Value → Sem Value) (op : D → D → Option D) : Prop := OpR X f (rD X.K op)
theorem opr_imp {f : Value → Value → Sem Value} {r r' : R2} (h : OpR X f r) (k : ∀ x y H Q, r' x y H Q → r x y H Q) : OpR X f r' := fun pins s σ H x y v u Q I rx ry q => h pins s σ H x y v u Q I rx ry (k x y H Q q)
def bin (op : D → D → Option D) (f g : Ex D) : Ex D := fun ρ => (f ρ).bind fun x ρ1 => (g ρ1).bind fun y ρ2 => ofO (op x y) ρ2
theorem bin_imp {op : D → D → Option D} {f g : Ex D} {σ : L2.St} {H : Hp} {Q : VK} (h : tD X.K B W (bin op f g) σ H Q) : tOp (rD X.K op) (tD X.K B W f) (tD X.K B W g) σ H Q := by
  obtain ⟨e, G, ρ, rfl, S, h⟩ := h
  refine ⟨e, G, ρ, rfl, S, (Cont.bind h).imp fun x ρ1 G1 H1 g1 S1 k v hv => ?_⟩
  refine ⟨e, G1, ρ1, rfl, S1, (Cont.bind k).imp fun y ρ2 G2 H2 g2 S2 k2 u hu => ?_⟩
  cases hz : op x y with
  | none =>
    rw [hz] at k2
    exact k2.elim
  | some z =>
    rw [hz] at k2
    exact ⟨G2, x, y, z, S2.ex, Dn.mono g2 _ _ hv, hu, hz, fun w hw => k2 G2 H2 (same_refl G2) S2 w hw⟩
theorem dbin {a b : Expr} {o : Operator} {op : D → D → Option D} {f g : Ex D} {pos : Pos} (ho : OpD X (binaryOp o) op) (ha : DE X B W a f) (hb : DE X B W b g) : DE X B W (.BinOp a o b pos) (bin op f g) :=
  pe_imp (pe_op ho ha hb) fun _ _ _ h => bin_imp h
theorem dcmp {a b : Expr} {o : CmpOp} {op : D → D → Option D} {f g : Ex D} {pos : Pos} (ho : OpD X (compareOp o) op) (ha : DE X B W a f) (hb : DE X B W b g) (hm : behindInMarks o b = false := by first | exact nobehind _ (by decide) (by decide) | rfl) :
    DE X B W (.Compare a [o] [b] pos) (bin op f g) := pe_imp (pe_cmpR ho ha hb hm) fun _ _ _ h => bin_imp h
/-- a value that is a truth value, as a test -/
def tb (f : Ex D) : Ex Bool := fun ρ => (f ρ).bind fun d ρ' => match d with
  | .bl b => .ok b ρ'
  | _ => .bad
theorem tb_imp {t : TE} {f : Ex D} {σ : L2.St} {H : Hp} {Q : Bool → Hp → Prop} (h : tT X.K B W (tb f) σ H Q) (k : ∀ Q', tD X.K B W f σ H Q' → t σ H Q') : t σ H fun x H' => ∃ k, x = .bl k ∧ Q k H' := by
  obtain ⟨e, G, ρ, rfl, S, h⟩ := h
  refine k _ ⟨e, G, ρ, rfl, S, (Cont.bind h).imp fun d ρ' G' H' g S' q v hv => ?_⟩
  cases d with
  | bl b =>
    obtain rfl : v = .bl b := hv
    exact ⟨b, rfl, q G' H' (same_refl G') S'⟩
  | _ => exact q.elim
theorem tcmp {a b : Expr} {o : CmpOp} {op : D → D → Option D} {f g : Ex D} {pos : Pos} (ho : OpD X (compareOp o) op) (ha : DE X B W a f) (hb : DE X B W b g) (hm : behindInMarks o b = false := by first | exact nobehind _ (by decide) (by decide) | rfl) :
    DT X B W (.Compare a [o] [b] pos) (tb (bin op f g)) := pt_imp (pt_cmpR ho ha hb hm) fun σ H Q h => tb_imp h fun _ q => bin_imp q
/-- a call, a name .. that gives a truth value -/
theorem tval {e : Expr} {f : Ex D} (h : DE X B W e f) (he : ∀ whole, isTrue e X.env whole = (do let v ← whole; standAt e.pos; holding [v] (truthy v)) := by intro _; rfl) : DT X B W e (tb f) :=
  pt_imp (pt_val h he) fun σ H Q h => tb_imp h fun _ q => q
/-- and, or, not as tests -/
def tand (f g : Ex Bool) : Ex Bool := fun ρ => (f ρ).bind fun b ρ1 => if b = true then g ρ1 else .ok false ρ1
def tor (f g : Ex Bool) : Ex Bool := fun ρ => (f ρ).bind fun b ρ1 => if b = true then .ok true ρ1 else g ρ1
def tnot (f : Ex Bool) : Ex Bool := fun ρ => (f ρ).bind fun b ρ1 => .ok (!b) ρ1
abbrev DW (X : Cx) (B : List Nat) (W : WX) (e : Expr) (f : Ex Bool) : Prop := PW X e (tT X.K B W f)
variable {a b : Expr} {rest : List Expr} {pos : Pos} {f g : Ex Bool}
theorem wand1 (ha : DT X B W a f) : DW X B W (.BoolOp .And [a] pos) f := pw_and1 ha
theorem wor1 (ha : DT X B W a f) : DW X B W (.BoolOp .Or [a] pos) f := pw_or1 ha
theorem wand (ha : DT X B W a f) (hb : DW X B W (.BoolOp .And (b :: rest) pos) g) : DW X B W (.BoolOp .And (a :: b :: rest) pos) (tand f g) := by
  refine pw_imp (pw_and ha hb) fun σ H Q h => ?_
  obtain ⟨e, G, ρ, rfl, S, h⟩ := h
  refine ⟨e, G, ρ, rfl, S, (Cont.bind h).imp fun c ρ1 G1 H1 g1 S1 k => ?_⟩
  cases c with
  | true => exact ⟨e, G1, ρ1, rfl, S1, k⟩
  | false => exact k G1 H1 (same_refl G1) S1
theorem wor (ha : DT X B W a f) (hb : DW X B W (.BoolOp .Or (b :: rest) pos) g) : DW X B W (.BoolOp .Or (a :: b :: rest) pos) (tor f g) := by
  refine pw_imp (pw_or ha hb) fun σ H Q h => ?_
  obtain ⟨e, G, ρ, rfl, S, h⟩ := h
  refine ⟨e, G, ρ, rfl, S, (Cont.bind h).imp fun c ρ1 G1 H1 g1 S1 k => ?_⟩
  cases c with
  | true => exact k G1 H1 (same_refl G1) S1
  | false => exact ⟨e, G1, ρ1, rfl, S1, k⟩
theorem tw {e : Expr} (h : DW X B W e f) : DT X B W e f := h.pt
theorem tnot_ (ha : DT X B W a f) : DT X B W (.UnaryOp .Not a pos) (tnot f) := by
  refine pt_imp (pt_not ha) fun σ H Q h => ?_
  obtain ⟨e, G, ρ, rfl, S, h⟩ := h
  exact ⟨e, G, ρ, rfl, S, (Cont.bind h).imp fun c ρ1 G1 H1 g1 S1 k => k G1 H1 (same_refl G1) S1⟩
/-- .. as values -/
def eand (f g : Ex D) : Ex D := fun ρ => (f ρ).bind fun d ρ1 => match d with
  | .bl b => if b = true then g ρ1 else .ok (.bl false) ρ1
  | _ => .bad
def eor (f g : Ex D) : Ex D := fun ρ => (f ρ).bind fun d ρ1 => match d with
  | .bl b => if b = true then .ok (.bl true) ρ1 else g ρ1
  | _ => .bad
def enot (f : Ex D) : Ex D := fun ρ => (f ρ).bind fun d ρ1 => match d with
  | .bl b => .ok (.bl (!b)) ρ1
  | _ => .bad
variable {f' g' : Ex D}
theorem dand (ha : DE X B W a f') (hb : DE X B W (.BoolOp .And (b :: rest) pos) g') : DE X B W (.BoolOp .And (a :: b :: rest) pos) (eand f' g') := by
  refine pe_imp (pe_and ha hb) fun σ H Q h => ?_
  obtain ⟨e, G, ρ, rfl, S, h⟩ := h
  refine ⟨e, G, ρ, rfl, S, (Cont.bind h).imp fun c ρ1 G1 H1 g1 S1 k v hv => ?_⟩
  cases c with
  | bl c =>
    obtain rfl : v = .bl c := hv
    refine ⟨c, rfl, ?_⟩
    cases c with
    | true => exact ⟨e, G1, ρ1, rfl, S1, k⟩
    | false => exact k G1 H1 (same_refl G1) S1 _ rfl
  | _ => exact k.elim
theorem dor (ha : DE X B W a f') (hb : DE X B W (.BoolOp .Or (b :: rest) pos) g') : DE X B W (.BoolOp .Or (a :: b :: rest) pos) (eor f' g') := by
  refine pe_imp (pe_or ha hb) fun σ H Q h => ?_
  obtain ⟨e, G, ρ, rfl, S, h⟩ := h
  refine ⟨e, G, ρ, rfl, S, (Cont.bind h).imp fun c ρ1 G1 H1 g1 S1 k v hv => ?_⟩
  cases c with
  | bl c =>
    obtain rfl : v = .bl c := hv
    refine ⟨c, rfl, ?_⟩
    cases c with
    | true => exact k G1 H1 (same_refl G1) S1 _ rfl
    | false => exact ⟨e, G1, ρ1, rfl, S1, k⟩
  | _ => exact k.elim
theorem done_ {op} {e : Expr} (h : DE X B W e f') : DE X B W (.BoolOp op [e] pos) f' := pe_one h
theorem dnot (ha : DE X B W a f') : DE X B W (.UnaryOp .Not a pos) (enot f') := by
  refine pe_imp (pe_not ha) fun σ H Q h => ?_
  obtain ⟨e, G, ρ, rfl, S, h⟩ := h
  refine ⟨e, G, ρ, rfl, S, (Cont.bind h).imp fun c ρ1 G1 H1 g1 S1 k v hv => ?_⟩
  cases c with
  | bl c =>
    obtain rfl : v = .bl c := hv
    exact ⟨c, rfl, k G1 H1 (same_refl G1) S1 _ rfl⟩
  | _ => exact k.elim
def eif (t : Ex Bool) (f g : Ex D) : Ex D := fun ρ => (t ρ).bind fun b ρ1 => if b = true then f ρ1 else g ρ1
theorem dif {c : Expr} {t : Ex Bool} (hc : DT X B W c t) (ha : DE X B W a f') (hb : DE X B W b g') : DE X B W (.IfExp c a b pos) (eif t f' g') := by
  refine pe_imp (pe_ifExp hc ha hb) fun σ H Q h => ?_
  obtain ⟨e, G, ρ, rfl, S, h⟩ := h
  refine ⟨e, G, ρ, rfl, S, (Cont.bind h).imp fun c ρ1 G1 H1 g1 S1 k => ?_⟩
  cases c with
  | true => exact ⟨e, G1, ρ1, rfl, S1, k⟩
  | false => exact ⟨e, G1, ρ1, rfl, S1, k⟩
end
end DL
end

section
set_option Elab.async false
set_option linter.all false
set_option maxRecDepth 100000
set_option maxHeartbeats 4000000
namespace DL
open PySem PySem.Spec PyProof.Rows L2

/-! ### operations on data -/
def opAdd : D → D → Option D
  | .int i, .int j => some (.int (i + j))
  | .str x, .str y => if x.length + y.length ≤ sizeLine then some (.str (x ++ y)) else none
  | _, _ => none
def opSub : D → D → Option D
  | .int i, .int j => some (.int (i - j))
  | _, _ => none
instance (i j : Int) : Decidable (CMulX i j) := inferInstanceAs (Decidable ((Builtin.Int.intBits i : Int) + (Builtin.Int.intBits j : Int) ≤ 134217728))
instance (i j : Int) : Decidable (CDivW i j) := inferInstanceAs (Decidable (0 < j ∧ j.natAbs.log2 < 9000))
instance (i j : Int) : Decidable (CPow i j) := inferInstanceAs (Decidable (0 ≤ j ∧ j ≤ 1000000 ∧ i.natAbs < 2 ^ 64))
def okMul (i j : Int) : Bool := decide (CMulX i j)
def opMul : D → D → Option D
  | .int i, .int j => if okMul i j = true then some (.int (i * j)) else none
  | _, _ => none
/-- by a positive divisor -/
def okDiv (i j : Int) : Bool := decide (CDivW i j)
def opDiv : D → D → Option D
  | .int i, .int j => if okDiv i j = true then some (.int (i / j)) else none
  | _, _ => none
def opMod : D → D → Option D
  | .int i, .int j => if 0 < j then some (.int (i % j)) else none
  | _, _ => none
def okPow (i j : Int) : Bool := decide (CPow i j)
def opPow : D → D → Option D
  | .int i, .int j => if okPow i j = true then some (.int (i ^ j.toNat)) else none
  | _, _ => none
def opLt : D → D → Option D
  | .int i, .int j => some (.bl (decide (i < j)))
  | _, _ => none
def opLe : D → D → Option D
  | .int i, .int j => some (.bl (decide (i ≤ j)))
  | _, _ => none
def opGt : D → D → Option D
  | .int i, .int j => some (.bl (decide (j < i)))
  | _, _ => none
def opGe : D → D → Option D
  | .int i, .int j => some (.bl (decide (j ≤ i)))
  | _, _ => none
def isNon : D → Bool
  | .non => true
  | _ => false
/-- x is None -/
def opIsN : D → D → Option D
  | x, .non => some (.bl (isNon x))
  | _, _ => none
def opNotN : D → D → Option D
  | x, .non => some (.bl (!isNon x))
  | _, _ => none
mutual
/-- without own instances -/
def D.flat : D → Bool
  | .lst xs => flats xs
  | .tup xs => flats xs
  | .ins _ _ _ => false
  | _ => true
def flats : List D → Bool
  | [] => true
  | d :: ds => d.flat && flats ds
end
mutual
def D.py : D → PyData
  | .non => .none
  | .bl b => .bool b
  | .int i => .int i
  | .str x => .str x
  | .lst xs => .list (pys xs)
  | .tup xs => .tuple (pys xs)
  | .ins _ _ _ => .none
def pys : List D → List PyData
  | [] => []
  | d :: ds => d.py :: pys ds
end
def D.okEq (d : D) : Bool := d.flat && SeqAt.shaped d.py
def D.eqv (d e : D) : Bool := PyData.eqv d.py e.py
def opEq (d e : D) : Option D := if (d.okEq && e.okEq) = true then some (.bl (d.eqv e)) else none
def opNe (d e : D) : Option D := if (d.okEq && e.okEq) = true then some (.bl (!d.eqv e)) else none
/-- x in a list or tuple -/
def opIn : D → D → Option D
  | d, .lst xs => if (d.okEq && D.okEq (.lst xs)) = true then some (.bl (xs.any fun z => z.eqv d)) else none
  | _, _ => none
def opNotIn : D → D → Option D
  | d, .lst xs => if (d.okEq && D.okEq (.lst xs)) = true then some (.bl (!xs.any fun z => z.eqv d)) else none
  | _, _ => none
/-- x in a tuple (or list) of numbers, texts, truth values, None -/
def D.sc : D → Bool
  | .non => true | .bl _ => true | .int _ => true | .str _ => true
  | _ => false
def opInS (neg : Bool) : D → D → Option D
  | d, .lst xs => if (d.sc && xs.all D.sc) = true then some (.bl (if neg then !xs.any fun z => z.eqv d else xs.any fun z => z.eqv d)) else none
  | d, .tup xs => if (d.sc && xs.all D.sc) = true then some (.bl (if neg then !xs.any fun z => z.eqv d else xs.any fun z => z.eqv d)) else none
  | _, _ => none

mutual
theorem dp_of {K : PySem.W.Frag} {G : Hp} : ∀ (d : D) (v : V), d.flat = true → Dn K G d v → Dp K G v d.py
  | .non, v, _, h => by
    obtain rfl : v = .non := h
    exact .non
  | .bl b, v, _, h => by
    obtain rfl : v = .bl b := h
    exact .bl b
  | .int i, v, _, h => by
    obtain rfl : v = .int i := h
    exact .int i
  | .str x, v, _, h => by
    obtain rfl : v = .str x := h
    exact .str x
  | .lst xs, v, f, h => by
    unfold Dn at h
    obtain ⟨a, vs, rfl, h2, h3⟩ := h
    exact .lst h2 (dps_of xs vs (by unfold D.flat at f; exact f) h3)
  | .tup xs, v, f, h => by
    unfold Dn at h
    obtain ⟨a, vs, rfl, h2, h3⟩ := h
    exact .tup h2 (dps_of xs vs (by unfold D.flat at f; exact f) h3)
  | .ins _ _ _, v, f, _ => by
    unfold D.flat at f
    cases f
theorem dps_of {K : PySem.W.Frag} {G : Hp} : ∀ (ds : List D) (vs : List V), flats ds = true → Dns K G ds vs → DpAll K G vs (pys ds)
  | [], vs, _, h => by
    unfold Dns at h
    subst h
    exact .nil
  | d :: ds, vs, f, h => by
    unfold Dns at h
    obtain ⟨v, r, rfl, h2, h3⟩ := h
    unfold flats at f
    obtain ⟨f1, f2⟩ := Bool.and_eq_true_iff.mp f
    exact .cons (dp_of d v f1 h2) (dps_of ds r f2 h3)
end
mutual
theorem dp_mono {K : PySem.W.Frag} {G H : Hp} (g : Same G H) : ∀ (d : PyData) (v : V), Dp K G v d → Dp K H v d
  | .none, v, h => by cases h; exact .non
  | .bool b, v, h => by cases h; exact .bl b
  | .int i, v, h => by cases h; exact .int i
  | .str x, v, h => by cases h; exact .str x
  | .list ds, v, h => by
    cases h with
    | lst h1 h2 => exact .lst (sql_mono g h1) (dps_mono g ds _ h2)
  | .tuple ds, v, h => by
    cases h with
    | tup h1 h2 => exact .tup (sqt_mono g h1) (dps_mono g ds _ h2)
  | .dict _, v, h => by cases h
theorem dps_mono {K : PySem.W.Frag} {G H : Hp} (g : Same G H) : ∀ (ds : List PyData) (vs : List V), DpAll K G vs ds → DpAll K H vs ds
  | [], vs, h => by cases h; exact .nil
  | d :: ds, vs, h => by
    cases h with
    | cons h1 h2 => exact .cons (dp_mono g d _ h1) (dps_mono g ds _ h2)
end

section
variable {X : Cx}
theorem odAdd : OpD X (binaryOp .Add) opAdd := opr_imp (OpR.or op_add op_add_str) fun x y H Q ⟨G, d1, d2, z, g, h1, h2, hz, k⟩ => by
  unfold opAdd at hz
  split at hz
  · cases hz
    cases (show x = _ from h1)
    cases (show y = _ from h2)
    exact .inl ⟨_, _, rfl, rfl, k _ rfl⟩
  · split at hz
    · rename_i hl
      cases hz
      cases (show x = _ from h1)
      cases (show y = _ from h2)
      exact .inr ⟨_, _, rfl, rfl, hl, k _ rfl⟩
    · cases hz
  · cases hz
theorem odSub : OpD X (binaryOp .Sub) opSub := opr_imp op_sub fun x y H Q ⟨G, d1, d2, z, g, h1, h2, hz, k⟩ => by
  unfold opSub at hz
  split at hz
  · cases hz
    cases (show x = _ from h1)
    cases (show y = _ from h2)
    exact ⟨_, _, rfl, rfl, k _ rfl⟩
  · cases hz
theorem odMul : OpD X (binaryOp .Mult) opMul := opr_imp op_mulX fun x y H Q ⟨G, d1, d2, z, g, h1, h2, hz, k⟩ => by
  unfold opMul at hz
  split at hz
  · split at hz
    · rename_i hc
      cases hz
      cases (show x = _ from h1)
      cases (show y = _ from h2)
      exact ⟨_, _, rfl, rfl, by exact of_decide_eq_true hc, k _ rfl⟩
    · cases hz
  · cases hz
theorem odDiv : OpD X (binaryOp .FloorDiv) opDiv := opr_imp op_fdivW fun x y H Q ⟨G, d1, d2, z, g, h1, h2, hz, k⟩ => by
  unfold opDiv at hz
  split at hz
  · split at hz
    · rename_i hc
      cases hz
      cases (show x = _ from h1)
      cases (show y = _ from h2)
      exact ⟨_, _, rfl, rfl, by exact of_decide_eq_true hc, k _ rfl⟩
    · cases hz
  · cases hz
theorem odMod : OpD X (binaryOp .Mod) opMod := opr_imp op_mod fun x y H Q ⟨G, d1, d2, z, g, h1, h2, hz, k⟩ => by
  unfold opMod at hz
  split at hz
  · split at hz
    · rename_i hc
      cases hz
      cases (show x = _ from h1)
      cases (show y = _ from h2)
      exact ⟨_, _, rfl, rfl, hc, k _ rfl⟩
    · cases hz
  · cases hz
theorem odPow : OpD X (binaryOp .Pow) opPow := opr_imp op_pow fun x y H Q ⟨G, d1, d2, z, g, h1, h2, hz, k⟩ => by
  unfold opPow at hz
  split at hz
  · split at hz
    · rename_i hc
      cases hz
      cases (show x = _ from h1)
      cases (show y = _ from h2)
      exact ⟨_, _, rfl, rfl, by exact of_decide_eq_true hc, k _ rfl⟩
    · cases hz
  · cases hz
theorem odLt : OpD X (compareOp .Lt) opLt := opr_imp op_lt fun x y H Q ⟨G, d1, d2, z, g, h1, h2, hz, k⟩ => by
  unfold opLt at hz
  split at hz
  · cases hz
    cases (show x = _ from h1)
    cases (show y = _ from h2)
    exact ⟨_, _, rfl, rfl, k _ rfl⟩
  · cases hz
theorem odLe : OpD X (compareOp .LtE) opLe := opr_imp op_le fun x y H Q ⟨G, d1, d2, z, g, h1, h2, hz, k⟩ => by
  unfold opLe at hz
  split at hz
  · cases hz
    cases (show x = _ from h1)
    cases (show y = _ from h2)
    exact ⟨_, _, rfl, rfl, k _ rfl⟩
  · cases hz
theorem odGt : OpD X (compareOp .Gt) opGt := opr_imp op_gt fun x y H Q ⟨G, d1, d2, z, g, h1, h2, hz, k⟩ => by
  unfold opGt at hz
  split at hz
  · cases hz
    cases (show x = _ from h1)
    cases (show y = _ from h2)
    exact ⟨_, _, rfl, rfl, k _ rfl⟩
  · cases hz
theorem odGe : OpD X (compareOp .GtE) opGe := opr_imp op_ge fun x y H Q ⟨G, d1, d2, z, g, h1, h2, hz, k⟩ => by
  unfold opGe at hz
  split at hz
  · cases hz
    cases (show x = _ from h1)
    cases (show y = _ from h2)
    exact ⟨_, _, rfl, rfl, k _ rfl⟩
  · cases hz
theorem isNon_iff {K : PySem.W.Frag} {G : Hp} {d : D} {v : V} (h : Dn K G d v) : decide (v = .non) = isNon d := by
  cases d with
  | non => cases (show v = _ from h); rfl
  | bl b => cases (show v = _ from h); rfl
  | int b => cases (show v = _ from h); rfl
  | str b => cases (show v = _ from h); rfl
  | lst xs => obtain ⟨a, vs, rfl, _⟩ := h; rfl
  | tup xs => obtain ⟨a, vs, rfl, _⟩ := h; rfl
  | ins c ns xs => obtain ⟨a, dx, fs, rfl, _⟩ := h; rfl
theorem odIsN : OpD X (compareOp .Is) opIsN := opr_imp op_isN fun x y H Q ⟨G, d1, d2, z, g, h1, h2, hz, k⟩ => by
  unfold opIsN at hz
  split at hz
  · cases hz
    refine ⟨h2, ?_⟩
    rw [isNon_iff h1]
    exact k _ rfl
  · cases hz
theorem odNotN : OpD X (compareOp .IsNot) opNotN := opr_imp op_notN fun x y H Q ⟨G, d1, d2, z, g, h1, h2, hz, k⟩ => by
  unfold opNotN at hz
  split at hz
  · cases hz
    refine ⟨h2, ?_⟩
    rw [isNon_iff h1]
    exact k _ rfl
  · cases hz
theorem okEq_of {d : D} (h : d.okEq = true) : d.flat = true ∧ SeqAt.shaped d.py = true := Bool.and_eq_true_iff.mp h
theorem odEq (hu : X.A.units + 64 < cLine) : OpD X (compareOp .Eq) opEq := opr_imp (op_eqD hu) fun x y H Q ⟨G, d1, d2, z, g, h1, h2, hz, k⟩ => by
  unfold opEq at hz
  split at hz
  · rename_i hc
    obtain ⟨c1, c2⟩ := Bool.and_eq_true_iff.mp hc
    cases hz
    exact ⟨_, _, dp_mono g _ _ (dp_of d1 x (okEq_of c1).1 h1), dp_mono g _ _ (dp_of d2 y (okEq_of c2).1 h2), (okEq_of c1).2, (okEq_of c2).2, k _ rfl⟩
  · cases hz
theorem odNe (hu : X.A.units + 64 < cLine) : OpD X (compareOp .NotEq) opNe := opr_imp (op_neD hu) fun x y H Q ⟨G, d1, d2, z, g, h1, h2, hz, k⟩ => by
  unfold opNe at hz
  split at hz
  · rename_i hc
    obtain ⟨c1, c2⟩ := Bool.and_eq_true_iff.mp hc
    cases hz
    exact ⟨_, _, dp_mono g _ _ (dp_of d1 x (okEq_of c1).1 h1), dp_mono g _ _ (dp_of d2 y (okEq_of c2).1 h2), (okEq_of c1).2, (okEq_of c2).2, k _ rfl⟩
  · cases hz
theorem pys_any (xs : List D) (d : D) : (pys xs).any (fun z => PyData.eqv z d.py) = xs.any fun z => z.eqv d := by
  induction xs with
  | nil => rfl
  | cons x xs ih => unfold pys; rw [List.any_cons, List.any_cons, ih]; rfl
theorem odIn (hu : X.A.units + 65 < cLine) : OpD X (compareOp .In) opIn := opr_imp (op_inD hu) fun x y H Q ⟨G, d1, d2, z, g, h1, h2, hz, k⟩ => by
  unfold opIn at hz
  split at hz
  · split at hz
    · rename_i hc
      obtain ⟨c1, c2⟩ := Bool.and_eq_true_iff.mp hc
      cases hz
      refine ⟨_, _, dp_mono g _ _ (dp_of d1 x (okEq_of c1).1 h1), dp_mono g _ _ (dp_of _ y (okEq_of c2).1 h2), (okEq_of c1).2, (okEq_of c2).2, ?_⟩
      rw [pys_any]
      exact k _ rfl
    · cases hz
  · cases hz
theorem odNotIn (hu : X.A.units + 65 < cLine) : OpD X (compareOp .NotIn) opNotIn := opr_imp (op_notInD hu) fun x y H Q ⟨G, d1, d2, z, g, h1, h2, hz, k⟩ => by
  unfold opNotIn at hz
  split at hz
  · split at hz
    · rename_i hc
      obtain ⟨c1, c2⟩ := Bool.and_eq_true_iff.mp hc
      cases hz
      refine ⟨_, _, dp_mono g _ _ (dp_of d1 x (okEq_of c1).1 h1), dp_mono g _ _ (dp_of _ y (okEq_of c2).1 h2), (okEq_of c1).2, (okEq_of c2).2, ?_⟩
      rw [pys_any]
      exact k _ rfl
    · cases hz
  · cases hz
theorem sc_flat {K : PySem.W.Frag} {G : Hp} {d : D} {v : V} (h : d.sc = true) (r : Dn K G d v) : flatV v = true := by
  cases d with
  | non => cases (show v = _ from r); rfl
  | bl b => cases (show v = _ from r); rfl
  | int b => cases (show v = _ from r); rfl
  | str b => cases (show v = _ from r); rfl
  | lst xs => cases h
  | tup xs => cases h
  | ins c ns xs => cases h
theorem sc_eq {K : PySem.W.Frag} {G : Hp} {d e : D} {v u : V} (h : d.sc = true) (h' : e.sc = true) (r : Dn K G d v) (r' : Dn K G e u) : eqV v u = d.eqv e := by
  cases d with
  | non => cases (show v = _ from r); cases e with
    | non => cases (show u = _ from r'); rfl
    | bl b => cases (show u = _ from r'); rfl
    | int b => cases (show u = _ from r'); rfl
    | str b => cases (show u = _ from r'); rfl
    | _ => cases h'
  | bl b => cases (show v = _ from r); cases e with
    | non => cases (show u = _ from r'); rfl
    | bl b => cases (show u = _ from r'); rfl
    | int b => cases (show u = _ from r'); rfl
    | str b => cases (show u = _ from r'); rfl
    | _ => cases h'
  | int b => cases (show v = _ from r); cases e with
    | non => cases (show u = _ from r'); rfl
    | bl b => cases (show u = _ from r'); rfl
    | int b => cases (show u = _ from r'); rfl
    | str b => cases (show u = _ from r'); rfl
    | _ => cases h'
  | str b => cases (show v = _ from r); cases e with
    | non => cases (show u = _ from r'); rfl
    | bl b => cases (show u = _ from r'); rfl
    | int b => cases (show u = _ from r'); rfl
    | str b => cases (show u = _ from r'); rfl
    | _ => cases h'
  | _ => cases h
theorem sc_any {K : PySem.W.Frag} {G : Hp} {d : D} {v : V} (h : d.sc = true) (r : Dn K G d v) : ∀ {xs : List D} {vs : List V}, xs.all D.sc = true → Dns K G xs vs → vs.all flatV = true ∧ inV v vs = xs.any fun z => z.eqv d
  | [], vs, _, k => by
    unfold Dns at k
    subst k
    exact ⟨rfl, rfl⟩
  | x :: xs, vs, a, k => by
    obtain ⟨u, w, rfl, k1, k2⟩ := k
    rw [List.all_cons] at a
    obtain ⟨a1, a2⟩ := Bool.and_eq_true_iff.mp a
    obtain ⟨i1, i2⟩ := sc_any h r a2 k2
    refine ⟨by rw [List.all_cons, sc_flat a1 k1, i1]; rfl, ?_⟩
    show (eqV u v || w.any fun y => eqV y v) = _
    rw [List.any_cons, sc_eq a1 h k1 r]
    congr 1
theorem odInS (neg : Bool) {o : CmpOp} (ho : OpR X (compareOp o) (rIn X.K neg)) : OpD X (compareOp o) (opInS neg) := opr_imp ho fun x y H Q ⟨G, d1, d2, z, g, h1, h2, hz, k⟩ => by
  unfold opInS at hz
  split at hz
  · split at hz
    · rename_i hc
      obtain ⟨c1, c2⟩ := Bool.and_eq_true_iff.mp hc
      cases hz
      obtain ⟨a, vs, rfl, q1, q2⟩ := h2
      obtain ⟨i1, i2⟩ := sc_any c1 h1 c2 q2
      refine ⟨a, vs, rfl, .inl (sql_mono g q1), sc_flat c1 h1, i1, ?_⟩
      rw [i2]
      exact k _ rfl
    · cases hz
  · split at hz
    · rename_i hc
      obtain ⟨c1, c2⟩ := Bool.and_eq_true_iff.mp hc
      cases hz
      obtain ⟨a, vs, rfl, q1, q2⟩ := h2
      obtain ⟨i1, i2⟩ := sc_any c1 h1 c2 q2
      refine ⟨a, vs, rfl, .inr (sqt_mono g q1), sc_flat c1 h1, i1, ?_⟩
      rw [i2]
      exact k _ rfl
    · cases hz
  · cases hz
theorem odIs : OpD X (compareOp .In) (opInS false) := odInS false op_in_seq
theorem odNi : OpD X (compareOp .NotIn) (opInS true) := odInS true op_notIn_seq
end

/-! ### one-place operators, subscripts -/
def un (op : D → Option D) (f : Ex D) : Ex D := fun ρ => (f ρ).bind fun x ρ1 => ofO (op x) ρ1
def opNeg : D → Option D
  | .int i => some (.int (-i))
  | _ => none
/-- x[i] of data -/
def opIx : D → D → Option D
  | .lst xs, .int i => atI xs i
  | .tup xs, .int i => atI xs i
  | .str z, .int i => if z.length ≤ sizeLine then (atI z.cps.toList i).map fun c => .str ⟨#[c]⟩ else none
  | _, _ => none
/-- x[i] of the slot's own list -/
def ixM (i : Nat) (g : Ex D) : Ex D := fun ρ => match ρ[i]? with
  | some (.m _) => (g ρ).bind fun y ρ1 => match ρ1[i]?, y with
    | some (.m xs), .int j => ofO (atI xs j) ρ1
    | _, _ => .bad
  | _ => .bad
section
variable {X : Cx} {B : List Nat} {W : WX} {K : PySem.W.Frag}
theorem dneg {a : Expr} {f : Ex D} {pos : Pos} (ha : DE X B W a f) : DE X B W (.UnaryOp .USub a pos) (un opNeg f) := by
  refine pe_imp (pe_un un_neg ha) fun σ H Q h => ?_
  obtain ⟨e, G, ρ, rfl, S, h⟩ := h
  refine ⟨e, G, ρ, rfl, S, (Cont.bind h).imp fun d ρ1 G1 H1 g1 S1 k v hv => ?_⟩
  unfold opNeg at k
  split at k
  · cases (show v = _ from hv)
    exact ⟨_, rfl, k G1 H1 (same_refl G1) S1 _ rfl⟩
  · exact k.elim
theorem atI_rel {G : Hp} {xs : List D} {vs : List V} {i : Int} {d : D} (h : Dns K G xs vs) (e : atI xs i = some d) : ∃ v, atI vs i = some v ∧ Dn K G d v := by
  unfold atI at e ⊢
  rw [h.len]
  cases q : ixN xs.length i with
  | none => rw [q] at e; cases e
  | some j =>
    rw [q] at e
    exact h.get e
theorem dix {a b : Expr} {f g : Ex D} {pos : Pos} (ha : DE X B W a f) (hb : DE X B W b g) (hs : PlainIx b := by exact fun _ _ => rfl) : DE X B W (.Subscript a b pos) (bin opIx f g) := by
  refine pe_imp (pe_ix ix_seq ha hb hs) fun σ H Q h => ?_
  obtain ⟨e, G, ρ, rfl, S, h⟩ := h
  refine ⟨e, G, ρ, rfl, S, (Cont.bind h).imp fun x ρ1 G1 H1 g1 S1 k v hv => ?_⟩
  refine ⟨e, G1, ρ1, rfl, S1, (Cont.bind k).imp fun y ρ2 G2 H2 g2 S2 k2 u hu => ?_⟩
  have hv := Dn.mono g2 _ _ hv
  cases hz : opIx x y with
  | none =>
    rw [hz] at k2
    exact k2.elim
  | some z =>
    rw [hz] at k2
    have k3 := fun w hw => k2 G2 H2 (same_refl G2) S2 w hw
    unfold opIx at hz
    split at hz
    · obtain ⟨p, vs, rfl, q1, q2⟩ := hv
      cases (show u = _ from hu)
      obtain ⟨w, e1, e2⟩ := atI_rel q2 hz
      exact .inl ⟨p, vs, _, w, rfl, rfl, sql_mono S2.ex q1, e1, k3 w e2⟩
    · obtain ⟨p, vs, rfl, q1, q2⟩ := hv
      cases (show u = _ from hu)
      obtain ⟨w, e1, e2⟩ := atI_rel q2 hz
      exact .inr (.inl ⟨p, vs, _, w, rfl, rfl, sqt_mono S2.ex q1, e1, k3 w e2⟩)
    · split at hz
      · rename_i hl
        cases (show v = _ from hv)
        cases (show u = _ from hu)
        cases q : atI _ _ with
        | none => rw [q] at hz; cases hz
        | some c =>
          rw [q] at hz
          cases hz
          exact .inr (.inr ⟨_, _, c, rfl, rfl, hl, q, k3 _ rfl⟩)
      · cases hz
    · cases hz
theorem dixM (i : Nat) {x : Str} {px : Pos} {b : Expr} {g : Ex D} {pos : Pos} (hb : DE X B W b g) (hs : PlainIx b := by exact fun _ _ => rfl) (hN : X.N[i]? = some x := by rfl)
    (hv : Vis X.env.scope x := by first | exact Or.inl rfl | exact Or.inr (Or.inl rfl) | exact Or.inr (Or.inr rfl)) (hd : (x == ("__debug__" : Str)) = false := by decide)
    (hcd : (x == ("__classdict__" : Str)) = false := by decide) : DE X B W (.Subscript (.Name x px) b pos) (ixM i g) := by
  refine pe_imp (pe_ix ix_list (pe_var hN hv hd hcd) hb hs) fun σ H Q h => ?_
  obtain ⟨e, G, ρ, rfl, S, h⟩ := h
  unfold ixM at h
  split at h
  · rename_i xs0 hx0
    obtain ⟨v0, hv, a0, vs0, q0, _⟩ := S.rel _ _ hx0
    rw [q0] at hv
    refine ⟨_, hv, e, G, ρ, rfl, S, (Cont.bind h).imp fun y ρ1 G1 H1 g1 S1 k u hu => ?_⟩
    split at k
    · rename_i xs j e1
      obtain ⟨w, h1, a, vs, h2, h3, h4, h5⟩ := S1.rel _ _ e1
      rw [hv] at h1
      cases h1
      cases h2
      cases (show u = _ from hu)
      cases q : atI xs j with
      | none => rw [q] at k; exact k.elim
      | some z =>
        rw [q] at k
        obtain ⟨w, e1, e2⟩ := atI_rel h5 q
        exact ⟨_, vs, _, w, rfl, rfl, SqL.of h3, e1, k G1 H1 (same_refl G1) S1 w e2⟩
    · exact k.elim
  · exact h.elim
end
end DL
end

section
set_option Elab.async false
set_option linter.all false
set_option maxRecDepth 100000
set_option maxHeartbeats 4000000
namespace DL
open PySem PySem.Spec PyProof.Rows L2

/-! ### arguments -/
def aNil : Ex (List AV) := fun ρ => .ok [] ρ
def aD (f : Ex D) (g : Ex (List AV)) : Ex (List AV) := fun ρ => (f ρ).bind fun x ρ1 => (g ρ1).bind fun as ρ2 => .ok (.dv x :: as) ρ2
def isM : Option Sl → Bool
  | some (.m _) => true
  | some (.o _ _ _) => true
  | _ => false
/-- the slot's own object, handed in to be changed -/
def aM (i : Nat) (g : Ex (List AV)) : Ex (List AV) := fun ρ => if isM ρ[i]? = true then (g ρ).bind fun as ρ2 => .ok (.mv i :: as) ρ2 else .bad
def dvs : List AV → Option (List D)
  | [] => some []
  | .dv x :: as => (dvs as).map (x :: ·)
  | .mv _ :: _ => none
theorem avs_dvs {K : PySem.W.Frag} {G : Hp} {σ : L2.St} : ∀ {as : List AV} {vs : List V} {xs : List D}, Avs K G σ as vs → dvs as = some xs → Dns K G xs vs
  | [], vs, xs, h, e => by
    cases e
    exact h
  | .dv x :: as, vs, xs, h, e => by
    obtain ⟨v, r, rfl, h1, h2⟩ := h
    have e' : (dvs as).map (x :: ·) = some xs := e
    cases q : dvs as with
    | none => rw [q] at e'; cases e'
    | some ys =>
      rw [q] at e'
      cases e'
      exact Dns.cons h1 (avs_dvs h2 q)
  | .mv _ :: _, _, _, _, e => by cases e
theorem Avs.mono {K : PySem.W.Frag} {G G' : Hp} {σ : L2.St} (g : Same G G') : ∀ {as : List AV} {vs : List V}, Avs K G σ as vs → Avs K G' σ as vs
  | [], _, h => h
  | .dv x :: as, vs, h => by
    obtain ⟨v, r, rfl, h1, h2⟩ := h
    exact ⟨v, r, rfl, Dn.mono g _ _ h1, Avs.mono g h2⟩
  | .mv i :: as, vs, h => by
    obtain ⟨v, r, rfl, h1, h2⟩ := h
    exact ⟨v, r, rfl, h1, Avs.mono g h2⟩
section
variable {X : Cx} {B : List Nat} {W : WX} {a b : Expr} {es : List Expr} {f g : Ex D} {pos : Pos}
theorem anil : DA X B W [] aNil := by
  refine pa_imp pa_nil fun σ H Q h => ?_
  obtain ⟨e, G, ρ, rfl, S, h⟩ := h
  exact h G H (same_refl G) S [] rfl
theorem acons {gs : Ex (List AV)} (ha : DE X B W a f) (hr : DA X B W es gs) (hs : starEach (a :: es) X.env = (false, eval a X.env) :: starEach es X.env := by rfl) : DA X B W (a :: es) (aD f gs) := by
  refine pa_imp (pa_cons ha hr hs) fun σ H Q h => ?_
  obtain ⟨e, G, ρ, rfl, S, h⟩ := h
  refine ⟨e, G, ρ, rfl, S, (Cont.bind h).imp fun x ρ1 G1 H1 g1 S1 k v hv => ?_⟩
  exact ⟨e, G1, ρ1, rfl, S1, (Cont.bind k).imp fun as ρ2 G2 H2 g2 S2 k2 vs hvs => k2 G2 H2 (same_refl G2) S2 (v :: vs) ⟨v, vs, rfl, Dn.mono g2 _ _ hv, hvs⟩⟩
theorem amut (i : Nat) {x : Str} {px : Pos} {gs : Ex (List AV)} (hr : DA X B W es gs) (hs : starEach (Expr.Name x px :: es) X.env = (false, eval (Expr.Name x px) X.env) :: starEach es X.env := by rfl) (hN : X.N[i]? = some x := by rfl)
    (hv : Vis X.env.scope x := by first | exact Or.inl rfl | exact Or.inr (Or.inl rfl) | exact Or.inr (Or.inr rfl)) (hd : (x == ("__debug__" : Str)) = false := by decide)
    (hcd : (x == ("__classdict__" : Str)) = false := by decide) : DA X B W (.Name x px :: es) (aM i gs) := by
  refine pa_imp (pa_cons (pe_var hN hv hd hcd) hr hs) fun σ H Q h => ?_
  obtain ⟨e, G, ρ, rfl, S, h⟩ := h
  unfold aM at h
  split at h
  · rename_i hm
    have hi : ∃ v, σ[i]? = some (some v) := by
      cases q : ρ[i]? with
      | none => rw [q] at hm; cases hm
      | some s =>
        rw [q] at hm
        obtain ⟨v, h1, h2⟩ := S.rel _ _ q
        cases s with
        | no => cases hm
        | d x => cases hm
        | m xs =>
          obtain ⟨p, vs, rfl, _⟩ := h2
          exact ⟨_, h1⟩
        | o c ns xs =>
          obtain ⟨p, dx, fs, rfl, _⟩ := h2
          exact ⟨_, h1⟩
    obtain ⟨v, hv⟩ := hi
    refine ⟨v, hv, e, G, ρ, rfl, S, (Cont.bind h).imp fun as ρ1 G1 H1 g1 S1 k vs hvs => k G1 H1 (same_refl G1) S1 (v :: vs) ⟨v, vs, rfl, hv, hvs⟩⟩
  · exact h.elim

/-! ### displays -/
def mkTup (f : Ex (List AV)) : Ex D := fun ρ => (f ρ).bind fun as ρ1 => match dvs as with
  | some xs => if xs.length ≤ sizeLine then .ok (.tup xs) ρ1 else .bad
  | none => .bad
def mkLst (f : Ex (List AV)) : Ex (List D) := fun ρ => (f ρ).bind fun as ρ1 => match dvs as with
  | some xs => if xs.length ≤ sizeLine then .ok xs ρ1 else .bad
  | none => .bad
/-- a fresh list's wish -/
theorem newM {K : PySem.W.Frag} {e : En} {σ : L2.St} {G H : Hp} {ρ : List Sl} {xs : List D} {vs : List V} {p : Addr} (S : Sim K e G H σ ρ) (hp : H p = none) (hd : Dns K G xs vs) :
    upd H p (.lst vs) p = some (.lst vs) ∧ G p = none ∧ e.H0 p = none ∧ (∀ (i : Nat) (s : Sl) (u : Option V), ρ[i]? = some s → σ[i]? = some u → mad s u ≠ some p) := by
  refine ⟨upd_same, S.freshG hp, S.fresh0 hp, fun i s u h1 h2 m => ?_⟩
  obtain ⟨v, h3, h4⟩ := S.rel i s h1
  rw [h2] at h3
  cases h3
  obtain ⟨⟨o, ho⟩, _⟩ := h4.madH m
  rw [hp] at ho
  cases ho
theorem dtup {k : Nat} {fs : Ex (List AV)} (h : DA X B W es fs) : DE X B W (.Tuple es k pos) (mkTup fs) := by
  refine pe_imp (pe_tup h) fun σ H Q h => ?_
  obtain ⟨e, G, ρ, rfl, S, h⟩ := h
  refine ⟨e, G, ρ, rfl, S, (Cont.bind h).imp fun as ρ1 G1 H1 g1 S1 k vs hvs => ?_⟩
  split at k
  · rename_i xs hx
    split at k
    · rename_i hl
      have hd := avs_dvs hvs hx
      refine ⟨by rw [hd.len]; exact hl, fun p hp => ?_⟩
      have gp := S1.freshG hp
      exact k (upd G1 p (.tup vs)) _ (same_new gp) (S1.alloc hp) _ ⟨p, vs, rfl, SqT.of upd_same, Dns.mono (same_new gp) _ _ hd⟩
    · exact k.elim
  · exact k.elim
theorem dlst {fs : Ex (List AV)} (h : DA X B W es fs) : DM X B W (.List es pos) (mkLst fs) := by
  refine pe_imp (pe_lst h) fun σ H Q h => ?_
  obtain ⟨e, G, ρ, rfl, S, h⟩ := h
  refine ⟨e, G, ρ, rfl, S, (Cont.bind h).imp fun as ρ1 G1 H1 g1 S1 k vs hvs => ?_⟩
  split at k
  · rename_i xs hx
    split at k
    · rename_i hl
      have hd := avs_dvs hvs hx
      refine ⟨by rw [hd.len]; exact hl, fun p hp => ?_⟩
      obtain ⟨n1, n2, n3, n4⟩ := newM S1 hp hd
      exact k G1 _ (same_refl G1) (S1.allocM hp) p vs n1 n2 n3 n4 hd
    · exact k.elim
  · exact k.elim

/-! ### list + list, list * int, tuple + tuple -/
def rCatL (K : PySem.W.Frag) : R2 := fun x y H Q => ∃ l b xs zs, x = .ref l ∧ y = .ref b ∧ SqL K H l xs ∧ SqL K H b zs ∧ xs.length + zs.length ≤ sizeLine ∧ ∀ p, H p = none → Q (.ref p) (upd H p (.lst (xs ++ zs)))
theorem op_catL : OpR X (binaryOp .Add) (rCatL X.K) := by
  intro pins s σ H x y v u Q I rx ry h
  obtain ⟨l, b, xs, zs, rfl, rfl, hH, hB, hz, q⟩ := h
  cases rx
  cases ry
  obtain ⟨its, r, p1, z1⟩ := I.list hH
  obtain ⟨its2, r2, p2, z2⟩ := I.list hB
  obtain ⟨⟨cls, dd, data, sl⟩, n, ho, hc, hdd, hd⟩ := p1
  obtain ⟨⟨cls2, dd2, data2, sl2⟩, n2, ho2, hc2, hdd2, hd2⟩ := p2
  simp only at hc hd hc2 hd2
  subst hc hd hc2 hd2
  have e : its.toArray ++ its2.toArray = (its ++ its2).toArray := by simp
  have l1 := r.length
  have l2 := r2.length
  refine concat_meets ⟨_, ho, rfl⟩ ⟨_, ho2, rfl⟩ noFill_list_add seq_list_add PySem.F.slot_list_add PySem.F.entry_list_add (PySem.F.args_list_add_2 _ _) (list_addW l b its.toArray its2.toArray n n2 dd dd2 sl sl2 (by rw [List.size_toArray, List.size_toArray]; omega)) ⟨ho, ho2, ?_⟩
  rw [e]
  exact ⟨.ref _, _, I.lnew (t' := s.toks) (r.append r2) (by rw [List.length_append]; omega), rfl, q _ I.fresh⟩
def catL (f g : Ex D) : Ex (List D) := fun ρ => (f ρ).bind fun x ρ1 => (g ρ1).bind fun y ρ2 => match x, y with
  | .lst xs, .lst ys => if xs.length + ys.length ≤ sizeLine then .ok (xs ++ ys) ρ2 else .bad
  | _, _ => .bad
theorem dcatL (ha : DE X B W a f) (hb : DE X B W b g) : DM X B W (.BinOp a .Add b pos) (catL f g) := by
  refine pe_imp (pe_op op_catL ha hb) fun σ H Q h => ?_
  obtain ⟨e, G, ρ, rfl, S, h⟩ := h
  refine ⟨e, G, ρ, rfl, S, (Cont.bind h).imp fun x ρ1 G1 H1 g1 S1 k v hv => ?_⟩
  refine ⟨e, G1, ρ1, rfl, S1, (Cont.bind k).imp fun y ρ2 G2 H2 g2 S2 k2 u hu => ?_⟩
  split at k2
  · rename_i xs ys
    split at k2
    · rename_i hl
      have hv := Dn.mono g2 _ _ hv
      obtain ⟨p, vs, rfl, q1, q2⟩ := hv
      obtain ⟨p', vs', rfl, q1', q2'⟩ := hu
      refine ⟨p, p', vs, vs', rfl, rfl, sql_mono S2.ex q1, sql_mono S2.ex q1', by rw [q2.len, q2'.len]; exact hl, fun n hn => ?_⟩
      have hd := q2.append q2'
      obtain ⟨n1, n2, n3, n4⟩ := newM S2 hn hd
      exact k2 G2 _ (same_refl G2) (S2.allocM hn) n _ n1 n2 n3 n4 hd
    · exact k2.elim
  · exact k2.elim
def catT (f g : Ex D) : Ex D := fun ρ => (f ρ).bind fun x ρ1 => (g ρ1).bind fun y ρ2 => match x, y with
  | .tup xs, .tup ys => if xs.length + ys.length ≤ sizeLine then .ok (.tup (xs ++ ys)) ρ2 else .bad
  | _, _ => .bad
theorem dcatT (ha : DE X B W a f) (hb : DE X B W b g) : DE X B W (.BinOp a .Add b pos) (catT f g) := by
  refine pe_imp (pe_op op_catA ha hb) fun σ H Q h => ?_
  obtain ⟨e, G, ρ, rfl, S, h⟩ := h
  refine ⟨e, G, ρ, rfl, S, (Cont.bind h).imp fun x ρ1 G1 H1 g1 S1 k v hv => ?_⟩
  refine ⟨e, G1, ρ1, rfl, S1, (Cont.bind k).imp fun y ρ2 G2 H2 g2 S2 k2 u hu => ?_⟩
  split at k2
  · rename_i xs ys
    split at k2
    · rename_i hl
      have hv := Dn.mono g2 _ _ hv
      obtain ⟨p, vs, rfl, q1, q2⟩ := hv
      obtain ⟨p', vs', rfl, q1', q2'⟩ := hu
      have hd := q2.append q2'
      refine ⟨p, p', vs, vs', rfl, rfl, sqt_mono S2.ex q1, sqt_mono S2.ex q1', by rw [q2.len, q2'.len]; exact hl, fun e0 => ?_, fun _ e1 => ?_, fun _ _ n hn => ?_⟩
      · have : xs = [] := by
          have := q2.len
          rw [e0] at this
          exact List.length_eq_zero_iff.mp this.symm
        subst this
        exact k2 G2 _ (same_refl G2) S2 _ ⟨p', vs', rfl, q1', q2'⟩
      · have : ys = [] := by
          have := q2'.len
          rw [e1] at this
          exact List.length_eq_zero_iff.mp this.symm
        subst this
        rw [List.append_nil] at k2
        exact k2 G2 _ (same_refl G2) S2 _ ⟨p, vs, rfl, q1, q2⟩
      · have gp := S2.freshG hn
        exact k2 (upd G2 n (.tup (vs ++ vs'))) _ (same_new gp) (S2.alloc hn) _ ⟨n, _, rfl, SqT.of upd_same, Dns.mono (same_new gp) _ _ hd⟩
    · exact k2.elim
  · exact k2.elim
def okRep (n : Nat) (k : Int) : Bool := decide (-(2 ^ 63) ≤ k ∧ k < 2 ^ 63 ∧ n * k.toNat ≤ sizeLine)
def repL (f : Ex (List D)) (g : Ex D) : Ex (List D) := fun ρ => (f ρ).bind fun xs ρ1 => (g ρ1).bind fun y ρ2 => match y with
  | .int k => if okRep xs.length k = true then .ok (List.replicate k.toNat xs).flatten ρ2 else .bad
  | _ => .bad
theorem dns_rep {K : PySem.W.Frag} {G : Hp} {xs : List D} {vs : List V} (h : Dns K G xs vs) : ∀ n : Nat, Dns K G (List.replicate n xs).flatten (List.replicate n vs).flatten
  | 0 => Dns.nil
  | n + 1 => by
    rw [List.replicate_succ, List.replicate_succ, List.flatten_cons, List.flatten_cons]
    exact h.append (dns_rep h n)
theorem drepL {fs : Ex (List D)} (ha : DM X B W a fs) (hb : DE X B W b g) : DM X B W (.BinOp a .Mult b pos) (repL fs g) := by
  refine pe_imp (pe_op op_rep ha hb) fun σ H Q h => ?_
  obtain ⟨e, G, ρ, rfl, S, h⟩ := h
  refine ⟨e, G, ρ, rfl, S, (Cont.bind h).imp fun xs ρ1 G1 H1 g1 S1 k l vs hl gn h0 nm hd => ?_⟩
  have S1' := S1.freeze hl gn h0 nm
  have k := k.mono (same_new (o := .lst vs) gn)
  refine ⟨e, _, ρ1, rfl, S1', (Cont.bind k).imp fun y ρ2 G2 H2 g2 S2 k2 u hu => ?_⟩
  split at k2
  · rename_i n
    split at k2
    · rename_i hc
      obtain ⟨c1, c2, c3⟩ := of_decide_eq_true hc
      cases (show u = _ from hu)
      have hl2 : H2 l = some (.lst vs) := S2.ex _ _ (g2 _ _ upd_same)
      have hd2 : Dns X.K G2 xs vs := Dns.mono g2 _ _ (Dns.mono (same_new gn) _ _ hd)
      refine ⟨l, n, vs, rfl, rfl, hl2, c1, c2, by rw [hd.len]; exact c3, fun p hp => ?_⟩
      have hd3 := dns_rep hd2 n.toNat
      obtain ⟨n1, n2, n3, n4⟩ := newM S2 hp hd3
      exact k2 G2 _ (same_refl G2) (S2.allocM hp) p _ n1 n2 n3 n4 hd3
    · exact k2.elim
  · exact k2.elim

/-! ### built-ins of one argument that give a flat value -/
def rC1 (K : PySem.W.Frag) (op : D → Option D) : List V → Hp → VK → Prop := fun xs H Q => ∃ (G : Hp) (d z : D) (x : V), xs = [x] ∧ Same G H ∧ Dn K G d x ∧ op d = some z ∧ ∀ v, Dn K G z v → Q v H
def rC2 (K : PySem.W.Frag) (op : D → D → Option D) : List V → Hp → VK → Prop := fun xs H Q => ∃ (G : Hp) (d d' z : D) (x y : V), xs = [x, y] ∧ Same G H ∧ Dn K G d x ∧ Dn K G d' y ∧ op d d' = some z ∧ ∀ v, Dn K G z v → Q v H
def rCP (K : PySem.W.Frag) (op : Bool → List D → Option D) : List V → Hp → VK → Prop := fun xs H Q => ∃ (G : Hp) (b : Bool) (ds : List D) (z : D) (a : Addr) (vs : List V), xs = [.ref a] ∧ (if b = true then SqT K H a vs else SqL K H a vs) ∧ Same G H ∧ Dns K G ds vs ∧
  op b ds = some z ∧ ∀ v, Dn K G z v → Q v H
theorem callr_imp {v : Value} {r r' : List V → Hp → VK → Prop} (h : CallR X v r) (k : ∀ xs H Q, r' xs H Q → r xs H Q) : CallR X v r' := fun pins s σ H xs us Q I rx q => h pins s σ H xs us Q I rx (k xs H Q q)
theorem callr_or {v : Value} {r r' : List V → Hp → VK → Prop} (h : CallR X v r) (h' : CallR X v r') : CallR X v (fun xs H Q => r xs H Q ∨ r' xs H Q) := fun pins s σ H xs us Q I rx q => by
  rcases q with q | q
  · exact h pins s σ H xs us Q I rx q
  · exact h' pins s σ H xs us Q I rx q
theorem c1_imp {op : D → Option D} {σ : L2.St} {H : Hp} {Q : VK} (h : tD X.K B W (un op f) σ H Q) : tCB (rC1 X.K op) (tCons (tD X.K B W f) tNil) σ H Q := by
  obtain ⟨e, G, ρ, rfl, S, h⟩ := h
  refine ⟨e, G, ρ, rfl, S, (Cont.bind h).imp fun d ρ1 G1 H1 g1 S1 k v hv => ?_⟩
  cases hz : op d with
  | none => rw [hz] at k; exact k.elim
  | some z =>
    rw [hz] at k
    exact ⟨G1, d, z, v, rfl, S1.ex, hv, hz, fun w hw => k G1 H1 (same_refl G1) S1 w hw⟩
theorem c2_imp {op : D → D → Option D} {σ : L2.St} {H : Hp} {Q : VK} (h : tD X.K B W (bin op f g) σ H Q) : tCB (rC2 X.K op) (tCons (tD X.K B W f) (tCons (tD X.K B W g) tNil)) σ H Q := by
  obtain ⟨e, G, ρ, rfl, S, h⟩ := h
  refine ⟨e, G, ρ, rfl, S, (Cont.bind h).imp fun d ρ1 G1 H1 g1 S1 k v hv => ?_⟩
  refine ⟨e, G1, ρ1, rfl, S1, (Cont.bind k).imp fun y ρ2 G2 H2 g2 S2 k2 u hu => ?_⟩
  cases hz : op d y with
  | none => rw [hz] at k2; exact k2.elim
  | some z =>
    rw [hz] at k2
    exact ⟨G2, d, y, z, v, u, rfl, S2.ex, Dn.mono g2 _ _ hv, hu, hz, fun w hw => k2 G2 H2 (same_refl G2) S2 w hw⟩
def unP (op : Bool → List D → Option D) (f : Ex (Bool × List D)) : Ex D := fun ρ => (f ρ).bind fun p ρ1 => ofO (op p.1 p.2) ρ1
theorem cp_imp {op : Bool → List D → Option D} {fp : Ex (Bool × List D)} {σ : L2.St} {H : Hp} {Q : VK} (h : tD X.K B W (unP op fp) σ H Q) : tCB (rCP X.K op) (tCons (tP X.K B W fp) tNil) σ H Q := by
  obtain ⟨e, G, ρ, rfl, S, h⟩ := h
  refine ⟨e, G, ρ, rfl, S, (Cont.bind h).imp fun p ρ1 G1 H1 g1 S1 k a vs ha hd => ?_⟩
  cases hz : op p.1 p.2 with
  | none => rw [hz] at k; exact k.elim
  | some z =>
    rw [hz] at k
    exact ⟨G1, p.1, p.2, z, a, vs, rfl, ha, S1.ex, hd, hz, fun w hw => k G1 H1 (same_refl G1) S1 w hw⟩
section
variable {x : Str} {p : Pos} {id T : String} {op : D → Option D} {op2 : D → D → Option D} {opP : Bool → List D → Option D} {fp : Ex (Bool × List D)}
theorem dcB (hc : CallR X (.builtin id) (rC1 X.K op)) (hm : X.mg x = none) (hv : bootBuiltins x = some (.builtin id)) (ha : DE X B W a f) (hg : Gl X x := by rfl) (hn : x ≠ "__name__" := by decide) (hdb : (x == ("__debug__" : Str)) = false := by decide)
    (he : starEach (a :: []) X.env = (false, eval a X.env) :: starEach [] X.env := by rfl) (hpl : (backTo pos (starEach [] X.env)).any (·.1) = false := by rfl) (hs : starEach (a :: []) X.env = (false, eval a X.env) :: starEach [] X.env := by rfl) :
    DE X B W (.Call (.Name x p) [a] [] pos) (un op f) := pe_imp (pe_callB hc hg hm hv (pa_cons ha pa_nil hs) hn hdb he hpl) fun _ _ _ h => c1_imp h
theorem dcT (hc : CallR X (.type T) (rC1 X.K op)) (hm : X.mg x = none) (hv : bootBuiltins x = some (.type T)) (ha : DE X B W a f) (hg : Gl X x := by rfl) (hn : x ≠ "__name__" := by decide) (hdb : (x == ("__debug__" : Str)) = false := by decide)
    (he : starEach (a :: []) X.env = (false, eval a X.env) :: starEach [] X.env := by rfl) (hpl : (backTo pos (starEach [] X.env)).any (·.1) = false := by rfl) (hs : starEach (a :: []) X.env = (false, eval a X.env) :: starEach [] X.env := by rfl) :
    DE X B W (.Call (.Name x p) [a] [] pos) (un op f) := pe_imp (pe_callTy hc hg hm hv (pa_cons ha pa_nil hs) hn hdb he hpl) fun _ _ _ h => c1_imp h
theorem dcB2 (hc : CallR X (.builtin id) (rC2 X.K op2)) (hm : X.mg x = none) (hv : bootBuiltins x = some (.builtin id)) (ha : DE X B W a f) (hb : DE X B W b g) (hg : Gl X x := by rfl) (hn : x ≠ "__name__" := by decide) (hdb : (x == ("__debug__" : Str)) = false := by decide)
    (he : starEach (a :: [b]) X.env = (false, eval a X.env) :: starEach [b] X.env := by rfl) (hpl : (backTo pos (starEach [b] X.env)).any (·.1) = false := by rfl) (hs : starEach (a :: [b]) X.env = (false, eval a X.env) :: starEach [b] X.env := by rfl)
    (hs2 : starEach (b :: []) X.env = (false, eval b X.env) :: starEach [] X.env := by rfl) :
    DE X B W (.Call (.Name x p) [a, b] [] pos) (bin op2 f g) := pe_imp (pe_callB hc hg hm hv (pa_cons ha (pa_cons hb pa_nil hs2) hs) hn hdb he hpl) fun _ _ _ h => c2_imp h
theorem dcP (hc : CallR X (.builtin id) (rCP X.K opP)) (hm : X.mg x = none) (hv : bootBuiltins x = some (.builtin id)) (ha : DP X B W a fp) (hg : Gl X x := by rfl) (hn : x ≠ "__name__" := by decide) (hdb : (x == ("__debug__" : Str)) = false := by decide)
    (he : starEach (a :: []) X.env = (false, eval a X.env) :: starEach [] X.env := by rfl) (hpl : (backTo pos (starEach [] X.env)).any (·.1) = false := by rfl) (hs : starEach (a :: []) X.env = (false, eval a X.env) :: starEach [] X.env := by rfl) :
    DE X B W (.Call (.Name x p) [a] [] pos) (unP opP fp) := pe_imp (pe_callB hc hg hm hv (pa_cons ha pa_nil hs) hn hdb he hpl) fun _ _ _ h => cp_imp h
end

/-! the operations -/
def opAbs : D → Option D
  | .int i => some (.int (if i < 0 then -i else i))
  | _ => none
def opInt : D → Option D
  | .int i => some (.int i)
  | .bl k => some (.int (if k = true then 1 else 0))
  | _ => none
def opBool : D → Option D
  | .int i => some (.bl (i != 0))
  | .bl k => some (.bl k)
  | _ => none
def okStr (i : Int) : Bool := decide (i.natAbs.log2 < 1920)
def opStr : D → Option D
  | .int i => if okStr i = true then some (.str (toString i)) else none
  | _ => none
def opLenS : D → Option D
  | .str z => if z.length ≤ sizeLine then some (.int z.length) else none
  | _ => none
def opLen (_ : Bool) (xs : List D) : Option D := some (.int xs.length)
def intsD : List D → Option (List Int)
  | [] => some []
  | .int i :: ds => (intsD ds).map (i :: ·)
  | _ :: _ => none
def blsD : List D → Option (List Bool)
  | [] => some []
  | .bl i :: ds => (blsD ds).map (i :: ·)
  | _ :: _ => none
def opSum (b : Bool) (xs : List D) : Option D := if b = true then none else (intsD xs).map fun ns => .int ns.sum
def opAny (b : Bool) (xs : List D) : Option D := if b = true then none else (blsD xs).map fun ns => .bl (ns.any id)
def opAll (b : Bool) (xs : List D) : Option D := if b = true then none else (blsD xs).map fun ns => .bl (ns.all id)
def opMax2 : D → D → Option D
  | .int i, .int j => some (.int (if j > i then j else i))
  | _, _ => none
def opMin2 : D → D → Option D
  | .int i, .int j => some (.int (if j < i then j else i))
  | _, _ => none
theorem cdAbs : CallR X (.builtin "abs") (rC1 X.K opAbs) := callr_imp call_abs fun xs H Q ⟨G, d, z, x, e, g, hd, hz, k⟩ => by
  unfold opAbs at hz
  split at hz
  · cases hz
    cases (show x = _ from hd)
    exact ⟨_, e, k _ rfl⟩
  · cases hz
theorem cdInt : CallR X (.type "int") (rC1 X.K opInt) := callr_imp call_int1 fun xs H Q ⟨G, d, z, x, e, g, hd, hz, k⟩ => by
  unfold opInt at hz
  split at hz
  · cases hz
    cases (show x = _ from hd)
    exact .inl ⟨_, e, k _ rfl⟩
  · cases hz
    cases (show x = _ from hd)
    exact .inr ⟨_, e, k _ rfl⟩
  · cases hz
theorem cdBool : CallR X (.type "bool") (rC1 X.K opBool) := callr_imp call_bool1 fun xs H Q ⟨G, d, z, x, e, g, hd, hz, k⟩ => by
  unfold opBool at hz
  split at hz
  · cases hz
    cases (show x = _ from hd)
    exact .inl ⟨_, e, k _ rfl⟩
  · cases hz
    cases (show x = _ from hd)
    exact .inr ⟨_, e, k _ rfl⟩
  · cases hz
theorem cdStr : CallR X (.type "str") (rC1 X.K opStr) := callr_imp call_str_int fun xs H Q ⟨G, d, z, x, e, g, hd, hz, k⟩ => by
  unfold opStr at hz
  split at hz
  · split at hz
    · rename_i hc
      cases hz
      cases (show x = _ from hd)
      exact ⟨_, e, of_decide_eq_true hc, k _ rfl⟩
    · cases hz
  · cases hz
theorem cdLenS : CallR X (.builtin "len") (rC1 X.K opLenS) := callr_imp call_len_str fun xs H Q ⟨G, d, z, x, e, g, hd, hz, k⟩ => by
  unfold opLenS at hz
  split at hz
  · split at hz
    · rename_i hc
      cases hz
      cases (show x = _ from hd)
      exact ⟨_, e, hc, k _ rfl⟩
    · cases hz
  · cases hz
theorem cdLen : CallR X (.builtin "len") (rCP X.K opLen) := callr_imp call_len_seq fun xs H Q ⟨G, b, ds, z, a, vs, e, hs, g, hd, hz, k⟩ => by
  cases hz
  refine ⟨a, vs, e, ?_, by rw [hd.len]; exact k _ rfl⟩
  cases b with
  | true => exact .inr hs
  | false => exact .inl hs
theorem ints_vals {K : PySem.W.Frag} {G : Hp} : ∀ {ds : List D} {vs : List V} {ns : List Int}, Dns K G ds vs → intsD ds = some ns → vs = ns.map V.int
  | [], vs, ns, h, e => by
    cases e
    exact h
  | d :: ds, vs, ns, h, e => by
    obtain ⟨v, r, rfl, h1, h2⟩ := h
    cases d with
    | int i =>
      cases (show v = _ from h1)
      have e' : (intsD ds).map (i :: ·) = some ns := e
      cases q : intsD ds with
      | none => rw [q] at e'; cases e'
      | some ms =>
        rw [q] at e'
        cases e'
        rw [ints_vals h2 q]
        rfl
    | _ => cases e
theorem bls_vals {K : PySem.W.Frag} {G : Hp} : ∀ {ds : List D} {vs : List V} {ns : List Bool}, Dns K G ds vs → blsD ds = some ns → vs = ns.map V.bl
  | [], vs, ns, h, e => by
    cases e
    exact h
  | d :: ds, vs, ns, h, e => by
    obtain ⟨v, r, rfl, h1, h2⟩ := h
    cases d with
    | bl i =>
      cases (show v = _ from h1)
      have e' : (blsD ds).map (i :: ·) = some ns := e
      cases q : blsD ds with
      | none => rw [q] at e'; cases e'
      | some ms =>
        rw [q] at e'
        cases e'
        rw [bls_vals h2 q]
        rfl
    | _ => cases e
theorem cdSum (hc : X.calm = true) : CallR X (.builtin "sum") (rCP X.K opSum) := callr_imp (cr_sum hc) fun xs H Q ⟨G, b, ds, z, a, vs, e, hs, g, hd, hz, k⟩ => by
  unfold opSum at hz
  cases b with
  | true => cases hz
  | false =>
    cases q : intsD ds with
    | none => rw [if_neg (by decide), q] at hz; cases hz
    | some ns =>
      rw [if_neg (by decide), q] at hz
      cases hz
      cases ints_vals hd q
      exact ⟨a, ns, e, hs, k _ rfl⟩
theorem cdAny (hc : X.calm = true) : CallR X (.builtin "any") (rCP X.K opAny) := callr_imp (cr_any hc) fun xs H Q ⟨G, b, ds, z, a, vs, e, hs, g, hd, hz, k⟩ => by
  unfold opAny at hz
  cases b with
  | true => cases hz
  | false =>
    cases q : blsD ds with
    | none => rw [if_neg (by decide), q] at hz; cases hz
    | some ns =>
      rw [if_neg (by decide), q] at hz
      cases hz
      cases bls_vals hd q
      exact ⟨a, ns, e, hs, k _ rfl⟩
theorem cdAll (hc : X.calm = true) : CallR X (.builtin "all") (rCP X.K opAll) := callr_imp (cr_all hc) fun xs H Q ⟨G, b, ds, z, a, vs, e, hs, g, hd, hz, k⟩ => by
  unfold opAll at hz
  cases b with
  | true => cases hz
  | false =>
    cases q : blsD ds with
    | none => rw [if_neg (by decide), q] at hz; cases hz
    | some ns =>
      rw [if_neg (by decide), q] at hz
      cases hz
      cases bls_vals hd q
      exact ⟨a, ns, e, hs, k _ rfl⟩
theorem cdMax2 (hc : X.calm = true) : CallR X (.builtin "max") (rC2 X.K opMax2) := callr_imp (call_max2 hc) fun xs H Q ⟨G, d, d', z, x, y, e, g, hd, hd', hz, k⟩ => by
  unfold opMax2 at hz
  split at hz
  · cases hz
    cases (show x = _ from hd)
    cases (show y = _ from hd')
    exact ⟨_, _, e, k _ rfl⟩
  · cases hz
theorem cdMin2 (hc : X.calm = true) : CallR X (.builtin "min") (rC2 X.K opMin2) := callr_imp (call_min2 hc) fun xs H Q ⟨G, d, d', z, x, y, e, g, hd, hd', hz, k⟩ => by
  unfold opMin2 at hz
  split at hz
  · cases hz
    cases (show x = _ from hd)
    cases (show y = _ from hd')
    exact ⟨_, _, e, k _ rfl⟩
  · cases hz

/-! ### tuple(x), list(x) -/
def toTup (f : Ex (Bool × List D)) : Ex D := fun ρ => (f ρ).bind fun p ρ1 => .ok (.tup p.2) ρ1
def toLst (f : Ex (Bool × List D)) : Ex (List D) := fun ρ => (f ρ).bind fun p ρ1 => .ok p.2 ρ1
/-- tuple of data: a tuple is itself -/
def tupD (f : Ex D) : Ex D := fun ρ => (f ρ).bind fun d ρ1 => match d with
  | .lst xs => .ok (.tup xs) ρ1
  | .tup xs => .ok (.tup xs) ρ1
  | _ => .bad
def tupP (f : Ex (Bool × List D)) : Ex D := fun ρ => (f ρ).bind fun p ρ1 => if p.1 = true then .bad else .ok (.tup p.2) ρ1
theorem dtupD {p : Pos} (hm : X.mg "tuple" = none) (ha : DE X B W a f) (hg : Gl X "tuple" := by rfl) (he : starEach (a :: []) X.env = (false, eval a X.env) :: starEach [] X.env := by rfl)
    (hpl : (backTo pos (starEach [] X.env)).any (·.1) = false := by rfl) : DE X B W (.Call (.Name "tuple" p) [a] [] pos) (tupD f) := by
  refine pe_imp (pe_callTy call_tuple_of hg hm (by decide +kernel) (pa_cons ha pa_nil he) (by decide) (by decide) he hpl) fun σ H Q h => ?_
  obtain ⟨e, G, ρ, rfl, S, h⟩ := h
  refine ⟨e, G, ρ, rfl, S, (Cont.bind h).imp fun d ρ' G' H' g S' k v hv => ?_⟩
  cases d with
  | lst xs =>
    obtain ⟨q, vs, rfl, h1, h2⟩ := hv
    refine ⟨q, vs, rfl, .inl ⟨sql_mono S'.ex h1, fun l hl => ?_⟩⟩
    have gp := S'.freshG hl
    exact k (upd G' l (.tup vs)) _ (same_new gp) (S'.alloc hl) _ ⟨l, vs, rfl, SqT.of upd_same, Dns.mono (same_new gp) _ _ h2⟩
  | tup xs =>
    obtain ⟨q, vs, rfl, h1, h2⟩ := hv
    exact ⟨q, vs, rfl, .inr ⟨sqt_mono S'.ex h1, k G' H' (same_refl G') S' _ ⟨q, vs, rfl, h1, h2⟩⟩⟩
  | _ => exact k.elim
theorem dtupP {p : Pos} {fp : Ex (Bool × List D)} (hm : X.mg "tuple" = none) (ha : DP X B W a fp) (hg : Gl X "tuple" := by rfl) (he : starEach (a :: []) X.env = (false, eval a X.env) :: starEach [] X.env := by rfl)
    (hpl : (backTo pos (starEach [] X.env)).any (·.1) = false := by rfl) : DE X B W (.Call (.Name "tuple" p) [a] [] pos) (tupP fp) := by
  refine pe_imp (pe_callTy call_tuple_of hg hm (by decide +kernel) (pa_cons ha pa_nil he) (by decide) (by decide) he hpl) fun σ H Q h => ?_
  obtain ⟨e, G, ρ, rfl, S, h⟩ := h
  refine ⟨e, G, ρ, rfl, S, (Cont.bind h).imp fun q ρ' G' H' g S' k a vs ha hd => ?_⟩
  cases hq : q.1 with
  | true => rw [hq, if_pos rfl] at k; exact k.elim
  | false =>
    rw [hq, if_neg Bool.false_ne_true] at k ha
    refine ⟨a, vs, rfl, .inl ⟨ha, fun l hl => ?_⟩⟩
    have gp := S'.freshG hl
    exact k (upd G' l (.tup vs)) _ (same_new gp) (S'.alloc hl) _ ⟨l, vs, rfl, SqT.of upd_same, Dns.mono (same_new gp) _ _ hd⟩
theorem dlistP {p : Pos} {fp : Ex (Bool × List D)} (hm : X.mg "list" = none) (ha : DP X B W a fp) (hg : Gl X "list" := by rfl) (he : starEach (a :: []) X.env = (false, eval a X.env) :: starEach [] X.env := by rfl)
    (hpl : (backTo pos (starEach [] X.env)).any (·.1) = false := by rfl) : DM X B W (.Call (.Name "list" p) [a] [] pos) (toLst fp) := by
  refine pe_imp (pe_callTy call_list_of hg hm (by decide +kernel) (pa_cons ha pa_nil he) (by decide) (by decide) he hpl) fun σ H Q h => ?_
  obtain ⟨e, G, ρ, rfl, S, h⟩ := h
  refine ⟨e, G, ρ, rfl, S, (Cont.bind h).imp fun q ρ' G' H' g S' k a vs ha hd => ?_⟩
  refine ⟨a, vs, rfl, ?_, fun l hl => ?_⟩
  · cases hq : q.1 with
    | true =>
      rw [hq, if_pos rfl] at ha
      exact .inr ha
    | false =>
      rw [hq, if_neg Bool.false_ne_true] at ha
      exact .inl ha
  · obtain ⟨n1, n2, n3, n4⟩ := newM S' hl hd
    exact k G' _ (same_refl G') (S'.allocM hl) l _ n1 n2 n3 n4 hd

/-! ### isinstance with a built-in class -/
def D.ty : D → Option String
  | .non => some "NoneType"
  | .bl _ => some "bool"
  | .int _ => some "int"
  | .str _ => some "str"
  | .lst _ => some "list"
  | .tup _ => some "tuple"
  | .ins _ _ _ => none
def subTy (a b : String) : Bool := a == b || (a == "bool" && b == "int")
def opIsi (T : String) (d : D) : Option D := match d.ty with
  | some t => (kitB t T).map D.bl
  | none => none
theorem tyx_of {K : PySem.W.Frag} {G H : Hp} {d : D} {v : V} {t : String} (g : Same G H) (h : Dn K G d v) (e : d.ty = some t) : TyX K H v (.type t) := by
  cases d with
  | non => cases e; cases (show v = _ from h); exact .base .non
  | bl b => cases e; cases (show v = _ from h); exact .base (.bl b)
  | int i => cases e; cases (show v = _ from h); exact .base (.int i)
  | str x => cases e; cases (show v = _ from h); exact .base (.str x)
  | lst xs =>
    cases e
    obtain ⟨a, vs, rfl, h1, h2⟩ := h
    rcases sql_mono g h1 with h | ⟨o, its, n, k1, k2, _⟩
    · rcases h with h | ⟨o, h⟩
      · exact .base (.lst h)
      · exact .base (.frz h)
    · exact .kList k1 k2
  | tup xs =>
    cases e
    obtain ⟨a, vs, rfl, h1, h2⟩ := h
    rcases sqt_mono g h1 with h | ⟨o, its, n, k1, k2, _⟩
    · rcases h with h | ⟨o, h⟩
      · exact .base (.tup h)
      · exact .fTuple h
    · exact .kTuple k1 k2
  | ins c ns xs => cases e
theorem disi {T : Str} {n : String} {p p' : Pos} (hm : X.mg "isinstance" = none) (hmT : X.mg T = none) (hvT : bootBuiltins T = some (.type n)) (ha : DE X B W a f) (hg : Gl X "isinstance" := by rfl) (hgT : Gl X T := by rfl) (hnT : T ≠ "__name__" := by decide)
    (hdT : (T == ("__debug__" : Str)) = false := by decide) (he : starEach (a :: [Expr.Name T p']) X.env = (false, eval a X.env) :: starEach [Expr.Name T p'] X.env := by rfl) (hpl : (backTo pos (starEach [Expr.Name T p'] X.env)).any (·.1) = false := by rfl)
    (hs2 : starEach (Expr.Name T p' :: []) X.env = (false, eval (Expr.Name T p') X.env) :: starEach [] X.env := by rfl) :
    DE X B W (.Call (.Name "isinstance" p) [a, .Name T p'] [] pos) (un (opIsi n) f) := by
  refine pe_imp (pe_callB call_isi hg hm (by decide +kernel) (pa_cons ha (pa_cons (pe_bltn (v := .ty n) hgT hmT hvT rfl hnT hdT) pa_nil hs2) he) (by decide) (by decide) he hpl) fun σ H Q h => ?_
  obtain ⟨e, G, ρ, rfl, S, h⟩ := h
  refine ⟨e, G, ρ, rfl, S, (Cont.bind h).imp fun d ρ' G' H' g S' k v hv => ?_⟩
  unfold opIsi at k
  split at k
  · rename_i t ht
    cases hz : kitB t n with
    | none => rw [hz] at k; exact k.elim
    | some r =>
      rw [hz] at k
      exact ⟨v, .ty n, .type t, .type n, r, rfl, .ty n, tyx_of S'.ex hv ht, kit_ty hz, k G' H' (same_refl G') S' _ rfl⟩
  · exact k.elim
end
end DL
end

section
set_option Elab.async false
set_option linter.all false
set_option maxRecDepth 100000
set_option maxHeartbeats 4000000
namespace DL
open PySem PySem.Spec PyProof.Rows L2

/-! ### statements -/
inductive SO where
  | nx (ρ : List Sl) | bk (ρ : List Sl) | ct (ρ : List Sl) | rt (d : D) (ρ : List Sl) | rm (xs : List D) (ρ : List Sl) | exc (c : Str) (ns : List Str) (xs : List D) (ρ : List Sl) | bad
abbrev Sx := List Sl → SO
/-- a list at a that nobody holds -/
def Own (e : En) (σ : L2.St) (G H : Hp) (ρ : List Sl) (a : Addr) (vs : List V) : Prop :=
  H a = some (.lst vs) ∧ G a = none ∧ e.H0 a = none ∧ ∀ (i : Nat) (s : Sl) (u : Option V), ρ[i]? = some s → σ[i]? = some u → mad s u ≠ some a
def SCont (K : PySem.W.Frag) (e : En) (W : WX) (G : Hp) (E : Ends) : SO → Prop
  | .nx ρ => ∀ G' H' σ', Same G G' → Sim K e G' H' σ' ρ → E.nx σ' H'
  | .bk ρ => ∀ G' H' σ', Same G G' → Sim K e G' H' σ' ρ → E.bk σ' H'
  | .ct ρ => ∀ G' H' σ', Same G G' → Sim K e G' H' σ' ρ → E.ct σ' H'
  | .rt d ρ => ∀ G' H' σ' v, Same G G' → Sim K e G' H' σ' ρ → Dn K G' d v → E.rt v H'
  | .rm xs ρ => ∀ G' H' σ' a vs, Same G G' → Sim K e G' H' σ' ρ → Own e σ' G' H' ρ a vs → Dns K G' xs vs → E.rt (.ref a) H'
  | .exc c ns xs ρ => ∀ G' H' σ' dd gs, Same G G' → Sim K e G' H' σ' ρ → H' dd = some (.xd gs) → gs.map (·.1) = ns → Dns K G' xs (gs.map (·.2)) → W (.ref (He.ga K c)) (some dd) σ' H'
  | .bad => False
def tS (K : PySem.W.Frag) (B : List Nat) (W : WX) (f : Sx) : TS := fun E σ H => ∃ (e : En) (G : Hp) (ρ : List Sl), e.B = B ∧ Sim K e G H σ ρ ∧ SCont K e W G E (f ρ)
abbrev DS (X : Cx) (B : List Nat) (W : WX) (s : Stmt) (f : Sx) : Prop := PS X s (tS X.K B W f)
abbrev DSs (X : Cx) (B : List Nat) (W : WX) (s : List Stmt) (f : Sx) : Prop := PSs X s (tS X.K B W f)
theorem ps_imp {X : Cx} {s : Stmt} {t t' : TS} (h : PS X s t) (k : ∀ E σ H, t' E σ H → t E σ H) : PS X s t' := ⟨fun pins s σ H E I q => h.run pins s σ H E I (k E σ H q)⟩
theorem pss_imp {X : Cx} {s : List Stmt} {t t' : TS} (h : PSs X s t) (k : ∀ E σ H, t' E σ H → t E σ H) : PSs X s t' := ⟨fun pins s σ H E I q => h.run pins s σ H E I (k E σ H q)⟩
section
variable {K : PySem.W.Frag} {e : En} {W : WX} {G G' H H' : Hp} {E E' : Ends} {o : SO} {σ : L2.St} {ρ : List Sl}
theorem SCont.mono (g : Same G G') (h : SCont K e W G E o) : SCont K e W G' E o := by
  cases o with
  | nx ρ => exact fun G1 H1 σ1 s S => h G1 H1 σ1 (same_trans g s) S
  | bk ρ => exact fun G1 H1 σ1 s S => h G1 H1 σ1 (same_trans g s) S
  | ct ρ => exact fun G1 H1 σ1 s S => h G1 H1 σ1 (same_trans g s) S
  | rt d ρ => exact fun G1 H1 σ1 v s S => h G1 H1 σ1 v (same_trans g s) S
  | rm xs ρ => exact fun G1 H1 σ1 a vs s S => h G1 H1 σ1 a vs (same_trans g s) S
  | exc c ns xs ρ => exact fun G1 H1 σ1 dd gs s S => h G1 H1 σ1 dd gs (same_trans g s) S
  | bad => exact h
theorem mad_cases {s : Sl} {v : Option V} {a : Addr} (h : mad s v = some a) : v = some (.ref a) ∧ ((∃ xs, s = .m xs) ∨ ∃ c ns xs, s = .o c ns xs) := by
  cases s with
  | no => exact absurd h mad_no
  | d x => exact absurd h mad_d
  | m xs =>
    cases v with
    | none => cases h
    | some u => cases u <;> first | (cases h; done) | (cases h; exact ⟨rfl, .inl ⟨_, rfl⟩⟩)
  | o c ns xs =>
    cases v with
    | none => cases h
    | some u => cases u <;> first | (cases h; done) | (cases h; exact ⟨rfl, .inr ⟨_, _, _, rfl⟩⟩)
/-- a slot set -/
theorem Sim.setS {i : Nat} {s : Sl} {u : Option V} (S : Sim K e G H σ ρ) (hB : i ∉ e.B) (r : SlR K G H s u)
    (hm : ∀ a, mad s u = some a → e.H0 a = none ∧ ∀ (j : Nat) (t : Sl) (w : Option V), ρ[j]? = some t → σ[j]? = some w → mad t w ≠ some a) : Sim K e G H (σ.set i u) (ρ.set i s) := by
  have sc : ∀ {j : Nat} {w : Option V}, (σ.set i u)[j]? = some w → (j = i ∧ w = u) ∨ (j ≠ i ∧ σ[j]? = some w) := fun {j w} h => by
    by_cases q : i = j
    · subst q
      by_cases l : i < σ.length
      · rw [List.getElem?_set_self l] at h
        exact .inl ⟨rfl, (Option.some.inj h).symm⟩
      · rw [List.getElem?_eq_none (by simpa using l)] at h
        cases h
    · rw [List.getElem?_set_ne q] at h
      exact .inr ⟨fun z => q z.symm, h⟩
  refine ⟨S.ex, by simpa using S.len, fun j t h => ?_, fun j k t t' w w' a h1 h2 h3 h4 m1 m2 => ?_, fun j t w a h1 h2 m => ?_, S.keep, S.new, S.there, fun j hj => ?_⟩
  · rcases set_cases h with ⟨rfl, rfl⟩ | ⟨nj, h⟩
    · have l : j < σ.length := by
        rw [S.len]
        have := (List.getElem?_eq_some_iff.mp h).1
        simpa using this
      exact ⟨u, List.getElem?_set_self l, r⟩
    · obtain ⟨w, h1, h2⟩ := S.rel j t h
      exact ⟨w, by rw [List.getElem?_set_ne (Ne.symm nj)]; exact h1, h2⟩
  · rcases set_cases h1 with ⟨rfl, rfl⟩ | ⟨nj, p1⟩
    · rcases sc h3 with ⟨_, rfl⟩ | ⟨z, _⟩
      · rcases set_cases h2 with ⟨rfl, rfl⟩ | ⟨nk, p2⟩
        · rfl
        · rcases sc h4 with ⟨z, _⟩ | ⟨_, p4⟩
          · exact absurd z nk
          · exact absurd m2 ((hm a m1).2 k t' w' p2 p4)
      · exact absurd rfl z
    · rcases sc h3 with ⟨z, _⟩ | ⟨_, p3⟩
      · exact absurd z nj
      · rcases set_cases h2 with ⟨rfl, rfl⟩ | ⟨nk, p2⟩
        · rcases sc h4 with ⟨_, rfl⟩ | ⟨z, _⟩
          · exact absurd m1 ((hm a m2).2 j t w p1 p3)
          · exact absurd rfl z
        · rcases sc h4 with ⟨z, _⟩ | ⟨_, p4⟩
          · exact absurd z nk
          · exact S.sep j k t t' w w' a p1 p2 p3 p4 m1 m2
  · rcases set_cases h1 with ⟨rfl, rfl⟩ | ⟨nj, p1⟩
    · rcases sc h2 with ⟨_, rfl⟩ | ⟨z, _⟩
      · exact .inr ⟨hB, (hm a m).1⟩
      · exact absurd rfl z
    · rcases sc h2 with ⟨z, _⟩ | ⟨_, p2⟩
      · exact absurd z nj
      · exact S.own j t w a p1 p2 m
  · have nj : i ≠ j := fun z => hB (z ▸ hj)
    rw [List.getElem?_set_ne nj]
    exact S.bs j hj
theorem Sim.setD {i : Nat} {d : D} {v : V} (S : Sim K e G H σ ρ) (hB : i ∉ e.B) (r : Dn K G d v) : Sim K e G H (σ.set i (some v)) (ρ.set i (.d d)) := S.setS hB ⟨v, rfl, r⟩ fun a m => absurd m mad_d
theorem Sim.setM {i : Nat} {xs : List D} {vs : List V} {a : Addr} (S : Sim K e G H σ ρ) (hB : i ∉ e.B) (o : Own e σ G H ρ a vs) (r : Dns K G xs vs) : Sim K e G H (σ.set i (some (.ref a))) (ρ.set i (.m xs)) :=
  S.setS hB ⟨a, vs, rfl, o.1, o.2.1, r⟩ fun b m => by
    have z : a = b := Option.some.inj m
    subst z
    exact ⟨o.2.2.1, o.2.2.2⟩
/-- what a slot holds of its own is changed -/
theorem Sim.updO {i : Nat} {s s' : Sl} {a : Addr} {o : HO} (S : Sim K e G H σ ρ) (hs : ρ[i]? = some s) (hv : σ[i]? = some (some (.ref a))) (hm : mad s (some (.ref a)) = some a) (r : SlR K G (upd H a o) s' (some (.ref a))) :
    Sim K e G (upd H a o) σ (ρ.set i s') := by
  obtain ⟨v, z1, z2⟩ := S.rel i s hs
  rw [hv] at z1
  cases z1
  have gn := (z2.madH hm).2
  have nom : ∀ (j : Nat) (t : Sl) (w : Option V) (b : Addr), j ≠ i → ρ[j]? = some t → σ[j]? = some w → mad t w = some b → b ≠ a := fun j t w b nj h1 h2 h3 z => nj (S.sep j i t s w _ a h1 hs h2 hv (z ▸ h3) hm)
  have sm : ∀ b, mad s' (some (.ref a)) = some b → b = a := fun b z => by
    obtain ⟨q, _⟩ := mad_cases z
    exact (V.ref.inj (Option.some.inj q)).symm
  refine ⟨fun b u h => ?_, by simpa using S.len, fun j t h => ?_, fun j k t t' w w' b h1 h2 h3 h4 m1 m2 => ?_, fun j t w b h1 h2 m => ?_, fun b u h n => ?_, S.new, fun b hb => ?_, S.bs⟩
  · have nb : b ≠ a := fun z => by
      rw [z, gn] at h
      cases h
    rw [upd_ne nb]
    exact S.ex b u h
  · rcases set_cases h with ⟨rfl, rfl⟩ | ⟨nj, h⟩
    · exact ⟨_, hv, r⟩
    · obtain ⟨w, h1, h2⟩ := S.rel j t h
      refine ⟨w, h1, h2.mono (same_refl G) fun b u mb hb => ?_⟩
      rw [upd_ne (nom j t w b nj h h1 mb)]
      exact ⟨hb, (h2.madH mb).2⟩
  · rcases set_cases h1 with ⟨rfl, rfl⟩ | ⟨nj, p1⟩
    · rw [hv] at h3
      cases h3
      have e1 := sm b m1
      subst e1
      rcases set_cases h2 with ⟨rfl, rfl⟩ | ⟨nk, p2⟩
      · rfl
      · exact absurd rfl (nom k t' w' b nk p2 h4 m2)
    · rcases set_cases h2 with ⟨rfl, rfl⟩ | ⟨nk, p2⟩
      · rw [hv] at h4
        cases h4
        have e1 := sm b m2
        exact absurd e1 (nom j t w b nj p1 h3 m1)
      · exact S.sep j k t t' w w' b p1 p2 h3 h4 m1 m2
  · rcases set_cases h1 with ⟨rfl, rfl⟩ | ⟨nj, p1⟩
    · rw [hv] at h2
      cases h2
      have e1 := sm b m
      subst e1
      exact S.own j s _ b hs hv hm
    · exact S.own j t w b p1 h2 m
  · by_cases q : b = a
    · subst q
      rcases S.own i s _ b hs hv hm with ⟨_, z⟩ | ⟨_, z⟩
      · exact absurd z n
      · rw [z] at h; cases h
    · rw [upd_ne q]
      exact S.keep b u h n
  · by_cases q : b = a
    · subst q
      exact ⟨o, upd_same⟩
    · rw [upd_ne q]
      exact S.there b hb
end

/-! ### blocks and small statements -/
def nxt : Sx := fun ρ => .nx ρ
def seqS (f g : Sx) : Sx := fun ρ => match f ρ with
  | .nx ρ1 => g ρ1
  | .bk ρ1 => .bk ρ1
  | .ct ρ1 => .ct ρ1
  | .rt d ρ1 => .rt d ρ1
  | .rm xs ρ1 => .rm xs ρ1
  | .exc c ns xs ρ1 => .exc c ns xs ρ1
  | .bad => .bad
/-- an expression, then a statement -/
def Out.then {α : Type} (o : Out α) (g : α → List Sl → SO) : SO := match o with
  | .ok a ρ => g a ρ
  | .exc c ns xs ρ => .exc c ns xs ρ
  | .bad => .bad
def ifS (t : Ex Bool) (f g : Sx) : Sx := fun ρ => (t ρ).then fun b ρ1 => if b = true then f ρ1 else g ρ1
def asg (B : List Nat) (i : Nat) (f : Ex D) : Sx := fun ρ => (f ρ).then fun d ρ1 => if i ∈ B then .bad else .nx (ρ1.set i (.d d))
def asgM (B : List Nat) (i : Nat) (f : Ex (List D)) : Sx := fun ρ => (f ρ).then fun xs ρ1 => if i ∈ B then .bad else .nx (ρ1.set i (.m xs))
def ret (f : Ex D) : Sx := fun ρ => (f ρ).then fun d ρ1 => .rt d ρ1
def retM (f : Ex (List D)) : Sx := fun ρ => (f ρ).then fun xs ρ1 => .rm xs ρ1
def retN : Sx := fun ρ => .rt .non ρ
def drp (f : Ex D) : Sx := fun ρ => (f ρ).then fun _ ρ1 => .nx ρ1
def brk : Sx := fun ρ => .bk ρ
def cnt : Sx := fun ρ => .ct ρ
theorem Cont.then {α : Type} {K : PySem.W.Frag} {e : En} {W : WX} {G : Hp} {E : Ends} {σ : L2.St} {o : Out α} {g : α → List Sl → SO} (h : SCont K e W G E (o.then g)) : Cont K e W σ G o fun a ρ1 G1 H1 => SCont K e W G1 E (g a ρ1) := by
  cases o with
  | ok a ρ => exact fun G' H' s S => SCont.mono s h
  | exc c ns xs ρ => exact fun G' H' dd gs s S hd h1 h2 => h G' H' σ dd gs s S hd h1 h2
  | bad => exact h
section
variable {X : Cx} {B : List Nat} {W : WX} {st : Stmt} {rest : List Stmt} {f g : Sx} {fe : Ex D} {fm : Ex (List D)} {a b : Expr} {pos : Pos}
theorem snil : DSs X B W [] nxt := by
  refine pss_imp pss_nil fun E σ H h => ?_
  obtain ⟨e, G, ρ, rfl, S, h⟩ := h
  exact h G H σ (same_refl G) S
theorem seq_imp {E : Ends} {σ : L2.St} {H : Hp} (h : tS X.K B W (seqS f g) E σ H) : tS X.K B W f { E with nx := tS X.K B W g E } σ H := by
  obtain ⟨e, G, ρ, rfl, S, h⟩ := h
  refine ⟨e, G, ρ, rfl, S, ?_⟩
  unfold seqS at h
  cases q : f ρ with
  | nx ρ1 =>
    rw [q] at h
    exact fun G' H' σ' s S' => ⟨e, G', ρ1, rfl, S', SCont.mono s h⟩
  | bk ρ1 => rw [q] at h; exact h
  | ct ρ1 => rw [q] at h; exact h
  | rt d ρ1 => rw [q] at h; exact h
  | rm d ρ1 => rw [q] at h; exact h
  | exc c ns xs ρ1 => rw [q] at h; exact h
  | bad => rw [q] at h; exact h
theorem scons (h1 : DS X B W st f) (h2 : DSs X B W rest g) : DSs X B W (st :: rest) (seqS f g) := pss_imp (pss_cons h1 h2) fun E σ H h => seq_imp h
theorem sone (h1 : DS X B W st f) : DSs X B W [st] f := pss_one h1
theorem spass : DS X B W (.Pass pos) nxt := by
  refine ps_imp ps_pass fun E σ H h => ?_
  obtain ⟨e, G, ρ, rfl, S, h⟩ := h
  exact h G H σ (same_refl G) S
theorem sbrk : DS X B W (.Break pos) brk := by
  refine ps_imp ps_break fun E σ H h => ?_
  obtain ⟨e, G, ρ, rfl, S, h⟩ := h
  exact h G H σ (same_refl G) S
theorem scnt : DS X B W (.Continue pos) cnt := by
  refine ps_imp ps_continue fun E σ H h => ?_
  obtain ⟨e, G, ρ, rfl, S, h⟩ := h
  exact h G H σ (same_refl G) S
theorem sif {c : Expr} {p q : List Stmt} {t : Ex Bool} (hc : DT X B W c t) (ha : DSs X B W p f) (hb : DSs X B W q g) : DS X B W (.If c p q pos) (ifS t f g) := by
  refine ps_imp (ps_if hc ha hb) fun E σ H h => ?_
  obtain ⟨e, G, ρ, rfl, S, h⟩ := h
  refine ⟨e, G, ρ, rfl, S, (Cont.then h).imp fun b ρ1 G1 H1 g1 S1 k => ?_⟩
  cases b with
  | true => exact ⟨e, G1, ρ1, rfl, S1, k⟩
  | false => exact ⟨e, G1, ρ1, rfl, S1, k⟩
theorem sret (h : DE X B W a fe) : DS X B W (.Return (some a) pos) (ret fe) := by
  refine ps_imp (ps_ret h) fun E σ H h => ?_
  obtain ⟨e, G, ρ, rfl, S, h⟩ := h
  exact ⟨e, G, ρ, rfl, S, (Cont.then h).imp fun d ρ1 G1 H1 g1 S1 k v hv => k G1 H1 σ v (same_refl G1) S1 hv⟩
theorem sretM (h : DM X B W a fm) : DS X B W (.Return (some a) pos) (retM fm) := by
  refine ps_imp (ps_ret h) fun E σ H h => ?_
  obtain ⟨e, G, ρ, rfl, S, h⟩ := h
  exact ⟨e, G, ρ, rfl, S, (Cont.then h).imp fun d ρ1 G1 H1 g1 S1 k v vs h1 h2 h3 h4 hv => k G1 H1 σ v vs (same_refl G1) S1 ⟨h1, h2, h3, h4⟩ hv⟩
theorem sretN : DS X B W (.Return none pos) retN := by
  refine ps_imp ps_retN fun E σ H h => ?_
  obtain ⟨e, G, ρ, rfl, S, h⟩ := h
  exact h G H σ .non (same_refl G) S rfl
/-- return of the slot's own list -/
def retS (B : List Nat) (i : Nat) : Sx := fun ρ => match ρ[i]? with
  | some (.m xs) => if i ∈ B then .bad else .rm xs (ρ.set i .no)
  | _ => .bad
theorem sretS (i : Nat) {x : Str} {px : Pos} (hN : X.N[i]? = some x := by rfl) (hv : Vis X.env.scope x := by first | exact Or.inl rfl | exact Or.inr (Or.inl rfl) | exact Or.inr (Or.inr rfl)) (hd : (x == ("__debug__" : Str)) = false := by decide)
    (hcd : (x == ("__classdict__" : Str)) = false := by decide) : DS X B W (.Return (some (.Name x px)) pos) (retS B i) := by
  refine ps_imp (ps_ret (pe_var hN hv hd hcd)) fun E σ H h => ?_
  obtain ⟨e, G, ρ, rfl, S, h⟩ := h
  unfold retS at h
  split at h
  · rename_i xs hx
    split at h
    · exact h.elim
    · rename_i nB
      obtain ⟨v, h1, a, vs, rfl, h3, h4, h5⟩ := S.rel _ _ hx
      refine ⟨_, h1, h G H σ a vs (same_refl G) (S.drop i) ⟨h3, h4, ?_, fun j t w h6 h7 m => ?_⟩ h5⟩
      · rcases S.own i _ _ a hx h1 rfl with ⟨z, _⟩ | ⟨_, z⟩
        · exact absurd z nB
        · exact z
      · rcases set_cases h6 with ⟨rfl, rfl⟩ | ⟨nj, h6⟩
        · exact absurd m mad_no
        · exact nj (S.sep j i t _ w _ a h6 hx h7 h1 m rfl)
  · exact h.elim
theorem sdrp (h : DE X B W a fe) (hs : swapsWith a none pos.line X.env = pure false := by rfl) : DS X B W (.Expr a pos) (drp fe) := by
  refine ps_imp (ps_expr h hs) fun E σ H h => ?_
  obtain ⟨e, G, ρ, rfl, S, h⟩ := h
  exact ⟨e, G, ρ, rfl, S, (Cont.then h).imp fun d ρ1 G1 H1 g1 S1 k v hv => k G1 H1 σ (same_refl G1) S1⟩
theorem sasg (i : Nat) {x : Str} {pos' : Pos} (hN : X.N.Nodup) (h : DE X B W a fe) (hi : X.N[i]? = some x := by rfl) (hx : Loc X.env.scope x := by first | exact Or.inl rfl | exact Or.inr rfl) (hs : swapsWith a (some (.Name x pos')) pos.line X.env = pure false := by rfl)
    (hf : X.fn x = true ∨ X.env.scope.names.lookup x = some .local := by first | exact .inl rfl | exact .inr rfl | assumption) : DS X B W (.Assign [.Name x pos'] a pos) (asg B i fe) := by
  refine ps_imp (ps_set hN hi hx h hs hf) fun E σ H h => ?_
  obtain ⟨e, G, ρ, rfl, S, h⟩ := h
  refine ⟨e, G, ρ, rfl, S, (Cont.then h).imp fun d ρ1 G1 H1 g1 S1 k v hv => ?_⟩
  split at k
  · exact k.elim
  · rename_i nB
    exact k G1 H1 _ (same_refl G1) (S1.setD nB hv)
theorem sasgM (i : Nat) {x : Str} {pos' : Pos} (hN : X.N.Nodup) (h : DM X B W a fm) (hi : X.N[i]? = some x := by rfl) (hx : Loc X.env.scope x := by first | exact Or.inl rfl | exact Or.inr rfl) (hs : swapsWith a (some (.Name x pos')) pos.line X.env = pure false := by rfl)
    (hf : X.fn x = true ∨ X.env.scope.names.lookup x = some .local := by first | exact .inl rfl | exact .inr rfl | assumption) : DS X B W (.Assign [.Name x pos'] a pos) (asgM B i fm) := by
  refine ps_imp (ps_set hN hi hx h hs hf) fun E σ H h => ?_
  obtain ⟨e, G, ρ, rfl, S, h⟩ := h
  refine ⟨e, G, ρ, rfl, S, (Cont.then h).imp fun d ρ1 G1 H1 g1 S1 k v vs h1 h2 h3 h4 hv => ?_⟩
  split at k
  · exact k.elim
  · rename_i nB
    exact k G1 H1 _ (same_refl G1) (S1.setM nB ⟨h1, h2, h3, h4⟩ hv)

/-! ### a slot's own list changed -/
def appM (i : Nat) (f : Ex D) : Sx := fun ρ => match ρ[i]? with
  | some (.m _) => (f ρ).then fun d ρ1 => match ρ1[i]? with
    | some (.m xs) => if xs.length < sizeLine then .nx (ρ1.set i (.m (xs ++ [d]))) else .bad
    | _ => .bad
  | _ => .bad
def setM (i : Nat) (fj fv : Ex D) : Sx := fun ρ => (fv ρ).then fun d ρ1 => match ρ1[i]? with
  | some (.m _) => (fj ρ1).then fun y ρ2 => match ρ2[i]?, y with
    | some (.m xs), .int j => match ixN xs.length j with
      | some k => .nx (ρ2.set i (.m (xs.set k d)))
      | none => .bad
    | _, _ => .bad
  | _ => .bad
theorem sappM (i : Nat) {x : Str} {px ap cp : Pos} (h : DE X B W a fe) (hN : X.N[i]? = some x := by rfl) (hv : Vis X.env.scope x := by first | exact Or.inl rfl | exact Or.inr (Or.inl rfl) | exact Or.inr (Or.inr rfl)) (hd : (x == ("__debug__" : Str)) = false := by decide)
    (hcd : (x == ("__classdict__" : Str)) = false := by decide) (hs : starEach (a :: []) X.env = (false, eval a X.env) :: starEach [] X.env := by rfl)
    (hm : PE X (.Call (.Attribute (.Name x px) "append" ap) [a] [] cp) (tBM X.K "list" rAppend (tVar i) (tCons (tD X.K B W fe) tNil)) := by
      exact pe_bm PySem.F.plainAttrs_list PySem.F.slot_list_append PySem.F.type_list_append mt_append (pe_var (by rfl) (by first | exact Or.inl rfl | exact Or.inr (Or.inl rfl) | exact Or.inr (Or.inr rfl))) (pa_cons (by assumption) pa_nil))
    (hsw : swapsWith (.Call (.Attribute (.Name x px) "append" ap) [a] [] cp) none pos.line X.env = pure false := by rfl) : DS X B W (.Expr (.Call (.Attribute (.Name x px) "append" ap) [a] [] cp) pos) (appM i fe) := by
  refine ps_imp (ps_expr hm hsw) fun E σ H h => ?_
  obtain ⟨e, G, ρ, rfl, S, h⟩ := h
  unfold appM at h
  split at h
  · rename_i xs0 hx0
    obtain ⟨v0, hv0, a0, vs0, rfl, k0, _⟩ := S.rel _ _ hx0
    refine ⟨_, hv0, .inl ⟨rfl, _, SqL.of k0⟩, e, G, ρ, rfl, S, (Cont.then h).imp fun d ρ1 G1 H1 g1 S1 k v hv => ?_⟩
    split at k
    · rename_i xs hx
      split at k
      · rename_i hl
        obtain ⟨v1, h1, a1, vs, h2, h3, h4, h5⟩ := S1.rel _ _ hx
        rw [hv0] at h1
        cases h1
        cases h2
        refine ⟨_, vs, v, rfl, rfl, h3, by rw [h5.len]; exact hl, ?_⟩
        refine k G1 _ σ (same_refl G1) (S1.updO hx hv0 rfl ⟨_, _, rfl, upd_same, h4, h5.append (Dns.cons hv Dns.nil)⟩)
      · exact k.elim
    · exact k.elim
  · exact h.elim
theorem ssetM (i : Nat) {x : Str} {px tp : Pos} {fj : Ex D} (hv : DE X B W a fe) (hj : DE X B W b fj) (hN : X.N[i]? = some x := by rfl) (hvis : Vis X.env.scope x := by first | exact Or.inl rfl | exact Or.inr (Or.inl rfl) | exact Or.inr (Or.inr rfl))
    (hd : (x == ("__debug__" : Str)) = false := by decide) (hcd : (x == ("__classdict__" : Str)) = false := by decide)
    (ha : ∀ v, assign (.Subscript (.Name x px) b tp) X.env v = (do
      let ov ← holding [v] (eval (.Name x px) X.env)
      let iv ← holding [v, ov] (eval b X.env)
      standAt tp
      holding [v, ov, iv] (setItem ov iv v)
      release [v, ov, iv] []) := by intro _; rfl)
    (hs : swapsWithSole [.Subscript (.Name x px) b tp] a pos.line X.env = pure false := by rfl) (hw : swappedStores [.Subscript (.Name x px) b tp] a X.env = pure none := by rfl)
    (h1 : (assignEach [.Subscript (.Name x px) b tp] X.env).map (·.2) = [assign (.Subscript (.Name x px) b tp) X.env] := by rfl) : DS X B W (.Assign [.Subscript (.Name x px) b tp] a pos) (setM i fj fe) := by
  refine ps_imp (ps_asg hv (pg_sub (pe_var hN hvis hd hcd) hj set_list ha) hs hw h1) fun E σ H h => ?_
  obtain ⟨e, G, ρ, rfl, S, h⟩ := h
  refine ⟨e, G, ρ, rfl, S, (Cont.then h).imp fun d ρ1 G1 H1 g1 S1 k v hv => ?_⟩
  split at k
  · rename_i xs0 hx0
    obtain ⟨v0, hv0, a0, vs0, rfl, k0, _⟩ := S1.rel _ _ hx0
    refine ⟨_, hv0, e, G1, ρ1, rfl, S1, (Cont.then k).imp fun y ρ2 G2 H2 g2 S2 k2 u hu => ?_⟩
    split at k2
    · rename_i xs j hx
      obtain ⟨v1, h1, a1, vs, h2, h3, h4, h5⟩ := S2.rel _ _ hx
      rw [hv0] at h1
      cases h1
      cases h2
      cases (show u = _ from hu)
      split at k2
      · rename_i n hn
        refine ⟨_, vs, _, n, rfl, rfl, h3, by rw [h5.len]; exact hn, ?_⟩
        exact k2 G2 _ σ (same_refl G2) (S2.updO hx hv0 rfl ⟨_, _, rfl, upd_same, h4, h5.set n (Dn.mono g2 _ _ hv)⟩)
      · exact k2.elim
    · exact k2.elim
  · exact k.elim
/-- x += e, x a number's (text's) name -/
def aug (B : List Nat) (op : D → D → Option D) (i : Nat) (f : Ex D) : Sx := fun ρ => match ρ[i]? with
  | some (.d x) => (f ρ).then fun y ρ1 => match op x y with
    | some z => if i ∈ B then .bad else .nx (ρ1.set i (.d z))
    | none => .bad
  | _ => .bad
theorem saug {o : Operator} {op : D → D → Option D} (i : Nat) {x : Str} {px : Pos} (hN : X.N.Nodup) (ho : OpD X (inplaceOp o) op) (h : DE X B W a fe) (hi : X.N[i]? = some x := by rfl) (hx : Loc X.env.scope x := by first | exact Or.inl rfl | exact Or.inr rfl)
    (hA : PS X (.AugAssign (.Name x px) o a pos) (tAug i (tD X.K B W fe) (rD X.K op)) := by exact ps_aug (by assumption) rfl (by first | exact Or.inl rfl | exact Or.inr rfl) (by assumption) (by assumption)) : DS X B W (.AugAssign (.Name x px) o a pos) (aug B op i fe) := by
  refine ps_imp hA fun E σ H h => ?_
  obtain ⟨e, G, ρ, rfl, S, h⟩ := h
  unfold aug at h
  split at h
  · rename_i d hd
    obtain ⟨v0, hv0, u0, rfl, k0⟩ := S.rel _ _ hd
    refine ⟨u0, hv0, e, G, ρ, rfl, S, (Cont.then h).imp fun y ρ1 G1 H1 g1 S1 k v hv => ?_⟩
    split at k
    · rename_i z hz
      split at k
      · exact k.elim
      · rename_i nB
        exact ⟨G1, d, y, z, S1.ex, Dn.mono g1 _ _ k0, hv, hz, fun w hw => k G1 H1 _ (same_refl G1) (S1.setD nB hw)⟩
    · exact k.elim
  · exact h.elim
end
end DL
end

section
set_option Elab.async false
set_option linter.all false
set_option maxRecDepth 100000
set_option maxHeartbeats 4000000
namespace DL
open PySem PySem.Spec PyProof.Rows L2

/-! ### targets -/
abbrev Bd := D → List Sl → Option (List Sl)
abbrev Bds := List D → List Sl → Option (List Sl)
def bN (B : List Nat) (i : Nat) : Bd := fun d ρ => if i ∈ B then none else some (ρ.set i (.d d))
def bNil : Bds := fun ds ρ => match ds with
  | [] => some ρ
  | _ => none
def bCons (b : Bd) (bs : Bds) : Bds := fun ds ρ => match ds with
  | d :: r => (b d ρ).bind fun ρ1 => bs r ρ1
  | [] => none
def bT (n : Nat) (bs : Bds) : Bd := fun d ρ => match d with
  | .tup xs => if xs.length = n then bs xs ρ else none
  | _ => none
/-- the slots outside tl are as they were -/
def Out_ (tl : List Nat) (σ σ' : L2.St) : Prop := σ'.length = σ.length ∧ ∀ j : Nat, j ∉ tl → σ'[j]? = σ[j]?
def tG (K : PySem.W.Frag) (B tl : List Nat) (b : Bd) : TG := fun v σ H Q => ∃ (e : En) (G : Hp) (ρ ρ' : List Sl) (d : D), e.B = B ∧ Sim K e G H σ ρ ∧ Dn K G d v ∧ b d ρ = some ρ' ∧ ∀ G' H' σ', Same G G' → Sim K e G' H' σ' ρ' → Out_ tl σ σ' → Q σ' H'
def tGs (K : PySem.W.Frag) (B tl : List Nat) (b : Bds) : TGs := fun vs σ H Q => ∃ (e : En) (G : Hp) (ρ ρ' : List Sl) (ds : List D), e.B = B ∧ Sim K e G H σ ρ ∧ Dns K G ds vs ∧ b ds ρ = some ρ' ∧ ∀ G' H' σ', Same G G' → Sim K e G' H' σ' ρ' → Out_ tl σ σ' → Q σ' H'
/-- tl: the slots of the names of the target -/
abbrev DG (X : Cx) (B tl : List Nat) (tg : Expr) (b : Bd) : Prop := PG X tg (tG X.K B tl b)
abbrev DGs (X : Cx) (B tl : List Nat) (tg : List Expr) (b : Bds) : Prop := PGs X tg (tGs X.K B tl b)
theorem out_refl (tl : List Nat) (σ : L2.St) : Out_ tl σ σ := ⟨rfl, fun _ _ => rfl⟩
theorem out_cat {tl tl' : List Nat} {σ σ1 σ2 : L2.St} (a : Out_ tl σ σ1) (b : Out_ tl' σ1 σ2) : Out_ (tl ++ tl') σ σ2 := ⟨b.1.trans a.1, fun j h => by
  rw [List.mem_append, not_or] at h
  exact (b.2 j h.2).trans (a.2 j h.1)⟩
theorem out_set {σ : L2.St} {i : Nat} {v : Option V} : Out_ [i] σ (σ.set i v) := ⟨by simp, fun j h => by
  rw [List.getElem?_set_ne]
  exact fun z => h (List.mem_singleton.mpr z.symm)⟩
theorem pg_imp {X : Cx} {tg : Expr} {t t' : TG} (h : PG X tg t) (k : ∀ v σ H Q, t' v σ H Q → t v σ H Q) : PG X tg t' := ⟨fun pins s σ H v u Q I r q => h.run pins s σ H v u Q I r (k v σ H Q q)⟩
theorem pgs_imp {X : Cx} {tg : List Expr} {t t' : TGs} (h : PGs X tg t) (k : ∀ v σ H Q, t' v σ H Q → t v σ H Q) : PGs X tg t' := ⟨fun pins s σ H v u Q I r q => h.run pins s σ H v u Q I r (k v σ H Q q)⟩
section
variable {X : Cx} {B tl tls : List Nat} {W : WX} {tg : Expr} {tgs : List Expr} {b : Bd} {bs : Bds} {pos : Pos}
theorem gnm (i : Nat) {x : Str} (hN : X.N.Nodup) (hi : X.N[i]? = some x := by rfl) (hx : Loc X.env.scope x := by first | exact Or.inl rfl | exact Or.inr rfl)
    (hf : X.fn x = true ∨ X.env.scope.names.lookup x = some .local := by first | exact .inl rfl | exact .inr rfl | assumption) : DG X B [i] (.Name x pos) (bN B i) := by
  refine pg_imp (pg_name hN hi hx hf) fun v σ H Q h => ?_
  obtain ⟨e, G, ρ, ρ', d, rfl, S, hd, hb, k⟩ := h
  unfold bN at hb
  split at hb
  · cases hb
  · rename_i nB
    cases hb
    exact k G H _ (same_refl G) (S.setD nB hd) out_set
theorem gnil : DGs X B [] [] bNil := by
  refine pgs_imp pgs_nil fun vs σ H Q h => ?_
  obtain ⟨e, G, ρ, ρ', ds, rfl, S, hd, hb, k⟩ := h
  unfold bNil at hb
  split at hb
  · cases hb
    exact ⟨hd, k G H σ (same_refl G) S (out_refl _ _)⟩
  · cases hb
theorem gcons (h1 : DG X B tl tg b) (h2 : DGs X B tls tgs bs) (hs : (assignEach (tg :: tgs) X.env).map (·.2) = assign tg X.env :: (assignEach tgs X.env).map (·.2) := by rfl) : DGs X B (tl ++ tls) (tg :: tgs) (bCons b bs) := by
  refine pgs_imp (pgs_cons h1 h2 hs) fun vs σ H Q h => ?_
  obtain ⟨e, G, ρ, ρ', ds, rfl, S, hd, hb, k⟩ := h
  unfold bCons at hb
  split at hb
  · rename_i d r
    obtain ⟨v, w, rfl, k1, k2⟩ := hd
    cases q : b d ρ with
    | none => rw [q] at hb; cases hb
    | some ρ1 =>
      rw [q] at hb
      exact ⟨v, w, rfl, e, G, ρ, ρ1, d, rfl, S, k1, q, fun G1 H1 σ1 g S1 o1 => ⟨e, G1, ρ1, ρ', r, rfl, S1, Dns.mono g _ _ k2, hb, fun G2 H2 σ2 g2 S2 o2 => k G2 H2 σ2 (same_trans g g2) S2 (out_cat o1 o2)⟩⟩
  · cases hb
theorem gtup {k : Nat} {n : Nat} (hc : X.calm = true) (h : DGs X B tls tgs bs) (hn : (assignEach tgs X.env).length = n := by rfl) (hst : (assignEach tgs X.env).findIdx? (·.1) = none := by rfl) : DG X B tls (.Tuple tgs k pos) (bT n bs) := by
  refine pg_imp (pg_tup hc h hn hst) fun v σ H Q h => ?_
  obtain ⟨e, G, ρ, ρ', d, rfl, S, hd, hb, k⟩ := h
  unfold bT at hb
  split at hb
  · rename_i xs
    split at hb
    · rename_i hl
      obtain ⟨a, vs, rfl, k1, k2⟩ := hd
      exact ⟨a, vs, rfl, sqt_mono S.ex k1, by rw [k2.len]; exact hl, e, G, ρ, ρ', xs, rfl, S, k2, hb, k⟩
    · cases hb
  · cases hb
/-- a, b = e -/
def asgT (b : Bd) (f : Ex D) : Sx := fun ρ => (f ρ).then fun d ρ1 => match b d ρ1 with
  | some ρ2 => .nx ρ2
  | none => .bad
theorem sasgT {a : Expr} {f : Ex D} (h : DE X B W a f) (hg : DG X B tl tg b) (hs : swapsWithSole [tg] a pos.line X.env = pure false := by rfl) (hw : swappedStores [tg] a X.env = pure none := by rfl)
    (h1 : (assignEach [tg] X.env).map (·.2) = [assign tg X.env] := by rfl) : DS X B W (.Assign [tg] a pos) (asgT b f) := by
  refine ps_imp (ps_asg h hg hs hw h1) fun E σ H h => ?_
  obtain ⟨e, G, ρ, rfl, S, h⟩ := h
  refine ⟨e, G, ρ, rfl, S, (Cont.then h).imp fun d ρ1 G1 H1 g1 S1 k v hv => ?_⟩
  split at k
  · rename_i ρ2 h2
    exact ⟨e, G1, ρ1, ρ2, d, rfl, S1, hv, h2, fun G2 H2 σ2 g2 S2 _ => k G2 H2 σ2 g2 S2⟩
  · exact k.elim
/-- a, b = x, y -/
def asg2 (B : List Nat) (i j : Nat) (f g : Ex D) : Sx := fun ρ => (f ρ).then fun x ρ1 => (g ρ1).then fun y ρ2 => if i ∈ B ∨ j ∈ B then .bad else .nx ((ρ2.set i (.d x)).set j (.d y))
theorem sasg2 {x y : Str} (i j : Nat) {a c : Expr} {f g : Ex D} {px py pt pt2 : Pos} {kt k2 : Nat} (hc : X.calm = true) (hN : X.N.Nodup) (hf : DE X B W a f) (hg : DE X B W c g) (hi : X.N[i]? = some x := by rfl) (hj : X.N[j]? = some y := by rfl) (hij : i ≠ j := by decide)
    (hx : X.env.scope.names.lookup x = some .local := by rfl) (hy : X.env.scope.names.lookup y = some .local := by rfl) (hs : starEach (a :: [c]) X.env = (false, eval a X.env) :: starEach [c] X.env := by rfl) (hs2 : starEach (c :: []) X.env = (false, eval c X.env) :: starEach [] X.env := by rfl)
    (hp : PS X (.Assign [.Tuple [.Name x px, .Name y py] kt pt] (.Tuple [a, c] k2 pt2) pos) (tPar i j (tCons (tD X.K B W f) (tCons (tD X.K B W g) tNil))) := by
      exact ps_par (by assumption) (by assumption) rfl rfl (by decide) rfl rfl (pa_cons (by assumption) (pa_cons (by assumption) pa_nil)) (by rfl)) :
    DS X B W (.Assign [.Tuple [.Name x px, .Name y py] kt pt] (.Tuple [a, c] k2 pt2) pos) (asg2 B i j f g) := by
  refine ps_imp hp fun E σ H h => ?_
  obtain ⟨e, G, ρ, rfl, S, h⟩ := h
  refine ⟨e, G, ρ, rfl, S, (Cont.then h).imp fun x ρ1 G1 H1 g1 S1 k v hv => ?_⟩
  refine ⟨e, G1, ρ1, rfl, S1, (Cont.then k).imp fun y ρ2 G2 H2 g2 S2 k2 u hu => ?_⟩
  split at k2
  · exact k2.elim
  · rename_i nB
    exact ⟨v, u, rfl, k2 G2 H2 _ (same_refl G2) ((S2.setD (fun z => nB (.inl z)) (Dn.mono g2 _ _ hv)).setD (fun z => nB (.inr z)) hu)⟩
end

/-! ### what a for walks -/
/-- J gives the items xs, whatever happens to what is not data -/
def Feeds (K : PySem.W.Frag) (J : It) (G : Hp) (xs : List D) : Prop := ∀ (e : En) (G1 H1 : Hp) (σ : L2.St) (ρ : List Sl), Same G G1 → Sim K e G1 H1 σ ρ → ∀ i : Nat, (xs.length = i → J.stop i H1) ∧
  ∀ d, xs[i]? = some d → J.go i H1 ∧ ∀ x H2, J.yld i H1 x H2 → ∃ G2, Same G1 G2 ∧ Sim K e G2 H2 σ ρ ∧ Dn K G2 d x
def tI (K : PySem.W.Frag) (B : List Nat) (W : WX) (f : Ex (List D)) : TI := fun σ H R => ∃ (e : En) (G : Hp) (ρ : List Sl), e.B = B ∧ Sim K e G H σ ρ ∧ Cont K e W σ G (f ρ) fun xs _ G1 H1 => ∀ J, Feeds K J G1 xs → R J H1
abbrev DI (X : Cx) (B : List Nat) (W : WX) (tg e : Expr) (f : Ex (List D)) : Prop := PI X tg e (tI X.K B W f)
theorem pi_imp {X : Cx} {tg e : Expr} {t t' : TI} (h : PI X tg e t) (k : ∀ σ H R, t' σ H R → t σ H R) : PI X tg e t' := ⟨fun pins s σ H R I q => h.run pins s σ H R I (k σ H R q)⟩
theorem feeds_l {K : PySem.W.Frag} {G : Hp} {a : Addr} {vs : List V} {xs : List D} (h : SqL K G a vs) (hd : Dns K G xs vs) : Feeds K (Itl K a) G xs := fun e G1 H1 σ ρ g S i => by
  have h1 := sql_mono S.ex (sql_mono g h)
  refine ⟨fun hl => ⟨vs, h1, by rw [hd.len]; exact Nat.le_of_eq hl⟩, fun d hi => ?_⟩
  obtain ⟨v, e1, e2⟩ := hd.get hi
  refine ⟨⟨vs, v, h1, e1⟩, fun x H2 y => ?_⟩
  obtain ⟨rfl, y⟩ := y
  have e3 := y vs h1
  rw [e1] at e3
  cases e3
  exact ⟨G1, same_refl G1, S, Dn.mono g _ _ e2⟩
theorem feeds_t {K : PySem.W.Frag} {G : Hp} {a : Addr} {vs : List V} {xs : List D} (h : SqT K G a vs) (hd : Dns K G xs vs) : Feeds K (Itt K a) G xs := fun e G1 H1 σ ρ g S i => by
  have h1 := sqt_mono S.ex (sqt_mono g h)
  refine ⟨fun hl => ⟨vs, h1, by rw [hd.len]; exact Nat.le_of_eq hl⟩, fun d hi => ?_⟩
  obtain ⟨v, e1, e2⟩ := hd.get hi
  refine ⟨⟨vs, v, h1, e1⟩, fun x H2 y => ?_⟩
  obtain ⟨rfl, y⟩ := y
  have e3 := y vs h1
  rw [e1] at e3
  cases e3
  exact ⟨G1, same_refl G1, S, Dn.mono g _ _ e2⟩
/-- the numbers lo, lo + 1, .. -/
def upto (lo : Int) (n : Nat) : List D := (List.range n).map fun i : Nat => D.int (lo + (i : Int))
theorem upto_get {lo : Int} {n i : Nat} {d : D} (h : (upto lo n)[i]? = some d) : i < n ∧ d = .int (lo + (i : Int)) := by
  unfold upto at h
  rw [List.getElem?_map] at h
  by_cases l : i < n
  · rw [List.getElem?_range l] at h
    cases h
    exact ⟨l, rfl⟩
  · rw [List.getElem?_eq_none (by simpa using l)] at h
    cases h
theorem feeds_r {K : PySem.W.Frag} {G : Hp} {lo : Int} {n : Nat} : Feeds K (Itr lo n) G (upto lo n) := fun e G1 H1 σ ρ g S i => by
  refine ⟨fun hl => ?_, fun d hi => ?_⟩
  · have : (upto lo n).length = n := by unfold upto; rw [List.length_map, List.length_range]
    rw [this] at hl
    exact Nat.le_of_eq hl
  · obtain ⟨l, rfl⟩ := upto_get hi
    refine ⟨l, fun x H2 y => ?_⟩
    obtain ⟨rfl, rfl⟩ := y
    exact ⟨G1, same_refl G1, S, rfl⟩
/-- a data list or tuple walked -/
def itD (f : Ex D) : Ex (List D) := fun ρ => (f ρ).bind fun d ρ1 => match d with
  | .lst xs => .ok xs ρ1
  | _ => .bad
def itT (f : Ex D) : Ex (List D) := fun ρ => (f ρ).bind fun d ρ1 => match d with
  | .tup xs => .ok xs ρ1
  | _ => .bad
def okR (n : Int) : Bool := decide (-(2 ^ 62) ≤ n ∧ n < 2 ^ 62)
def itR1 (f : Ex D) : Ex (List D) := fun ρ => (f ρ).bind fun d ρ1 => match d with
  | .int n => if okR n = true then .ok (upto 0 n.toNat) ρ1 else .bad
  | _ => .bad
def itR2 (f g : Ex D) : Ex (List D) := fun ρ => (f ρ).bind fun x ρ1 => (g ρ1).bind fun y ρ2 => match x, y with
  | .int a, .int b => if okR a = true ∧ okR b = true then .ok (upto a (b - a).toNat) ρ2 else .bad
  | _, _ => .bad
section
variable {X : Cx} {B : List Nat} {W : WX} {tg a c : Expr} {f g : Ex D} {pos : Pos}
theorem iD (ha : DE X B W a f) : DI X B W tg a (itD f) := by
  refine pi_imp (pi_list ha) fun σ H R h => ?_
  obtain ⟨e, G, ρ, rfl, S, h⟩ := h
  refine ⟨e, G, ρ, rfl, S, (Cont.bind h).imp fun d ρ1 G1 H1 g1 S1 k v hv => ?_⟩
  cases d with
  | lst xs =>
    obtain ⟨p, vs, rfl, h1, h2⟩ := hv
    exact ⟨p, rfl, ⟨vs, sql_mono S1.ex h1⟩, k G1 H1 (same_refl G1) S1 _ (feeds_l h1 h2)⟩
  | _ => exact k.elim
theorem iT (ha : DE X B W a f) : DI X B W tg a (itT f) := by
  refine pi_imp (pi_tup ha) fun σ H R h => ?_
  obtain ⟨e, G, ρ, rfl, S, h⟩ := h
  refine ⟨e, G, ρ, rfl, S, (Cont.bind h).imp fun d ρ1 G1 H1 g1 S1 k v hv => ?_⟩
  cases d with
  | tup xs =>
    obtain ⟨p, vs, rfl, h1, h2⟩ := hv
    exact ⟨p, rfl, ⟨vs, sqt_mono S1.ex h1⟩, k G1 H1 (same_refl G1) S1 _ (feeds_t h1 h2)⟩
  | _ => exact k.elim
theorem iR1 {p : Pos} (hm : X.mg "range" = none) (ha : DE X B W a f) (hg : Gl X "range" := by rfl) (hs : starEach [a] X.env = [(false, eval a X.env)] := by rfl) (hs1 : starEach (a :: []) X.env = (false, eval a X.env) :: starEach [] X.env := by rfl) :
    DI X B W tg (.Call (.Name "range" p) [a] [] pos) (itR1 f) := by
  refine pi_imp (pi_range1 hg hm (pa_cons ha pa_nil hs1) hs) fun σ H R h => ?_
  obtain ⟨e, G, ρ, rfl, S, h⟩ := h
  refine ⟨e, G, ρ, rfl, S, (Cont.bind h).imp fun d ρ1 G1 H1 g1 S1 k v hv => ?_⟩
  split at k
  · rename_i n
    cases (show v = _ from hv)
    split at k
    · rename_i hc
      obtain ⟨c1, c2⟩ := of_decide_eq_true hc
      exact ⟨n, rfl, c1, c2, k G1 H1 (same_refl G1) S1 _ feeds_r⟩
    · exact k.elim
  · exact k.elim
theorem iR2 {p : Pos} (hm : X.mg "range" = none) (ha : DE X B W a f) (hb : DE X B W c g) (hg : Gl X "range" := by rfl) (hs : starEach [a, c] X.env = [(false, eval a X.env), (false, eval c X.env)] := by rfl) (hs2 : starEach [c] X.env = [(false, eval c X.env)] := by rfl)
    (hs1 : starEach (a :: [c]) X.env = (false, eval a X.env) :: starEach [c] X.env := by rfl) (hs3 : starEach (c :: []) X.env = (false, eval c X.env) :: starEach [] X.env := by rfl) :
    DI X B W tg (.Call (.Name "range" p) [a, c] [] pos) (itR2 f g) := by
  refine pi_imp (pi_range2 hg hm (pa_cons ha (pa_cons hb pa_nil hs3) hs1) hs hs2) fun σ H R h => ?_
  obtain ⟨e, G, ρ, rfl, S, h⟩ := h
  refine ⟨e, G, ρ, rfl, S, (Cont.bind h).imp fun d ρ1 G1 H1 g1 S1 k v hv => ?_⟩
  refine ⟨e, G1, ρ1, rfl, S1, (Cont.bind k).imp fun d2 ρ2 G2 H2 g2 S2 k2 u hu => ?_⟩
  split at k2
  · rename_i n m
    cases (show v = _ from hv)
    cases (show u = _ from hu)
    split at k2
    · rename_i hc
      obtain ⟨c1, c2⟩ := of_decide_eq_true hc.1
      obtain ⟨c3, c4⟩ := of_decide_eq_true hc.2
      exact ⟨n, m, rfl, ⟨c1, c2, c3, c4⟩, k2 G2 H2 (same_refl G2) S2 _ feeds_r⟩
    · exact k2.elim
  · exact k2.elim
end

/-! ### for, while -/
def loop (b : Bd) (body : Sx) : List D → Sx
  | [], ρ => .nx ρ
  | x :: xs, ρ => match b x ρ with
    | none => .bad
    | some ρ0 => match body ρ0 with
      | .nx ρ1 => loop b body xs ρ1
      | .ct ρ1 => loop b body xs ρ1
      | .bk ρ1 => .nx ρ1
      | .rt d ρ1 => .rt d ρ1
      | .rm d ρ1 => .rm d ρ1
      | .exc c ns ys ρ1 => .exc c ns ys ρ1
      | .bad => .bad
def forS (f : Ex (List D)) (b : Bd) (body : Sx) : Sx := fun ρ => (f ρ).then fun xs ρ1 => loop b body xs ρ1
section
variable {X : Cx} {B tl : List Nat} {W : WX} {tg it : Expr} {body : List Stmt} {f : Ex (List D)} {b : Bd} {g : Sx} {pos : Pos}
theorem sfor (hp : PassesOwn (model X.prog X.w) X.A X.env X.xe) (hc : X.calm = true) (hi : DI X B W tg it f) (hg : DG X B tl tg b) (hb : DSs X B W body g) (hs : ∀ x, foldedSetIterable it X.env x = pure x := by intro _; rfl) :
    DS X B W (.For tg it body [] pos) (forS f b g) := by
  refine ps_imp (ps_for hp hc hi hg hb hs) fun E σ H h => ?_
  obtain ⟨e, G, ρ, hB, S, h⟩ := h
  refine ⟨e, G, ρ, hB, S, (Cont.then h).imp fun xs ρ1 G1 H1 g1 S1 k J hJ => ?_⟩
  refine ⟨fun i m σ H => m = xs.length - i ∧ i ≤ xs.length ∧ ∃ G2 ρ2, Same G1 G2 ∧ Sim X.K e G2 H σ ρ2 ∧ SCont X.K e W G2 E (loop b g (xs.drop i) ρ2), ⟨xs.length, rfl, Nat.zero_le _, G1, ρ1, same_refl G1, S1, k⟩, ?_⟩
  rintro i m σ2 H2 ⟨rfl, hi, G2, ρ2, g2, S2, k2⟩
  obtain ⟨q1, q2⟩ := hJ e G2 H2 σ2 ρ2 g2 S2 i
  by_cases hlt : i < xs.length
  · have hd : xs[i]? = some xs[i] := List.getElem?_eq_getElem hlt
    obtain ⟨go, yl⟩ := q2 _ hd
    rw [List.drop_eq_getElem_cons hlt] at k2
    refine .inr ⟨go, fun σ H => i + 1 ≤ xs.length ∧ ∃ G3 ρ3, Same G1 G3 ∧ Sim X.K e G3 H σ ρ3 ∧ SCont X.K e W G3 E (loop b g (xs.drop (i + 1)) ρ3), fun σ' H' z => ⟨xs.length - (i + 1), by omega, rfl, z⟩, fun x H3 y => ?_⟩
    obtain ⟨G3, g3, S3, hd3⟩ := yl x H3 y
    unfold loop at k2
    cases q : b xs[i] ρ2 with
    | none => rw [q] at k2; exact k2.elim
    | some ρ3 =>
      rw [q] at k2
      refine ⟨e, G3, ρ2, ρ3, _, hB, S3, hd3, q, fun G4 H4 σ4 g4 S4 _ => ⟨e, G4, ρ3, hB, S4, ?_⟩⟩
      have k2 := k2.mono (same_trans g3 g4)
      cases r : g ρ3 with
      | nx ρ5 =>
        simp only [r] at k2
        exact fun G5 H5 σ5 g5 S5 => ⟨hlt, G5, ρ5, same_trans g2 (same_trans g3 (same_trans g4 g5)), S5, k2.mono g5⟩
      | ct ρ5 =>
        simp only [r] at k2
        exact fun G5 H5 σ5 g5 S5 => ⟨hlt, G5, ρ5, same_trans g2 (same_trans g3 (same_trans g4 g5)), S5, k2.mono g5⟩
      | bk ρ5 => simp only [r] at k2; exact k2
      | rt d ρ5 => simp only [r] at k2; exact k2
      | rm d ρ5 => simp only [r] at k2; exact k2
      | exc c ns ys ρ5 => simp only [r] at k2; exact k2
      | bad => simp only [r] at k2; exact k2
  · have e0 : xs.length = i := by omega
    refine .inl ⟨q1 e0, ?_⟩
    rw [List.drop_eq_nil_of_le (by omega)] at k2
    exact k2 G2 H2 σ2 (same_refl G2) S2
def whl (t : Ex Bool) (body : Sx) : Nat → Sx
  | 0, _ => .bad
  | n + 1, ρ => (t ρ).then fun b ρ0 => if b = true then (match body ρ0 with
      | .nx ρ1 => whl t body n ρ1
      | .ct ρ1 => whl t body n ρ1
      | .bk ρ1 => .nx ρ1
      | .rt d ρ1 => .rt d ρ1
      | .rm d ρ1 => .rm d ρ1
      | .exc c ns ys ρ1 => .exc c ns ys ρ1
      | .bad => .bad) else .nx ρ0
def whlF (t : Ex Bool) (body : Sx) (fuel : List Sl → Nat) : Sx := fun ρ => whl t body (fuel ρ) ρ
theorem swhl {c : Expr} {t : Ex Bool} (fuel : List Sl → Nat) (hp : PassesOwn (model X.prog X.w) X.A X.env X.xe) (hc : DT X B W c t) (hb : DSs X B W body g) : DS X B W (.While c body [] pos) (whlF t g fuel) := by
  refine ps_imp (ps_while hp hc hb) fun E σ H h => ?_
  obtain ⟨e, G, ρ, hB, S, h⟩ := h
  refine ⟨fun m σ H => ∃ G2 ρ2, Sim X.K e G2 H σ ρ2 ∧ SCont X.K e W G2 E (whl t g m ρ2), ⟨fuel ρ, G, ρ, S, h⟩, ?_⟩
  rintro m σ2 H2 ⟨G2, ρ2, S2, k2⟩
  cases m with
  | zero => exact k2.elim
  | succ m =>
    unfold whl at k2
    refine ⟨e, G2, ρ2, hB, S2, (Cont.then k2).imp fun b ρ3 G3 H3 g3 S3 k3 => ?_⟩
    cases b with
    | true =>
      refine ⟨fun σ H => ∃ G4 ρ4, Sim X.K e G4 H σ ρ4 ∧ SCont X.K e W G4 E (whl t g m ρ4), fun σ' H' z => ⟨m, Nat.lt_succ_self m, z⟩, e, G3, ρ3, hB, S3, ?_⟩
      rw [if_pos rfl] at k3
      cases r : g ρ3 with
      | nx ρ5 => simp only [r] at k3; exact fun G5 H5 σ5 g5 S5 => ⟨G5, ρ5, S5, k3.mono g5⟩
      | ct ρ5 => simp only [r] at k3; exact fun G5 H5 σ5 g5 S5 => ⟨G5, ρ5, S5, k3.mono g5⟩
      | bk ρ5 => simp only [r] at k3; exact k3
      | rt d ρ5 => simp only [r] at k3; exact k3
      | rm d ρ5 => simp only [r] at k3; exact k3
      | exc c ns ys ρ5 => simp only [r] at k3; exact k3
      | bad => simp only [r] at k3; exact k3
    | false => exact k3 G3 H3 σ2 (same_refl G3) S3
end
end DL
end

section
set_option Elab.async false
set_option linter.all false
set_option maxRecDepth 100000
set_option maxHeartbeats 4000000
namespace DL
open PySem PySem.Spec PyProof.Rows L2

/-! ### defs -/
inductive FO where
  | rt (d : D) (ps : List Sl) | rm (xs : List D) (ps : List Sl) | exc (c : Str) (ns : List Str) (xs : List D) (ps : List Sl) | bad
/-- a def's mirror: what was handed in, to what comes back (and what became of what was handed in to be changed) -/
abbrev Fn := List Sl → FO
def bors : List Sl → List V → List Addr
  | s :: ss, v :: vs => (match mad s (some v) with
    | some a => [a]
    | none => []) ++ bors ss vs
  | _, _ => []
theorem mem_bors {a : Addr} : ∀ {ss : List Sl} {vs : List V}, a ∈ bors ss vs → ∃ (k : Nat) (s : Sl) (v : V), ss[k]? = some s ∧ vs[k]? = some v ∧ mad s (some v) = some a
  | [], _, h => by cases h
  | _ :: _, [], h => by cases h
  | s :: ss, v :: vs, h => by
    unfold bors at h
    rcases List.mem_append.mp h with h | h
    · cases q : mad s (some v) with
      | none => rw [q] at h; cases h
      | some b =>
        rw [q] at h
        cases List.mem_singleton.mp h
        exact ⟨0, s, v, rfl, rfl, q⟩
    · obtain ⟨k, t, w, h1, h2, h3⟩ := mem_bors h
      exact ⟨k + 1, t, w, by simpa using h1, by simpa using h2, h3⟩
theorem bors_mem {a : Addr} : ∀ {ss : List Sl} {vs : List V} {k : Nat} {s : Sl} {v : V}, ss[k]? = some s → vs[k]? = some v → mad s (some v) = some a → a ∈ bors ss vs
  | [], _, _, _, _, h, _, _ => by simp at h
  | _ :: _, [], _, _, _, _, h, _ => by simp at h
  | s :: ss, v :: vs, 0, t, w, h1, h2, h3 => by
    simp at h1 h2
    subst h1 h2
    unfold bors
    rw [h3]
    exact List.mem_append_left _ (List.mem_singleton_self _)
  | s :: ss, v :: vs, k + 1, t, w, h1, h2, h3 => by
    unfold bors
    exact List.mem_append_right _ (bors_mem (k := k) (by simpa using h1) (by simpa using h2) h3)
/-- behind a call -/
structure Aft (K : PySem.W.Frag) (G H : Hp) (ps : List Sl) (vs : List V) (ps' : List Sl) (G' H' : Hp) : Prop where
  g : Same G G'
  ex : Same G' H'
  keep : ∀ a o, H a = some o → a ∉ bors ps vs → H' a = some o
  new : ∀ a o, G' a = some o → G a = some o ∨ H a = none
  there : ∀ a ∈ bors ps vs, ∃ o, H' a = some o
  rel : ∀ (i : Nat) (s s' : Sl) (v : V), ps[i]? = some s → isM (some s) = true → ps'[i]? = some s' → vs[i]? = some v → SlR K G' H' s' (some v)
def FCont (K : PySem.W.Frag) (G H : Hp) (ps : List Sl) (vs : List V) (Q : VK) (E : XK) : FO → Prop
  | .rt d ps' => ∀ G' H' v, Aft K G H ps vs ps' G' H' → Dn K G' d v → Q v H'
  | .rm xs ps' => ∀ G' H' a ws, Aft K G H ps vs ps' G' H' → H' a = some (.lst ws) → G' a = none → H a = none → Dns K G' xs ws → Q (.ref a) H'
  | .exc c ns xs ps' => ∀ G' H' dd gs, Aft K G H ps vs ps' G' H' → H' dd = some (.xd gs) → gs.map (·.1) = ns → Dns K G' xs (gs.map (·.2)) → E (.ref (He.ga K c)) (some dd) H'
  | .bad => False
/-- THE PROMISE of a def with the mirror F -/
def spM (K : PySem.W.Frag) (F : Fn) : Sp := fun vs H Q E => ∃ (G : Hp) (ps : List Sl), ps.length = vs.length ∧ Same G H ∧
  (∀ (i : Nat) (s : Sl), ps[i]? = some s → ∃ v, vs[i]? = some v ∧ SlR K G H s (some v)) ∧
  (∀ (i j : Nat) (s t : Sl) (v w : V) (a : Addr), ps[i]? = some s → ps[j]? = some t → vs[i]? = some v → vs[j]? = some w → mad s (some v) = some a → mad t (some w) = some a → i = j) ∧ FCont K G H ps vs Q E (F ps)
theorem spM_bad {K : PySem.W.Frag} {vs : List V} {H : Hp} {Q : VK} {E : XK} (h : spM K (fun _ => .bad) vs H Q E) : False := by
  obtain ⟨_, _, _, _, _, _, h⟩ := h
  exact h
/-- the places of what is handed in to be changed -/
def mIdx (ps : List Sl) : List Nat := (List.range ps.length).filter fun i => isM ps[i]?
def outs (B : List Nat) (n : Nat) (ρ : List Sl) : List Sl := (List.range n).map fun i => if i ∈ B then ρ.getD i .no else .no
/-- a def's mirror, by its body's: n parameters, N names, those at B to be changed -/
def mkFn (n N : Nat) (B : List Nat) (body : Sx) : Fn := fun ps => if ps.length = n ∧ mIdx ps = B then (match body (ps ++ List.replicate (N - n) .no) with
    | .nx ρ => .rt .non (outs B n ρ)
    | .rt d ρ => .rt d (outs B n ρ)
    | .rm xs ρ => .rm xs (outs B n ρ)
    | .exc c ns xs ρ => .exc c ns xs (outs B n ρ)
    | _ => .bad) else .bad
theorem mIdx_iff {ps : List Sl} {i : Nat} : i ∈ mIdx ps ↔ isM ps[i]? = true := by
  unfold mIdx
  rw [List.mem_filter, List.mem_range]
  constructor
  · exact fun h => h.2
  · intro h
    refine ⟨?_, h⟩
    by_cases l : i < ps.length
    · exact l
    · rw [List.getElem?_eq_none (by omega)] at h
      cases h
theorem mad_isM {s : Sl} {v : Option V} {a : Addr} (h : mad s v = some a) : isM (some s) = true := by
  obtain ⟨_, ⟨xs, rfl⟩ | ⟨c, ns, xs, rfl⟩⟩ := mad_cases h <;> rfl
theorem isM_mad {s : Sl} {a : Addr} (h : isM (some s) = true) : mad s (some (.ref a)) = some a := by
  cases s with
  | no => cases h
  | d x => cases h
  | m xs => rfl
  | o c ns xs => rfl
theorem isM_ref {K : PySem.W.Frag} {G H : Hp} {s : Sl} {v : Option V} (h : isM (some s) = true) (r : SlR K G H s v) : ∃ a, v = some (.ref a) ∧ (∃ o, H a = some o) ∧ G a = none := by
  cases s with
  | no => cases h
  | d x => cases h
  | m xs =>
    obtain ⟨a, vs, rfl, h1, h2, _⟩ := r
    exact ⟨a, rfl, ⟨_, h1⟩, h2⟩
  | o c ns xs =>
    obtain ⟨a, dx, fs, rfl, h1, h2, _⟩ := r
    exact ⟨a, rfl, ⟨_, h1⟩, h2⟩
/-- every def's context -/
abbrev bodyCx (P : Program) (w : World) (K : PySem.W.Frag) (mg : Str → Option Value) (base : Heap) (N : List Str) (qual : Str) (scope : Scope) (f : Addr) (cdv : Value) (A : Around) (outer : List Env) (s : Shared) (H : Hp) (E : XK) : Cx :=
  cxOf (L2.CX P w) P w K mg base N qual scope f cdv A outer s H E
abbrev WFn (E : XK) : WX := fun cls d _ H => E cls d H
section
variable {P : Program} {w : World} {K : PySem.W.Frag} {mg : Str → Option Value} {base : Heap} {x qual : Str} {params : Arguments} {body : List Stmt} {scope : Scope} {dvs : List V} {kws : List (Str × V)} {f : Addr} {fd : FuncData}
theorem fn_entry {K : PySem.W.Frag} {n : Nat} {N : List Str} {B : List Nat} {g : Sx} {vs : List V} {H : Hp} {Q : VK} {E : XK} (hn : n ≤ N.length) (h : spM K (mkFn n N.length B g) vs H Q E) :
    tS K B (WFn E) g { nx := fun _ H' => Q .non H', rt := Q } (L2.start N vs) H := by
  obtain ⟨G, ps, hl, ex, rel, sep, hc⟩ := h
  unfold mkFn at hc
  split at hc
  · rename_i hB
    obtain ⟨hp, hB⟩ := hB
    have hv : vs.length = n := by omega
    have at_ : ∀ (i : Nat) (s : Sl), (ps ++ List.replicate (N.length - n) Sl.no)[i]? = some s → (i < n ∧ ps[i]? = some s) ∨ s = .no := fun i s h => by
      by_cases l : i < n
      · rw [List.getElem?_append_left (by omega)] at h
        exact .inl ⟨l, h⟩
      · rw [List.getElem?_append_right (by omega), List.getElem?_replicate] at h
        split at h
        · exact .inr (Option.some.inj h).symm
        · cases h
    have st : ∀ (i : Nat) (v : V), vs[i]? = some v → (L2.start N vs)[i]? = some (some v) := fun i v h => by
      unfold L2.start
      have l : i < vs.length := (List.getElem?_eq_some_iff.mp h).1
      rw [List.getElem?_append_left (by simpa using l), List.getElem?_map, h]
      rfl
    have ts : ∀ (i : Nat) (u : Option V), i < n → (L2.start N vs)[i]? = some u → ∃ v, u = some v ∧ vs[i]? = some v := fun i u l h => by
      have l' : i < vs.length := by omega
      refine ⟨vs[i], ?_, List.getElem?_eq_getElem l'⟩
      rw [st i vs[i] (List.getElem?_eq_getElem l')] at h
      exact (Option.some.inj h).symm
    refine ⟨⟨H, G, bors ps vs, B, L2.start N vs⟩, G, ps ++ List.replicate (N.length - n) .no, rfl, ⟨ex, ?_, fun i s h => ?_, fun i j s t v u a h1 h2 h3 h4 m1 m2 => ?_, fun i s v a h1 h2 m => ?_, fun a o h _ => h, fun a o h => .inl h, fun a ha => ?_, fun i _ => rfl⟩, ?_⟩
    · unfold L2.start
      rw [List.length_append, List.length_append, List.length_map, List.length_replicate, List.length_replicate, hv, hp]
    · rcases at_ i s h with ⟨l, h⟩ | rfl
      · obtain ⟨v, h1, h2⟩ := rel i s h
        exact ⟨_, st i v h1, h2⟩
      · have l : i < (L2.start N vs).length := by
          have := (List.getElem?_eq_some_iff.mp h).1
          unfold L2.start
          rw [List.length_append, List.length_replicate] at this
          rw [List.length_append, List.length_map, List.length_replicate]
          omega
        exact ⟨_, List.getElem?_eq_getElem l, trivial⟩
    · rcases at_ i s h1 with ⟨l1, h1⟩ | rfl
      · rcases at_ j t h2 with ⟨l2, h2⟩ | rfl
        · obtain ⟨v', e1, q3⟩ := ts i v l1 h3
          obtain ⟨u', e2, q4⟩ := ts j u l2 h4
          rw [e1] at m1
          rw [e2] at m2
          exact sep i j s t v' u' a h1 h2 q3 q4 m1 m2
        · exact absurd m2 mad_no
      · exact absurd m1 mad_no
    · rcases at_ i s h1 with ⟨l1, h1⟩ | rfl
      · obtain ⟨v', e1, q3⟩ := ts i v l1 h2
        rw [e1] at m
        refine .inl ⟨?_, bors_mem h1 q3 m⟩
        show i ∈ B
        rw [← hB]
        exact mIdx_iff.mpr (by rw [h1]; exact mad_isM m)
      · exact absurd m mad_no
    · obtain ⟨k, s, v, h1, h2, h3⟩ := mem_bors ha
      obtain ⟨v', h4, h5⟩ := rel k s h1
      rw [h2] at h4
      cases h4
      exact (h5.madH h3).1
    · -- behind the body
      have aft : ∀ {G' H' σ' ρ'}, Same G G' → Sim K ⟨H, G, bors ps vs, B, L2.start N vs⟩ G' H' σ' ρ' → Aft K G H ps vs (outs B n ρ') G' H' := fun {G' H' σ' ρ'} g S => by
        refine ⟨g, S.ex, S.keep, S.new, S.there, fun i s s' v h1 hM h2 h3 => ?_⟩
        have iB : i ∈ B := by
          rw [← hB]
          exact mIdx_iff.mpr (by rw [h1]; exact hM)
        have l : i < n := by
          have := (List.getElem?_eq_some_iff.mp h1).1
          omega
        unfold outs at h2
        rw [List.getElem?_map, List.getElem?_range l] at h2
        have e2 : (if i ∈ B then ρ'.getD i .no else .no) = s' := Option.some.inj h2
        rw [if_pos iB] at e2
        cases q : ρ'[i]? with
        | none =>
          rw [List.getD_eq_getElem?_getD, q] at e2
          rw [← e2]
          trivial
        | some t =>
          rw [List.getD_eq_getElem?_getD, q] at e2
          have e3 : t = s' := e2
          subst e3
          obtain ⟨u, k1, k2⟩ := S.rel i t q
          have k3 := S.bs i iB
          rw [st i v h3] at k3
          rw [k3] at k1
          cases k1
          exact k2
      cases q : g (ps ++ List.replicate (N.length - n) .no) with
      | nx ρ => rw [q] at hc; exact fun G' H' σ' s S => hc G' H' .non (aft s S) rfl
      | rt d ρ => rw [q] at hc; exact fun G' H' σ' v s S hv => hc G' H' v (aft s S) hv
      | rm d ρ => rw [q] at hc; exact fun G' H' σ' a ws s S o hv => hc G' H' a ws (aft s S) o.1 o.2.1 o.2.2.1 hv
      | exc c ns xs ρ => rw [q] at hc; exact fun G' H' σ' dd gs s S h1 h2 h3 => hc G' H' dd gs (aft s S) h1 h2 h3
      | bk ρ => rw [q] at hc; exact hc.elim
      | ct ρ => rw [q] at hc; exact hc.elim
      | bad => rw [q] at hc; exact hc.elim
  · exact hc.elim
/-- THE RULE: a def keeps its mirror's promise -/
theorem fnOk {n k : Nat} {N ps : List Str} {B : List Nat} {g : Sx} (F : FunD K x qual params body scope dvs kws f fd) (S : FnScope N ps scope) (hl : ps.length = n)
    (hbody : ∀ (cdv : Value) (A : Around) (outer : List Env) (s : Shared) (H : Hp) (E : XK), Room k (A.deeper (envOfC qual scope s.heap.objs.size f cdv)) → DSs (bodyCx P w K mg base N qual scope f cdv A outer s H E) B (WFn E) body g) :
    FnOk P w K mg base (L2.CX P w) (k + 1) f fd ps (spM K (mkFn n N.length B g)) := by
  have hN : n ≤ N.length := by
    have := congrArg List.length S.pre
    rw [List.length_take] at this
    omega
  refine F.ok S (fun vs H Q E h => ?_) fun cdv A outer s H vs Q E hr h => ⟨_, hbody cdv A outer s H E hr, fn_entry hN h⟩
  obtain ⟨_, ps', hv, _, _, _, hc⟩ := h
  unfold mkFn at hc
  split at hc
  · rename_i z
    omega
  · exact hc.elim
end

/-! ### calls -/
def avSl (ρ : List Sl) : AV → Sl
  | .dv x => .d x
  | .mv i => ρ.getD i .no
def mvs : List AV → List Nat
  | [] => []
  | .dv _ :: as => mvs as
  | .mv i :: as => i :: mvs as
def putBack : List AV → List Sl → List Sl → List Sl
  | .mv i :: as, os, ρ => putBack as os.tail (ρ.set i (os.headD .no))
  | .dv _ :: as, os, ρ => putBack as os.tail ρ
  | [], _, ρ => ρ
/-- the callee's end, at the caller -/
def appF {α : Type} (F : Fn) (dd : List D) (r : D → Option α) (rm : List D → Option α) (as : List AV) (ρ : List Sl) : Out α :=
  if (mvs as).Nodup ∧ (∀ i ∈ mvs as, isM ρ[i]? = true) then (match F (as.map (avSl ρ) ++ dd.map Sl.d) with
    | .rt d os => ofO (r d) (putBack as os ρ)
    | .rm xs os => ofO (rm xs) (putBack as os ρ)
    | .exc c ns xs os => .exc c ns xs (putBack as os ρ)
    | .bad => .bad) else .bad
/-- f(..), data -/
def call (F : Fn) (dd : List D) (fa : Ex (List AV)) : Ex D := fun ρ => (fa ρ).bind fun as ρ1 => appF F dd some (fun _ => none) as ρ1
/-- f(..), a new list -/
def callM (F : Fn) (dd : List D) (fa : Ex (List AV)) : Ex (List D) := fun ρ => (fa ρ).bind fun as ρ1 => appF F dd (fun _ => none) some as ρ1

theorem putBack_len : ∀ (as : List AV) (os ρ : List Sl), (putBack as os ρ).length = ρ.length
  | [], os, ρ => by unfold putBack; rfl
  | .mv i :: as, os, ρ => by unfold putBack; rw [putBack_len as os.tail]; simp
  | .dv _ :: as, os, ρ => by unfold putBack; exact putBack_len as os.tail ρ
/-- a slot behind a call: as it was, or what came back for it -/
theorem putBack_at : ∀ (as : List AV) (os ρ : List Sl) (j : Nat) (s : Sl), (putBack as os ρ)[j]? = some s → (ρ[j]? = some s ∧ j ∉ mvs as) ∨ (s = .no ∧ j < ρ.length) ∨ ∃ k : Nat, as[k]? = some (.mv j) ∧ os[k]? = some s
  | [], os, ρ, j, s, h => by
    unfold putBack at h
    exact .inl ⟨h, by unfold mvs; simp⟩
  | .mv i :: as, os, ρ, j, s, h => by
    unfold putBack at h
    rcases putBack_at as os.tail (ρ.set i (os.headD .no)) j s h with ⟨h1, h2⟩ | ⟨h1, h2⟩ | ⟨k, h1, h2⟩
    · have lt : j < ρ.length := by
        have := (List.getElem?_eq_some_iff.mp h1).1
        simpa using this
      rcases set_cases h1 with ⟨e1, e2⟩ | ⟨nj, h3⟩
      · subst e1
        cases os with
        | nil => exact .inr (.inl ⟨e2, lt⟩)
        | cons o os => exact .inr (.inr ⟨0, rfl, by rw [e2]; rfl⟩)
      · refine .inl ⟨h3, ?_⟩
        unfold mvs
        simp only [List.mem_cons, not_or]
        exact ⟨nj, h2⟩
    · exact .inr (.inl ⟨h1, by simpa using h2⟩)
    · exact .inr (.inr ⟨k + 1, by simpa using h1, by simpa using h2⟩)
  | .dv x :: as, os, ρ, j, s, h => by
    unfold putBack at h
    rcases putBack_at as os.tail ρ j s h with ⟨h1, h2⟩ | h1 | ⟨k, h1, h2⟩
    · refine .inl ⟨h1, ?_⟩
      unfold mvs
      exact h2
    · exact .inr (.inl h1)
    · exact .inr (.inr ⟨k + 1, by simpa using h1, by simpa using h2⟩)
theorem mvs_mem {j : Nat} : ∀ {as : List AV} {k : Nat}, as[k]? = some (.mv j) → j ∈ mvs as
  | [], k, h => by simp at h
  | .dv x :: as, 0, h => by simp at h
  | .mv i :: as, 0, h => by
    simp at h
    subst h
    unfold mvs
    exact List.mem_cons_self
  | .dv x :: as, k + 1, h => by
    unfold mvs
    exact mvs_mem (k := k) (by simpa using h)
  | .mv i :: as, k + 1, h => by
    unfold mvs
    exact List.mem_cons_of_mem _ (mvs_mem (k := k) (by simpa using h))
theorem mvs_inj {j : Nat} : ∀ {as : List AV} {k l : Nat}, (mvs as).Nodup → as[k]? = some (.mv j) → as[l]? = some (.mv j) → k = l
  | [], k, l, _, h, _ => by simp at h
  | .dv x :: as, 0, l, _, h, _ => by simp at h
  | .dv x :: as, k + 1, 0, _, _, h => by simp at h
  | .dv x :: as, k + 1, l + 1, nd, h1, h2 => by
    unfold mvs at nd
    exact congrArg (· + 1) (mvs_inj nd (by simpa using h1) (by simpa using h2))
  | .mv i :: as, 0, 0, _, _, _ => rfl
  | .mv i :: as, 0, l + 1, nd, h1, h2 => by
    simp at h1
    subst h1
    unfold mvs at nd
    exact absurd (mvs_mem (k := l) (by simpa using h2)) (List.nodup_cons.mp nd).1
  | .mv i :: as, k + 1, 0, nd, h1, h2 => by
    simp at h2
    subst h2
    unfold mvs at nd
    exact absurd (mvs_mem (k := k) (by simpa using h1)) (List.nodup_cons.mp nd).1
  | .mv i :: as, k + 1, l + 1, nd, h1, h2 => by
    unfold mvs at nd
    exact congrArg (· + 1) (mvs_inj (List.nodup_cons.mp nd).2 (by simpa using h1) (by simpa using h2))
theorem avs_at {K : PySem.W.Frag} {G : Hp} {σ : L2.St} : ∀ {as : List AV} {vs : List V}, Avs K G σ as vs → vs.length = as.length ∧ (∀ (k : Nat) (x : D), as[k]? = some (.dv x) → ∃ v, vs[k]? = some v ∧ Dn K G x v) ∧ ∀ k i : Nat, as[k]? = some (.mv i) → ∃ v, vs[k]? = some v ∧ σ[i]? = some (some v)
  | [], vs, h => by
    cases (show vs = [] from h)
    exact ⟨rfl, fun k x e => by simp at e, fun k i e => by simp at e⟩
  | .dv x :: as, vs, h => by
    obtain ⟨v, r, rfl, h1, h2⟩ := h
    obtain ⟨l, q1, q2⟩ := avs_at h2
    refine ⟨by rw [List.length_cons, List.length_cons, l], fun k y e => ?_, fun k i e => ?_⟩
    · cases k with
      | zero =>
        simp at e
        subst e
        exact ⟨v, rfl, h1⟩
      | succ k => simpa using q1 k y (by simpa using e)
    · cases k with
      | zero => simp at e
      | succ k => simpa using q2 k i (by simpa using e)
  | .mv m :: as, vs, h => by
    obtain ⟨v, r, rfl, h1, h2⟩ := h
    obtain ⟨l, q1, q2⟩ := avs_at h2
    refine ⟨by rw [List.length_cons, List.length_cons, l], fun k y e => ?_, fun k i e => ?_⟩
    · cases k with
      | zero => simp at e
      | succ k => simpa using q1 k y (by simpa using e)
    · cases k with
      | zero =>
        simp at e
        subst e
        exact ⟨v, rfl, h1⟩
      | succ k => simpa using q2 k i (by simpa using e)
section
variable {K : PySem.W.Frag} {e : En} {G H : Hp} {σ : L2.St} {ρ : List Sl} {as : List AV} {vs dvs : List V} {dd : List D} {F : Fn}
/-- what the callee is handed -/
theorem call_args (S : Sim K e G H σ ρ) (ha : Avs K G σ as vs) (hd : Dns K G dd dvs) (nd : (mvs as).Nodup) (hm : ∀ i ∈ mvs as, isM ρ[i]? = true) {Q : VK} {E : XK} (h : FCont K G H (as.map (avSl ρ) ++ dd.map Sl.d) (vs ++ dvs) Q E (F (as.map (avSl ρ) ++ dd.map Sl.d))) :
    spM K F (vs ++ dvs) H Q E := by
  obtain ⟨l, q1, q2⟩ := avs_at ha
  have at_ : ∀ (k : Nat) (s : Sl), (as.map (avSl ρ) ++ dd.map Sl.d)[k]? = some s → (∃ x, as[k]? = some (.dv x) ∧ s = .d x) ∨ (∃ i, as[k]? = some (.mv i) ∧ ρ[i]? = some s ∧ isM (some s) = true) ∨ (as.length ≤ k ∧ ∃ x, dd[k - as.length]? = some x ∧ s = .d x) := fun k s h => by
    by_cases lt : k < as.length
    · rw [List.getElem?_append_left (by simpa using lt), List.getElem?_map] at h
      cases q : as[k]? with
      | none => rw [q] at h; cases h
      | some a =>
        rw [q] at h
        have h := Option.some.inj h
        cases a with
        | dv x => exact .inl ⟨x, rfl, h.symm⟩
        | mv i =>
          have z := hm i (mvs_mem q)
          cases q3 : ρ[i]? with
          | none => rw [q3] at z; cases z
          | some t =>
            have e3 : ρ.getD i .no = s := h
            rw [List.getD_eq_getElem?_getD, q3] at e3
            have e4 : t = s := e3
            subst e4
            rw [q3] at z
            exact .inr (.inl ⟨i, rfl, q3, z⟩)
    · rw [List.getElem?_append_right (by simpa using lt), List.getElem?_map, List.length_map] at h
      cases q : dd[k - as.length]? with
      | none => rw [q] at h; cases h
      | some x =>
        rw [q] at h
        exact .inr (.inr ⟨by omega, x, rfl, (Option.some.inj h).symm⟩)
  have vat : ∀ (k : Nat) (v : V), k < as.length → vs[k]? = some v → (vs ++ dvs)[k]? = some v := fun k v lt h => by rw [List.getElem?_append_left (by omega)]; exact h
  refine ⟨G, as.map (avSl ρ) ++ dd.map Sl.d, by rw [List.length_append, List.length_append, List.length_map, List.length_map, l, hd.len], S.ex, fun k s h => ?_, fun i j s t v w a h1 h2 h3 h4 m1 m2 => ?_, h⟩
  · rcases at_ k s h with ⟨x, e1, rfl⟩ | ⟨i, e1, e2, e3⟩ | ⟨le, x, e1, rfl⟩
    · obtain ⟨v, h1, h2⟩ := q1 k x e1
      exact ⟨v, vat k v (List.getElem?_eq_some_iff.mp e1).1 h1, v, rfl, h2⟩
    · obtain ⟨v, h1, h2⟩ := q2 k i e1
      obtain ⟨u, h3, h4⟩ := S.rel i s e2
      rw [h2] at h3
      cases h3
      exact ⟨v, vat k v (List.getElem?_eq_some_iff.mp e1).1 h1, h4⟩
    · obtain ⟨v, h1, h2⟩ := hd.get e1
      refine ⟨v, ?_, v, rfl, h2⟩
      rw [List.getElem?_append_right (by omega), l]
      exact h1
  · rcases at_ i s h1 with ⟨x, e1, rfl⟩ | ⟨i', e1, e2, e3⟩ | ⟨le, x, e1, rfl⟩
    · exact absurd m1 mad_d
    · rcases at_ j t h2 with ⟨x, f1, rfl⟩ | ⟨j', f1, f2, f3⟩ | ⟨le, x, f1, rfl⟩
      · exact absurd m2 mad_d
      · obtain ⟨v', k1, k2⟩ := q2 i i' e1
        obtain ⟨w', k3, k4⟩ := q2 j j' f1
        rw [vat i v' (List.getElem?_eq_some_iff.mp e1).1 k1] at h3
        rw [vat j w' (List.getElem?_eq_some_iff.mp f1).1 k3] at h4
        cases h3
        cases h4
        have z := S.sep i' j' s t _ _ a e2 f2 k2 k4 m1 m2
        subst z
        exact mvs_inj nd e1 f1
      · exact absurd m2 mad_d
    · exact absurd m1 mad_d
/-- the caller's state behind the call -/
theorem call_after (S : Sim K e G H σ ρ) (ha : Avs K G σ as vs) (hd : Dns K G dd dvs) (nd : (mvs as).Nodup) (hm : ∀ i ∈ mvs as, isM ρ[i]? = true) {os : List Sl} {G' H' : Hp} (A : Aft K G H (as.map (avSl ρ) ++ dd.map Sl.d) (vs ++ dvs) os G' H') : Sim K e G' H' σ (putBack as os ρ) := by
  obtain ⟨l, q1, q2⟩ := avs_at ha
  have vat : ∀ (k : Nat) (v : V), k < as.length → vs[k]? = some v → (vs ++ dvs)[k]? = some v := fun k v lt h => by rw [List.getElem?_append_left (by omega)]; exact h
  -- what is changed: the slots handed in
  have bor : ∀ a, a ∈ bors (as.map (avSl ρ) ++ dd.map Sl.d) (vs ++ dvs) → ∃ (i : Nat) (s : Sl) (v : V), i ∈ mvs as ∧ ρ[i]? = some s ∧ σ[i]? = some (some v) ∧ mad s (some v) = some a := fun a h => by
    obtain ⟨k, s, v, h1, h2, h3⟩ := mem_bors h
    by_cases lt : k < as.length
    · rw [List.getElem?_append_left (by simpa using lt), List.getElem?_map] at h1
      cases q : as[k]? with
      | none => rw [q] at h1; cases h1
      | some b =>
        rw [q] at h1
        have h1 := Option.some.inj h1
        cases b with
        | dv x => rw [← h1] at h3; exact absurd h3 mad_d
        | mv i =>
          obtain ⟨u, k1, k2⟩ := q2 k i q
          rw [vat k u lt k1] at h2
          cases h2
          have z := hm i (mvs_mem q)
          cases q3 : ρ[i]? with
          | none => rw [q3] at z; cases z
          | some t =>
            have e3 : ρ.getD i .no = s := h1
            rw [List.getD_eq_getElem?_getD, q3] at e3
            have e4 : t = s := e3
            subst e4
            exact ⟨i, t, _, mvs_mem q, q3, k2, h3⟩
    · rw [List.getElem?_append_right (by simpa using lt), List.getElem?_map, List.length_map] at h1
      cases q : dd[k - as.length]? with
      | none => rw [q] at h1; cases h1
      | some x =>
        rw [q] at h1
        rw [← Option.some.inj h1] at h3
        exact absurd h3 mad_d
  have borM : ∀ (k i : Nat) (v : V) (a : Addr), as[k]? = some (.mv i) → σ[i]? = some (some v) → v = .ref a → a ∈ bors (as.map (avSl ρ) ++ dd.map Sl.d) (vs ++ dvs) := fun k i v a h1 h2 h3 => by
    obtain ⟨u, k1, k2⟩ := q2 k i h1
    rw [h2] at k2
    cases k2
    have lt := (List.getElem?_eq_some_iff.mp h1).1
    have z := hm i (mvs_mem h1)
    cases q3 : ρ[i]? with
    | none => rw [q3] at z; cases z
    | some t =>
      rw [q3] at z
      refine bors_mem (k := k) (s := t) (v := .ref a) ?_ (by rw [← h3]; exact vat k v lt k1) (isM_mad z)
      rw [List.getElem?_append_left (by simpa using lt), List.getElem?_map, h1]
      show some (ρ.getD i .no) = some t
      rw [List.getD_eq_getElem?_getD, q3]
      rfl
  have newG : ∀ a, (∃ o, H a = some o) → G a = none → G' a = none := fun a ⟨o, ho⟩ gn => by
    cases q : G' a with
    | none => rfl
    | some u =>
      rcases A.new a u q with z | z
      · rw [gn] at z; cases z
      · rw [ho] at z; cases z
  -- a slot that may change holds what it held
  have old : ∀ (j : Nat) (s : Sl) (v : Option V) (a : Addr), (putBack as os ρ)[j]? = some s → σ[j]? = some v → mad s v = some a → ∃ t, ρ[j]? = some t ∧ mad t v = some a := fun j s v a h1 h2 m => by
    rcases putBack_at as os ρ j s h1 with ⟨h, _⟩ | ⟨h, _⟩ | ⟨k, h3, _⟩
    · exact ⟨s, h, m⟩
    · rw [h] at m
      exact absurd m mad_no
    · have z := hm j (mvs_mem h3)
      cases q3 : ρ[j]? with
      | none => rw [q3] at z; cases z
      | some t =>
        rw [q3] at z
        obtain ⟨rfl, _⟩ := mad_cases m
        exact ⟨t, rfl, isM_mad z⟩
  refine ⟨A.ex, by rw [putBack_len]; exact S.len, fun j s h => ?_, fun i j s t v w a h1 h2 h3 h4 m1 m2 => ?_, fun i s v a h1 h2 m => ?_, fun a o h n => ?_, fun a o h => ?_, fun a h => ?_, S.bs⟩
  · have keepSlot : ρ[j]? = some s → j ∉ mvs as → ∃ v, σ[j]? = some v ∧ SlR K G' H' s v := fun h hj => by
      obtain ⟨v, h1, h2⟩ := S.rel j s h
      refine ⟨v, h1, h2.mono A.g fun a o m ho => ?_⟩
      have nb : a ∉ bors (as.map (avSl ρ) ++ dd.map Sl.d) (vs ++ dvs) := fun z => by
        obtain ⟨i, t, u, k1, k2, k3, k4⟩ := bor a z
        have := S.sep j i s t v (some u) a h k2 h1 k3 m k4
        exact hj (this ▸ k1)
      exact ⟨A.keep a o ho nb, newG a ⟨o, ho⟩ (h2.madH m).2⟩
    have backSlot : ∀ k : Nat, as[k]? = some (.mv j) → os[k]? = some s → ∃ v, σ[j]? = some v ∧ SlR K G' H' s v := fun k h1 h2 => by
      obtain ⟨v, k1, k2⟩ := q2 k j h1
      have lt := (List.getElem?_eq_some_iff.mp h1).1
      have z := hm j (mvs_mem h1)
      refine ⟨some v, k2, A.rel k (ρ.getD j .no) s v ?_ ?_ h2 (vat k v lt k1)⟩
      · rw [List.getElem?_append_left (by simpa using lt), List.getElem?_map, h1]
        rfl
      · rw [List.getD_eq_getElem?_getD]
        cases q3 : ρ[j]? with
        | none => rw [q3] at z; cases z
        | some t => rw [q3] at z; exact z
    rcases putBack_at as os ρ j s h with ⟨h, hj⟩ | ⟨h, hl⟩ | ⟨k, h1, h2⟩
    · exact keepSlot h hj
    · have l2 : j < σ.length := by rw [S.len]; exact hl
      refine ⟨σ[j], List.getElem?_eq_getElem l2, ?_⟩
      rw [h]
      trivial
    · exact backSlot k h1 h2
  · obtain ⟨s', e1, e2⟩ := old i s v a h1 h3 m1
    obtain ⟨t', f1, f2⟩ := old j t w a h2 h4 m2
    exact S.sep i j s' t' v w a e1 f1 h3 h4 e2 f2
  · obtain ⟨s', e1, e2⟩ := old i s v a h1 h2 m
    exact S.own i s' v a e1 h2 e2
  · refine A.keep a o (S.keep a o h n) fun z => ?_
    obtain ⟨i, t, u, k1, k2, k3, k4⟩ := bor a z
    rcases S.own i t (some u) a k2 k3 k4 with ⟨_, z⟩ | ⟨_, z⟩
    · exact n z
    · rw [z] at h; cases h
  · rcases A.new a o h with z | z
    · exact S.new a o z
    · exact .inr (S.fresh0 z)
  · obtain ⟨o, ho⟩ := S.there a h
    by_cases z : a ∈ bors (as.map (avSl ρ) ++ dd.map Sl.d) (vs ++ dvs)
    · exact A.there a z
    · exact ⟨o, A.keep a o ho z⟩
end
end DL
end

section
set_option Elab.async false
set_option linter.all false
set_option maxRecDepth 100000
set_option maxHeartbeats 4000000
namespace DL
open PySem PySem.Spec PyProof.Rows L2
section
variable {K : PySem.W.Frag} {e : En} {G H : Hp} {σ : L2.St} {ρ : List Sl} {as : List AV}
/-- a new object is nobody's slot, behind a call too -/
theorem putBack_new (S : Sim K e G H σ ρ) (hm : ∀ i ∈ mvs as, isM ρ[i]? = true) {os : List Sl} {a : Addr} (ha : H a = none) : ∀ (i : Nat) (s : Sl) (u : Option V), (putBack as os ρ)[i]? = some s → σ[i]? = some u → mad s u ≠ some a := fun j s v h1 h2 m => by
  have key : ∃ t, ρ[j]? = some t ∧ mad t v = some a := by
    rcases putBack_at as os ρ j s h1 with ⟨h, _⟩ | ⟨h, _⟩ | ⟨k, h3, _⟩
    · exact ⟨s, h, m⟩
    · rw [h] at m
      exact absurd m mad_no
    · have z := hm j (mvs_mem h3)
      cases q3 : ρ[j]? with
      | none => rw [q3] at z; cases z
      | some t =>
        rw [q3] at z
        obtain ⟨rfl, _⟩ := mad_cases m
        exact ⟨t, rfl, isM_mad z⟩
  obtain ⟨t, e1, e2⟩ := key
  obtain ⟨w, h3, h4⟩ := S.rel j t e1
  rw [h2] at h3
  cases h3
  obtain ⟨⟨o, ho⟩, _⟩ := h4.madH e2
  rw [ho] at ha
  cases ha
end
section
variable {X : Cx} {B : List Nat} {W : WX} {k : Nat} {f : Addr} {fd : FuncData} {ps : List Str} {Fm : Fn} {ds : List Value} {dvs : List V} {dd : List D} {x : Str} {p pos : Pos} {a : Expr} {es : List Expr} {fa : Ex (List AV)}
theorem call_imp {dvs : List V} {dd : List D} (hdd : ∀ G, Dns X.K G dd dvs) {σ : L2.St} {H : Hp} {Q : VK} (h : tD X.K B W (call Fm dd fa) σ H Q) : tA X.K B W fa σ H fun vs H1 => spM X.K Fm (vs ++ dvs) H1 Q (WE W σ) := by
  obtain ⟨e, G, ρ, rfl, S, h⟩ := h
  refine ⟨e, G, ρ, rfl, S, (Cont.bind h).imp fun as ρ1 G1 H1 g1 S1 k vs ha => ?_⟩
  unfold appF at k
  split at k
  · rename_i c
    obtain ⟨nd, hm⟩ := c
    refine call_args S1 ha (hdd G1) nd hm ?_
    cases q : Fm (as.map (avSl ρ1) ++ dd.map Sl.d) with
    | rt d os =>
      rw [q] at k
      exact fun G' H' v A hv => k G' H' A.g (call_after S1 ha (hdd G1) nd hm A) v hv
    | rm xs os => rw [q] at k; exact k.elim
    | exc c ns xs os =>
      rw [q] at k
      exact fun G' H' dx gs A h1 h2 h3 => k G' H' dx gs A.g (call_after S1 ha (hdd G1) nd hm A) h1 h2 h3
    | bad => rw [q] at k; exact k.elim
  · exact k.elim
theorem callM_imp {dvs : List V} {dd : List D} (hdd : ∀ G, Dns X.K G dd dvs) {σ : L2.St} {H : Hp} {Q : VK} (h : tM X.K B W (callM Fm dd fa) σ H Q) : tA X.K B W fa σ H fun vs H1 => spM X.K Fm (vs ++ dvs) H1 Q (WE W σ) := by
  obtain ⟨e, G, ρ, rfl, S, h⟩ := h
  refine ⟨e, G, ρ, rfl, S, (Cont.bind h).imp fun as ρ1 G1 H1 g1 S1 k vs ha => ?_⟩
  unfold appF at k
  split at k
  · rename_i c
    obtain ⟨nd, hm⟩ := c
    refine call_args S1 ha (hdd G1) nd hm ?_
    cases q : Fm (as.map (avSl ρ1) ++ dd.map Sl.d) with
    | rt d os => rw [q] at k; exact k.elim
    | rm xs os =>
      rw [q] at k
      exact fun G' H' a ws A h1 h2 h3 h4 => k G' H' A.g (call_after S1 ha (hdd G1) nd hm A) a ws h1 h2 (S1.fresh0 h3) (putBack_new S1 hm h3) h4
    | exc c ns xs os =>
      rw [q] at k
      exact fun G' H' dx gs A h1 h2 h3 => k G' H' dx gs A.g (call_after S1 ha (hdd G1) nd hm A) h1 h2 h3
    | bad => rw [q] at k; exact k.elim
  · exact k.elim
theorem dcall (F : FnOk X.prog X.w X.K X.mg X.base (L2.CX X.prog X.w) k f fd ps (spM X.K Fm)) (hr : Room k X.A) (hg : Gl X x) (hm : X.mg x = some (.ref f)) (hk : PySem.W.keepIn X.K (.ref f) = true) (hb : Binds X.K fd ps ds) (hd : Vals dvs ds) (hdd : ∀ G, Dns X.K G dd dvs) (tk : Takes X W)
    (ha : DA X B W (a :: es) fa) (hdb : (x == ("__debug__" : Str)) = false := by decide) (he : starEach (a :: es) X.env = (false, eval a X.env) :: starEach es X.env := by rfl) (hpl : (backTo pos (starEach es X.env)).any (·.1) = false := by rfl) :
    DE X B W (.Call (.Name x p) (a :: es) [] pos) (call Fm dd fa) :=
  pe_imp (pe_callSD F hr hg hm hk hb hd (fun σ => passAt tk σ) ha hdb he hpl) fun _ _ _ h => call_imp hdd h
theorem dcallM (F : FnOk X.prog X.w X.K X.mg X.base (L2.CX X.prog X.w) k f fd ps (spM X.K Fm)) (hr : Room k X.A) (hg : Gl X x) (hm : X.mg x = some (.ref f)) (hk : PySem.W.keepIn X.K (.ref f) = true) (hb : Binds X.K fd ps ds) (hd : Vals dvs ds) (hdd : ∀ G, Dns X.K G dd dvs) (tk : Takes X W)
    (ha : DA X B W (a :: es) fa) (hdb : (x == ("__debug__" : Str)) = false := by decide) (he : starEach (a :: es) X.env = (false, eval a X.env) :: starEach es X.env := by rfl) (hpl : (backTo pos (starEach es X.env)).any (·.1) = false := by rfl) :
    DM X B W (.Call (.Name x p) (a :: es) [] pos) (callM Fm dd fa) :=
  pe_imp (pe_callSD F hr hg hm hk hb hd (fun σ => passAt tk σ) ha hdb he hpl) fun _ _ _ h => callM_imp hdd h
end
end DL
end

section
set_option Elab.async false
set_option linter.all false
set_option maxRecDepth 100000
set_option maxHeartbeats 4000000
namespace DL
open PySem PySem.Spec PyProof.Rows L2

/-! ### list comprehensions -/
def wipeS (ρ : List Sl) : List Nat → List Sl
  | [] => ρ
  | v :: vs => (wipeS ρ vs).set v .no
/-- the outer data behind the block -/
def backS (ρ1 ρ : List Sl) : List Nat → List Sl
  | [] => ρ
  | v :: vs => match ρ1[v]? with
    | some (.d x) => (backS ρ1 ρ vs).set v (.d x)
    | _ => backS ρ1 ρ vs
theorem wipeS_len (ρ : List Sl) : ∀ vs : List Nat, (wipeS ρ vs).length = ρ.length
  | [] => rfl
  | v :: vs => by unfold wipeS; rw [List.length_set, wipeS_len ρ vs]
theorem wipeS_at {ρ : List Sl} {j : Nat} {s : Sl} : ∀ {vs : List Nat}, (wipeS ρ vs)[j]? = some s → (j ∈ vs ∧ s = .no ∧ j < ρ.length) ∨ (j ∉ vs ∧ ρ[j]? = some s)
  | [], h => .inr ⟨by simp, h⟩
  | v :: vs, h => by
    have lt : j < ρ.length := by
      have := (List.getElem?_eq_some_iff.mp h).1
      rwa [wipeS_len] at this
    unfold wipeS at h
    rcases set_cases h with ⟨rfl, rfl⟩ | ⟨nj, h⟩
    · exact .inl ⟨List.mem_cons_self, rfl, lt⟩
    · rcases wipeS_at h with ⟨h1, h2⟩ | ⟨h1, h2⟩
      · exact .inl ⟨List.mem_cons_of_mem _ h1, h2⟩
      · refine .inr ⟨?_, h2⟩
        simp only [List.mem_cons, not_or]
        exact ⟨nj, h1⟩
theorem wipe_get {σ : L2.St} {j : Nat} : ∀ {vs : List Nat}, (j ∈ vs → j < σ.length → (wipe σ vs)[j]? = some none) ∧ (j ∉ vs → (wipe σ vs)[j]? = σ[j]?)
  | [] => ⟨fun h => by simp at h, fun _ => rfl⟩
  | v :: vs => by
    obtain ⟨h1, h2⟩ := wipe_get (σ := σ) (j := j) (vs := vs)
    unfold wipe
    refine ⟨fun h l => ?_, fun h => ?_⟩
    · by_cases q : v = j
      · subst q
        rw [List.getElem?_set_self (by rw [wipe_length]; exact l)]
      · rw [List.getElem?_set_ne q]
        rcases List.mem_cons.mp h with z | z
        · exact absurd z.symm q
        · exact h1 z l
    · simp only [List.mem_cons, not_or] at h
      rw [List.getElem?_set_ne (fun z => h.1 z.symm)]
      exact h2 h.2
theorem wipe_eq {σ σ' : L2.St} {vs : List Nat} (hl : σ'.length = σ.length) (h : ∀ j : Nat, j ∉ vs → σ'[j]? = σ[j]?) : wipe σ' vs = wipe σ vs := by
  apply List.ext_getElem?
  intro j
  by_cases q : j ∈ vs
  · by_cases l : j < σ.length
    · rw [wipe_get.1 q l, wipe_get.1 q (by omega)]
    · rw [List.getElem?_eq_none (by rw [wipe_length]; omega), List.getElem?_eq_none (by rw [wipe_length]; omega)]
  · rw [wipe_get.2 q, wipe_get.2 q, h j q]
theorem wipe_wipe {σ : L2.St} {vs : List Nat} : wipe (wipe σ vs) vs = wipe σ vs := wipe_eq (wipe_length _ _) fun _ h => wipe_get.2 h
section
variable {K : PySem.W.Frag} {e : En} {G H G1 : Hp} {σ σ' : L2.St} {ρ ρ1 : List Sl} {vs : List Nat}
theorem Sim.move (S : Sim K e G H σ ρ) (hw : wipe σ vs = wipe σ' vs) (hB : ∀ i ∈ vs, i ∉ e.B) : Sim K e G H σ' (wipeS ρ vs) := by
  have hl : σ.length = σ'.length := by
    have := congrArg List.length hw
    rwa [wipe_length, wipe_length] at this
  have at_ : ∀ j : Nat, j ∉ vs → σ'[j]? = σ[j]? := fun j h => by
    have := congrArg (fun l : L2.St => l[j]?) hw
    rw [wipe_get.2 h, wipe_get.2 h] at this
    exact this.symm
  have m_ : ∀ (j : Nat) (s : Sl) (v : Option V) (a : Addr), (wipeS ρ vs)[j]? = some s → σ'[j]? = some v → mad s v = some a → ρ[j]? = some s ∧ σ[j]? = some v := fun j s v a h1 h2 m => by
    rcases wipeS_at h1 with ⟨_, rfl, _⟩ | ⟨nj, h⟩
    · exact absurd m mad_no
    · exact ⟨h, by rw [← at_ j nj]; exact h2⟩
  refine ⟨S.ex, by rw [wipeS_len, ← hl]; exact S.len, fun j s h => ?_, fun i j s t v w a h1 h2 h3 h4 m1 m2 => ?_, fun i s v a h1 h2 m => ?_, S.keep, S.new, S.there, fun i hi => ?_⟩
  · rcases wipeS_at h with ⟨_, rfl, l⟩ | ⟨nj, h⟩
    · have l2 : j < σ'.length := by rw [← hl, S.len]; exact l
      exact ⟨_, List.getElem?_eq_getElem l2, trivial⟩
    · rw [at_ j nj]
      exact S.rel j s h
  · obtain ⟨a1, a2⟩ := m_ i s v a h1 h3 m1
    obtain ⟨b1, b2⟩ := m_ j t w a h2 h4 m2
    exact S.sep i j s t v w a a1 b1 a2 b2 m1 m2
  · obtain ⟨a1, a2⟩ := m_ i s v a h1 h2 m
    exact S.own i s v a a1 a2 m
  · rw [at_ i (fun z => hB i z hi)]
    exact S.bs i hi
theorem Sim.learn (S : Sim K e G H σ ρ) {i : Nat} {x : D} {v : V} (hv : σ[i]? = some (some v)) (hd : Dn K G x v) : Sim K e G H σ (ρ.set i (.d x)) := by
  refine ⟨S.ex, by simpa using S.len, fun j s h => ?_, fun i j s t v w a h1 h2 h3 h4 m1 m2 => ?_, fun i s v a h1 h2 m => ?_, S.keep, S.new, S.there, S.bs⟩
  · rcases set_cases h with ⟨rfl, rfl⟩ | ⟨_, h⟩
    · exact ⟨_, hv, v, rfl, hd⟩
    · exact S.rel j s h
  · rcases set_cases h1 with ⟨_, rfl⟩ | ⟨_, h1⟩
    · exact absurd m1 mad_d
    · rcases set_cases h2 with ⟨_, rfl⟩ | ⟨_, h2⟩
      · exact absurd m2 mad_d
      · exact S.sep i j s t v w a h1 h2 h3 h4 m1 m2
  · rcases set_cases h1 with ⟨_, rfl⟩ | ⟨_, h1⟩
    · exact absurd m mad_d
    · exact S.own i s v a h1 h2 m
theorem Sim.back (S : Sim K e G H σ ρ) (g : Same G1 G) (h1 : ∀ (i : Nat) (s : Sl), ρ1[i]? = some s → ∃ v, σ[i]? = some v ∧ ∀ x, s = .d x → ∃ u, v = some u ∧ Dn K G1 x u) : ∀ vs : List Nat, Sim K e G H σ (backS ρ1 ρ vs)
  | [] => S
  | v :: vs => by
    unfold backS
    cases q : ρ1[v]? with
    | none => exact S.back g h1 vs
    | some s =>
      cases s with
      | d x =>
        obtain ⟨u, k1, k2⟩ := h1 v _ q
        obtain ⟨w, rfl, k3⟩ := k2 x rfl
        exact (S.back g h1 vs).learn k1 (Dn.mono g _ _ k3)
      | no => exact S.back g h1 vs
      | m xs => exact S.back g h1 vs
      | o c ns xs => exact S.back g h1 vs
/-- an object that stands by, not to be touched -/
def pinE (e : En) (a : Addr) (o : HO) : En := { e with H0 := upd e.H0 a o, G0 := fun b => if b = a then none else e.G0 b }
theorem Sim.pin {a : Addr} {o : HO} (S : Sim K e G H σ ρ) (ha : H a = some o) (gn : G a = none) (nb : a ∉ e.bor) (nm : ∀ (i : Nat) (s : Sl) (u : Option V), ρ[i]? = some s → σ[i]? = some u → mad s u ≠ some a) : Sim K (pinE e a o) G H σ ρ := by
  refine ⟨S.ex, S.len, S.rel, S.sep, fun i s v b h1 h2 m => ?_, fun b u h n => ?_, fun b u h => ?_, S.there, S.bs⟩
  · rcases S.own i s v b h1 h2 m with h | ⟨h3, h4⟩
    · exact .inl h
    · refine .inr ⟨h3, ?_⟩
      have nb : b ≠ a := fun z => nm i s v h1 h2 (by rw [m, z])
      show upd e.H0 a o b = none
      rw [upd_ne nb]
      exact h4
  · by_cases q : b = a
    · subst q
      have h : upd e.H0 b o b = some u := h
      rw [upd_same] at h
      rw [ha]; exact h
    · have h : upd e.H0 a o b = some u := h
      rw [upd_ne q] at h
      exact S.keep b u h n
  · have nb : b ≠ a := fun z => by
      rw [z, gn] at h
      cases h
    rcases S.new b u h with h | h
    · refine .inl ?_
      show (if b = a then none else e.G0 b) = some u
      rw [if_neg nb]
      exact h
    · refine .inr ?_
      show upd e.H0 a o b = none
      rw [upd_ne nb]
      exact h
theorem Sim.unpin {a : Addr} {o : HO} (S : Sim K (pinE e a o) G H σ ρ) (h0 : e.H0 a = none) : Sim K e G H σ ρ := by
  have un : ∀ b, upd e.H0 a o b = none → e.H0 b = none := fun b h => by
    by_cases q : b = a
    · rw [q, upd_same] at h; cases h
    · rwa [upd_ne q] at h
  refine ⟨S.ex, S.len, S.rel, S.sep, fun i s v b h1 h2 m => ?_, fun b u h n => ?_, fun b u h => ?_, S.there, S.bs⟩
  · rcases S.own i s v b h1 h2 m with h | ⟨h3, h4⟩
    · exact .inl h
    · exact .inr ⟨h3, un b h4⟩
  · have nb : b ≠ a := fun z => by rw [z, h0] at h; cases h
    exact S.keep b u (by show upd e.H0 a o b = some u; rw [upd_ne nb]; exact h) n
  · rcases S.new b u h with h | h
    · have h : (if b = a then none else e.G0 b) = some u := h
      split at h
      · cases h
      · exact .inl h
    · exact .inr (un b h)
theorem Sim.pinG {a : Addr} {o : HO} (S : Sim K (pinE e a o) G H σ ρ) : G a = none := by
  cases z : G a with
  | none => rfl
  | some u =>
    rcases S.new a u z with h | h
    · have h : (if a = a then none else e.G0 a) = some u := h
      rw [if_pos rfl] at h; cases h
    · have h : upd e.H0 a o a = none := h
      rw [upd_same] at h; cases h
theorem Sim.pinned {a : Addr} {o : HO} (S : Sim K (pinE e a o) G H σ ρ) (nb : a ∉ e.bor) : H a = some o := S.keep a o (by show upd e.H0 a o a = _; exact upd_same) nb
/-- what is pinned is nobody's slot, nor data -/
theorem Sim.pinNm {a : Addr} {o : HO} (S : Sim K (pinE e a o) G H σ ρ) (nb : a ∉ e.bor) : ∀ (i : Nat) (s : Sl) (u : Option V), ρ[i]? = some s → σ[i]? = some u → mad s u ≠ some a := fun i s u h1 h2 m => by
  rcases S.own i s u a h1 h2 m with ⟨_, h⟩ | ⟨_, h⟩
  · exact nb h
  · have h : upd e.H0 a o a = none := h
    rw [upd_same] at h
    cases h
theorem Sim.repin {a : Addr} {o o' : HO} (S : Sim K (pinE e a o) G H σ ρ) (nb : a ∉ e.bor) : Sim K (pinE e a o') G (upd H a o') σ ρ := by
  have gn := S.pinG
  refine ⟨fun b u h => ?_, S.len, fun i s h => ?_, S.sep, fun i s v b h1 h2 m => ?_, fun b u h n => ?_, fun b u h => ?_, fun b h => ?_, S.bs⟩
  · have ne : b ≠ a := fun z => by rw [z, gn] at h; cases h
    rw [upd_ne ne]
    exact S.ex b u h
  · obtain ⟨v, h1, h2⟩ := S.rel i s h
    refine ⟨v, h1, h2.mono (same_refl G) fun b u m hb => ?_⟩
    have ne : b ≠ a := fun z => S.pinNm nb i s v h h1 (by rw [m, z])
    rw [upd_ne ne]
    exact ⟨hb, (h2.madH m).2⟩
  · rcases S.own i s v b h1 h2 m with h | ⟨h3, h4⟩
    · exact .inl h
    · have ne : b ≠ a := fun z => S.pinNm nb i s v h1 h2 (by rw [m, z])
      have h4 : upd e.H0 a o b = none := h4
      rw [upd_ne ne] at h4
      refine .inr ⟨h3, ?_⟩
      show upd e.H0 a o' b = none
      rw [upd_ne ne]
      exact h4
  · have h : upd e.H0 a o' b = some u := h
    by_cases q : b = a
    · subst q
      rw [upd_same] at h ⊢
      exact h
    · rw [upd_ne q] at h ⊢
      exact S.keep b u (by show upd e.H0 a o b = some u; rw [upd_ne q]; exact h) n
  · have ne : b ≠ a := fun z => by rw [z, gn] at h; cases h
    rcases S.new b u h with h | h
    · exact .inl h
    · have h : upd e.H0 a o b = none := h
      rw [upd_ne ne] at h
      refine .inr ?_
      show upd e.H0 a o' b = none
      rw [upd_ne ne]
      exact h
  · have ne : b ≠ a := fun z => nb (z ▸ h)
    rw [upd_ne ne]
    exact S.there b h
end
abbrev W0 : WX := fun _ _ _ _ => False
/-- the turns: items, what is gathered -/
def lcL (vs : List Nat) (b : Bd) (t : Ex Bool) (g : Ex D) : List D → List D → List Sl → Option (List D × List Sl)
  | [], acc, ρ => some (acc, ρ)
  | x :: xs, acc, ρ => match b x ρ with
    | none => none
    | some ρ0 => match t ρ0 with
      | .ok c ρ1 => if c = true then (match g ρ1 with
          | .ok y ρ2 => lcL vs b t g xs (acc ++ [y]) (wipeS ρ2 vs)
          | _ => none) else lcL vs b t g xs acc (wipeS ρ1 vs)
      | _ => none
/-- [g for b in f if t] -/
def lc (vs : List Nat) (f : Ex (List D)) (b : Bd) (t : Ex Bool) (g : Ex D) : Ex (List D) := fun ρ => (f ρ).bind fun xs ρ1 =>
  if xs.length ≤ sizeLine then (match lcL vs b t g xs [] (wipeS ρ1 vs) with
    | some (ys, ρ2) => .ok ys (backS ρ1 (wipeS ρ2 vs) vs)
    | none => .bad) else .bad
/-- no test -/
def yes : Ex Bool := fun ρ => .ok true ρ
section
variable {X : Cx} {B tl : List Nat} {W : WX} {elt tg iter : Expr} {ifs : List Expr} {scope : Scope} {own : List (Str × Nat)} {pos : Pos} {f : Ex (List D)} {b : Bd} {t : Ex Bool} {g : Ex D}
abbrev DTs (X : Cx) (B : List Nat) (W : WX) (ifs : List Expr) (t : Ex Bool) : Prop := PTs X ifs (tT X.K B W t)
theorem tsnil : DTs X B W [] yes := ⟨fun pins s σ H Q I h => by
  refine pts_nil.run pins s σ H Q I ?_
  obtain ⟨e, G, ρ, rfl, S, h⟩ := h
  exact h G H (same_refl G) S⟩
theorem tsone {c : Expr} (h : DT X B W c t) : DTs X B W [c] t := pts_one h
theorem frz_imp {K : PySem.W.Frag} {fm : Ex (List D)} {σ : L2.St} {H : Hp} {Q : VK} (h : tD K B W (frz fm) σ H Q) : tM K B W fm σ H Q := by
  obtain ⟨e, G, ρ, rfl, S, h⟩ := h
  refine ⟨e, G, ρ, rfl, S, (Cont.bind h).imp fun xs ρ' G' H' g S' k a vs ha gn h0 nm hd => ?_⟩
  exact k (upd G' a (.lst vs)) H' (same_new gn) (S'.freeze ha gn h0 nm) _ ⟨a, vs, rfl, SqL.of upd_same, Dns.mono (same_new gn) _ _ hd⟩
theorem asg_imp {K : PySem.W.Frag} {i : Nat} {fe : Ex D} {E : Ends} {σ : L2.St} {H : Hp} (h : tS K B W (asg B i fe) E σ H) : tD K B W fe σ H (fun x H1 => gName i x σ H1 E.nx) := by
  obtain ⟨e, G, ρ, rfl, S, h⟩ := h
  refine ⟨e, G, ρ, rfl, S, (Cont.then h).imp fun d ρ1 G1 H1 g1 S1 k v hv => ?_⟩
  split at k
  · exact k.elim
  · rename_i nB
    exact k G1 H1 _ (same_refl G1) (S1.setD nB hv)
theorem asgM_imp {K : PySem.W.Frag} {i : Nat} {fm : Ex (List D)} {E : Ends} {σ : L2.St} {H : Hp} (h : tS K B W (asgM B i fm) E σ H) : tM K B W fm σ H (fun x H1 => gName i x σ H1 E.nx) := by
  obtain ⟨e, G, ρ, rfl, S, h⟩ := h
  refine ⟨e, G, ρ, rfl, S, (Cont.then h).imp fun d ρ1 G1 H1 g1 S1 k v vs h1 h2 h3 h4 hv => ?_⟩
  split at k
  · exact k.elim
  · rename_i nB
    exact k G1 H1 _ (same_refl G1) (S1.setM nB ⟨h1, h2, h3, h4⟩ hv)
theorem lc_imp {K : PySem.W.Frag} {vs : List Nat} (hv : ∀ i ∈ vs, i ∉ B) (htl : ∀ i ∈ tl, i ∈ vs) {σ : L2.St} {H : Hp} {Q : VK} (h : tM K B W (lc vs f b t g) σ H Q) : tLc (tI K B W f) (tG K B tl b) (tT K B W0 t) (tD K B W0 g) vs σ H Q := by
  obtain ⟨e, G, ρ, hB, S, h⟩ := h
  have hv : ∀ i ∈ vs, i ∉ e.B := fun i hi => by rw [hB]; exact hv i hi
  refine ⟨e, G, ρ, hB, S, (Cont.bind h).imp fun xs ρ1 G1 H1 g1 S1 k J hJ D hD => ?_⟩
  split at k
  · rename_i hlen
    cases hq : lcL vs b t g xs [] (wipeS ρ1 vs) with
    | none => rw [hq] at k; exact k.elim
    | some r =>
      obtain ⟨ys, ρ3⟩ := r
      rw [hq] at k
      have h0 : e.H0 D = none := S1.fresh0 hD
      have nb : D ∉ e.bor := fun z => by
        obtain ⟨o, ho⟩ := S1.there D z
        rw [hD] at ho; cases ho
      have gn : G1 D = none := S1.freshG hD
      have nm1 : ∀ (i : Nat) (s : Sl) (u : Option V), ρ1[i]? = some s → σ[i]? = some u → mad s u ≠ some D := fun i s u h1 h2 m => by
        obtain ⟨w, k1, k2⟩ := S1.rel i s h1
        rw [h2] at k1; cases k1
        obtain ⟨⟨o, ho⟩, _⟩ := k2.madH m
        rw [ho] at hD; cases hD
      have S1' : Sim K e G1 (upd H1 D (.lst [])) (wipe σ vs) (wipeS ρ1 vs) := (S1.allocM hD).move wipe_wipe.symm hv
      have nm2 : ∀ (i : Nat) (s : Sl) (u : Option V), (wipeS ρ1 vs)[i]? = some s → (wipe σ vs)[i]? = some u → mad s u ≠ some D := fun i s u h1 h2 m => by
        rcases wipeS_at h1 with ⟨_, rfl, _⟩ | ⟨nj, h⟩
        · exact mad_no m
        · rw [wipe_get.2 nj] at h2
          exact nm1 i s u h h2 m
      refine ⟨fun i m H => m = xs.length - i ∧ i ≤ xs.length ∧ ∃ G2 ρ2 acc ws, Same G1 G2 ∧ Sim K (pinE e D (.lst ws)) G2 H (wipe σ vs) ρ2 ∧ Dns K G2 acc ws ∧ G2 D = none ∧ acc.length ≤ i ∧ lcL vs b t g (xs.drop i) acc ρ2 = some (ys, ρ3),
        ⟨xs.length, rfl, Nat.zero_le _, G1, _, [], [], same_refl G1, S1'.pin upd_same gn nb nm2, rfl, gn, Nat.le_refl _, hq⟩, ?_⟩
      rintro i m H2 ⟨rfl, hi, G2, ρ2, acc, ws, g2, S2, ha, gn2, la, q2⟩
      obtain ⟨q1, q3⟩ := hJ _ G2 H2 _ ρ2 g2 S2 i
      by_cases hlt : i < xs.length
      · have hd : xs[i]? = some xs[i] := List.getElem?_eq_getElem hlt
        obtain ⟨go, yl⟩ := q3 _ hd
        rw [List.drop_eq_getElem_cons hlt] at q2
        unfold lcL at q2
        refine .inr ⟨go, fun H => i + 1 ≤ xs.length ∧ ∃ G2 ρ2 acc ws, Same G1 G2 ∧ Sim K (pinE e D (.lst ws)) G2 H (wipe σ vs) ρ2 ∧ Dns K G2 acc ws ∧ G2 D = none ∧ acc.length ≤ i + 1 ∧ lcL vs b t g (xs.drop (i + 1)) acc ρ2 = some (ys, ρ3), fun H' z => ⟨_, by omega, rfl, z⟩, fun x H3 y => ?_⟩
        obtain ⟨G3, g3, S3, hd3⟩ := yl x H3 y
        split at q2
        · cases q2
        · rename_i ρ4 hb
          refine ⟨pinE e D (.lst ws), G3, ρ2, ρ4, _, hB, S3, hd3, hb, fun G4 H4 σ4 g4 S4 o4 => ?_⟩
          have w4 : wipe σ4 vs = wipe σ vs := by
            rw [wipe_eq o4.1 fun j hj => o4.2 j fun z => hj (htl j z)]
            exact wipe_wipe
          have fin : ∀ {G6 H6 : Hp} {ρ6 : List Sl} {ws : List V}, Sim K (pinE e D (.lst ws)) G6 H6 σ4 ρ6 → Sim K (pinE e D (.lst ws)) G6 H6 (wipe σ vs) (wipeS ρ6 vs) := fun S6 => S6.move (by rw [w4, wipe_wipe]) hv
          refine ⟨w4, pinE e D (.lst ws), G4, ρ4, hB, S4, ?_⟩
          split at q2
          · rename_i c ρ5 ht5
            rw [ht5]
            refine fun G5 H5 g5 S5 => ?_
            cases c with
            | true =>
              rw [if_pos rfl] at q2 ⊢
              split at q2
              · rename_i y ρ6 hg6
                refine ⟨pinE e D (.lst ws), G5, ρ5, hB, S5, ?_⟩
                rw [hg6]
                refine fun G6 H6 g6 S6 v hv6 => ⟨ws, S6.pinned nb, ?_, hlt, G6, _, acc ++ [y], ws ++ [v], same_trans g2 (same_trans g3 (same_trans g4 (same_trans g5 g6))), ?_, ?_, S6.pinG, by rw [List.length_append]; simp; omega, q2⟩
                · rw [ha.len]
                  omega
                · exact (fin S6).repin nb
                · exact (Dns.mono (same_trans g3 (same_trans g4 (same_trans g5 g6))) _ _ ha).append (Dns.cons hv6 Dns.nil)
              · cases q2
            | false =>
              rw [if_neg Bool.false_ne_true] at q2 ⊢
              exact ⟨hlt, G5, _, acc, ws, same_trans g2 (same_trans g3 (same_trans g4 g5)), fin S5, Dns.mono (same_trans g3 (same_trans g4 g5)) _ _ ha, S5.pinG, by omega, q2⟩
          · cases q2
      · have e0 : xs.length = i := by omega
        refine .inl ⟨q1 e0, ?_⟩
        rw [List.drop_eq_nil_of_le (by omega)] at q2
        unfold lcL at q2
        cases q2
        have S3 := (S2.move wipe_wipe hv).back (vs := vs) g2 fun i s h => by
          obtain ⟨v, k1, k2⟩ := S1.rel i s h
          refine ⟨v, k1, fun x e => ?_⟩
          subst e
          exact k2
        exact k G2 H2 g2 (S3.unpin h0) D ws (S2.pinned nb) gn2 h0 (S3.pinNm nb) ha
  · exact k.elim
theorem dlc {vs : List Nat} (hvs : own.map (·.2) = vs) (hc : X.calm = true) (hN : X.N.Nodup) (hi : DI X B W tg iter f) (ok : BlkOk X.N X.env.scope scope own) (hv : ∀ i ∈ vs, i ∉ B) (htl : ∀ i ∈ tl, i ∈ vs)
    (hg : ∀ (s : Shared) (H : Hp) (C : Addr) (cl : List (Str × Addr)) (fp : List Addr), DG (X.blk s H scope (compEnvC scope cl C X.env) fp) B tl tg b)
    (ht : ∀ (s : Shared) (H : Hp) (C : Addr) (cl : List (Str × Addr)) (fp : List Addr), DTs (X.blk s H scope (compEnvC scope cl C X.env) fp) B W0 ifs t)
    (he : ∀ (s : Shared) (H : Hp) (C : Addr) (cl : List (Str × Addr)) (fp : List Addr), DE (X.blk s H scope (compEnvC scope cl C X.env) fp) B W0 elt g) (hs : ∀ x, foldedSetIterable iter X.env x = pure x := by intro _; rfl) :
    DM X B W (.ListComp elt [⟨tg, iter, ifs, 0⟩] scope pos) (lc vs f b t g) := by
  subst hvs
  exact pe_imp (pe_lc (g := tG X.K B tl b) (tt := tT X.K B W0 t) (te := tD X.K B W0 g) hc hN hi ok hg ht he hs) fun _ _ _ h => lc_imp hv htl h
/-- name = [g for b in f if t] on one line -/
theorem sasgLc (i : Nat) {vs : List Nat} (hvs : own.map (·.2) = vs) {y : Str} {py spos : Pos} (hc : X.calm = true) (hN : X.N.Nodup) (hi : DI X B W tg iter f) (ok : BlkOk X.N X.env.scope scope own) (hv : ∀ i ∈ vs, i ∉ B) (htl : ∀ i ∈ tl, i ∈ vs)
    (hg : ∀ (s : Shared) (H : Hp) (C : Addr) (cl : List (Str × Addr)) (fp : List Addr), DG (X.blk s H scope (compEnvC scope cl C X.env) fp) B tl tg b)
    (ht : ∀ (s : Shared) (H : Hp) (C : Addr) (cl : List (Str × Addr)) (fp : List Addr), DTs (X.blk s H scope (compEnvC scope cl C X.env) fp) B W0 ifs t)
    (he : ∀ (s : Shared) (H : Hp) (C : Addr) (cl : List (Str × Addr)) (fp : List Addr), DE (X.blk s H scope (compEnvC scope cl C X.env) fp) B W0 elt g) (hy : X.N[i]? = some y := by rfl) (hyl : X.env.scope.names.lookup y = some .local := by rfl)
    (hsw : swapsWith (.ListComp elt [⟨tg, iter, ifs, 0⟩] scope pos) (some (.Name y py)) spos.line X.env = pure true := by exact sw_true rfl rfl rfl rfl) (hs : ∀ x, foldedSetIterable iter X.env x = pure x := by intro _; rfl) :
    DS X B W (.Assign [.Name y py] (.ListComp elt [⟨tg, iter, ifs, 0⟩] scope pos) spos) (asgM B i (lc vs f b t g)) := by
  subst hvs
  exact ps_imp (ps_setLc (g := tG X.K B tl b) (tt := tT X.K B W0 t) (te := tD X.K B W0 g) hc hN hy hyl hsw hi ok hg ht he hs) fun E σ H h => lc_imp (Q := fun x H1 => gName i x σ H1 E.nx) hv htl (asgM_imp h)
theorem sasgLcF (i : Nat) {vs : List Nat} (hvs : own.map (·.2) = vs) {y : Str} {py spos : Pos} (hc : X.calm = true) (hN : X.N.Nodup) (hi : DI X B W tg iter f) (ok : BlkOk X.N X.env.scope scope own) (hv : ∀ i ∈ vs, i ∉ B) (htl : ∀ i ∈ tl, i ∈ vs)
    (hg : ∀ (s : Shared) (H : Hp) (C : Addr) (cl : List (Str × Addr)) (fp : List Addr), DG (X.blk s H scope (compEnvC scope cl C X.env) fp) B tl tg b)
    (ht : ∀ (s : Shared) (H : Hp) (C : Addr) (cl : List (Str × Addr)) (fp : List Addr), DTs (X.blk s H scope (compEnvC scope cl C X.env) fp) B W0 ifs t)
    (he : ∀ (s : Shared) (H : Hp) (C : Addr) (cl : List (Str × Addr)) (fp : List Addr), DE (X.blk s H scope (compEnvC scope cl C X.env) fp) B W0 elt g) (hy : X.N[i]? = some y := by rfl) (hyl : X.env.scope.names.lookup y = some .local := by rfl)
    (hsw : swapsWith (.ListComp elt [⟨tg, iter, ifs, 0⟩] scope pos) (some (.Name y py)) spos.line X.env = pure true := by exact sw_true rfl rfl rfl rfl) (hs : ∀ x, foldedSetIterable iter X.env x = pure x := by intro _; rfl) :
    DS X B W (.Assign [.Name y py] (.ListComp elt [⟨tg, iter, ifs, 0⟩] scope pos) spos) (asg B i (frz (lc vs f b t g))) := by
  subst hvs
  exact ps_imp (ps_setLc (g := tG X.K B tl b) (tt := tT X.K B W0 t) (te := tD X.K B W0 g) hc hN hy hyl hsw hi ok hg ht he hs) fun E σ H h => lc_imp (Q := fun x H1 => gName i x σ H1 E.nx) hv htl (frz_imp (asg_imp h))
end
end DL
end

section
set_option Elab.async false
set_option linter.all false
set_option maxRecDepth 100000
set_option maxHeartbeats 4000000
namespace DL
open PySem PySem.Spec PyProof.Rows L2

/-! ### fields -/
def fldOf : List Str → List D → Str → Option D
  | n :: ns, x :: xs, f => if n = f then some x else fldOf ns xs f
  | _, _, _ => none
theorem fldOf_rel {K : PySem.W.Frag} {G : Hp} {f : Str} {d : D} : ∀ {fs : List (Str × V)} {ns : List Str} {xs : List D}, fs.map (·.1) = ns → Dns K G xs (fs.map (·.2)) → fldOf ns xs f = some d → ∃ v, fs.lookup f = some v ∧ Dn K G d v
  | [], ns, xs, e, _, h => by
    cases (show [] = ns from e)
    unfold fldOf at h
    cases h
  | (g, v) :: fs, ns, xs, e, hd, h => by
    cases (show g :: fs.map (·.1) = ns from e)
    cases xs with
    | nil => cases (show v :: fs.map (·.2) = [] from hd)
    | cons x xs =>
      obtain ⟨v', r, e2, h1, h2⟩ := (show ∃ v' r, v :: fs.map (·.2) = v' :: r ∧ Dn K G x v' ∧ Dns K G xs r from hd)
      cases e2
      unfold fldOf at h
      split at h
      · rename_i q
        subst q
        cases h
        exact ⟨v, by simp [List.lookup], h1⟩
      · rename_i q
        obtain ⟨w, k1, k2⟩ := fldOf_rel rfl h2 h
        refine ⟨w, ?_, k2⟩
        have nq : (f == g) = false := by simpa using fun z => q z.symm
        rw [List.lookup_cons, nq]
        exact k1
theorem noFld {m : Str} : ∀ {fs : List (Str × V)}, m ∉ fs.map (·.1) → fs.lookup m = none
  | [], _ => rfl
  | (g, v) :: fs, h => by
    simp only [List.map_cons, List.mem_cons, not_or] at h
    have nq : (m == g) = false := by simpa using h.1
    rw [List.lookup_cons, nq]
    exact noFld h.2
def putNs (f : Str) : List Str → List Str
  | [] => [f]
  | g :: r => if g = f then g :: r else g :: putNs f r
def putXs (f : Str) (d : D) : List Str → List D → List D
  | g :: r, x :: xs => if g = f then d :: xs else x :: putXs f d r xs
  | _, _ => [d]
theorem putF_rel {K : PySem.W.Frag} {G : Hp} {f : Str} {d : D} {v : V} (hv : Dn K G d v) : ∀ {fs : List (Str × V)} {ns : List Str} {xs : List D}, fs.map (·.1) = ns → Dns K G xs (fs.map (·.2)) → (putF f v fs).map (·.1) = putNs f ns ∧ Dns K G (putXs f d ns xs) ((putF f v fs).map (·.2))
  | [], ns, xs, e, _ => by
    cases (show [] = ns from e)
    unfold putF putNs putXs
    exact ⟨rfl, Dns.cons hv Dns.nil⟩
  | (g, u) :: fs, ns, xs, e, hd => by
    cases (show g :: fs.map (·.1) = ns from e)
    cases xs with
    | nil => cases (show u :: fs.map (·.2) = [] from hd)
    | cons x xs =>
      obtain ⟨v', r, e2, h1, h2⟩ := (show ∃ v' r, u :: fs.map (·.2) = v' :: r ∧ Dn K G x v' ∧ Dns K G xs r from hd)
      cases e2
      unfold putF putNs putXs
      by_cases q : g = f
      · rw [if_pos q, if_pos q, if_pos q]
        exact ⟨by simp, Dns.cons hv h2⟩
      · rw [if_neg q, if_neg q, if_neg q]
        obtain ⟨k1, k2⟩ := putF_rel hv (fs := fs) rfl h2
        exact ⟨by simp [k1], Dns.cons h1 k2⟩
/-- e.f, e data of one of the classes -/
def fld (cs : List Str) (f : Str) (g : Ex D) : Ex D := fun ρ => (g ρ).bind fun d ρ1 => match d with
  | .ins c ns xs => if c ∈ cs then ofO (fldOf ns xs f) ρ1 else .bad
  | _ => .bad
/-- x.f, x the slot's own instance -/
def fldS (cs : List Str) (f : Str) (i : Nat) : Ex D := fun ρ => match ρ[i]? with
  | some (.o c ns xs) => if c ∈ cs then ofO (fldOf ns xs f) ρ else .bad
  | _ => .bad
/-- x.f = e -/
def setF (cs : List Str) (f : Str) (i : Nat) (g : Ex D) : Sx := fun ρ => (g ρ).then fun d ρ1 => match ρ1[i]? with
  | some (.o c ns xs) => if c ∈ cs ∧ ns.length < 1000 then .nx (ρ1.set i (.o c (putNs f ns) (putXs f d ns xs))) else .bad
  | _ => .bad
abbrev ClsF (K : PySem.W.Frag) (cs : List Str) (f : Str) : Prop := ∀ c ∈ cs, Cls K (He.ga K c) ∧ NoAttr K (He.ga K c) f
section
variable {X : Cx} {B : List Nat} {W : WX} {e : Expr} {f : Str} {g : Ex D} {cs : List Str} {pos : Pos}
theorem dfld (hc : ClsF X.K cs f) (h : DE X B W e g) (hb : attributeBase e f X.env (eval e X.env) = eval e X.env := by rfl) : DE X B W (.Attribute e f pos) (fld cs f g) := by
  refine pe_imp (pe_fld h hb) fun σ H Q h => ?_
  obtain ⟨e, G, ρ, rfl, S, h⟩ := h
  refine ⟨e, G, ρ, rfl, S, (Cont.bind h).imp fun d ρ1 G1 H1 g1 S1 k v hv => ?_⟩
  cases d with
  | ins c ns xs =>
    by_cases q : c ∈ cs
    · replace k : Cont X.K e W σ G1 (if c ∈ cs then ofO (fldOf ns xs f) ρ1 else .bad) _ := k
      rw [if_pos q] at k
      obtain ⟨a, dx, fs, rfl, h1, h2, h3⟩ := hv
      cases z : fldOf ns xs f with
      | none => rw [z] at k; exact k.elim
      | some d =>
        rw [z] at k
        obtain ⟨u, k1, k2⟩ := fldOf_rel h2 h3 z
        exact ⟨a, _, dx, fs, u, rfl, S1.ex _ _ h1, (hc c q).1, (hc c q).2, k1, k G1 H1 (same_refl G1) S1 u k2⟩
    · replace k : Cont X.K e W σ G1 (if c ∈ cs then ofO (fldOf ns xs f) ρ1 else .bad) _ := k
      rw [if_neg q] at k
      exact k.elim
  | _ => exact k.elim
theorem dfldS (i : Nat) {x : Str} {p : Pos} (hc : ClsF X.K cs f) (hN : X.N[i]? = some x := by rfl) (hv : Vis X.env.scope x := by first | exact Or.inl rfl | exact Or.inr (Or.inl rfl) | exact Or.inr (Or.inr rfl)) (hd : (x == ("__debug__" : Str)) = false := by decide)
    (hcd : (x == ("__classdict__" : Str)) = false := by decide) (hb : attributeBase (.Name x p) f X.env (eval (.Name x p) X.env) = eval (.Name x p) X.env := by rfl) : DE X B W (.Attribute (.Name x p) f pos) (fldS cs f i) := by
  refine pe_imp (pe_fld (pe_var hN hv hd hcd) hb) fun σ H Q h => ?_
  obtain ⟨e, G, ρ, rfl, S, h⟩ := h
  unfold fldS at h
  split at h
  · rename_i c ns xs hx
    split at h
    · rename_i q
      obtain ⟨v, h1, a, dx, fs, rfl, h3, h4, h5, h6⟩ := S.rel _ _ hx
      cases z : fldOf ns xs f with
      | none => rw [z] at h; exact h.elim
      | some d =>
        rw [z] at h
        obtain ⟨u, k1, k2⟩ := fldOf_rel h5 h6 z
        exact ⟨_, h1, a, _, dx, fs, u, rfl, h3, (hc c q).1, (hc c q).2, k1, h G H (same_refl G) S u k2⟩
    · exact h.elim
  · exact h.elim
theorem ssetF (i : Nat) {x : Str} {p p2 : Pos} (hc : ClsF X.K cs f) (h : DE X B W e g) (hN : X.N[i]? = some x := by rfl) (hv : Vis X.env.scope x := by first | exact Or.inl rfl | exact Or.inr (Or.inl rfl) | exact Or.inr (Or.inr rfl)) (hd : (x == ("__debug__" : Str)) = false := by decide)
    (hcd : (x == ("__classdict__" : Str)) = false := by decide) (hs : swapsWith e (some (.Attribute (.Name x p) f p2)) pos.line X.env = pure false := by rfl) : DS X B W (.Assign [.Attribute (.Name x p) f p2] e pos) (setF cs f i g) := by
  refine ps_imp (ps_fld (pe_var hN hv hd hcd) h hs) fun E σ H h => ?_
  obtain ⟨e, G, ρ, rfl, S, h⟩ := h
  refine ⟨e, G, ρ, rfl, S, (Cont.then h).imp fun d ρ1 G1 H1 g1 S1 k v hv => ?_⟩
  split at k
  · rename_i c ns xs hx
    split at k
    · rename_i q
      obtain ⟨q, hl⟩ := q
      obtain ⟨u, h1, a, dx, fs, rfl, h3, h4, h5, h6⟩ := S1.rel _ _ hx
      have hl2 : fs.length < 1000 := by
        have := congrArg List.length h5
        rw [List.length_map] at this
        omega
      obtain ⟨k1, k2⟩ := putF_rel hv h5 h6
      refine ⟨_, h1, a, _, dx, fs, rfl, h3, (hc c q).1, (hc c q).2, hl2, k G1 _ _ (same_refl G1) (S1.updO hx h1 rfl ⟨a, dx, putF f v fs, rfl, upd_same, h4, k1, k2⟩)⟩
    · exact k.elim
  · exact k.elim
end

/-! ### methods, slots in what is raised -/
def tMethSD (C : Addr) (m : Str) (sp : Sp) (dvs : List V) (E : L2.St → XK) (ta : TE) (t : TA) : TE := fun σ H Q => ta σ H fun x H1 => ∃ a dx fs, x = .ref a ∧ H1 a = some (.ins C dx fs) ∧ fs.lookup m = none ∧ t σ H1 fun vs H2 => sp (x :: (vs ++ dvs)) H2 Q (E σ)
section
variable {X : Cx} {CX : CXT} {k : Nat} {f C : Addr} {fd : FuncData} {ps : List Str} {sp : Sp} {dvs : List V} {ds : List Value} {E : L2.St → XK} {m : Str} {pos apos : Pos} {o e : Expr} {es : List Expr} {ta : TE} {t : TA}
theorem pe_methSD {pl : Sem Bool} (he : PE X o ta) (c : Cls X.K C) (hm : Meth X.K C m f) (F : FnOk X.prog X.w X.K X.mg X.base CX k f fd ps sp) (hr : Room k X.A) (hb : Binds X.K fd ps ds) (hd : Vals dvs ds) (hx : ∀ σ, PassesAt CX X σ (E σ)) (ha : PA X (e :: es) t)
    (hst : starEach (e :: es) X.env = (false, eval e X.env) :: starEach es X.env := by rfl) (hpl : (backTo pos (starEach es X.env)).any (·.1) = false := by rfl)
    (ht : eval (.Call (.Attribute o m apos) (e :: es) [] pos) X.env = (do
      let ov ← eval o X.env
      standAt apos.atName
      let (f, first) ← holding [ov] (getMethod ov m pl)
      callWith pos f first (backTo pos (starEach (e :: es) X.env)) (backToKw pos (keywordEach [] X.env))) := by rfl) :
    PE X (.Call (.Attribute o m apos) (e :: es) [] pos) (tMethSD C m sp dvs E ta t) := by
  refine ⟨fun pins s σ H Q I h => ?_⟩
  refine PySem.W.methodCall_KW (pl := pl) (thn (he.run pins s σ H _ I h) fun u s1 ⟨x, H1, I1, rx, a, dx, fs, ex, ea, l, q⟩ => ?_) ht
  subst ex
  obtain rfl : u = Value.ref a := rx
  refine getmeth_ok I1 ea c hm l ?_
  refine PySem.W.callWith_K (first := [.ref a]) (h₀ := X.base) I.ok.mod.kin hm.kp (thn (ha.run pos pins s1 σ H1 _ I1 q) fun us s2 ⟨vs, H2, I2, r, q2⟩ => ⟨I2.kIn, ?_⟩) hst hpl
  exact run_fnSD (us := .ref a :: us) (vs := .ref a :: vs) F hr hb hd (hx σ) I2 (.cons rfl r) q2
theorem pe_methSD0 {pl : Sem Bool} (he : PE X o ta) (c : Cls X.K C) (hm : Meth X.K C m f) (F : FnOk X.prog X.w X.K X.mg X.base CX k f fd ps sp) (hr : Room k X.A) (hb : Binds X.K fd ps ds) (hd : Vals dvs ds) (hx : ∀ σ, PassesAt CX X σ (E σ))
    (ht : eval (.Call (.Attribute o m apos) [] [] pos) X.env = (do
      let ov ← eval o X.env
      standAt apos.atName
      let (f, first) ← holding [ov] (getMethod ov m pl)
      callWith pos f first (backTo pos (starEach [] X.env)) (backToKw pos (keywordEach [] X.env))) := by rfl) :
    PE X (.Call (.Attribute o m apos) [] [] pos) (tMethSD C m sp dvs E ta tNil) := by
  refine ⟨fun pins s σ H Q I h => ?_⟩
  refine PySem.W.methodCall_KW (pl := pl) (thn (he.run pins s σ H _ I h) fun u s1 ⟨x, H1, I1, rx, a, dx, fs, ex, ea, l, q⟩ => ?_) ht
  subst ex
  obtain rfl : u = Value.ref a := rx
  refine getmeth_ok I1 ea c hm l ?_
  exact PySem.W.callWith_K0 (first := [.ref a]) I1.kIn hm.kp (run_fnSD (us := [.ref a]) (vs := [.ref a]) F hr hb hd (hx σ) I1 (.cons rfl .nil) q)
end
section
variable {X : Cx} {CX : CXT} {k : Nat} {f C : Addr} {fd : FuncData} {ps : List Str} {sp : Sp} {dvs : List V} {ds : List Value} {E : L2.St → XK} {x : Str} {p pos : Pos} {e : Expr} {es : List Expr} {t : TA}
/-- C(e, ..), slots in what is raised -/
def tMakeSD (C : Addr) (sp : Sp) (dvs : List V) (E : L2.St → XK) (t : TA) : TE := fun σ H Q => t σ H fun vs H1 => ∀ x dx, H1 x = none → H1 dx = none → dx ≠ x → sp (.ref x :: (vs ++ dvs)) (upd (upd H1 dx (.own x)) x (.ins C dx [])) (fun v H2 => v = .non ∧ Q (.ref x) H2) (E σ)
theorem run_makeSD {pins : List (Addr × Obj)} {σ : L2.St} {H : Hp} {s : Shared} {Q : VK} {us : List Value} {vs : List V} (M : Mk X.K C f) (F : FnOk X.prog X.w X.K X.mg X.base CX k f fd ps sp) (hr : Room (k + 1) X.A) (hb : Binds X.K fd ps ds) (hd : Vals dvs ds)
    (hx : PassesAt CX X σ (E σ)) (I : Inv X pins σ H s) (r : Vals vs us)
    (h : ∀ x dx, H x = none → H dx = none → dx ≠ x → sp (.ref x :: (vs ++ dvs)) (upd (upd H dx (.own x)) x (.ins C dx [])) (fun v H2 => v = .non ∧ Q (.ref x) H2) (E σ)) :
    wpAny (model X.prog X.w) X.A (PySem.call (.ref C) us) (EP X pins σ Q) X.xe s := by
  have hq := h (s.heap.objs.size + 1) s.heap.objs.size (I.hok.fresh (Nat.le_succ _)) (I.hok.fresh (Nat.le_refl _)) (Nat.ne_of_lt (Nat.lt_succ_self _))
  have I2 := Inv.made (C := C) I
  have r2 : Vals (V.ref (s.heap.objs.size + 1) :: (vs ++ dvs)) (Value.ref (s.heap.objs.size + 1) :: (us ++ ds)) := .cons rfl (r.append hd)
  have hl : (Value.ref (s.heap.objs.size + 1) :: us ++ ds).length = ps.length := by
    have e := r2.length
    rw [F.len _ _ _ _ hq] at e
    exact e.symm
  refine wpAny_call (make_map (f := f) I.kIn M.makes M.init (beq_iff_eq.mp M.fn) (codeAny_mono (F.run _ X.stack _ _ ⟨Value.ref (s.heap.objs.size + 1) :: us, []⟩ (Value.ref (s.heap.objs.size + 1) :: (us ++ ds)) _ _ (E σ) (hr.make C us [])
    (I2.env0.make C us []) (hb _ (Value.ref (s.heap.objs.size + 1) :: us) I2.kIn hl) r2 hq) fun r s' hq' => ?_))
  cases r with
  | error e => exact hx pins _ _ e s' I2 hq'
  | ok fl =>
    cases fl with
    | ret u =>
      obtain ⟨v, H', I3, rv, ev, q3⟩ := I2.after hq'
      subst ev
      exact ⟨rv, ⟨V.ref (s.heap.objs.size + 1), H', I3, rfl, q3⟩⟩
    | next => exact False.elim hq'
    | brk => exact False.elim hq'
    | cont => exact False.elim hq'
theorem pe_makeSD (M : Mk X.K C f) (F : FnOk X.prog X.w X.K X.mg X.base CX k f fd ps sp) (hr : Room (k + 1) X.A) (hg : Gl X x) (hm : X.mg x = some (.ref C)) (hb : Binds X.K fd ps ds) (hd : Vals dvs ds) (hx : ∀ σ, PassesAt CX X σ (E σ))
    (ha : PA X (e :: es) t) (hdb : (x == ("__debug__" : Str)) = false := by decide) (he : starEach (e :: es) X.env = (false, eval e X.env) :: starEach es X.env := by rfl) (hpl : (backTo pos (starEach es X.env)).any (·.1) = false := by rfl) :
    PE X (.Call (.Name x p) (e :: es) [] pos) (tMakeSD C sp dvs E t) := by
  refine ⟨fun pins s σ H Q I h => ?_⟩
  refine wpAny_Call_Name_kw (ld_glob I hg hm ?_ hdb)
  refine PySem.W.callWith_K (h₀ := X.base) I.ok.mod.kin M.kp (thn (ha.run pos pins s σ H _ I h) fun us s1 ⟨vs, H1, I1, r, q⟩ => ⟨I1.kIn, ?_⟩) he hpl
  exact run_makeSD M F hr hb hd (hx σ) I1 r q
end
end DL
end

section
set_option Elab.async false
set_option linter.all false
set_option maxRecDepth 100000
set_option maxHeartbeats 4000000
namespace DL
open PySem PySem.Spec PyProof.Rows L2

/-! ### method calls -/
def ldn : Ex (List AV) := fun ρ => .ok [] ρ
/-- e.m(..), e data of the class c -/
def mcall (c m : Str) (F : Fn) (dd : List D) (fo : Ex D) (fa : Ex (List AV)) : Ex D := fun ρ => (fo ρ).bind fun d ρ1 => match d with
  | .ins c' ns xs => if c' = c ∧ m ∉ ns then (fa ρ1).bind fun as ρ2 => appF F dd some (fun _ => none) (.dv (.ins c' ns xs) :: as) ρ2 else .bad
  | _ => .bad
def mcallM (c m : Str) (F : Fn) (dd : List D) (fo : Ex D) (fa : Ex (List AV)) : Ex (List D) := fun ρ => (fo ρ).bind fun d ρ1 => match d with
  | .ins c' ns xs => if c' = c ∧ m ∉ ns then (fa ρ1).bind fun as ρ2 => appF F dd (fun _ => none) some (.dv (.ins c' ns xs) :: as) ρ2 else .bad
  | _ => .bad
/-- x.m(..), x the slot's own instance -/
def mcallS (c m : Str) (F : Fn) (dd : List D) (i : Nat) (fa : Ex (List AV)) : Ex D := fun ρ => match ρ[i]? with
  | some (.o c' ns xs) => if c' = c ∧ m ∉ ns then (fa ρ).bind fun as ρ2 => appF F dd some (fun _ => none) (.mv i :: as) ρ2 else .bad
  | _ => .bad
def mcallSM (c m : Str) (F : Fn) (dd : List D) (i : Nat) (fa : Ex (List AV)) : Ex (List D) := fun ρ => match ρ[i]? with
  | some (.o c' ns xs) => if c' = c ∧ m ∉ ns then (fa ρ).bind fun as ρ2 => appF F dd (fun _ => none) some (.mv i :: as) ρ2 else .bad
  | _ => .bad
section
variable {K : PySem.W.Frag} {B : List Nat} {W : WX} {F : Fn} {dd : List D} {dvs : List V} {e : En} {G H : Hp} {σ : L2.St} {ρ : List Sl} {as : List AV} {vs : List V}
theorem appD_imp (hdd : Dns K G dd dvs) (S : Sim K e G H σ ρ) (ha : Avs K G σ as vs) {Q : VK} (k : Cont K e W σ G (appF F dd some (fun _ => none) as ρ) fun d _ G' H' => ∀ v, Dn K G' d v → Q v H') : spM K F (vs ++ dvs) H Q (WE W σ) := by
  unfold appF at k
  split at k
  · rename_i c
    obtain ⟨nd, hm⟩ := c
    refine call_args S ha hdd nd hm ?_
    cases q : F (as.map (avSl ρ) ++ dd.map Sl.d) with
    | rt d os =>
      rw [q] at k
      exact fun G' H' v A hv => k G' H' A.g (call_after S ha hdd nd hm A) v hv
    | rm xs os => rw [q] at k; exact k.elim
    | exc c ns xs os =>
      rw [q] at k
      exact fun G' H' dx gs A h1 h2 h3 => k G' H' dx gs A.g (call_after S ha hdd nd hm A) h1 h2 h3
    | bad => rw [q] at k; exact k.elim
  · exact k.elim
theorem appM_imp (hdd : Dns K G dd dvs) (S : Sim K e G H σ ρ) (ha : Avs K G σ as vs) {Q : VK} (k : Cont K e W σ G (appF F dd (fun _ => none) some as ρ) fun xs ρ' G' H' =>
    ∀ a vs, H' a = some (.lst vs) → G' a = none → e.H0 a = none → (∀ (i : Nat) (s : Sl) (u : Option V), ρ'[i]? = some s → σ[i]? = some u → mad s u ≠ some a) → Dns K G' xs vs → Q (.ref a) H') : spM K F (vs ++ dvs) H Q (WE W σ) := by
  unfold appF at k
  split at k
  · rename_i c
    obtain ⟨nd, hm⟩ := c
    refine call_args S ha hdd nd hm ?_
    cases q : F (as.map (avSl ρ) ++ dd.map Sl.d) with
    | rt d os => rw [q] at k; exact k.elim
    | rm xs os =>
      rw [q] at k
      exact fun G' H' a ws A h1 h2 h3 h4 => k G' H' A.g (call_after S ha hdd nd hm A) a ws h1 h2 (S.fresh0 h3) (putBack_new S hm h3) h4
    | exc c ns xs os =>
      rw [q] at k
      exact fun G' H' dx gs A h1 h2 h3 => k G' H' dx gs A.g (call_after S ha hdd nd hm A) h1 h2 h3
    | bad => rw [q] at k; exact k.elim
  · exact k.elim
theorem mcall_imp {c m : Str} {fo : Ex D} {fa : Ex (List AV)} (hdd : ∀ G, Dns K G dd dvs) {Q : VK} (h : tD K B W (mcall c m F dd fo fa) σ H Q) : tMethSD (He.ga K c) m (spM K F) dvs (WE W) (tD K B W fo) (tA K B W fa) σ H Q := by
  obtain ⟨e, G, ρ, rfl, S, h⟩ := h
  refine ⟨e, G, ρ, rfl, S, (Cont.bind h).imp fun d ρ1 G1 H1 g1 S1 k v hv => ?_⟩
  cases d with
  | ins c' ns xs =>
    by_cases q : c' = c ∧ m ∉ ns
    · replace k : Cont K e W σ G1 (if c' = c ∧ m ∉ ns then (fa ρ1).bind fun as ρ2 => appF F dd some (fun _ => none) (.dv (.ins c' ns xs) :: as) ρ2 else .bad) _ := k
      rw [if_pos q] at k
      have hv0 := hv
      obtain ⟨a, dx, fs, rfl, h1, h2, h3⟩ := hv
      refine ⟨a, dx, fs, rfl, by rw [← q.1]; exact S1.ex _ _ h1, noFld (by rw [h2]; exact q.2), e, G1, ρ1, rfl, S1, (Cont.bind k).imp fun as ρ2 G2 H2 g2 S2 k2 vs ha => ?_⟩
      exact appD_imp (as := .dv (.ins c' ns xs) :: as) (vs := .ref a :: vs) (hdd G2) S2 ⟨_, _, rfl, Dn.mono g2 _ _ hv0, ha⟩ k2
    · replace k : Cont K e W σ G1 (if c' = c ∧ m ∉ ns then (fa ρ1).bind fun as ρ2 => appF F dd some (fun _ => none) (.dv (.ins c' ns xs) :: as) ρ2 else .bad) _ := k
      rw [if_neg q] at k
      exact k.elim
  | _ => exact k.elim
theorem mcallM_imp {c m : Str} {fo : Ex D} {fa : Ex (List AV)} (hdd : ∀ G, Dns K G dd dvs) {Q : VK} (h : tM K B W (mcallM c m F dd fo fa) σ H Q) : tMethSD (He.ga K c) m (spM K F) dvs (WE W) (tD K B W fo) (tA K B W fa) σ H Q := by
  obtain ⟨e, G, ρ, rfl, S, h⟩ := h
  refine ⟨e, G, ρ, rfl, S, (Cont.bind h).imp fun d ρ1 G1 H1 g1 S1 k v hv => ?_⟩
  cases d with
  | ins c' ns xs =>
    by_cases q : c' = c ∧ m ∉ ns
    · replace k : Cont K e W σ G1 (if c' = c ∧ m ∉ ns then (fa ρ1).bind fun as ρ2 => appF F dd (fun _ => none) some (.dv (.ins c' ns xs) :: as) ρ2 else .bad) _ := k
      rw [if_pos q] at k
      have hv0 := hv
      obtain ⟨a, dx, fs, rfl, h1, h2, h3⟩ := hv
      refine ⟨a, dx, fs, rfl, by rw [← q.1]; exact S1.ex _ _ h1, noFld (by rw [h2]; exact q.2), e, G1, ρ1, rfl, S1, (Cont.bind k).imp fun as ρ2 G2 H2 g2 S2 k2 vs ha => ?_⟩
      exact appM_imp (as := .dv (.ins c' ns xs) :: as) (vs := .ref a :: vs) (hdd G2) S2 ⟨_, _, rfl, Dn.mono g2 _ _ hv0, ha⟩ k2
    · replace k : Cont K e W σ G1 (if c' = c ∧ m ∉ ns then (fa ρ1).bind fun as ρ2 => appF F dd (fun _ => none) some (.dv (.ins c' ns xs) :: as) ρ2 else .bad) _ := k
      rw [if_neg q] at k
      exact k.elim
  | _ => exact k.elim
theorem mcallS_imp {c m : Str} {i : Nat} {fa : Ex (List AV)} (hdd : ∀ G, Dns K G dd dvs) {Q : VK} (h : tD K B W (mcallS c m F dd i fa) σ H Q) : tMethSD (He.ga K c) m (spM K F) dvs (WE W) (tVar i) (tA K B W fa) σ H Q := by
  obtain ⟨e, G, ρ, rfl, S, h⟩ := h
  unfold mcallS at h
  split at h
  · rename_i c' ns xs hx
    split at h
    · rename_i q
      obtain ⟨v, h1, a, dx, fs, rfl, h3, h4, h5, h6⟩ := S.rel _ _ hx
      refine ⟨_, h1, a, dx, fs, rfl, by rw [← q.1]; exact h3, noFld (by rw [h5]; exact q.2), e, G, ρ, rfl, S, (Cont.bind h).imp fun as ρ2 G2 H2 g2 S2 k2 vs ha => ?_⟩
      exact appD_imp (as := .mv i :: as) (vs := .ref a :: vs) (hdd G2) S2 ⟨_, _, rfl, h1, ha⟩ k2
    · exact h.elim
  · exact h.elim
theorem mcallSM_imp {c m : Str} {i : Nat} {fa : Ex (List AV)} (hdd : ∀ G, Dns K G dd dvs) {Q : VK} (h : tM K B W (mcallSM c m F dd i fa) σ H Q) : tMethSD (He.ga K c) m (spM K F) dvs (WE W) (tVar i) (tA K B W fa) σ H Q := by
  obtain ⟨e, G, ρ, rfl, S, h⟩ := h
  unfold mcallSM at h
  split at h
  · rename_i c' ns xs hx
    split at h
    · rename_i q
      obtain ⟨v, h1, a, dx, fs, rfl, h3, h4, h5, h6⟩ := S.rel _ _ hx
      refine ⟨_, h1, a, dx, fs, rfl, by rw [← q.1]; exact h3, noFld (by rw [h5]; exact q.2), e, G, ρ, rfl, S, (Cont.bind h).imp fun as ρ2 G2 H2 g2 S2 k2 vs ha => ?_⟩
      exact appM_imp (as := .mv i :: as) (vs := .ref a :: vs) (hdd G2) S2 ⟨_, _, rfl, h1, ha⟩ k2
    · exact h.elim
  · exact h.elim
end
theorem tNil_imp {K : PySem.W.Frag} {B : List Nat} {W : WX} {σ : L2.St} {H : Hp} {Q : List V → Hp → Prop} (h : tA K B W ldn σ H Q) : tNil σ H Q := by
  obtain ⟨e, G, ρ, rfl, S, h⟩ := h
  exact h G H (same_refl G) S [] rfl
section
variable {X : Cx} {B : List Nat} {W : WX} {k : Nat} {f : Addr} {fd : FuncData} {ps : List Str} {Fm : Fn} {ds : List Value} {dvs : List V} {dd : List D} {c m x : Str} {p pos apos : Pos} {o a : Expr} {es : List Expr} {fo : Ex D} {fa : Ex (List AV)} {pl : Sem Bool}
theorem dmeth (ho : DE X B W o fo) (hc : Cls X.K (He.ga X.K c)) (hm : Meth X.K (He.ga X.K c) m f) (F : FnOk X.prog X.w X.K X.mg X.base (L2.CX X.prog X.w) k f fd ps (spM X.K Fm)) (hr : Room k X.A) (hb : Binds X.K fd ps ds) (hd : Vals dvs ds) (hdd : ∀ G, Dns X.K G dd dvs) (tk : Takes X W) (ha : DA X B W (a :: es) fa)
    (hst : starEach (a :: es) X.env = (false, eval a X.env) :: starEach es X.env := by rfl) (hpl : (backTo pos (starEach es X.env)).any (·.1) = false := by rfl)
    (ht : eval (.Call (.Attribute o m apos) (a :: es) [] pos) X.env = (do
      let ov ← eval o X.env
      standAt apos.atName
      let (f, first) ← holding [ov] (getMethod ov m pl)
      callWith pos f first (backTo pos (starEach (a :: es) X.env)) (backToKw pos (keywordEach [] X.env))) := by rfl) : DE X B W (.Call (.Attribute o m apos) (a :: es) [] pos) (mcall c m Fm dd fo fa) :=
  pe_imp (pe_methSD ho hc hm F hr hb hd (fun σ => passAt tk σ) ha hst hpl ht) fun _ _ _ h => mcall_imp hdd h
theorem dmeth0 (ho : DE X B W o fo) (hc : Cls X.K (He.ga X.K c)) (hm : Meth X.K (He.ga X.K c) m f) (F : FnOk X.prog X.w X.K X.mg X.base (L2.CX X.prog X.w) k f fd ps (spM X.K Fm)) (hr : Room k X.A) (hb : Binds X.K fd ps ds) (hd : Vals dvs ds) (hdd : ∀ G, Dns X.K G dd dvs) (tk : Takes X W)
    (ht : eval (.Call (.Attribute o m apos) [] [] pos) X.env = (do
      let ov ← eval o X.env
      standAt apos.atName
      let (f, first) ← holding [ov] (getMethod ov m pl)
      callWith pos f first (backTo pos (starEach [] X.env)) (backToKw pos (keywordEach [] X.env))) := by rfl) : DE X B W (.Call (.Attribute o m apos) [] [] pos) (mcall c m Fm dd fo ldn) :=
  pe_imp (pe_methSD0 ho hc hm F hr hb hd (fun σ => passAt tk σ) ht) fun σ H Q h => by
    obtain ⟨e, G, ρ, e1, S, h⟩ := mcall_imp hdd h
    exact ⟨e, G, ρ, e1, S, h.imp fun d ρ1 G1 H1 g1 S1 k v hv => by
      obtain ⟨a, dx, fs, e2, h1, h2, h3⟩ := k v hv
      exact ⟨a, dx, fs, e2, h1, h2, tNil_imp h3⟩⟩
theorem dmethM (ho : DE X B W o fo) (hc : Cls X.K (He.ga X.K c)) (hm : Meth X.K (He.ga X.K c) m f) (F : FnOk X.prog X.w X.K X.mg X.base (L2.CX X.prog X.w) k f fd ps (spM X.K Fm)) (hr : Room k X.A) (hb : Binds X.K fd ps ds) (hd : Vals dvs ds) (hdd : ∀ G, Dns X.K G dd dvs) (tk : Takes X W) (ha : DA X B W (a :: es) fa)
    (hst : starEach (a :: es) X.env = (false, eval a X.env) :: starEach es X.env := by rfl) (hpl : (backTo pos (starEach es X.env)).any (·.1) = false := by rfl)
    (ht : eval (.Call (.Attribute o m apos) (a :: es) [] pos) X.env = (do
      let ov ← eval o X.env
      standAt apos.atName
      let (f, first) ← holding [ov] (getMethod ov m pl)
      callWith pos f first (backTo pos (starEach (a :: es) X.env)) (backToKw pos (keywordEach [] X.env))) := by rfl) : DM X B W (.Call (.Attribute o m apos) (a :: es) [] pos) (mcallM c m Fm dd fo fa) :=
  pe_imp (pe_methSD ho hc hm F hr hb hd (fun σ => passAt tk σ) ha hst hpl ht) fun _ _ _ h => mcallM_imp hdd h
section
variable {p2 : Pos}
theorem dmethS (i : Nat) (hc : Cls X.K (He.ga X.K c)) (hm : Meth X.K (He.ga X.K c) m f) (F : FnOk X.prog X.w X.K X.mg X.base (L2.CX X.prog X.w) k f fd ps (spM X.K Fm)) (hr : Room k X.A) (hb : Binds X.K fd ps ds) (hd : Vals dvs ds) (hdd : ∀ G, Dns X.K G dd dvs) (tk : Takes X W) (ha : DA X B W (a :: es) fa)
    (hN : X.N[i]? = some x := by rfl) (hv : Vis X.env.scope x := by first | exact Or.inl rfl | exact Or.inr (Or.inl rfl) | exact Or.inr (Or.inr rfl)) (hdb : (x == ("__debug__" : Str)) = false := by decide) (hcd : (x == ("__classdict__" : Str)) = false := by decide)
    (hst : starEach (a :: es) X.env = (false, eval a X.env) :: starEach es X.env := by rfl) (hpl : (backTo pos (starEach es X.env)).any (·.1) = false := by rfl)
    (ht : eval (.Call (.Attribute (.Name x p2) m apos) (a :: es) [] pos) X.env = (do
      let ov ← eval (.Name x p2) X.env
      standAt apos.atName
      let (f, first) ← holding [ov] (getMethod ov m pl)
      callWith pos f first (backTo pos (starEach (a :: es) X.env)) (backToKw pos (keywordEach [] X.env))) := by rfl) : DE X B W (.Call (.Attribute (.Name x p2) m apos) (a :: es) [] pos) (mcallS c m Fm dd i fa) :=
  pe_imp (pe_methSD (pe_var hN hv hdb hcd) hc hm F hr hb hd (fun σ => passAt tk σ) ha hst hpl ht) fun _ _ _ h => mcallS_imp hdd h
theorem dmethS0 (i : Nat) (hc : Cls X.K (He.ga X.K c)) (hm : Meth X.K (He.ga X.K c) m f) (F : FnOk X.prog X.w X.K X.mg X.base (L2.CX X.prog X.w) k f fd ps (spM X.K Fm)) (hr : Room k X.A) (hb : Binds X.K fd ps ds) (hd : Vals dvs ds) (hdd : ∀ G, Dns X.K G dd dvs) (tk : Takes X W)
    (hN : X.N[i]? = some x := by rfl) (hv : Vis X.env.scope x := by first | exact Or.inl rfl | exact Or.inr (Or.inl rfl) | exact Or.inr (Or.inr rfl)) (hdb : (x == ("__debug__" : Str)) = false := by decide) (hcd : (x == ("__classdict__" : Str)) = false := by decide)
    (ht : eval (.Call (.Attribute (.Name x p2) m apos) [] [] pos) X.env = (do
      let ov ← eval (.Name x p2) X.env
      standAt apos.atName
      let (f, first) ← holding [ov] (getMethod ov m pl)
      callWith pos f first (backTo pos (starEach [] X.env)) (backToKw pos (keywordEach [] X.env))) := by rfl) : DE X B W (.Call (.Attribute (.Name x p2) m apos) [] [] pos) (mcallS c m Fm dd i ldn) :=
  pe_imp (pe_methSD0 (pe_var hN hv hdb hcd) hc hm F hr hb hd (fun σ => passAt tk σ) ht) fun σ H Q h => by
    obtain ⟨v, e1, a, dx, fs, e2, h1, h2, h3⟩ := mcallS_imp hdd h
    exact ⟨v, e1, a, dx, fs, e2, h1, h2, tNil_imp h3⟩
end
end

/-! ### instances made -/
section
variable {K : PySem.W.Frag} {e : En} {G H : Hp} {σ : L2.St} {ρ : List Sl} {vs : List V}
/-- one slot more -/
theorem Sim.ext1 (S : Sim K e G H σ ρ) {s : Sl} {v : Option V} (hB : ρ.length ∉ e.B) (r : SlR K G H s v) (hm : ∀ a, mad s v = some a → e.H0 a = none ∧ ∀ (j : Nat) (t : Sl) (w : Option V), ρ[j]? = some t → σ[j]? = some w → mad t w ≠ some a) : Sim K e G H (σ ++ [v]) (ρ ++ [s]) := by
  have hl := S.len
  have sat : ∀ {j : Nat} {t : Sl}, (ρ ++ [s])[j]? = some t → (j < ρ.length ∧ ρ[j]? = some t) ∨ (j = ρ.length ∧ t = s) := fun {j t} h => by
    by_cases l : j < ρ.length
    · rw [List.getElem?_append_left l] at h
      exact .inl ⟨l, h⟩
    · rw [List.getElem?_append_right (by omega)] at h
      cases q : j - ρ.length with
      | zero =>
        rw [q] at h
        exact .inr ⟨by omega, (Option.some.inj h).symm⟩
      | succ n => rw [q] at h; simp at h
  have vat : ∀ {j : Nat} {w : Option V}, j < ρ.length → (σ ++ [v])[j]? = some w → σ[j]? = some w := fun {j w} l h => by rwa [List.getElem?_append_left (by omega)] at h
  have vatL : ∀ {w : Option V}, (σ ++ [v])[ρ.length]? = some w → w = v := fun {w} h => by
    rw [List.getElem?_append_right (by omega), hl, Nat.sub_self] at h
    exact (Option.some.inj h).symm
  refine ⟨S.ex, by simp [hl], fun j t h => ?_, fun i j t t' w w' a h1 h2 h3 h4 m1 m2 => ?_, fun i t w a h1 h2 m => ?_, S.keep, S.new, S.there, fun i hi => ?_⟩
  · rcases sat h with ⟨l, h⟩ | ⟨rfl, rfl⟩
    · obtain ⟨w, h1, h2⟩ := S.rel j t h
      exact ⟨w, by rw [List.getElem?_append_left (by omega)]; exact h1, h2⟩
    · refine ⟨v, ?_, r⟩
      rw [List.getElem?_append_right (by omega), hl, Nat.sub_self]
      rfl
  · rcases sat h1 with ⟨l1, p1⟩ | ⟨rfl, rfl⟩
    · rcases sat h2 with ⟨l2, p2⟩ | ⟨rfl, rfl⟩
      · exact S.sep i j t t' w w' a p1 p2 (vat l1 h3) (vat l2 h4) m1 m2
      · have e := vatL h4
        rw [e] at m2
        exact absurd m1 ((hm a m2).2 i t w p1 (vat l1 h3))
    · have e := vatL h3
      rw [e] at m1
      rcases sat h2 with ⟨l2, p2⟩ | ⟨rfl, rfl⟩
      · exact absurd m2 ((hm a m1).2 j t' w' p2 (vat l2 h4))
      · rfl
  · rcases sat h1 with ⟨l1, p1⟩ | ⟨rfl, rfl⟩
    · exact S.own i t w a p1 (vat l1 h2) m
    · have e := vatL h2
      rw [e] at m
      exact .inr ⟨hB, (hm a m).1⟩
  · by_cases l : i < ρ.length
    · rw [List.getElem?_append_left (by omega)]
      exact S.bs i hi
    · by_cases z : i = ρ.length
      · exact absurd hi (z ▸ hB)
      · have := S.bs i hi
        rw [List.getElem?_eq_none (by omega)] at this
        rw [List.getElem?_eq_none (by rw [List.length_append]; simp; omega)]
        exact this
/-- one slot less -/
theorem Sim.less1 {v : Option V} {ρ' : List Sl} (hl : ρ'.length = σ.length + 1) (hB : σ.length ∉ e.B) (S : Sim K e G H (σ ++ [v]) ρ') : Sim K e G H σ (ρ'.take σ.length) := by
  have sat : ∀ {j : Nat} {t : Sl}, (ρ'.take σ.length)[j]? = some t → j < σ.length ∧ ρ'[j]? = some t := fun {j t} h => by
    rw [List.getElem?_take] at h
    split at h
    · exact ⟨by assumption, h⟩
    · cases h
  have vat : ∀ {j : Nat}, j < σ.length → (σ ++ [v])[j]? = σ[j]? := fun {j} l => List.getElem?_append_left l
  refine ⟨S.ex, by rw [List.length_take]; omega, fun j t h => ?_, fun i j t t' w w' a h1 h2 h3 h4 m1 m2 => ?_, fun i t w a h1 h2 m => ?_, S.keep, S.new, S.there, fun i hi => ?_⟩
  · obtain ⟨l, h⟩ := sat h
    rw [← vat l]
    exact S.rel j t h
  · obtain ⟨l1, p1⟩ := sat h1
    obtain ⟨l2, p2⟩ := sat h2
    rw [← vat l1] at h3
    rw [← vat l2] at h4
    exact S.sep i j t t' w w' a p1 p2 h3 h4 m1 m2
  · obtain ⟨l1, p1⟩ := sat h1
    rw [← vat l1] at h2
    exact S.own i t w a p1 h2 m
  · by_cases l : i < σ.length
    · rw [← vat l]
      exact S.bs i hi
    · have := S.bs i hi
      by_cases z : i = σ.length
      · exact absurd hi (z ▸ hB)
      · rw [List.getElem?_eq_none (by rw [List.length_append]; simp; omega)] at this
        rw [List.getElem?_eq_none (by omega)]
        exact this
theorem Avs.ext {v : Option V} : ∀ {as : List AV} {vs : List V}, Avs K G σ as vs → Avs K G (σ ++ [v]) as vs
  | [], _, h => h
  | .dv x :: as, _, ⟨u, r, e, h1, h2⟩ => ⟨u, r, e, h1, Avs.ext h2⟩
  | .mv i :: as, _, ⟨u, r, e, h1, h2⟩ => ⟨u, r, e, by rw [List.getElem?_append_left (List.getElem?_eq_some_iff.mp h1).1]; exact h1, Avs.ext h2⟩
end
/-- C(..): __init__'s mirror F; the made instance is data -/
def mkI (B : List Nat) (c : Str) (F : Fn) (dd : List D) (fa : Ex (List AV)) : Ex D := fun ρ => (fa ρ).bind fun as ρ1 => if ρ1.length ∈ B then .bad else
  match appF F dd (fun d => match d with | .non => some () | _ => none) (fun _ => none) (.mv ρ1.length :: as) (ρ1 ++ [.o c [] []]) with
  | .ok _ ρ2 => (match ρ2[ρ1.length]? with
    | some (.o c' ns xs) => .ok (.ins c' ns xs) (ρ2.take ρ1.length)
    | _ => .bad)
  | .exc c' ns xs ρ2 => .exc c' ns xs (ρ2.take ρ1.length)
  | .bad => .bad
theorem mkI_imp {K : PySem.W.Frag} {B : List Nat} {W : WX} {c : Str} {F : Fn} {dd : List D} {dvs : List V} {fa : Ex (List AV)} (hdd : ∀ G, Dns K G dd dvs) {σ : L2.St} {H : Hp} {Q : VK} (h : tD K B W (mkI B c F dd fa) σ H Q) : tMakeSD (He.ga K c) (spM K F) dvs (WE W) (tA K B W fa) σ H Q := by
  obtain ⟨e, G, ρ, rfl, S, h⟩ := h
  refine ⟨e, G, ρ, rfl, S, (Cont.bind h).imp fun as ρ1 G1 H1 g1 S1 k vs ha x dx hx hdx ne => ?_⟩
  split at k
  · exact k.elim
  · rename_i nB
    have hl := S1.len
    have S2 := (S1.allocM (o := .own x) hdx).allocM (p := x) (o := .ins (He.ga K c) dx []) (by rw [upd_ne (Ne.symm ne)]; exact hx)
    have gx : G1 x = none := S1.freshG hx
    have S3 := S2.ext1 (s := .o c [] []) (v := some (.ref x)) nB ⟨x, dx, [], rfl, upd_same, gx, rfl, rfl⟩ fun a m => by
      have z : x = a := Option.some.inj m
      subst z
      refine ⟨S1.fresh0 hx, fun j t w h1 h2 m => ?_⟩
      obtain ⟨w', k1, k2⟩ := S1.rel j t h1
      rw [h2] at k1; cases k1
      obtain ⟨⟨o, ho⟩, _⟩ := k2.madH m
      rw [ho] at hx; cases hx
    have ha3 : Avs K G1 (σ ++ [some (.ref x)]) (.mv ρ1.length :: as) (.ref x :: vs) := ⟨_, _, rfl, by rw [List.getElem?_append_right (by omega), hl, Nat.sub_self]; rfl, ha.ext⟩
    generalize hap : appF F dd (fun d => match d with | .non => some () | _ => none) (fun _ => none) (.mv ρ1.length :: as) (ρ1 ++ [.o c [] []]) = out at k
    unfold appF at hap
    split at hap
    · rename_i cd
      obtain ⟨nd, hm⟩ := cd
      refine call_args S3 ha3 (hdd G1) nd hm ?_
      generalize F ((AV.mv ρ1.length :: as).map (avSl (ρ1 ++ [.o c [] []])) ++ dd.map Sl.d) = r at hap ⊢
      have after : ∀ {os : List Sl} {G' H' : Hp}, Aft K G1 (upd (upd H1 dx (.own x)) x (.ins (He.ga K c) dx [])) ((AV.mv ρ1.length :: as).map (avSl (ρ1 ++ [.o c [] []])) ++ dd.map Sl.d) (.ref x :: vs ++ dvs) os G' H' →
          Sim K e G' H' (σ ++ [some (.ref x)]) (putBack (.mv ρ1.length :: as) os (ρ1 ++ [.o c [] []])) ∧ Sim K e G' H' σ ((putBack (.mv ρ1.length :: as) os (ρ1 ++ [.o c [] []])).take ρ1.length) := fun {os G' H'} A => by
        have S4 := call_after S3 ha3 (hdd G1) nd hm A
        refine ⟨S4, ?_⟩
        have S5 := Sim.less1 (by rw [putBack_len, List.length_append, hl]; rfl) (by rw [hl]; exact nB) S4
        rw [hl] at S5
        exact S5
      cases r with
      | rt d os =>
        cases d with
        | non =>
          replace hap : Out.ok () (putBack (.mv ρ1.length :: as) os (ρ1 ++ [.o c [] []])) = out := hap
          subst hap
          refine fun G' H' v A hv => ⟨hv, ?_⟩
          obtain ⟨S4, S5⟩ := after A
          generalize putBack (.mv ρ1.length :: as) os (ρ1 ++ [.o c [] []]) = ρ2 at S4 S5 k
          replace k : Cont K e W σ G1 (match ρ2[ρ1.length]? with | some (.o c' ns xs) => .ok (.ins c' ns xs) (ρ2.take ρ1.length) | _ => .bad) (fun d _ G' H' => ∀ v, Dn K G' d v → Q v H') := k
          split at k
          · rename_i c' ns xs hz
            obtain ⟨u, k1, a, dx', fs, rfl, h3, h4, h5, h6⟩ := S4.rel _ _ hz
            rw [List.getElem?_append_right (by omega), hl, Nat.sub_self] at k1
            have e1 : x = a := V.ref.inj (Option.some.inj (Option.some.inj k1))
            subst e1
            have hd : Dn K (upd G' x (.ins (He.ga K c') dx' fs)) (.ins c' ns xs) (.ref x) := ⟨x, dx', fs, rfl, upd_same, h5, Dns.mono (same_new h4) _ _ h6⟩
            refine k _ H' (same_trans A.g (same_new h4)) (S5.freeze h3 h4 (S1.fresh0 hx) fun j t w p1 p2 m => ?_) _ hd
            have lt : j < σ.length := (List.getElem?_eq_some_iff.mp p2).1
            rw [List.getElem?_take] at p1
            split at p1
            · have := S4.sep j ρ1.length t _ w _ x p1 hz (by rw [List.getElem?_append_left lt]; exact p2) (by rw [List.getElem?_append_right (by omega), hl, Nat.sub_self]; rfl) m rfl
              omega
            · cases p1
          · exact k.elim
        | _ =>
          replace hap : Out.bad = out := hap
          subst hap
          exact k.elim
      | rm xs os =>
        replace hap : Out.bad = out := hap
        subst hap
        exact k.elim
      | exc c' ns xs os =>
        replace hap : Out.exc c' ns xs (putBack (.mv ρ1.length :: as) os (ρ1 ++ [.o c [] []])) = out := hap
        subst hap
        exact fun G' H' dd' gs A h1 h2 h3 => k G' H' dd' gs A.g (after A).2 h1 h2 h3
      | bad =>
        replace hap : Out.bad = out := hap
        subst hap
        exact k.elim
    · subst hap
      exact k.elim
section
variable {X : Cx} {B : List Nat} {W : WX} {k : Nat} {f : Addr} {fd : FuncData} {ps : List Str} {Fm : Fn} {ds : List Value} {dvs : List V} {dd : List D} {c x : Str} {p pos : Pos} {a : Expr} {es : List Expr} {fa : Ex (List AV)}
theorem dmk (M : Mk X.K (He.ga X.K c) f) (F : FnOk X.prog X.w X.K X.mg X.base (L2.CX X.prog X.w) k f fd ps (spM X.K Fm)) (hr : Room (k + 1) X.A) (hg : Gl X x) (hm : X.mg x = some (.ref (He.ga X.K c))) (hb : Binds X.K fd ps ds) (hd : Vals dvs ds) (hdd : ∀ G, Dns X.K G dd dvs) (tk : Takes X W) (ha : DA X B W (a :: es) fa)
    (hdb : (x == ("__debug__" : Str)) = false := by decide) (he : starEach (a :: es) X.env = (false, eval a X.env) :: starEach es X.env := by rfl) (hpl : (backTo pos (starEach es X.env)).any (·.1) = false := by rfl) : DE X B W (.Call (.Name x p) (a :: es) [] pos) (mkI B c Fm dd fa) :=
  pe_imp (pe_makeSD M F hr hg hm hb hd (fun σ => passAt tk σ) ha hdb he hpl) fun _ _ _ h => mkI_imp hdd h
end
end DL
end

section
set_option Elab.async false
set_option linter.all false
set_option maxRecDepth 100000
set_option maxHeartbeats 4000000
/-! Errors of one's own whose __init__ says super().__init__(..) first, then keeps its arguments. Own work. -/
namespace EX
open PySem PySem.W PySem.Calls PyProof.Rows PySem.HandSPX

/-- def __init__(self, f, ..) -/
def iArgs (ps : List (Str × Pos)) : Arguments := { posonlyargs := [], args := ps.map fun p => { arg := p.1, annotation := none, pos := p.2 }, vararg := none, kwonlyargs := [], kw_defaults := [], kwarg := none, defaults := [] }
/-- super().__init__(es) -/
def supS (p0 p1 ap p3 p4 : Pos) (es : List Expr) : Stmt := .Expr (.Call (.Attribute (.Call (.Name "super" p0) [] [] p1) "__init__" ap) es [] p3) p4
def keepS (f : Str) (q1 q2 q3 q4 : Pos) : Stmt := .Assign [.Attribute (.Name "self" q1) f q2] (.Name f q3) q4
/-- the call of super().__init__ stands on one line -/
def SupLine (p0 p1 ap p3 : Pos) (es : List Expr) : Prop := ∃ pl : Env → Sem Bool, ∀ env : Env, eval (.Call (.Attribute (.Call (.Name "super" p0) [] [] p1) "__init__" ap) es [] p3) env = (do
  let ov ← attributeBase (.Call (.Name "super" p0) [] [] p1) "__init__" env (eval (.Call (.Name "super" p0) [] [] p1) env)
  standAt ap.atName
  let (f', first) ← holding [ov] (getMethod ov "__init__" (pl env))
  callWith p3 f' first (backTo p3 (starEach es env)) [])
/-- what is told of the class C and its __init__ at fI -/
structure Err (prog : Program) (K : Frag) (C fI : Addr) (body : List Stmt) (flds : List Str) : Prop where
  ini : excInitIn K C veTail "ValueError.__new__" = true
  cd : ∃ cd, clsIn K C = some cd ∧ refsVE cd.mro = true ∧ cd.hasDict = true
  sup : ks_superIn K C C "__init__" = some (some (.builtin "ValueError.__init__"))
  own : mroIn K C (.ref C) = some true
  ve : subIn K (.ref C) (.type "ValueError") = some true
  th : nsIn K cStatics "thirdparty.any" = some none
  sa : findIn K (.ref C) "__setattr__" = some (some (.builtin "object.__setattr__"))
  noN : ∀ f ∈ flds, findIn K (.ref C) f = some none
  iC : findIn K (.ref C) "__init__" = some (some (.ref fI))
  tC : typeIn K (.ref fI) = some (.type "function")
  kC : keepIn K (.ref C) = true
  exC : subIn K (.ref C) (.type "BaseException") = some true
  tyC : typeIn K (.ref C) = some (.type "type")
  top : (prog.main.scope.names.lookup ("super" : Str)).isSome = false
  fn : ∃ (ps : List (Str × Pos)) (qual : Str) (scope : Scope) (oc : Value) (od : Option Addr) (doc pm : Value) (an : Option Addr) (cda : Addr) (ct : Value) (osl : Array (Option Value)) (cc : Addr)
      (ccl : Value) (cdd : Option Addr) (vs : Array Value) (ccs : Array (Option Value)) (file : Str) (tf : Tok) (cl : Value) (cld : Option Addr) (csl : Array (Option Value)),
    ps.map (·.1) = ("self" : Str) :: flds ∧ K.lookup fI = some ⟨oc, od, .func (ksFn "__init__" qual (iArgs ps) body scope .none .none doc pm an (.ref cda) ct cc), osl⟩ ∧ codeIn K (.ref cda) qual = true ∧ K.lookup cda = some ⟨ccl, cdd, .fields vs, ccs⟩ ∧ vs[2]? = some (.str file tf) ∧
      ((prog.main.file : Str) == file) = true ∧ K.lookup cc = some ⟨cl, cld, .cell (some (.ref C)), csl⟩ ∧ scope.names.lookup ("super" : Str) = some .globalImplicit ∧ scope.names.lookup ("__class__" : Str) = some .free ∧ (∀ f ∈ ("self" : Str) :: flds, scope.names.lookup f = some .local) ∧
      scope.kind = .function ∧ scope.isCoroutine = false ∧ scope.isGenerator = false ∧ (∀ x ∈ scope.names, x.2 ≠ .cell)
/-- what the walk leans on beside it -/
structure Base (mg : Str → Option Value) (h : Heap) : Prop where
  g : h.Ns mainGlobals mg
  b : ∃ mb, h.Ns builtinsNs mb ∧ mb "super" = some (.type "super")
  lim : h.NoLimit

section
variable {prog : Program} {w : World} {A : Around} {E : Value → Shared → Prop} {s : Shared} {K : Frag} {mg : Str → Option Value} {C fI : Addr} {h₀ : Heap} {L : Addr} {m : Str → Option Value}
theorem superCall {x t0 cc cda f : Addr} {body : List Stmt} {q : Str} {scope : Scope} {p0 p1 ap p3 p4 : Pos} {e1 : Expr} {er : List Expr} {us : List Value} {fd : FuncData} {ar : Arg} {oc ccl cl : Value} {od cdd cld : Option Addr} {osl ccs csl : Array (Option Value)} {vs : Array Value} {file : Str} {tf : Tok} {cdC : ClassData} {Q : Flow → Shared → Prop}
    (F : Fr h₀ L s.heap m) (X₀ : K.In h₀) (B : Base mg h₀) (hmg : mg "super" = none) (N : News h₀ L s.heap [(x, excObj C t0 none .none)])
    (hf : K.lookup f = some ⟨oc, od, .func fd, osl⟩) (hp : (fd.params.posonlyargs ++ fd.params.args).head? = some ar) (hv : m ar.arg = some (.ref x))
    (hcode : K.lookup cda = some ⟨ccl, cdd, .fields vs, ccs⟩) (hvs : vs[2]? = some (.str file tf)) (hfile : ((prog.main.file : Str) == file) = true)
    (hcell : K.lookup cc = some ⟨cl, cld, .cell (some (.ref C)), csl⟩) (hC : clsIn K C = some cdC) (hown : mroIn K C (.ref C) = some true)
    (hks : scope.names.lookup ("super" : Str) = some .globalImplicit) (hkc : scope.names.lookup ("__class__" : Str) = some .free) (hka : scope.names.lookup ar.arg = some .local) (hk : scope.kind = .function)
    (htop : (prog.main.scope.names.lookup ("super" : Str)).isSome = false) (th : nsIn K cStatics "thirdparty.any" = some none)
    (hm : ks_superIn K C C "__init__" = some (some (.builtin "ValueError.__init__"))) (hB : subIn K (.ref C) (.type "ValueError") = some true) (hi : excInitIn K C veTail "ValueError.__new__" = true) (hz : us.length ≤ sizeLine)
    (hargs : ∀ (news : List (Addr × Obj)) (s₁ : Shared) (Q : List Value → Shared → Prop), Fr h₀ L s₁.heap m → News h₀ L s₁.heap news → Q us s₁ → wpAny (model prog w) A (spliced (backTo p3 (starEach (e1 :: er) (ksEnv q scope L f (.ref cda) cc)))) Q E s₁)
    (hst : starEach (e1 :: er) (ksEnv q scope L f (.ref cda) cc) = (false, eval e1 (ksEnv q scope L f (.ref cda) cc)) :: starEach er (ksEnv q scope L f (.ref cda) cc)) (hes : (backTo p3 (starEach er (ksEnv q scope L f (.ref cda) cc))).any (·.1) = false)
    (hi2 : interactive (ksEnv q scope L f (.ref cda) cc) = false) (hsw : swapsWith (.Call (.Attribute (.Call (.Name "super" p0) [] [] p1) "__init__" ap) (e1 :: er) [] p3) none p4.line (ksEnv q scope L f (.ref cda) cc) = pure false)
    {pl : Sem Bool} (hev : eval (.Call (.Attribute (.Call (.Name "super" p0) [] [] p1) "__init__" ap) (e1 :: er) [] p3) (ksEnv q scope L f (.ref cda) cc) = (do
      let ov ← attributeBase (.Call (.Name "super" p0) [] [] p1) "__init__" (ksEnv q scope L f (.ref cda) cc) (eval (.Call (.Name "super" p0) [] [] p1) (ksEnv q scope L f (.ref cda) cc))
      standAt ap.atName
      let (f', first) ← holding [ov] (getMethod ov "__init__" pl)
      callWith p3 f' first (backTo p3 (starEach (e1 :: er) (ksEnv q scope L f (.ref cda) cc))) []))
    (h : ∀ t' h' tk, Fr h₀ L h' m → News h₀ L h' [(x, excObj C t' none .none)] → Q .next { s with heap := h', toks := tk }) :
    _root_.PySem.wpAt (model prog w) A (.func body (ksEnv q scope L f (.ref cda) cc)) (exec (supS p0 p1 ap p3 p4 (e1 :: er)) (ksEnv q scope L f (.ref cda) cc)) Q E s := by
  have X : K.In s.heap := X₀.keeps F.keep
  obtain ⟨hh, g, d, t, os⟩ := s
  obtain ⟨oD, hD1, hD2⟩ : ∃ oD, hh.get? C = some oD ∧ oD.data = .cls cdC := by
    unfold clsIn at hC
    split at hC
    · rename_i c d cd' sl ho
      cases hC
      exact ⟨_, X _ _ ho, rfl⟩
    · cases hC
  obtain ⟨mb, hb1, hb2⟩ := B.b
  have hx := (N (x, excObj C t0 none .none) (by simp)).1
  unfold supS
  refine ks_wpAt_Expr_any (ks_wpAt_MethodCall (pl := pl) ?_ hev) hi2 hsw
  refine ks_wpAt_super_base (env := ksEnv q scope L f (.ref cda) cc) hks hkc rfl rfl (X _ _ hf) rfl hp rfl (X _ _ hcode) rfl hvs hfile htop ?_
  refine ks_loadName_global hk hks (loadGlobal_builtin (env := ksEnv q scope L f (.ref cda) cc) (B.g.keeps F.keep) hmg (hb1.keeps F.keep) hb2 ⟨rfl, ?_⟩)
  refine wpAny_loadName_free hk hkc rfl ⟨_, X _ _ hcell, rfl⟩ ?_
  refine wpAny_loadName_local hk hka F.ns hv ?_
  refine ks_wpAny_isType_cls hD1 hD2 ⟨rfl, ?_⟩
  refine ks_wpAny_call_super hD1 hD2 hx rfl (fun c e => by cases e) (looks_mroIn X hown) (fun h' e k => ?_)
  obtain ⟨F1, N1, l1⟩ := ks_newsPush (s := ⟨hh, g, d, t, os⟩) F N rfl e k
  refine kxs_method kxs_ValueError F1 X₀ N1 (.head _) (InstAt.of_exc0 N1 (.tail _ (.head _))) th hm hB rfl fun u h2 F2 N2 l2 => ?_
  refine kxs_callWith1 N2 (.head _) ?_ hst hes
  refine hargs _ _ _ F2 N2 ⟨kxs_at N2 (.head _), ?_⟩
  have ne1 : x ≠ u := Nat.ne_of_lt (l2 _ (.tail _ (.head _)))
  have ne2 : x ≠ hh.objs.size := Nat.ne_of_lt (l1 _ (.head _))
  refine kxs_call F2 X₀ N2 PySem.F.excBase_ValueError hi (.head _) (.tail (Ne.symm ne1) (.tail (Ne.symm ne2) (.head (fun _ z => nomatch z)))) hz fun t' h3 F3 N3 _ => ?_
  exact h t' h3 _ F3 fun p hp => N3 p (by
    cases List.mem_singleton.mp hp
    exact .tail _ (.tail _ (.tail _ (.head _))))
/-- what __init__ leaves: the object x, its own dict dx -/
structure IEnd (h h' : Heap) (x C dx t1 : Addr) (m : Str → Option Value) : Prop where
  keep : ∀ b o, h.get? b = some o → h'.get? b = some o
  obj : h'.get? x = some { cls := .ref C, dict := some dx, data := .fields #[.ref t1, .none, .none, .none, .bool false, .none] }
  dbig : h.objs.size ≤ dx
  dne : dx ≠ x
  ns : h'.Ns1 dx m
theorem ldN {env : Env} {m : Str → Option Value} {x : Str} {pos : Pos} {v : Value} {M : Model} {Q : Value → Shared → Prop} (hn : s.heap.Ns env.locals m) (hv : m x = some v) (hk : env.scope.kind = .function) (hl : env.kindOf x = some .local) (hd : (x == ("__debug__" : Str)) = false) (h : Q v s) :
    wpAny M A (eval (.Name x pos) env) Q E s := wpAny_Name (wpAny_loadName_local hk hl hn hv h) hd
/-- how __init__'s arguments are bound, by place -/
def Bnd (fs : List Str) : Prop := ∀ (s : Shared) (ps : List (Str × Pos)) (qual : Str) (body : List Stmt) (scope : Scope) (doc pm cdv ct : Value) (an : Option Addr) (cc : Addr) (a : Value) (vs : List Value), ps.map (·.1) = ("self" : Str) :: fs → vs.length = fs.length →
  BindsTo s (ksFn "__init__" qual (iArgs ps) body scope .none .none doc pm an cdv ct cc) ⟨a :: vs, []⟩ (("self", a) :: fs.zip vs)
theorem bnd_value : Bnd ["value"] := by
  intro s ps qual body scope doc pm cdv ct an cc a vs h hl
  match ps, vs, h, hl with
  | [(n1, p1), (n2, p2)], [b], h, _ =>
    simp only [List.map_cons, List.map_nil, List.cons.injEq, and_true] at h
    obtain ⟨rfl, rfl⟩ := h
    exact BindsTo.of_eq (by first | rfl | with_unfolding_all rfl)
theorem bnd_what : Bnd ["what"] := by
  intro s ps qual body scope doc pm cdv ct an cc a vs h hl
  match ps, vs, h, hl with
  | [(n1, p1), (n2, p2)], [b], h, _ =>
    simp only [List.map_cons, List.map_nil, List.cons.injEq, and_true] at h
    obtain ⟨rfl, rfl⟩ := h
    exact BindsTo.of_eq (by first | rfl | with_unfolding_all rfl)
theorem bnd_word : Bnd ["word"] := by
  intro s ps qual body scope doc pm cdv ct an cc a vs h hl
  match ps, vs, h, hl with
  | [(n1, p1), (n2, p2)], [b], h, _ =>
    simp only [List.map_cons, List.map_nil, List.cons.injEq, and_true] at h
    obtain ⟨rfl, rfl⟩ := h
    exact BindsTo.of_eq (by first | rfl | with_unfolding_all rfl)
theorem bnd_part : Bnd ["part", "place"] := by
  intro s ps qual body scope doc pm cdv ct an cc a vs h hl
  match ps, vs, h, hl with
  | [(n1, p1), (n2, p2), (n3, p3)], [b, c], h, _ =>
    simp only [List.map_cons, List.map_nil, List.cons.injEq, and_true] at h
    obtain ⟨rfl, rfl, rfl⟩ := h
    exact BindsTo.of_eq (by first | rfl | with_unfolding_all rfl)
theorem bnd_text : Bnd ["text", "at"] := by
  intro s ps qual body scope doc pm cdv ct an cc a vs h hl
  match ps, vs, h, hl with
  | [(n1, p1), (n2, p2), (n3, p3)], [b, c], h, _ =>
    simp only [List.map_cons, List.map_nil, List.cons.injEq, and_true] at h
    obtain ⟨rfl, rfl, rfl⟩ := h
    exact BindsTo.of_eq (by first | rfl | with_unfolding_all rfl)
theorem bnd_line : Bnd ["line", "at"] := by
  intro s ps qual body scope doc pm cdv ct an cc a vs h hl
  match ps, vs, h, hl with
  | [(n1, p1), (n2, p2), (n3, p3)], [b, c], h, _ =>
    simp only [List.map_cons, List.map_nil, List.cons.injEq, and_true] at h
    obtain ⟨rfl, rfl, rfl⟩ := h
    exact BindsTo.of_eq (by first | rfl | with_unfolding_all rfl)
/-- one field -/
theorem init1 {x t0 : Addr} {f : Str} {v : Value} {p0 p1 ap p2 p3 p4 q1 q2 q3 q4 : Pos} {R : Result → Shared → Prop} (T : Err prog K C fI [supS p0 p1 ap p3 p4 [.Name f p2], keepS f q1 q2 q3 q4] [f]) (hln : SupLine p0 p1 ap p3 [.Name f p2]) (hbn : Bnd [f]) (hfs : (f == ("self" : Str)) = false) (hdb : (f == ("__debug__" : Str)) = false)
    (k₀ : ∀ b o, h₀.get? b = some o → s.heap.get? b = some o) (hx0 : h₀.get? x = none) (hsz : h₀.objs.size ≤ s.heap.objs.size) (X₀ : K.In h₀) (B : Base mg h₀) (hlim : s.heap.NoLimit) (hmg : mg "super" = none) (hx : s.heap.get? x = some (excO C t0)) (hroom : A.depth < recursionLimit)
    (hq : ∀ h' tk dx t1, IEnd h₀ h' x C dx t1 (fun y => if y = f then some v else none) → R (.ok (.ret .none)) { s with heap := h', toks := tk }) :
    codeAny (model prog w) A (.call (.ref fI) ⟨[.ref x, v], []⟩) R s := by
  obtain ⟨ps, qual, scope, oc, od, doc, pm, an, cda, ct, osl, cc, ccl, cdd, vs, ccs, file, tf, cl, cld, csl, hps, lk, hcd, hcode, hvs, hfile, hcell, hks, hkc, hlo, hk, hco, hgen, hncell⟩ := T.fn
  obtain ⟨cd, hC, hmro, hdict⟩ := T.cd
  have X : K.In s.heap := X₀.keeps k₀
  obtain ⟨pl, hev⟩ := hln
  have lself : scope.names.lookup ("self" : Str) = some .local := hlo _ (.head _)
  have lf : scope.names.lookup f = some .local := hlo _ (.tail _ (.head _))
  refine ks_codeAny_call_defAt (fd := ksFn "__init__" qual (iArgs ps) _ scope .none .none doc pm an (.ref cda) ct cc) (binds := [("self", .ref x), (f, v)]) hroom (X _ _ lk) rfl hlim (codeRec_of X hcd) rfl (hbn s ps _ _ _ _ _ _ _ _ _ _ [v] hps rfl) hncell (fun y hy => ?_) (fun h₁ hns hk₁ => ?_) hco hgen hk
  · rcases List.mem_cons.mp hy with rfl | hy
    · exact lself
    · cases List.mem_singleton.mp hy
      exact lf
  have hvs1 : ([("self", .ref x), (f, v)] : List (Str × Value)).reverse.lookup ("self" : Str) = some (.ref x) := by
    have e : (("self" : Str) == f) = false := by
      rw [Bool.beq_comm]
      exact hfs
    show ([(f, v), ("self", .ref x)] : List (Str × Value)).lookup ("self" : Str) = _
    rw [List.lookup_cons, e]
    rfl
  have hvf : ([("self", .ref x), (f, v)] : List (Str × Value)).reverse.lookup f = some v := by
    show ([(f, v), ("self", .ref x)] : List (Str × Value)).lookup f = _
    rw [List.lookup_cons, beq_self_eq_true]
  have F1 : Fr h₀ s.heap.objs.size h₁ (fun y => ([("self", .ref x), (f, v)] : List (Str × Value)).reverse.lookup y) := ⟨hns, fun b o e => hk₁ b o (k₀ b o e), hsz⟩
  have N1 : News h₀ s.heap.objs.size h₁ [(x, excObj C t0 none .none)] := fun p hp => by
    cases List.mem_singleton.mp hp
    exact ⟨hk₁ _ _ hx, Nat.ne_of_lt (Heap.lt_size hx), hx0⟩
  have hne : ps ≠ [] := fun z => by rw [z] at hps; cases hps
  obtain ⟨p, pr, rfl⟩ := List.exists_cons_of_ne_nil hne
  have hp1 : p.1 = "self" := (List.cons.inj hps).1
  refine ks_wpAt_execs_cons (superCall (s := ⟨h₁, s.gens, s.drawn, s.toks + 2, s.os⟩) (us := [v]) (pl := pl (ksEnv qual scope s.heap.objs.size fI (.ref cda) cc)) (ar := { arg := p.1, annotation := none, pos := p.2 }) F1 X₀ B hmg N1 lk rfl (by rw [hp1]; exact hvs1) hcode hvs hfile hcell hC T.own hks hkc (by rw [hp1]; exact lself) hk T.top T.th T.sup T.ve T.ini (by rw [sizeLine_eq]; show 1 ≤ 16777216; decide) (fun news s₁ Q F N q => ?args) ?st ?es ?i2 ?sw ?hev fun t' h' tk F' N' => ?rest)
  case hev => exact hev _
  case args => exact spliced_cons (ldN (env := ksEnv qual scope s.heap.objs.size fI (.ref cda) cc) F.ns hvf hk lf hdb (spliced_nil q))
  case st => rfl
  case es => rfl
  case i2 =>
    show (scope.kind == .module && _) = false
    rw [hk]
    rfl
  case sw => rfl
  case rest =>
    have hx1 := (N' (x, excObj C t' none .none) (by simp)).1
    have X1 : K.In h' := X₀.keeps F'.keep
    have xL : s.heap.objs.size ≠ x := fun z => (N' (x, excObj C t' none .none) (by simp)).2.1 z.symm
    refine wpAt_of_wpAny (wpAny_execs_cons (plainObj_wpAny_Assign_Attribute ?_))
    refine ldN (env := ksEnv qual scope s.heap.objs.size fI (.ref cda) cc) F'.ns hvf hk lf hdb (ldN (env := ksEnv qual scope s.heap.objs.size fI (.ref cda) cc) F'.ns hvs1 hk lself rfl ?_)
    refine set_plain X1 (ox := excO C t') (od := none) ⟨hx1, rfl, rfl, trivial⟩ T.sa ?_
    refine exc_osa X1 hx1 hC hmro hdict (T.noN f (.head _)) (fun h₃ tk₃ dx k₃ dn dne hx₃ hn₃ => ?_)
    refine wpAny_execs_nil (hq h₃ tk₃ dx t' ⟨fun b o e => k₃ b o (fun z => by rw [z, hx0] at e; cases e) (F'.keep b o e), hx₃, ?_, dne, hn₃⟩)
    exact Nat.le_trans hsz (Nat.le_of_lt (Nat.lt_of_lt_of_le F'.ns.lt dn))
/-- two fields -/
theorem init2 {x t0 : Addr} {f f2 : Str} {v v2 : Value} {p0 p1 ap p2 p5 p3 p4 q1 q2 q3 q4 r1 r2 r3 r4 : Pos} {R : Result → Shared → Prop} (T : Err prog K C fI [supS p0 p1 ap p3 p4 [.Name f p2, .Name f2 p5], keepS f q1 q2 q3 q4, keepS f2 r1 r2 r3 r4] [f, f2]) (hln : SupLine p0 p1 ap p3 [.Name f p2, .Name f2 p5]) (hbn : Bnd [f, f2])
    (hfs : (f == ("self" : Str)) = false) (hfs2 : (f2 == ("self" : Str)) = false) (hff : (f == f2) = false) (hdb : (f == ("__debug__" : Str)) = false) (hdb2 : (f2 == ("__debug__" : Str)) = false)
    (k₀ : ∀ b o, h₀.get? b = some o → s.heap.get? b = some o) (hx0 : h₀.get? x = none) (hsz : h₀.objs.size ≤ s.heap.objs.size) (X₀ : K.In h₀) (B : Base mg h₀) (hlim : s.heap.NoLimit) (hmg : mg "super" = none) (hx : s.heap.get? x = some (excO C t0)) (hroom : A.depth < recursionLimit)
    (hq : ∀ h' tk dx t1, IEnd h₀ h' x C dx t1 (fun y => if y = f2 then some v2 else if y = f then some v else none) → R (.ok (.ret .none)) { s with heap := h', toks := tk }) :
    codeAny (model prog w) A (.call (.ref fI) ⟨[.ref x, v, v2], []⟩) R s := by
  obtain ⟨ps, qual, scope, oc, od, doc, pm, an, cda, ct, osl, cc, ccl, cdd, vs, ccs, file, tf, cl, cld, csl, hps, lk, hcd, hcode, hvs, hfile, hcell, hks, hkc, hlo, hk, hco, hgen, hncell⟩ := T.fn
  obtain ⟨cd, hC, hmro, hdict⟩ := T.cd
  have X : K.In s.heap := X₀.keeps k₀
  obtain ⟨pl, hev⟩ := hln
  have lself : scope.names.lookup ("self" : Str) = some .local := hlo _ (.head _)
  have lf : scope.names.lookup f = some .local := hlo _ (.tail _ (.head _))
  have lf2 : scope.names.lookup f2 = some .local := hlo _ (.tail _ (.tail _ (.head _)))
  refine ks_codeAny_call_defAt (fd := ksFn "__init__" qual (iArgs ps) _ scope .none .none doc pm an (.ref cda) ct cc) (binds := [("self", .ref x), (f, v), (f2, v2)]) hroom (X _ _ lk) rfl hlim (codeRec_of X hcd) rfl (hbn s ps _ _ _ _ _ _ _ _ _ _ [v, v2] hps rfl) hncell (fun y hy => ?_) (fun h₁ hns hk₁ => ?_) hco hgen hk
  · rcases List.mem_cons.mp hy with rfl | hy
    · exact lself
    · rcases List.mem_cons.mp hy with rfl | hy
      · exact lf
      · cases List.mem_singleton.mp hy
        exact lf2
  have sw : ∀ {a b : Str}, (a == b) = false → (b == a) = false := fun {a b} z => by
    rw [Bool.beq_comm]
    exact z
  have hvs1 : ([("self", .ref x), (f, v), (f2, v2)] : List (Str × Value)).reverse.lookup ("self" : Str) = some (.ref x) := by
    show ([(f2, v2), (f, v), ("self", .ref x)] : List (Str × Value)).lookup ("self" : Str) = _
    rw [List.lookup_cons, sw hfs2, List.lookup_cons, sw hfs]
    rfl
  have hvf : ([("self", .ref x), (f, v), (f2, v2)] : List (Str × Value)).reverse.lookup f = some v := by
    show ([(f2, v2), (f, v), ("self", .ref x)] : List (Str × Value)).lookup f = _
    rw [List.lookup_cons, hff, List.lookup_cons, beq_self_eq_true]
  have hvf2 : ([("self", .ref x), (f, v), (f2, v2)] : List (Str × Value)).reverse.lookup f2 = some v2 := by
    show ([(f2, v2), (f, v), ("self", .ref x)] : List (Str × Value)).lookup f2 = _
    rw [List.lookup_cons, beq_self_eq_true]
  have F1 : Fr h₀ s.heap.objs.size h₁ (fun y => ([("self", .ref x), (f, v), (f2, v2)] : List (Str × Value)).reverse.lookup y) := ⟨hns, fun b o e => hk₁ b o (k₀ b o e), hsz⟩
  have N1 : News h₀ s.heap.objs.size h₁ [(x, excObj C t0 none .none)] := fun p hp => by
    cases List.mem_singleton.mp hp
    exact ⟨hk₁ _ _ hx, Nat.ne_of_lt (Heap.lt_size hx), hx0⟩
  have hne : ps ≠ [] := fun z => by rw [z] at hps; cases hps
  obtain ⟨p, pr, rfl⟩ := List.exists_cons_of_ne_nil hne
  have hp1 : p.1 = "self" := (List.cons.inj hps).1
  refine ks_wpAt_execs_cons (superCall (s := ⟨h₁, s.gens, s.drawn, s.toks + 3, s.os⟩) (us := [v, v2]) (pl := pl (ksEnv qual scope s.heap.objs.size fI (.ref cda) cc)) (ar := { arg := p.1, annotation := none, pos := p.2 }) F1 X₀ B hmg N1 lk rfl (by rw [hp1]; exact hvs1) hcode hvs hfile hcell hC T.own hks hkc (by rw [hp1]; exact lself) hk T.top T.th T.sup T.ve T.ini (by rw [sizeLine_eq]; show 2 ≤ 16777216; decide) (fun news s₁ Q F N q => ?args) ?st ?es ?i2 ?sw ?hev fun t' h' tk F' N' => ?rest)
  case hev => exact hev _
  case args => exact spliced_cons (ldN (env := ksEnv qual scope s.heap.objs.size fI (.ref cda) cc) F.ns hvf hk lf hdb (spliced_cons (ldN (env := ksEnv qual scope s.heap.objs.size fI (.ref cda) cc) F.ns hvf2 hk lf2 hdb2 (spliced_nil q))))
  case st => rfl
  case es => rfl
  case i2 =>
    show (scope.kind == .module && _) = false
    rw [hk]
    rfl
  case sw => rfl
  case rest =>
    have hx1 := (N' (x, excObj C t' none .none) (by simp)).1
    have X1 : K.In h' := X₀.keeps F'.keep
    have xL : s.heap.objs.size ≠ x := fun z => (N' (x, excObj C t' none .none) (by simp)).2.1 z.symm
    refine wpAt_of_wpAny (wpAny_execs_cons (plainObj_wpAny_Assign_Attribute ?_))
    refine ldN (env := ksEnv qual scope s.heap.objs.size fI (.ref cda) cc) F'.ns hvf hk lf hdb (ldN (env := ksEnv qual scope s.heap.objs.size fI (.ref cda) cc) F'.ns hvs1 hk lself rfl ?_)
    refine set_plain X1 (ox := excO C t') (od := none) ⟨hx1, rfl, rfl, trivial⟩ T.sa ?_
    refine exc_osa X1 hx1 hC hmro hdict (T.noN f (.head _)) (fun h₃ tk₃ dx k₃ dn dne hx₃ hn₃ => ?_)
    have hsz1 : s.heap.objs.size < h'.objs.size := F'.ns.lt
    have F3 : Fr h₀ s.heap.objs.size h₃ (fun y => ([("self", .ref x), (f, v), (f2, v2)] : List (Str × Value)).reverse.lookup y) := by
      obtain ⟨oL, es, ep, hL, r⟩ := F'.ns
      exact ⟨⟨oL, es, ep, k₃ _ _ xL hL, r⟩, fun b o e => k₃ b o (fun z => by rw [z, hx0] at e; cases e) (F'.keep b o e), F'.above⟩
    have X3 : K.In h₃ := X₀.keeps F3.keep
    have dL : s.heap.objs.size ≠ dx := Nat.ne_of_lt (Nat.lt_of_lt_of_le hsz1 dn)
    show wpAny _ _ (execs _ _) _ _ _
    refine wpAny_execs_cons (plainObj_wpAny_Assign_Attribute ?_)
    refine ldN (env := ksEnv qual scope s.heap.objs.size fI (.ref cda) cc) F3.ns hvf2 hk lf2 hdb2 (ldN (env := ksEnv qual scope s.heap.objs.size fI (.ref cda) cc) F3.ns hvs1 hk lself rfl ?_)
    obtain ⟨oD, esD, epD, hoD, hdD, _⟩ := hn₃.count (Within.cons f v Within.nil)
    refine set_plain X3 (ox := { cls := .ref C, dict := some dx, data := .fields #[.ref t', .none, .none, .none, .bool false, .none] }) (od := some oD) ⟨hx₃, rfl, rfl, hoD⟩ T.sa ?_
    refine OEX.osa_old X3 hx₃ hn₃ (Within.cons f v Within.nil) (by show 1 ≤ 1000; decide) hC hmro hdict (T.noN f2 (.tail _ (.head _))) (fun h₄ tk₄ k₄ hn₄ => ?_)
    show wpAny _ _ (execs _ _) _ _ _
    have dz : h₀.objs.size ≤ dx := Nat.le_trans hsz (Nat.le_of_lt (Nat.lt_of_lt_of_le hsz1 dn))
    refine wpAny_execs_nil (hq h₄ tk₄ dx t' ⟨fun b o e => k₄ b o (fun z => ?_) (F3.keep b o e), k₄ _ _ (Ne.symm dne) hx₃, dz, dne, hn₄⟩)
    rw [z] at e
    exact Nat.lt_irrefl _ (Nat.lt_of_lt_of_le (Heap.lt_size e) dz)
end
/-- a made error: the object e, its own dict d -/
structure EMade (h h' : Heap) (e C d : Addr) (m : Str → Option Value) : Prop where
  keep : ∀ b o, h.get? b = some o → h'.get? b = some o
  new : h.objs.size ≤ e
  obj : ∃ oe vs, h'.get? e = some oe ∧ oe.cls = .ref C ∧ oe.dict = some d ∧ oe.data = .fields vs ∧ vs[1]? = some .none
  dbig : h.objs.size ≤ d
  dne : d ≠ e
  ns : h'.Ns1 d m
section
variable {prog : Program} {w : World} {A : Around} {s : Shared} {K : Frag} {mg : Str → Option Value} {C fI : Addr}
theorem made_by {body : List Stmt} {flds : List Str} {us : List Value} {m : Str → Option Value} {R : Result → Shared → Prop} (T : Err prog K C fI body flds) (X : K.In s.heap) (B : Base mg s.heap) (hus : us.length ≤ sizeLine)
    (hin : ∀ (s₁ : Shared) (x t0 : Addr) (A₁ : Around) (R₁ : Result → Shared → Prop), A₁.depth = A.depth + 1 → (∀ b o, s.heap.get? b = some o → s₁.heap.get? b = some o) → s.heap.get? x = none → s.heap.objs.size ≤ s₁.heap.objs.size → s₁.heap.NoLimit → s₁.heap.get? x = some (excO C t0) →
      (∀ h' tk dx t1, IEnd s.heap h' x C dx t1 m → R₁ (.ok (.ret .none)) { s₁ with heap := h', toks := tk }) → codeAny (model prog w) A₁ (.call (.ref fI) ⟨.ref x :: us, []⟩) R₁ s₁)
    (hq : ∀ h' tk e d, EMade s.heap h' e C d m → R (.ok (.ret (.ref e))) { s with heap := h', toks := tk }) : codeAny (model prog w) A (.call (.ref C) ⟨us, []⟩) R s := by
  obtain ⟨nm, N, qn, bs, bm, hdct, sn, sub, ab, col, dd, k0, k1, k2, k3, k5, hC, hT⟩ := excInit_of X T.ini
  obtain ⟨hp, g, dr, tk, os⟩ := s
  have k : ∀ b o, hp.get? b = some o → ((hp.push (kdv_tup us)).push (excO C hp.objs.size)).get? b = some o := fun b o e => Heap.get?_push_of_some _ (Heap.get?_push_of_some _ e)
  have hget : ((hp.push (kdv_tup us)).push (excO C hp.objs.size)).get? (hp.objs.size + 1) = some (excO C hp.objs.size) := by heap_get
  have hx0 : hp.get? (hp.objs.size + 1) = none := by
    cases e : hp.get? (hp.objs.size + 1) with
    | none => rfl
    | some o => exact absurd (Nat.lt_of_succ_lt (Heap.lt_size e)) (Nat.lt_irrefl _)
  have hsz : hp.objs.size ≤ ((hp.push (kdv_tup us)).push (excO C hp.objs.size)).objs.size := by
    rw [Heap.size_push, Heap.size_push]
    omega
  refine call_own PySem.F.excBase_ValueError hT hC (looks_findIn X T.iC) (fun self => bind_fn X self T.tC) hus ?_
  refine hin ⟨(hp.push (kdv_tup us)).push (excO C hp.objs.size), g, dr, tk, os⟩ _ _ _ _ rfl k hx0 hsz (B.lim.keeps k) hget fun h' tk' dx t1 I => ?_
  exact ⟨rfl, hq h' tk' (hp.objs.size + 1) dx ⟨I.keep, Nat.le_succ _, ⟨_, _, I.obj, rfl, rfl, rfl, rfl⟩, I.dbig, I.dne, I.ns⟩⟩
end
end EX
end

section
set_option Elab.async false
set_option linter.all false
set_option maxRecDepth 100000
set_option maxHeartbeats 4000000
namespace EX
open PySem PySem.W PySem.Calls PyProof.Rows PySem.HandSPX
/-- C(..) gives an error that keeps its arguments under the names fs -/
def Makes (prog : Program) (w : World) (K : Frag) (mg : Str → Option Value) (C : Addr) (fs : List Str) : Prop := ∀ (A : Around) (s : Shared) (us : List Value) (R : Result → Shared → Prop), us.length = fs.length → K.In s.heap → Base mg s.heap → A.depth + 1 < recursionLimit →
  (∀ h' tk e d m, EMade s.heap h' e C d m → (∀ y, m y = (fs.zip us).lookup y) → R (.ok (.ret (.ref e))) { s with heap := h', toks := tk }) → codeAny (model prog w) A (.call (.ref C) ⟨us, []⟩) R s
section
variable {prog : Program} {w : World} {K : Frag} {mg : Str → Option Value} {C fI : Addr}
theorem makes1 {f : Str} {p0 p1 ap p2 p3 p4 q1 q2 q3 q4 : Pos} (T : Err prog K C fI [supS p0 p1 ap p3 p4 [.Name f p2], keepS f q1 q2 q3 q4] [f]) (hmg : mg "super" = none) (hln : SupLine p0 p1 ap p3 [.Name f p2]) (hbn : Bnd [f]) (hfs : (f == ("self" : Str)) = false) (hdb : (f == ("__debug__" : Str)) = false) : Makes prog w K mg C [f] := by
  intro A s us R hl X B hr hq
  match us, hl with
  | [v], _ =>
    refine made_by (m := fun y => if y = f then some v else none) T X B (by rw [sizeLine_eq]; show 1 ≤ 16777216; decide) (fun s₁ x t0 A₁ R₁ hA k hx0 hsz hlim hx hq1 => ?_) fun h' tk e d M => hq h' tk e d _ M fun y => ?_
    · exact init1 T hln hbn hfs hdb k hx0 hsz X B hlim hmg hx (by rw [hA]; exact hr) hq1
    · show _ = List.lookup y [(f, v)]
      rw [List.lookup_cons]
      by_cases q : y = f
      · rw [if_pos q, q, beq_self_eq_true]
      · rw [if_neg q, beq_eq_false_iff_ne.mpr q]
        rfl
theorem makes2 {f f2 : Str} {p0 p1 ap p2 p5 p3 p4 q1 q2 q3 q4 r1 r2 r3 r4 : Pos} (T : Err prog K C fI [supS p0 p1 ap p3 p4 [.Name f p2, .Name f2 p5], keepS f q1 q2 q3 q4, keepS f2 r1 r2 r3 r4] [f, f2]) (hmg : mg "super" = none) (hln : SupLine p0 p1 ap p3 [.Name f p2, .Name f2 p5]) (hbn : Bnd [f, f2])
    (hfs : (f == ("self" : Str)) = false) (hfs2 : (f2 == ("self" : Str)) = false) (hff : (f == f2) = false) (hdb : (f == ("__debug__" : Str)) = false) (hdb2 : (f2 == ("__debug__" : Str)) = false) : Makes prog w K mg C [f, f2] := by
  intro A s us R hl X B hr hq
  match us, hl with
  | [v, v2], _ =>
    refine made_by (m := fun y => if y = f2 then some v2 else if y = f then some v else none) T X B (by rw [sizeLine_eq]; show 2 ≤ 16777216; decide) (fun s₁ x t0 A₁ R₁ hA k hx0 hsz hlim hx hq1 => ?_) fun h' tk e d M => hq h' tk e d _ M fun y => ?_
    · exact init2 T hln hbn hfs hfs2 hff hdb hdb2 k hx0 hsz X B hlim hmg hx (by rw [hA]; exact hr) hq1
    · show _ = List.lookup y [(f, v), (f2, v2)]
      have nff : f ≠ f2 := beq_eq_false_iff_ne.mp hff
      rw [List.lookup_cons, List.lookup_cons]
      by_cases q : y = f
      · subst q
        rw [if_neg nff, if_pos rfl, beq_self_eq_true]
      · rw [beq_eq_false_iff_ne.mpr q]
        by_cases q2 : y = f2
        · rw [if_pos q2, q2, beq_self_eq_true]
        · rw [if_neg q2, if_neg q, beq_eq_false_iff_ne.mpr q2]
          rfl
end
end EX
namespace DL
open PySem PySem.Spec PyProof.Rows L2
theorem relO_zip : ∀ {fs : List Str} {vs : List V} {us : List Value}, Vals vs us → ∀ y, RelO ((fs.zip vs).lookup y) ((fs.zip us).lookup y)
  | [], vs, us, _, y => by
    show RelO none none
    trivial
  | f :: fs, _, _, .nil, y => by
    show RelO none none
    trivial
  | f :: fs, _, _, .cons (a := v) (b := u) r rs, y => by
    show RelO (List.lookup y ((f, v) :: fs.zip _)) (List.lookup y ((f, u) :: fs.zip _))
    rw [List.lookup_cons, List.lookup_cons]
    cases q : y == f with
    | true => exact r
    | false => exact relO_zip rs y
/-- an error class, with what it keeps -/
structure ErrK' (P : Program) (w : World) (K : PySem.W.Frag) (mg : Str → Option Value) (c : Str) (fs : List Str) : Prop where
  made : EX.Makes P w K mg (He.ga K c) fs
  kC : PySem.W.keepIn K (.ref (He.ga K c)) = true
  exC : PySem.W.subIn K (.ref (He.ga K c)) (.type "BaseException") = some true
  tyC : PySem.W.typeIn K (.ref (He.ga K c)) = some (.type "type")
  gC : mg c = some (.ref (He.ga K c))
  sup : mg "super" = none
abbrev ErrK (X : Cx) (c : Str) (fs : List Str) : Prop := ErrK' X.prog X.w X.K X.mg c fs
def tMkErr (C : Addr) (fs : List Str) (ta : TA) : L2.St → Hp → XK → Prop := fun σ H Q => ta σ H fun vs H1 => vs.length = fs.length ∧ ∀ d, H1 d = none → Q (.ref C) (some d) (upd H1 d (.xd (fs.zip vs)))
section
variable {X : Cx} {B : List Nat} {W : WX} {c : Str} {fs : List Str} {k : Nat} {a : Expr} {es : List Expr} {p pos pos2 : Pos} {fa : Ex (List AV)}
theorem pmk_err {ta : TA} (T : ErrK X c fs) (hr : Room k X.A) (hk : 1 ≤ k) (ha : PA X (a :: es) ta) (hg : Gl X c) (hdb : (c == ("__debug__" : Str)) = false)
    (he : starEach (a :: es) X.env = (false, eval a X.env) :: starEach es X.env) (hpl : (backTo pos (starEach es X.env)).any (·.1) = false) : PMk X (.Call (.Name c p) (a :: es) [] pos) (tMkErr (He.ga X.K c) fs ta) := by
  intro pins s σ H Q I h
  refine wpAny_Call_Name_kw (ld_glob I hg T.gC ?_ hdb)
  refine PySem.W.callWith_K (h₀ := X.base) I.ok.mod.kin T.kC (thn (ha.run pos pins s σ H _ I h) fun us s1 hh => ?_) he hpl
  obtain ⟨vs, H1, I1, r1, hl, q1⟩ := hh
  refine ⟨I1.kIn, ?_⟩
  have hlim := I1.nolimit
  have hul : us.length = fs.length := by rw [← hl]; exact r1.length.symm
  have hB : EX.Base X.mg s1.heap := by
    obtain ⟨mb, h1, h2⟩ := I1.mod.blt
    exact ⟨I1.mod.glob.keeps I1.bk, ⟨mb, h1.keeps I1.bk, (h2 "super" (by decide)).trans rfl⟩, hlim⟩
  obtain ⟨hp, g, dr, tk, os⟩ := s1
  refine wpAny_call (T.made X.A ⟨hp, g, dr, tk, os⟩ us _ hul I1.kIn hB (by have := hr.dp; omega) fun h' tk' e d m M hm => ?_)
  show MkP X pins σ Q (.ref e) ⟨h', g, dr, tk', os⟩
  obtain ⟨oe, fv, hoe, hc, hd, hdat, h1⟩ := M.obj
  have hns := M.ns
  obtain ⟨G', g1, g2⟩ := restrict h' fun b => decide (b ≠ e)
  have gk : ∀ b, b ≠ e → G'.get? b = h'.get? b := fun b hb => g1 b (decide_eq_true hb)
  have ge : G'.get? e = none := g2 e (by simp)
  have old : ∀ b o, hp.get? b = some o → G'.get? b = some o := fun b o q => (gk b (Nat.ne_of_lt (Nat.lt_of_lt_of_le (Heap.lt_size q) M.new))).trans (M.keep b o q)
  have ob : ObjOk X.prog X.w (upd H1 d (.xd (fs.zip vs))) G' d (.xd (fs.zip vs)) :=
    ⟨_, hns.at (fun o q => (gk d M.dne).trans q), fun f => by rw [hm]; exact relO_zip r1 f⟩
  have J : Inv X pins σ (upd H1 d (.xd (fs.zip vs))) ⟨G', g, dr, tk', os⟩ := I1.laid (t' := tk') old M.dbig ob
  refine ⟨e, oe, fv, ⟨G', g, dr, tk', os⟩, _, .ref (He.ga X.K c), some d, rfl, J, fun b o q => ?_, ge, hoe, ⟨hc, hd⟩, hdat, h1, ?_, rfl, I1.bare, raises_own T.exC T.tyC, q1 d (I1.hok.fresh M.dbig)⟩
  · by_cases hb : b = e
    · have q' : G'.get? b = some o := q
      rw [hb, ge] at q'; cases q'
    · exact (gk b hb).symm.trans q
  · rw [upd_ne (Ne.symm M.dne)]
    exact I1.hok.fresh M.new
/-- raise C(..) -/
def avD : List AV → Option (List D)
  | [] => some []
  | .dv x :: as => (avD as).map fun r => x :: r
  | .mv _ :: _ => none
theorem avD_rel {K : PySem.W.Frag} {G : Hp} {σ : L2.St} : ∀ {as : List AV} {vs : List V} {xs : List D}, Avs K G σ as vs → avD as = some xs → Dns K G xs vs
  | [], vs, xs, h, e => by
    cases (show some [] = some xs from e)
    exact h
  | .dv x :: as, vs, xs, ⟨v, r, e1, h1, h2⟩, e => by
    have e : (avD as).map (fun r => x :: r) = some xs := e
    cases q : avD as with
    | none => rw [q] at e; cases e
    | some ys =>
      rw [q] at e
      cases e
      rw [e1]
      exact Dns.cons h1 (avD_rel h2 q)
  | .mv i :: as, vs, xs, _, e => by cases (show none = some xs from e)
def raiseE (c : Str) (fs : List Str) (fa : Ex (List AV)) : Sx := fun ρ => (fa ρ).then fun as ρ1 => match avD as with
  | some xs => if xs.length = fs.length then .exc c fs xs ρ1 else .bad
  | none => .bad
theorem zip_fst : ∀ {fs : List Str} {vs : List V}, vs.length = fs.length → (fs.zip vs).map (·.1) = fs
  | [], _, _ => rfl
  | f :: fs, v :: vs, h => by
    show f :: (fs.zip vs).map (·.1) = f :: fs
    rw [zip_fst (by simpa using h)]
theorem zip_snd : ∀ {fs : List Str} {vs : List V}, vs.length = fs.length → (fs.zip vs).map (·.2) = vs
  | [], [], _ => rfl
  | f :: fs, v :: vs, h => by
    show v :: (fs.zip vs).map (·.2) = v :: vs
    rw [zip_snd (by simpa using h)]
theorem sraise (hc : X.calm = true) (T : ErrK X c fs) (hr : Room k X.A) (tk : Takes X W) (ha : DA X B W (a :: es) fa) (hk : 1 ≤ k := by decide) (hg : Gl X c := by rfl) (hdb : (c == ("__debug__" : Str)) = false := by decide)
    (he : starEach (a :: es) X.env = (false, eval a X.env) :: starEach es X.env := by rfl) (hpl : (backTo pos (starEach es X.env)).any (·.1) = false := by rfl) :
    DS X B W (.Raise (some (.Call (.Name c p) (a :: es) [] pos)) none pos2) (raiseE c fs fa) := by
  refine ps_imp (ps_raise hc tk (pmk_err T hr hk ha hg hdb he hpl)) fun E σ H h => ?_
  obtain ⟨e, G, ρ, rfl, S, h⟩ := h
  refine ⟨e, G, ρ, rfl, S, (Cont.then h).imp fun as ρ1 G1 H1 g1 S1 k vs hv => ?_⟩
  cases q : avD as with
  | none => rw [q] at k; exact k.elim
  | some xs =>
    rw [q] at k
    by_cases hl : xs.length = fs.length
    · replace k : SCont X.K e W G1 E (if xs.length = fs.length then .exc c fs xs ρ1 else .bad) := k
      rw [if_pos hl] at k
      have hd := avD_rel hv q
      have hl2 : vs.length = fs.length := by rw [hd.len]; exact hl
      refine ⟨hl2, fun d hdn => k G1 _ σ d _ (same_refl G1) (S1.allocM hdn) upd_same (zip_fst hl2) ?_⟩
      rw [zip_snd hl2]
      exact hd
    · replace k : SCont X.K e W G1 E (if xs.length = fs.length then .exc c fs xs ρ1 else .bad) := k
      rw [if_neg hl] at k
      exact k.elim
end
end DL
end

section
set_option Elab.async false
set_option linter.all false
set_option maxRecDepth 100000
set_option maxHeartbeats 4000000
/-! try with several clauses "except C as n" (or without a name), after the hand layer's two rules for one clause with a name, several without. -/
namespace DL
open PySem PySem.Spec PyProof.Rows L2
/-- where a suite's ends lead: behind it the clause's name is gone -/
def offE (o : Option Nat) (D : Ends) : Ends := match o with
  | some i => { nx := fun σ H => D.nx (σ.set i none) H, rt := D.rt, bk := fun σ H => D.bk (σ.set i none) H, ct := fun σ H => D.ct (σ.set i none) H }
  | none => D
def onS (o : Option Nat) (a : Addr) (σ : L2.St) : L2.St := match o with
  | some i => σ.set i (some (.ref a))
  | none => σ
/-- a clause: the class, the name's slot, the suite's reading -/
structure Cls1 where
  c : Value
  i : Option Nat
  ts : Addr → Value → Option Addr → TS
def wCl (K : PySem.W.Frag) (Wout : WX) (D : Ends) : List Cls1 → WX
  | [] => Wout
  | k :: r => fun cls d σ H => ∃ b, PySem.W.exmOne K cls k.c = some b ∧ (b = true → ∀ a, H a = none → k.ts a cls d (offE k.i D) (onS k.i a σ) H) ∧ (b = false → wCl K Wout D r cls d σ H)
/-- the clauses, read -/
inductive ClOk (X : Cx) : List ExceptHandler → List Cls1 → Prop
  | nil : ClOk X [] []
  | as {x n : Str} {c : Value} {i : Nat} {ts : Addr → Value → Option Addr → TS} {b₀ : Stmt} {suite : List Stmt} {np pos' : Pos} {hds : List ExceptHandler} {l : List Cls1} (hc : Names X x c) (hi : X.N[i]? = some n) (hln : X.env.kindOf n = some .local)
      (hsu : ∀ (a : Addr) (oe : Obj) (cls : Value) (d : Option Addr) (pn : List (Addr × Obj)), Zc cls d oe → (∃ vs, oe.data = .fields vs) → PSs (X.suite a ((a, oe) :: pn)) (b₀ :: suite) (ts a cls d)) (r : ClOk X hds l) :
      ClOk X (.ExceptHandler (some (.Name x np)) (some n) (b₀ :: suite) pos' :: hds) (⟨c, some i, ts⟩ :: l)
  | only {x : Str} {c : Value} {ts : Addr → Value → Option Addr → TS} {b₀ : Stmt} {suite : List Stmt} {np pos' : Pos} {hds : List ExceptHandler} {l : List Cls1} (hc : Names X x c)
      (hsu : ∀ (a : Addr) (oe : Obj) (cls : Value) (d : Option Addr) (pn : List (Addr × Obj)), Zc cls d oe → (∃ vs, oe.data = .fields vs) → PSs (X.suite a ((a, oe) :: pn)) (b₀ :: suite) (ts a cls d)) (r : ClOk X hds l) :
      ClOk X (.ExceptHandler (some (.Name x np)) none (b₀ :: suite) pos' :: hds) (⟨c, none, ts⟩ :: l)
section
variable {X : Cx} {body : List Stmt} {h₀ : ExceptHandler} {hds : List ExceptHandler} {l : List Cls1} {pos : Pos} {tb : WX → TS} {Wout : WX}
theorem ps_try_cl (hs : X.stack = X.env :: X.outer) (hf : X.env.frame = some X.env.locals) (hN : X.N.Nodup) (tk : Takes X Wout)
    (hb : ∀ (W : WX) (pn : List (Addr × Obj)) (xe : Value → Shared → Prop), Takes (X.tr pn xe) W → PassesOwn (model X.prog X.w) X.A X.env xe → PSs (X.tr pn xe) body (tb W))
    (hh : ClOk X (h₀ :: hds) l) : PS X (.Try body (h₀ :: hds) [] [] pos) (fun D σ H => tb (wCl X.K Wout D l) D σ H) := by
  refine ⟨fun pins s σ H D I h => ?_⟩
  have ok := I.ok
  have hfr : X.A.frames = some (X.env :: X.outer) := by rw [ok.frames, hs]
  refine wpAny_Try_except ?_
  refine wpAny_mono ((hb (wCl X.K Wout D l) (X.pn ++ pins) (fun e s₁ => wpAny (model X.prog X.w) X.A (noteFrame e X.env) (fun _ s₂ => wpAny (model X.prog X.w) X.A (setFlight e none) (fun _ s₃ =>
    wpAny (model X.prog X.w) X.A (handleBy e X.env (h₀ :: hds)) (SP X pins D) X.xe s₃) X.xe s₂) X.xe s₁) (fun u s' xx => ?caught) PassesOwn.looking).run [] s σ H D (I.toTry _) h) (fun f s1 hsp => ?through) (fun e s1 he => he)
  case caught =>
    obtain ⟨a, B, sI, pins', σ', H', cls, d, rfl, J', nb, up, sky, na, os, ag, w⟩ := xx
    have J : Inv X pins σ' H' sI := J'.ofTry ok
    rw [hs] at sky
    show wpAny (model X.prog X.w) X.A (noteFrame (.ref a) X.env) _ _ _
    refine Sky.land Zc.steady hfr hf sky fun h3 fl3 up3 => ?_
    have J3 : Inv X pins σ' H' { s' with heap := h3 } := J.landed nb fl3.1 (up.trans up3) os ag
    obtain ⟨oe3, vs3, he3, hz3, hd3⟩ := fl3.there
    have nfr : a ∉ frs (X.env :: X.outer) := fun hm => by
      obtain ⟨_, o', e', hnf⟩ := fl3.2.2.1.mem hm
      rw [he3] at e'
      cases e'
      exact hnf _ hd3
    have nL : a ≠ X.env.locals := fun z => nfr (List.mem_filterMap.mpr ⟨X.env, List.mem_cons_self, by rw [hf, z]⟩)
    have nF : a ∉ X.fs := fun hm => by
      obtain ⟨e, he, q⟩ := List.mem_filterMap.mp hm
      exact nfr (List.mem_filterMap.mpr ⟨e, List.mem_cons_of_mem _ he, q⟩)
    have S3 := J3.suite he3 hd3 na nL nF
    have LT : PySem.W.Looks (model X.prog X.w) h3 (typeOf (.ref a)) cls := fun A Q E s k q => wpAny_typeOf_ref (k _ _ he3) (by rw [hz3.1]; exact q)
    have asked : ∀ {x : Str} {c : Value} {np : Pos} {Q : Value → Shared → Prop} {E : Value → Shared → Prop}, Names X x c → Q c { s' with heap := h3 } → wpAny (model X.prog X.w) (X.A.mark (some (.ref a))) (eval (.Name x np) X.env) Q E { s' with heap := h3 } := fun {x c np Q E} hc q => by
      obtain ⟨hg, hdbg, hm | ⟨hm, hv, hnn⟩⟩ := hc
      · exact ld_glob (X := X.suite a ((a, oe3) :: (X.pn ++ pins))) S3 hg hm q hdbg
      · exact ld_blt (X := X.suite a ((a, oe3) :: (X.pn ++ pins))) S3 hg hm hv q hnn hdbg
    have go : ∀ {hds' : List ExceptHandler} {l' : List Cls1}, ClOk X hds' l' → wCl X.K Wout D l' cls d σ' H' → wpAny (model X.prog X.w) X.A (handleBy (.ref a) X.env hds') (SP X pins D) X.xe { s' with heap := h3 } := by
      intro hds' l' hk
      induction hk with
      | nil =>
        intro w
        refine wpAny_handleBy_nil ?_
        obtain ⟨k1, k2, k3, oe, vs, T, oT, ts', he, hz, hd, h1, hr⟩ := id fl3
        unfold PySem.passOn
        refine wpAny_bind (wpAny_field he hd h1 ?_)
        rw [if_neg (show ¬ ((Value.ref T == Value.none) = true) from by simp)]
        have fin : wpAny (model X.prog X.w) X.A (setFlight (.ref a) X.env.frame) (fun _ s4 => wpAny (model X.prog X.w) X.A (throw (.ref a) : Sem Flow) (SP X pins D) X.xe s4) X.xe { s' with heap := h3 } := by
          rw [hf]
          refine HandSPX.setFlight_upZ fl3 fun h4 hh4 up4 => wpAny_throw (tk _ _ ?_)
          exact ⟨a, B, sI, pins, σ', H', cls, d, rfl, J, nb, (up.trans up3).trans up4, .inr (.inr (by rw [hs]; exact hh4)), na, os, ag, w⟩
        first
          | exact wpAny_bind (wpAny_pure (wpAny_bind fin))
          | exact wpAny_bind fin
      | @as x n c i ts b₀ suite np pos' hds2 l2 hc hi hln hsu r ih =>
        intro w
        obtain ⟨b, hb1, hyes, hno⟩ := w
        refine wpAny_handleBy_cons (codeAny_handlers_test ?_) (by intro q; cases q)
        refine asked hc ((PySem.W.exm_one (M := model X.prog X.w) (J3.kIn) LT hb1).here ?_)
        cases b with
        | true =>
          refine codeAny_handlers_suite_as ?_
          refine HandSPX.lands_againZ fl3 fun h4 fl4 up4 => ?_
          have J4 : Inv X pins σ' H' { s' with heap := h4 } := J.landed nb fl4.1 ((up.trans up3).trans up4) os ag
          obtain ⟨oe4, vs4, he4, hz4, hd4⟩ := fl4.there
          have S4 := J4.suite he4 hd4 na nL nF
          refine store_ok (X := X.suite a ((a, oe4) :: (X.pn ++ pins))) (v := .ref a) S4 hN hi (.inl hln) rfl (fun s5 S5 => ?_) (.inr hln)
          refine wpAny_mono ((hsu a oe4 cls d (X.pn ++ pins) hz4 ⟨_, hd4⟩).run [] s5 _ H' _ S5 (hyes rfl a na)) (fun f s6 hsp => ?_) (fun _ _ z => False.elim z)
          have end_ : ∀ {σ6 : L2.St} {H6 : Hp} {Q : Shared → Prop}, Inv (X.suite a ((a, oe4) :: (X.pn ++ pins))) [] σ6 H6 s6 → (∀ s7, Inv X pins (σ6.set i none) H6 s7 → Q s7) →
              wpAny (model X.prog X.w) X.A (do bindName X.env n .none; unbindBehindTheSuite X.env n pos') (fun _ s7 => Q s7) X.xe s6 := fun {σ6 H6 Q} S6 hq => gone_ok (S6.unsuite ok) hN hi hln hq
          cases f with
          | ret u =>
            obtain ⟨v6, σ6, H6, S6, r6, q6⟩ := hsp
            exact end_ S6 fun s7 J7 => ⟨_, _, _, J7, r6, q6⟩
          | _ =>
            obtain ⟨σ6, H6, S6, q6⟩ := hsp
            exact end_ S6 fun s7 J7 => ⟨_, _, J7, q6⟩
        | false =>
          show wpAny _ X.A (handleBy (.ref a) X.env hds2) _ _ _
          exact ih (hno rfl)
      | @only x c ts b₀ suite np pos' hds2 l2 hc hsu r ih =>
        intro w
        obtain ⟨b, hb1, hyes, hno⟩ := w
        refine wpAny_handleBy_cons (codeAny_handlers_test ?_) (by intro q; cases q)
        refine asked hc ((PySem.W.exm_one (M := model X.prog X.w) (J3.kIn) LT hb1).here ?_)
        cases b with
        | true =>
          refine codeAny_handlers_suite ?_
          refine HandSPX.lands_againZ fl3 fun h4 fl4 up4 => ?_
          have J4 : Inv X pins σ' H' { s' with heap := h4 } := J.landed nb fl4.1 ((up.trans up3).trans up4) os ag
          obtain ⟨oe4, vs4, he4, hz4, hd4⟩ := fl4.there
          have S4 := J4.suite he4 hd4 na nL nF
          refine wpAny_mono ((hsu a oe4 cls d (X.pn ++ pins) hz4 ⟨_, hd4⟩).run [] _ _ H' _ S4 (hyes rfl a na)) (fun f s6 hsp => ?_) (fun _ _ z => False.elim z)
          cases f with
          | ret u =>
            obtain ⟨v6, σ6, H6, S6, r6, q6⟩ := hsp
            exact ⟨_, _, _, S6.unsuite ok, r6, q6⟩
          | _ =>
            obtain ⟨σ6, H6, S6, q6⟩ := hsp
            exact ⟨_, _, S6.unsuite ok, q6⟩
        | false =>
          show wpAny _ X.A (handleBy (.ref a) X.env hds2) _ _ _
          exact ih (hno rfl)
    exact go hh w
  case through =>
    cases f with
    | next =>
      obtain ⟨σ', H', J', q⟩ := hsp
      exact wpAny_execs_nil ⟨σ', H', J'.ofTry ok, q⟩
    | ret u =>
      obtain ⟨v, σ', H', J', r, q⟩ := hsp
      exact ⟨v, σ', H', J'.ofTry ok, r, q⟩
    | _ =>
      obtain ⟨σ', H', J', q⟩ := hsp
      exact ⟨σ', H', J'.ofTry ok, q⟩
end
end DL
end

section
set_option Elab.async false
set_option linter.all false
set_option maxRecDepth 100000
set_option maxHeartbeats 4000000
namespace DL
open PySem PySem.Spec PyProof.Rows L2
/-- a field of a caught error may be read -/
structure ErrG (K : PySem.W.Frag) (c f : Str) : Prop where
  ga : PySem.W.findIn K (.ref (He.ga K c)) "__getattribute__" = some (some (.builtin "BaseException.__getattribute__"))
  gg : PySem.W.findIn K (.ref (He.ga K c)) "__getattr__" = some none
  exC : PySem.W.subIn K (.ref (He.ga K c)) (.type "BaseException") = some true
  hdC : PySem.W.hasDictIn K (He.ga K c) = true
  noN : PySem.W.findIn K (.ref (He.ga K c)) f = some none
def tByF (K : PySem.W.Frag) (cs : List Str) (f : Str) (a : Addr) (cls : Value) (d : Option Addr) (te : TE) : TE := fun σ H Q => te σ H fun x H1 => x = .ref a ∧ ∃ c ∈ cs, cls = .ref (He.ga K c) ∧ ∃ (dd : Addr) (gs : List (Str × V)) (v : V), d = some dd ∧ H1 dd = some (.xd gs) ∧ gs.lookup f = some v ∧ Q v H1
theorem pe_byF {X : Cx} {cs : List Str} {f : Str} {a : Addr} {oe : Obj} {cls : Value} {d : Option Addr} {pn : List (Addr × Obj)} {e : Expr} {te : TE} {pos : Pos} (T : ∀ c ∈ cs, ErrG X.K c f) (hz : Zc cls d oe) (hf : ∃ vs, oe.data = .fields vs) (he : PE (X.suite a ((a, oe) :: pn)) e te)
    (hb : attributeBase e f X.env (eval e X.env) = eval e X.env) : PE (X.suite a ((a, oe) :: pn)) (.Attribute e f pos) (tByF X.K cs f a cls d te) := by
  refine ⟨fun pins s σ H Q I h => ?_⟩
  refine attr_of hb (thn (he.run pins s σ H _ I h) fun u s1 hh => ?_)
  obtain ⟨x, H1, I1, rx, ex, c, hc, ec, dd, gs, v, ed, ea, l, q⟩ := hh
  subst ex
  obtain rfl : u = Value.ref a := rx
  subst ec
  subst ed
  have t := T c hc
  obtain ⟨ha, _⟩ := I1.pin (a, oe) (List.mem_append_left _ List.mem_cons_self)
  obtain ⟨vs, hd⟩ := hf
  have hx : ObjOk X.prog X.w H1 s1.heap dd (.xd gs) := I1.hok dd _ ea
  obtain ⟨mA, hns, hr⟩ := hx
  obtain ⟨od, ho, hl⟩ := lookIn_ns hns
  obtain ⟨u, hu, ru⟩ := RelO.some_of (v := v) (o := mA f) (by rw [← l]; exact hr f)
  have J : PySem.W.InstAt s1.heap a oe (He.ga X.K c) (some od) := ⟨ha, hz.1, by unfold PySem.W.notCls; rw [hd] <;> rfl, by rw [hz.2]; exact ho⟩
  exact HandSPX.exc_get I1.kIn J t.ga t.gg t.exC (PySem.W.findObj_own t.hdC t.noN rfl (by rw [hl, hu])) (handed_of ru) ⟨v, H1, I1.tok _, ru, q⟩
/-- what stands in a suite's display: a constant, a field of the error -/
inductive XA where
  | c (v : V) (d : D) | f (n : Str)
def xval (ns : List Str) (xs : List D) : XA → Option D
  | .c _ d => some d
  | .f n => fldOf ns xs n
def xvals (ns : List Str) (xs : List D) : List XA → Option (List D)
  | [] => some []
  | x :: r => (xval ns xs x).bind fun d => (xvals ns xs r).map fun ds => d :: ds
def xT (K : PySem.W.Frag) (cs : List Str) (a : Addr) (cls : Value) (d : Option Addr) (i : Nat) : XA → TE
  | .c v _ => tC v
  | .f n => tByF K cs n a cls d (tVar i)
def xTs (K : PySem.W.Frag) (cs : List Str) (a : Addr) (cls : Value) (d : Option Addr) (i : Nat) : List XA → TA
  | [] => tNil
  | x :: r => tCons (xT K cs a cls d i x) (xTs K cs a cls d i r)
/-- the constants are what they are told to be -/
def xok : XA → Prop
  | .c v d => ∀ (K : PySem.W.Frag) (G : Hp), Dn K G d v
  | .f _ => True
section
variable {K : PySem.W.Frag} {cs : List Str} {a : Addr} {c : Str} {dd : Addr} {i : Nat} {gs : List (Str × V)} {ns : List Str} {xs : List D} {G H : Hp} {σ : L2.St}
theorem xT_run (hc : c ∈ cs) (hi : σ[i]? = some (some (.ref a))) (hd : H dd = some (.xd gs)) (hn : gs.map (·.1) = ns) (hx : Dns K G xs (gs.map (·.2))) {Q : VK} {x : XA} (ho : xok x) {d : D} (h : xval ns xs x = some d) (k : ∀ v, Dn K G d v → Q v H) : xT K cs a (.ref (He.ga K c)) (some dd) i x σ H Q := by
  cases x with
  | c v d' =>
    cases (show some d' = some d from h)
    exact k v (ho K G)
  | f n =>
    obtain ⟨v, k1, k2⟩ := fldOf_rel hn hx h
    exact ⟨_, hi, rfl, c, hc, rfl, dd, gs, v, rfl, hd, k1, k v k2⟩
theorem xTs_run (hc : c ∈ cs) (hi : σ[i]? = some (some (.ref a))) (hd : H dd = some (.xd gs)) (hn : gs.map (·.1) = ns) (hx : Dns K G xs (gs.map (·.2))) : ∀ {l : List XA} {ds : List D} {Q : List V → Hp → Prop}, (∀ x ∈ l, xok x) → xvals ns xs l = some ds → (∀ vs, Dns K G ds vs → Q vs H) →
    xTs K cs a (.ref (He.ga K c)) (some dd) i l σ H Q
  | [], ds, Q, _, h, k => by
    cases (show some [] = some ds from h)
    exact k [] rfl
  | x :: r, ds, Q, ho, h, k => by
    have h : (xval ns xs x).bind (fun d => (xvals ns xs r).map fun ds => d :: ds) = some ds := h
    cases q : xval ns xs x with
    | none => rw [q] at h; cases h
    | some d =>
      rw [q] at h
      have h : (xvals ns xs r).map (fun ds => d :: ds) = some ds := h
      cases q2 : xvals ns xs r with
      | none => rw [q2] at h; cases h
      | some ds' =>
        rw [q2] at h
        cases h
        exact xT_run hc hi hd hn hx (ho x (.head _)) q fun v hv => xTs_run hc hi hd hn hx (fun y hy => ho y (.tail _ hy)) q2 fun vs hvs => k (v :: vs) (Dns.cons hv hvs)
end
/-- a clause, mirrored: the classes that it takes, those that pass it by, its name's slot, its suite by the error's class and fields -/
structure ClM where
  hit : List Str
  miss : List Str
  su : Str → List Str → List D → Sx
def clauses : List ClM → Str → List Str → List D → Sx
  | [], c, ns, xs, ρ => .exc c ns xs ρ
  | k :: r, c, ns, xs, ρ => if c ∈ k.hit then k.su c ns xs ρ else if c ∈ k.miss then clauses r c ns xs ρ else .bad
def tryS (body : Sx) (l : List ClM) : Sx := fun ρ => match body ρ with
  | .exc c ns xs ρ1 => clauses l c ns xs ρ1
  | o => o
/-- the clause k of the text is mirrored by m -/
structure ClRel (K : PySem.W.Frag) (B : List Nat) (Wout : WX) (k : Cls1) (m : ClM) : Prop where
  hit : ∀ c ∈ m.hit, PySem.W.exmOne K (.ref (He.ga K c)) k.c = some true
  miss : ∀ c ∈ m.miss, PySem.W.exmOne K (.ref (He.ga K c)) k.c = some false
  su : ∀ (D : Ends) (e : En) (G H : Hp) (σ : L2.St) (ρ : List Sl) (a dd : Addr) (gs : List (Str × V)) (c : Str) (xs : List DL.D), c ∈ m.hit → e.B = B → Sim K e G H σ ρ → H a = none → H dd = some (.xd gs) → Dns K G xs (gs.map (·.2)) →
    SCont K e Wout G D (m.su c (gs.map (·.1)) xs ρ) → k.ts a (.ref (He.ga K c)) (some dd) (offE k.i D) (onS k.i a σ) H
inductive ClRels (K : PySem.W.Frag) (B : List Nat) (Wout : WX) : List Cls1 → List ClM → Prop
  | nil : ClRels K B Wout [] []
  | cons {k : Cls1} {m : ClM} {l : List Cls1} {r : List ClM} (h : ClRel K B Wout k m) (t : ClRels K B Wout l r) : ClRels K B Wout (k :: l) (m :: r)
theorem clauses_run {K : PySem.W.Frag} {B : List Nat} {Wout : WX} {D : Ends} {e : En} {G H : Hp} {σ : L2.St} {ρ : List Sl} {dd : Addr} {gs : List (Str × V)} {c : Str} {xs : List DL.D} (hB : e.B = B) (S : Sim K e G H σ ρ) (hd : H dd = some (.xd gs)) (hx : Dns K G xs (gs.map (·.2))) :
    ∀ {l : List Cls1} {r : List ClM}, ClRels K B Wout l r → SCont K e Wout G D (clauses r c (gs.map (·.1)) xs ρ) → wCl K Wout D l (.ref (He.ga K c)) (some dd) σ H
  | _, _, .nil, h => h G H σ dd gs (same_refl G) S hd rfl hx
  | _, _, .cons (k := k) (m := m) (r := r) h t, z => by
    unfold clauses at z
    split at z
    · rename_i q
      exact ⟨true, h.hit c q, (fun _ a ha => h.su D e G H σ ρ a dd gs c xs q hB S ha hd hx z), (fun w => by cases w)⟩
    · split at z
      · rename_i q
        exact ⟨false, h.miss c q, (fun w => by cases w), (fun _ => clauses_run hB S hd hx t z)⟩
      · exact z.elim
section
variable {X : Cx} {B : List Nat} {W : WX} {body : List Stmt} {h₀ : ExceptHandler} {hds : List ExceptHandler} {l : List Cls1} {ms : List ClM} {g : Sx} {pos : Pos}
theorem stry (hs : X.stack = X.env :: X.outer) (hf : X.env.frame = some X.env.locals) (hN : X.N.Nodup) (tk : Takes X W)
    (hb : ∀ (W : WX) (pn : List (Addr × Obj)) (xe : Value → Shared → Prop), Takes (X.tr pn xe) W → PassesOwn (model X.prog X.w) X.A X.env xe → DSs (X.tr pn xe) B W body g)
    (hh : ClOk X (h₀ :: hds) l) (hr : ClRels X.K B W l ms) : DS X B W (.Try body (h₀ :: hds) [] [] pos) (tryS g ms) := by
  refine ps_imp (ps_try_cl (tb := fun W => tS X.K B W g) hs hf hN tk hb hh) fun D σ H h => ?_
  obtain ⟨e, G, ρ, hB, S, h⟩ := h
  refine ⟨e, G, ρ, hB, S, ?_⟩
  unfold tryS at h
  cases q : g ρ with
  | exc c ns xs ρ1 =>
    simp only [q] at h
    intro G' H' σ' dd gs g1 S1 h1 h2 h3
    subst h2
    exact clauses_run hB S1 h1 h3 hr (h.mono g1)
  | nx ρ1 => simp only [q] at h; exact h
  | bk ρ1 => simp only [q] at h; exact h
  | ct ρ1 => simp only [q] at h; exact h
  | rt d ρ1 => simp only [q] at h; exact h
  | rm d ρ1 => simp only [q] at h; exact h
  | bad => simp only [q] at h; exact h
end
/-! ### suites that say return [..], (..), a field, a constant -/
def suL (i : Nat) (l : List XA) : Str → List Str → List D → Sx := fun _ ns xs ρ => match xvals ns xs l with
  | some ds => if i < ρ.length ∧ ds.length ≤ sizeLine then .rm ds ρ else .bad
  | none => .bad
/-- the list as data -/
def suF (i : Nat) (l : List XA) : Str → List Str → List D → Sx := fun _ ns xs ρ => match xvals ns xs l with
  | some ds => if i < ρ.length ∧ ds.length ≤ sizeLine then .rt (.lst ds) ρ else .bad
  | none => .bad
def suT (i : Nat) (l : List XA) : Str → List Str → List D → Sx := fun _ ns xs ρ => match xvals ns xs l with
  | some ds => if i < ρ.length ∧ ds.length ≤ sizeLine then .rt (.tup ds) ρ else .bad
  | none => .bad
def suR (i : Nat) (x : XA) : Str → List Str → List D → Sx := fun _ ns xs ρ => match xval ns xs x with
  | some d => if i < ρ.length then .rt d ρ else .bad
  | none => .bad
section
variable {K : PySem.W.Frag} {B : List Nat} {W : WX} {c : Value} {i : Nat} {hit miss : List Str} {l : List XA} {x : XA}
theorem suL_rel (hi : ∀ c' ∈ hit, PySem.W.exmOne K (.ref (He.ga K c')) c = some true) (hm : ∀ c' ∈ miss, PySem.W.exmOne K (.ref (He.ga K c')) c = some false) (ho : ∀ y ∈ l, xok y) : ClRel K B W ⟨c, some i, fun a cls d => tRet (tLst (xTs K hit a cls d i l))⟩ ⟨hit, miss, suL i l⟩ := by
  refine ⟨hi, hm, fun D e G H σ ρ a dd gs c' xs hc hB S ha hd hx z => ?_⟩
  replace z : SCont K e W G D (match xvals (gs.map (·.1)) xs l with | some ds => if i < ρ.length ∧ ds.length ≤ sizeLine then .rm ds ρ else .bad | none => .bad) := z
  cases q : xvals (gs.map (·.1)) xs l with
  | none => rw [q] at z; exact z.elim
  | some ds =>
    rw [q] at z
    by_cases hl : i < ρ.length ∧ ds.length ≤ sizeLine
    · replace z : SCont K e W G D (if i < ρ.length ∧ ds.length ≤ sizeLine then .rm ds ρ else .bad) := z
      rw [if_pos hl] at z
      refine xTs_run (σ := σ.set i (some (.ref a))) hc (List.getElem?_set_self (by rw [S.len]; exact hl.1)) hd rfl hx ho q fun vs hvs => ⟨by rw [hvs.len]; exact hl.2, fun p hp => ?_⟩
      obtain ⟨n1, n2, n3, n4⟩ := newM S hp hvs
      exact z G _ σ p vs (same_refl G) (S.allocM hp) ⟨n1, n2, n3, n4⟩ hvs
    · replace z : SCont K e W G D (if i < ρ.length ∧ ds.length ≤ sizeLine then .rm ds ρ else .bad) := z
      rw [if_neg hl] at z
      exact z.elim
theorem suF_rel (hi : ∀ c' ∈ hit, PySem.W.exmOne K (.ref (He.ga K c')) c = some true) (hm : ∀ c' ∈ miss, PySem.W.exmOne K (.ref (He.ga K c')) c = some false) (ho : ∀ y ∈ l, xok y) : ClRel K B W ⟨c, some i, fun a cls d => tRet (tLst (xTs K hit a cls d i l))⟩ ⟨hit, miss, suF i l⟩ := by
  refine ⟨hi, hm, fun D e G H σ ρ a dd gs c' xs hc hB S ha hd hx z => ?_⟩
  replace z : SCont K e W G D (match xvals (gs.map (·.1)) xs l with | some ds => if i < ρ.length ∧ ds.length ≤ sizeLine then .rt (.lst ds) ρ else .bad | none => .bad) := z
  cases q : xvals (gs.map (·.1)) xs l with
  | none => rw [q] at z; exact z.elim
  | some ds =>
    rw [q] at z
    by_cases hl : i < ρ.length ∧ ds.length ≤ sizeLine
    · replace z : SCont K e W G D (if i < ρ.length ∧ ds.length ≤ sizeLine then .rt (.lst ds) ρ else .bad) := z
      rw [if_pos hl] at z
      refine xTs_run (σ := σ.set i (some (.ref a))) hc (List.getElem?_set_self (by rw [S.len]; exact hl.1)) hd rfl hx ho q fun vs hvs => ⟨by rw [hvs.len]; exact hl.2, fun p hp => ?_⟩
      have gp := S.freshG hp
      exact z (upd G p (.lst vs)) _ σ _ (same_new gp) (S.alloc hp) ⟨p, vs, rfl, SqL.of upd_same, Dns.mono (same_new gp) _ _ hvs⟩
    · replace z : SCont K e W G D (if i < ρ.length ∧ ds.length ≤ sizeLine then .rt (.lst ds) ρ else .bad) := z
      rw [if_neg hl] at z
      exact z.elim
theorem suT_rel (hi : ∀ c' ∈ hit, PySem.W.exmOne K (.ref (He.ga K c')) c = some true) (hm : ∀ c' ∈ miss, PySem.W.exmOne K (.ref (He.ga K c')) c = some false) (ho : ∀ y ∈ l, xok y) : ClRel K B W ⟨c, some i, fun a cls d => tRet (tTup (xTs K hit a cls d i l))⟩ ⟨hit, miss, suT i l⟩ := by
  refine ⟨hi, hm, fun D e G H σ ρ a dd gs c' xs hc hB S ha hd hx z => ?_⟩
  replace z : SCont K e W G D (match xvals (gs.map (·.1)) xs l with | some ds => if i < ρ.length ∧ ds.length ≤ sizeLine then .rt (.tup ds) ρ else .bad | none => .bad) := z
  cases q : xvals (gs.map (·.1)) xs l with
  | none => rw [q] at z; exact z.elim
  | some ds =>
    rw [q] at z
    by_cases hl : i < ρ.length ∧ ds.length ≤ sizeLine
    · replace z : SCont K e W G D (if i < ρ.length ∧ ds.length ≤ sizeLine then .rt (.tup ds) ρ else .bad) := z
      rw [if_pos hl] at z
      refine xTs_run (σ := σ.set i (some (.ref a))) hc (List.getElem?_set_self (by rw [S.len]; exact hl.1)) hd rfl hx ho q fun vs hvs => ⟨by rw [hvs.len]; exact hl.2, fun p hp => ?_⟩
      have gp := S.freshG hp
      exact z (upd G p (.tup vs)) _ σ _ (same_new gp) (S.alloc hp) ⟨p, vs, rfl, SqT.of upd_same, Dns.mono (same_new gp) _ _ hvs⟩
    · replace z : SCont K e W G D (if i < ρ.length ∧ ds.length ≤ sizeLine then .rt (.tup ds) ρ else .bad) := z
      rw [if_neg hl] at z
      exact z.elim
theorem suR_rel (hi : ∀ c' ∈ hit, PySem.W.exmOne K (.ref (He.ga K c')) c = some true) (hm : ∀ c' ∈ miss, PySem.W.exmOne K (.ref (He.ga K c')) c = some false) (ho : xok x) : ClRel K B W ⟨c, some i, fun a cls d => tRet (xT K hit a cls d i x)⟩ ⟨hit, miss, suR i x⟩ := by
  refine ⟨hi, hm, fun D e G H σ ρ a dd gs c' xs hc hB S ha hd hx z => ?_⟩
  replace z : SCont K e W G D (match xval (gs.map (·.1)) xs x with | some d => if i < ρ.length then .rt d ρ else .bad | none => .bad) := z
  cases q : xval (gs.map (·.1)) xs x with
  | none => rw [q] at z; exact z.elim
  | some d =>
    rw [q] at z
    by_cases hl : i < ρ.length
    · replace z : SCont K e W G D (if i < ρ.length then .rt d ρ else .bad) := z
      rw [if_pos hl] at z
      exact xT_run (σ := σ.set i (some (.ref a))) hc (List.getElem?_set_self (by rw [S.len]; exact hl)) hd rfl hx ho q fun v hv => z G H σ v (same_refl G) S hv
    · replace z : SCont K e W G D (if i < ρ.length then .rt d ρ else .bad) := z
      rw [if_neg hl] at z
      exact z.elim
end
/-! ### .. read off the text -/
section
variable {X : Cx} {cs : List Str} {a : Addr} {oe : Obj} {cls : Value} {d : Option Addr} {pn : List (Addr × Obj)} {es : List Expr} {l : List XA} {i : Nat} {pos rp : Pos}
/-- the display's parts -/
abbrev XPA (X : Cx) (cs : List Str) (i : Nat) (es : List Expr) (l : List XA) : Prop := ∀ (a : Addr) (oe : Obj) (cls : Value) (d : Option Addr) (pn : List (Addr × Obj)), Zc cls d oe → (∃ vs, oe.data = .fields vs) → PA (X.suite a ((a, oe) :: pn)) es (xTs X.K cs a cls d i l)
theorem xpnil : XPA X cs i [] [] := fun _ _ _ _ _ _ _ => pa_nil
theorem xpc {e : Expr} {v : V} {dd : DL.D} (he : ∀ (a : Addr) (oe : Obj) (pn : List (Addr × Obj)), PE (X.suite a ((a, oe) :: pn)) e (tC v)) (hr : XPA X cs i es l) (hs : ∀ env : Env, starEach (e :: es) env = (false, eval e env) :: starEach es env := by intro _; rfl) : XPA X cs i (e :: es) (.c v dd :: l) :=
  fun a oe cls d pn hz hf => pa_cons (he a oe pn) (hr a oe cls d pn hz hf) (hs _)
theorem xpf {n : Str} {f : Str} {p1 p2 : Pos} (T : ∀ c ∈ cs, ErrG X.K c f) (hr : XPA X cs i es l) (hN : X.N[i]? = some n := by rfl) (hv : Vis X.env.scope n := by first | exact Or.inl rfl | exact Or.inr (Or.inl rfl) | exact Or.inr (Or.inr rfl)) (hd : (n == ("__debug__" : Str)) = false := by decide)
    (hcd : (n == ("__classdict__" : Str)) = false := by decide) (hb : ∀ env : Env, attributeBase (.Name n p1) f env (eval (.Name n p1) env) = eval (.Name n p1) env := by intro _; rfl) (hs : ∀ env : Env, starEach (Expr.Attribute (.Name n p1) f p2 :: es) env = (false, eval (.Attribute (.Name n p1) f p2) env) :: starEach es env := by intro _; rfl) :
    XPA X cs i (.Attribute (.Name n p1) f p2 :: es) (.f f :: l) :=
  fun a oe cls d pn hz hf => pa_cons (pe_byF (cs := cs) T hz hf (pe_var (X := X.suite a ((a, oe) :: pn)) hN hv hd hcd) (hb _)) (hr a oe cls d pn hz hf) (hs _)
theorem xret_list (h : XPA X cs i es l) : ∀ (a : Addr) (oe : Obj) (cls : Value) (d : Option Addr) (pn : List (Addr × Obj)), Zc cls d oe → (∃ vs, oe.data = .fields vs) → PSs (X.suite a ((a, oe) :: pn)) [.Return (some (.List es pos)) rp] (tRet (tLst (xTs X.K cs a cls d i l))) :=
  fun a oe cls d pn hz hf => pss_one (ps_ret (pe_lst (h a oe cls d pn hz hf)))
theorem xret_tup {k : Nat} (h : XPA X cs i es l) : ∀ (a : Addr) (oe : Obj) (cls : Value) (d : Option Addr) (pn : List (Addr × Obj)), Zc cls d oe → (∃ vs, oe.data = .fields vs) → PSs (X.suite a ((a, oe) :: pn)) [.Return (some (.Tuple es k pos)) rp] (tRet (tTup (xTs X.K cs a cls d i l))) :=
  fun a oe cls d pn hz hf => pss_one (ps_ret (pe_tup (h a oe cls d pn hz hf)))
theorem xret_fld {n : Str} {f : Str} {p1 p2 : Pos} (T : ∀ c ∈ cs, ErrG X.K c f) (hN : X.N[i]? = some n := by rfl) (hv : Vis X.env.scope n := by first | exact Or.inl rfl | exact Or.inr (Or.inl rfl) | exact Or.inr (Or.inr rfl)) (hd : (n == ("__debug__" : Str)) = false := by decide)
    (hcd : (n == ("__classdict__" : Str)) = false := by decide) (hb : ∀ env : Env, attributeBase (.Name n p1) f env (eval (.Name n p1) env) = eval (.Name n p1) env := by intro _; rfl) :
    ∀ (a : Addr) (oe : Obj) (cls : Value) (d : Option Addr) (pn : List (Addr × Obj)), Zc cls d oe → (∃ vs, oe.data = .fields vs) → PSs (X.suite a ((a, oe) :: pn)) [.Return (some (.Attribute (.Name n p1) f p2)) rp] (tRet (xT X.K cs a cls d i (.f f))) :=
  fun a oe cls d pn hz hf => pss_one (ps_ret (pe_byF (cs := cs) T hz hf (pe_var (X := X.suite a ((a, oe) :: pn)) hN hv hd hcd) (hb _)))
end
end DL
end

section
set_option Elab.async false
set_option linter.all false
set_option maxRecDepth 100000
set_option maxHeartbeats 4000000
namespace DL
open PySem PySem.Spec PyProof.Rows L2

/-! ### == of data that hold instances with an own __eq__: only what is the same data is told to be equal -/
mutual
def D.beq : D → D → Bool
  | .non, .non => true
  | .bl a, .bl b => a == b
  | .int a, .int b => decide (a = b)
  | .str a, .str b => decide (a = b)
  | .lst xs, .lst ys => D.beqs xs ys
  | .tup xs, .tup ys => D.beqs xs ys
  | .ins c ns xs, .ins c' ns' ys => decide (c = c') && (decide (ns = ns') && D.beqs xs ys)
  | _, _ => false
def D.beqs : List D → List D → Bool
  | [], [] => true
  | x :: xs, y :: ys => D.beq x y && D.beqs xs ys
  | _, _ => false
end
mutual
theorem D.beq_eq : ∀ {x y : D}, D.beq x y = true → x = y
  | .non, .non, _ => rfl
  | .bl a, .bl b, h => by
    have h : (a == b) = true := h
    rw [eq_of_beq h]
  | .int a, .int b, h => by rw [of_decide_eq_true (show decide (a = b) = true from h)]
  | .str a, .str b, h => by rw [of_decide_eq_true (show decide (a = b) = true from h)]
  | .lst xs, .lst ys, h => by rw [D.beqs_eq (show D.beqs xs ys = true from h)]
  | .tup xs, .tup ys, h => by rw [D.beqs_eq (show D.beqs xs ys = true from h)]
  | .ins c ns xs, .ins c' ns' ys, h => by
    obtain ⟨h1, h2⟩ := Bool.and_eq_true_iff.mp (show (decide (c = c') && (decide (ns = ns') && D.beqs xs ys)) = true from h)
    obtain ⟨h2, h3⟩ := Bool.and_eq_true_iff.mp h2
    rw [of_decide_eq_true h1, of_decide_eq_true h2, D.beqs_eq h3]
theorem D.beqs_eq : ∀ {x y : List D}, D.beqs x y = true → x = y
  | [], [], _ => rfl
  | x :: xs, y :: ys, h => by
    obtain ⟨h1, h2⟩ := Bool.and_eq_true_iff.mp (show (D.beq x y && D.beqs xs ys) = true from h)
    rw [D.beq_eq h1, D.beqs_eq h2]
end
mutual
/-- how deep -/
def D.dep : D → Nat
  | .lst xs => D.deps xs + 1
  | .tup xs => D.deps xs + 1
  | .ins _ _ _ => 1
  | _ => 0
def D.deps : List D → Nat
  | [] => 0
  | x :: xs => max (D.dep x) (D.deps xs)
end
mutual
/-- every instance in it is of the class c and fits p -/
def D.fit (c : Str) (p : List Str → List D → Bool) : D → Bool
  | .lst xs => D.fits c p xs
  | .tup xs => D.fits c p xs
  | .ins c' ns xs => decide (c' = c) && p ns xs
  | _ => true
def D.fits (c : Str) (p : List Str → List D → Bool) : List D → Bool
  | [] => true
  | x :: xs => D.fit c p x && D.fits c p xs
end
theorem deps_le : ∀ {xs : List D} {i : Nat} {d : D}, xs[i]? = some d → d.dep ≤ D.deps xs
  | [], i, d, h => by simp at h
  | x :: xs, 0, d, h => by
    simp at h
    subst h
    unfold D.deps
    exact Nat.le_max_left _ _
  | x :: xs, i + 1, d, h => by
    unfold D.deps
    exact Nat.le_trans (deps_le (i := i) (by simpa using h)) (Nat.le_max_right _ _)
theorem fits_at {c : Str} {p : List Str → List D → Bool} : ∀ {xs : List D} {i : Nat} {d : D}, D.fits c p xs = true → xs[i]? = some d → d.fit c p = true
  | [], i, d, _, h => by simp at h
  | x :: xs, 0, d, hf, h => by
    simp at h
    subst h
    exact (Bool.and_eq_true_iff.mp (show (D.fit c p x && D.fits c p xs) = true from hf)).1
  | x :: xs, i + 1, d, hf, h => fits_at (i := i) (Bool.and_eq_true_iff.mp (show (D.fit c p x && D.fits c p xs) = true from hf)).2 (by simpa using h)
/-- the written part holds no list -/
def noLst (K : PySem.W.Frag) : Bool := K.all fun q => q.2.cls != .type "list"
theorem noLst_rd {K : PySem.W.Frag} {H : Hp} {a : Addr} {xs : List V} (hn : noLst K = true) (h : SqL K H a xs) : Rd H a (.lst xs) := by
  rcases h with h | ⟨o, its, n, h1, h2, _⟩
  · exact h
  · have hm : (a, o) ∈ K := by
      have key : ∀ l : List (Addr × Obj), l.lookup a = some o → (a, o) ∈ l := fun l => by
        induction l with
        | nil => intro h; cases h
        | cons q r ih =>
          intro h
          rw [List.lookup_cons] at h
          cases z : a == q.1 with
          | true =>
            rw [z] at h
            have e1 : a = q.1 := beq_iff_eq.mp z
            have e2 : q.2 = o := Option.some.inj h
            rw [e1, ← e2]
            exact List.mem_cons_self
          | false =>
            rw [z] at h
            exact List.mem_cons_of_mem _ (ih h)
      exact key K h1
    have := List.all_eq_true.mp hn _ hm
    rw [h2] at this
    exact absurd this (by decide)
section
variable {X : Cx} {n : Nat} {c : Str} {p : List Str → List D → Bool}
/-- the same data -/
def DD (K : PySem.W.Frag) (c : Str) (p : List Str → List D → Bool) (n : Nat) : Eqv := fun x y H => ∃ d : D, d.dep ≤ n ∧ d.fit c p = true ∧ Dn K H d x ∧ Dn K H d y
def DRd (E : Eqv) : Eqv := fun x y H => ∃ a b xs ys, x = .ref a ∧ y = .ref b ∧ Rd H a (.lst xs) ∧ Rd H b (.lst ys) ∧ Prs E xs ys H
theorem mon_DD (K : PySem.W.Frag) : Mon (DD K c p n) := fun x y H H' e ⟨d, h1, h2, h3, h4⟩ => ⟨d, h1, h2, Dn.mono e _ _ h3, Dn.mono e _ _ h4⟩
theorem rcG_rd {E : Eqv} (hD : Mon E) (h : EqG X n E) : RcG X (n + 1) (DRd E) := by
  intro A pins s σ H x y u v sb I rx ry d
  obtain ⟨a, b, xs, ys, rfl, rfl, ha, hb, q⟩ := d
  cases rx
  cases ry
  refine GQ.rc_listG (N := xs.length) sb.room.units0 (fun _ s' => LoopI X pins σ H s') (fun i s' l => ?_) (fun s' l => ⟨rfl, l⟩) ⟨H, I, Ext.rfl'⟩
  obtain ⟨H1, I1, e1⟩ := id l
  obtain ⟨z, its, k, r, e⟩ := (rd_mono e1 ha).ok I1.hok
  obtain ⟨z2, its2, k2, r2, e2⟩ := (rd_mono e1 hb).ok I1.hok
  refine ⟨its.toArray, its2.toArray, k, k2, e, e2, by rw [List.size_toArray, ← r.length], by rw [List.size_toArray, ← r2.length, ← q.1], fun h1 h2 => ?_⟩
  exact turnG hD h sb q r r2 i h1 h2 s' l
theorem dns_prs {K : PySem.W.Frag} {H : Hp} {xs : List D} {vs us : List V} (hd : D.deps xs ≤ n) (hf : D.fits c p xs = true) (h1 : Dns K H xs vs) (h2 : Dns K H xs us) : Prs (DD K c p n) vs us H := by
  refine ⟨by rw [h1.len, h2.len], fun i x y e1 e2 => ?_⟩
  obtain ⟨d, k1, k2⟩ := h1.get' e1
  obtain ⟨d', k3, k4⟩ := h2.get' e2
  rw [k1] at k3
  cases k3
  exact ⟨d, Nat.le_trans (deps_le k1) hd, fits_at hf k1, k2, k4⟩
theorem flat_refl {K : PySem.W.Frag} {H : Hp} {d : D} {x y : V} (hs : d.sc = true) (h1 : Dn K H d x) (h2 : Dn K H d y) : DFlat x y H := by
  cases d with
  | non => cases (show x = _ from h1); cases (show y = _ from h2); exact ⟨rfl, rfl, rfl⟩
  | bl b =>
    cases (show x = _ from h1); cases (show y = _ from h2)
    refine ⟨rfl, rfl, ?_⟩
    cases b <;> rfl
  | int b =>
    cases (show x = _ from h1); cases (show y = _ from h2)
    refine ⟨rfl, rfl, ?_⟩
    first
      | exact decide_eq_true rfl
      | simp [eqV]
  | str b =>
    cases (show x = _ from h1); cases (show y = _ from h2)
    refine ⟨rfl, rfl, ?_⟩
    first
      | exact decide_eq_true rfl
      | simp [eqV]
  | lst xs => cases hs
  | tup xs => cases hs
  | ins c ns xs => cases hs
/-- what the own __eq__ tells of two with the same data -/
def Rsame (K : PySem.W.Frag) (c : Str) (p : List Str → List D → Bool) : Addr → Addr → Hp → Prop := fun a b H => ∃ ns xs, p ns xs = true ∧ Dn K H (.ins c ns xs) (.ref a) ∧ Dn K H (.ins c ns xs) (.ref b)
theorem rcG_DD {k : Nat} {f : Addr} {fd : FuncData} {ps : List Str} {E : XK} (hno : noLst X.K = true) (F : FnOk X.prog X.w X.K X.mg X.base (L2.CX X.prog X.w) k f fd ps (spEq (Rsame X.K c p)))
    (hs : PySem.W.findIn X.K (.ref (He.ga X.K c)) "__eq__" = some (some (.ref f))) (hf : PySem.W.isFn X.K (.ref f) = true) (hb : Binds X.K fd ps []) (hx : Passes (L2.CX X.prog X.w) X E) :
    ∀ n : Nat, EqG X (k + n) (DD X.K c p n) ∧ RcG X (k + n + 1) (fun x y H => ∃ d : D, d.dep ≤ n + 1 ∧ d.sc = false ∧ d.fit c p = true ∧ Dn X.K H d x ∧ Dn X.K H d y) := by
  have ins : RcG X k (DIns (He.ga X.K c) (Rsame X.K c p)) := rcG_ins F hs hf hb hx
  have step : ∀ n : Nat, EqG X (k + n) (DD X.K c p n) → RcG X (k + n + 1) (fun x y H => ∃ d : D, d.dep ≤ n + 1 ∧ d.sc = false ∧ d.fit c p = true ∧ Dn X.K H d x ∧ Dn X.K H d y) := fun n ih => by
    intro A pins s σ H x y u v sb I rx ry ⟨d, h1, h2, h3, h4, h5⟩
    cases d with
    | lst xs =>
      obtain ⟨a, vs, rfl, a1, a2⟩ := h4
      obtain ⟨b, us, rfl, b1, b2⟩ := h5
      exact rcG_rd (mon_DD X.K) ih A pins s σ H _ _ u v sb I rx ry ⟨a, b, vs, us, rfl, rfl, noLst_rd hno a1, noLst_rd hno b1, dns_prs (Nat.le_of_succ_le_succ h1) h3 a2 b2⟩
    | tup xs =>
      obtain ⟨a, vs, rfl, a1, a2⟩ := h4
      obtain ⟨b, us, rfl, b1, b2⟩ := h5
      exact rcG_tup (mon_DD X.K) ih A pins s σ H _ _ u v sb I rx ry ⟨a, b, vs, us, rfl, rfl, a1, b1, dns_prs (Nat.le_of_succ_le_succ h1) h3 a2 b2⟩
    | ins c' ns xs =>
      obtain ⟨q1, q2⟩ := Bool.and_eq_true_iff.mp (show (decide (c' = c) && p ns xs) = true from h3)
      have e := of_decide_eq_true q1
      subst e
      have h4' := h4
      have h5' := h5
      obtain ⟨a, dx, fs, rfl, a1, a2, a3⟩ := h4'
      obtain ⟨b, dy, gs, rfl, b1, b2, b3⟩ := h5'
      exact ins A pins s σ H _ _ u v (sb.mono (by omega)) I rx ry ⟨a, b, dx, dy, fs, gs, rfl, rfl, a1, b1, ns, xs, q2, h4, h5⟩
    | _ => cases h2
  intro n
  induction n with
  | zero =>
    have z : EqG X (k + 0) (DD X.K c p 0) := by
      refine (eqG_flat.mono (Nat.zero_le _)).imp fun x y H ⟨d, h1, h2, h3, h4⟩ => ?_
      cases d with
      | lst xs => cases (show D.deps xs + 1 ≤ 0 from h1)
      | tup xs => cases (show D.deps xs + 1 ≤ 0 from h1)
      | ins c ns xs => cases (show 1 ≤ 0 from h1)
      | _ => exact flat_refl rfl h3 h4
    exact ⟨z, step 0 z⟩
  | succ n ih =>
    have z : EqG X (k + (n + 1)) (DD X.K c p (n + 1)) := by
      have r2 := RcG.eqG ih.2 fun x y H ⟨d, h1, h2, h3, h4, h5⟩ => by
        cases d with
        | lst xs =>
          obtain ⟨a, vs, rfl, _⟩ := h4
          obtain ⟨b, us, rfl, _⟩ := h5
          exact ⟨a, b, rfl, rfl⟩
        | tup xs =>
          obtain ⟨a, vs, rfl, _⟩ := h4
          obtain ⟨b, us, rfl, _⟩ := h5
          exact ⟨a, b, rfl, rfl⟩
        | ins c ns xs =>
          obtain ⟨a, dx, fs, rfl, _⟩ := h4
          obtain ⟨b, dy, gs, rfl, _⟩ := h5
          exact ⟨a, b, rfl, rfl⟩
        | _ => cases h2
      refine (((eqG_flat (X := X)).mono (Nat.zero_le _)).or r2).imp fun x y H ⟨d, h1, h2, h3, h4⟩ => ?_
      cases q : d.sc with
      | true => exact .inl (flat_refl q h3 h4)
      | false => exact .inr ⟨d, h1, q, h2, h3, h4⟩
    exact ⟨z, step (n + 1) z⟩
end
end DL
namespace DL
open PySem PySem.Spec PyProof.Rows L2
theorem Sim.grown {K : PySem.W.Frag} {e : En} {G H H' : Hp} {σ : L2.St} {ρ : List Sl} (S : Sim K e G H σ ρ) (x : Ext H H') : Sim K e G H' σ ρ := by
  refine ⟨fun a o h => x a o (S.ex a o h), S.len, fun i s h => ?_, S.sep, S.own, fun a o h n => x a o (S.keep a o h n), S.new, fun a h => ?_, S.bs⟩
  · obtain ⟨v, h1, h2⟩ := S.rel i s h
    exact ⟨v, h1, h2.mono (same_refl G) fun a o m ha => ⟨x a o ha, (h2.madH m).2⟩⟩
  · obtain ⟨o, ho⟩ := S.there a h
    exact ⟨o, x a o ho⟩
/-- ==, where instances of the class c that fit p may stand in both: the same data -/
def sameO (c : Str) (p : List Str → List D → Bool) (x y : D) : Bool := D.beq x y && (!x.sc && (x.fit c p && decide (x.dep ≤ 20)))
def eqO (c : Str) (p : List Str → List D → Bool) (f g : Ex D) : Ex D := fun ρ => (f ρ).bind fun x ρ1 => (g ρ1).bind fun y ρ2 => match opEq x y with
  | some z => .ok z ρ2
  | none => if sameO c p x y = true then .ok (.bl true) ρ2 else .bad
/-- what __eq__'s mirror must give -/
def EqSelf (F : Fn) (c : Str) (p : List Str → List D → Bool) : Prop := ∀ ns xs, p ns xs = true → ∃ os, F [.d (.ins c ns xs), .d (.ins c ns xs)] = .rt (.bl true) os
theorem bors_d {a : Addr} : ∀ {ds : List D} {vs : List V}, a ∉ bors (ds.map Sl.d) vs
  | [], _, h => by cases h
  | _ :: _, [], h => by cases h
  | d :: ds, v :: vs, h => by
    have h : a ∈ (match mad (.d d) (some v) with | some b => [b] | none => []) ++ bors (ds.map Sl.d) vs := h
    rcases List.mem_append.mp h with h | h
    · cases q : mad (.d d) (some v) with
      | none => rw [q] at h; cases h
      | some b => exact mad_d q
    · exact bors_d h
theorem spEq_of {K : PySem.W.Frag} {F : Fn} {c : Str} {p : List Str → List D → Bool} (he : EqSelf F c p) (vs : List V) (H : Hp) (Q : VK) (E : XK) (h : spEq (Rsame K c p) vs H Q E) : spM K F vs H Q E := by
  obtain ⟨a, b, rfl, ⟨ns, xs, hp, h1, h2⟩, k⟩ := h
  obtain ⟨os, hF⟩ := he ns xs hp
  refine ⟨H, [.d (.ins c ns xs), .d (.ins c ns xs)], rfl, same_refl H, fun i s hs => ?_, fun i j s t v w a h1 h2 h3 h4 m1 m2 => ?_, ?_⟩
  · match i, hs with
    | 0, hs => cases (Option.some.inj hs); exact ⟨_, rfl, _, rfl, h1⟩
    | 1, hs => cases (Option.some.inj hs); exact ⟨_, rfl, _, rfl, h2⟩
    | i + 2, hs => simp at hs
  · match i, h1 with
    | 0, h1 => cases (Option.some.inj h1); exact absurd m1 mad_d
    | 1, h1 => cases (Option.some.inj h1); exact absurd m1 mad_d
    | i + 2, h1 => simp at h1
  · rw [hF]
    intro G' H' v A hv
    cases (show v = _ from hv)
    exact k H' fun x o hx => A.keep x o hx (bors_d (ds := [.ins c ns xs, .ins c ns xs]))
section
variable {X : Cx} {B : List Nat} {W : WX} {k : Nat} {f : Addr} {fd : FuncData} {ps : List Str} {Fm : Fn} {c : Str} {p : List Str → List D → Bool} {a b : Expr} {fa fb : Ex D} {pos : Pos}
theorem dcmpO (hu : X.A.units + 64 < cLine) (hno : noLst X.K = true) (F : FnOk X.prog X.w X.K X.mg X.base (L2.CX X.prog X.w) k f fd ps (spM X.K Fm)) (he : EqSelf Fm c p) (hr : Room (k + 21) X.A)
    (hs : PySem.W.findIn X.K (.ref (He.ga X.K c)) "__eq__" = some (some (.ref f))) (hf : PySem.W.isFn X.K (.ref f) = true) (hb : Binds X.K fd ps []) (ha : DE X B W a fa) (hb2 : DE X B W b fb) (hm : behindInMarks .Eq b = false := by first | exact nobehind _ (by decide) (by decide) | rfl) :
    DE X B W (.Compare a [.Eq] [b] pos) (eqO c p fa fb) := by
  have R := (rcG_DD (p := p) hno (F.imp (spEq_of he)) hs hf hb passL 20).2
  have O1 := odEq (X := X) hu
  have O2 := op_eqG R hr
  have O : OpR X (compareOp .Eq) (fun x y H Q => rD X.K opEq x y H Q ∨ rEqG (fun x y H => ∃ d : D, d.dep ≤ 20 + 1 ∧ d.sc = false ∧ d.fit c p = true ∧ Dn X.K H d x ∧ Dn X.K H d y) x y H Q) := fun pins s σ H x y v u Q I rx ry q => by
    rcases q with q | q
    · exact O1 pins s σ H x y v u Q I rx ry q
    · exact O2 pins s σ H x y v u Q I rx ry q
  refine pe_imp (pe_cmpR O ha hb2 hm) fun σ H Q h => ?_
  obtain ⟨e, G, ρ, rfl, S, h⟩ := h
  refine ⟨e, G, ρ, rfl, S, (Cont.bind h).imp fun x ρ1 G1 H1 g1 S1 k v hv => ?_⟩
  refine ⟨e, G1, ρ1, rfl, S1, (Cont.bind k).imp fun y ρ2 G2 H2 g2 S2 k2 u hu => ?_⟩
  cases hz : opEq x y with
  | some z =>
    rw [hz] at k2
    exact .inl ⟨G2, x, y, z, S2.ex, Dn.mono g2 _ _ hv, hu, hz, fun w hw => k2 G2 H2 (same_refl G2) S2 w hw⟩
  | none =>
    rw [hz] at k2
    by_cases q : sameO c p x y = true
    · replace k2 : Cont X.K e W σ G2 (if sameO c p x y = true then Out.ok (D.bl true) ρ2 else Out.bad) _ := k2
      rw [if_pos q] at k2
      obtain ⟨q1, q2⟩ := Bool.and_eq_true_iff.mp q
      obtain ⟨q2, q3⟩ := Bool.and_eq_true_iff.mp q2
      obtain ⟨q3, q4⟩ := Bool.and_eq_true_iff.mp q3
      cases D.beq_eq q1
      refine .inr ⟨⟨x, Nat.le_succ_of_le (of_decide_eq_true q4), by simpa using q2, q3, Dn.mono (same_trans g2 S2.ex) _ _ hv, Dn.mono S2.ex _ _ hu⟩, fun H' x' => k2 G2 H' (same_refl G2) (S2.grown x') _ rfl⟩
    · replace k2 : Cont X.K e W σ G2 (if sameO c p x y = true then Out.ok (D.bl true) ρ2 else Out.bad) _ := k2
      rw [if_neg q] at k2
      exact k2.elim
end
end DL
end

section
set_option Elab.async false
set_option linter.all false
set_option maxRecDepth 100000
set_option maxHeartbeats 4000000
namespace DL
open PySem PySem.Spec PyProof.Rows L2

/-! ### the truth of data -/
def D.tru : D → Option Bool
  | .non => some false
  | .bl b => some b
  | .int i => some (i != 0)
  | .str x => if x.length ≤ sizeLine then some ((x.length : Int) != 0) else none
  | .lst xs => some (!xs.isEmpty)
  | .tup xs => some (!xs.isEmpty)
  | .ins _ _ _ => none
def tr (f : Ex D) : Ex Bool := fun ρ => (f ρ).bind fun d ρ1 => ofO d.tru ρ1
def trP (f : Ex (Bool × List D)) : Ex Bool := fun ρ => (f ρ).bind fun p ρ1 => .ok (!p.2.isEmpty) ρ1
theorem dns_empty {K : PySem.W.Frag} {G : Hp} {xs : List D} {vs : List V} (h : Dns K G xs vs) : vs.isEmpty = xs.isEmpty := by
  have := h.len
  cases xs with
  | nil => cases (show vs = [] from h); rfl
  | cons x xs => cases vs with
    | nil => cases this
    | cons v vs => rfl
theorem tru_of {K : PySem.W.Frag} {G H : Hp} {d : D} {v : V} {b : Bool} (g : Same G H) (h : Dn K G d v) (e : d.tru = some b) : TruV K v H b := by
  cases d with
  | non => cases (show v = _ from h); cases e; rfl
  | bl c => cases (show v = _ from h); cases e; rfl
  | int i => cases (show v = _ from h); cases e; rfl
  | str x =>
    cases (show v = _ from h)
    have e : (if x.length ≤ sizeLine then some ((x.length : Int) != 0) else none) = some b := e
    split at e
    · cases e
      rename_i l
      exact ⟨l, rfl⟩
    · cases e
  | lst xs =>
    cases e
    obtain ⟨a, vs, rfl, h1, h2⟩ := h
    exact .inl ⟨vs, sql_mono g h1, by rw [dns_empty h2]⟩
  | tup xs =>
    cases e
    obtain ⟨a, vs, rfl, h1, h2⟩ := h
    exact .inr (.inl ⟨vs, sqt_mono g h1, by rw [dns_empty h2]⟩)
  | ins c ns xs => cases e
section
variable {X : Cx} {B : List Nat} {W : WX} {a : Expr} {f : Ex D} {pos : Pos}
theorem ttr (h : DE X B W a f) (he : ∀ whole, isTrue a X.env whole = (do let v ← whole; standAt a.pos; holding [v] (truthy v)) := by intro _; rfl) : DT X B W a (tr f) := by
  refine pt_imp (pt_truth h he) fun σ H Q h => ?_
  obtain ⟨e, G, ρ, rfl, S, h⟩ := h
  refine ⟨e, G, ρ, rfl, S, (Cont.bind h).imp fun d ρ1 G1 H1 g1 S1 k v hv => ?_⟩
  cases q : d.tru with
  | none => rw [q] at k; exact k.elim
  | some b =>
    rw [q] at k
    exact ⟨b, tru_of S1.ex hv q, k G1 H1 (same_refl G1) S1⟩
theorem ttrP {fp : Ex (Bool × List D)} (h : DP X B W a fp) (he : ∀ whole, isTrue a X.env whole = (do let v ← whole; standAt a.pos; holding [v] (truthy v)) := by intro _; rfl) : DT X B W a (trP fp) := by
  refine pt_imp (pt_truth h he) fun σ H Q h => ?_
  obtain ⟨e, G, ρ, rfl, S, h⟩ := h
  refine ⟨e, G, ρ, rfl, S, (Cont.bind h).imp fun p ρ1 G1 H1 g1 S1 k a vs ha hd => ?_⟩
  refine ⟨!p.2.isEmpty, ?_, k G1 H1 (same_refl G1) S1⟩
  cases q : p.1 with
  | true =>
    rw [q, if_pos rfl] at ha
    exact .inr (.inl ⟨vs, ha, by rw [dns_empty hd]⟩)
  | false =>
    rw [q, if_neg Bool.false_ne_true] at ha
    exact .inl ⟨vs, ha, by rw [dns_empty hd]⟩
end

/-! ### isinstance, instances among the data -/
/-- an own class whose instances may be asked for their class -/
structure InsF (K : PySem.W.Frag) (c : Str) : Prop where
  cl : Cls K (He.ga K c)
  ha : PySem.W.findIn K (.ref (He.ga K c)) "__class__" = some (some (.builtin "object.__class__"))
  hn : PySem.W.specialIn K (.builtin "object.__class__") "__get__" = some (some (.builtin "getset_descriptor.__get__"))
  htk : PySem.W.takesIn K (.builtin "object.__class__") = some true
  hm : PySem.W.mroIn K (He.ga K c) (.type "object") = some true
/-- what isinstance(d, T) answers: by the type of plain data, by a table of the own classes -/
def isiB (n : String) (cs : List (Str × Bool)) : D → Option Bool
  | .ins c _ _ => cs.lookup c
  | d => match d.ty with
    | some t => kitB t n
    | none => none
def isiO (cs : List (Str × Bool)) : D → Option Bool
  | .ins c _ _ => cs.lookup c
  | _ => some false
def plainTys : List String := ["NoneType", "bool", "int", "str", "list", "tuple"]
theorem ty_in {d : D} {t : String} (h : d.ty = some t) : t ∈ plainTys := by
  cases d <;> cases h <;> decide
/-- the table is right -/
structure TabB (K : PySem.W.Frag) (n : String) (cs : List (Str × Bool)) : Prop where
  ins : ∀ c b, cs.lookup c = some b → InsF K c ∧ PySem.W.kitOne K (.ref (He.ga K c)) (.type n) = some b
structure TabO (K : PySem.W.Frag) (C : Addr) (cs : List (Str × Bool)) : Prop where
  ins : ∀ c b, cs.lookup c = some b → InsF K c ∧ PySem.W.kitOne K (.ref (He.ga K c)) (.ref C) = some b
  ty : ∀ t ∈ plainTys, PySem.W.kitOne K (.type t) (.ref C) = some false
theorem isiB_rel {K : PySem.W.Frag} {G H : Hp} {n : String} {cs : List (Str × Bool)} {d : D} {v : V} {b : Bool} (T : TabB K n cs) (g : Same G H) (h : Dn K G d v) (e : isiB n cs d = some b) : ∃ t, TyX K H v t ∧ PySem.W.kitOne K t (.type n) = some b := by
  cases d with
  | ins c ns xs =>
    obtain ⟨F, k⟩ := T.ins c b e
    obtain ⟨a, dx, fs, rfl, h1, h2, h3⟩ := h
    exact ⟨_, .base (.ins (g _ _ h1) F.cl F.ha F.hn F.htk F.hm), k⟩
  | non => exact ⟨_, tyx_of g h rfl, kit_ty e⟩
  | bl b => exact ⟨_, tyx_of g h rfl, kit_ty e⟩
  | int i => exact ⟨_, tyx_of g h rfl, kit_ty e⟩
  | str x => exact ⟨_, tyx_of g h rfl, kit_ty e⟩
  | lst xs => exact ⟨_, tyx_of g h rfl, kit_ty e⟩
  | tup xs => exact ⟨_, tyx_of g h rfl, kit_ty e⟩
theorem isiO_rel {K : PySem.W.Frag} {G H : Hp} {C : Addr} {cs : List (Str × Bool)} {d : D} {v : V} {b : Bool} (T : TabO K C cs) (g : Same G H) (h : Dn K G d v) (e : isiO cs d = some b) : ∃ t, TyX K H v t ∧ PySem.W.kitOne K t (.ref C) = some b := by
  cases d with
  | ins c ns xs =>
    obtain ⟨F, k⟩ := T.ins c b e
    obtain ⟨a, dx, fs, rfl, h1, h2, h3⟩ := h
    exact ⟨_, .base (.ins (g _ _ h1) F.cl F.ha F.hn F.htk F.hm), k⟩
  | non => cases e; exact ⟨_, tyx_of g h rfl, T.ty _ (by decide)⟩
  | bl b => cases e; exact ⟨_, tyx_of g h rfl, T.ty _ (by decide)⟩
  | int i => cases e; exact ⟨_, tyx_of g h rfl, T.ty _ (by decide)⟩
  | str x => cases e; exact ⟨_, tyx_of g h rfl, T.ty _ (by decide)⟩
  | lst xs => cases e; exact ⟨_, tyx_of g h rfl, T.ty _ (by decide)⟩
  | tup xs => cases e; exact ⟨_, tyx_of g h rfl, T.ty _ (by decide)⟩
def opT (tab : D → Option Bool) (d : D) : Option D := (tab d).map D.bl
section
variable {X : Cx} {B : List Nat} {W : WX} {a : Expr} {f : Ex D} {pos : Pos}
theorem disiB {T : Str} {n : String} {cs : List (Str × Bool)} {p p' : Pos} (hT : TabB X.K n cs) (hm : X.mg "isinstance" = none) (hmT : X.mg T = none) (hvT : bootBuiltins T = some (.type n)) (ha : DE X B W a f) (hg : Gl X "isinstance" := by rfl) (hgT : Gl X T := by rfl) (hnT : T ≠ "__name__" := by decide)
    (hdT : (T == ("__debug__" : Str)) = false := by decide) (he : starEach (a :: [Expr.Name T p']) X.env = (false, eval a X.env) :: starEach [Expr.Name T p'] X.env := by rfl) (hpl : (backTo pos (starEach [Expr.Name T p'] X.env)).any (·.1) = false := by rfl)
    (hs2 : starEach (Expr.Name T p' :: []) X.env = (false, eval (Expr.Name T p') X.env) :: starEach [] X.env := by rfl) :
    DE X B W (.Call (.Name "isinstance" p) [a, .Name T p'] [] pos) (un (opT (isiB n cs)) f) := by
  refine pe_imp (pe_callB call_isi hg hm (by decide +kernel) (pa_cons ha (pa_cons (pe_bltn (v := .ty n) hgT hmT hvT rfl hnT hdT) pa_nil hs2) he) (by decide) (by decide) he hpl) fun σ H Q h => ?_
  obtain ⟨e, G, ρ, rfl, S, h⟩ := h
  refine ⟨e, G, ρ, rfl, S, (Cont.bind h).imp fun d ρ' G' H' g S' k v hv => ?_⟩
  unfold opT at k
  cases hz : isiB n cs d with
  | none => rw [hz] at k; exact k.elim
  | some r =>
    rw [hz] at k
    obtain ⟨t, h1, h2⟩ := isiB_rel hT S'.ex hv hz
    exact ⟨v, .ty n, t, .type n, r, rfl, .ty n, h1, h2, k G' H' (same_refl G') S' _ rfl⟩
theorem disiO {c : Str} {C : Addr} {cs : List (Str × Bool)} {p p' : Pos} (hT : TabO X.K C cs) (hm : X.mg "isinstance" = none) (hmC : X.mg c = some (.ref C)) (ha : DE X B W a f) (hg : Gl X "isinstance" := by rfl) (hgT : Gl X c := by rfl)
    (hdT : (c == ("__debug__" : Str)) = false := by decide) (he : starEach (a :: [Expr.Name c p']) X.env = (false, eval a X.env) :: starEach [Expr.Name c p'] X.env := by rfl) (hpl : (backTo pos (starEach [Expr.Name c p'] X.env)).any (·.1) = false := by rfl)
    (hs2 : starEach (Expr.Name c p' :: []) X.env = (false, eval (Expr.Name c p') X.env) :: starEach [] X.env := by rfl) :
    DE X B W (.Call (.Name "isinstance" p) [a, .Name c p'] [] pos) (un (opT (isiO cs)) f) := by
  refine pe_imp (pe_callB call_isi hg hm (by decide +kernel) (pa_cons ha (pa_cons (pe_glob (v := .ref C) hgT hmC rfl hdT) pa_nil hs2) he) (by decide) (by decide) he hpl) fun σ H Q h => ?_
  obtain ⟨e, G, ρ, rfl, S, h⟩ := h
  refine ⟨e, G, ρ, rfl, S, (Cont.bind h).imp fun d ρ' G' H' g S' k v hv => ?_⟩
  unfold opT at k
  cases hz : isiO cs d with
  | none => rw [hz] at k; exact k.elim
  | some r =>
    rw [hz] at k
    obtain ⟨t, h1, h2⟩ := isiO_rel hT S'.ex hv hz
    exact ⟨v, .ref C, t, .ref C, r, rfl, .own C, h1, h2, k G' H' (same_refl G') S' _ rfl⟩
end
end DL
end

section
set_option Elab.async false
set_option linter.all false
set_option maxRecDepth 100000
set_option maxHeartbeats 4000000
namespace DL
open PySem PySem.Spec PyProof.Rows L2
theorem room64 {k : Nat} {A : Around} (r : Room k A) : A.units + 64 < cLine := by have := r.un; omega
theorem room65 {k : Nat} {A : Around} (r : Room k A) : A.units + 65 < cLine := by have := r.un; omega

/-! ### +, of whatever -/
inductive Rz where
  | fl (z : D) | tu (xs : List D) | li (xs : List D)
def Rz.d : Rz → D
  | .fl z => z
  | .tu xs => .tup xs
  | .li xs => .lst xs
def rA (K : PySem.W.Frag) (op : D → D → Option Rz) : R2 := fun x y H Q => ∃ (G : Hp) (d1 d2 : D) (r : Rz), Same G H ∧ Dn K G d1 x ∧ Dn K G d2 y ∧ op d1 d2 = some r ∧ (match r with
  | .fl z => ∀ v, Dn K G z v → Q v H
  | .tu zs => (∀ v, Dn K G (.tup zs) v → Q v H) ∧ ∀ p vs, H p = none → Dns K G zs vs → Q (.ref p) (upd H p (.tup vs))
  | .li zs => ∀ p vs, H p = none → Dns K G zs vs → Q (.ref p) (upd H p (.lst vs)))
def binA (op : D → D → Option Rz) (f g : Ex D) : Ex D := fun ρ => (f ρ).bind fun x ρ1 => (g ρ1).bind fun y ρ2 => ofO ((op x y).map Rz.d) ρ2
section
variable {X : Cx} {B : List Nat} {W : WX} {a b : Expr} {f g : Ex D} {pos : Pos} {op : D → D → Option Rz}
theorem binA_imp {σ : L2.St} {H : Hp} {Q : VK} (h : tD X.K B W (binA op f g) σ H Q) : tOp (rA X.K op) (tD X.K B W f) (tD X.K B W g) σ H Q := by
  obtain ⟨e, G, ρ, rfl, S, h⟩ := h
  refine ⟨e, G, ρ, rfl, S, (Cont.bind h).imp fun x ρ1 G1 H1 g1 S1 k v hv => ?_⟩
  refine ⟨e, G1, ρ1, rfl, S1, (Cont.bind k).imp fun y ρ2 G2 H2 g2 S2 k2 u hu => ?_⟩
  cases hz : op x y with
  | none => rw [hz] at k2; exact k2.elim
  | some r =>
    rw [hz] at k2
    refine ⟨G2, x, y, r, S2.ex, Dn.mono g2 _ _ hv, hu, hz, ?_⟩
    cases r with
    | fl z => exact fun v hv => k2 G2 H2 (same_refl G2) S2 v hv
    | tu zs =>
      refine ⟨fun v hv => k2 G2 H2 (same_refl G2) S2 v hv, fun p vs hp hd => ?_⟩
      have gp := S2.freshG hp
      exact k2 (upd G2 p (.tup vs)) _ (same_new gp) (S2.alloc hp) _ ⟨p, vs, rfl, SqT.of upd_same, Dns.mono (same_new gp) _ _ hd⟩
    | li zs =>
      intro p vs hp hd
      have gp := S2.freshG hp
      exact k2 (upd G2 p (.lst vs)) _ (same_new gp) (S2.alloc hp) _ ⟨p, vs, rfl, SqL.of upd_same, Dns.mono (same_new gp) _ _ hd⟩
theorem dbinA {o : Operator} (ho : OpR X (binaryOp o) (rA X.K op)) (ha : DE X B W a f) (hb : DE X B W b g) : DE X B W (.BinOp a o b pos) (binA op f g) := pe_imp (pe_op ho ha hb) fun _ _ _ h => binA_imp h
def opAddA : D → D → Option Rz
  | .int i, .int j => some (.fl (.int (i + j)))
  | .str x, .str y => if x.length + y.length ≤ sizeLine then some (.fl (.str (x ++ y))) else none
  | .tup xs, .tup ys => if xs.length + ys.length ≤ sizeLine then some (.tu (xs ++ ys)) else none
  | .lst xs, .lst ys => if xs.length + ys.length ≤ sizeLine then some (.li (xs ++ ys)) else none
  | _, _ => none
theorem oaAdd : OpR X (binaryOp .Add) (rA X.K opAddA) := by
  intro pins s σ H x y v u Q I rx ry h
  obtain ⟨G, d1, d2, r, gs, h1, h2, ho, k⟩ := h
  unfold opAddA at ho
  split at ho
  · cases ho
    exact odAdd pins s σ H x y v u Q I rx ry ⟨G, _, _, _, gs, h1, h2, rfl, k⟩
  · split at ho
    · rename_i hl
      cases ho
      exact odAdd pins s σ H x y v u Q I rx ry ⟨G, _, _, _, gs, h1, h2, if_pos hl, k⟩
    · cases ho
  · rename_i xs ys
    split at ho
    · rename_i hl
      cases ho
      have h1' := h1
      have h2' := h2
      obtain ⟨p, vs, rfl, q1, q2⟩ := h1'
      obtain ⟨p', vs', rfl, q1', q2'⟩ := h2'
      refine op_catA pins s σ H _ _ v u Q I rx ry ⟨p, p', vs, vs', rfl, rfl, sqt_mono gs q1, sqt_mono gs q1', by rw [q2.len, q2'.len]; exact hl, fun e0 => ?_, fun _ e1 => ?_, fun _ _ n hn => k.2 n _ hn (q2.append q2')⟩
      · have : xs = [] := by
          have := q2.len
          rw [e0] at this
          exact List.length_eq_zero_iff.mp this.symm
        subst this
        exact k.1 _ h2
      · have : ys = [] := by
          have := q2'.len
          rw [e1] at this
          exact List.length_eq_zero_iff.mp this.symm
        subst this
        refine k.1 _ ?_
        rw [List.append_nil]
        exact h1
    · cases ho
  · rename_i xs ys
    split at ho
    · rename_i hl
      cases ho
      obtain ⟨p, vs, rfl, q1, q2⟩ := h1
      obtain ⟨p', vs', rfl, q1', q2'⟩ := h2
      exact op_catL pins s σ H _ _ v u Q I rx ry ⟨p, p', vs, vs', rfl, rfl, sql_mono gs q1, sql_mono gs q1', by rw [q2.len, q2'.len]; exact hl, fun n hn => k n _ hn (q2.append q2')⟩
    · cases ho
  · cases ho

/-! ### len of data -/
def opLenA : D → Option D
  | .str z => if z.length ≤ sizeLine then some (.int z.length) else none
  | .lst xs => some (.int xs.length)
  | .tup xs => some (.int xs.length)
  | _ => none
theorem cdLenA : CallR X (.builtin "len") (rC1 X.K opLenA) := fun pins s σ H xs us Q I rx h => by
  obtain ⟨G, d, z, x, e, gs, hd, hz, k⟩ := h
  unfold opLenA at hz
  split at hz
  · rename_i y
    exact cdLenS pins s σ H xs us Q I rx ⟨G, .str y, z, x, e, gs, hd, hz, k⟩
  · cases hz
    obtain ⟨a, vs, rfl, h1, h2⟩ := hd
    refine call_len_seq pins s σ H xs us Q I rx ⟨a, vs, e, .inl (sql_mono gs h1), ?_⟩
    rw [h2.len]
    exact k _ rfl
  · cases hz
    obtain ⟨a, vs, rfl, h1, h2⟩ := hd
    refine call_len_seq pins s σ H xs us Q I rx ⟨a, vs, e, .inr (sqt_mono gs h1), ?_⟩
    rw [h2.len]
    exact k _ rfl
  · cases hz

/-! ### // by any number but 0 -/
instance (i j : Int) : Decidable (CDivN i j) := inferInstanceAs (Decidable (j ≠ 0 ∧ j.natAbs < 1073741824))
def okDivN (i j : Int) : Bool := decide (CDivN i j)
def opDivA : D → D → Option D
  | .int i, .int j => if okDiv i j = true then some (.int (i / j)) else if okDivN i j = true then some (.int (i.fdiv j)) else none
  | _, _ => none
theorem odDivA : OpD X (binaryOp .FloorDiv) opDivA := fun pins s σ H x y v u Q I rx ry h => by
  obtain ⟨G, d1, d2, z, gs, h1, h2, hz, k⟩ := h
  unfold opDivA at hz
  split at hz
  · rename_i i j
    split at hz
    · rename_i hc
      exact odDiv pins s σ H x y v u Q I rx ry ⟨G, _, _, z, gs, h1, h2, by show (if okDiv i j = true then some (D.int (i / j)) else none) = some z; rw [if_pos hc]; exact hz, k⟩
    · split at hz
      · rename_i hc
        cases hz
        cases (show x = _ from h1)
        cases (show y = _ from h2)
        exact op_fdivN pins s σ H _ _ v u Q I rx ry ⟨i, j, rfl, rfl, of_decide_eq_true hc, k _ rfl⟩
      · cases hz
  · cases hz
end

end DL
end

section
set_option Elab.async false
set_option linter.all false
set_option maxRecDepth 100000
set_option maxHeartbeats 4000000
/-! What the head tells: the defs (He.DefD), facts (He.Fa), the errors whose __init__ says super().__init__, further facts by a Bool. Own work, over the hand layer's heads. -/
namespace DLH
open PySem PySem.Spec PyProof.Rows L2
abbrev FnC : Type := Option (Str × Str × Arguments × FuncBody × Scope × Addr × List Str × Addr)
def fnC (K : PySem.W.Frag) (p : Str × Option Str) : FnC := match K.lookup (He.fAd K p) with
  | some ⟨_, _, .func fd, _⟩ => some (fd.name, fd.qualname, fd.params, fd.body, fd.scope, fd.globals, fd.closure.map (·.1), fd.builtins)
  | _ => none
/-- an error: its class, __init__'s qualified name, parameters, body, scope, the fields -/
structure ErrD where
  cls : Str
  qual : Str
  params : Arguments
  body : List Stmt
  scope : Scope
  flds : List Str
def ErrD.at_ (d : ErrD) : Str × Option Str := (d.cls, some "__init__")
def ErrD.val (d : ErrD) : FnC := some ("__init__", d.qual, d.params, .stmts d.body, d.scope, mainGlobals, ["__class__"], builtinsNs)
def isNo : Value → Bool
  | .none => true
  | _ => false
theorem isNo_ok {v : Value} (h : isNo v = true) : v = .none := by
  cases v <;> first | rfl | cases h
def isFile (file : Str) : Option Value → Bool
  | some (.str f _) => file == f
  | _ => false
def ErrD.fnB (file : Str) (K : PySem.W.Frag) (d : ErrD) : Bool := match K.lookup (He.fAd K d.at_) with
  | some ⟨_, _, .func fd, _⟩ => isNo fd.defaults && (isNo fd.kwdefaults && (PySem.W.codeIn K fd.code d.qual && ((match fd.closure with
    | [(_, cc)] => (match K.lookup cc with
      | some ⟨_, _, .cell (some (.ref C)), _⟩ => decide (C = He.ga K d.cls)
      | _ => false)
    | _ => false) && (match fd.code with
    | .ref cda => (match K.lookup cda with
      | some ⟨_, _, .fields vs, _⟩ => isFile file vs[2]?
      | _ => false)
    | _ => false))))
  | _ => false
def ErrD.ok (file : Str) (K : PySem.W.Frag) (d : ErrD) : Bool :=
  PySem.W.excInitIn K (He.ga K d.cls) PySem.HandSPX.veTail "ValueError.__new__" && ((match PySem.W.clsIn K (He.ga K d.cls) with
    | some cd => PySem.HandSPX.refsVE cd.mro && cd.hasDict
    | none => false) && (He.eqO (PySem.W.ks_superIn K (He.ga K d.cls) (He.ga K d.cls) "__init__") (some (some (.builtin "ValueError.__init__"))) && (decide (PySem.W.mroIn K (He.ga K d.cls) (.ref (He.ga K d.cls)) = some true) &&
  (decide (PySem.W.subIn K (.ref (He.ga K d.cls)) (.type "ValueError") = some true) && (He.eqO (PySem.W.nsIn K cStatics "thirdparty.any") (some none) && (He.eqO (PySem.W.findIn K (.ref (He.ga K d.cls)) "__setattr__") (some (some (.builtin "object.__setattr__"))) &&
  ((d.flds.all fun f => He.eqO (PySem.W.findIn K (.ref (He.ga K d.cls)) f) (some none)) && (He.eqO (PySem.W.findIn K (.ref (He.ga K d.cls)) "__init__") (some (some (.ref (He.fAd K d.at_)))) && (decide (PySem.W.typeIn K (.ref (He.fAd K d.at_)) = some (.type "function")) &&
  (PySem.W.keepIn K (.ref (He.ga K d.cls)) && (decide (PySem.W.subIn K (.ref (He.ga K d.cls)) (.type "BaseException") = some true) && (decide (PySem.W.typeIn K (.ref (He.ga K d.cls)) = some (.type "type")) && (d.fnB file K &&
  (He.eqO (PySem.W.findIn K (.ref (He.ga K d.cls)) "__getattribute__") (some (some (.builtin "BaseException.__getattribute__"))) && (He.eqO (PySem.W.findIn K (.ref (He.ga K d.cls)) "__getattr__") (some none) && PySem.W.hasDictIn K (He.ga K d.cls))))))))))))))))
/-- what the text alone says of __init__'s scope -/
structure ErrD.Sc (d : ErrD) : Prop where
  ps : ∃ ps : List (Str × Pos), ps.map (·.1) = ("self" : Str) :: d.flds ∧ d.params = EX.iArgs ps
  sup : d.scope.names.lookup ("super" : Str) = some .globalImplicit
  cl : d.scope.names.lookup ("__class__" : Str) = some .free
  loc : ∀ f ∈ ("self" : Str) :: d.flds, d.scope.names.lookup f = some .local
  kind : d.scope.kind = .function
  co : d.scope.isCoroutine = false
  gen : d.scope.isGenerator = false
  ncell : ∀ x ∈ d.scope.names, x.2 ≠ .cell
structure ErrF (prog : Program) (K : PySem.W.Frag) (d : ErrD) : Prop where
  err : EX.Err prog K (He.ga K d.cls) (He.fAd K d.at_) d.body d.flds
  ga : PySem.W.findIn K (.ref (He.ga K d.cls)) "__getattribute__" = some (some (.builtin "BaseException.__getattribute__"))
  gg : PySem.W.findIn K (.ref (He.ga K d.cls)) "__getattr__" = some none
  hd : PySem.W.hasDictIn K (He.ga K d.cls) = true
theorem ErrD.errF {prog : Program} {K : PySem.W.Frag} {d : ErrD} (e : fnC K d.at_ = d.val) (c : d.ok prog.main.file K = true) (S : d.Sc) (htop : (prog.main.scope.names.lookup ("super" : Str)).isSome = false) : ErrF prog K d := by
  unfold ErrD.ok at c
  simp only [Bool.and_eq_true] at c
  obtain ⟨c1, c2, c3, c4, c5, c6, c7, c8, c9, c10, c11, c12, c13, c14, c15, c16, c17⟩ := c
  refine ⟨⟨c1, ?_, He.eqO_ok c3, of_decide_eq_true c4, of_decide_eq_true c5, He.eqO_ok c6, He.eqO_ok c7, fun f hf => He.eqO_ok (List.all_eq_true.mp c8 f hf), He.eqO_ok c9, of_decide_eq_true c10, c11, of_decide_eq_true c12, of_decide_eq_true c13, htop, ?_⟩, He.eqO_ok c15, He.eqO_ok c16, c17⟩
  · cases q : PySem.W.clsIn K (He.ga K d.cls) with
    | none => rw [q] at c2; exact absurd c2 (by simp)
    | some cd =>
      rw [q] at c2
      obtain ⟨h1, h2⟩ := Bool.and_eq_true_iff.mp (show (PySem.HandSPX.refsVE cd.mro && cd.hasDict) = true by simpa using c2)
      exact ⟨cd, rfl, h1, h2⟩
  · unfold ErrD.fnB at c14
    unfold fnC at e
    cases q : K.lookup (He.fAd K d.at_) with
    | none => rw [q] at c14; cases c14
    | some o =>
      obtain ⟨oc, od, dt, osl⟩ := o
      rw [q] at c14 e
      cases dt with
      | func fd =>
        obtain ⟨n1, n2, n3, n4, n5, n6, n7, n8, n9, n10, n11, n12, n13, n14, n15⟩ := fd
        have e2 : (some (n1, n2, n3, n4, n5, n6, n7.map (·.1), n15) : FnC) = (some ("__init__", d.qual, d.params, .stmts d.body, d.scope, mainGlobals, ["__class__"], builtinsNs) : FnC) := e
        simp only [Option.some.injEq, Prod.mk.injEq] at e2
        obtain ⟨h1, h2, h3, h4, h5, h6, h7, h8⟩ := e2
        subst h1 h2 h4 h6 h8
        obtain ⟨k1, c14⟩ := He.ba c14
        obtain ⟨k2, c14⟩ := He.ba c14
        obtain ⟨k3, c14⟩ := He.ba c14
        obtain ⟨k4, k5⟩ := He.ba c14
        have k1 := isNo_ok k1
        have k2 := isNo_ok k2
        subst k1 k2
        obtain ⟨ps, p1, p2⟩ := S.ps
        match n7, h7, k4 with
        | [(y, cc)], h7, k4 =>
          have hy : y = "__class__" := by simpa using h7
          subst hy
          cases n13 with
          | ref cda =>
            have k4' : (match K.lookup cc with
              | some ⟨_, _, .cell (some (.ref C)), _⟩ => decide (C = He.ga K d.cls)
              | _ => false) = true := k4
            have k5' : (match K.lookup cda with
              | some ⟨_, _, .fields vs, _⟩ => isFile prog.main.file vs[2]?
              | _ => false) = true := k5
            split at k4'
            · rename_i cl cld C csl hcc
              have hC := of_decide_eq_true k4'
              subst hC
              split at k5'
              · rename_i ccl cdd vs ccs hcd
                cases hv : vs[2]? with
                | none => rw [hv] at k5'; cases k5'
                | some v0 =>
                 rw [hv] at k5'
                 cases v0 with
                 | str f tf =>
                  refine ⟨ps, _, d.scope, oc, od, n10, n11, n12, cda, n14, osl, cc, ccl, cdd, vs, ccs, f, tf, cl, cld, csl, p1, ?_, k3, hcd, hv, k5', hcc, S.sup, S.cl, S.loc, S.kind, S.co, S.gen, S.ncell⟩
                  subst h3 h5
                  rw [← p2]
                 | _ => cases k5'
              · cases k5'
            · cases k4'
          | _ => cases k5
      | _ => cases c14
/-! ### further facts -/
def insB (K : PySem.W.Frag) (c : Str) : Bool := (He.Fa.cls c).ok K && (He.eqO (PySem.W.findIn K (.ref (He.ga K c)) "__class__") (some (some (.builtin "object.__class__"))) && (He.eqO (PySem.W.specialIn K (.builtin "object.__class__") "__get__") (some (some (.builtin "getset_descriptor.__get__"))) &&
  (decide (PySem.W.takesIn K (.builtin "object.__class__") = some true) && decide (PySem.W.mroIn K (He.ga K c) (.type "object") = some true))))
theorem insB_ok {K : PySem.W.Frag} {c : Str} (h : insB K c = true) : DL.InsF K c := by
  obtain ⟨h1, h⟩ := He.ba h
  obtain ⟨h2, h⟩ := He.ba h
  obtain ⟨h3, h⟩ := He.ba h
  obtain ⟨h4, h5⟩ := He.ba h
  exact ⟨He.cls_ok h1, He.eqO_ok h2, He.eqO_ok h3, of_decide_eq_true h4, of_decide_eq_true h5⟩
def tabBB (K : PySem.W.Frag) (n : String) (cs : List (Str × Bool)) : Bool := cs.all fun q => insB K q.1 && decide (PySem.W.kitOne K (.ref (He.ga K q.1)) (.type n) = some q.2)
def tabOB (K : PySem.W.Frag) (C : Str) (cs : List (Str × Bool)) : Bool := (cs.all fun q => insB K q.1 && decide (PySem.W.kitOne K (.ref (He.ga K q.1)) (.ref (He.ga K C)) = some q.2)) && DL.plainTys.all fun t => decide (PySem.W.kitOne K (.type t) (.ref (He.ga K C)) = some false)
theorem lookup_in {c : Str} {b : Bool} : ∀ {cs : List (Str × Bool)}, cs.lookup c = some b → (c, b) ∈ cs
  | q :: r, h => by
    rw [List.lookup_cons] at h
    cases z : c == q.1 with
    | true =>
      rw [z] at h
      have e1 : c = q.1 := beq_iff_eq.mp z
      have e2 : q.2 = b := Option.some.inj h
      rw [e1, ← e2]
      exact List.mem_cons_self
    | false =>
      rw [z] at h
      exact List.mem_cons_of_mem _ (lookup_in h)
theorem tabBB_ok {K : PySem.W.Frag} {n : String} {cs : List (Str × Bool)} (h : tabBB K n cs = true) : DL.TabB K n cs := ⟨fun c b hl => by
  obtain ⟨h1, h2⟩ := He.ba (List.all_eq_true.mp h _ (lookup_in hl))
  exact ⟨insB_ok h1, of_decide_eq_true h2⟩⟩
theorem tabOB_ok {K : PySem.W.Frag} {C : Str} {cs : List (Str × Bool)} (h : tabOB K C cs = true) : DL.TabO K (He.ga K C) cs := by
  obtain ⟨h0, h3⟩ := He.ba h
  refine ⟨fun c b hl => ?_, fun t ht => of_decide_eq_true (List.all_eq_true.mp h3 t ht)⟩
  obtain ⟨h1, h2⟩ := He.ba (List.all_eq_true.mp h0 _ (lookup_in hl))
  exact ⟨insB_ok h1, of_decide_eq_true h2⟩
def eqB (K : PySem.W.Frag) (c : Str) : Bool := He.eqO (PySem.W.findIn K (.ref (He.ga K c)) "__eq__") (some (some (.ref (He.fAd K (c, some "__eq__"))))) && PySem.W.isFn K (.ref (He.fAd K (c, some "__eq__")))
theorem eqB_ok {K : PySem.W.Frag} {c : Str} (h : eqB K c = true) : PySem.W.findIn K (.ref (He.ga K c)) "__eq__" = some (some (.ref (He.fAd K (c, some "__eq__")))) ∧ PySem.W.isFn K (.ref (He.fAd K (c, some "__eq__"))) = true := by
  obtain ⟨h1, h2⟩ := He.ba h
  exact ⟨He.eqO_ok h1, h2⟩
def clsFB (K : PySem.W.Frag) (cs : List Str) (f : Str) : Bool := cs.all fun c => (He.Fa.cls c).ok K && (He.Fa.noat c f).ok K
theorem clsFB_ok {K : PySem.W.Frag} {cs : List Str} {f : Str} (h : clsFB K cs f = true) : DL.ClsF K cs f := fun c hc => by
  obtain ⟨h1, h2⟩ := He.ba (List.all_eq_true.mp h c hc)
  exact ⟨He.cls_ok h1, He.noat_ok h2⟩
/-- which clause takes which error -/
def exmB (K : PySem.W.Frag) (x : Str) (hit miss : List Str) : Bool := (hit.all fun c => decide (PySem.W.exmOne K (.ref (He.ga K c)) (.ref (He.ga K x)) = some true)) && miss.all fun c => decide (PySem.W.exmOne K (.ref (He.ga K c)) (.ref (He.ga K x)) = some false)
theorem exmB_ok {K : PySem.W.Frag} {x : Str} {hit miss : List Str} (h : exmB K x hit miss = true) : (∀ c ∈ hit, PySem.W.exmOne K (.ref (He.ga K c)) (.ref (He.ga K x)) = some true) ∧ ∀ c ∈ miss, PySem.W.exmOne K (.ref (He.ga K c)) (.ref (He.ga K x)) = some false := by
  obtain ⟨h1, h2⟩ := He.ba h
  exact ⟨fun c hc => of_decide_eq_true (List.all_eq_true.mp h1 c hc), fun c hc => of_decide_eq_true (List.all_eq_true.mp h2 c hc)⟩
/-- the fields of errors that may be read -/
def egB (K : PySem.W.Frag) (cs : List Str) (f : Str) : Bool := cs.all fun c => He.eqO (PySem.W.findIn K (.ref (He.ga K c)) "__getattribute__") (some (some (.builtin "BaseException.__getattribute__"))) && (He.eqO (PySem.W.findIn K (.ref (He.ga K c)) "__getattr__") (some none) &&
  (decide (PySem.W.subIn K (.ref (He.ga K c)) (.type "BaseException") = some true) && (PySem.W.hasDictIn K (He.ga K c) && He.eqO (PySem.W.findIn K (.ref (He.ga K c)) f) (some none))))
theorem egB_ok {K : PySem.W.Frag} {cs : List Str} {f : Str} (h : egB K cs f = true) : ∀ c ∈ cs, DL.ErrG K c f := fun c hc => by
  obtain ⟨h1, h⟩ := He.ba (List.all_eq_true.mp h c hc)
  obtain ⟨h2, h⟩ := He.ba h
  obtain ⟨h3, h⟩ := He.ba h
  obtain ⟨h4, h5⟩ := He.ba h
  exact ⟨He.eqO_ok h1, He.eqO_ok h2, of_decide_eq_true h3, h4, He.eqO_ok h5⟩
theorem ErrF.ek1 {prog : Program} {w : World} {K : PySem.W.Frag} {mg : Str → Option Value} {d : ErrD} (F : ErrF prog K d) (hC : mg d.cls = some (.ref (He.ga K d.cls))) (hs : mg "super" = none) (hm : EX.Makes prog w K mg (He.ga K d.cls) d.flds) : DL.ErrK' prog w K mg d.cls d.flds :=
  ⟨hm, F.err.kC, F.err.exC, F.err.tyC, hC, hs⟩
theorem all_at {K : PySem.W.Frag} {l : List (PySem.W.Frag → Bool)} {f : PySem.W.Frag → Bool} (h : (l.all fun f => f K) = true) (i : Nat) (hi : l[i]? = some f) : f K = true := List.all_eq_true.mp h f (List.mem_of_getElem? hi)
/-! ### the Hook -/
abbrev AlQ : Type := He.AlD × (Bool × List FnC)
def asQ (g : Addr → Option Obj) (n : Nat) : List Addr := cStatics :: He.asD g n
def obsQ (fa : List He.Fa) (fn : List He.DefD) (er : List ErrD) (file : Str) (ex : PySem.W.Frag → Bool) (K : PySem.W.Frag) : AlQ := (He.obsD fa fn K, ((er.all fun d => d.ok file K) && ex K, er.map fun d => fnC K d.at_))
def valQ (fn : List He.DefD) (er : List ErrD) : AlQ := (He.valD fn, (true, er.map ErrD.val))
structure SaysQ (fa : List He.Fa) (fn : List He.DefD) (er : List ErrD) (file : Str) (ex : PySem.W.Frag → Bool) (K : PySem.W.Frag) : Prop where
  d : He.SaysD fa fn K
  eb : ((er.all fun d => d.ok file K) && ex K) = true
  ev : er.map (fun d => fnC K d.at_) = er.map ErrD.val
def obsQG (n : Nat) (fa : List He.Fa) (fn : List He.DefD) (er : List ErrD) (file : Str) (ex : PySem.W.Frag → Bool) (g : Addr → Option Obj) : AlQ := obsQ fa fn er file ex (He.frG g (asQ g n))
def hookQ (n : Nat) (fa : List He.Fa) (fn : List He.DefD) (er : List ErrD) (file : Str) (ex : PySem.W.Frag → Bool) : PySem.W.Hook where
  α := AlQ
  obs := fun s => obsQG n fa fn er file ex s.heap.get?
  val := fun _ => valQ fn er
  says := fun _ h => ∃ K : PySem.W.Frag, K.In h ∧ SaysQ fa fn er file ex K
  of := fun _ _ e => ⟨_, He.frG_in, congrArg (fun z : AlQ => z.1) e, congrArg (fun z : AlQ => z.2.1) e, congrArg (fun z : AlQ => z.2.2) e⟩
  keeps := fun _ _ _ ⟨K, hK, c⟩ k => ⟨K, PySem.W.Frag.In.keeps hK k, c⟩
theorem obsQG_eq {n : Nat} {fa : List He.Fa} {fn : List He.DefD} {er : List ErrD} {file : Str} {ex : PySem.W.Frag → Bool} {g : Addr → Option Obj} {s : Shared} (h : ∀ a, g a = s.heap.get? a) : obsQG n fa fn er file ex g = (hookQ n fa fn er file ex).obs s := by
  have e : g = s.heap.get? := funext h
  rw [e]
  rfl
section
variable {fa : List He.Fa} {fn : List He.DefD} {er : List ErrD} {file : Str} {ex : PySem.W.Frag → Bool} {K : PySem.W.Frag}
theorem SaysQ.fact (c : SaysQ fa fn er file ex K) (i : Nat) {f : He.Fa} (h : fa[i]? = some f := by rfl) : f.ok K = true := c.d.fact i h
theorem SaysQ.more (c : SaysQ fa fn er file ex K) : ex K = true := (He.ba c.eb).2
theorem SaysQ.err {prog : Program} (c : SaysQ fa fn er prog.main.file ex K) (i : Nat) {d : ErrD} (h : er[i]? = some d) (S : d.Sc) (htop : (prog.main.scope.names.lookup ("super" : Str)).isSome = false) : ErrF prog K d := by
  have e2 : (er.map fun d => fnC K d.at_)[i]? = (er.map ErrD.val)[i]? := by rw [c.ev]
  rw [List.getElem?_map, List.getElem?_map, h] at e2
  exact ErrD.errF (Option.some.inj e2) (List.all_eq_true.mp (He.ba c.eb).1 d (List.mem_of_getElem? h)) S htop
/-- the def's own data -/
def fdAt (K : PySem.W.Frag) (p : Str × Option Str) (d0 : FuncData) : FuncData := match K.lookup (He.fAd K p) with
  | some ⟨_, _, .func fd, _⟩ => fd
  | _ => d0
theorem SaysQ.def_ (c : SaysQ fa fn er file ex K) (i : Nat) {d : He.DefD} (d0 : FuncData) (h : fn[i]? = some d := by rfl) : FunD K d.name d.qual d.params d.body d.scope (d.dvs K) (d.kws K) (He.fAd K d.at_) (fdAt K d.at_ d0) := by
  obtain ⟨fd, F⟩ := c.d.def_ i h
  have e : fdAt K d.at_ d0 = fd := by
    obtain ⟨oc, od, dV, kV, doc, pm, an, cdv, ct, osl, rfl, lk, _⟩ := F.ex
    unfold fdAt
    rw [lk]
  rw [e]
  exact F
end
theorem dns_ints {K : PySem.W.Frag} {G : Hp} : ∀ ns : List Int, DL.Dns K G (ns.map DL.D.int) (ns.map V.int)
  | [] => rfl
  | n :: ns => ⟨_, _, rfl, rfl, dns_ints ns⟩
theorem law_sp {K : PySem.W.Frag} {F : DL.Fn} {ns : List Int} {os : List DL.Sl} {H : Hp} {a : Addr} (h : F [.d (.lst (ns.map DL.D.int))] = .rt (.bl true) os) (hS : SqL K H a (ns.map V.int)) : DL.spM K F [.ref a] H (fun v _ => v = .bl true) (fun _ _ _ => False) := by
  refine ⟨H, [.d (.lst (ns.map DL.D.int))], rfl, DL.same_refl H, fun i s hs => ?_, fun i j s t v w b h1 _ _ _ m1 _ => ?_, ?_⟩
  · match i, hs with
    | 0, hs =>
      cases (Option.some.inj hs)
      exact ⟨_, rfl, _, rfl, a, _, rfl, hS, dns_ints ns⟩
    | i + 1, hs => simp at hs
  · match i, h1 with
    | 0, h1 => cases (Option.some.inj h1); exact absurd m1 DL.mad_d
    | i + 1, h1 => simp at h1
  · rw [h]
    exact fun G' H' v A hv => hv
/-- THE END, by such a Hook, the numbers' bits bounded -/
theorem walk_q {l : PySem.W.OpenLaw} {n k : Nat} {q : Program} {loose : List Str} {XP : (Str → Option Value) → Heap → Prop} {YP : World → Heap → Prop} {d : DefRec} {x : Str}
    (hn : l.most = some n) (hn2 : n ≤ sizeLine) (hdf : d.params.defaults = []) (hr : Room k callerA)
    (F : ∀ (w : World) (mg : Str → Option Value) (fa : Addr) (h : Heap), YP w h → h.Ns mainGlobals mg → mg d.name = some (.ref fa) →
      ∃ (K : PySem.W.Frag) (fd : FuncData) (sp : Sp), K.In h ∧ (∀ (s : Shared) (u : Value), BindsTo s fd ⟨[u], []⟩ [(x, u)]) ∧
        (∀ (H : Hp) (a : Addr) (ns : List Int), ns.length ≤ n → (∀ z ∈ ns, Builtin.Int.intBits z ≤ 1048576) → SqL K H a (ns.map V.int) → sp [.ref a] H (fun v _ => v = .bl true) fun _ _ _ => False) ∧
        ∀ base : Heap, K.In base → base.Ns mainGlobals mg → FnOk l.prog w K mg base (L2.CX l.prog w) k fa fd [x] sp) :
    PySem.W.WalkO q loose XP YP l.row.toRowW d [] (fun f vs => PySem.call f vs) := by
  refine Att.attach_callB hn hdf fun w s₀ s₁ mg mb fa o pm cd doc a vs ns G Y ho hd hcd hmg hobj hints hlen hbits hg => ?_
  obtain ⟨K, fd, sp, KX, hb, hsp, hF⟩ := F w mg fa _ Y G.T.g hmg
  refine law_call KX G.T.g G.T.b G.T.builtins G.T.nolimit hg hobj hints (Nat.le_trans hlen hn2) hr hF hb (fun H hO hS => hsp H a ns hlen hbits hS) fun H e s' h => ?_
  obtain ⟨_, _, _, _, _, _, _, _, _, _, _, _, h⟩ := h
  exact h
end DLH
end

section
set_option Elab.async false
set_option linter.all false
set_option maxRecDepth 100000
set_option maxHeartbeats 4000000
/-! Mirrors reckoned with: rows that simp goes by. Own work. -/
namespace DL
open PySem
def mI : Nat → List Sl → List Nat
  | _, [] => []
  | k, s :: r => if isM (some s) = true then k :: mI (k + 1) r else mI (k + 1) r
theorem mI_range : ∀ (ps : List Sl) (k : Nat) (f : Nat → Option Sl), (∀ i : Nat, f (k + i) = ps[i]?) → (List.range' k ps.length).filter (fun i => isM (f i)) = mI k ps
  | [], k, f, h => rfl
  | s :: r, k, f, h => by
    have h0 : f k = some s := by simpa using h 0
    have ih := mI_range r (k + 1) f fun i => by
      have := h (i + 1)
      rw [Nat.add_right_comm, Nat.add_assoc]
      simpa using this
    rw [List.length_cons, List.range'_succ, List.filter_cons, h0, ih]
    simp only [mI]
@[simp] theorem mIdx_ev (ps : List Sl) : mIdx ps = mI 0 ps := by
  unfold mIdx
  rw [List.range_eq_range']
  exact mI_range ps 0 (fun i => ps[i]?) fun i => by rw [Nat.zero_add]
@[simp] theorem mI_nil (k : Nat) : mI k [] = [] := rfl
@[simp] theorem mI_m (k : Nat) (xs : List D) (r : List Sl) : mI k (.m xs :: r) = k :: mI (k + 1) r := rfl
@[simp] theorem mI_o (k : Nat) (c : Str) (ns : List Str) (xs : List D) (r : List Sl) : mI k (.o c ns xs :: r) = k :: mI (k + 1) r := rfl
@[simp] theorem mI_d (k : Nat) (x : D) (r : List Sl) : mI k (.d x :: r) = mI (k + 1) r := rfl
@[simp] theorem mI_no (k : Nat) (r : List Sl) : mI k (.no :: r) = mI (k + 1) r := rfl
@[simp] theorem kit_NoneType_bool : L2.kitB "NoneType" "bool" = some false := by decide +kernel
@[simp] theorem kit_NoneType_int : L2.kitB "NoneType" "int" = some false := by decide +kernel
@[simp] theorem kit_NoneType_str : L2.kitB "NoneType" "str" = some false := by decide +kernel
@[simp] theorem kit_NoneType_list : L2.kitB "NoneType" "list" = some false := by decide +kernel
@[simp] theorem kit_NoneType_tuple : L2.kitB "NoneType" "tuple" = some false := by decide +kernel
@[simp] theorem kit_bool_bool : L2.kitB "bool" "bool" = some true := by decide +kernel
@[simp] theorem kit_bool_int : L2.kitB "bool" "int" = some true := by decide +kernel
@[simp] theorem kit_bool_str : L2.kitB "bool" "str" = some false := by decide +kernel
@[simp] theorem kit_bool_list : L2.kitB "bool" "list" = some false := by decide +kernel
@[simp] theorem kit_bool_tuple : L2.kitB "bool" "tuple" = some false := by decide +kernel
@[simp] theorem kit_int_bool : L2.kitB "int" "bool" = some false := by decide +kernel
@[simp] theorem kit_int_int : L2.kitB "int" "int" = some true := by decide +kernel
@[simp] theorem kit_int_str : L2.kitB "int" "str" = some false := by decide +kernel
@[simp] theorem kit_int_list : L2.kitB "int" "list" = some false := by decide +kernel
@[simp] theorem kit_int_tuple : L2.kitB "int" "tuple" = some false := by decide +kernel
@[simp] theorem kit_str_bool : L2.kitB "str" "bool" = some false := by decide +kernel
@[simp] theorem kit_str_int : L2.kitB "str" "int" = some false := by decide +kernel
@[simp] theorem kit_str_str : L2.kitB "str" "str" = some true := by decide +kernel
@[simp] theorem kit_str_list : L2.kitB "str" "list" = some false := by decide +kernel
@[simp] theorem kit_str_tuple : L2.kitB "str" "tuple" = some false := by decide +kernel
@[simp] theorem kit_list_bool : L2.kitB "list" "bool" = some false := by decide +kernel
@[simp] theorem kit_list_int : L2.kitB "list" "int" = some false := by decide +kernel
@[simp] theorem kit_list_str : L2.kitB "list" "str" = some false := by decide +kernel
@[simp] theorem kit_list_list : L2.kitB "list" "list" = some true := by decide +kernel
@[simp] theorem kit_list_tuple : L2.kitB "list" "tuple" = some false := by decide +kernel
@[simp] theorem kit_tuple_bool : L2.kitB "tuple" "bool" = some false := by decide +kernel
@[simp] theorem kit_tuple_int : L2.kitB "tuple" "int" = some false := by decide +kernel
@[simp] theorem kit_tuple_str : L2.kitB "tuple" "str" = some false := by decide +kernel
@[simp] theorem kit_tuple_list : L2.kitB "tuple" "list" = some false := by decide +kernel
@[simp] theorem kit_tuple_tuple : L2.kitB "tuple" "tuple" = some true := by decide +kernel
@[simp] theorem okEq_int (i : Int) : D.okEq (.int i) = true := rfl
@[simp] theorem okEq_bl (b : Bool) : D.okEq (.bl b) = true := rfl
@[simp] theorem okEq_non : D.okEq .non = true := rfl
@[simp] theorem opEq_int (i j : Int) : opEq (.int i) (.int j) = some (.bl (i == j)) := rfl
@[simp] theorem opNe_int (i j : Int) : opNe (.int i) (.int j) = some (.bl (!(i == j))) := rfl
@[simp] theorem opEq_bl (i j : Bool) : opEq (.bl i) (.bl j) = some (.bl (i == j)) := rfl
@[simp] theorem opNe_bl (i j : Bool) : opNe (.bl i) (.bl j) = some (.bl (!(i == j))) := rfl
section
variable {f g : Sx} {ρ ρ1 : List Sl} {d : D} {e : Ex D} {t : Ex Bool} {B : List Nat} {i : Nat}
theorem seqS_nx (h : f ρ = .nx ρ1) : seqS f g ρ = g ρ1 := by unfold seqS; rw [h]
theorem seqS_rt (h : f ρ = .rt d ρ1) : seqS f g ρ = .rt d ρ1 := by unfold seqS; rw [h]
theorem asg_ok (h : e ρ = .ok d ρ1) (hi : i ∉ B) : asg B i e ρ = .nx (ρ1.set i (.d d)) := by unfold asg Out.then; rw [h]; exact if_neg hi
theorem asgM_ok {m : Ex (List D)} {xs : List D} (h : m ρ = .ok xs ρ1) (hi : i ∉ B) : asgM B i m ρ = .nx (ρ1.set i (.m xs)) := by unfold asgM Out.then; rw [h]; exact if_neg hi
theorem ifS_t (h : t ρ = .ok true ρ1) : ifS t f g ρ = f ρ1 := by unfold ifS Out.then; rw [h]; rfl
theorem ifS_f (h : t ρ = .ok false ρ1) : ifS t f g ρ = g ρ1 := by unfold ifS Out.then; rw [h]; rfl
theorem ret_ok (h : e ρ = .ok d ρ1) : DL.ret e ρ = .rt d ρ1 := by unfold DL.ret Out.then; rw [h]
theorem frz_ok {m : Ex (List D)} {xs : List D} (h : m ρ = .ok xs ρ1) : frz m ρ = .ok (.lst xs) ρ1 := by unfold frz Out.bind; rw [h]
theorem forS_ok {it : Ex (List D)} {b : Bd} {xs : List D} (h : it ρ = .ok xs ρ1) : forS it b f ρ = loop b f xs ρ1 := by unfold forS Out.then; rw [h]
theorem lc_ok {vs : List Nat} {it : Ex (List D)} {b : Bd} {xs ys : List D} {ρ2 : List Sl} (h : it ρ = .ok xs ρ1) (hl : xs.length ≤ sizeLine) (h2 : lcL vs b t e xs [] (wipeS ρ1 vs) = some (ys, ρ2)) : lc vs it b t e ρ = .ok ys (backS ρ1 (wipeS ρ2 vs) vs) := by
  unfold lc Out.bind
  rw [h]
  show (if xs.length ≤ sizeLine then _ else _) = _
  rw [if_pos hl, h2]
theorem bin_ok {op : D → D → Option D} {a b : Ex D} {x y z : D} {ρ2 : List Sl} (h : a ρ = .ok x ρ1) (h2 : b ρ1 = .ok y ρ2) (h3 : op x y = some z) : DL.bin op a b ρ = .ok z ρ2 := by
  have e1 : DL.bin op a b ρ = (a ρ).bind fun x ρ1 => (b ρ1).bind fun y ρ2 => ofO (op x y) ρ2 := rfl
  rw [e1, h]
  have e2 : (Out.ok x ρ1).bind (fun x ρ1 => (b ρ1).bind fun y ρ2 => ofO (op x y) ρ2) = (b ρ1).bind fun y ρ2 => ofO (op x y) ρ2 := rfl
  rw [e2, h2]
  have e3 : (Out.ok y ρ2).bind (fun y ρ2 => ofO (op x y) ρ2) = ofO (op x y) ρ2 := rfl
  rw [e3, h3]
  rfl
def eqFin (c : Str) (p : List Str → List D → Bool) (x y : D) (ρ : List Sl) : Out D := match opEq x y with
  | some z => .ok z ρ
  | none => if sameO c p x y = true then .ok (.bl true) ρ else .bad
theorem eqO_ok {c : Str} {p : List Str → List D → Bool} {a b : Ex D} {x y : D} {ρ2 : List Sl} (h : a ρ = .ok x ρ1) (h2 : b ρ1 = .ok y ρ2) : eqO c p a b ρ = eqFin c p x y ρ2 := by
  have e1 : eqO c p a b ρ = (a ρ).bind fun x ρ1 => (b ρ1).bind fun y ρ2 => eqFin c p x y ρ2 := rfl
  rw [e1, h]
  have e2 : (Out.ok x ρ1).bind (fun x ρ1 => (b ρ1).bind fun y ρ2 => eqFin c p x y ρ2) = (b ρ1).bind fun y ρ2 => eqFin c p x y ρ2 := rfl
  rw [e2, h2]
  rfl
theorem aD_ok {a : Ex D} {b : Ex (List AV)} {x : D} {as : List AV} {ρ2 : List Sl} (h : a ρ = .ok x ρ1) (h2 : b ρ1 = .ok as ρ2) : aD a b ρ = .ok (.dv x :: as) ρ2 := by
  have e1 : aD a b ρ = (a ρ).bind fun x ρ1 => (b ρ1).bind fun as ρ2 => .ok (.dv x :: as) ρ2 := rfl
  rw [e1, h]
  have e2 : (Out.ok x ρ1).bind (fun x ρ1 => (b ρ1).bind fun as ρ2 => .ok (AV.dv x :: as) ρ2) = (b ρ1).bind fun as ρ2 => .ok (AV.dv x :: as) ρ2 := rfl
  rw [e2, h2]
  rfl
theorem mkLst_ok {b : Ex (List AV)} {as : List AV} {xs : List D} (h : b ρ = .ok as ρ1) (h2 : dvs as = some xs) (h3 : xs.length ≤ sizeLine) : mkLst b ρ = .ok xs ρ1 := by
  have e1 : mkLst b ρ = (b ρ).bind fun as ρ1 => match dvs as with
    | some xs => if xs.length ≤ sizeLine then .ok xs ρ1 else .bad
    | none => .bad := rfl
  rw [e1, h]
  show (match dvs as with
    | some xs => if xs.length ≤ sizeLine then Out.ok xs ρ1 else .bad
    | none => .bad) = _
  rw [h2]
  exact if_pos h3
theorem eand_t {a b : Ex D} (h : a ρ = .ok (.bl true) ρ1) : eand a b ρ = b ρ1 := by
  unfold eand Out.bind
  rw [h]
  rfl
theorem mkFn_rt {n N : Nat} {body : Sx} {ps : List Sl} (hn : ps.length = n) (hm : mI 0 ps = B) (h : body (ps ++ List.replicate (N - n) .no) = .rt d ρ) : mkFn n N B body ps = .rt d (outs B n ρ) := by
  unfold mkFn
  rw [if_pos ⟨hn, by rw [mIdx_ev]; exact hm⟩, h]
theorem mkFn_nx {n N : Nat} {body : Sx} {ps : List Sl} (hn : ps.length = n) (hm : mI 0 ps = B) (h : body (ps ++ List.replicate (N - n) .no) = .nx ρ) : mkFn n N B body ps = .rt .non (outs B n ρ) := by
  unfold mkFn
  rw [if_pos ⟨hn, by rw [mIdx_ev]; exact hm⟩, h]
end
end DL
end

section
set_option Elab.async false
set_option linter.all false
set_option maxRecDepth 100000
set_option maxHeartbeats 0
namespace Hd
open PySem PySem.Spec PyProof.Rows L2 DL DLH
def top (i : Nat) : Stmt := PySem.Challenge.pw_wishunseen_k03_fields_and_inverses.main.body.getD i (.Pass ⟨0, 0, 0, 0⟩)
def clsBody : Stmt → List Stmt
  | .ClassDef (body := b) .. => b
  | _ => []
def mth (i j : Nat) : Stmt := (clsBody (top i)).getD j (.Pass ⟨0, 0, 0, 0⟩)
abbrev s__law_is_field : Stmt := top 22
def d__law_is_field : He.DefD := ⟨("_law_is_field", none), "_law_is_field", "_law_is_field", defArgs s__law_is_field, defBody s__law_is_field, defScope s__law_is_field, [], []⟩
abbrev s__law_take : Stmt := top 20
def d__law_take : He.DefD := ⟨("_law_take", none), "_law_take", "_law_take", defArgs s__law_take, defBody s__law_take, defScope s__law_take, [], []⟩
abbrev s__law_field : Stmt := top 23
def d__law_field : He.DefD := ⟨("_law_field", none), "_law_field", "_law_field", defArgs s__law_field, defBody s__law_field, defScope s__law_field, [], []⟩
abbrev s_is_integer : Stmt := top 7
def d_is_integer : He.DefD := ⟨("is_integer", none), "is_integer", "is_integer", defArgs s_is_integer, defBody s_is_integer, defScope s_is_integer, [], []⟩
abbrev s_is_field : Stmt := top 12
def d_is_field : He.DefD := ⟨("is_field", none), "is_field", "is_field", defArgs s_is_field, defBody s_is_field, defScope s_is_field, [], []⟩
abbrev s_is_number : Stmt := top 8
def d_is_number : He.DefD := ⟨("is_number", none), "is_number", "is_number", defArgs s_is_number, defBody s_is_number, defScope s_is_number, [], []⟩
abbrev s_is_letter : Stmt := top 13
def d_is_letter : He.DefD := ⟨("is_letter", none), "is_letter", "is_letter", defArgs s_is_letter, defBody s_is_letter, defScope s_is_letter, [], []⟩
abbrev s_inverse_of : Stmt := top 14
def d_inverse_of : He.DefD := ⟨("inverse_of", none), "inverse_of", "inverse_of", defArgs s_inverse_of, defBody s_inverse_of, defScope s_inverse_of, [], []⟩
abbrev s__law_told : Stmt := top 27
def d__law_told : He.DefD := ⟨("_law_told", none), "_law_told", "_law_told", defArgs s__law_told, defBody s__law_told, defScope s__law_told, [], []⟩
abbrev s_common_divisor : Stmt := top 9
def d_common_divisor : He.DefD := ⟨("common_divisor", none), "common_divisor", "common_divisor", defArgs s_common_divisor, defBody s_common_divisor, defScope s_common_divisor, [], []⟩
abbrev s_Shareu_initu : Stmt := mth 17 0
def d_Shareu_initu : He.DefD := ⟨("Share", some "__init__"), "__init__", "Share.__init__", defArgs s_Shareu_initu, defBody s_Shareu_initu, defScope s_Shareu_initu, [.int 1], []⟩
abbrev s__law_odd : Stmt := top 21
def d__law_odd : He.DefD := ⟨("_law_odd", none), "_law_odd", "_law_odd", defArgs s__law_odd, defBody s__law_odd, defScope s__law_odd, [], []⟩
abbrev s__law_no_field : Stmt := top 24
def d__law_no_field : He.DefD := ⟨("_law_no_field", none), "_law_no_field", "_law_no_field", defArgs s__law_no_field, defBody s__law_no_field, defScope s__law_no_field, [], []⟩
abbrev s_parts_of : Stmt := top 16
def d_parts_of : He.DefD := ⟨("parts_of", none), "parts_of", "parts_of", defArgs s_parts_of, defBody s_parts_of, defScope s_parts_of, [], []⟩
abbrev s_Shareu_equ : Stmt := mth 17 8
def d_Shareu_equ : He.DefD := ⟨("Share", some "__eq__"), "__eq__", "Share.__eq__", defArgs s_Shareu_equ, defBody s_Shareu_equ, defScope s_Shareu_equ, [], []⟩
abbrev s__law_refuses : Stmt := top 28
def d__law_refuses : He.DefD := ⟨("_law_refuses", none), "_law_refuses", "_law_refuses", defArgs s__law_refuses, defBody s__law_refuses, defScope s__law_refuses, [], []⟩
abbrev s__law_draws : Stmt := top 19
def d__law_draws : He.DefD := ⟨("_law_draws", none), "_law_draws", "_law_draws", defArgs s__law_draws, defBody s__law_draws, defScope s__law_draws, [], []⟩
abbrev s__law_like : Stmt := top 26
def d__law_like : He.DefD := ⟨("_law_like", none), "_law_like", "_law_like", defArgs s__law_like, defBody s__law_like, defScope s__law_like, [], []⟩
abbrev s__law_inverse : Stmt := top 25
def d__law_inverse : He.DefD := ⟨("_law_inverse", none), "_law_inverse", "_law_inverse", defArgs s__law_inverse, defBody s__law_inverse, defScope s__law_inverse, [], []⟩
abbrev s_law : Stmt := top 29
def d_law : He.DefD := ⟨("law", none), "law", "law", defArgs s_law, defBody s_law, defScope s_law, [], []⟩
abbrev s_InvalidNumberu_initu : Stmt := mth 3 0
def e_InvalidNumber : ErrD := ⟨"InvalidNumber", "InvalidNumber.__init__", defArgs s_InvalidNumberu_initu, defBody s_InvalidNumberu_initu, defScope s_InvalidNumberu_initu, ["value"]⟩
abbrev s_InvalidShareu_initu : Stmt := mth 4 0
def e_InvalidShare : ErrD := ⟨"InvalidShare", "InvalidShare.__init__", defArgs s_InvalidShareu_initu, defBody s_InvalidShareu_initu, defScope s_InvalidShareu_initu, ["value"]⟩
abbrev s_Undefinedu_initu : Stmt := mth 5 0
def e_Undefined : ErrD := ⟨"Undefined", "Undefined.__init__", defArgs s_Undefinedu_initu, defBody s_Undefinedu_initu, defScope s_Undefinedu_initu, ["what"]⟩
def fn0 : List He.DefD := [d__law_is_field, d__law_take, d__law_field, d_is_integer, d_is_field, d_is_number, d_is_letter, d_inverse_of, d__law_told, d_common_divisor, d_Shareu_initu, d__law_odd, d__law_no_field, d_parts_of, d_Shareu_equ, d__law_refuses, d__law_draws, d__law_like, d__law_inverse, d_law]
def fn : List He.DefD := fn0
def fa0 : List He.Fa := [.glo "FIELDS", .glo "InvalidNumber", .glo "InvalidShare", .glo "Share", .glo "Undefined", .glo "_law_draws", .glo "_law_field", .glo "_law_inverse", .glo "_law_is_field", .glo "_law_like", .glo "_law_no_field", .glo "_law_odd", .glo "_law_refuses", .glo "_law_take", .glo "_law_told", .glo "common_divisor", .glo "inverse_of", .glo "is_field", .glo "is_integer", .glo "is_letter", .glo "is_number", .glo "law", .glo "parts_of", .free "abs", .free "bool", .free "int", .free "isinstance", .free "len", .free "range", .free "super"]
def fa1 : List He.Fa := [.free "tuple", .mkr "Share"]
def fa : List He.Fa := fa0 ++ fa1
def er0 : List ErrD := [e_InvalidNumber, e_InvalidShare, e_Undefined]
def er : List ErrD := er0
def exs0 : List (PySem.W.Frag → Bool) := [fun K => tabBB K "int" [("Share", false)], fun K => tabBB K "bool" [("Share", false)], fun K => He.tupB K "FIELDS" [.int 2, .int 3, .int 5, .int 7, .int 11, .int 13, .int 17, .int 19, .int 23, .int 29, .int 31], fun K => clsFB K ["Share"] "top", fun K => clsFB K ["Share"] "bottom", fun K => tabOB K "Share" [("Share", true)], fun K => noLst K, fun K => eqB K "Share", fun K => exmB K "InvalidNumber" ["InvalidNumber"] ["InvalidShare", "Undefined"], fun K => exmB K "Undefined" ["Undefined"] ["InvalidNumber", "InvalidShare"], fun K => egB K ["InvalidNumber"] "value", fun K => egB K ["Undefined"] "what"]
def exs : List (PySem.W.Frag → Bool) := exs0
def loose0 : List PySem.Str := ["_wall", "WishError", "InvalidNumber", "InvalidShare", "Undefined", "is_integer", "is_number", "common_divisor", "FIELDS", "is_field", "is_letter", "inverse_of", "parts_of", "Share", "_law_draws", "_law_take", "_law_odd", "_law_is_field", "_law_field", "_law_no_field", "_law_inverse", "_law_like", "_law_told", "_law_refuses"]
def loose : List PySem.Str := loose0
abbrev R : PySem.W.OpenRow := PySem.W.OpenLaw.row PySem.Challenge.rw_wishunseen_k03_fields_and_inverses
abbrev fileOf : Str := (PySem.Challenge.rw_wishunseen_k03_fields_and_inverses).prog.main.file
abbrev exF : PySem.W.Frag → Bool := fun K => exs.all fun f => f K
abbrev hk : PySem.W.Hook := hookQ 5 fa fn er fileOf exF
def ob (s : PySem.W.SharedT) : AlQ := obsQG 5 fa fn er fileOf exF (HandSHeadRun.getT s)
theorem ob_eq (s : PySem.W.SharedT) : ob s = hk.obs s.abs := obsQG_eq (HandSHeadRun.getT_eq s)
theorem run (w : World) : HandSHeadRun.RunEq R (PySem.W.view R.prog [29]) hk ob 20000 loose w := by
  intro os
  kernel_rfl
def d0 : FuncData := PySem.W.fnOf "x" "x" (defArgs (top 0)) [] (defScope (top 0)) .none .none .none .none none .none .none
theorem sc_e_InvalidNumber : e_InvalidNumber.Sc := ⟨⟨e_InvalidNumber.params.args.map fun a => (a.arg, a.pos), rfl, rfl⟩, rfl, rfl, by decide +kernel, rfl, rfl, rfl, by decide +kernel⟩
theorem sc_e_InvalidShare : e_InvalidShare.Sc := ⟨⟨e_InvalidShare.params.args.map fun a => (a.arg, a.pos), rfl, rfl⟩, rfl, rfl, by decide +kernel, rfl, rfl, rfl, by decide +kernel⟩
theorem sc_e_Undefined : e_Undefined.Sc := ⟨⟨e_Undefined.params.args.map fun a => (a.arg, a.pos), rfl, rfl⟩, rfl, rfl, by decide +kernel, rfl, rfl, rfl, by decide +kernel⟩
structure Fc (P : Program) (K : PySem.W.Frag) (mg : Str → Option Value) : Prop where
  g_FIELDS : mg "FIELDS" = some (.ref (He.ga K "FIELDS"))
  g_InvalidNumber : mg "InvalidNumber" = some (.ref (He.ga K "InvalidNumber"))
  g_InvalidShare : mg "InvalidShare" = some (.ref (He.ga K "InvalidShare"))
  g_Share : mg "Share" = some (.ref (He.ga K "Share"))
  g_Undefined : mg "Undefined" = some (.ref (He.ga K "Undefined"))
  g__law_draws : mg "_law_draws" = some (.ref (He.ga K "_law_draws"))
  g__law_field : mg "_law_field" = some (.ref (He.ga K "_law_field"))
  g__law_inverse : mg "_law_inverse" = some (.ref (He.ga K "_law_inverse"))
  g__law_is_field : mg "_law_is_field" = some (.ref (He.ga K "_law_is_field"))
  g__law_like : mg "_law_like" = some (.ref (He.ga K "_law_like"))
  g__law_no_field : mg "_law_no_field" = some (.ref (He.ga K "_law_no_field"))
  g__law_odd : mg "_law_odd" = some (.ref (He.ga K "_law_odd"))
  g__law_refuses : mg "_law_refuses" = some (.ref (He.ga K "_law_refuses"))
  g__law_take : mg "_law_take" = some (.ref (He.ga K "_law_take"))
  g__law_told : mg "_law_told" = some (.ref (He.ga K "_law_told"))
  g_common_divisor : mg "common_divisor" = some (.ref (He.ga K "common_divisor"))
  g_inverse_of : mg "inverse_of" = some (.ref (He.ga K "inverse_of"))
  g_is_field : mg "is_field" = some (.ref (He.ga K "is_field"))
  g_is_integer : mg "is_integer" = some (.ref (He.ga K "is_integer"))
  g_is_letter : mg "is_letter" = some (.ref (He.ga K "is_letter"))
  g_is_number : mg "is_number" = some (.ref (He.ga K "is_number"))
  g_law : mg "law" = some (.ref (He.ga K "law"))
  g_parts_of : mg "parts_of" = some (.ref (He.ga K "parts_of"))
  b_abs : mg "abs" = none
  b_bool : mg "bool" = none
  b_int : mg "int" = none
  b_isinstance : mg "isinstance" = none
  b_len : mg "len" = none
  b_range : mg "range" = none
  b_super : mg "super" = none
  b_tuple : mg "tuple" = none
  mk_Share : Mk K (He.ga K "Share") (He.ma K (He.ga K "Share") "__init__")
  tb_int : TabB K "int" [("Share", false)]
  tb_bool : TabB K "bool" [("Share", false)]
  k_FIELDS : He.tupB K "FIELDS" [.int 2, .int 3, .int 5, .int 7, .int 11, .int 13, .int 17, .int 19, .int 23, .int 29, .int 31] = true
  cf_top : ClsF K ["Share"] "top"
  cf_bottom : ClsF K ["Share"] "bottom"
  to_Share : TabO K (He.ga K "Share") [("Share", true)]
  nol : noLst K = true
  eq_Share : PySem.W.findIn K (.ref (He.ga K "Share")) "__eq__" = some (some (.ref (He.fAd K ("Share", some "__eq__")))) ∧ PySem.W.isFn K (.ref (He.fAd K ("Share", some "__eq__"))) = true
  exm_InvalidNumber : (∀ c ∈ (["InvalidNumber"] : List Str), PySem.W.exmOne K (.ref (He.ga K c)) (.ref (He.ga K "InvalidNumber")) = some true) ∧ ∀ c ∈ (["InvalidShare", "Undefined"] : List Str), PySem.W.exmOne K (.ref (He.ga K c)) (.ref (He.ga K "InvalidNumber")) = some false
  exm_Undefined : (∀ c ∈ (["Undefined"] : List Str), PySem.W.exmOne K (.ref (He.ga K c)) (.ref (He.ga K "Undefined")) = some true) ∧ ∀ c ∈ (["InvalidNumber", "InvalidShare"] : List Str), PySem.W.exmOne K (.ref (He.ga K c)) (.ref (He.ga K "Undefined")) = some false
  eg_value_InvalidNumber : ∀ c ∈ (["InvalidNumber"] : List Str), ErrG K c "value"
  eg_what_Undefined : ∀ c ∈ (["Undefined"] : List Str), ErrG K c "what"
  fd__law_is_field : FunD K "_law_is_field" "_law_is_field" (defArgs s__law_is_field) (defBody s__law_is_field) (defScope s__law_is_field) (d__law_is_field.dvs K) (d__law_is_field.kws K) (He.fAd K d__law_is_field.at_) (fdAt K d__law_is_field.at_ d0)
  fd__law_take : FunD K "_law_take" "_law_take" (defArgs s__law_take) (defBody s__law_take) (defScope s__law_take) (d__law_take.dvs K) (d__law_take.kws K) (He.fAd K d__law_take.at_) (fdAt K d__law_take.at_ d0)
  fd__law_field : FunD K "_law_field" "_law_field" (defArgs s__law_field) (defBody s__law_field) (defScope s__law_field) (d__law_field.dvs K) (d__law_field.kws K) (He.fAd K d__law_field.at_) (fdAt K d__law_field.at_ d0)
  fd_is_integer : FunD K "is_integer" "is_integer" (defArgs s_is_integer) (defBody s_is_integer) (defScope s_is_integer) (d_is_integer.dvs K) (d_is_integer.kws K) (He.fAd K d_is_integer.at_) (fdAt K d_is_integer.at_ d0)
  fd_is_field : FunD K "is_field" "is_field" (defArgs s_is_field) (defBody s_is_field) (defScope s_is_field) (d_is_field.dvs K) (d_is_field.kws K) (He.fAd K d_is_field.at_) (fdAt K d_is_field.at_ d0)
  fd_is_number : FunD K "is_number" "is_number" (defArgs s_is_number) (defBody s_is_number) (defScope s_is_number) (d_is_number.dvs K) (d_is_number.kws K) (He.fAd K d_is_number.at_) (fdAt K d_is_number.at_ d0)
  fd_is_letter : FunD K "is_letter" "is_letter" (defArgs s_is_letter) (defBody s_is_letter) (defScope s_is_letter) (d_is_letter.dvs K) (d_is_letter.kws K) (He.fAd K d_is_letter.at_) (fdAt K d_is_letter.at_ d0)
  fd_inverse_of : FunD K "inverse_of" "inverse_of" (defArgs s_inverse_of) (defBody s_inverse_of) (defScope s_inverse_of) (d_inverse_of.dvs K) (d_inverse_of.kws K) (He.fAd K d_inverse_of.at_) (fdAt K d_inverse_of.at_ d0)
  fd__law_told : FunD K "_law_told" "_law_told" (defArgs s__law_told) (defBody s__law_told) (defScope s__law_told) (d__law_told.dvs K) (d__law_told.kws K) (He.fAd K d__law_told.at_) (fdAt K d__law_told.at_ d0)
  fd_common_divisor : FunD K "common_divisor" "common_divisor" (defArgs s_common_divisor) (defBody s_common_divisor) (defScope s_common_divisor) (d_common_divisor.dvs K) (d_common_divisor.kws K) (He.fAd K d_common_divisor.at_) (fdAt K d_common_divisor.at_ d0)
  fd_Shareu_initu : FunD K "__init__" "Share.__init__" (defArgs s_Shareu_initu) (defBody s_Shareu_initu) (defScope s_Shareu_initu) (d_Shareu_initu.dvs K) (d_Shareu_initu.kws K) (He.fAd K d_Shareu_initu.at_) (fdAt K d_Shareu_initu.at_ d0)
  fd__law_odd : FunD K "_law_odd" "_law_odd" (defArgs s__law_odd) (defBody s__law_odd) (defScope s__law_odd) (d__law_odd.dvs K) (d__law_odd.kws K) (He.fAd K d__law_odd.at_) (fdAt K d__law_odd.at_ d0)
  fd__law_no_field : FunD K "_law_no_field" "_law_no_field" (defArgs s__law_no_field) (defBody s__law_no_field) (defScope s__law_no_field) (d__law_no_field.dvs K) (d__law_no_field.kws K) (He.fAd K d__law_no_field.at_) (fdAt K d__law_no_field.at_ d0)
  fd_parts_of : FunD K "parts_of" "parts_of" (defArgs s_parts_of) (defBody s_parts_of) (defScope s_parts_of) (d_parts_of.dvs K) (d_parts_of.kws K) (He.fAd K d_parts_of.at_) (fdAt K d_parts_of.at_ d0)
  fd_Shareu_equ : FunD K "__eq__" "Share.__eq__" (defArgs s_Shareu_equ) (defBody s_Shareu_equ) (defScope s_Shareu_equ) (d_Shareu_equ.dvs K) (d_Shareu_equ.kws K) (He.fAd K d_Shareu_equ.at_) (fdAt K d_Shareu_equ.at_ d0)
  fd__law_refuses : FunD K "_law_refuses" "_law_refuses" (defArgs s__law_refuses) (defBody s__law_refuses) (defScope s__law_refuses) (d__law_refuses.dvs K) (d__law_refuses.kws K) (He.fAd K d__law_refuses.at_) (fdAt K d__law_refuses.at_ d0)
  fd__law_draws : FunD K "_law_draws" "_law_draws" (defArgs s__law_draws) (defBody s__law_draws) (defScope s__law_draws) (d__law_draws.dvs K) (d__law_draws.kws K) (He.fAd K d__law_draws.at_) (fdAt K d__law_draws.at_ d0)
  fd__law_like : FunD K "_law_like" "_law_like" (defArgs s__law_like) (defBody s__law_like) (defScope s__law_like) (d__law_like.dvs K) (d__law_like.kws K) (He.fAd K d__law_like.at_) (fdAt K d__law_like.at_ d0)
  fd__law_inverse : FunD K "_law_inverse" "_law_inverse" (defArgs s__law_inverse) (defBody s__law_inverse) (defScope s__law_inverse) (d__law_inverse.dvs K) (d__law_inverse.kws K) (He.fAd K d__law_inverse.at_) (fdAt K d__law_inverse.at_ d0)
  fd_law : FunD K "law" "law" (defArgs s_law) (defBody s_law) (defScope s_law) (d_law.dvs K) (d_law.kws K) (He.fAd K d_law.at_) (fdAt K d_law.at_ d0)
  er_InvalidNumber : ErrF P K e_InvalidNumber
  er_InvalidShare : ErrF P K e_InvalidShare
  er_Undefined : ErrF P K e_Undefined
theorem fc_of {P : Program} {K : PySem.W.Frag} {h : Heap} {mg : Str → Option Value} (hP : P = (PySem.Challenge.rw_wishunseen_k03_fields_and_inverses).prog) (X : K.In h) (G : h.Ns mainGlobals mg) (s : SaysQ fa fn er P.main.file exF K) : Fc P K mg :=
  ⟨He.glo_ok X G (s.fact 0 (f := .glo "FIELDS") rfl),
  He.glo_ok X G (s.fact 1 (f := .glo "InvalidNumber") rfl),
  He.glo_ok X G (s.fact 2 (f := .glo "InvalidShare") rfl),
  He.glo_ok X G (s.fact 3 (f := .glo "Share") rfl),
  He.glo_ok X G (s.fact 4 (f := .glo "Undefined") rfl),
  He.glo_ok X G (s.fact 5 (f := .glo "_law_draws") rfl),
  He.glo_ok X G (s.fact 6 (f := .glo "_law_field") rfl),
  He.glo_ok X G (s.fact 7 (f := .glo "_law_inverse") rfl),
  He.glo_ok X G (s.fact 8 (f := .glo "_law_is_field") rfl),
  He.glo_ok X G (s.fact 9 (f := .glo "_law_like") rfl),
  He.glo_ok X G (s.fact 10 (f := .glo "_law_no_field") rfl),
  He.glo_ok X G (s.fact 11 (f := .glo "_law_odd") rfl),
  He.glo_ok X G (s.fact 12 (f := .glo "_law_refuses") rfl),
  He.glo_ok X G (s.fact 13 (f := .glo "_law_take") rfl),
  He.glo_ok X G (s.fact 14 (f := .glo "_law_told") rfl),
  He.glo_ok X G (s.fact 15 (f := .glo "common_divisor") rfl),
  He.glo_ok X G (s.fact 16 (f := .glo "inverse_of") rfl),
  He.glo_ok X G (s.fact 17 (f := .glo "is_field") rfl),
  He.glo_ok X G (s.fact 18 (f := .glo "is_integer") rfl),
  He.glo_ok X G (s.fact 19 (f := .glo "is_letter") rfl),
  He.glo_ok X G (s.fact 20 (f := .glo "is_number") rfl),
  He.glo_ok X G (s.fact 21 (f := .glo "law") rfl),
  He.glo_ok X G (s.fact 22 (f := .glo "parts_of") rfl),
  He.free_ok X G (s.fact 23 (f := .free "abs") rfl),
  He.free_ok X G (s.fact 24 (f := .free "bool") rfl),
  He.free_ok X G (s.fact 25 (f := .free "int") rfl),
  He.free_ok X G (s.fact 26 (f := .free "isinstance") rfl),
  He.free_ok X G (s.fact 27 (f := .free "len") rfl),
  He.free_ok X G (s.fact 28 (f := .free "range") rfl),
  He.free_ok X G (s.fact 29 (f := .free "super") rfl),
  He.free_ok X G (s.fact 30 (f := .free "tuple") rfl),
  He.mkr_ok (s.fact 31 (f := .mkr "Share") rfl),
  tabBB_ok (all_at (f := fun K => tabBB K "int" [("Share", false)]) s.more 0 rfl),
  tabBB_ok (all_at (f := fun K => tabBB K "bool" [("Share", false)]) s.more 1 rfl),
  all_at (f := fun K => He.tupB K "FIELDS" [.int 2, .int 3, .int 5, .int 7, .int 11, .int 13, .int 17, .int 19, .int 23, .int 29, .int 31]) s.more 2 rfl,
  clsFB_ok (all_at (f := fun K => clsFB K ["Share"] "top") s.more 3 rfl),
  clsFB_ok (all_at (f := fun K => clsFB K ["Share"] "bottom") s.more 4 rfl),
  tabOB_ok (all_at (f := fun K => tabOB K "Share" [("Share", true)]) s.more 5 rfl),
  all_at (f := fun K => noLst K) s.more 6 rfl,
  eqB_ok (all_at (f := fun K => eqB K "Share") s.more 7 rfl),
  exmB_ok (all_at (f := fun K => exmB K "InvalidNumber" ["InvalidNumber"] ["InvalidShare", "Undefined"]) s.more 8 rfl),
  exmB_ok (all_at (f := fun K => exmB K "Undefined" ["Undefined"] ["InvalidNumber", "InvalidShare"]) s.more 9 rfl),
  egB_ok (all_at (f := fun K => egB K ["InvalidNumber"] "value") s.more 10 rfl),
  egB_ok (all_at (f := fun K => egB K ["Undefined"] "what") s.more 11 rfl),
  s.def_ 0 (d := d__law_is_field) d0 rfl,
  s.def_ 1 (d := d__law_take) d0 rfl,
  s.def_ 2 (d := d__law_field) d0 rfl,
  s.def_ 3 (d := d_is_integer) d0 rfl,
  s.def_ 4 (d := d_is_field) d0 rfl,
  s.def_ 5 (d := d_is_number) d0 rfl,
  s.def_ 6 (d := d_is_letter) d0 rfl,
  s.def_ 7 (d := d_inverse_of) d0 rfl,
  s.def_ 8 (d := d__law_told) d0 rfl,
  s.def_ 9 (d := d_common_divisor) d0 rfl,
  s.def_ 10 (d := d_Shareu_initu) d0 rfl,
  s.def_ 11 (d := d__law_odd) d0 rfl,
  s.def_ 12 (d := d__law_no_field) d0 rfl,
  s.def_ 13 (d := d_parts_of) d0 rfl,
  s.def_ 14 (d := d_Shareu_equ) d0 rfl,
  s.def_ 15 (d := d__law_refuses) d0 rfl,
  s.def_ 16 (d := d__law_draws) d0 rfl,
  s.def_ 17 (d := d__law_like) d0 rfl,
  s.def_ 18 (d := d__law_inverse) d0 rfl,
  s.def_ 19 (d := d_law) d0 rfl,
  s.err 0 (d := e_InvalidNumber) rfl sc_e_InvalidNumber (by rw [hP]; rfl),
  s.err 1 (d := e_InvalidShare) rfl sc_e_InvalidShare (by rw [hP]; rfl),
  s.err 2 (d := e_Undefined) rfl sc_e_Undefined (by rw [hP]; rfl)⟩
end Hd
end

section
set_option Elab.async false
set_option linter.all false
set_option maxRecDepth 100000
set_option maxHeartbeats 0
namespace Mi
open PySem PySem.Spec PyProof.Rows L2 DL

def fuelG : List Sl → Nat := fun ρ => match ρ[1]? with
  | some (Sl.d (D.int j)) => j.natAbs + 1
  | _ => 0
/-- a share's fields: what __eq__ reads -/
def okI_Share (ns : List Str) (xs : List D) : Bool := match ns, xs with
  | [a, b], [.int _, .int _] => decide (a = "top") && decide (b = "bottom")
  | _, _ => false

def F__law_is_field : Fn := mkFn 1 2 [] (seqS (ifS (tor (tnot (tb (un (opT (isiB "int" [("Share", false)])) (nm 0)))) (tor (tb (un (opT (isiB "bool" [("Share", false)])) (nm 0))) (tor (tb (bin opLt (nm 0) (cst (.int 2)))) (tb (bin opGt (nm 0) (cst (.int 31)))))))
  (ret (cst (.bl false)))
  (nxt))
  (seqS (forS (itR2 (cst (.int 2)) (un opInt (nm 0))) (bN [] 1)
  (ifS (tb (bin opEq (bin opMod (un opInt (nm 0)) (nm 1)) (cst (.int 0))))
  (ret (cst (.bl false)))
  (nxt)))
  (ret (cst (.bl true)))))
def F__law_take : Fn := mkFn 2 4 [0] (seqS (asg [0] 2 (ixM 0 (cst (.int 1))))
  (seqS (setM 0 (cst (.int 1)) (binA opAddA (nm 2) (cst (.int 1))))
  (seqS (asg [0] 3 (ixM 0 (cst (.int 0))))
  (seqS (ifS (tb (bin opGe (nm 2) (un opLenA (nm 3))))
  (ret (cst (.int 0)))
  (nxt))
  (ret (bin opMod (bin opDivA (un opInt (bin opIx (nm 3) (nm 2))) (cst (.int 7))) (nm 1)))))))
def F__law_field : Fn := mkFn 1 3 [0] (seqS (asg [0] 1 (frz (lc [2] (itR2 (cst (.int 2)) (cst (.int 32))) (bN [0] 2) (tr (call F__law_is_field [] (aD (nm 2) (aNil)))) (nm 2))))
  (ret (bin opIx (nm 1) (bin opIx (frz (mkLst (aD (call F__law_take [] (aM 0 (aD (cst (.int 11)) (aNil)))) (aD (call F__law_take [] (aM 0 (aD (cst (.int 3)) (aNil)))) (aNil))))) (call F__law_take [] (aM 0 (aD (cst (.int 2)) (aNil))))))))
def F_is_integer : Fn := mkFn 1 1 [] (ret (eand (un (opT (isiB "int" [("Share", false)])) (nm 0)) (enot (un (opT (isiB "bool" [("Share", false)])) (nm 0)))))
def F_is_field : Fn := mkFn 1 1 [] (ret (eand (call F_is_integer [] (aD (nm 0) (aNil))) (bin (opInS false) (nm 0) (cst (.tup [.int 2, .int 3, .int 5, .int 7, .int 11, .int 13, .int 17, .int 19, .int 23, .int 29, .int 31])))))
def F_is_number : Fn := mkFn 1 1 [] (ret (eand (call F_is_integer [] (aD (nm 0) (aNil))) (bin opGe (nm 0) (cst (.int 0)))))
def F_is_letter : Fn := mkFn 2 2 [] (ret (eand (call F_is_number [] (aD (nm 0) (aNil))) (bin opLt (nm 0) (nm 1))))
def F_inverse_of : Fn := mkFn 2 3 [] (seqS (ifS (tnot (tr (call F_is_field [] (aD (nm 0) (aNil)))))
  (raiseE "InvalidNumber" ["value"] (aD (nm 0) (aNil)))
  (nxt))
  (seqS (ifS (tnot (tr (call F_is_letter [] (aD (nm 1) (aD (nm 0) (aNil))))))
  (raiseE "InvalidNumber" ["value"] (aD (nm 1) (aNil)))
  (nxt))
  (seqS (forS (itR2 (cst (.int 1)) (nm 0)) (bN [] 2)
  (ifS (tb (bin opEq (bin opMod (bin opMul (nm 1) (nm 2)) (nm 0)) (cst (.int 1))))
  (ret (nm 2))
  (nxt)))
  (raiseE "Undefined" ["what"] (aD (cst (.str "inverse")) (aNil))))))
def F__law_told : Fn := mkFn 2 3 [] (tryS (ret (frz (mkLst (aD (cst (.str "letter")) (aD (call F_inverse_of [] (aD (nm 0) (aD (nm 1) (aNil)))) (aNil))))))
  [⟨["InvalidNumber"], ["InvalidShare", "Undefined"], suF 2 [.c (.str "number") (.str "number"), .f "value"]⟩, ⟨["Undefined"], ["InvalidNumber", "InvalidShare"], suF 2 [.c (.str "undefined") (.str "undefined"), .f "what"]⟩])
def F_common_divisor : Fn := mkFn 2 2 [] (seqS (asg [] 0 (un opAbs (nm 0)))
  (seqS (asg [] 1 (un opAbs (nm 1)))
  (seqS (whlF (tr (nm 1))
  (asg2 [] 0 1 (nm 1) (bin opMod (nm 0) (nm 1))) fuelG)
  (ret (nm 0)))))
def F_Shareu_initu : Fn := mkFn 3 4 [0] (seqS (ifS (tor (tnot (tr (call F_is_integer [] (aD (nm 1) (aNil))))) (tor (tnot (tr (call F_is_integer [] (aD (nm 2) (aNil))))) (tb (bin opEq (nm 2) (cst (.int 0))))))
  (raiseE "InvalidShare" ["value"] (aD (mkTup (aD (nm 1) (aD (nm 2) (aNil)))) (aNil)))
  (nxt))
  (seqS (asg [0] 3 (call F_common_divisor [] (aD (nm 1) (aD (nm 2) (aNil)))))
  (seqS (ifS (tb (bin opLt (nm 2) (cst (.int 0))))
  (asg [0] 3 (un opNeg (nm 3)))
  (nxt))
  (seqS (setF ["Share"] "top" 0 (bin opDivA (nm 1) (nm 3)))
  (setF ["Share"] "bottom" 0 (bin opDivA (nm 2) (nm 3)))))))
def S__law_odd (G : Fn) : Fn := mkFn 2 6 [0] (seqS (asg [0] 2 (call F__law_take [] (aM 0 (aD (cst (.int 9)) (aNil)))))
  (seqS (ifS (tand (tb (bin opGt (nm 1) (cst (.int 0)))) (tb (bin opGt (nm 2) (cst (.int 6)))))
  (seqS (asg [0] 3 (frz (lc [4] (itR1 (call F__law_take [] (aM 0 (aD (cst (.int 4)) (aNil))))) (bN [0] 4) (yes) (call G [] (aM 0 (aD (bin opSub (nm 1) (cst (.int 1))) (aNil)))))))
  (ret (bin opIx (frz (mkLst (aD (nm 3) (aD (tupD (nm 3)) (aNil))))) (bin opSub (nm 2) (cst (.int 7))))))
  (nxt))
  (seqS (asg [0] 5 (frz (mkLst (aD (cst (.bl true)) (aD (cst (.bl false)) (aD (cst .non) (aD (cst (.str "")) (aD (cst (.str "a1")) (aD (cst (.int 0)) (aD (cst (.int 1)) (aD (un opNeg (cst (.int 1))) (aD (cst (.int 2)) (aD (cst (.int 7)) (aD (cst (.int 31)) (aD (cst (.int 37)) (aD (bin opPow (cst (.int 10)) (cst (.int 30))) (aD (un opNeg (bin opPow (cst (.int 10)) (cst (.int 30)))) (aD (mkTup (aNil)) (aD (frz (mkLst (aNil))) (aD (mkI [0] "Share" F_Shareu_initu [.int 1] (aD (cst (.int 7)) (aNil))) (aD (mkI [0] "Share" F_Shareu_initu [.int 1] (aD (cst (.int 1)) (aNil))) (aD (mkI [0] "Share" F_Shareu_initu [.int 1] (aD (cst (.int 0)) (aNil))) (aNil)))))))))))))))))))))))
  (ret (bin opIx (nm 5) (call F__law_take [] (aM 0 (aD (cst (.int 19)) (aNil)))))))))
def F__law_odd : Nat → Fn
  | 0 => fun _ => .bad
  | n + 1 => S__law_odd (F__law_odd n)
def F__law_no_field : Fn := mkFn 1 2 [0] (seqS (asg [0] 1 (bin opIx (frz (mkLst (aD (bin opSub (call F__law_take [] (aM 0 (aD (cst (.int 60)) (aNil)))) (cst (.int 9))) (aD (call (F__law_odd 5) [] (aM 0 (aD (cst (.int 1)) (aNil)))) (aD (cst (.int 37)) (aD (cst (.int 1)) (aD (cst (.int 0)) (aD (un opNeg (cst (.int 2))) (aD (cst (.int 33)) (aD (cst (.int 961)) (aD (mkI [0] "Share" F_Shareu_initu [.int 1] (aD (cst (.int 7)) (aNil))) (aD (mkI [0] "Share" F_Shareu_initu [.int 1] (aD (cst (.int 2)) (aNil))) (aNil))))))))))))) (call F__law_take [] (aM 0 (aD (cst (.int 10)) (aNil))))))
  (seqS (ifS (tr (call F__law_is_field [] (aD (nm 1) (aNil))))
  (ret (cst (.int 4)))
  (nxt))
  (ret (nm 1))))
def F_parts_of : Fn := mkFn 1 1 [] (seqS (ifS (tb (un (opT (isiO [("Share", true)])) (nm 0)))
  (ret (mkTup (aD (fld ["Share"] "top" (nm 0)) (aD (fld ["Share"] "bottom" (nm 0)) (aNil)))))
  (nxt))
  (seqS (ifS (tr (call F_is_integer [] (aD (nm 0) (aNil))))
  (ret (mkTup (aD (nm 0) (aD (cst (.int 1)) (aNil)))))
  (nxt))
  (ret (cst .non))))
def F_Shareu_equ : Fn := mkFn 2 3 [] (seqS (asg [] 2 (call F_parts_of [] (aD (nm 1) (aNil))))
  (seqS (ifS (tb (bin opIsN (nm 2) (cst .non)))
  (ret (cst (.bl false)))
  (nxt))
  (ret (eand (bin opEq (fld ["Share"] "top" (nm 0)) (bin opIx (nm 2) (cst (.int 0)))) (bin opEq (fld ["Share"] "bottom" (nm 0)) (bin opIx (nm 2) (cst (.int 1))))))))
def F__law_refuses : Fn := mkFn 3 4 [] (seqS (asg [] 3 (call F__law_told [] (aD (nm 0) (aD (nm 1) (aNil)))))
  (ret (eand (bin opEq (bin opIx (nm 3) (cst (.int 0))) (cst (.str "number"))) (eand (eqO "Share" okI_Share (bin opIx (nm 3) (cst (.int 1))) (nm 2)) (bin opEq (un (opT (isiB "bool" [("Share", false)])) (bin opIx (nm 3) (cst (.int 1)))) (un (opT (isiB "bool" [("Share", false)])) (nm 2)))))))
def F__law_draws : Fn := mkFn 2 8 [] (seqS (asgM [] 2 (lc [3] (itD (nm 0)) (bN [] 3) (yes) (un opAbs (un opInt (nm 3)))))
  (seqS (asgM [] 4 (mkLst (aNil)))
  (seqS (forS (itR1 (nm 1)) (bN [] 5)
  (seqS (asg [] 3 (nm 5))
  (seqS (ifS (tb (bin opGt (un opLenA (nm 0)) (cst (.int 0))))
  (seqS (asg [] 6 (bin opMod (nm 5) (un opLenA (nm 0))))
  (seqS (asg [] 3 (un opInt (bin opIx (nm 0) (nm 6))))
  (ifS (tand (tb (bin opGe (nm 3) (bin opPow (cst (.int 10)) (cst (.int 18))))) (tb (bin opGt (ixM 2 (nm 6)) (cst (.int 0)))))
  (seqS (appM 4 (bin opMod (un opInt (ixM 2 (nm 6))) (cst (.int 1000003))))
  (seqS (setM 2 (nm 6) (bin opDivA (un opInt (ixM 2 (nm 6))) (cst (.int 1000003))))
  (cnt)))
  (nxt))))
  (nxt))
  (seqS (asg [] 7 (bin opMod (un opInt (binA opAddA (binA opAddA (bin opMul (nm 3) (cst (.int 48271))) (bin opMul (nm 5) (cst (.int 69621)))) (cst (.int 11)))) (cst (.int 2147483647))))
  (seqS (asg [] 7 (bin opMod (un opInt (binA opAddA (bin opDivA (bin opMul (nm 7) (nm 7)) (cst (.int 4096))) (nm 7))) (cst (.int 2147483629))))
  (appM 4 (bin opMod (un opInt (binA opAddA (bin opDivA (bin opMul (nm 7) (nm 7)) (cst (.int 4096))) (bin opMul (nm 5) (cst (.int 7919))))) (cst (.int 2147483629)))))))))
  (ret (nmF [] 4)))))
def F__law_like : Fn := mkFn 2 2 [] (seqS (ifS (tand (tb (un (opT (isiB "int" [("Share", false)])) (nm 1))) (tnot (tb (un (opT (isiB "bool" [("Share", false)])) (nm 1)))))
  (ret (eand (un (opT (isiB "int" [("Share", false)])) (nm 0)) (eand (enot (un (opT (isiB "bool" [("Share", false)])) (nm 0))) (bin opEq (nm 0) (nm 1)))))
  (nxt))
  (ret (eor (enot (un (opT (isiB "int" [("Share", false)])) (nm 0))) (eand (bin opEq (un (opT (isiB "bool" [("Share", false)])) (nm 0)) (un (opT (isiB "bool" [("Share", false)])) (nm 1))) (bin opEq (nm 0) (nm 1))))))
def F__law_inverse : Fn := mkFn 2 3 [] (seqS (forS (itR2 (cst (.int 1)) (nm 1)) (bN [] 2)
  (ifS (tb (bin opEq (bin opMod (un opInt (bin opMul (nm 0) (nm 2))) (nm 1)) (cst (.int 1))))
  (ret (nm 2))
  (nxt)))
  (ret (cst (.int 0))))
def F_law : Fn := mkFn 1 9 [] (seqS (asgM [] 1 (mkLst (aD (call F__law_draws [] (aD (nm 0) (aD (cst (.int 120)) (aNil)))) (aD (cst (.int 0)) (aNil)))))
  (seqS (forS (itD (frz (mkLst (aD (call (F__law_odd 5) [] (aM 1 (aD (cst (.int 2)) (aNil)))) (aD (bin opSub (call F__law_take [] (aM 1 (aD (cst (.int 50)) (aNil)))) (cst (.int 9))) (aD (call (F__law_odd 5) [] (aM 1 (aD (cst (.int 0)) (aNil)))) (aD (call F__law_field [] (aM 1 (aNil))) (aD (frz (mkLst (aD (call F__law_field [] (aM 1 (aNil))) (aNil)))) (aNil))))))))) (bN [] 2)
  (seqS (asg [] 3 (call F_is_field [] (aD (nm 2) (aNil))))
  (ifS (tor (tnot (tb (un (opT (isiB "bool" [("Share", false)])) (nm 3)))) (tb (bin opNe (nm 3) (call F__law_is_field [] (aD (nm 2) (aNil))))))
  (ret (cst (.bl false)))
  (nxt))))
  (seqS (asg [] 4 (call F__law_field [] (aM 1 (aNil))))
  (seqS (asg [] 5 (call F__law_take [] (aM 1 (aD (nm 4) (aNil)))))
  (seqS (asg [] 6 (call F__law_told [] (aD (nm 4) (aD (nm 5) (aNil)))))
  (seqS (ifS (tb (bin opEq (nm 5) (cst (.int 0))))
  (ifS (tb (bin opNe (nm 6) (frz (mkLst (aD (cst (.str "undefined")) (aD (cst (.str "inverse")) (aNil)))))))
  (ret (cst (.bl false)))
  (nxt))
  (ifS (tor (tb (bin opNe (bin opIx (nm 6) (cst (.int 0))) (cst (.str "letter")))) (tnot (tr (call F__law_like [] (aD (bin opIx (nm 6) (cst (.int 1))) (aD (call F__law_inverse [] (aD (nm 5) (aD (nm 4) (aNil)))) (aNil)))))))
  (ret (cst (.bl false)))
  (nxt)))
  (seqS (asg [] 7 (bin opIx (frz (mkLst (aD (nm 4) (aD (un opNeg (cst (.int 1))) (aD (cst (.bl true)) (aD (cst .non) (aD (cst (.str "1")) (aD (mkTup (aD (cst (.int 1)) (aNil))) (aD (bin opPow (cst (.int 10)) (cst (.int 30))) (aD (cst (.bl false)) (aD (binA opAddA (nm 4) (cst (.int 1))) (aD (mkI [] "Share" F_Shareu_initu [.int 1] (aD (cst (.int 1)) (aNil))) (aNil))))))))))))) (call F__law_take [] (aM 1 (aD (cst (.int 10)) (aNil))))))
  (seqS (asg [] 8 (call F__law_no_field [] (aM 1 (aNil))))
  (seqS (ifS (tor (tnot (tr (call F__law_refuses [] (aD (nm 4) (aD (nm 7) (aD (nm 7) (aNil))))))) (tnot (tr (call F__law_refuses [] (aD (nm 8) (aD (nm 7) (aD (nm 8) (aNil))))))))
  (ret (cst (.bl false)))
  (nxt))
  (ret (call F__law_refuses [] (aD (nm 8) (aD (nm 5) (aD (nm 8) (aNil)))))))))))))))

theorem eqs_Share : EqSelf F_Shareu_equ "Share" okI_Share := by
  intro ns xs h
  unfold okI_Share at h
  split at h
  · rename_i a b i j
    obtain ⟨h1, h2⟩ := Bool.and_eq_true_iff.mp h
    cases of_decide_eq_true h1
    cases of_decide_eq_true h2
    refine ⟨[.no, .no], ?_⟩
    have hs : ("top" : Str) ≠ "bottom" := by decide
    simp [F_Shareu_equ, F_parts_of, seqS, ifS, asg, asgM, asg2, DL.ret, retM, retN, drp, nxt, brk, DL.cnt, retS, appM, setM, Out.then, Out.bind, ofO, nm, cst, nmF, nmP, pk, pkM, frz, DL.bin, binA, un, unP, tb, tr, trP, tand, tor, tnot, eand, eor, enot, eif, opAdd, opAddA, Rz.d, opSub, opMul, opDivA, opDiv, opMod, opPow, opLt, opLe, opGt, opGe, opIsN, opNotN, isNon, opNeg, opIx, ixM, L2.atI, L2.ixN, aNil, aD, aM, isM, dvs, mkTup, mkLst, DL.call, callM, appF, avSl, mvs, putBack, mkFn, outs, List.range_succ, opAbs, opInt, opBool, opLenA, opLen, opT, isiB, isiO, D.ty, D.tru, toLst, tupD, tupP, toTup, forS, loop, bN, bT, bCons, bNil, itD, itT, itR1, itR2, raiseE, avD, tryS, clauses, suL, suF, suT, suR, xvals, xval, fld, fldS, setF, fldOf, putNs, putXs, lc, lcL, wipeS, backS, yes, mkI, PySem.sizeLine, hs]
  · cases h

end Mi
end

section
set_option Elab.async false
set_option linter.all false
set_option maxRecDepth 100000
set_option maxHeartbeats 0
namespace Wk
open PySem PySem.Spec PyProof.Rows L2 DL DLH Hd Mi
section
variable {P : Program} {w : World} {K : PySem.W.Frag} {mg : Str → Option Value} {base : Heap}
theorem bn_Shareu_equ_2 (c : Fc P K mg) : Binds K (fdAt K d_Shareu_equ.at_ d0) ["self", "other"] [] := c.fd_Shareu_equ.bindsN fun _ _ _ _ _ _ us hl => match us, hl with | [_, _], _ => rfl
theorem bn_Shareu_initu_2 (c : Fc P K mg) : ∃ ds, Vals ((d_Shareu_initu.dvs K).drop 0) ds ∧ Binds K (fdAt K d_Shareu_initu.at_ d0) ["self", "top", "bottom"] ds := c.fd_Shareu_initu.binds1 2 0 (by simp [He.DefD.dvs, d_Shareu_initu]) rfl (fun T kV doc pm an cdv ct us its h1 h2 => match us, its, h1, h2 with | [_, _], [_], _, _ => ⟨_, rfl, rfl⟩)
theorem dns_dfl_Shareu_initu_2 {G : Hp} : Dns K G [.int 1] ((d_Shareu_initu.dvs K).drop 0) := by simp [Dns, Dn, He.DefD.dvs, d_Shareu_initu, He.Dv.v]
theorem bn__law_draws_2 (c : Fc P K mg) : Binds K (fdAt K d__law_draws.at_ d0) ["_law_script", "_law_many"] [] := c.fd__law_draws.bindsN fun _ _ _ _ _ _ us hl => match us, hl with | [_, _], _ => rfl
theorem bn__law_field_1 (c : Fc P K mg) : Binds K (fdAt K d__law_field.at_ d0) ["_law_hand"] [] := c.fd__law_field.bindsN fun _ _ _ _ _ _ us hl => match us, hl with | [_], _ => rfl
theorem bn__law_inverse_2 (c : Fc P K mg) : Binds K (fdAt K d__law_inverse.at_ d0) ["_law_a", "_law_p"] [] := c.fd__law_inverse.bindsN fun _ _ _ _ _ _ us hl => match us, hl with | [_, _], _ => rfl
theorem bn__law_is_field_1 (c : Fc P K mg) : Binds K (fdAt K d__law_is_field.at_ d0) ["_law_p"] [] := c.fd__law_is_field.bindsN fun _ _ _ _ _ _ us hl => match us, hl with | [_], _ => rfl
theorem bn__law_like_2 (c : Fc P K mg) : Binds K (fdAt K d__law_like.at_ d0) ["_law_found", "_law_due"] [] := c.fd__law_like.bindsN fun _ _ _ _ _ _ us hl => match us, hl with | [_, _], _ => rfl
theorem bn__law_no_field_1 (c : Fc P K mg) : Binds K (fdAt K d__law_no_field.at_ d0) ["_law_hand"] [] := c.fd__law_no_field.bindsN fun _ _ _ _ _ _ us hl => match us, hl with | [_], _ => rfl
theorem bn__law_odd_2 (c : Fc P K mg) : Binds K (fdAt K d__law_odd.at_ d0) ["_law_hand", "_law_depth"] [] := c.fd__law_odd.bindsN fun _ _ _ _ _ _ us hl => match us, hl with | [_, _], _ => rfl
theorem bn__law_refuses_3 (c : Fc P K mg) : Binds K (fdAt K d__law_refuses.at_ d0) ["_law_p", "_law_a", "_law_value"] [] := c.fd__law_refuses.bindsN fun _ _ _ _ _ _ us hl => match us, hl with | [_, _, _], _ => rfl
theorem bn__law_take_2 (c : Fc P K mg) : Binds K (fdAt K d__law_take.at_ d0) ["_law_hand", "_law_many"] [] := c.fd__law_take.bindsN fun _ _ _ _ _ _ us hl => match us, hl with | [_, _], _ => rfl
theorem bn__law_told_2 (c : Fc P K mg) : Binds K (fdAt K d__law_told.at_ d0) ["_law_p", "_law_a"] [] := c.fd__law_told.bindsN fun _ _ _ _ _ _ us hl => match us, hl with | [_, _], _ => rfl
theorem bn_common_divisor_2 (c : Fc P K mg) : Binds K (fdAt K d_common_divisor.at_ d0) ["one", "other"] [] := c.fd_common_divisor.bindsN fun _ _ _ _ _ _ us hl => match us, hl with | [_, _], _ => rfl
theorem bn_inverse_of_2 (c : Fc P K mg) : Binds K (fdAt K d_inverse_of.at_ d0) ["p", "a"] [] := c.fd_inverse_of.bindsN fun _ _ _ _ _ _ us hl => match us, hl with | [_, _], _ => rfl
theorem bn_is_field_1 (c : Fc P K mg) : Binds K (fdAt K d_is_field.at_ d0) ["p"] [] := c.fd_is_field.bindsN fun _ _ _ _ _ _ us hl => match us, hl with | [_], _ => rfl
theorem bn_is_integer_1 (c : Fc P K mg) : Binds K (fdAt K d_is_integer.at_ d0) ["value"] [] := c.fd_is_integer.bindsN fun _ _ _ _ _ _ us hl => match us, hl with | [_], _ => rfl
theorem bn_is_letter_2 (c : Fc P K mg) : Binds K (fdAt K d_is_letter.at_ d0) ["value", "p"] [] := c.fd_is_letter.bindsN fun _ _ _ _ _ _ us hl => match us, hl with | [_, _], _ => rfl
theorem bn_is_number_1 (c : Fc P K mg) : Binds K (fdAt K d_is_number.at_ d0) ["value"] [] := c.fd_is_number.bindsN fun _ _ _ _ _ _ us hl => match us, hl with | [_], _ => rfl
theorem bn_parts_of_1 (c : Fc P K mg) : Binds K (fdAt K d_parts_of.at_ d0) ["value"] [] := c.fd_parts_of.bindsN fun _ _ _ _ _ _ us hl => match us, hl with | [_], _ => rfl
theorem ek_InvalidNumber (c : Fc P K mg) : ErrK' P w K mg "InvalidNumber" ["value"] := c.er_InvalidNumber.ek1 c.g_InvalidNumber c.b_super (EX.makes1 (c.er_InvalidNumber.err) c.b_super ⟨_, fun _ => rfl⟩ EX.bnd_value (by decide) (by decide))
theorem ek_InvalidShare (c : Fc P K mg) : ErrK' P w K mg "InvalidShare" ["value"] := c.er_InvalidShare.ek1 c.g_InvalidShare c.b_super (EX.makes1 (c.er_InvalidShare.err) c.b_super ⟨_, fun _ => rfl⟩ EX.bnd_value (by decide) (by decide))
theorem ek_Undefined (c : Fc P K mg) : ErrK' P w K mg "Undefined" ["what"] := c.er_Undefined.ek1 c.g_Undefined c.b_super (EX.makes1 (c.er_Undefined.err) c.b_super ⟨_, fun _ => rfl⟩ EX.bnd_what (by decide) (by decide))
theorem sc__law_is_field : FnScope ["_law_p", "_law_d"] ["_law_p"] (defScope s__law_is_field) := ⟨rfl, rfl, rfl, by decide +kernel, rfl, by decide +kernel, by decide +kernel⟩
theorem ok__law_is_field (c : Fc P K mg) : FnOk P w K mg base (L2.CX P w) 2 (He.fAd K d__law_is_field.at_) (fdAt K d__law_is_field.at_ d0) ["_law_p"] (spM K F__law_is_field) := fnOk (k := 1) c.fd__law_is_field sc__law_is_field rfl fun cdv A outer s H E hr => (scons (sif (tw (wor (tnot_ (tval (disiB c.tb_int c.b_isinstance c.b_int (by decide +kernel) (dnm 0)))) (wor (tval (disiB c.tb_bool c.b_isinstance c.b_bool (by decide +kernel) (dnm 0))) (wor (tcmp odLt (dnm 0) (dint)) (wor1 (tcmp odGt (dnm 0) (dint)))))))
  (sone (sret (dbl)))
  (snil))
  (scons (sfor (passes_of rfl) rfl (iR2 c.b_range (dint) (dcT cdInt c.b_int (by decide +kernel) (dnm 0))) (gnm 1 (sc__law_is_field).nd)
  (sone (sif (tcmp (odEq (room64 hr)) (dbin odMod (dcT cdInt c.b_int (by decide +kernel) (dnm 0)) (dnm 1)) (dint))
  (sone (sret (dbl)))
  (snil))))
  (sone (sret (dbl)))))
theorem sc__law_take : FnScope ["_law_hand", "_law_many", "_law_at", "_law_draws_here"] ["_law_hand", "_law_many"] (defScope s__law_take) := ⟨rfl, rfl, rfl, by decide +kernel, rfl, by decide +kernel, by decide +kernel⟩
theorem ok__law_take (c : Fc P K mg) : FnOk P w K mg base (L2.CX P w) 2 (He.fAd K d__law_take.at_) (fdAt K d__law_take.at_ d0) ["_law_hand", "_law_many"] (spM K F__law_take) := fnOk (k := 1) c.fd__law_take sc__law_take rfl fun cdv A outer s H E hr => (scons (sasg 2 (sc__law_take).nd (dixM 0 (dint)))
  (scons (ssetM 0 (dbinA oaAdd (dnm 2) (dint)) (dint))
  (scons (sasg 3 (sc__law_take).nd (dixM 0 (dint)))
  (scons (sif (tcmp odGe (dnm 2) (dcB cdLenA c.b_len (by decide +kernel) (dnm 3)))
  (sone (sret (dint)))
  (snil))
  (sone (sret (dbin odMod (dbin odDivA (dcT cdInt c.b_int (by decide +kernel) (dix (dnm 3) (dnm 2))) (dint)) (dnm 1))))))))
theorem sc__law_field : FnScope ["_law_hand", "_law_primes", "_law_p"] ["_law_hand"] (defScope s__law_field) := ⟨rfl, rfl, rfl, by decide +kernel, rfl, by decide +kernel, by decide +kernel⟩
theorem ok__law_field (c : Fc P K mg) : FnOk P w K mg base (L2.CX P w) 3 (He.fAd K d__law_field.at_) (fdAt K d__law_field.at_ d0) ["_law_hand"] (spM K F__law_field) := fnOk (k := 2) c.fd__law_field sc__law_field rfl fun cdv A outer s H E hr => (scons (sasgLcF 1 (own := [("_law_p", 2)]) rfl rfl (sc__law_field).nd (iR2 c.b_range (dint) (dint)) (blkOk_by (N := ["_law_hand", "_law_primes", "_law_p"]) (sc := defScope s__law_field) (own := [("_law_p", 2)]) (by decide +kernel)) (by decide) (by decide) (fun s H C cl fp => gnm 2 (sc__law_field).nd) (fun s H C cl fp => tsone (ttr (dcall (ok__law_is_field c) (hr.mono (by decide)) rfl c.g__law_is_field c.fd__law_is_field.kp (bn__law_is_field_1 c) .nil (fun _ => rfl) takes0 (acons (dnm 2) (anil))))) (fun s H C cl fp => dnm 2))
  (sone (sret (dix (dnm 1) (dix (dfrz (dlst (acons (dcall (ok__law_take c) (hr.mono (by decide)) rfl c.g__law_take c.fd__law_take.kp (bn__law_take_2 c) .nil (fun _ => rfl) (takes_of rfl rfl rfl rfl) (amut 0 (acons (dint) (anil)))) (acons (dcall (ok__law_take c) (hr.mono (by decide)) rfl c.g__law_take c.fd__law_take.kp (bn__law_take_2 c) .nil (fun _ => rfl) (takes_of rfl rfl rfl rfl) (amut 0 (acons (dint) (anil)))) (anil))))) (dcall (ok__law_take c) (hr.mono (by decide)) rfl c.g__law_take c.fd__law_take.kp (bn__law_take_2 c) .nil (fun _ => rfl) (takes_of rfl rfl rfl rfl) (amut 0 (acons (dint) (anil)))))))))
theorem sc_is_integer : FnScope ["value"] ["value"] (defScope s_is_integer) := ⟨rfl, rfl, rfl, by decide +kernel, rfl, by decide +kernel, by decide +kernel⟩
theorem ok_is_integer (c : Fc P K mg) : FnOk P w K mg base (L2.CX P w) 2 (He.fAd K d_is_integer.at_) (fdAt K d_is_integer.at_ d0) ["value"] (spM K F_is_integer) := fnOk (k := 1) c.fd_is_integer sc_is_integer rfl fun cdv A outer s H E hr => (sone (sret (dand (disiB c.tb_int c.b_isinstance c.b_int (by decide +kernel) (dnm 0)) (done_ (dnot (disiB c.tb_bool c.b_isinstance c.b_bool (by decide +kernel) (dnm 0)))))))
theorem sc_is_field : FnScope ["p"] ["p"] (defScope s_is_field) := ⟨rfl, rfl, rfl, by decide +kernel, rfl, by decide +kernel, by decide +kernel⟩
theorem ok_is_field (c : Fc P K mg) : FnOk P w K mg base (L2.CX P w) 3 (He.fAd K d_is_field.at_) (fdAt K d_is_field.at_ d0) ["p"] (spM K F_is_field) := fnOk (k := 2) c.fd_is_field sc_is_field rfl fun cdv A outer s H E hr => (sone (sret (dand (dcall (ok_is_integer c) (hr.mono (by decide)) rfl c.g_is_integer c.fd_is_integer.kp (bn_is_integer_1 c) .nil (fun _ => rfl) (takes_of rfl rfl rfl rfl) (acons (dnm 0) (anil))) (done_ (dcmp odIs (dnm 0) (dglob (v := .ref (He.ga K "FIELDS")) rfl c.g_FIELDS rfl (fun G => ⟨_, _, rfl, He.tupB_ok c.k_FIELDS G, by simp [Dns, Dn, He.Dv.v]⟩)))))))
theorem sc_is_number : FnScope ["value"] ["value"] (defScope s_is_number) := ⟨rfl, rfl, rfl, by decide +kernel, rfl, by decide +kernel, by decide +kernel⟩
theorem ok_is_number (c : Fc P K mg) : FnOk P w K mg base (L2.CX P w) 3 (He.fAd K d_is_number.at_) (fdAt K d_is_number.at_ d0) ["value"] (spM K F_is_number) := fnOk (k := 2) c.fd_is_number sc_is_number rfl fun cdv A outer s H E hr => (sone (sret (dand (dcall (ok_is_integer c) (hr.mono (by decide)) rfl c.g_is_integer c.fd_is_integer.kp (bn_is_integer_1 c) .nil (fun _ => rfl) (takes_of rfl rfl rfl rfl) (acons (dnm 0) (anil))) (done_ (dcmp odGe (dnm 0) (dint))))))
theorem sc_is_letter : FnScope ["value", "p"] ["value", "p"] (defScope s_is_letter) := ⟨rfl, rfl, rfl, by decide +kernel, rfl, by decide +kernel, by decide +kernel⟩
theorem ok_is_letter (c : Fc P K mg) : FnOk P w K mg base (L2.CX P w) 4 (He.fAd K d_is_letter.at_) (fdAt K d_is_letter.at_ d0) ["value", "p"] (spM K F_is_letter) := fnOk (k := 3) c.fd_is_letter sc_is_letter rfl fun cdv A outer s H E hr => (sone (sret (dand (dcall (ok_is_number c) (hr.mono (by decide)) rfl c.g_is_number c.fd_is_number.kp (bn_is_number_1 c) .nil (fun _ => rfl) (takes_of rfl rfl rfl rfl) (acons (dnm 0) (anil))) (done_ (dcmp odLt (dnm 0) (dnm 1))))))
theorem sc_inverse_of : FnScope ["p", "a", "b"] ["p", "a"] (defScope s_inverse_of) := ⟨rfl, rfl, rfl, by decide +kernel, rfl, by decide +kernel, by decide +kernel⟩
theorem ok_inverse_of (c : Fc P K mg) : FnOk P w K mg base (L2.CX P w) 5 (He.fAd K d_inverse_of.at_) (fdAt K d_inverse_of.at_ d0) ["p", "a"] (spM K F_inverse_of) := fnOk (k := 4) c.fd_inverse_of sc_inverse_of rfl fun cdv A outer s H E hr => (scons (sif (tnot_ (ttr (dcall (ok_is_field c) (hr.mono (by decide)) rfl c.g_is_field c.fd_is_field.kp (bn_is_field_1 c) .nil (fun _ => rfl) (takes_of rfl rfl rfl rfl) (acons (dnm 0) (anil)))))
  (sone (sraise rfl (ek_InvalidNumber c) hr (takes_of rfl rfl rfl rfl) (acons (dnm 0) (anil))))
  (snil))
  (scons (sif (tnot_ (ttr (dcall (ok_is_letter c) (hr.mono (by decide)) rfl c.g_is_letter c.fd_is_letter.kp (bn_is_letter_2 c) .nil (fun _ => rfl) (takes_of rfl rfl rfl rfl) (acons (dnm 1) (acons (dnm 0) (anil))))))
  (sone (sraise rfl (ek_InvalidNumber c) hr (takes_of rfl rfl rfl rfl) (acons (dnm 1) (anil))))
  (snil))
  (scons (sfor (passes_of rfl) rfl (iR2 c.b_range (dint) (dnm 0)) (gnm 2 (sc_inverse_of).nd)
  (sone (sif (tcmp (odEq (room64 hr)) (dbin odMod (dbin odMul (dnm 1) (dnm 2)) (dnm 0)) (dint))
  (sone (sret (dnm 2)))
  (snil))))
  (sone (sraise rfl (ek_Undefined c) hr (takes_of rfl rfl rfl rfl) (acons (dstr) (anil)))))))
theorem sc__law_told : FnScope ["_law_p", "_law_a", "e"] ["_law_p", "_law_a"] (defScope s__law_told) := ⟨rfl, rfl, rfl, by decide +kernel, rfl, by decide +kernel, by decide +kernel⟩
theorem ok__law_told (c : Fc P K mg) : FnOk P w K mg base (L2.CX P w) 6 (He.fAd K d__law_told.at_) (fdAt K d__law_told.at_ d0) ["_law_p", "_law_a"] (spM K F__law_told) := fnOk (k := 5) c.fd__law_told sc__law_told rfl fun cdv A outer s H E hr => (sone (stry rfl rfl (sc__law_told).nd (takes_of rfl rfl rfl rfl) (fun W pn xe tk hp => sone (sret (dfrz (dlst (acons (dstr) (acons (dcall (ok_inverse_of c) (hr.mono (by decide)) rfl c.g_inverse_of c.fd_inverse_of.kp (bn_inverse_of_2 c) .nil (fun _ => rfl) tk (acons (dnm 0) (acons (dnm 1) (anil)))) (anil)))))))
  (.as ⟨rfl, by decide, .inl c.g_InvalidNumber⟩ rfl rfl (xret_list (cs := ["InvalidNumber"]) (xpc (fun a oe pn => pe_str) (xpf c.eg_value_InvalidNumber (xpnil)))) (.as ⟨rfl, by decide, .inl c.g_Undefined⟩ rfl rfl (xret_list (cs := ["Undefined"]) (xpc (fun a oe pn => pe_str) (xpf c.eg_what_Undefined (xpnil)))) (ClOk.nil)))
  (.cons (suF_rel c.exm_InvalidNumber.1 c.exm_InvalidNumber.2 (by simp only [List.forall_mem_cons, xok]; simp [Dn])) (.cons (suF_rel c.exm_Undefined.1 c.exm_Undefined.2 (by simp only [List.forall_mem_cons, xok]; simp [Dn])) (ClRels.nil)))))
theorem sc_common_divisor : FnScope ["one", "other"] ["one", "other"] (defScope s_common_divisor) := ⟨rfl, rfl, rfl, by decide +kernel, rfl, by decide +kernel, by decide +kernel⟩
theorem ok_common_divisor (c : Fc P K mg) : FnOk P w K mg base (L2.CX P w) 2 (He.fAd K d_common_divisor.at_) (fdAt K d_common_divisor.at_ d0) ["one", "other"] (spM K F_common_divisor) := fnOk (k := 1) c.fd_common_divisor sc_common_divisor rfl fun cdv A outer s H E hr => (scons (sasg 0 (sc_common_divisor).nd (dcB cdAbs c.b_abs (by decide +kernel) (dnm 0)))
  (scons (sasg 1 (sc_common_divisor).nd (dcB cdAbs c.b_abs (by decide +kernel) (dnm 1)))
  (scons (swhl fuelG (passes_of rfl) (ttr (dnm 1))
  (sone (sasg2 0 1 rfl (sc_common_divisor).nd (dnm 1) (dbin odMod (dnm 0) (dnm 1)) (hp := ps_par rfl (sc_common_divisor).nd rfl rfl (by decide) rfl rfl (pa_cons (dnm 1) (pa_cons (dbin odMod (dnm 0) (dnm 1)) pa_nil)) rfl))))
  (sone (sret (dnm 0))))))
theorem sc_Shareu_initu : FnScope ["self", "top", "bottom", "divisor"] ["self", "top", "bottom"] (defScope s_Shareu_initu) := ⟨rfl, rfl, rfl, by decide +kernel, rfl, by decide +kernel, by decide +kernel⟩
theorem ok_Shareu_initu (c : Fc P K mg) : FnOk P w K mg base (L2.CX P w) 3 (He.fAd K d_Shareu_initu.at_) (fdAt K d_Shareu_initu.at_ d0) ["self", "top", "bottom"] (spM K F_Shareu_initu) := fnOk (k := 2) c.fd_Shareu_initu sc_Shareu_initu rfl fun cdv A outer s H E hr => (scons (sif (tw (wor (tnot_ (ttr (dcall (ok_is_integer c) (hr.mono (by decide)) rfl c.g_is_integer c.fd_is_integer.kp (bn_is_integer_1 c) .nil (fun _ => rfl) (takes_of rfl rfl rfl rfl) (acons (dnm 1) (anil))))) (wor (tnot_ (ttr (dcall (ok_is_integer c) (hr.mono (by decide)) rfl c.g_is_integer c.fd_is_integer.kp (bn_is_integer_1 c) .nil (fun _ => rfl) (takes_of rfl rfl rfl rfl) (acons (dnm 2) (anil))))) (wor1 (tcmp (odEq (room64 hr)) (dnm 2) (dint))))))
  (sone (sraise rfl (ek_InvalidShare c) hr (takes_of rfl rfl rfl rfl) (acons (dtup (acons (dnm 1) (acons (dnm 2) (anil)))) (anil))))
  (snil))
  (scons (sasg 3 (sc_Shareu_initu).nd (dcall (ok_common_divisor c) (hr.mono (by decide)) rfl c.g_common_divisor c.fd_common_divisor.kp (bn_common_divisor_2 c) .nil (fun _ => rfl) (takes_of rfl rfl rfl rfl) (acons (dnm 1) (acons (dnm 2) (anil)))))
  (scons (sif (tcmp odLt (dnm 2) (dint))
  (sone (sasg 3 (sc_Shareu_initu).nd (dneg (dnm 3))))
  (snil))
  (scons (ssetF 0 c.cf_top (dbin odDivA (dnm 1) (dnm 3)))
  (sone (ssetF 0 c.cf_bottom (dbin odDivA (dnm 2) (dnm 3))))))))
theorem sc__law_odd : FnScope ["_law_hand", "_law_depth", "_law_kind", "_law_parts", "_law_k", "_law_values"] ["_law_hand", "_law_depth"] (defScope s__law_odd) := ⟨rfl, rfl, rfl, by decide +kernel, rfl, by decide +kernel, by decide +kernel⟩
theorem st__law_odd (c : Fc P K mg) (n : Nat) {G : Fn} (ih : FnOk P w K mg base (L2.CX P w) (5 + n) (He.fAd K d__law_odd.at_) (fdAt K d__law_odd.at_ d0) ["_law_hand", "_law_depth"] (spM K G)) : FnOk P w K mg base (L2.CX P w) (5 + n + 1) (He.fAd K d__law_odd.at_) (fdAt K d__law_odd.at_ d0) ["_law_hand", "_law_depth"] (spM K (S__law_odd G)) := fnOk (k := 5 + n) c.fd__law_odd sc__law_odd rfl fun cdv A outer s H E hr => (scons (sasg 2 (sc__law_odd).nd (dcall (ok__law_take c) (hr.mono (by omega)) rfl c.g__law_take c.fd__law_take.kp (bn__law_take_2 c) .nil (fun _ => rfl) (takes_of rfl rfl rfl rfl) (amut 0 (acons (dint) (anil)))))
  (scons (sif (tw (wand (tcmp odGt (dnm 1) (dint)) (wand1 (tcmp odGt (dnm 2) (dint)))))
  (scons (sasgLcF 3 (own := [("_law_k", 4)]) rfl rfl (sc__law_odd).nd (iR1 c.b_range (dcall (ok__law_take c) (hr.mono (by omega)) rfl c.g__law_take c.fd__law_take.kp (bn__law_take_2 c) .nil (fun _ => rfl) (takes_of rfl rfl rfl rfl) (amut 0 (acons (dint) (anil))))) (blkOk_by (N := ["_law_hand", "_law_depth", "_law_kind", "_law_parts", "_law_k", "_law_values"]) (sc := defScope s__law_odd) (own := [("_law_k", 4)]) (by decide +kernel)) (by decide) (by decide) (fun s H C cl fp => gnm 4 (sc__law_odd).nd) (fun s H C cl fp => tsnil) (fun s H C cl fp => dcall ih (hr.mono (by omega)) rfl c.g__law_odd c.fd__law_odd.kp (bn__law_odd_2 c) .nil (fun _ => rfl) takes0 (amut 0 (acons (dbin odSub (dnm 1) (dint)) (anil)))))
  (sone (sret (dix (dfrz (dlst (acons (dnm 3) (acons (dtupD c.b_tuple (dnm 3)) (anil))))) (dbin odSub (dnm 2) (dint))))))
  (snil))
  (scons (sasg 5 (sc__law_odd).nd (dfrz (dlst (acons (dbl) (acons (dbl) (acons (dnon) (acons (dstr) (acons (dstr) (acons (dint) (acons (dint) (acons (dneg (dint)) (acons (dint) (acons (dint) (acons (dint) (acons (dint) (acons (dbin odPow (dint) (dint)) (acons (dneg (dbin odPow (dint) (dint))) (acons (dtup (anil)) (acons (dfrz (dlst (anil))) (acons (dmk c.mk_Share (ok_Shareu_initu c) (hr.mono (by omega)) rfl c.g_Share (bn_Shareu_initu_2 c).choose_spec.2 (bn_Shareu_initu_2 c).choose_spec.1 (fun _ => dns_dfl_Shareu_initu_2) (takes_of rfl rfl rfl rfl) (acons (dint) (anil))) (acons (dmk c.mk_Share (ok_Shareu_initu c) (hr.mono (by omega)) rfl c.g_Share (bn_Shareu_initu_2 c).choose_spec.2 (bn_Shareu_initu_2 c).choose_spec.1 (fun _ => dns_dfl_Shareu_initu_2) (takes_of rfl rfl rfl rfl) (acons (dint) (anil))) (acons (dmk c.mk_Share (ok_Shareu_initu c) (hr.mono (by omega)) rfl c.g_Share (bn_Shareu_initu_2 c).choose_spec.2 (bn_Shareu_initu_2 c).choose_spec.1 (fun _ => dns_dfl_Shareu_initu_2) (takes_of rfl rfl rfl rfl) (acons (dint) (anil))) (anil)))))))))))))))))))))))
  (sone (sret (dix (dnm 5) (dcall (ok__law_take c) (hr.mono (by omega)) rfl c.g__law_take c.fd__law_take.kp (bn__law_take_2 c) .nil (fun _ => rfl) (takes_of rfl rfl rfl rfl) (amut 0 (acons (dint) (anil))))))))))
theorem ok__law_odd (c : Fc P K mg) : ∀ n : Nat, FnOk P w K mg base (L2.CX P w) (5 + n) (He.fAd K d__law_odd.at_) (fdAt K d__law_odd.at_ d0) ["_law_hand", "_law_depth"] (spM K (F__law_odd n))
  | 0 => ⟨fun _ _ _ _ h => (spM_bad h).elim, fun _ _ _ _ _ _ _ _ _ _ _ _ _ h => (spM_bad h).elim⟩
  | n + 1 => st__law_odd c n (ok__law_odd c n)
theorem sc__law_no_field : FnScope ["_law_hand", "_law_value"] ["_law_hand"] (defScope s__law_no_field) := ⟨rfl, rfl, rfl, by decide +kernel, rfl, by decide +kernel, by decide +kernel⟩
theorem ok__law_no_field (c : Fc P K mg) : FnOk P w K mg base (L2.CX P w) 11 (He.fAd K d__law_no_field.at_) (fdAt K d__law_no_field.at_ d0) ["_law_hand"] (spM K F__law_no_field) := fnOk (k := 10) c.fd__law_no_field sc__law_no_field rfl fun cdv A outer s H E hr => (scons (sasg 1 (sc__law_no_field).nd (dix (dfrz (dlst (acons (dbin odSub (dcall (ok__law_take c) (hr.mono (by decide)) rfl c.g__law_take c.fd__law_take.kp (bn__law_take_2 c) .nil (fun _ => rfl) (takes_of rfl rfl rfl rfl) (amut 0 (acons (dint) (anil)))) (dint)) (acons (dcall (ok__law_odd c 5) (hr.mono (by decide)) rfl c.g__law_odd c.fd__law_odd.kp (bn__law_odd_2 c) .nil (fun _ => rfl) (takes_of rfl rfl rfl rfl) (amut 0 (acons (dint) (anil)))) (acons (dint) (acons (dint) (acons (dint) (acons (dneg (dint)) (acons (dint) (acons (dint) (acons (dmk c.mk_Share (ok_Shareu_initu c) (hr.mono (by decide)) rfl c.g_Share (bn_Shareu_initu_2 c).choose_spec.2 (bn_Shareu_initu_2 c).choose_spec.1 (fun _ => dns_dfl_Shareu_initu_2) (takes_of rfl rfl rfl rfl) (acons (dint) (anil))) (acons (dmk c.mk_Share (ok_Shareu_initu c) (hr.mono (by decide)) rfl c.g_Share (bn_Shareu_initu_2 c).choose_spec.2 (bn_Shareu_initu_2 c).choose_spec.1 (fun _ => dns_dfl_Shareu_initu_2) (takes_of rfl rfl rfl rfl) (acons (dint) (anil))) (anil))))))))))))) (dcall (ok__law_take c) (hr.mono (by decide)) rfl c.g__law_take c.fd__law_take.kp (bn__law_take_2 c) .nil (fun _ => rfl) (takes_of rfl rfl rfl rfl) (amut 0 (acons (dint) (anil))))))
  (scons (sif (ttr (dcall (ok__law_is_field c) (hr.mono (by decide)) rfl c.g__law_is_field c.fd__law_is_field.kp (bn__law_is_field_1 c) .nil (fun _ => rfl) (takes_of rfl rfl rfl rfl) (acons (dnm 1) (anil))))
  (sone (sret (dint)))
  (snil))
  (sone (sret (dnm 1)))))
theorem sc_parts_of : FnScope ["value"] ["value"] (defScope s_parts_of) := ⟨rfl, rfl, rfl, by decide +kernel, rfl, by decide +kernel, by decide +kernel⟩
theorem ok_parts_of (c : Fc P K mg) : FnOk P w K mg base (L2.CX P w) 3 (He.fAd K d_parts_of.at_) (fdAt K d_parts_of.at_ d0) ["value"] (spM K F_parts_of) := fnOk (k := 2) c.fd_parts_of sc_parts_of rfl fun cdv A outer s H E hr => (scons (sif (tval (disiO c.to_Share c.b_isinstance c.g_Share (dnm 0)))
  (sone (sret (dtup (acons (dfld c.cf_top (dnm 0)) (acons (dfld c.cf_bottom (dnm 0)) (anil))))))
  (snil))
  (scons (sif (ttr (dcall (ok_is_integer c) (hr.mono (by decide)) rfl c.g_is_integer c.fd_is_integer.kp (bn_is_integer_1 c) .nil (fun _ => rfl) (takes_of rfl rfl rfl rfl) (acons (dnm 0) (anil))))
  (sone (sret (dtup (acons (dnm 0) (acons (dint) (anil))))))
  (snil))
  (sone (sret (dnon)))))
theorem sc_Shareu_equ : FnScope ["self", "other", "parts"] ["self", "other"] (defScope s_Shareu_equ) := ⟨rfl, rfl, rfl, by decide +kernel, rfl, by decide +kernel, by decide +kernel⟩
theorem ok_Shareu_equ (c : Fc P K mg) : FnOk P w K mg base (L2.CX P w) 4 (He.fAd K d_Shareu_equ.at_) (fdAt K d_Shareu_equ.at_ d0) ["self", "other"] (spM K F_Shareu_equ) := fnOk (k := 3) c.fd_Shareu_equ sc_Shareu_equ rfl fun cdv A outer s H E hr => (scons (sasg 2 (sc_Shareu_equ).nd (dcall (ok_parts_of c) (hr.mono (by decide)) rfl c.g_parts_of c.fd_parts_of.kp (bn_parts_of_1 c) .nil (fun _ => rfl) (takes_of rfl rfl rfl rfl) (acons (dnm 1) (anil))))
  (scons (sif (tcmp odIsN (dnm 2) (dnon))
  (sone (sret (dbl)))
  (snil))
  (sone (sret (dand (dcmp (odEq (room64 hr)) (dfld c.cf_top (dnm 0)) (dix (dnm 2) (dint))) (done_ (dcmp (odEq (room64 hr)) (dfld c.cf_bottom (dnm 0)) (dix (dnm 2) (dint)))))))))
theorem sc__law_refuses : FnScope ["_law_p", "_law_a", "_law_value", "_law_found"] ["_law_p", "_law_a", "_law_value"] (defScope s__law_refuses) := ⟨rfl, rfl, rfl, by decide +kernel, rfl, by decide +kernel, by decide +kernel⟩
theorem ok__law_refuses (c : Fc P K mg) : FnOk P w K mg base (L2.CX P w) 26 (He.fAd K d__law_refuses.at_) (fdAt K d__law_refuses.at_ d0) ["_law_p", "_law_a", "_law_value"] (spM K F__law_refuses) := fnOk (k := 25) c.fd__law_refuses sc__law_refuses rfl fun cdv A outer s H E hr => (scons (sasg 3 (sc__law_refuses).nd (dcall (ok__law_told c) (hr.mono (by decide)) rfl c.g__law_told c.fd__law_told.kp (bn__law_told_2 c) .nil (fun _ => rfl) (takes_of rfl rfl rfl rfl) (acons (dnm 0) (acons (dnm 1) (anil)))))
  (sone (sret (dand (dcmp (odEq (room64 hr)) (dix (dnm 3) (dint)) (dstr)) (dand (dcmpO (room64 hr) c.nol (ok_Shareu_equ c) eqs_Share (hr.mono (by decide)) c.eq_Share.1 c.eq_Share.2 (bn_Shareu_equ_2 c) (dix (dnm 3) (dint)) (dnm 2)) (done_ (dcmp (odEq (room64 hr)) (disiB c.tb_bool c.b_isinstance c.b_bool (by decide +kernel) (dix (dnm 3) (dint))) (disiB c.tb_bool c.b_isinstance c.b_bool (by decide +kernel) (dnm 2)))))))))
theorem sc__law_draws : FnScope ["_law_script", "_law_many", "_law_rests", "_law_cell", "_law_draws_here", "_law_k", "_law_at", "_law_mixed"] ["_law_script", "_law_many"] (defScope s__law_draws) := ⟨rfl, rfl, rfl, by decide +kernel, rfl, by decide +kernel, by decide +kernel⟩
theorem ok__law_draws (c : Fc P K mg) : FnOk P w K mg base (L2.CX P w) 2 (He.fAd K d__law_draws.at_) (fdAt K d__law_draws.at_ d0) ["_law_script", "_law_many"] (spM K F__law_draws) := fnOk (k := 1) c.fd__law_draws sc__law_draws rfl fun cdv A outer s H E hr => (scons (sasgLc 2 (own := [("_law_cell", 3)]) rfl rfl (sc__law_draws).nd (iD (dnm 0)) (blkOk_by (N := ["_law_script", "_law_many", "_law_rests", "_law_cell", "_law_draws_here", "_law_k", "_law_at", "_law_mixed"]) (sc := defScope s__law_draws) (own := [("_law_cell", 3)]) (by decide +kernel)) (by decide) (by decide) (fun s H C cl fp => gnm 3 (sc__law_draws).nd) (fun s H C cl fp => tsnil) (fun s H C cl fp => dcB cdAbs c.b_abs (by decide +kernel) (dcT cdInt c.b_int (by decide +kernel) (dnm 3))))
  (scons (sasgM 4 (sc__law_draws).nd (dlst (anil)))
  (scons (sfor (passes_of rfl) rfl (iR1 c.b_range (dnm 1)) (gnm 5 (sc__law_draws).nd)
  (scons (sasg 3 (sc__law_draws).nd (dnm 5))
  (scons (sif (tcmp odGt (dcB cdLenA c.b_len (by decide +kernel) (dnm 0)) (dint))
  (scons (sasg 6 (sc__law_draws).nd (dbin odMod (dnm 5) (dcB cdLenA c.b_len (by decide +kernel) (dnm 0))))
  (scons (sasg 3 (sc__law_draws).nd (dcT cdInt c.b_int (by decide +kernel) (dix (dnm 0) (dnm 6))))
  (sone (sif (tw (wand (tcmp odGe (dnm 3) (dbin odPow (dint) (dint))) (wand1 (tcmp odGt (dixM 2 (dnm 6)) (dint)))))
  (scons (sappM 4 (dbin odMod (dcT cdInt c.b_int (by decide +kernel) (dixM 2 (dnm 6))) (dint)) (hm := pe_bm PySem.F.plainAttrs_list PySem.F.slot_list_append PySem.F.type_list_append mt_append (pe_var rfl (by first | exact Or.inl rfl | exact Or.inr (Or.inl rfl) | exact Or.inr (Or.inr rfl))) (pa_cons (dbin odMod (dcT cdInt c.b_int (by decide +kernel) (dixM 2 (dnm 6))) (dint)) pa_nil)))
  (scons (ssetM 2 (dbin odDivA (dcT cdInt c.b_int (by decide +kernel) (dixM 2 (dnm 6))) (dint)) (dnm 6))
  (sone (scnt))))
  (snil)))))
  (snil))
  (scons (sasg 7 (sc__law_draws).nd (dbin odMod (dcT cdInt c.b_int (by decide +kernel) (dbinA oaAdd (dbinA oaAdd (dbin odMul (dnm 3) (dint)) (dbin odMul (dnm 5) (dint))) (dint))) (dint)))
  (scons (sasg 7 (sc__law_draws).nd (dbin odMod (dcT cdInt c.b_int (by decide +kernel) (dbinA oaAdd (dbin odDivA (dbin odMul (dnm 7) (dnm 7)) (dint)) (dnm 7))) (dint)))
  (sone (sappM 4 (dbin odMod (dcT cdInt c.b_int (by decide +kernel) (dbinA oaAdd (dbin odDivA (dbin odMul (dnm 7) (dnm 7)) (dint)) (dbin odMul (dnm 5) (dint)))) (dint)) (hm := pe_bm PySem.F.plainAttrs_list PySem.F.slot_list_append PySem.F.type_list_append mt_append (pe_var rfl (by first | exact Or.inl rfl | exact Or.inr (Or.inl rfl) | exact Or.inr (Or.inr rfl))) (pa_cons (dbin odMod (dcT cdInt c.b_int (by decide +kernel) (dbinA oaAdd (dbin odDivA (dbin odMul (dnm 7) (dnm 7)) (dint)) (dbin odMul (dnm 5) (dint)))) (dint)) pa_nil)))))))))
  (sone (sret (dnmF 4))))))
theorem sc__law_like : FnScope ["_law_found", "_law_due"] ["_law_found", "_law_due"] (defScope s__law_like) := ⟨rfl, rfl, rfl, by decide +kernel, rfl, by decide +kernel, by decide +kernel⟩
theorem ok__law_like (c : Fc P K mg) : FnOk P w K mg base (L2.CX P w) 2 (He.fAd K d__law_like.at_) (fdAt K d__law_like.at_ d0) ["_law_found", "_law_due"] (spM K F__law_like) := fnOk (k := 1) c.fd__law_like sc__law_like rfl fun cdv A outer s H E hr => (scons (sif (tw (wand (tval (disiB c.tb_int c.b_isinstance c.b_int (by decide +kernel) (dnm 1))) (wand1 (tnot_ (tval (disiB c.tb_bool c.b_isinstance c.b_bool (by decide +kernel) (dnm 1)))))))
  (sone (sret (dand (disiB c.tb_int c.b_isinstance c.b_int (by decide +kernel) (dnm 0)) (dand (dnot (disiB c.tb_bool c.b_isinstance c.b_bool (by decide +kernel) (dnm 0))) (done_ (dcmp (odEq (room64 hr)) (dnm 0) (dnm 1)))))))
  (snil))
  (sone (sret (dor (dnot (disiB c.tb_int c.b_isinstance c.b_int (by decide +kernel) (dnm 0))) (done_ (dand (dcmp (odEq (room64 hr)) (disiB c.tb_bool c.b_isinstance c.b_bool (by decide +kernel) (dnm 0)) (disiB c.tb_bool c.b_isinstance c.b_bool (by decide +kernel) (dnm 1))) (done_ (dcmp (odEq (room64 hr)) (dnm 0) (dnm 1)))))))))
theorem sc__law_inverse : FnScope ["_law_a", "_law_p", "_law_b"] ["_law_a", "_law_p"] (defScope s__law_inverse) := ⟨rfl, rfl, rfl, by decide +kernel, rfl, by decide +kernel, by decide +kernel⟩
theorem ok__law_inverse (c : Fc P K mg) : FnOk P w K mg base (L2.CX P w) 2 (He.fAd K d__law_inverse.at_) (fdAt K d__law_inverse.at_ d0) ["_law_a", "_law_p"] (spM K F__law_inverse) := fnOk (k := 1) c.fd__law_inverse sc__law_inverse rfl fun cdv A outer s H E hr => (scons (sfor (passes_of rfl) rfl (iR2 c.b_range (dint) (dnm 1)) (gnm 2 (sc__law_inverse).nd)
  (sone (sif (tcmp (odEq (room64 hr)) (dbin odMod (dcT cdInt c.b_int (by decide +kernel) (dbin odMul (dnm 0) (dnm 2))) (dnm 1)) (dint))
  (sone (sret (dnm 2)))
  (snil))))
  (sone (sret (dint))))
theorem sc_law : FnScope ["_law_script", "_law_hand", "_law_value", "_law_answer", "_law_p", "_law_a", "_law_found", "_law_wrong", "_law_no_field_here"] ["_law_script"] (defScope s_law) := ⟨rfl, rfl, rfl, by decide +kernel, rfl, by decide +kernel, by decide +kernel⟩
theorem ok_law (c : Fc P K mg) : FnOk P w K mg base (L2.CX P w) 27 (He.fAd K d_law.at_) (fdAt K d_law.at_ d0) ["_law_script"] (spM K F_law) := fnOk (k := 26) c.fd_law sc_law rfl fun cdv A outer s H E hr => (scons (sasgM 1 (sc_law).nd (dlst (acons (dcall (ok__law_draws c) (hr.mono (by decide)) rfl c.g__law_draws c.fd__law_draws.kp (bn__law_draws_2 c) .nil (fun _ => rfl) (takes_of rfl rfl rfl rfl) (acons (dnm 0) (acons (dint) (anil)))) (acons (dint) (anil)))))
  (scons (sfor (passes_of rfl) rfl (iD (dfrz (dlst (acons (dcall (ok__law_odd c 5) (hr.mono (by decide)) rfl c.g__law_odd c.fd__law_odd.kp (bn__law_odd_2 c) .nil (fun _ => rfl) (takes_of rfl rfl rfl rfl) (amut 1 (acons (dint) (anil)))) (acons (dbin odSub (dcall (ok__law_take c) (hr.mono (by decide)) rfl c.g__law_take c.fd__law_take.kp (bn__law_take_2 c) .nil (fun _ => rfl) (takes_of rfl rfl rfl rfl) (amut 1 (acons (dint) (anil)))) (dint)) (acons (dcall (ok__law_odd c 5) (hr.mono (by decide)) rfl c.g__law_odd c.fd__law_odd.kp (bn__law_odd_2 c) .nil (fun _ => rfl) (takes_of rfl rfl rfl rfl) (amut 1 (acons (dint) (anil)))) (acons (dcall (ok__law_field c) (hr.mono (by decide)) rfl c.g__law_field c.fd__law_field.kp (bn__law_field_1 c) .nil (fun _ => rfl) (takes_of rfl rfl rfl rfl) (amut 1 (anil))) (acons (dfrz (dlst (acons (dcall (ok__law_field c) (hr.mono (by decide)) rfl c.g__law_field c.fd__law_field.kp (bn__law_field_1 c) .nil (fun _ => rfl) (takes_of rfl rfl rfl rfl) (amut 1 (anil))) (anil)))) (anil))))))))) (gnm 2 (sc_law).nd)
  (scons (sasg 3 (sc_law).nd (dcall (ok_is_field c) (hr.mono (by decide)) rfl c.g_is_field c.fd_is_field.kp (bn_is_field_1 c) .nil (fun _ => rfl) (takes_of rfl rfl rfl rfl) (acons (dnm 2) (anil))))
  (sone (sif (tw (wor (tnot_ (tval (disiB c.tb_bool c.b_isinstance c.b_bool (by decide +kernel) (dnm 3)))) (wor1 (tcmp (odNe (room64 hr)) (dnm 3) (dcall (ok__law_is_field c) (hr.mono (by decide)) rfl c.g__law_is_field c.fd__law_is_field.kp (bn__law_is_field_1 c) .nil (fun _ => rfl) (takes_of rfl rfl rfl rfl) (acons (dnm 2) (anil)))))))
  (sone (sret (dbl)))
  (snil)))))
  (scons (sasg 4 (sc_law).nd (dcall (ok__law_field c) (hr.mono (by decide)) rfl c.g__law_field c.fd__law_field.kp (bn__law_field_1 c) .nil (fun _ => rfl) (takes_of rfl rfl rfl rfl) (amut 1 (anil))))
  (scons (sasg 5 (sc_law).nd (dcall (ok__law_take c) (hr.mono (by decide)) rfl c.g__law_take c.fd__law_take.kp (bn__law_take_2 c) .nil (fun _ => rfl) (takes_of rfl rfl rfl rfl) (amut 1 (acons (dnm 4) (anil)))))
  (scons (sasg 6 (sc_law).nd (dcall (ok__law_told c) (hr.mono (by decide)) rfl c.g__law_told c.fd__law_told.kp (bn__law_told_2 c) .nil (fun _ => rfl) (takes_of rfl rfl rfl rfl) (acons (dnm 4) (acons (dnm 5) (anil)))))
  (scons (sif (tcmp (odEq (room64 hr)) (dnm 5) (dint))
  (sone (sif (tcmp (odNe (room64 hr)) (dnm 6) (dfrz (dlst (acons (dstr) (acons (dstr) (anil))))))
  (sone (sret (dbl)))
  (snil)))
  (sone (sif (tw (wor (tcmp (odNe (room64 hr)) (dix (dnm 6) (dint)) (dstr)) (wor1 (tnot_ (ttr (dcall (ok__law_like c) (hr.mono (by decide)) rfl c.g__law_like c.fd__law_like.kp (bn__law_like_2 c) .nil (fun _ => rfl) (takes_of rfl rfl rfl rfl) (acons (dix (dnm 6) (dint)) (acons (dcall (ok__law_inverse c) (hr.mono (by decide)) rfl c.g__law_inverse c.fd__law_inverse.kp (bn__law_inverse_2 c) .nil (fun _ => rfl) (takes_of rfl rfl rfl rfl) (acons (dnm 5) (acons (dnm 4) (anil)))) (anil)))))))))
  (sone (sret (dbl)))
  (snil))))
  (scons (sasg 7 (sc_law).nd (dix (dfrz (dlst (acons (dnm 4) (acons (dneg (dint)) (acons (dbl) (acons (dnon) (acons (dstr) (acons (dtup (acons (dint) (anil))) (acons (dbin odPow (dint) (dint)) (acons (dbl) (acons (dbinA oaAdd (dnm 4) (dint)) (acons (dmk c.mk_Share (ok_Shareu_initu c) (hr.mono (by decide)) rfl c.g_Share (bn_Shareu_initu_2 c).choose_spec.2 (bn_Shareu_initu_2 c).choose_spec.1 (fun _ => dns_dfl_Shareu_initu_2) (takes_of rfl rfl rfl rfl) (acons (dint) (anil))) (anil))))))))))))) (dcall (ok__law_take c) (hr.mono (by decide)) rfl c.g__law_take c.fd__law_take.kp (bn__law_take_2 c) .nil (fun _ => rfl) (takes_of rfl rfl rfl rfl) (amut 1 (acons (dint) (anil))))))
  (scons (sasg 8 (sc_law).nd (dcall (ok__law_no_field c) (hr.mono (by decide)) rfl c.g__law_no_field c.fd__law_no_field.kp (bn__law_no_field_1 c) .nil (fun _ => rfl) (takes_of rfl rfl rfl rfl) (amut 1 (anil))))
  (scons (sif (tw (wor (tnot_ (ttr (dcall (ok__law_refuses c) (hr.mono (by decide)) rfl c.g__law_refuses c.fd__law_refuses.kp (bn__law_refuses_3 c) .nil (fun _ => rfl) (takes_of rfl rfl rfl rfl) (acons (dnm 4) (acons (dnm 7) (acons (dnm 7) (anil))))))) (wor1 (tnot_ (ttr (dcall (ok__law_refuses c) (hr.mono (by decide)) rfl c.g__law_refuses c.fd__law_refuses.kp (bn__law_refuses_3 c) .nil (fun _ => rfl) (takes_of rfl rfl rfl rfl) (acons (dnm 8) (acons (dnm 7) (acons (dnm 8) (anil))))))))))
  (sone (sret (dbl)))
  (snil))
  (sone (sret (dcall (ok__law_refuses c) (hr.mono (by decide)) rfl c.g__law_refuses c.fd__law_refuses.kp (bn__law_refuses_3 c) .nil (fun _ => rfl) (takes_of rfl rfl rfl rfl) (acons (dnm 8) (acons (dnm 5) (acons (dnm 8) (anil))))))))))))))))
end
end Wk
end

section
set_option Elab.async false
set_option linter.all false
set_option maxRecDepth 100000
set_option maxHeartbeats 400000
namespace Pl
open DL Mi
abbrev Hand (L : List Int) (n : Nat) : Sl := .m [.lst (L.map D.int), .int n]
theorem take_ev (L : List Int) (n : Nat) (many : Int) (hm : 0 < many) : ∃ r : Int, 0 ≤ r ∧ r < many ∧ F__law_take [Hand L n, .d (.int many)] = .rt (.int r) [Hand L (n + 1), .no] := by
  by_cases h : L.length ≤ n
  · refine ⟨0, by omega, hm, ?_⟩
    simp [F__law_take, seqS, ifS, asg, asgM, asg2, DL.ret, retM, retN, drp, nxt, brk, DL.cnt, retS, appM, setM, Out.then, Out.bind, ofO, nm, cst, nmF, nmP, pk, pkM, frz, DL.bin, binA, un, unP, tb, tr, trP, tand, tor, tnot, eand, eor, enot, eif, opAdd, opAddA, Rz.d, opSub, opMul, opDivA, opDiv, opMod, opPow, opLt, opLe, opGt, opGe, opIsN, opNotN, isNon, opNeg, opIx, ixM, L2.atI, L2.ixN, aNil, aD, aM, isM, dvs, mkTup, mkLst, DL.call, callM, appF, avSl, mvs, putBack, mkFn, outs, List.range_succ, opAbs, opInt, opBool, opLenA, opLen, opT, isiB, isiO, D.ty, D.tru, toLst, tupD, tupP, toTup, forS, loop, bN, bT, bCons, bNil, itD, itT, itR1, itR2, raiseE, avD, tryS, clauses, suL, suF, suT, suR, xvals, xval, fld, fldS, setF, fldOf, putNs, putXs, lc, lcL, wipeS, backS, yes, mkI, PySem.sizeLine, h]
  · have h2 : n < L.length := by omega
    refine ⟨L[n] / 7 % many, Int.emod_nonneg _ (by omega), Int.emod_lt_of_pos _ hm, ?_⟩
    have h7 : okDiv L[n] 7 = true := rfl
    simp [F__law_take, seqS, ifS, asg, asgM, asg2, DL.ret, retM, retN, drp, nxt, brk, DL.cnt, retS, appM, setM, Out.then, Out.bind, ofO, nm, cst, nmF, nmP, pk, pkM, frz, DL.bin, binA, un, unP, tb, tr, trP, tand, tor, tnot, eand, eor, enot, eif, opAdd, opAddA, Rz.d, opSub, opMul, opDivA, opDiv, opMod, opPow, opLt, opLe, opGt, opGe, opIsN, opNotN, isNon, opNeg, opIx, ixM, L2.atI, L2.ixN, aNil, aD, aM, isM, dvs, mkTup, mkLst, DL.call, callM, appF, avSl, mvs, putBack, mkFn, outs, List.range_succ, opAbs, opInt, opBool, opLenA, opLen, opT, isiB, isiO, D.ty, D.tru, toLst, tupD, tupP, toTup, forS, loop, bN, bT, bCons, bNil, itD, itT, itR1, itR2, raiseE, avD, tryS, clauses, suL, suF, suT, suR, xvals, xval, fld, fldS, setF, fldOf, putNs, putXs, lc, lcL, wipeS, backS, yes, mkI, PySem.sizeLine, h, h2, hm, h7]
/-- one of the fields -/
def fields : List Int := [2, 3, 5, 7, 11, 13, 17, 19, 23, 29, 31]
def fieldB : D → Bool
  | .int i => fields.any fun z => z == i
  | _ => false
theorem isint_ev (d : D) (h : d.fit "Share" okI_Share = true) : F_is_integer [.d d] = .rt (.bl (match d with | .int _ => true | _ => false)) [.no] := by
  cases d with
  | ins c ns xs =>
    obtain ⟨h1, _⟩ := Bool.and_eq_true_iff.mp (show (decide (c = "Share") && okI_Share ns xs) = true from h)
    cases of_decide_eq_true h1
    rfl
  | _ => rfl
theorem isf_ev (d : D) (h : d.fit "Share" okI_Share = true) : F_is_field [.d d] = .rt (.bl (fieldB d)) [.no] := by
  have h1 := isint_ev d h
  cases d with
  | int i => simp [F_is_field, seqS, ifS, asg, asgM, asg2, DL.ret, retM, retN, drp, nxt, brk, DL.cnt, retS, appM, setM, Out.then, Out.bind, ofO, nm, cst, nmF, nmP, pk, pkM, frz, DL.bin, binA, un, unP, tb, tr, trP, tand, tor, tnot, eand, eor, enot, eif, opAdd, opAddA, Rz.d, opSub, opMul, opDivA, opDiv, opMod, opPow, opLt, opLe, opGt, opGe, opIsN, opNotN, isNon, opNeg, opIx, ixM, L2.atI, L2.ixN, aNil, aD, aM, isM, dvs, mkTup, mkLst, DL.call, callM, appF, avSl, mvs, putBack, mkFn, outs, List.range_succ, opAbs, opInt, opBool, opLenA, opLen, opT, isiB, isiO, D.ty, D.tru, toLst, tupD, tupP, toTup, forS, loop, bN, bT, bCons, bNil, itD, itT, itR1, itR2, raiseE, avD, tryS, clauses, suL, suF, suT, suR, xvals, xval, fld, fldS, setF, fldOf, putNs, putXs, lc, lcL, wipeS, backS, yes, mkI, PySem.sizeLine, h1, fieldB, fields, opInS, D.sc, D.eqv, D.py, PySem.PyData.eqv]
  | _ => simp [F_is_field, seqS, ifS, asg, asgM, asg2, DL.ret, retM, retN, drp, nxt, brk, DL.cnt, retS, appM, setM, Out.then, Out.bind, ofO, nm, cst, nmF, nmP, pk, pkM, frz, DL.bin, binA, un, unP, tb, tr, trP, tand, tor, tnot, eand, eor, enot, eif, opAdd, opAddA, Rz.d, opSub, opMul, opDivA, opDiv, opMod, opPow, opLt, opLe, opGt, opGe, opIsN, opNotN, isNon, opNeg, opIx, ixM, L2.atI, L2.ixN, aNil, aD, aM, isM, dvs, mkTup, mkLst, DL.call, callM, appF, avSl, mvs, putBack, mkFn, outs, List.range_succ, opAbs, opInt, opBool, opLenA, opLen, opT, isiB, isiO, D.ty, D.tru, toLst, tupD, tupP, toTup, forS, loop, bN, bT, bCons, bNil, itD, itT, itR1, itR2, raiseE, avD, tryS, clauses, suL, suF, suT, suR, xvals, xval, fld, fldS, setF, fldOf, putNs, putXs, lc, lcL, wipeS, backS, yes, mkI, PySem.sizeLine, h1, fieldB]
theorem lisf_int (i : Int) : F__law_is_field [.d (.int i)] = .rt (.bl (fields.any fun z => z == i)) [.no] := by
  by_cases h1 : i < 2
  · have hf : (fields.any fun z => z == i) = false := by simp [fields]; omega
    rw [hf]
    simp [F__law_is_field, seqS, ifS, asg, asgM, asg2, DL.ret, retM, retN, drp, nxt, brk, DL.cnt, retS, appM, setM, Out.then, Out.bind, ofO, nm, cst, nmF, nmP, pk, pkM, frz, DL.bin, binA, un, unP, tb, tr, trP, tand, tor, tnot, eand, eor, enot, eif, opAdd, opAddA, Rz.d, opSub, opMul, opDivA, opDiv, opMod, opPow, opLt, opLe, opGt, opGe, opIsN, opNotN, isNon, opNeg, opIx, ixM, L2.atI, L2.ixN, aNil, aD, aM, isM, dvs, mkTup, mkLst, DL.call, callM, appF, avSl, mvs, putBack, mkFn, outs, List.range_succ, opAbs, opInt, opBool, opLenA, opLen, opT, isiB, isiO, D.ty, D.tru, toLst, tupD, tupP, toTup, forS, loop, bN, bT, bCons, bNil, itD, itT, itR1, itR2, raiseE, avD, tryS, clauses, suL, suF, suT, suR, xvals, xval, fld, fldS, setF, fldOf, putNs, putXs, lc, lcL, wipeS, backS, yes, mkI, PySem.sizeLine, h1]
  · by_cases h2 : i > 31
    · have hf : (fields.any fun z => z == i) = false := by simp [fields]; omega
      rw [hf]
      simp [F__law_is_field, seqS, ifS, asg, asgM, asg2, DL.ret, retM, retN, drp, nxt, brk, DL.cnt, retS, appM, setM, Out.then, Out.bind, ofO, nm, cst, nmF, nmP, pk, pkM, frz, DL.bin, binA, un, unP, tb, tr, trP, tand, tor, tnot, eand, eor, enot, eif, opAdd, opAddA, Rz.d, opSub, opMul, opDivA, opDiv, opMod, opPow, opLt, opLe, opGt, opGe, opIsN, opNotN, isNon, opNeg, opIx, ixM, L2.atI, L2.ixN, aNil, aD, aM, isM, dvs, mkTup, mkLst, DL.call, callM, appF, avSl, mvs, putBack, mkFn, outs, List.range_succ, opAbs, opInt, opBool, opLenA, opLen, opT, isiB, isiO, D.ty, D.tru, toLst, tupD, tupP, toTup, forS, loop, bN, bT, bCons, bNil, itD, itT, itR1, itR2, raiseE, avD, tryS, clauses, suL, suF, suT, suR, xvals, xval, fld, fldS, setF, fldOf, putNs, putXs, lc, lcL, wipeS, backS, yes, mkI, PySem.sizeLine, h1, h2]
    · have key : ∀ k : Nat, k < 30 → F__law_is_field [.d (.int ((k : Int) + 2))] = .rt (.bl (fields.any fun z => z == ((k : Int) + 2))) [.no] := by
        intro k hk
        match k, hk with
        | 0, _ => rfl
        | 1, _ => rfl
        | 2, _ => rfl
        | 3, _ => rfl
        | 4, _ => rfl
        | 5, _ => rfl
        | 6, _ => rfl
        | 7, _ => rfl
        | 8, _ => rfl
        | 9, _ => rfl
        | 10, _ => rfl
        | 11, _ => rfl
        | 12, _ => rfl
        | 13, _ => rfl
        | 14, _ => rfl
        | 15, _ => rfl
        | 16, _ => rfl
        | 17, _ => rfl
        | 18, _ => rfl
        | 19, _ => rfl
        | 20, _ => rfl
        | 21, _ => rfl
        | 22, _ => rfl
        | 23, _ => rfl
        | 24, _ => rfl
        | 25, _ => rfl
        | 26, _ => rfl
        | 27, _ => rfl
        | 28, _ => rfl
        | 29, _ => rfl
        | k + 30, h => exact absurd h (by omega)
      have := key (i - 2).toNat (by omega)
      rwa [show (((i - 2).toNat : Nat) : Int) + 2 = i by omega] at this
theorem lisf_ev (d : D) (h : d.fit "Share" okI_Share = true) : F__law_is_field [.d d] = .rt (.bl (fieldB d)) [.no] := by
  cases d with
  | int i => exact lisf_int i
  | ins c ns xs =>
    obtain ⟨h1, _⟩ := Bool.and_eq_true_iff.mp (show (decide (c = "Share") && okI_Share ns xs) = true from h)
    cases of_decide_eq_true h1
    rfl
  | _ => rfl

abbrev sh (i : Int) : D := .ins "Share" ["top", "bottom"] [.int i, .int 1]
def vals : List D := [.bl true, .bl false, .non, .str "", .str "a1", .int 0, .int 1, .int (-1), .int 2, .int 7, .int 31, .int 37, .int (10 ^ 30), .int (-10 ^ 30), .tup [], .lst [], sh 7, sh 1, sh 0]
theorem vals_ev (a b c d e f : Sl) : (frz (mkLst (aD (cst (.bl true)) (aD (cst (.bl false)) (aD (cst .non) (aD (cst (.str "")) (aD (cst (.str "a1")) (aD (cst (.int 0)) (aD (cst (.int 1)) (aD (un opNeg (cst (.int 1))) (aD (cst (.int 2)) (aD (cst (.int 7)) (aD (cst (.int 31)) (aD (cst (.int 37)) (aD (bin opPow (cst (.int 10)) (cst (.int 30))) (aD (un opNeg (bin opPow (cst (.int 10)) (cst (.int 30)))) (aD (mkTup (aNil)) (aD (frz (mkLst (aNil))) (aD (mkI [0] "Share" F_Shareu_initu [.int 1] (aD (cst (.int 7)) (aNil))) (aD (mkI [0] "Share" F_Shareu_initu [.int 1] (aD (cst (.int 1)) (aNil))) (aD (mkI [0] "Share" F_Shareu_initu [.int 1] (aD (cst (.int 0)) (aNil))) (aNil)))))))))))))))))))))) [a, b, c, d, e, f] = .ok (.lst vals) [a, b, c, d, e, f] := by rfl
theorem fits_app (xs : List D) (d : D) : D.fits "Share" okI_Share (xs ++ [d]) = (D.fits "Share" okI_Share xs && d.fit "Share" okI_Share) := by
  induction xs with
  | nil => simp [D.fits]
  | cons x xs ih => simp only [List.cons_append, D.fits, ih, Bool.and_assoc]
theorem deps_app (xs : List D) (d : D) : D.deps (xs ++ [d]) = max (D.deps xs) d.dep := by
  induction xs with
  | nil => simp [D.deps]
  | cons x xs ih => simp only [List.cons_append, D.deps, ih, Nat.max_assoc]
def Good (k : Nat) (d : D) : Prop := d.fit "Share" okI_Share = true ∧ d.dep ≤ k ∧ (d.sc = true → d.okEq = true)
theorem part_ev (G : Fn) (k : Nat) (hG : ∀ L n, ∃ d m, G [Hand L n, .d (.int ((k : Int) - 1))] = .rt d [Hand L m, .no] ∧ Good k d) : ∀ (xs acc : List D) (L : List Int) (n : Nat) (s2 s3 s5 : Sl), D.fits "Share" okI_Share acc = true → D.deps acc ≤ k →
    ∃ ys m, lcL [4] (bN [0] 4) yes (DL.call G [] (aM 0 (aD (DL.bin opSub (nm 1) (cst (.int 1))) aNil))) xs acc [Hand L n, .d (.int k), s2, s3, .no, s5] = some (ys, [Hand L m, .d (.int k), s2, s3, .no, s5]) ∧ D.fits "Share" okI_Share ys = true ∧ D.deps ys ≤ k
  | [], acc, L, n, s2, s3, s5, h1, h2 => ⟨acc, n, rfl, h1, h2⟩
  | x :: xs, acc, L, n, s2, s3, s5, h1, h2 => by
    obtain ⟨d, m, e, g1, g2, _⟩ := hG L n
    obtain ⟨ys, m', e', g3, g4⟩ := part_ev G k hG xs (acc ++ [d]) L m s2 s3 s5 (by rw [fits_app, h1, g1]; rfl) (by rw [deps_app]; omega)
    refine ⟨ys, m', ?_, g3, g4⟩
    rw [← e']
    simp [seqS, ifS, asg, asgM, asg2, DL.ret, retM, retN, drp, nxt, brk, DL.cnt, retS, appM, setM, Out.then, Out.bind, ofO, nm, cst, nmF, nmP, pk, pkM, frz, DL.bin, binA, un, unP, tb, tr, trP, tand, tor, tnot, eand, eor, enot, eif, opAdd, opAddA, Rz.d, opSub, opMul, opDivA, opDiv, opMod, opPow, opLt, opLe, opGt, opGe, opIsN, opNotN, isNon, opNeg, opIx, ixM, L2.atI, L2.ixN, aNil, aD, aM, isM, dvs, mkTup, mkLst, DL.call, callM, appF, avSl, mvs, putBack, mkFn, outs, List.range_succ, opAbs, opInt, opBool, opLenA, opLen, opT, isiB, isiO, D.ty, D.tru, toLst, tupD, tupP, toTup, forS, loop, bN, bT, bCons, bNil, itD, itT, itR1, itR2, raiseE, avD, tryS, clauses, suL, suF, suT, suR, xvals, xval, fld, fldS, setF, fldOf, putNs, putXs, lc, lcL, wipeS, backS, yes, mkI, PySem.sizeLine, e]
theorem odd_step (k : Nat) (G : Fn) (hG : 0 < k → ∀ L n, ∃ d m, G [Hand L n, .d (.int ((k : Int) - 1))] = .rt d [Hand L m, .no] ∧ Good k d) (L : List Int) (n : Nat) : ∃ d m, S__law_odd G [Hand L n, .d (.int k)] = .rt d [Hand L m, .no] ∧ Good (k + 1) d := by
  obtain ⟨kind, k1, k2, ek⟩ := take_ev L n 9 (by decide)
  by_cases h : 0 < k ∧ 6 < kind
  · obtain ⟨r, r1, r2, er⟩ := take_ev L (n + 1) 4 (by decide)
    obtain ⟨ys, m, e, f1, f2⟩ := part_ev G k (hG h.1) (upto 0 r.toNat) [] L (n + 2) (.d (.int kind)) .no .no rfl (Nat.zero_le _)
    have hk : kind = 7 ∨ kind = 8 := by omega
    have h0 : (0 : Int) < (k : Int) := by omega
    have hr : okR r = true := by unfold okR; exact decide_eq_true (by omega)
    have hl : (upto 0 r.toNat).length ≤ PySem.sizeLine := by
      unfold upto
      rw [List.length_map, List.length_range]
      show _ ≤ 2 ^ 24
      omega
    have s1 : asg [0] 2 (DL.call F__law_take [] (aM 0 (aD (cst (.int 9)) aNil))) [Hand L n, .d (.int k), .no, .no, .no, .no] = .nx [Hand L (n + 1), .d (.int k), .d (.int kind), .no, .no, .no] := by simp [seqS, ifS, asg, asgM, asg2, DL.ret, retM, retN, drp, nxt, brk, DL.cnt, retS, appM, setM, Out.then, Out.bind, ofO, nm, cst, nmF, nmP, pk, pkM, frz, DL.bin, binA, un, unP, tb, tr, trP, tand, tor, tnot, eand, eor, enot, eif, opAdd, opAddA, Rz.d, opSub, opMul, opDivA, opDiv, opMod, opPow, opLt, opLe, opGt, opGe, opIsN, opNotN, isNon, opNeg, opIx, ixM, L2.atI, L2.ixN, aNil, aD, aM, isM, dvs, mkTup, mkLst, DL.call, callM, appF, avSl, mvs, putBack, mkFn, outs, List.range_succ, opAbs, opInt, opBool, opLenA, opLen, opT, isiB, isiO, D.ty, D.tru, toLst, tupD, tupP, toTup, forS, loop, bN, bT, bCons, bNil, itD, itT, itR1, itR2, raiseE, avD, tryS, clauses, suL, suF, suT, suR, xvals, xval, fld, fldS, setF, fldOf, putNs, putXs, lc, lcL, wipeS, backS, yes, mkI, PySem.sizeLine, ek]
    have s2 : (tand (tb (DL.bin opGt (nm 1) (cst (.int 0)))) (tb (DL.bin opGt (nm 2) (cst (.int 6))))) [Hand L (n + 1), .d (.int k), .d (.int kind), .no, .no, .no] = .ok true [Hand L (n + 1), .d (.int k), .d (.int kind), .no, .no, .no] := by simp [seqS, ifS, asg, asgM, asg2, DL.ret, retM, retN, drp, nxt, brk, DL.cnt, retS, appM, setM, Out.then, Out.bind, ofO, nm, cst, nmF, nmP, pk, pkM, frz, DL.bin, binA, un, unP, tb, tr, trP, tand, tor, tnot, eand, eor, enot, eif, opAdd, opAddA, Rz.d, opSub, opMul, opDivA, opDiv, opMod, opPow, opLt, opLe, opGt, opGe, opIsN, opNotN, isNon, opNeg, opIx, ixM, L2.atI, L2.ixN, aNil, aD, aM, isM, dvs, mkTup, mkLst, DL.call, callM, appF, avSl, mvs, putBack, mkFn, outs, List.range_succ, opAbs, opInt, opBool, opLenA, opLen, opT, isiB, isiO, D.ty, D.tru, toLst, tupD, tupP, toTup, forS, loop, bN, bT, bCons, bNil, itD, itT, itR1, itR2, raiseE, avD, tryS, clauses, suL, suF, suT, suR, xvals, xval, fld, fldS, setF, fldOf, putNs, putXs, lc, lcL, wipeS, backS, yes, mkI, PySem.sizeLine, h.1, h.2]
    have s3 : (itR1 (DL.call F__law_take [] (aM 0 (aD (cst (.int 4)) aNil)))) [Hand L (n + 1), .d (.int k), .d (.int kind), .no, .no, .no] = .ok (upto 0 r.toNat) [Hand L (n + 2), .d (.int k), .d (.int kind), .no, .no, .no] := by simp [seqS, ifS, asg, asgM, asg2, DL.ret, retM, retN, drp, nxt, brk, DL.cnt, retS, appM, setM, Out.then, Out.bind, ofO, nm, cst, nmF, nmP, pk, pkM, frz, DL.bin, binA, un, unP, tb, tr, trP, tand, tor, tnot, eand, eor, enot, eif, opAdd, opAddA, Rz.d, opSub, opMul, opDivA, opDiv, opMod, opPow, opLt, opLe, opGt, opGe, opIsN, opNotN, isNon, opNeg, opIx, ixM, L2.atI, L2.ixN, aNil, aD, aM, isM, dvs, mkTup, mkLst, DL.call, callM, appF, avSl, mvs, putBack, mkFn, outs, List.range_succ, opAbs, opInt, opBool, opLenA, opLen, opT, isiB, isiO, D.ty, D.tru, toLst, tupD, tupP, toTup, forS, loop, bN, bT, bCons, bNil, itD, itT, itR1, itR2, raiseE, avD, tryS, clauses, suL, suF, suT, suR, xvals, xval, fld, fldS, setF, fldOf, putNs, putXs, lc, lcL, wipeS, backS, yes, mkI, PySem.sizeLine, er, hr]
    have s4 := asg_ok (B := [0]) (i := 3) (frz_ok (lc_ok (vs := [4]) s3 hl e)) (by decide)
    rcases hk with rfl | rfl
    · refine ⟨.lst ys, m, ?_, f1, Nat.succ_le_succ f2, fun z => by cases z⟩
      unfold S__law_odd
      refine mkFn_rt (B := [0]) rfl rfl (ρ := [Hand L m, .d (.int k), .d (.int 7), .d (.lst ys), .no, .no]) ?_
      refine (seqS_nx s1).trans (seqS_rt ?_)
      refine (ifS_t s2).trans ((seqS_nx s4).trans ?_)
      simp [seqS, ifS, asg, asgM, asg2, DL.ret, retM, retN, drp, nxt, brk, DL.cnt, retS, appM, setM, Out.then, Out.bind, ofO, nm, cst, nmF, nmP, pk, pkM, frz, DL.bin, binA, un, unP, tb, tr, trP, tand, tor, tnot, eand, eor, enot, eif, opAdd, opAddA, Rz.d, opSub, opMul, opDivA, opDiv, opMod, opPow, opLt, opLe, opGt, opGe, opIsN, opNotN, isNon, opNeg, opIx, ixM, L2.atI, L2.ixN, aNil, aD, aM, isM, dvs, mkTup, mkLst, DL.call, callM, appF, avSl, mvs, putBack, mkFn, outs, List.range_succ, opAbs, opInt, opBool, opLenA, opLen, opT, isiB, isiO, D.ty, D.tru, toLst, tupD, tupP, toTup, forS, loop, bN, bT, bCons, bNil, itD, itT, itR1, itR2, raiseE, avD, tryS, clauses, suL, suF, suT, suR, xvals, xval, fld, fldS, setF, fldOf, putNs, putXs, lc, lcL, wipeS, backS, yes, mkI, PySem.sizeLine]
    · refine ⟨.tup ys, m, ?_, f1, Nat.succ_le_succ f2, fun z => by cases z⟩
      unfold S__law_odd
      refine mkFn_rt (B := [0]) rfl rfl (ρ := [Hand L m, .d (.int k), .d (.int 8), .d (.lst ys), .no, .no]) ?_
      refine (seqS_nx s1).trans (seqS_rt ?_)
      refine (ifS_t s2).trans ((seqS_nx s4).trans ?_)
      simp [seqS, ifS, asg, asgM, asg2, DL.ret, retM, retN, drp, nxt, brk, DL.cnt, retS, appM, setM, Out.then, Out.bind, ofO, nm, cst, nmF, nmP, pk, pkM, frz, DL.bin, binA, un, unP, tb, tr, trP, tand, tor, tnot, eand, eor, enot, eif, opAdd, opAddA, Rz.d, opSub, opMul, opDivA, opDiv, opMod, opPow, opLt, opLe, opGt, opGe, opIsN, opNotN, isNon, opNeg, opIx, ixM, L2.atI, L2.ixN, aNil, aD, aM, isM, dvs, mkTup, mkLst, DL.call, callM, appF, avSl, mvs, putBack, mkFn, outs, List.range_succ, opAbs, opInt, opBool, opLenA, opLen, opT, isiB, isiO, D.ty, D.tru, toLst, tupD, tupP, toTup, forS, loop, bN, bT, bCons, bNil, itD, itT, itR1, itR2, raiseE, avD, tryS, clauses, suL, suF, suT, suR, xvals, xval, fld, fldS, setF, fldOf, putNs, putXs, lc, lcL, wipeS, backS, yes, mkI, PySem.sizeLine]
  · obtain ⟨r, r1, r2, er⟩ := take_ev L (n + 1) 19 (by decide)
    have hv : ∃ d, vals[r.toNat]? = some d ∧ Good 1 d := by
      have key : ∀ i : Nat, i < 19 → ∃ d, vals[i]? = some d ∧ Good 1 d := by
        intro i hi
        match i, hi with
        | 0, _ => exact ⟨_, rfl, rfl, by decide, fun _ => by decide +kernel⟩
        | 1, _ => exact ⟨_, rfl, rfl, by decide, fun _ => by decide +kernel⟩
        | 2, _ => exact ⟨_, rfl, rfl, by decide, fun _ => by decide +kernel⟩
        | 3, _ => exact ⟨_, rfl, rfl, by decide, fun _ => by decide +kernel⟩
        | 4, _ => exact ⟨_, rfl, rfl, by decide, fun _ => by decide +kernel⟩
        | 5, _ => exact ⟨_, rfl, rfl, by decide, fun _ => by decide +kernel⟩
        | 6, _ => exact ⟨_, rfl, rfl, by decide, fun _ => by decide +kernel⟩
        | 7, _ => exact ⟨_, rfl, rfl, by decide, fun _ => by decide +kernel⟩
        | 8, _ => exact ⟨_, rfl, rfl, by decide, fun _ => by decide +kernel⟩
        | 9, _ => exact ⟨_, rfl, rfl, by decide, fun _ => by decide +kernel⟩
        | 10, _ => exact ⟨_, rfl, rfl, by decide, fun _ => by decide +kernel⟩
        | 11, _ => exact ⟨_, rfl, rfl, by decide, fun _ => by decide +kernel⟩
        | 12, _ => exact ⟨_, rfl, rfl, by decide, fun _ => by decide +kernel⟩
        | 13, _ => exact ⟨_, rfl, rfl, by decide, fun _ => by decide +kernel⟩
        | 14, _ => exact ⟨_, rfl, rfl, by decide, fun z => by cases z⟩
        | 15, _ => exact ⟨_, rfl, rfl, by decide, fun z => by cases z⟩
        | 16, _ => exact ⟨_, rfl, rfl, by decide, fun z => by cases z⟩
        | 17, _ => exact ⟨_, rfl, rfl, by decide, fun z => by cases z⟩
        | 18, _ => exact ⟨_, rfl, rfl, by decide, fun z => by cases z⟩
        | i + 19, hi => exact absurd hi (by omega)
      exact key r.toNat (by omega)
    obtain ⟨d, hd, g1, g2, g3⟩ := hv
    refine ⟨d, n + 2, ?_, g1, by omega, g3⟩
    have s1 : asg [0] 2 (DL.call F__law_take [] (aM 0 (aD (cst (.int 9)) aNil))) [Hand L n, .d (.int k), .no, .no, .no, .no] = .nx [Hand L (n + 1), .d (.int k), .d (.int kind), .no, .no, .no] := by simp [seqS, ifS, asg, asgM, asg2, DL.ret, retM, retN, drp, nxt, brk, DL.cnt, retS, appM, setM, Out.then, Out.bind, ofO, nm, cst, nmF, nmP, pk, pkM, frz, DL.bin, binA, un, unP, tb, tr, trP, tand, tor, tnot, eand, eor, enot, eif, opAdd, opAddA, Rz.d, opSub, opMul, opDivA, opDiv, opMod, opPow, opLt, opLe, opGt, opGe, opIsN, opNotN, isNon, opNeg, opIx, ixM, L2.atI, L2.ixN, aNil, aD, aM, isM, dvs, mkTup, mkLst, DL.call, callM, appF, avSl, mvs, putBack, mkFn, outs, List.range_succ, opAbs, opInt, opBool, opLenA, opLen, opT, isiB, isiO, D.ty, D.tru, toLst, tupD, tupP, toTup, forS, loop, bN, bT, bCons, bNil, itD, itT, itR1, itR2, raiseE, avD, tryS, clauses, suL, suF, suT, suR, xvals, xval, fld, fldS, setF, fldOf, putNs, putXs, lc, lcL, wipeS, backS, yes, mkI, PySem.sizeLine, ek]
    have s2 : (tand (tb (DL.bin opGt (nm 1) (cst (.int 0)))) (tb (DL.bin opGt (nm 2) (cst (.int 6))))) [Hand L (n + 1), .d (.int k), .d (.int kind), .no, .no, .no] = .ok false [Hand L (n + 1), .d (.int k), .d (.int kind), .no, .no, .no] := by
      by_cases q : 0 < k
      · have q2 : ¬ 6 < kind := fun z => h ⟨q, z⟩
        simp [seqS, ifS, asg, asgM, asg2, DL.ret, retM, retN, drp, nxt, brk, DL.cnt, retS, appM, setM, Out.then, Out.bind, ofO, nm, cst, nmF, nmP, pk, pkM, frz, DL.bin, binA, un, unP, tb, tr, trP, tand, tor, tnot, eand, eor, enot, eif, opAdd, opAddA, Rz.d, opSub, opMul, opDivA, opDiv, opMod, opPow, opLt, opLe, opGt, opGe, opIsN, opNotN, isNon, opNeg, opIx, ixM, L2.atI, L2.ixN, aNil, aD, aM, isM, dvs, mkTup, mkLst, DL.call, callM, appF, avSl, mvs, putBack, mkFn, outs, List.range_succ, opAbs, opInt, opBool, opLenA, opLen, opT, isiB, isiO, D.ty, D.tru, toLst, tupD, tupP, toTup, forS, loop, bN, bT, bCons, bNil, itD, itT, itR1, itR2, raiseE, avD, tryS, clauses, suL, suF, suT, suR, xvals, xval, fld, fldS, setF, fldOf, putNs, putXs, lc, lcL, wipeS, backS, yes, mkI, PySem.sizeLine, q, q2]
      · simp [seqS, ifS, asg, asgM, asg2, DL.ret, retM, retN, drp, nxt, brk, DL.cnt, retS, appM, setM, Out.then, Out.bind, ofO, nm, cst, nmF, nmP, pk, pkM, frz, DL.bin, binA, un, unP, tb, tr, trP, tand, tor, tnot, eand, eor, enot, eif, opAdd, opAddA, Rz.d, opSub, opMul, opDivA, opDiv, opMod, opPow, opLt, opLe, opGt, opGe, opIsN, opNotN, isNon, opNeg, opIx, ixM, L2.atI, L2.ixN, aNil, aD, aM, isM, dvs, mkTup, mkLst, DL.call, callM, appF, avSl, mvs, putBack, mkFn, outs, List.range_succ, opAbs, opInt, opBool, opLenA, opLen, opT, isiB, isiO, D.ty, D.tru, toLst, tupD, tupP, toTup, forS, loop, bN, bT, bCons, bNil, itD, itT, itR1, itR2, raiseE, avD, tryS, clauses, suL, suF, suT, suR, xvals, xval, fld, fldS, setF, fldOf, putNs, putXs, lc, lcL, wipeS, backS, yes, mkI, PySem.sizeLine, q]
    have s4 := asg_ok (B := [0]) (i := 5) (vals_ev (Hand L (n + 1)) (.d (.int k)) (.d (.int kind)) .no .no .no) (by decide)
    have s5 : DL.bin opIx (nm 5) (DL.call F__law_take [] (aM 0 (aD (cst (.int 19)) aNil))) [Hand L (n + 1), .d (.int k), .d (.int kind), .no, .no, .d (.lst vals)] = .ok d [Hand L (n + 2), .d (.int k), .d (.int kind), .no, .no, .d (.lst vals)] := by
      have hx : L2.atI vals r = some d := by
        have hl : (vals.length : Int) = 19 := rfl
        unfold L2.atI L2.ixN
        rw [if_pos r1, if_pos (by omega)]
        exact hd
      have hx2 : opIx (.lst vals) (.int r) = some d := hx
      refine bin_ok (x := .lst vals) (y := .int r) (ρ1 := [Hand L (n + 1), .d (.int k), .d (.int kind), .no, .no, .d (.lst vals)]) rfl ?_ hx2
      simp [seqS, ifS, asg, asgM, asg2, DL.ret, retM, retN, drp, nxt, brk, DL.cnt, retS, appM, setM, Out.then, Out.bind, ofO, nm, cst, nmF, nmP, pk, pkM, frz, DL.bin, binA, un, unP, tb, tr, trP, tand, tor, tnot, eand, eor, enot, eif, opAdd, opAddA, Rz.d, opSub, opMul, opDivA, opDiv, opMod, opPow, opLt, opLe, opGt, opGe, opIsN, opNotN, isNon, opNeg, opIx, ixM, L2.atI, L2.ixN, aNil, aD, aM, isM, dvs, mkTup, mkLst, DL.call, callM, appF, avSl, mvs, putBack, mkFn, outs, List.range_succ, opAbs, opInt, opBool, opLenA, opLen, opT, isiB, isiO, D.ty, D.tru, toLst, tupD, tupP, toTup, forS, loop, bN, bT, bCons, bNil, itD, itT, itR1, itR2, raiseE, avD, tryS, clauses, suL, suF, suT, suR, xvals, xval, fld, fldS, setF, fldOf, putNs, putXs, lc, lcL, wipeS, backS, yes, mkI, PySem.sizeLine, er]
    unfold S__law_odd
    refine mkFn_rt (B := [0]) rfl rfl (ρ := [Hand L (n + 2), .d (.int k), .d (.int kind), .no, .no, .d (.lst vals)]) ?_
    refine (seqS_nx s1).trans ((seqS_nx (ifS_f s2)).trans ?_)
    exact (seqS_nx s4).trans (ret_ok s5)

theorem odd_ev : ∀ (k f : Nat), k < f → ∀ (L : List Int) (n : Nat), ∃ d m, F__law_odd f [Hand L n, .d (.int k)] = .rt d [Hand L m, .no] ∧ Good (k + 1) d
  | k, 0, h, _, _ => absurd h (by omega)
  | 0, f + 1, h, L, n => odd_step 0 (F__law_odd f) (fun z => absurd z (by omega)) L n
  | k + 1, f + 1, h, L, n => odd_step (k + 1) (F__law_odd f) (fun _ L n => by
      have e : (((k + 1 : Nat) : Int) - 1) = (k : Int) := by omega
      rw [e]
      exact odd_ev k f (by omega) L n) L n
/-- a field drawn -/
def primes : List D := fields.map D.int
theorem field_lc (L : List Int) (n : Nat) : (frz (lc [2] (itR2 (cst (.int 2)) (cst (.int 32))) (bN [0] 2) (tr (DL.call F__law_is_field [] (aD (nm 2) aNil))) (nm 2))) [Hand L n, .no, .no] = .ok (.lst primes) [Hand L n, .no, .no] := by kernel_rfl
theorem field_ev (L : List Int) (n : Nat) : ∃ (p : Int) (m : Nat), p ∈ fields ∧ F__law_field [Hand L n] = .rt (.int p) [Hand L m] := by
  obtain ⟨a, a1, a2, ea⟩ := take_ev L n 11 (by decide)
  obtain ⟨b, b1, b2, eb⟩ := take_ev L (n + 1) 3 (by decide)
  obtain ⟨c, c1, c2, ec⟩ := take_ev L (n + 2) 2 (by decide)
  have key : ∀ i : Int, 0 ≤ i → i < 11 → ∃ p ∈ fields, opIx (.lst primes) (.int i) = some (.int p) := by
    intro i h1 h2
    have hx : ∀ k : Nat, k < 11 → ∃ p ∈ fields, primes[k]? = some (.int p) := by
      intro k hk
      match k, hk with
      | 0, _ => exact ⟨2, by decide, rfl⟩
      | 1, _ => exact ⟨3, by decide, rfl⟩
      | 2, _ => exact ⟨5, by decide, rfl⟩
      | 3, _ => exact ⟨7, by decide, rfl⟩
      | 4, _ => exact ⟨11, by decide, rfl⟩
      | 5, _ => exact ⟨13, by decide, rfl⟩
      | 6, _ => exact ⟨17, by decide, rfl⟩
      | 7, _ => exact ⟨19, by decide, rfl⟩
      | 8, _ => exact ⟨23, by decide, rfl⟩
      | 9, _ => exact ⟨29, by decide, rfl⟩
      | 10, _ => exact ⟨31, by decide, rfl⟩
      | k + 11, hk => exact absurd hk (by omega)
    obtain ⟨p, hp, e⟩ := hx i.toNat (by omega)
    refine ⟨p, hp, ?_⟩
    show L2.atI primes i = _
    unfold L2.atI L2.ixN
    have hl : (primes.length : Int) = 11 := rfl
    rw [if_pos h1, if_pos (by omega)]
    exact e
  have s1 := asg_ok (B := [0]) (i := 1) (field_lc L n) (by decide)
  have go : ∀ x : Int, 0 ≤ x → x < 11 → opIx (.lst [.int a, .int b]) (.int c) = some (.int x) → ∃ (p : Int) (m : Nat), p ∈ fields ∧ F__law_field [Hand L n] = .rt (.int p) [Hand L m] := by
    intro x x1 x2 hx
    obtain ⟨p, hp, e⟩ := key x x1 x2
    refine ⟨p, n + 3, hp, ?_⟩
    unfold F__law_field
    refine mkFn_rt (B := [0]) rfl rfl (ρ := [Hand L (n + 3), .d (.lst primes), .no]) ?_
    refine (seqS_nx s1).trans (ret_ok (bin_ok (x := .lst primes) rfl (bin_ok (x := .lst [.int a, .int b]) (y := .int c) (ρ1 := [Hand L (n + 2), .d (.lst primes), .no]) ?_ ?_ hx) e))
    · simp [seqS, ifS, asg, asgM, asg2, DL.ret, retM, retN, drp, nxt, brk, DL.cnt, retS, appM, setM, Out.then, Out.bind, ofO, nm, cst, nmF, nmP, pk, pkM, frz, DL.bin, binA, un, unP, tb, tr, trP, tand, tor, tnot, eand, eor, enot, eif, opAdd, opAddA, Rz.d, opSub, opMul, opDivA, opDiv, opMod, opPow, opLt, opLe, opGt, opGe, opIsN, opNotN, isNon, opNeg, opIx, ixM, L2.atI, L2.ixN, aNil, aD, aM, isM, dvs, mkTup, mkLst, DL.call, callM, appF, avSl, mvs, putBack, mkFn, outs, List.range_succ, opAbs, opInt, opBool, opLenA, opLen, opT, isiB, isiO, D.ty, D.tru, toLst, tupD, tupP, toTup, forS, loop, bN, bT, bCons, bNil, itD, itT, itR1, itR2, raiseE, avD, tryS, clauses, suL, suF, suT, suR, xvals, xval, fld, fldS, setF, fldOf, putNs, putXs, lc, lcL, wipeS, backS, yes, mkI, PySem.sizeLine, ea, eb]
    · simp [seqS, ifS, asg, asgM, asg2, DL.ret, retM, retN, drp, nxt, brk, DL.cnt, retS, appM, setM, Out.then, Out.bind, ofO, nm, cst, nmF, nmP, pk, pkM, frz, DL.bin, binA, un, unP, tb, tr, trP, tand, tor, tnot, eand, eor, enot, eif, opAdd, opAddA, Rz.d, opSub, opMul, opDivA, opDiv, opMod, opPow, opLt, opLe, opGt, opGe, opIsN, opNotN, isNon, opNeg, opIx, ixM, L2.atI, L2.ixN, aNil, aD, aM, isM, dvs, mkTup, mkLst, DL.call, callM, appF, avSl, mvs, putBack, mkFn, outs, List.range_succ, opAbs, opInt, opBool, opLenA, opLen, opT, isiB, isiO, D.ty, D.tru, toLst, tupD, tupP, toTup, forS, loop, bN, bT, bCons, bNil, itD, itT, itR1, itR2, raiseE, avD, tryS, clauses, suL, suF, suT, suR, xvals, xval, fld, fldS, setF, fldOf, putNs, putXs, lc, lcL, wipeS, backS, yes, mkI, PySem.sizeLine, ec]
  have hc : c = 0 ∨ c = 1 := by omega
  rcases hc with rfl | rfl
  · exact go a a1 a2 rfl
  · exact go b b1 (by omega) rfl

/-! ### the finite part -/
def isLetter (p a : Int) : Bool := match F__law_told [.d (.int p), .d (.int a)], F__law_inverse [.d (.int a), .d (.int p)] with
  | .rt (.lst [.str s, .int b]) [.no, .no], .rt (.int b') [.no, .no] => decide (s = "letter") && decide (b = b')
  | _, _ => false
theorem told_all : (fields.all fun p => (List.range p.toNat).all fun a => a == 0 || isLetter p a) = true := by kernel_rfl
theorem told_pos {p a : Int} (hp : p ∈ fields) (h0 : 0 < a) (h1 : a < p) : ∃ b, F__law_told [.d (.int p), .d (.int a)] = .rt (.lst [.str "letter", .int b]) [.no, .no] ∧ F__law_inverse [.d (.int a), .d (.int p)] = .rt (.int b) [.no, .no] := by
  have h := List.all_eq_true.mp (List.all_eq_true.mp told_all p hp) a.toNat (List.mem_range.mpr (by omega))
  have ha : ((a.toNat : Nat) : Int) = a := by omega
  have hz : (a.toNat == 0) = false := by simp; omega
  rw [hz, Bool.false_or] at h
  unfold isLetter at h
  rw [ha] at h
  split at h
  · rename_i s b b' e1 e2
    obtain ⟨k1, k2⟩ := Bool.and_eq_true_iff.mp h
    cases of_decide_eq_true k1
    cases of_decide_eq_true k2
    exact ⟨b, e1, e2⟩
  · cases h
def isUndef (p : Int) : Bool := match F__law_told [.d (.int p), .d (.int 0)] with
  | .rt (.lst [.str s, .str b]) [.no, .no] => decide (s = "undefined") && decide (b = "inverse")
  | _ => false
theorem undef_all : (fields.all isUndef) = true := by kernel_rfl
theorem told_zero {p : Int} (hp : p ∈ fields) : F__law_told [.d (.int p), .d (.int 0)] = .rt (.lst [.str "undefined", .str "inverse"]) [.no, .no] := by
  have h := List.all_eq_true.mp undef_all p hp
  unfold isUndef at h
  split at h
  · rename_i s b e1
    obtain ⟨k1, k2⟩ := Bool.and_eq_true_iff.mp h
    cases of_decide_eq_true k1
    cases of_decide_eq_true k2
    exact e1
  · cases h
def wrongs (p : Int) : List D := [.int p, .int (-1), .bl true, .non, .str "1", .tup [.int 1], .int (10 ^ 30), .bl false, .int (p + 1), sh 1]
def isTrue : FO → Bool
  | .rt (.bl true) [.no, .no, .no] => true
  | _ => false
theorem refuse_all : (fields.all fun p => (wrongs p).all fun w => isTrue (F__law_refuses [.d (.int p), .d w, .d w])) = true := by kernel_rfl
theorem isTrue_ev {o : FO} (h : isTrue o = true) : o = .rt (.bl true) [.no, .no, .no] := by
  unfold isTrue at h
  split at h
  · rfl
  · cases h
theorem refuse_letter {p : Int} (hp : p ∈ fields) {w : D} (hw : w ∈ wrongs p) : F__law_refuses [.d (.int p), .d w, .d w] = .rt (.bl true) [.no, .no, .no] :=
  isTrue_ev (List.all_eq_true.mp (List.all_eq_true.mp refuse_all p hp) w hw)
mutual
theorem beq_refl : ∀ d : D, D.beq d d = true
  | .non => rfl
  | .bl b => by simp [D.beq]
  | .int i => by simp [D.beq]
  | .str i => by simp [D.beq]
  | .lst xs => by simp [D.beq, beqs_refl xs]
  | .tup xs => by simp [D.beq, beqs_refl xs]
  | .ins c ns xs => by simp [D.beq, beqs_refl xs]
theorem beqs_refl : ∀ d : List D, D.beqs d d = true
  | [] => rfl
  | x :: xs => by simp [D.beqs, beq_refl x, beqs_refl xs]
end
theorem eqO_self {k : Nat} (hk : k ≤ 20) {d : D} (g : Good k d) {a b : Ex D} {ρ ρ1 ρ2 : List Sl} (h1 : a ρ = .ok d ρ1) (h2 : b ρ1 = .ok d ρ2) : eqO "Share" okI_Share a b ρ = .ok (.bl true) ρ2 := by
  obtain ⟨g1, g2, g3⟩ := g
  rw [eqO_ok h1 h2]
  unfold eqFin
  cases q : d.okEq with
  | true =>
    have e : opEq d d = some (.bl true) := by
      have hv : d.eqv d = true := PySem.SeqAt.eqv_refl _ (Bool.and_eq_true_iff.mp (okEq_of q).2).1
      unfold opEq
      rw [q, if_pos (by rfl), hv]
    rw [e]
  | false =>
    have e : opEq d d = none := by
      unfold opEq
      rw [q]
      rfl
    have hs : d.sc = false := by
      cases z : d.sc with
      | false => rfl
      | true => rw [g3 z] at q; cases q
    have e2 : sameO "Share" okI_Share d d = true := by
      unfold sameO
      rw [beq_refl d, hs, g1, decide_eq_true (Nat.le_trans g2 hk)]
      rfl
    rw [e]
    show (if sameO "Share" okI_Share d d = true then _ else _) = _
    rw [if_pos e2]

/-! ### what is no field -/
theorem isb_ev (d : D) (h : d.fit "Share" okI_Share = true) : ∃ b, isiB "bool" [("Share", false)] d = some b := by
  cases d with
  | ins c ns xs =>
    obtain ⟨h1, _⟩ := Bool.and_eq_true_iff.mp (show (decide (c = "Share") && okI_Share ns xs) = true from h)
    cases of_decide_eq_true h1
    exact ⟨false, rfl⟩
  | _ => exact ⟨_, by simp [isiB, D.ty]; rfl⟩
theorem inv_exc {d w : D} (h : d.fit "Share" okI_Share = true) (hf : fieldB d = false) : F_inverse_of [.d d, .d w] = .exc "InvalidNumber" ["value"] [d] [.no, .no] := by
  have e := isf_ev d h
  rw [hf] at e
  simp [F_inverse_of, seqS, ifS, asg, asgM, asg2, DL.ret, retM, retN, drp, nxt, brk, DL.cnt, retS, appM, setM, Out.then, Out.bind, ofO, nm, cst, nmF, nmP, pk, pkM, frz, DL.bin, binA, un, unP, tb, tr, trP, tand, tor, tnot, eand, eor, enot, eif, opAdd, opAddA, Rz.d, opSub, opMul, opDivA, opDiv, opMod, opPow, opLt, opLe, opGt, opGe, opIsN, opNotN, isNon, opNeg, opIx, ixM, L2.atI, L2.ixN, aNil, aD, aM, isM, dvs, mkTup, mkLst, DL.call, callM, appF, avSl, mvs, putBack, mkFn, outs, List.range_succ, opAbs, opInt, opBool, opLenA, opLen, opT, isiB, isiO, D.ty, D.tru, toLst, tupD, tupP, toTup, forS, loop, bN, bT, bCons, bNil, itD, itT, itR1, itR2, raiseE, avD, tryS, clauses, suL, suF, suT, suR, xvals, xval, fld, fldS, setF, fldOf, putNs, putXs, lc, lcL, wipeS, backS, yes, mkI, PySem.sizeLine, e]
theorem told_nf {d w : D} (h : d.fit "Share" okI_Share = true) (hf : fieldB d = false) : F__law_told [.d d, .d w] = .rt (.lst [.str "number", d]) [.no, .no] := by
  have e := inv_exc (w := w) h hf
  simp [F__law_told, seqS, ifS, asg, asgM, asg2, DL.ret, retM, retN, drp, nxt, brk, DL.cnt, retS, appM, setM, Out.then, Out.bind, ofO, nm, cst, nmF, nmP, pk, pkM, frz, DL.bin, binA, un, unP, tb, tr, trP, tand, tor, tnot, eand, eor, enot, eif, opAdd, opAddA, Rz.d, opSub, opMul, opDivA, opDiv, opMod, opPow, opLt, opLe, opGt, opGe, opIsN, opNotN, isNon, opNeg, opIx, ixM, L2.atI, L2.ixN, aNil, aD, aM, isM, dvs, mkTup, mkLst, DL.call, callM, appF, avSl, mvs, putBack, mkFn, outs, List.range_succ, opAbs, opInt, opBool, opLenA, opLen, opT, isiB, isiO, D.ty, D.tru, toLst, tupD, tupP, toTup, forS, loop, bN, bT, bCons, bNil, itD, itT, itR1, itR2, raiseE, avD, tryS, clauses, suL, suF, suT, suR, xvals, xval, fld, fldS, setF, fldOf, putNs, putXs, lc, lcL, wipeS, backS, yes, mkI, PySem.sizeLine, e]
theorem refuse_nf {d w : D} (g : Good 4 d) (hf : fieldB d = false) : F__law_refuses [.d d, .d w, .d d] = .rt (.bl true) [.no, .no, .no] := by
  have e := told_nf (w := w) g.1 hf
  obtain ⟨b, hb⟩ := isb_ev d g.1
  have s1 : asg [] 3 (DL.call F__law_told [] (aD (nm 0) (aD (nm 1) aNil))) [.d d, .d w, .d d, .no] = .nx [.d d, .d w, .d d, .d (.lst [.str "number", d])] := by simp [seqS, ifS, asg, asgM, asg2, DL.ret, retM, retN, drp, nxt, brk, DL.cnt, retS, appM, setM, Out.then, Out.bind, ofO, nm, cst, nmF, nmP, pk, pkM, frz, DL.bin, binA, un, unP, tb, tr, trP, tand, tor, tnot, eand, eor, enot, eif, opAdd, opAddA, Rz.d, opSub, opMul, opDivA, opDiv, opMod, opPow, opLt, opLe, opGt, opGe, opIsN, opNotN, isNon, opNeg, opIx, ixM, L2.atI, L2.ixN, aNil, aD, aM, isM, dvs, mkTup, mkLst, DL.call, callM, appF, avSl, mvs, putBack, mkFn, outs, List.range_succ, opAbs, opInt, opBool, opLenA, opLen, opT, isiB, isiO, D.ty, D.tru, toLst, tupD, tupP, toTup, forS, loop, bN, bT, bCons, bNil, itD, itT, itR1, itR2, raiseE, avD, tryS, clauses, suL, suF, suT, suR, xvals, xval, fld, fldS, setF, fldOf, putNs, putXs, lc, lcL, wipeS, backS, yes, mkI, PySem.sizeLine, e]
  unfold F__law_refuses
  refine mkFn_rt (B := []) rfl rfl (ρ := [.d d, .d w, .d d, .d (.lst [.str "number", d])]) ?_
  refine (seqS_nx s1).trans (ret_ok ?_)
  refine (eand_t (ρ1 := [.d d, .d w, .d d, .d (.lst [.str "number", d])]) ?_).trans ((eand_t (eqO_self (by decide) g rfl rfl)).trans ?_)
  · exact bin_ok (x := .str "number") (y := .str "number") rfl rfl (by kernel_rfl)
  · refine bin_ok (x := .bl b) (y := .bl b) (ρ1 := [.d d, .d w, .d d, .d (.lst [.str "number", d])]) ?_ ?_ (by simp)
    · simp [seqS, ifS, asg, asgM, asg2, DL.ret, retM, retN, drp, nxt, brk, DL.cnt, retS, appM, setM, Out.then, Out.bind, ofO, nm, cst, nmF, nmP, pk, pkM, frz, DL.bin, binA, un, unP, tb, tr, trP, tand, tor, tnot, eand, eor, enot, eif, opAdd, opAddA, Rz.d, opSub, opMul, opDivA, opDiv, opMod, opPow, opLt, opLe, opGt, opGe, opIsN, opNotN, isNon, opNeg, opIx, ixM, L2.atI, L2.ixN, aNil, aD, aM, isM, dvs, mkTup, mkLst, DL.call, callM, appF, avSl, mvs, putBack, mkFn, outs, List.range_succ, opAbs, opInt, opBool, opLenA, opLen, opT, D.tru, toLst, tupD, tupP, toTup, forS, loop, bN, bT, bCons, bNil, itD, itT, itR1, itR2, raiseE, avD, tryS, clauses, suL, suF, suT, suR, xvals, xval, fld, fldS, setF, fldOf, putNs, putXs, lc, lcL, wipeS, backS, yes, mkI, PySem.sizeLine, hb]
    · simp [seqS, ifS, asg, asgM, asg2, DL.ret, retM, retN, drp, nxt, brk, DL.cnt, retS, appM, setM, Out.then, Out.bind, ofO, nm, cst, nmF, nmP, pk, pkM, frz, DL.bin, binA, un, unP, tb, tr, trP, tand, tor, tnot, eand, eor, enot, eif, opAdd, opAddA, Rz.d, opSub, opMul, opDivA, opDiv, opMod, opPow, opLt, opLe, opGt, opGe, opIsN, opNotN, isNon, opNeg, opIx, ixM, L2.atI, L2.ixN, aNil, aD, aM, isM, dvs, mkTup, mkLst, DL.call, callM, appF, avSl, mvs, putBack, mkFn, outs, List.range_succ, opAbs, opInt, opBool, opLenA, opLen, opT, D.tru, toLst, tupD, tupP, toTup, forS, loop, bN, bT, bCons, bNil, itD, itT, itR1, itR2, raiseE, avD, tryS, clauses, suL, suF, suT, suR, xvals, xval, fld, fldS, setF, fldOf, putNs, putXs, lc, lcL, wipeS, backS, yes, mkI, PySem.sizeLine, hb]
def consts : List D := [.int 37, .int 1, .int 0, .int (-2), .int 33, .int 961, sh 7, sh 2]
theorem consts_ev (a b : Sl) : ((aD (cst (.int 37)) (aD (cst (.int 1)) (aD (cst (.int 0)) (aD (un opNeg (cst (.int 2))) (aD (cst (.int 33)) (aD (cst (.int 961)) (aD (mkI [0] "Share" F_Shareu_initu [.int 1] (aD (cst (.int 7)) (aNil))) (aD (mkI [0] "Share" F_Shareu_initu [.int 1] (aD (cst (.int 2)) (aNil))) (aNil)))))))))) [a, b] = .ok (consts.map AV.dv) [a, b] := by kernel_rfl
theorem fieldB_4 : fieldB (.int 4) = false := rfl
theorem nofield_ev (L : List Int) (n : Nat) : ∃ d m, F__law_no_field [Hand L n] = .rt d [Hand L m] ∧ Good 4 d ∧ fieldB d = false := by
  obtain ⟨x, x1, x2, ex⟩ := take_ev L n 60 (by decide)
  obtain ⟨y, m, ey, gy⟩ := odd_ev 1 5 (by decide) L (n + 1)
  obtain ⟨r, r1, r2, er⟩ := take_ev L m 10 (by decide)
  have gy : Good 4 y := ⟨gy.1, by have := gy.2.1; omega, gy.2.2⟩
  have hd : ∃ d, opIx (.lst (.int (x - 9) :: y :: consts)) (.int r) = some d ∧ Good 4 d := by
    have key : ∀ i : Nat, i < 10 → ∃ d, (.int (x - 9) :: y :: consts : List D)[i]? = some d ∧ Good 4 d := by
      intro i hi
      match i, hi with
      | 0, _ => exact ⟨_, rfl, rfl, by show 0 ≤ 4; omega, fun _ => rfl⟩
      | 1, _ => exact ⟨_, rfl, gy⟩
      | 2, _ => exact ⟨_, rfl, rfl, by decide, fun _ => rfl⟩
      | 3, _ => exact ⟨_, rfl, rfl, by decide, fun _ => rfl⟩
      | 4, _ => exact ⟨_, rfl, rfl, by decide, fun _ => rfl⟩
      | 5, _ => exact ⟨_, rfl, rfl, by decide, fun _ => rfl⟩
      | 6, _ => exact ⟨_, rfl, rfl, by decide, fun _ => rfl⟩
      | 7, _ => exact ⟨_, rfl, rfl, by decide, fun _ => rfl⟩
      | 8, _ => exact ⟨_, rfl, rfl, by decide, fun z => by cases z⟩
      | 9, _ => exact ⟨_, rfl, rfl, by decide, fun z => by cases z⟩
      | i + 10, hi => exact absurd hi (by omega)
    obtain ⟨d, h1, h2⟩ := key r.toNat (by omega)
    refine ⟨d, ?_, h2⟩
    show L2.atI (.int (x - 9) :: y :: consts : List D) r = _
    unfold L2.atI L2.ixN
    have hl : (((.int (x - 9) :: y :: consts : List D).length : Nat) : Int) = 10 := rfl
    rw [if_pos r1, if_pos (by omega)]
    exact h1
  obtain ⟨d, hd, gd⟩ := hd
  have s1 : asg [0] 1 (DL.bin opIx (frz (mkLst (aD (DL.bin opSub (DL.call F__law_take [] (aM 0 (aD (cst (.int 60)) (aNil)))) (cst (.int 9))) (aD (DL.call (F__law_odd 5) [] (aM 0 (aD (cst (.int 1)) (aNil)))) ((aD (cst (.int 37)) (aD (cst (.int 1)) (aD (cst (.int 0)) (aD (un opNeg (cst (.int 2))) (aD (cst (.int 33)) (aD (cst (.int 961)) (aD (mkI [0] "Share" F_Shareu_initu [.int 1] (aD (cst (.int 7)) (aNil))) (aD (mkI [0] "Share" F_Shareu_initu [.int 1] (aD (cst (.int 2)) (aNil))) (aNil)))))))))))))) (DL.call F__law_take [] (aM 0 (aD (cst (.int 10)) (aNil))))) [Hand L n, .no] = .nx [Hand L (m + 1), .d d] := by
    refine (asg_ok (ρ1 := [Hand L (m + 1), .no]) (d := d) ?_ (by decide)).trans rfl
    refine bin_ok (x := .lst (.int (x - 9) :: y :: consts)) (y := .int r) (ρ1 := [Hand L m, .no]) (frz_ok (mkLst_ok (as := .dv (.int (x - 9)) :: .dv y :: consts.map AV.dv) (aD_ok (ρ1 := [Hand L (n + 1), .no]) ?_ (aD_ok (ρ1 := [Hand L m, .no]) ?_ (consts_ev _ _))) rfl (by show 10 ≤ 2 ^ 24; decide))) ?_ hd
    · simp [seqS, ifS, asg, asgM, asg2, DL.ret, retM, retN, drp, nxt, brk, DL.cnt, retS, appM, setM, Out.then, Out.bind, ofO, nm, cst, nmF, nmP, pk, pkM, frz, DL.bin, binA, un, unP, tb, tr, trP, tand, tor, tnot, eand, eor, enot, eif, opAdd, opAddA, Rz.d, opSub, opMul, opDivA, opDiv, opMod, opPow, opLt, opLe, opGt, opGe, opIsN, opNotN, isNon, opNeg, opIx, ixM, L2.atI, L2.ixN, aNil, aD, aM, isM, dvs, mkTup, mkLst, DL.call, callM, appF, avSl, mvs, putBack, mkFn, outs, List.range_succ, opAbs, opInt, opBool, opLenA, opLen, opT, isiB, isiO, D.ty, D.tru, toLst, tupD, tupP, toTup, forS, loop, bN, bT, bCons, bNil, itD, itT, itR1, itR2, raiseE, avD, tryS, clauses, suL, suF, suT, suR, xvals, xval, fld, fldS, setF, fldOf, putNs, putXs, lc, lcL, wipeS, backS, yes, mkI, PySem.sizeLine, ex]
    · have ey : F__law_odd 5 [Hand L (n + 1), .d (.int 1)] = .rt y [Hand L m, .no] := ey
      simp [seqS, ifS, asg, asgM, asg2, DL.ret, retM, retN, drp, nxt, brk, DL.cnt, retS, appM, setM, Out.then, Out.bind, ofO, nm, cst, nmF, nmP, pk, pkM, frz, DL.bin, binA, un, unP, tb, tr, trP, tand, tor, tnot, eand, eor, enot, eif, opAdd, opAddA, Rz.d, opSub, opMul, opDivA, opDiv, opMod, opPow, opLt, opLe, opGt, opGe, opIsN, opNotN, isNon, opNeg, opIx, ixM, L2.atI, L2.ixN, aNil, aD, aM, isM, dvs, mkTup, mkLst, DL.call, callM, appF, avSl, mvs, putBack, mkFn, outs, List.range_succ, opAbs, opInt, opBool, opLenA, opLen, opT, isiB, isiO, D.ty, D.tru, toLst, tupD, tupP, toTup, forS, loop, bN, bT, bCons, bNil, itD, itT, itR1, itR2, raiseE, avD, tryS, clauses, suL, suF, suT, suR, xvals, xval, fld, fldS, setF, fldOf, putNs, putXs, lc, lcL, wipeS, backS, yes, mkI, PySem.sizeLine, ey]
    · simp [seqS, ifS, asg, asgM, asg2, DL.ret, retM, retN, drp, nxt, brk, DL.cnt, retS, appM, setM, Out.then, Out.bind, ofO, nm, cst, nmF, nmP, pk, pkM, frz, DL.bin, binA, un, unP, tb, tr, trP, tand, tor, tnot, eand, eor, enot, eif, opAdd, opAddA, Rz.d, opSub, opMul, opDivA, opDiv, opMod, opPow, opLt, opLe, opGt, opGe, opIsN, opNotN, isNon, opNeg, opIx, ixM, L2.atI, L2.ixN, aNil, aD, aM, isM, dvs, mkTup, mkLst, DL.call, callM, appF, avSl, mvs, putBack, mkFn, outs, List.range_succ, opAbs, opInt, opBool, opLenA, opLen, opT, isiB, isiO, D.ty, D.tru, toLst, tupD, tupP, toTup, forS, loop, bN, bT, bCons, bNil, itD, itT, itR1, itR2, raiseE, avD, tryS, clauses, suL, suF, suT, suR, xvals, xval, fld, fldS, setF, fldOf, putNs, putXs, lc, lcL, wipeS, backS, yes, mkI, PySem.sizeLine, er]
  have e := lisf_ev d gd.1
  cases hf : fieldB d with
  | true =>
    refine ⟨.int 4, m + 1, ?_, ⟨rfl, by decide, fun _ => rfl⟩, rfl⟩
    unfold F__law_no_field
    refine mkFn_rt (B := [0]) rfl rfl (ρ := [Hand L (m + 1), .d d]) ?_
    refine (seqS_nx s1).trans ?_
    simp [seqS, ifS, asg, asgM, asg2, DL.ret, retM, retN, drp, nxt, brk, DL.cnt, retS, appM, setM, Out.then, Out.bind, ofO, nm, cst, nmF, nmP, pk, pkM, frz, DL.bin, binA, un, unP, tb, tr, trP, tand, tor, tnot, eand, eor, enot, eif, opAdd, opAddA, Rz.d, opSub, opMul, opDivA, opDiv, opMod, opPow, opLt, opLe, opGt, opGe, opIsN, opNotN, isNon, opNeg, opIx, ixM, L2.atI, L2.ixN, aNil, aD, aM, isM, dvs, mkTup, mkLst, DL.call, callM, appF, avSl, mvs, putBack, mkFn, outs, List.range_succ, opAbs, opInt, opBool, opLenA, opLen, opT, isiB, isiO, D.ty, D.tru, toLst, tupD, tupP, toTup, forS, loop, bN, bT, bCons, bNil, itD, itT, itR1, itR2, raiseE, avD, tryS, clauses, suL, suF, suT, suR, xvals, xval, fld, fldS, setF, fldOf, putNs, putXs, lc, lcL, wipeS, backS, yes, mkI, PySem.sizeLine, e, hf]
  | false =>
    refine ⟨d, m + 1, ?_, gd, hf⟩
    unfold F__law_no_field
    refine mkFn_rt (B := [0]) rfl rfl (ρ := [Hand L (m + 1), .d d]) ?_
    refine (seqS_nx s1).trans ?_
    simp [seqS, ifS, asg, asgM, asg2, DL.ret, retM, retN, drp, nxt, brk, DL.cnt, retS, appM, setM, Out.then, Out.bind, ofO, nm, cst, nmF, nmP, pk, pkM, frz, DL.bin, binA, un, unP, tb, tr, trP, tand, tor, tnot, eand, eor, enot, eif, opAdd, opAddA, Rz.d, opSub, opMul, opDivA, opDiv, opMod, opPow, opLt, opLe, opGt, opGe, opIsN, opNotN, isNon, opNeg, opIx, ixM, L2.atI, L2.ixN, aNil, aD, aM, isM, dvs, mkTup, mkLst, DL.call, callM, appF, avSl, mvs, putBack, mkFn, outs, List.range_succ, opAbs, opInt, opBool, opLenA, opLen, opT, isiB, isiO, D.ty, D.tru, toLst, tupD, tupP, toTup, forS, loop, bN, bT, bCons, bNil, itD, itT, itR1, itR2, raiseE, avD, tryS, clauses, suL, suF, suT, suR, xvals, xval, fld, fldS, setF, fldOf, putNs, putXs, lc, lcL, wipeS, backS, yes, mkI, PySem.sizeLine, e, hf]
end Pl
end

section
set_option Elab.async false
set_option linter.all false
set_option maxRecDepth 100000
set_option maxHeartbeats 400000
namespace Pl
open DL Mi
theorem okMul_of {i j : Int} {a b : Nat} (ha : i.natAbs < 2 ^ a) (hb : j.natAbs < 2 ^ b) (h : a + b ≤ 134217728) : okMul i j = true := decide_eq_true (L2.mulx_ok ha hb h)
section
variable {a b r dd s3 s5 s6 s7 : Sl} {c k m : Int}
theorem mod_ok {i j : Int} (hj : 0 < j) : opMod (.int i) (.int j) = some (.int (i % j)) := if_pos hj
theorem mul_ok {i j : Int} (h : okMul i j = true) : opMul (.int i) (.int j) = some (.int (i * j)) := if_pos h
theorem div_ok {i j : Int} (h : okDiv i j = true) : opDivA (.int i) (.int j) = some (.int (i / j)) := if_pos h
theorem binA_ok {op : D → D → Option Rz} {a b : Ex D} {x y z : D} {ρ ρ1 ρ2 : List Sl} (h : a ρ = .ok x ρ1) (h2 : b ρ1 = .ok y ρ2) (h3 : (op x y).map Rz.d = some z) : binA op a b ρ = .ok z ρ2 := by
  simp only [binA, Out.bind, h, h2, h3, ofO]
theorem un_ok {op : D → Option D} {a : Ex D} {x z : D} {ρ ρ1 : List Sl} (h : a ρ = .ok x ρ1) (h3 : op x = some z) : un op a ρ = .ok z ρ1 := by
  simp only [un, Out.bind, h, h3, ofO]
theorem m1e (h : okMul c 48271 = true) (h2 : okMul k 69621 = true) {s4 : Sl} : (un opInt (binA opAddA (binA opAddA (DL.bin opMul (nm 3) (cst (.int 48271))) (DL.bin opMul (nm 5) (cst (.int 69621)))) (cst (.int 11)))) [a, b, r, .d (.int c), dd, .d (.int k), s6, s4] = .ok (.int (c * 48271 + k * 69621 + 11)) [a, b, r, .d (.int c), dd, .d (.int k), s6, s4] :=
  un_ok (binA_ok (binA_ok (bin_ok rfl rfl (mul_ok h)) (bin_ok rfl rfl (mul_ok h2)) rfl) rfl rfl) rfl
theorem ok4096 : okDiv k 4096 = true := rfl
theorem m2e (h : okMul m m = true) : (un opInt (binA opAddA (DL.bin opDivA (DL.bin opMul (nm 7) (nm 7)) (cst (.int 4096))) (nm 7))) [a, b, r, .d (.int c), dd, .d (.int k), s6, .d (.int m)] = .ok (.int (m * m / 4096 + m)) [a, b, r, .d (.int c), dd, .d (.int k), s6, .d (.int m)] :=
  un_ok (binA_ok (bin_ok (bin_ok rfl rfl (mul_ok h)) rfl (div_ok ok4096)) rfl rfl) rfl
theorem m3e (h : okMul m m = true) (h2 : okMul k 7919 = true) : (un opInt (binA opAddA (DL.bin opDivA (DL.bin opMul (nm 7) (nm 7)) (cst (.int 4096))) (DL.bin opMul (nm 5) (cst (.int 7919))))) [a, b, r, .d (.int c), dd, .d (.int k), s6, .d (.int m)] = .ok (.int (m * m / 4096 + k * 7919)) [a, b, r, .d (.int c), dd, .d (.int k), s6, .d (.int m)] :=
  un_ok (binA_ok (bin_ok (bin_ok rfl rfl (mul_ok h)) rfl (div_ok ok4096)) (bin_ok rfl rfl (mul_ok h2)) rfl) rfl
theorem t1 (h : okMul c 48271 = true) (h2 : okMul k 69621 = true) : (asg [] 7 (DL.bin opMod (un opInt (binA opAddA (binA opAddA (DL.bin opMul (nm 3) (cst (.int 48271))) (DL.bin opMul (nm 5) (cst (.int 69621)))) (cst (.int 11)))) (cst (.int 2147483647)))) [a, b, r, .d (.int c), dd, .d (.int k), s6, s7] = .nx [a, b, r, .d (.int c), dd, .d (.int k), s6, .d (.int ((c * 48271 + k * 69621 + 11) % 2147483647))] :=
  (asg_ok (ρ1 := [a, b, r, .d (.int c), dd, .d (.int k), s6, s7]) (bin_ok (y := .int 2147483647) (m1e h h2) rfl (mod_ok (by decide))) (by decide)).trans rfl
theorem t2 (h : okMul m m = true) : (asg [] 7 (DL.bin opMod (un opInt (binA opAddA (DL.bin opDivA (DL.bin opMul (nm 7) (nm 7)) (cst (.int 4096))) (nm 7))) (cst (.int 2147483629)))) [a, b, r, .d (.int c), dd, .d (.int k), s6, .d (.int m)] = .nx [a, b, r, .d (.int c), dd, .d (.int k), s6, .d (.int ((m * m / 4096 + m) % 2147483629))] :=
  (asg_ok (ρ1 := [a, b, r, .d (.int c), dd, .d (.int k), s6, .d (.int m)]) (bin_ok (y := .int 2147483629) (m2e h) rfl (mod_ok (by decide))) (by decide)).trans rfl
theorem app_ok {i : Nat} {e : Ex D} {x : D} {xs ys : List D} {ρ ρ1 : List Sl} (h : e ρ = .ok x ρ1) (h0 : ρ[i]? = some (.m ys)) (h1 : ρ1[i]? = some (.m xs)) (hl : xs.length < PySem.sizeLine) : appM i e ρ = .nx (ρ1.set i (.m (xs ++ [x]))) := by
  simp only [appM, h0, Out.then, h, h1]
  exact if_pos hl
theorem t3 {ds : List Int} (h : okMul m m = true) (h2 : okMul k 7919 = true) (hl : ds.length < PySem.sizeLine) : (appM 4 (DL.bin opMod (un opInt (binA opAddA (DL.bin opDivA (DL.bin opMul (nm 7) (nm 7)) (cst (.int 4096))) (DL.bin opMul (nm 5) (cst (.int 7919))))) (cst (.int 2147483629)))) [a, b, r, .d (.int c), .m (ds.map D.int), .d (.int k), s6, .d (.int m)] = .nx [a, b, r, .d (.int c), .m ((ds ++ [(m * m / 4096 + k * 7919) % 2147483629]).map D.int), .d (.int k), s6, .d (.int m)] := by
  refine (app_ok (i := 4) (bin_ok (y := .int 2147483629) (m3e h h2) rfl (mod_ok (by decide))) rfl rfl (by simpa using hl)).trans ?_
  simp
theorem tail_ev {ds : List Int} {k : Nat} (hk : k < 120) (h : okMul c 48271 = true) (hl : ds.length < PySem.sizeLine) : ∃ (x : Int) (z : Sl), (seqS (asg [] 7 (DL.bin opMod (un opInt (binA opAddA (binA opAddA (DL.bin opMul (nm 3) (cst (.int 48271))) (DL.bin opMul (nm 5) (cst (.int 69621)))) (cst (.int 11)))) (cst (.int 2147483647))))
  (seqS (asg [] 7 (DL.bin opMod (un opInt (binA opAddA (DL.bin opDivA (DL.bin opMul (nm 7) (nm 7)) (cst (.int 4096))) (nm 7))) (cst (.int 2147483629))))
  (appM 4 (DL.bin opMod (un opInt (binA opAddA (DL.bin opDivA (DL.bin opMul (nm 7) (nm 7)) (cst (.int 4096))) (DL.bin opMul (nm 5) (cst (.int 7919))))) (cst (.int 2147483629)))))) [a, b, r, .d (.int c), .m (ds.map D.int), .d (.int k), s6, s7] = .nx [a, b, r, .d (.int c), .m ((ds ++ [x]).map D.int), .d (.int k), s6, z] := by
  have h2 : okMul (k : Int) 69621 = true := okMul_of (a := 7) (b := 17) (by omega) (by decide) (by decide)
  have h3 : okMul (k : Int) 7919 = true := okMul_of (a := 7) (b := 17) (by omega) (by decide) (by decide)
  have e1 := t1 (a := a) (b := b) (r := r) (dd := .m (ds.map D.int)) (s6 := s6) (s7 := s7) h h2
  have b0 := Int.emod_nonneg (c * 48271 + (k : Int) * 69621 + 11) (show (2147483647 : Int) ≠ 0 by decide)
  have b1 := Int.emod_lt_of_pos (c * 48271 + (k : Int) * 69621 + 11) (show (0 : Int) < 2147483647 by decide)
  generalize (c * 48271 + (k : Int) * 69621 + 11) % 2147483647 = m1 at e1 b0 b1
  have hm : okMul m1 m1 = true := okMul_of (a := 31) (b := 31) (by omega) (by omega) (by decide)
  have e2 := t2 (a := a) (b := b) (r := r) (dd := .m (ds.map D.int)) (c := c) (k := k) (s6 := s6) hm
  have b2 := Int.emod_nonneg (m1 * m1 / 4096 + m1) (show (2147483629 : Int) ≠ 0 by decide)
  have b3 := Int.emod_lt_of_pos (m1 * m1 / 4096 + m1) (show (0 : Int) < 2147483629 by decide)
  generalize (m1 * m1 / 4096 + m1) % 2147483629 = m2 at e2 b2 b3
  have hm2 : okMul m2 m2 = true := okMul_of (a := 31) (b := 31) (by omega) (by omega) (by decide)
  have e3 := t3 (a := a) (b := b) (r := r) (c := c) (k := k) (s6 := s6) hm2 h3 hl
  exact ⟨_, _, (seqS_nx e1).trans ((seqS_nx e2).trans e3)⟩
end
theorem ok1000003 {k : Int} : okDiv k 1000003 = true := rfl
theorem tb_ok {a : Ex D} {b : Bool} {ρ ρ1 : List Sl} (h : a ρ = .ok (.bl b) ρ1) : tb a ρ = .ok b ρ1 := by
  unfold tb Out.bind
  rw [h]
theorem tand_ok {a b : Ex Bool} {x y : Bool} {ρ : List Sl} (h : a ρ = .ok x ρ) (h2 : b ρ = .ok y ρ) : tand a b ρ = .ok (x && y) ρ := by
  unfold tand Out.bind
  rw [h]
  cases x with
  | true => exact h2
  | false => rfl
theorem ixM_ok {i : Nat} {g : Ex D} {j : Int} {xs ys : List D} {z : D} {ρ ρ1 : List Sl} (h0 : ρ[i]? = some (.m ys)) (h : g ρ = .ok (.int j) ρ1) (h1 : ρ1[i]? = some (.m xs)) (h2 : L2.atI xs j = some z) : ixM i g ρ = .ok z ρ1 := by
  simp only [ixM, h0, Out.bind, h, h1, h2, ofO]
theorem setM_ok {i : Nat} {fj fv : Ex D} {j : Int} {k : Nat} {d : D} {xs ys : List D} {ρ ρ1 ρ2 : List Sl} (h : fv ρ = .ok d ρ1) (h0 : ρ1[i]? = some (.m ys)) (h1 : fj ρ1 = .ok (.int j) ρ2) (h2 : ρ2[i]? = some (.m xs)) (h3 : L2.ixN xs.length j = some k) : setM i fj fv ρ = .nx (ρ2.set i (.m (xs.set k d))) := by
  simp only [setM, Out.then, h, h0, h1, h2, h3]
theorem seqS_ct {f g : Sx} {ρ ρ1 : List Sl} (h : f ρ = .ct ρ1) : seqS f g ρ = .ct ρ1 := by unfold seqS; rw [h]
/-- the numbers drawn from -/
abbrev Sc (ns : List Int) : Sl := .d (.lst (ns.map D.int))
def After (ns rs ds : List Int) (k : Nat) (o : SO) : Prop := ∃ (x : Int) (rs' : List Int) (s3 s6 s7 : Sl), rs'.length = rs.length ∧ (o = .nx [Sc ns, .d (.int 120), .m (rs'.map D.int), s3, .m ((ds ++ [x]).map D.int), .d (.int k), s6, s7] ∨ o = .ct [Sc ns, .d (.int 120), .m (rs'.map D.int), s3, .m ((ds ++ [x]).map D.int), .d (.int k), s6, s7])
def dBody : Sx := (seqS (asg [] 3 (nm 5))
  (seqS (ifS (tb (DL.bin opGt (un opLenA (nm 0)) (cst (.int 0))))
  (seqS (asg [] 6 (DL.bin opMod (nm 5) (un opLenA (nm 0))))
  (seqS (asg [] 3 (un opInt (DL.bin opIx (nm 0) (nm 6))))
  (ifS (tand (tb (DL.bin opGe (nm 3) (DL.bin opPow (cst (.int 10)) (cst (.int 18))))) (tb (DL.bin opGt (ixM 2 (nm 6)) (cst (.int 0)))))
  (seqS (appM 4 (DL.bin opMod (un opInt (ixM 2 (nm 6))) (cst (.int 1000003))))
  (seqS (setM 2 (nm 6) (DL.bin opDivA (un opInt (ixM 2 (nm 6))) (cst (.int 1000003))))
  (DL.cnt)))
  (nxt))))
  (nxt))
  (seqS (asg [] 7 (DL.bin opMod (un opInt (binA opAddA (binA opAddA (DL.bin opMul (nm 3) (cst (.int 48271))) (DL.bin opMul (nm 5) (cst (.int 69621)))) (cst (.int 11)))) (cst (.int 2147483647))))
  (seqS (asg [] 7 (DL.bin opMod (un opInt (binA opAddA (DL.bin opDivA (DL.bin opMul (nm 7) (nm 7)) (cst (.int 4096))) (nm 7))) (cst (.int 2147483629))))
  (appM 4 (DL.bin opMod (un opInt (binA opAddA (DL.bin opDivA (DL.bin opMul (nm 7) (nm 7)) (cst (.int 4096))) (DL.bin opMul (nm 5) (cst (.int 7919))))) (cst (.int 2147483629))))))))
theorem turn_ev {ns rs ds : List Int} {k : Nat} {s3 s5 s6 s7 : Sl} (hb : ∀ z ∈ ns, okMul z 48271 = true) (hr : rs.length = ns.length) (hk : k < 120) (hl : ds.length < PySem.sizeLine) : After ns rs ds k (dBody [Sc ns, .d (.int 120), .m (rs.map D.int), s3, .m (ds.map D.int), .d (.int k), s6, s7]) := by
  have p1 : asg [] 3 (nm 5) [Sc ns, .d (.int 120), .m (rs.map D.int), s3, .m (ds.map D.int), .d (.int k), s6, s7] = .nx [Sc ns, .d (.int 120), .m (rs.map D.int), .d (.int k), .m (ds.map D.int), .d (.int k), s6, s7] := by simp [seqS, ifS, asg, asgM, asg2, DL.ret, retM, retN, drp, nxt, brk, DL.cnt, retS, appM, setM, Out.then, Out.bind, ofO, nm, cst, nmF, nmP, pk, pkM, frz, DL.bin, binA, un, unP, tb, tr, trP, tand, tor, tnot, eand, eor, enot, eif, opAdd, opAddA, Rz.d, opSub, opMul, opDivA, opDiv, opMod, opPow, opLt, opLe, opGt, opGe, opIsN, opNotN, isNon, opNeg, opIx, ixM, L2.atI, L2.ixN, aNil, aD, aM, isM, dvs, mkTup, mkLst, DL.call, callM, appF, avSl, mvs, putBack, mkFn, outs, List.range_succ, opAbs, opInt, opBool, opLenA, opLen, opT, isiB, isiO, D.ty, D.tru, toLst, tupD, tupP, toTup, forS, loop, bN, bT, bCons, bNil, itD, itT, itR1, itR2, raiseE, avD, tryS, clauses, suL, suF, suT, suR, xvals, xval, fld, fldS, setF, fldOf, putNs, putXs, lc, lcL, wipeS, backS, yes, mkI, PySem.sizeLine]
  unfold dBody
  rw [seqS_nx p1]
  by_cases h0 : ns.length = 0
  · have e0 : ns = [] := List.length_eq_zero_iff.mp h0
    subst e0
    have p2 : (tb (DL.bin opGt (un opLenA (nm 0)) (cst (.int 0)))) [Sc [], .d (.int 120), .m (rs.map D.int), .d (.int k), .m (ds.map D.int), .d (.int k), s6, s7] = .ok false [Sc [], .d (.int 120), .m (rs.map D.int), .d (.int k), .m (ds.map D.int), .d (.int k), s6, s7] := by simp [seqS, ifS, asg, asgM, asg2, DL.ret, retM, retN, drp, nxt, brk, DL.cnt, retS, appM, setM, Out.then, Out.bind, ofO, nm, cst, nmF, nmP, pk, pkM, frz, DL.bin, binA, un, unP, tb, tr, trP, tand, tor, tnot, eand, eor, enot, eif, opAdd, opAddA, Rz.d, opSub, opMul, opDivA, opDiv, opMod, opPow, opLt, opLe, opGt, opGe, opIsN, opNotN, isNon, opNeg, opIx, ixM, L2.atI, L2.ixN, aNil, aD, aM, isM, dvs, mkTup, mkLst, DL.call, callM, appF, avSl, mvs, putBack, mkFn, outs, List.range_succ, opAbs, opInt, opBool, opLenA, opLen, opT, isiB, isiO, D.ty, D.tru, toLst, tupD, tupP, toTup, forS, loop, bN, bT, bCons, bNil, itD, itT, itR1, itR2, raiseE, avD, tryS, clauses, suL, suF, suT, suR, xvals, xval, fld, fldS, setF, fldOf, putNs, putXs, lc, lcL, wipeS, backS, yes, mkI, PySem.sizeLine]
    obtain ⟨x, z, e⟩ := tail_ev (a := Sc []) (b := .d (.int 120)) (r := .m (rs.map D.int)) (s6 := s6) (s7 := s7) (c := k) hk (okMul_of (a := 7) (b := 17) (by omega) (by decide) (by decide)) hl
    refine ⟨x, rs, _, _, _, rfl, .inl ((seqS_nx (ρ1 := [Sc [], .d (.int 120), .m (rs.map D.int), .d (.int k), .m (ds.map D.int), .d (.int k), s6, s7]) ((ifS_f p2).trans rfl)).trans e)⟩
  · have hp : 0 < ns.length := by omega
    have hj : k % ns.length < ns.length := Nat.mod_lt _ hp
    have hc : (ns.map D.int)[k % ns.length]? = some (.int ns[k % ns.length]) := by simp [hj]
    have hz := hb _ (List.getElem_mem hj)
    have hq : rs[k % ns.length]? = some (rs[k % ns.length]'(by omega)) := List.getElem?_eq_getElem _
    generalize hcd : ns[k % ns.length] = c at hc hz
    generalize (rs[k % ns.length]'(by omega)) = q at hq
    generalize hjd : k % ns.length = j at hc hq hj
    have p2 : (tb (DL.bin opGt (un opLenA (nm 0)) (cst (.int 0)))) [Sc ns, .d (.int 120), .m (rs.map D.int), .d (.int k), .m (ds.map D.int), .d (.int k), s6, s7] = .ok true [Sc ns, .d (.int 120), .m (rs.map D.int), .d (.int k), .m (ds.map D.int), .d (.int k), s6, s7] := by simp [seqS, ifS, asg, asgM, asg2, DL.ret, retM, retN, drp, nxt, brk, DL.cnt, retS, appM, setM, Out.then, Out.bind, ofO, nm, cst, nmF, nmP, pk, pkM, frz, DL.bin, binA, un, unP, tb, tr, trP, tand, tor, tnot, eand, eor, enot, eif, opAdd, opAddA, Rz.d, opSub, opMul, opDivA, opDiv, opMod, opPow, opLt, opLe, opGt, opGe, opIsN, opNotN, isNon, opNeg, opIx, ixM, L2.atI, L2.ixN, aNil, aD, aM, isM, dvs, mkTup, mkLst, DL.call, callM, appF, avSl, mvs, putBack, mkFn, outs, List.range_succ, opAbs, opInt, opBool, opLenA, opLen, opT, isiB, isiO, D.ty, D.tru, toLst, tupD, tupP, toTup, forS, loop, bN, bT, bCons, bNil, itD, itT, itR1, itR2, raiseE, avD, tryS, clauses, suL, suF, suT, suR, xvals, xval, fld, fldS, setF, fldOf, putNs, putXs, lc, lcL, wipeS, backS, yes, mkI, PySem.sizeLine, hp]
    have hmod : (k : Int) % (ns.length : Int) = (j : Int) := by rw [← hjd]; rfl
    have p3 : asg [] 6 (DL.bin opMod (nm 5) (un opLenA (nm 0))) [Sc ns, .d (.int 120), .m (rs.map D.int), .d (.int k), .m (ds.map D.int), .d (.int k), s6, s7] = .nx [Sc ns, .d (.int 120), .m (rs.map D.int), .d (.int k), .m (ds.map D.int), .d (.int k), .d (.int j), s7] := by simp [seqS, ifS, asg, asgM, asg2, DL.ret, retM, retN, drp, nxt, brk, DL.cnt, retS, appM, setM, Out.then, Out.bind, ofO, nm, cst, nmF, nmP, pk, pkM, frz, DL.bin, binA, un, unP, tb, tr, trP, tand, tor, tnot, eand, eor, enot, eif, opAdd, opAddA, Rz.d, opSub, opMul, opDivA, opDiv, opMod, opPow, opLt, opLe, opGt, opGe, opIsN, opNotN, isNon, opNeg, opIx, ixM, L2.atI, L2.ixN, aNil, aD, aM, isM, dvs, mkTup, mkLst, DL.call, callM, appF, avSl, mvs, putBack, mkFn, outs, List.range_succ, opAbs, opInt, opBool, opLenA, opLen, opT, isiB, isiO, D.ty, D.tru, toLst, tupD, tupP, toTup, forS, loop, bN, bT, bCons, bNil, itD, itT, itR1, itR2, raiseE, avD, tryS, clauses, suL, suF, suT, suR, xvals, xval, fld, fldS, setF, fldOf, putNs, putXs, lc, lcL, wipeS, backS, yes, mkI, PySem.sizeLine, hp, hmod]
    have p4 : asg [] 3 (un opInt (DL.bin opIx (nm 0) (nm 6))) [Sc ns, .d (.int 120), .m (rs.map D.int), .d (.int k), .m (ds.map D.int), .d (.int k), .d (.int j), s7] = .nx [Sc ns, .d (.int 120), .m (rs.map D.int), .d (.int c), .m (ds.map D.int), .d (.int k), .d (.int j), s7] := by
      have hx : opIx (.lst (ns.map D.int)) (.int j) = some (.int c) := by
        show L2.atI (ns.map D.int) j = _
        unfold L2.atI L2.ixN
        rw [if_pos (by omega), List.length_map, if_pos (by omega)]
        exact hc
      refine (asg_ok (d := .int c) (ρ1 := [Sc ns, .d (.int 120), .m (rs.map D.int), .d (.int k), .m (ds.map D.int), .d (.int k), .d (.int j), s7]) ?_ (by decide)).trans rfl
      have e1 := bin_ok (a := nm 0) (b := nm 6) (ρ := [Sc ns, .d (.int 120), .m (rs.map D.int), .d (.int k), .m (ds.map D.int), .d (.int k), .d (.int j), s7]) rfl rfl hx
      unfold un Out.bind
      rw [e1]
      rfl
    have hxq : ∀ dd : List D, ixM 2 (nm 6) [Sc ns, .d (.int 120), .m (rs.map D.int), .d (.int c), .m dd, .d (.int k), .d (.int j), s7] = .ok (.int q) [Sc ns, .d (.int 120), .m (rs.map D.int), .d (.int c), .m dd, .d (.int k), .d (.int j), s7] := by
      intro dd
      have h1 : L2.atI (rs.map D.int) (j : Int) = some (.int q) := by
        unfold L2.atI L2.ixN
        rw [if_pos (by omega), List.length_map, if_pos (by omega)]
        show (rs.map D.int)[j]? = _
        rw [List.getElem?_map, hq]
        rfl
      exact ixM_ok rfl rfl rfl h1
    have hx2 := hxq (ds.map D.int)
    have p5 : (tand (tb (DL.bin opGe (nm 3) (DL.bin opPow (cst (.int 10)) (cst (.int 18))))) (tb (DL.bin opGt (ixM 2 (nm 6)) (cst (.int 0))))) [Sc ns, .d (.int 120), .m (rs.map D.int), .d (.int c), .m (ds.map D.int), .d (.int k), .d (.int j), s7] = .ok (decide (10 ^ 18 ≤ c) && decide (0 < q)) [Sc ns, .d (.int 120), .m (rs.map D.int), .d (.int c), .m (ds.map D.int), .d (.int k), .d (.int j), s7] := by
      have g1 : tb (DL.bin opGe (nm 3) (DL.bin opPow (cst (.int 10)) (cst (.int 18)))) [Sc ns, .d (.int 120), .m (rs.map D.int), .d (.int c), .m (ds.map D.int), .d (.int k), .d (.int j), s7] = .ok (decide (10 ^ 18 ≤ c)) [Sc ns, .d (.int 120), .m (rs.map D.int), .d (.int c), .m (ds.map D.int), .d (.int k), .d (.int j), s7] := tb_ok (bin_ok (x := .int c) (y := .int (10 ^ 18)) rfl (bin_ok (x := .int 10) (y := .int 18) rfl rfl (by kernel_rfl)) rfl)
      have g2 : tb (DL.bin opGt (ixM 2 (nm 6)) (cst (.int 0))) [Sc ns, .d (.int 120), .m (rs.map D.int), .d (.int c), .m (ds.map D.int), .d (.int k), .d (.int j), s7] = .ok (decide (0 < q)) [Sc ns, .d (.int 120), .m (rs.map D.int), .d (.int c), .m (ds.map D.int), .d (.int k), .d (.int j), s7] := tb_ok (bin_ok hx2 rfl rfl)
      exact tand_ok g1 g2
    by_cases hb2 : (decide ((10 : Int) ^ 18 ≤ c) && decide (0 < q)) = true
    · rw [hb2] at p5
      have a1 := app_ok (i := 4) (bin_ok (y := .int 1000003) (un_ok (op := opInt) hx2 rfl) rfl (mod_ok (by decide))) rfl rfl (xs := ds.map D.int) (by simpa using hl)
      have hx3 : ixM 2 (nm 6) [Sc ns, .d (.int 120), .m (rs.map D.int), .d (.int c), .m (ds.map D.int ++ [.int (q % 1000003)]), .d (.int k), .d (.int j), s7] = .ok (.int q) [Sc ns, .d (.int 120), .m (rs.map D.int), .d (.int c), .m (ds.map D.int ++ [.int (q % 1000003)]), .d (.int k), .d (.int j), s7] := hxq _
      have a2 : setM 2 (nm 6) (DL.bin opDivA (un opInt (ixM 2 (nm 6))) (cst (.int 1000003))) [Sc ns, .d (.int 120), .m (rs.map D.int), .d (.int c), .m (ds.map D.int ++ [.int (q % 1000003)]), .d (.int k), .d (.int j), s7] = .nx [Sc ns, .d (.int 120), .m ((rs.map D.int).set j (.int (q / 1000003))), .d (.int c), .m (ds.map D.int ++ [.int (q % 1000003)]), .d (.int k), .d (.int j), s7] :=
        (setM_ok (i := 2) (fj := nm 6) (j := (j : Int)) (k := j) (bin_ok (b := cst (.int 1000003)) (un_ok (op := opInt) hx3 rfl) rfl (div_ok ok1000003)) rfl rfl rfl (by unfold L2.ixN; rw [if_pos (by omega), List.length_map, if_pos (by omega)]; rfl)).trans rfl
      refine ⟨q % 1000003, rs.set j (q / 1000003), .d (.int c), .d (.int j), s7, by simp, .inr ?_⟩
      refine (seqS_ct ((ifS_t p2).trans ((seqS_nx p3).trans ((seqS_nx p4).trans ((ifS_t p5).trans ((seqS_nx a1).trans ((seqS_nx a2).trans rfl))))))).trans ?_
      rw [List.map_set, List.map_append]
      rfl
    · have hb2 := Bool.eq_false_iff.mpr hb2
      rw [hb2] at p5
      obtain ⟨x, z, e⟩ := tail_ev (a := Sc ns) (b := .d (.int 120)) (r := .m (rs.map D.int)) (s6 := .d (.int j)) (s7 := s7) (c := c) hk hz hl
      refine ⟨x, rs, _, _, _, rfl, .inl ((seqS_nx (ρ1 := [Sc ns, .d (.int 120), .m (rs.map D.int), .d (.int c), .m (ds.map D.int), .d (.int k), .d (.int j), s7]) ((ifS_t p2).trans ((seqS_nx p3).trans ((seqS_nx p4).trans ((ifS_f p5).trans rfl))))).trans e)⟩
end Pl
end

section
set_option Elab.async false
set_option linter.all false
set_option maxRecDepth 100000
set_option maxHeartbeats 400000
namespace Pl
open DL Mi
theorem loop_ev {ns : List Int} (hb : ∀ z ∈ ns, okMul z 48271 = true) : ∀ (xs : List Nat) (rs ds : List Int) (s3 s5 s6 s7 : Sl), (∀ k ∈ xs, k < 120) → rs.length = ns.length → ds.length + xs.length < PySem.sizeLine → ∃ (rs' ds' : List Int) (t3 t5 t6 t7 : Sl), loop (bN [] 5) dBody (xs.map fun k : Nat => D.int (k : Int)) [Sc ns, .d (.int 120), .m (rs.map D.int), s3, .m (ds.map D.int), s5, s6, s7] = .nx [Sc ns, .d (.int 120), .m (rs'.map D.int), t3, .m (ds'.map D.int), t5, t6, t7]
  | [], rs, ds, s3, s5, s6, s7, _, _, _ => ⟨rs, ds, s3, s5, s6, s7, rfl⟩
  | k :: xs, rs, ds, s3, s5, s6, s7, h1, h2, h3 => by
    rw [List.length_cons] at h3
    obtain ⟨x, rs', u3, u6, u7, hl, e⟩ := turn_ev (s3 := s3) (s5 := s5) (s6 := s6) (s7 := s7) hb h2 (h1 k (List.mem_cons_self ..)) (ds := ds) (by omega)
    obtain ⟨rs2, ds2, t3, t5, t6, t7, e2⟩ := loop_ev hb xs rs' (ds ++ [x]) u3 (.d (.int k)) u6 u7 (fun k hk => h1 k (List.mem_cons_of_mem _ hk)) (hl.trans h2) (by rw [List.length_append]; simp only [List.length_cons, List.length_nil]; omega)
    refine ⟨rs2, ds2, t3, t5, t6, t7, ?_⟩
    have hb0 : bN [] 5 (D.int (k : Int)) [Sc ns, .d (.int 120), .m (rs.map D.int), s3, .m (ds.map D.int), s5, s6, s7] = some [Sc ns, .d (.int 120), .m (rs.map D.int), s3, .m (ds.map D.int), .d (.int k), s6, s7] := rfl
    rw [List.map_cons]
    unfold loop
    rw [hb0]
    rcases e with e | e
    · simp only [e]
      exact e2
    · simp only [e]
      exact e2
theorem rests_lc {s0 s1 s2 s4 s5 s6 s7 : Sl} : ∀ (xs acc : List Int), ∃ ys : List Int, ys.length = acc.length + xs.length ∧ lcL [3] (bN [] 3) yes (un opAbs (un opInt (nm 3))) (xs.map D.int) (acc.map D.int) [s0, s1, s2, .no, s4, s5, s6, s7] = some (ys.map D.int, [s0, s1, s2, .no, s4, s5, s6, s7])
  | [], acc => ⟨acc, rfl, rfl⟩
  | x :: xs, acc => by
    obtain ⟨z, hz⟩ : ∃ z : Int, opAbs (.int x) = some (.int z) := ⟨_, rfl⟩
    obtain ⟨ys, h1, h2⟩ := rests_lc (s0 := s0) (s1 := s1) (s2 := s2) (s4 := s4) (s5 := s5) (s6 := s6) (s7 := s7) xs (acc ++ [z])
    refine ⟨ys, by rw [h1]; simp only [List.length_append, List.length_cons, List.length_nil]; omega, ?_⟩
    rw [List.map_append] at h2
    have e : (un opAbs (un opInt (nm 3))) [s0, s1, s2, .d (.int x), s4, s5, s6, s7] = .ok (.int z) [s0, s1, s2, .d (.int x), s4, s5, s6, s7] := un_ok (un_ok (op := opInt) rfl rfl) hz
    have hb0 : bN [] 3 (D.int x) [s0, s1, s2, .no, s4, s5, s6, s7] = some [s0, s1, s2, .d (.int x), s4, s5, s6, s7] := rfl
    have hy : yes [s0, s1, s2, .d (.int x), s4, s5, s6, s7] = .ok true [s0, s1, s2, .d (.int x), s4, s5, s6, s7] := rfl
    rw [List.map_cons]
    unfold lcL
    simp only [hb0, hy, e]
    exact h2
theorem draws_ev {ns : List Int} (hn : ns.length ≤ 63) (hb : ∀ z ∈ ns, okMul z 48271 = true) : ∃ L : List Int, F__law_draws [Sc ns, .d (.int 120)] = .rt (.lst (L.map D.int)) [.no, .no] := by
  obtain ⟨ys, y1, y2⟩ := rests_lc (s0 := Sc ns) (s1 := .d (.int 120)) (s2 := .no) (s4 := .no) (s5 := .no) (s6 := .no) (s7 := .no) ns []
  obtain ⟨rs', L, t3, t5, t6, t7, e⟩ := loop_ev hb (List.range 120) ys [] .no .no .no .no (fun k hk => List.mem_range.mp hk) (y1.trans (Nat.zero_add _)) (by rw [List.length_range]; show 0 + 120 < 2 ^ 24; decide)
  have hm : (List.range 120).map (fun k : Nat => D.int (k : Int)) = upto 0 120 := by
    unfold upto
    exact List.map_congr_left fun k _ => by rw [Int.zero_add]
  rw [hm] at e
  refine ⟨L, ?_⟩
  have s1 := asgM_ok (B := []) (i := 2) (lc_ok (vs := [3]) (ρ1 := [Sc ns, .d (.int 120), .no, .no, .no, .no, .no, .no]) (it := itD (nm 0)) (ρ := [Sc ns, .d (.int 120), .no, .no, .no, .no, .no, .no]) rfl (by rw [List.length_map]; exact Nat.le_trans hn (by show 63 ≤ 2 ^ 24; decide)) y2) (by decide)
  have s2 := asgM_ok (B := []) (i := 4) (m := mkLst aNil) (ρ := [Sc ns, .d (.int 120), .m (ys.map D.int), .no, .no, .no, .no, .no]) (xs := []) (ρ1 := [Sc ns, .d (.int 120), .m (ys.map D.int), .no, .no, .no, .no, .no]) rfl (by decide)
  have s3 : itR1 (nm 1) [Sc ns, .d (.int 120), .m (ys.map D.int), .no, .m [], .no, .no, .no] = .ok (upto 0 120) [Sc ns, .d (.int 120), .m (ys.map D.int), .no, .m [], .no, .no, .no] := by kernel_rfl
  unfold F__law_draws
  refine mkFn_rt (B := []) rfl rfl (ρ := [Sc ns, .d (.int 120), .m (rs'.map D.int), t3, .d (.lst (L.map D.int)), t5, t6, t7]) ?_
  refine (seqS_nx s1).trans ((seqS_nx s2).trans ((seqS_nx ((forS_ok (b := bN [] 5) (f := dBody) s3).trans e)).trans ?_))
  exact ret_ok rfl
end Pl
end

section
set_option Elab.async false
set_option linter.all false
set_option maxRecDepth 100000
set_option maxHeartbeats 400000
namespace Pl
open DL Mi
section
variable {L : List Int} {n m : Nat} {s0 s2 s3 s4 s5 s6 s7 s8 : Sl} {G : Fn} {k d : D}
theorem c1 (e : G [Hand L n, .d k] = .rt d [Hand L m, .no]) : DL.call G [] (aM 1 (aD (cst k) aNil)) [s0, Hand L n, s2, s3, s4, s5, s6, s7, s8] = .ok d [s0, Hand L m, s2, s3, s4, s5, s6, s7, s8] := by simp [seqS, ifS, asg, asgM, asg2, DL.ret, retM, retN, drp, nxt, brk, DL.cnt, retS, appM, setM, Out.then, Out.bind, ofO, nm, cst, nmF, nmP, pk, pkM, frz, DL.bin, binA, un, unP, tb, tr, trP, tand, tor, tnot, eand, eor, enot, eif, opAdd, opAddA, Rz.d, opSub, opMul, opDivA, opDiv, opMod, opPow, opLt, opLe, opGt, opGe, opIsN, opNotN, isNon, opNeg, opIx, ixM, L2.atI, L2.ixN, aNil, aD, aM, isM, dvs, mkTup, mkLst, DL.call, callM, appF, avSl, mvs, putBack, mkFn, outs, List.range_succ, opAbs, opInt, opBool, opLenA, opLen, opT, isiB, isiO, D.ty, D.tru, toLst, tupD, tupP, toTup, forS, loop, bN, bT, bCons, bNil, itD, itT, itR1, itR2, raiseE, avD, tryS, clauses, suL, suF, suT, suR, xvals, xval, fld, fldS, setF, fldOf, putNs, putXs, lc, lcL, wipeS, backS, yes, mkI, PySem.sizeLine, e]
theorem c4 (e : G [Hand L n, .d k] = .rt d [Hand L m, .no]) : DL.call G [] (aM 1 (aD (nm 4) aNil)) [s0, Hand L n, s2, s3, .d k, s5, s6, s7, s8] = .ok d [s0, Hand L m, s2, s3, .d k, s5, s6, s7, s8] := by simp [seqS, ifS, asg, asgM, asg2, DL.ret, retM, retN, drp, nxt, brk, DL.cnt, retS, appM, setM, Out.then, Out.bind, ofO, nm, cst, nmF, nmP, pk, pkM, frz, DL.bin, binA, un, unP, tb, tr, trP, tand, tor, tnot, eand, eor, enot, eif, opAdd, opAddA, Rz.d, opSub, opMul, opDivA, opDiv, opMod, opPow, opLt, opLe, opGt, opGe, opIsN, opNotN, isNon, opNeg, opIx, ixM, L2.atI, L2.ixN, aNil, aD, aM, isM, dvs, mkTup, mkLst, DL.call, callM, appF, avSl, mvs, putBack, mkFn, outs, List.range_succ, opAbs, opInt, opBool, opLenA, opLen, opT, isiB, isiO, D.ty, D.tru, toLst, tupD, tupP, toTup, forS, loop, bN, bT, bCons, bNil, itD, itT, itR1, itR2, raiseE, avD, tryS, clauses, suL, suF, suT, suR, xvals, xval, fld, fldS, setF, fldOf, putNs, putXs, lc, lcL, wipeS, backS, yes, mkI, PySem.sizeLine, e]
theorem c0 (e : G [Hand L n] = .rt d [Hand L m]) : DL.call G [] (aM 1 aNil) [s0, Hand L n, s2, s3, s4, s5, s6, s7, s8] = .ok d [s0, Hand L m, s2, s3, s4, s5, s6, s7, s8] := by simp [seqS, ifS, asg, asgM, asg2, DL.ret, retM, retN, drp, nxt, brk, DL.cnt, retS, appM, setM, Out.then, Out.bind, ofO, nm, cst, nmF, nmP, pk, pkM, frz, DL.bin, binA, un, unP, tb, tr, trP, tand, tor, tnot, eand, eor, enot, eif, opAdd, opAddA, Rz.d, opSub, opMul, opDivA, opDiv, opMod, opPow, opLt, opLe, opGt, opGe, opIsN, opNotN, isNon, opNeg, opIx, ixM, L2.atI, L2.ixN, aNil, aD, aM, isM, dvs, mkTup, mkLst, DL.call, callM, appF, avSl, mvs, putBack, mkFn, outs, List.range_succ, opAbs, opInt, opBool, opLenA, opLen, opT, isiB, isiO, D.ty, D.tru, toLst, tupD, tupP, toTup, forS, loop, bN, bT, bCons, bNil, itD, itT, itR1, itR2, raiseE, avD, tryS, clauses, suL, suF, suT, suR, xvals, xval, fld, fldS, setF, fldOf, putNs, putXs, lc, lcL, wipeS, backS, yes, mkI, PySem.sizeLine, e]
def vBody : Sx := (seqS (asg [] 3 (DL.call F_is_field [] (aD (nm 2) (aNil))))
  (ifS (tor (tnot (tb (un (opT (isiB "bool" [("Share", false)])) (nm 3)))) (tb (DL.bin opNe (nm 3) (DL.call F__law_is_field [] (aD (nm 2) (aNil))))))
  (DL.ret (cst (.bl false)))
  (nxt)))
theorem v_ev (h : d.fit "Share" okI_Share = true) : vBody [s0, Hand L n, .d d, s3, s4, s5, s6, s7, s8] = .nx [s0, Hand L n, .d d, .d (.bl (fieldB d)), s4, s5, s6, s7, s8] := by
  have e1 := isf_ev d h
  have e2 := lisf_ev d h
  simp [vBody, seqS, ifS, asg, asgM, asg2, DL.ret, retM, retN, drp, nxt, brk, DL.cnt, retS, appM, setM, Out.then, Out.bind, ofO, nm, cst, nmF, nmP, pk, pkM, frz, DL.bin, binA, un, unP, tb, tr, trP, tand, tor, tnot, eand, eor, enot, eif, opAdd, opAddA, Rz.d, opSub, opMul, opDivA, opDiv, opMod, opPow, opLt, opLe, opGt, opGe, opIsN, opNotN, isNon, opNeg, opIx, ixM, L2.atI, L2.ixN, aNil, aD, aM, isM, dvs, mkTup, mkLst, DL.call, callM, appF, avSl, mvs, putBack, mkFn, outs, List.range_succ, opAbs, opInt, opBool, opLenA, opLen, opT, isiB, isiO, D.ty, D.tru, toLst, tupD, tupP, toTup, forS, loop, bN, bT, bCons, bNil, itD, itT, itR1, itR2, raiseE, avD, tryS, clauses, suL, suF, suT, suR, xvals, xval, fld, fldS, setF, fldOf, putNs, putXs, lc, lcL, wipeS, backS, yes, mkI, PySem.sizeLine, e1, e2]
theorem vs_ev : ∀ (xs : List D) (s2 s3 : Sl), D.fits "Share" okI_Share xs = true → ∃ t2 t3, loop (bN [] 2) vBody xs [s0, Hand L n, s2, s3, s4, s5, s6, s7, s8] = .nx [s0, Hand L n, t2, t3, s4, s5, s6, s7, s8]
  | [], s2, s3, _ => ⟨s2, s3, rfl⟩
  | x :: xs, s2, s3, h => by
    obtain ⟨h1, h2⟩ := Bool.and_eq_true_iff.mp (show (x.fit "Share" okI_Share && D.fits "Share" okI_Share xs) = true from h)
    obtain ⟨t2, t3, e⟩ := vs_ev xs (.d x) (.d (.bl (fieldB x))) h2
    refine ⟨t2, t3, ?_⟩
    have hb0 : bN [] 2 x [s0, Hand L n, s2, s3, s4, s5, s6, s7, s8] = some [s0, Hand L n, .d x, s3, s4, s5, s6, s7, s8] := rfl
    unfold loop
    simp only [hb0, v_ev h1]
    exact e
theorem seen_ev (L : List Int) (n : Nat) : ∃ (m : Nat) (t2 t3 : Sl), (forS (itD (frz (mkLst (aD (DL.call (F__law_odd 5) [] (aM 1 (aD (cst (.int 2)) (aNil)))) (aD (DL.bin opSub (DL.call F__law_take [] (aM 1 (aD (cst (.int 50)) (aNil)))) (cst (.int 9))) (aD (DL.call (F__law_odd 5) [] (aM 1 (aD (cst (.int 0)) (aNil)))) (aD (DL.call F__law_field [] (aM 1 (aNil))) (aD (frz (mkLst (aD (DL.call F__law_field [] (aM 1 (aNil))) (aNil)))) (aNil))))))))) (bN [] 2) vBody) [s0, Hand L n, s2, s3, s4, s5, s6, s7, s8] = .nx [s0, Hand L m, t2, t3, s4, s5, s6, s7, s8] := by
  obtain ⟨d1, m1, e1, g1⟩ := odd_ev 2 5 (by decide) L n
  obtain ⟨r, r1, r2, er⟩ := take_ev L m1 50 (by decide)
  obtain ⟨d2, m2, e2, g2⟩ := odd_ev 0 5 (by decide) L (m1 + 1)
  obtain ⟨p1, m3, h3, e3⟩ := field_ev L m2
  obtain ⟨p2, m4, h4, e4⟩ := field_ev L m3
  have hf : D.fits "Share" okI_Share [d1, .int (r - 9), d2, .int p1, .lst [.int p2]] = true := by
    simp only [D.fits, D.fit, g1.1, g2.1, Bool.and_self]
  obtain ⟨t2, t3, e⟩ := vs_ev (L := L) (n := m4) (s0 := s0) (s4 := s4) (s5 := s5) (s6 := s6) (s7 := s7) (s8 := s8) [d1, .int (r - 9), d2, .int p1, .lst [.int p2]] s2 s3 hf
  refine ⟨m4, t2, t3, (forS_ok (ρ1 := [s0, Hand L m4, s2, s3, s4, s5, s6, s7, s8]) ?_).trans e⟩
  have q1 := mkLst_ok (as := [.dv d1, .dv (.int (r - 9)), .dv d2, .dv (.int p1), .dv (.lst [.int p2])]) (aD_ok (c1 (s0 := s0) (s2 := s2) (s3 := s3) (s4 := s4) (s5 := s5) (s6 := s6) (s7 := s7) (s8 := s8) (k := .int 2) e1) (aD_ok (bin_ok (op := opSub) (b := cst (.int 9)) (y := .int 9) (c1 er) rfl rfl) (aD_ok (c1 (k := .int 0) e2) (aD_ok (c0 e3) (aD_ok (frz_ok (mkLst_ok (as := [.dv (.int p2)]) (aD_ok (c0 e4) (b := aNil) rfl) rfl (by show 1 ≤ 2 ^ 24; decide))) (b := aNil) rfl))))) rfl (by show 5 ≤ 2 ^ 24; decide)
  have q2 := frz_ok q1
  unfold itD Out.bind
  rw [q2]
theorem wrong_ev (p : Int) : (frz (mkLst (aD (nm 4) (aD (un opNeg (cst (.int 1))) (aD (cst (.bl true)) (aD (cst .non) (aD (cst (.str "1")) (aD (mkTup (aD (cst (.int 1)) (aNil))) (aD (DL.bin opPow (cst (.int 10)) (cst (.int 30))) (aD (cst (.bl false)) (aD (binA opAddA (nm 4) (cst (.int 1))) (aD (mkI [] "Share" F_Shareu_initu [.int 1] (aD (cst (.int 1)) (aNil))) (aNil))))))))))))) [s0, Hand L n, s2, s3, .d (.int p), s5, s6, s7, s8] = .ok (.lst (wrongs p)) [s0, Hand L n, s2, s3, .d (.int p), s5, s6, s7, s8] := by kernel_rfl
theorem like_ev (b : Int) : F__law_like [.d (.int b), .d (.int b)] = .rt (.bl true) [.no, .no] := by simp [F__law_like, seqS, ifS, asg, asgM, asg2, DL.ret, retM, retN, drp, nxt, brk, DL.cnt, retS, appM, setM, Out.then, Out.bind, ofO, nm, cst, nmF, nmP, pk, pkM, frz, DL.bin, binA, un, unP, tb, tr, trP, tand, tor, tnot, eand, eor, enot, eif, opAdd, opAddA, Rz.d, opSub, opMul, opDivA, opDiv, opMod, opPow, opLt, opLe, opGt, opGe, opIsN, opNotN, isNon, opNeg, opIx, ixM, L2.atI, L2.ixN, aNil, aD, aM, isM, dvs, mkTup, mkLst, DL.call, callM, appF, avSl, mvs, putBack, mkFn, outs, List.range_succ, opAbs, opInt, opBool, opLenA, opLen, opT, isiB, isiO, D.ty, D.tru, toLst, tupD, tupP, toTup, forS, loop, bN, bT, bCons, bNil, itD, itT, itR1, itR2, raiseE, avD, tryS, clauses, suL, suF, suT, suR, xvals, xval, fld, fldS, setF, fldOf, putNs, putXs, lc, lcL, wipeS, backS, yes, mkI, PySem.sizeLine]
def foundBody : Sx := (ifS (tb (DL.bin opEq (nm 5) (cst (.int 0))))
  (ifS (tb (DL.bin opNe (nm 6) (frz (mkLst (aD (cst (.str "undefined")) (aD (cst (.str "inverse")) (aNil)))))))
  (DL.ret (cst (.bl false)))
  (nxt))
  (ifS (tor (tb (DL.bin opNe (DL.bin opIx (nm 6) (cst (.int 0))) (cst (.str "letter")))) (tnot (tr (DL.call F__law_like [] (aD (DL.bin opIx (nm 6) (cst (.int 1))) (aD (DL.call F__law_inverse [] (aD (nm 5) (aD (nm 4) (aNil)))) (aNil)))))))
  (DL.ret (cst (.bl false)))
  (nxt)))
theorem found_ev {p a : Int} (hp : p ∈ fields) (a0 : 0 ≤ a) (a1 : a < p) : ∃ f : D, F__law_told [.d (.int p), .d (.int a)] = .rt f [.no, .no] ∧ foundBody [s0, Hand L n, s2, s3, .d (.int p), .d (.int a), .d f, s7, s8] = .nx [s0, Hand L n, s2, s3, .d (.int p), .d (.int a), .d f, s7, s8] := by
  by_cases h : a = 0
  · subst h
    exact ⟨_, told_zero hp, by kernel_rfl⟩
  · obtain ⟨b, e1, e2⟩ := told_pos hp (show 0 < a by omega) a1
    refine ⟨_, e1, ?_⟩
    have t1 : (tb (DL.bin opEq (nm 5) (cst (.int 0)))) [s0, Hand L n, s2, s3, .d (.int p), .d (.int a), .d (.lst [.str "letter", .int b]), s7, s8] = .ok false [s0, Hand L n, s2, s3, .d (.int p), .d (.int a), .d (.lst [.str "letter", .int b]), s7, s8] := by simp [seqS, ifS, asg, asgM, asg2, DL.ret, retM, retN, drp, nxt, brk, DL.cnt, retS, appM, setM, Out.then, Out.bind, ofO, nm, cst, nmF, nmP, pk, pkM, frz, DL.bin, binA, un, unP, tb, tr, trP, tand, tor, tnot, eand, eor, enot, eif, opAdd, opAddA, Rz.d, opSub, opMul, opDivA, opDiv, opMod, opPow, opLt, opLe, opGt, opGe, opIsN, opNotN, isNon, opNeg, opIx, ixM, L2.atI, L2.ixN, aNil, aD, aM, isM, dvs, mkTup, mkLst, DL.call, callM, appF, avSl, mvs, putBack, mkFn, outs, List.range_succ, opAbs, opInt, opBool, opLenA, opLen, opT, isiB, isiO, D.ty, D.tru, toLst, tupD, tupP, toTup, forS, loop, bN, bT, bCons, bNil, itD, itT, itR1, itR2, raiseE, avD, tryS, clauses, suL, suF, suT, suR, xvals, xval, fld, fldS, setF, fldOf, putNs, putXs, lc, lcL, wipeS, backS, yes, mkI, PySem.sizeLine, h]
    have t2 : (tb (DL.bin opNe (DL.bin opIx (nm 6) (cst (.int 0))) (cst (.str "letter")))) [s0, Hand L n, s2, s3, .d (.int p), .d (.int a), .d (.lst [.str "letter", .int b]), s7, s8] = .ok false [s0, Hand L n, s2, s3, .d (.int p), .d (.int a), .d (.lst [.str "letter", .int b]), s7, s8] := by kernel_rfl
    have t3 : (tr (DL.call F__law_like [] (aD (DL.bin opIx (nm 6) (cst (.int 1))) (aD (DL.call F__law_inverse [] (aD (nm 5) (aD (nm 4) (aNil)))) (aNil))))) [s0, Hand L n, s2, s3, .d (.int p), .d (.int a), .d (.lst [.str "letter", .int b]), s7, s8] = .ok true [s0, Hand L n, s2, s3, .d (.int p), .d (.int a), .d (.lst [.str "letter", .int b]), s7, s8] := by simp [seqS, ifS, asg, asgM, asg2, DL.ret, retM, retN, drp, nxt, brk, DL.cnt, retS, appM, setM, Out.then, Out.bind, ofO, nm, cst, nmF, nmP, pk, pkM, frz, DL.bin, binA, un, unP, tb, tr, trP, tand, tor, tnot, eand, eor, enot, eif, opAdd, opAddA, Rz.d, opSub, opMul, opDivA, opDiv, opMod, opPow, opLt, opLe, opGt, opGe, opIsN, opNotN, isNon, opNeg, opIx, ixM, L2.atI, L2.ixN, aNil, aD, aM, isM, dvs, mkTup, mkLst, DL.call, callM, appF, avSl, mvs, putBack, mkFn, outs, List.range_succ, opAbs, opInt, opBool, opLenA, opLen, opT, isiB, isiO, D.ty, D.tru, toLst, tupD, tupP, toTup, forS, loop, bN, bT, bCons, bNil, itD, itT, itR1, itR2, raiseE, avD, tryS, clauses, suL, suF, suT, suR, xvals, xval, fld, fldS, setF, fldOf, putNs, putXs, lc, lcL, wipeS, backS, yes, mkI, PySem.sizeLine, e2, like_ev]
    have t4 : (tor (tb (DL.bin opNe (DL.bin opIx (nm 6) (cst (.int 0))) (cst (.str "letter")))) (tnot (tr (DL.call F__law_like [] (aD (DL.bin opIx (nm 6) (cst (.int 1))) (aD (DL.call F__law_inverse [] (aD (nm 5) (aD (nm 4) (aNil)))) (aNil))))))) [s0, Hand L n, s2, s3, .d (.int p), .d (.int a), .d (.lst [.str "letter", .int b]), s7, s8] = .ok false [s0, Hand L n, s2, s3, .d (.int p), .d (.int a), .d (.lst [.str "letter", .int b]), s7, s8] := by
      simp only [tor, tnot, Out.bind, t2, t3]
      rfl
    exact (ifS_f t1).trans ((ifS_f t4).trans rfl)
theorem cr_ev {i j k : Nat} {x y z : D} {ρ : List Sl} (hi : ρ[i]? = some (.d x)) (hj : ρ[j]? = some (.d y)) (hk : ρ[k]? = some (.d z)) (e : F__law_refuses [.d x, .d y, .d z] = .rt (.bl true) [.no, .no, .no]) : DL.call F__law_refuses [] (aD (nm i) (aD (nm j) (aD (nm k) (aNil)))) ρ = .ok (.bl true) ρ := by simp [seqS, ifS, asg, asgM, asg2, DL.ret, retM, retN, drp, nxt, brk, DL.cnt, retS, appM, setM, Out.then, Out.bind, ofO, nm, cst, nmF, nmP, pk, pkM, frz, DL.bin, binA, un, unP, tb, tr, trP, tand, tor, tnot, eand, eor, enot, eif, opAdd, opAddA, Rz.d, opSub, opMul, opDivA, opDiv, opMod, opPow, opLt, opLe, opGt, opGe, opIsN, opNotN, isNon, opNeg, opIx, ixM, L2.atI, L2.ixN, aNil, aD, aM, isM, dvs, mkTup, mkLst, DL.call, callM, appF, avSl, mvs, putBack, mkFn, outs, List.range_succ, opAbs, opInt, opBool, opLenA, opLen, opT, isiB, isiO, D.ty, D.tru, toLst, tupD, tupP, toTup, forS, loop, bN, bT, bCons, bNil, itD, itT, itR1, itR2, raiseE, avD, tryS, clauses, suL, suF, suT, suR, xvals, xval, fld, fldS, setF, fldOf, putNs, putXs, lc, lcL, wipeS, backS, yes, mkI, PySem.sizeLine, hi, hj, hk, e]
end
theorem tr_bl {a : Ex D} {b : Bool} {ρ ρ1 : List Sl} (h : a ρ = .ok (.bl b) ρ1) : tr a ρ = .ok b ρ1 := by
  unfold tr Out.bind
  rw [h]
  rfl
theorem tnot_ok {a : Ex Bool} {b : Bool} {ρ ρ1 : List Sl} (h : a ρ = .ok b ρ1) : tnot a ρ = .ok (!b) ρ1 := by
  unfold tnot Out.bind
  rw [h]
theorem tor_ff {a b : Ex Bool} {ρ ρ1 ρ2 : List Sl} (h : a ρ = .ok false ρ1) (h2 : b ρ1 = .ok false ρ2) : tor a b ρ = .ok false ρ2 := by
  unfold tor Out.bind
  rw [h]
  exact h2
theorem okMul_bits {z : Int} (h : PySem.Builtin.Int.intBits z ≤ 1048576) : okMul z 48271 = true := by
  have h2 : PySem.Builtin.Int.intBits 48271 = 16 := by decide +kernel
  refine decide_eq_true (show ((PySem.Builtin.Int.intBits z : Int) + (PySem.Builtin.Int.intBits 48271 : Int) ≤ 134217728) from ?_)
  rw [h2]
  omega
theorem law_ev {ns : List Int} (hn : ns.length ≤ 63) (hb : ∀ z ∈ ns, okMul z 48271 = true) : ∃ os, F_law [Sc ns] = .rt (.bl true) os := by
  obtain ⟨L, eL⟩ := draws_ev hn hb
  obtain ⟨m, t2, t3, e1⟩ := seen_ev (s0 := Sc ns) (s2 := .no) (s3 := .no) (s4 := .no) (s5 := .no) (s6 := .no) (s7 := .no) (s8 := .no) L 0
  obtain ⟨p, m2, hp, e2⟩ := field_ev L m
  have hp0 : 0 < p := by
    have : ∀ q ∈ fields, 0 < q := by decide
    exact this p hp
  obtain ⟨a, a0, a1, e3⟩ := take_ev L m2 p hp0
  obtain ⟨f, e4, e5⟩ := found_ev (L := L) (n := m2 + 1) (s0 := Sc ns) (s2 := t2) (s3 := t3) (s7 := .no) (s8 := .no) hp a0 a1
  obtain ⟨r, r0, r1, e6⟩ := take_ev L (m2 + 1) 10 (by decide)
  obtain ⟨w, hw, e7⟩ : ∃ w, w ∈ wrongs p ∧ opIx (.lst (wrongs p)) (.int r) = some w := by
    have hl : (wrongs p).length = 10 := rfl
    have hr : r.toNat < (wrongs p).length := by omega
    refine ⟨(wrongs p)[r.toNat], List.getElem_mem hr, ?_⟩
    show L2.atI (wrongs p) r = _
    unfold L2.atI L2.ixN
    rw [if_pos r0, if_pos (by omega)]
    exact List.getElem?_eq_getElem hr
  obtain ⟨d, m3, e8, gd, hd⟩ := nofield_ev L (m2 + 2)
  have s1 : asgM [] 1 (mkLst (aD (DL.call F__law_draws [] (aD (nm 0) (aD (cst (.int 120)) (aNil)))) (aD (cst (.int 0)) (aNil)))) [Sc ns, .no, .no, .no, .no, .no, .no, .no, .no] = .nx [Sc ns, Hand L 0, .no, .no, .no, .no, .no, .no, .no] := by
    have q : DL.call F__law_draws [] (aD (nm 0) (aD (cst (.int 120)) (aNil))) [Sc ns, .no, .no, .no, .no, .no, .no, .no, .no] = .ok (.lst (L.map D.int)) [Sc ns, .no, .no, .no, .no, .no, .no, .no, .no] := by simp [seqS, ifS, asg, asgM, asg2, DL.ret, retM, retN, drp, nxt, brk, DL.cnt, retS, appM, setM, Out.then, Out.bind, ofO, nm, cst, nmF, nmP, pk, pkM, frz, DL.bin, binA, un, unP, tb, tr, trP, tand, tor, tnot, eand, eor, enot, eif, opAdd, opAddA, Rz.d, opSub, opMul, opDivA, opDiv, opMod, opPow, opLt, opLe, opGt, opGe, opIsN, opNotN, isNon, opNeg, opIx, ixM, L2.atI, L2.ixN, aNil, aD, aM, isM, dvs, mkTup, mkLst, DL.call, callM, appF, avSl, mvs, putBack, mkFn, outs, List.range_succ, opAbs, opInt, opBool, opLenA, opLen, opT, isiB, isiO, D.ty, D.tru, toLst, tupD, tupP, toTup, forS, loop, bN, bT, bCons, bNil, itD, itT, itR1, itR2, raiseE, avD, tryS, clauses, suL, suF, suT, suR, xvals, xval, fld, fldS, setF, fldOf, putNs, putXs, lc, lcL, wipeS, backS, yes, mkI, PySem.sizeLine, eL]
    exact (asgM_ok (mkLst_ok (as := [.dv (.lst (L.map D.int)), .dv (.int 0)]) (aD_ok q (b := aD (cst (.int 0)) aNil) rfl) rfl (by show 2 ≤ 2 ^ 24; decide)) (by decide)).trans rfl
  have s4 : asg [] 4 (DL.call F__law_field [] (aM 1 aNil)) [Sc ns, Hand L m, t2, t3, .no, .no, .no, .no, .no] = .nx [Sc ns, Hand L m2, t2, t3, .d (.int p), .no, .no, .no, .no] := (asg_ok (c0 e2) (by decide)).trans rfl
  have s5 : asg [] 5 (DL.call F__law_take [] (aM 1 (aD (nm 4) aNil))) [Sc ns, Hand L m2, t2, t3, .d (.int p), .no, .no, .no, .no] = .nx [Sc ns, Hand L (m2 + 1), t2, t3, .d (.int p), .d (.int a), .no, .no, .no] := (asg_ok (c4 e3) (by decide)).trans rfl
  have s6 : asg [] 6 (DL.call F__law_told [] (aD (nm 4) (aD (nm 5) aNil))) [Sc ns, Hand L (m2 + 1), t2, t3, .d (.int p), .d (.int a), .no, .no, .no] = .nx [Sc ns, Hand L (m2 + 1), t2, t3, .d (.int p), .d (.int a), .d f, .no, .no] := by simp [seqS, ifS, asg, asgM, asg2, DL.ret, retM, retN, drp, nxt, brk, DL.cnt, retS, appM, setM, Out.then, Out.bind, ofO, nm, cst, nmF, nmP, pk, pkM, frz, DL.bin, binA, un, unP, tb, tr, trP, tand, tor, tnot, eand, eor, enot, eif, opAdd, opAddA, Rz.d, opSub, opMul, opDivA, opDiv, opMod, opPow, opLt, opLe, opGt, opGe, opIsN, opNotN, isNon, opNeg, opIx, ixM, L2.atI, L2.ixN, aNil, aD, aM, isM, dvs, mkTup, mkLst, DL.call, callM, appF, avSl, mvs, putBack, mkFn, outs, List.range_succ, opAbs, opInt, opBool, opLenA, opLen, opT, isiB, isiO, D.ty, D.tru, toLst, tupD, tupP, toTup, forS, loop, bN, bT, bCons, bNil, itD, itT, itR1, itR2, raiseE, avD, tryS, clauses, suL, suF, suT, suR, xvals, xval, fld, fldS, setF, fldOf, putNs, putXs, lc, lcL, wipeS, backS, yes, mkI, PySem.sizeLine, e4]
  have s7 := asg_ok (B := []) (i := 7) (bin_ok (wrong_ev (L := L) (n := m2 + 1) (s0 := Sc ns) (s2 := t2) (s3 := t3) (s5 := .d (.int a)) (s6 := .d f) (s7 := .no) (s8 := .no) p) (c1 e6) e7) (by decide)
  have s8 : asg [] 8 (DL.call F__law_no_field [] (aM 1 aNil)) [Sc ns, Hand L (m2 + 2), t2, t3, .d (.int p), .d (.int a), .d f, .d w, .no] = .nx [Sc ns, Hand L m3, t2, t3, .d (.int p), .d (.int a), .d f, .d w, .d d] := (asg_ok (c0 e8) (by decide)).trans rfl
  have c9 := cr_ev (i := 4) (j := 7) (k := 7) (ρ := [Sc ns, Hand L m3, t2, t3, .d (.int p), .d (.int a), .d f, .d w, .d d]) rfl rfl rfl (refuse_letter hp hw)
  have c10 := cr_ev (i := 8) (j := 7) (k := 8) (ρ := [Sc ns, Hand L m3, t2, t3, .d (.int p), .d (.int a), .d f, .d w, .d d]) rfl rfl rfl (refuse_nf (w := w) gd hd)
  have c11 := cr_ev (i := 8) (j := 5) (k := 8) (ρ := [Sc ns, Hand L m3, t2, t3, .d (.int p), .d (.int a), .d f, .d w, .d d]) rfl rfl rfl (refuse_nf (w := .int a) gd hd)
  have t9 : (tor (tnot (tr (DL.call F__law_refuses [] (aD (nm 4) (aD (nm 7) (aD (nm 7) (aNil))))))) (tnot (tr (DL.call F__law_refuses [] (aD (nm 8) (aD (nm 7) (aD (nm 8) (aNil)))))))) [Sc ns, Hand L m3, t2, t3, .d (.int p), .d (.int a), .d f, .d w, .d d] = .ok false [Sc ns, Hand L m3, t2, t3, .d (.int p), .d (.int a), .d f, .d w, .d d] := by
    exact tor_ff (tnot_ok (tr_bl c9)) (tnot_ok (tr_bl c10))
  refine ⟨outs [] 1 [Sc ns, Hand L m3, t2, t3, .d (.int p), .d (.int a), .d f, .d w, .d d], ?_⟩
  unfold F_law
  refine mkFn_rt (B := []) rfl rfl (ρ := [Sc ns, Hand L m3, t2, t3, .d (.int p), .d (.int a), .d f, .d w, .d d]) ?_
  refine (seqS_nx s1).trans ((seqS_nx e1).trans ((seqS_nx s4).trans ((seqS_nx s5).trans ((seqS_nx s6).trans ((seqS_nx e5).trans ((seqS_nx s7).trans ((seqS_nx s8).trans ((seqS_nx ((ifS_f t9).trans rfl)).trans ?_))))))))
  exact ret_ok c11
end Pl
end

section
set_option Elab.async false
set_option linter.all false
set_option maxRecDepth 100000
set_option maxHeartbeats 0
open PySem PySem.W PySem.Calls PyProof.Rows
theorem PySem.Challenge.cw_wishunseen_k03_fields_and_inverses_holds : PySem.Challenge.rw_wishunseen_k03_fields_and_inverses.Holds := by
  w_on; o_law
  refine HandSHeadRun.head_any (r := OpenLaw.row PySem.Challenge.rw_wishunseen_k03_fields_and_inverses) (q := view (OpenLaw.row PySem.Challenge.rw_wishunseen_k03_fields_and_inverses).prog [29]) (H := Hd.hk) (ob := Hd.ob) (M := 20000) (loose := Hd.loose) (d := HandSHeadRun.topDef (OpenLaw.row PySem.Challenge.rw_wishunseen_k03_fields_and_inverses).prog 29) (kwd := []) Hd.ob_eq
    (by kernel_rfl) (fun s => by kernel_rfl) Hd.run (by kernel_rfl) (by kernel_rfl) (by kernel_rfl) (by rfl) (by first | assumption | decide +kernel) (by decide +kernel) ⟨rfl, rfl, rfl, rfl, rfl, by decide +kernel⟩ ?hw ?hc
  case hw => w_witness2
  case hc =>
    refine DLH.walk_q (l := PySem.Challenge.rw_wishunseen_k03_fields_and_inverses) (n := 63) (k := 27) (x := "_law_script") rfl (by decide) (by kernel_rfl) ⟨rfl, by decide, by decide⟩ ?F
    intro w mg fa h Y G hmg0
    obtain ⟨K, KX, c⟩ := Y
    have hmg : mg ("law" : PySem.Str) = some (.ref fa) := by
      have e : (HandSHeadRun.topDef (OpenLaw.row PySem.Challenge.rw_wishunseen_k03_fields_and_inverses).prog 29).name = ("law" : PySem.Str) := by kernel_rfl
      rw [← e]
      exact hmg0
    have C := Hd.fc_of (P := (PySem.Challenge.rw_wishunseen_k03_fields_and_inverses).prog) rfl KX G c
    have e := hmg.symm.trans C.g_law
    cases e
    have b := C.fd_law.bindsA (ps := ["_law_script"]) fun _ _ _ _ _ _ us hl => match us, hl with | [_], _ => rfl
    refine ⟨K, DLH.fdAt K Hd.d_law.at_ Hd.d0, DL.spM K Mi.F_law, KX, fun s v => b s [v] rfl, fun H a ns hl hbits hS => ?_, fun base _ _ => Wk.ok_law C⟩
    obtain ⟨os, e⟩ := Pl.law_ev hl fun z hz => Pl.okMul_bits (hbits z hz)
    exact DLH.law_sp e hS
end
